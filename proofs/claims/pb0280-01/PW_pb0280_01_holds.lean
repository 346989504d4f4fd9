import PyProof.Rows.All
import Wide.All
import OpenK.AllK
import KE.KLam
import Wide.FinOn
import KE.BytesMake
import PyProof.TableCode
import Lean
import PySem.Challenge.RW_pb0280_01
set_option Elab.async false
set_option linter.all false
set_option tactic.hygienic false
set_option maxRecDepth 100000
set_option maxHeartbeats 8000000
set_option exponentiation.threshold 8000
set_option genInjectivity false
set_option genCtorIdx false
set_option genSizeOf false
set_option bootstrap.genMatcherCode false
namespace Mine
open PySem.Str renaming ofString → Aa
open Option.some renaming inj → Ab
open Nat renaming le_of_ble_eq_true → Ac
open Nat renaming le_trans → Ad
open List renaming mem_singleton → Ae
open List renaming mem_cons → Ag
open List renaming getElem?_eq_some_iff → Ah
open List renaming length_append → Ai
open List renaming append_nil → Aj
open List renaming append_assoc → Ak
open List renaming length_map → Am
open List renaming replicate → Ao
open Nat renaming ble → Ap
open Option renaming bind_eq_some_iff → Aq
open List renaming getElem?_eq_getElem → Ar
open Nat renaming le_of_eq → Au
open Nat renaming le_refl → Av
open List renaming suffix_cons → Aw
open Nat renaming lt_of_le_of_lt → Ay
open List renaming getElem?_append_right → Az
open List renaming suffix_refl → A0
open Nat renaming le_add_right → A4
open List renaming getElem?_append_left → A5
open Nat renaming ble_eq → A6
open Nat renaming add_le_add_right → A7
open Nat renaming add_le_add_left → A8
open Option renaming map_eq_some_iff → A9
open Option renaming isSome_iff_exists → Ba
open Nat renaming lt_of_lt_of_le → Bb
open List renaming mem_map → Bc
open Int renaming ofNat_le → Be
open List renaming length_cons → Bf
open List renaming length_take → Bg
open PySem renaming wpAny_bind → Bh
open PySem renaming wpAny_pure → Bi
open PySem renaming wpAny_holding → Bj
open PySem renaming Shared → Bk
open PySem renaming DictEntry → Bl
open PySem renaming Around → Bm
open PySem.Heap renaming get?_push_of_some → Bo
open PySem.Heap renaming get?_push_size → Bp
open PySem renaming Value → Bq
open PySem
set_option genCtorIdx true in
inductive MV where
 | none
 | bool (b:Bool)
 | int (i:Int)
 | str (s:Str)
 | bytes (b:Array UInt8)
 | tup (l:List MV)
 | lis (l:List MV)
 | tok (k w:Str) (n:Int)
 | val (v:Bq)
 | figs
 | clo (d:Int)
 deriving Inhabited
set_option genInjectivity true in
set_option genCtorIdx false in
inductive RV where
 | v (m:MV)
 | loc (r:Nat)
 | un
 deriving Inhabited
noncomputable def RV.ctorIdx (x:RV):Nat:=x.casesOn (fun Z=>0) (fun Z=>1) 2
inductive MO where
 | list (l:List MV)
 | dict (l:List (Str×MV))
 | pen (n c:Int)
 | rdr (toks:List MV) (at_:Int)
 deriving Inhabited
noncomputable abbrev Bu:=List MO
inductive Ir where
 | var (k:Nat)
 | tup (l:List Ir)
 deriving Inhabited
inductive ME where
 | const (c:MV)
 | var (k:Nat)
 | glob (x:Str) (c:MV)
 | attr (o:ME) (n:Str)
 | call (f:ME) (args:List ME)
 | meth (o:ME) (n:Str) (args:List ME)
 | bin (op:Operator) (l r:ME)
 | cmp (op:CmpOp) (l r:ME)
 | and (l:List ME)
 | or (l:List ME)
 | not (e:ME)
 | neg (e:ME)
 | ite (c a b:ME)
 | tup (l:List ME)
 | lis (l:List ME)
 | mlis (l:List ME)
 | mpen (a b:ME)
 | mdict (l:List Str)
 | sub (o i:ME)
 | cut (o:ME) (lo hi:Option ME)
 | compR (n:ME) (elt:ME) (cap:List Nat)
 | compL (e:ME) (cond:Option ME) (elt:ME) (cap:List Nat)
 | compE (e:ME) (elt:ME)
 | lam (k:Nat)
 deriving Inhabited
inductive MS where
 | assign (p:Ir) (e:ME)
 | assignT (ks:List Nat) (es:List ME)
 | setAt (o e:ME)
 | setItem (o i e:ME)
 | expr (e:ME)
 | ite (c:ME) (a b:List MS)
 | while (c:ME) (b:List MS)
 | forIn (p:Ir) (e:ME) (b:List MS)
 | forR (k:Nat) (lo:Option ME) (hi:ME) (b:List MS)
 | ret (e:ME)
 | fault (o e:ME)
 | brk
 | dead
 deriving Inhabited
set_option genInjectivity true in
set_option genCtorIdx false in
inductive B1 (α:Type) where
 | ok (a:α) (σ:Bu)
 | exc (n:Int) (σ:Bu)
 | no
noncomputable def B1.ctorIdx {α:Type} (x:B1 α):Nat:=x.casesOn (fun Z Z=>0) (fun Z Z=>1) 2
inductive Di where
 | next | brk
 | ret (r:RV)
structure Bv where
 np:Nat
 dfl:List MV
 nl:Nat
 body:List MS
noncomputable def B1.bind {α β:Type}:B1 α→(α→Bu→B1 β)→B1 β
 | .ok a σ,f=>f a σ
 | .exc n σ,_=>.exc n σ
 | .no,_=>.no
noncomputable def Ep {α:Type} (σ:Bu):Option α→B1 α
 | some a=>.ok a σ
 | Option.none=>.no
noncomputable abbrev Cf:Nat:=1048576
noncomputable def K5:List Nat→List Nat→Bool
 | [],_=>true
 | _::_,[]=>false
 | a::x,b::y=>Nat.beq a b&&K5 x y
noncomputable def bP (y:List Nat):List Nat→Bool
 | []=>K5 y []
 | a::x=>K5 y (a::x)||bP y x
noncomputable def gI (y x:Str):Bool:=bP y.cps.toList x.cps.toList
noncomputable def G4 (c:Nat):List Nat→List Nat→List (List Nat)
 | acc,[]=>[acc.reverse]
 | acc,a::x=>if Nat.beq a c then acc.reverse::G4 c [] x else G4 c (a::acc) x
noncomputable def Hb (x:Str) (c:Nat):List Str:=(G4 c [] x.cps.toList).map fun l=>⟨l.toArray⟩
noncomputable def Ci (x:Str):Nat:=x.cps.toList.length
noncomputable def Gj (x y:Str):Str:=⟨(x.cps.toList++y.cps.toList).toArray⟩
noncomputable def Sj (x:Str) (i:Nat):Str:=⟨(x.cps.toList.drop i).toArray⟩
noncomputable def pY (x:Str) (i:Nat):Str:=⟨(x.cps.toList.take i).toArray⟩
noncomputable def Fq (x:Str):List Str:=x.cps.toList.map fun c=>⟨#[c]⟩
noncomputable def Je (l:List Str):Str:=⟨(l.flatMap fun x=>x.cps.toList).toArray⟩
noncomputable def BR (c:Nat):List Nat→Option Nat
 | []=>none
 | a::x=>if Nat.beq a c then some 0 else(BR c x).map (· +1)
noncomputable def Cb (x y:Str):Bool:=x.cps.toList==y.cps.toList
noncomputable def NO:Nat→Str:=fun n=>⟨#[48+n]⟩
noncomputable def BJ (f:MV→MV→Option Bool):List MV→List MV→Option Bool
 | a::x,b::y=>match f a b,BJ f x y with
  | some p,some q=>some (p&&q)
  | _,_=>none
 | _,_=>some true
noncomputable def E9:Nat→MV→MV→Option Bool
 | 0,_,_=>none
 | _+1,.none,.none=>some true
 | _+1,.bool a,.bool b=>some (a==b)
 | _+1,.int a,.int b=>some (decide (a=b))
 | _+1,.str a,.str b=>some (Cb a b)
 | _+1,.bytes a,.bytes b=>some (a.toList==b.toList)
 | n+1,.tup a,.tup b=>(BJ (E9 n) a b).map fun t=>t&&a.length==b.length
 | n+1,.lis a,.lis b=>if a.length=b.length then BJ (E9 n) a b else some false
 | _+1,_,_=>none
noncomputable abbrev Ze:MV→MV→Option Bool:=E9 60
noncomputable def Dn:RV→Option Bool
 | .v (.bool b)=>some b
 | .v (.lis l)=>if l.length≤Cf then some (!l.isEmpty) else none
 | _=>none
noncomputable def Dy (σ:Bu):RV→Option (List MV)
 | .v (.lis l)=>some l
 | .v (.tup l)=>some l
 | .loc r=>match σ[r]? with
  | some (.list l)=>some l
  | _=>none
 | _=>none
noncomputable def Jb (σ:Bu):RV→Option (List MV)
 | .v (.str s)=>if Ci s≤Cf then some ((Fq s).map .str) else none
 | .v (.lis l)=>some l
 | .v (.tup l)=>some l
 | _=>none
mutual
noncomputable def Sf:ME→Bool
 | .const _=>true
 | .var _=>true
 | .tup l=>Z3 l
 | _=>false
noncomputable def Z3:List ME→Bool
 | []=>true
 | e::es=>Sf e&&Z3 es
end
noncomputable def jL:RV→Bool
 | .v _=>true
 | _=>false
noncomputable def FJ:MO→Option (List MV)
 | .list l=>some l
 | _=>none
noncomputable def cH:RV→Option (List MV)
 | .v (.lis l)=>some l
 | _=>none
noncomputable def BW (σ:Bu) (r:RV) (cond:Option ME) (elt:ME) (c:List RV):Option (List MV):=match r with
 | .loc q=>(σ[q]?.bind FJ).bind fun l=>if cond.isNone&&(Sf elt&&c.all jL) then some l else none
 | r=>Jb σ r
noncomputable def asV:RV→Option MV
 | .v m=>some m
 | _=>none
noncomputable def Hi:RV→Option Int
 | .v (.int i)=>some i
 | _=>none
noncomputable def Oj:RV→Option Str
 | .v (.str s)=>some s
 | _=>none
noncomputable def Kr:List MV→Option (List Str)
 | []=>some []
 | .str s::r=>(Kr r).map (s:: ·)
 | _=>none
noncomputable def Pw:List MV→Option (List Int)
 | []=>some []
 | .int i::r=>(Pw r).map (i:: ·)
 | _=>none
noncomputable def Xa:List MV→Option (List UInt8)
 | []=>some []
 | .int i::r=>if 0≤i∧i < 256 then(Xa r).map (UInt8.ofNat i.toNat:: ·) else none
 | _=>none
noncomputable def Df (n:Nat):Option Unit:=if n≤Cf then some () else none
noncomputable def okInt (i:Int):Option Unit:=if i.natAbs < 10^2000 then some () else none
noncomputable def D5:List (Str×Str):=[("ZERO","ZERO"),("ZEROS","ZERO"),("ZEROES","ZERO"),("SPACE","SPACE"),("SPACES","SPACE"),("HIGH-VALUE","HIGH"),("HIGH-VALUES","HIGH"),("LOW-VALUE","LOW"),("LOW-VALUES","LOW"),("QUOTE","QUOTE"),("QUOTES","QUOTE")]
noncomputable def E6 (s:Str):Option Str:=(D5.find? fun p=>Cb p.1 s).map (·.2)
section
variable {α:Type}
noncomputable def wV (r:RV) (f:MV→Option α):Option α:=match r with
 | .v m=>f m
 | _=>none
noncomputable def wI (m:MV) (f:Int→Option α):Option α:=match m with
 | .int i=>f i
 | _=>none
noncomputable def wS (m:MV) (f:Str→Option α):Option α:=match m with
 | .str i=>f i
 | _=>none
noncomputable def wL (m:MV) (f:List MV→Option α):Option α:=match m with
 | .lis i=>f i
 | _=>none
noncomputable def wO (σ:Bu) (r:Nat) (f:MO→Option α):Option α:=match σ[r]? with
 | some o=>f o
 | none=>none
end
noncomputable def ZQ (a b:MV):Option MV:=match a with
 | .int i=>wI b fun j=>some (.int (i+j))
 | .str s=>wS b fun t=>(Df (Ci (Gj s t))).map fun Z=>.str (Gj s t)
 | .lis l=>wL b fun m=>(Df (l++m).length).map fun Z=>.lis (l++m)
 | _=>none
noncomputable def sD (a b:MV):Option MV:=wI b fun n=>match a with
 | .int i=>if i.natAbs < 2^6700∧n.natAbs < 2^6700 then some (.int (i*n)) else none
 | .lis l=>if 0 < n∧n≤16∧l.length≤Cf then(Df ((Ao n.toNat l).flatten).length).map fun Z=>.lis (Ao n.toNat l).flatten else none
 | .tup l=>if 0 < n∧n≤16∧l.length≤Cf∧l.length≠0 then(Df ((Ao n.toNat l).flatten).length).map fun Z=>.tup (Ao n.toNat l).flatten else none
 | _=>none
noncomputable def QN (op:Operator) (x y:MV):Option MV:=match op with
 | .Add=>ZQ x y
 | .Mult=>sD x y
 | .Sub=>wI x fun a=>wI y fun b=>some (.int (a - b))
 | .FloorDiv=>wI x fun a=>wI y fun b=>if 0 < b∧0≤a∧b < 1073741824 then some (.int (a / b)) else none
 | .Mod=>wI x fun a=>wI y fun b=>if 0 < b∧0≤a then some (.int (a % b)) else none
 | .Pow=>wI x fun a=>wI y fun b=>if 0≤a∧0≤b∧b≤64∧a.natAbs < 2^64 then some (.int (a^b.toNat)) else none
 | _=>none
noncomputable def Kd (op:Operator) (l r:RV):Option MV:=wV l fun a=>wV r fun b=>QN op a b
noncomputable def rV (x y:MV):Option Bool:=match y with
 | .str s=>wS x fun y=>some (gI y s)
 | .tup l=>match x with
  | .str y=>(Kr l).map fun ss=>ss.any fun t=>Cb t y
  | .int i=>(Pw l).map fun is=>is.any fun j=>decide (j=i)
  | _=>none
 | .figs=>wS x fun y=>some (E6 y).isSome
 | _=>none
noncomputable def Y5:MV→Option Bool
 | .none=>some true
 | .val _=>none
 | _=>some false
noncomputable def bQ (b:MV) (x:Option Bool):Option Bool:=match b with
 | .none=>x
 | _=>none
noncomputable def lD (op:CmpOp) (x y:MV):Option Bool:=match op with
 | .Lt=>wI x fun a=>wI y fun b=>some (decide (a < b))
 | .LtE=>wI x fun a=>wI y fun b=>some (decide (a≤b))
 | .Gt=>wI x fun a=>wI y fun b=>some (decide (a > b))
 | .GtE=>wI x fun a=>wI y fun b=>some (decide (a≥b))
 | .Is=>bQ y (Y5 x)
 | .IsNot=>bQ y ((Y5 x).map (!·))
 | .Eq=>Ze x y
 | .NotEq=>(Ze x y).map (!·)
 | .In=>rV x y
 | .NotIn=>(rV x y).map (!·)
noncomputable def Yp (σ:Bu) (a:Nat):List MV→Option Bool
 | []=>wO σ a fun o=>match o with
  | .list l=>some l.isEmpty
  | _=>none
 | _=>none
noncomputable def IA (σ:Bu) (op:CmpOp) (a:Nat) (y:MV):Option Bool:=match op with
 | .Eq=>wL y (Yp σ a)
 | _=>none
noncomputable def ER (σ:Bu) (op:CmpOp) (l r:RV):Option Bool:=wV r fun y=>match l with
 | .v x=>lD op x y
 | .loc a=>IA σ op a y
 | .un=>none
noncomputable def nth (l:List MV) (i:Int):Option MV:=if 0≤i then l[i.toNat]? else none
noncomputable def jJ (l:List MV) (k:MV):Option MV:=wI k fun i=>if l.length≤Cf then nth l i else none
noncomputable def oP (m k:MV):Option MV:=match m with
 | .tup l=>jJ l k
 | .lis l=>jJ l k
 | .str s=>wI k fun i=>if 0≤i∧Ci s≤Cf then(s.cps.toList[i.toNat]?).map fun c=>.str ⟨#[c]⟩ else none
 | .figs=>wS k fun s=>(E6 s).map .str
 | _=>none
noncomputable def OU (o:MO) (k:MV):Option MV:=match o with
 | .list l=>jJ l k
 | .pen n c=>wI k fun i=>if i=0 then some (.int n) else if i=1 then some (.int c) else none
 | .dict d=>wS k fun s=>(d.find? fun p=>Cb p.1 s).map (·.2)
 | .rdr .. =>none
noncomputable def Jz (σ:Bu) (o i:RV):Option MV:=wV i fun k=>match o with
 | .v m=>oP m k
 | .loc r=>wO σ r fun o=>OU o k
 | .un=>none
noncomputable def lH (m:MV) (a:RV):Option MV:=wV a fun a=>wI a fun i=>wS m fun s=>if 0≤i∧Ci s≤Cf then some (.str (Sj s i.toNat)) else none
noncomputable def lJ (m:MV) (i:Int):Option MV:=match m with
 | .str s=>if 0≤i∧Ci s≤Cf then some (.str (pY s i.toNat)) else none
 | .lis l=>if 0≤i∧l.length≤Cf then some (.lis (l.take i.toNat)) else none
 | _=>none
noncomputable def lI (m:MV) (b:RV):Option MV:=wV b fun b=>wI b (lJ m)
noncomputable def aB (o:RV) (lo hi:Option RV):Option MV:=wV o fun m=>match lo,hi with
 | some a,none=>lH m a
 | none,some b=>lI m b
 | _,_=>none
noncomputable def WO (m:MV) (n:Str):Option MV:=match m with
 | .tok k w a=>if Cb n "kind" then some (.str k) else if Cb n "worth" then some (.str w) else if Cb n "at" then some (.tup [.int a,.int 12]) else none
 | _=>none
noncomputable def Vl (o:MO) (n:Str):Option MV:=match o with
 | .rdr ts a=>if Cb n "at" then some (.int a) else if Cb n "tokens" then some (.lis ts) else none
 | _=>none
noncomputable def Ol (σ:Bu) (o:RV) (n:Str):Option MV:=match o with
 | .v m=>WO m n
 | .loc r=>wO σ r fun o=>Vl o n
 | .un=>none
noncomputable def UE {α β:Type} (l:List α) (f:α→Option β):Option β:=match l with
 | [c]=>f c
 | _=>none
noncomputable def OD (s y:Str):Option MV:=UE y.cps.toList fun c=>if Ci s≤Cf then(Df (Hb s c).length).map fun Z=>.lis ((Hb s c).map .str) else none
noncomputable def JU (s y:Str):Option MV:=UE y.cps.toList fun c=>(BR c s.cps.toList).map fun(i:Nat)=>.int (i:Int)
noncomputable def BZ (s:Str) (l:List MV):Option MV:=if s.cps.toList=[] then(Kr l).bind fun ss=>(Df (Ci (Je ss))).map fun Z=>.str (Je ss) else none
noncomputable def J8 (s n:Str) (y:MV):Option MV:=match y with
 | .str y=>if Cb n "startswith" then some (.bool (K5 y.cps.toList s.cps.toList)) else if Cb n "split" then OD s y else if Cb n "index" then JU s y else none
 | .lis l=>if Cb n "join" then BZ s l else none
 | _=>none
noncomputable def J2 (σ:Bu) (r:Nat) (l m:List MV):Option (RV×Bu):=(Df (l++m).length).map fun Z=>(.v .none,σ.set r (.list (l++m)))
noncomputable def JB (σ:Bu) (r:Nat) (l:List MV) (x:RV):Option (RV×Bu):=match x with
 | .v m=>wL m (J2 σ r l)
 | .loc q=>if q=r then none else wO σ q fun o=>match o with
  | .list m=>J2 σ r l m
  | _=>none
 | .un=>none
noncomputable def CI (σ:Bu) (r:Nat) (n:Str) (x:RV):Option (RV×Bu):=wO σ r fun o=>match o with
 | .list l=>if Cb n "append" then wV x fun m=>J2 σ r l [m] else if Cb n "extend" then JB σ r l x else none
 | _=>none
noncomputable def J7 (σ:Bu) (o:RV) (n:Str) (args:List RV):Option (RV×Bu):=match args with
 | [x]=>match o with
  | .v m=>wS m fun s=>wV x fun y=>(J8 s n y).map fun r=>(.v r,σ)
  | .loc r=>CI σ r n x
  | .un=>none
 | _=>none
noncomputable def Fc:List Str:=["peek","take","is_kind","is_sign","is_word","is_number","is_name","skip","skip_sign","need","need_sign","name","octets","signed","one_of"]
noncomputable def Ml (σ:Bu) (o:RV) (n:Str):Bool:=match o with
 | .v (.str _)=>Cb n "startswith"||Cb n "split"||Cb n "index"||Cb n "join"
 | .loc r=>match σ[r]? with
  | some (.list _)=>Cb n "append"||Cb n "extend"
  | some (.rdr _ _)=>Fc.any fun m=>Cb m n
  | _=>false
 | _=>false
noncomputable def P3 (σ:Bu):RV→Option Nat
 | .v (.str s)=>if Ci s≤Cf then some (Ci s) else none
 | .v (.bytes b)=>if b.toList.length≤Cf then some b.toList.length else none
 | r=>(Dy σ r).bind fun l=>if l.length≤Cf then some l.length else none
noncomputable def eX (s:Str):Option MV:=UE s.cps.toList fun c=>some (.int c)
noncomputable def AY (σ:Bu) (id:String) (a:RV):Option MV:=
 if id="len" then(P3 σ a).map fun(n:Nat)=>MV.int (n:Int)
 else if id="abs" then wV a fun a=>wI a fun i=>some (.int (if i < 0 then -i else i))
 else if id="ord" then wV a fun a=>wS a eX
 else none
noncomputable def mF (m:MV):Option MV:=match m with
 | .int i=>some (.int i)
 | .bool b=>some (.int (if b then 1 else 0))
 | _=>none
noncomputable def F8 (σ:Bu) (t:String) (a:RV):Option MV:=
 if t="int" then wV a mF
 else if t="str" then wV a fun a=>wI a fun i=>if 0≤i∧i < 10 then some (.str (NO i.toNat)) else none
 else if t="tuple" then(Dy σ a).bind fun l=>if l.length≤Cf then some (.tup l) else none
 else if t="bytes" then wV a fun a=>wL a fun l=>if l.length≤Cf then(Xa l).map fun b=>.bytes b.toArray else none
 else none
noncomputable def sC (id:String) (a b:RV):Option MV:=if id="min" then wV a fun a=>wI a fun i=>wV b fun b=>wI b fun j=>some (.int (if j < i then j else i)) else none
noncomputable def Om (σ:Bu) (f:Bq) (args:List RV):Option MV:=match args with
 | [a]=>match f with
  | .builtin id=>AY σ id a
  | .type t=>F8 σ t a
  | _=>none
 | [a,b]=>match f with
  | .builtin id=>sC id a b
  | _=>none
 | _=>none
noncomputable def Fu (l:List MV):Nat→List MV
 | n=>(l.zipIdx n).map fun x=>.tup [.int x.2,x.1]
noncomputable def F7 (ρ:List RV) (k:Nat) (r:RV):Option (List RV):=if k < ρ.length then some (ρ.set k r) else none
mutual
noncomputable def put:Ir→MV→List RV→Option (List RV)
 | .var k,m,ρ=>F7 ρ k (.v m)
 | .tup ps,.tup l,ρ=>FW ps l ρ
 | .tup _,_,_=>none
noncomputable def FW:List Ir→List MV→List RV→Option (List RV)
 | [],[],ρ=>some ρ
 | p::ps,m::ms,ρ=>match put p m ρ with
  | some ρ'=>FW ps ms ρ'
  | none=>none
 | _,_,_=>none
end
noncomputable abbrev Call:=MV→List RV→Bu→B1 RV
noncomputable def Hc (g:MV→Bu→B1 Bool) (f:MV→Bu→B1 RV):List MV→Bu→B1 (List MV)
 | [],σ=>.ok [] σ
 | m::ms,σ=>(g m σ).bind fun t σ=>match t with
  | false=>Hc g f ms σ
  | true=>(f m σ).bind fun r σ=>match r with
   | .v x=>(Hc g f ms σ).bind fun xs σ=>.ok (x::xs) σ
   | _=>.no
noncomputable def Zf {α:Type}:B1 α→B1 α
 | .exc _ _=>.no
 | o=>o
noncomputable def yes:MV→Bu→B1 Bool:=fun Z σ=>.ok true σ
noncomputable def C5 (lo:Int) (n:Nat):List MV:=(List.range n).map fun k=>MV.int (lo+(k:Nat))
noncomputable def Eh (ρ:List RV):List Nat→Option (List RV)
 | []=>some []
 | k::r=>match ρ[k]?,Eh ρ r with
  | some (.v m),some l=>some (.v m::l)
  | some (.loc q),some l=>some (.loc q::l)
  | _,_=>none
noncomputable def sM (l:List MV):Option (List MV):=Df l.length|>.map fun Z=>l
noncomputable def AZ (C:Call) (f:RV) (as:List RV) (σ:Bu):B1 RV:=match f with
 | .v (.val (.ref a))=>C (.val (.ref a)) as σ
 | .v (.val (.builtin g))=>Ep σ ((Om σ (.builtin g) as).map .v)
 | .v (.val (.type g))=>Ep σ ((Om σ (.type g) as).map .v)
 | .v (.clo d)=>C (.clo d) as σ
 | _=>.no
noncomputable def Gv (C:Call) (o:RV) (n:Str) (as:List RV) (σ:Bu):B1 RV:=match o with
 | .loc r=>match σ[r]? with
  | some (.rdr _ _)=>C (.str n) (o::as) σ
  | _=>match J7 σ o n as with
   | some (r,σ')=>.ok r σ'
   | none=>.no
 | o=>match J7 σ o n as with
  | some (r,σ')=>.ok r σ'
  | none=>.no
section
variable (C:Call)
mutual
noncomputable def C0:ME→List RV→Bu→B1 RV
 | .const c,_,σ=>.ok (.v c) σ
 | .var k,ρ,σ=>match ρ[k]? with
  | some (.v m)=>.ok (.v m) σ
  | some (.loc r)=>.ok (.loc r) σ
  | _=>.no
 | .glob _ c,_,σ=>.ok (.v c) σ
 | .attr o n,ρ,σ=>(C0 o ρ σ).bind fun o σ=>Ep σ ((Ol σ o n).map .v)
 | .call f args,ρ,σ=>(C0 f ρ σ).bind fun f σ=>(Tf args ρ σ).bind fun as σ=>AZ C f as σ
 | .meth o n args,ρ,σ=>(C0 o ρ σ).bind fun o σ=>if Ml σ o n=false then .no else(Tf args ρ σ).bind fun as σ=>Gv C o n as σ
 | .bin op l r,ρ,σ=>(C0 l ρ σ).bind fun a σ=>(C0 r ρ σ).bind fun b σ=>Ep σ ((Kd op a b).map .v)
 | .cmp op l r,ρ,σ=>(C0 l ρ σ).bind fun a σ=>(C0 r ρ σ).bind fun b σ=>Ep σ ((ER σ op a b).map fun t=>.v (.bool t))
 | .and l,ρ,σ=>EU l ρ σ
 | .or l,ρ,σ=>EV l ρ σ
 | .not e,ρ,σ=>(C0 e ρ σ).bind fun a σ=>Ep σ ((Dn a).map fun t=>.v (.bool !t))
 | .neg e,ρ,σ=>(C0 e ρ σ).bind fun a σ=>Ep σ ((Hi a).map fun i=>.v (.int (-i)))
 | .ite c a b,ρ,σ=>(C0 c ρ σ).bind fun t σ=>match Dn t with
  | some true=>C0 a ρ σ
  | some false=>C0 b ρ σ
  | none=>.no
 | .tup l,ρ,σ=>(Tg l ρ σ).bind fun as σ=>Ep σ ((Df as.length).map fun Z=>.v (.tup as))
 | .lis l,ρ,σ=>(Tg l ρ σ).bind fun as σ=>Ep σ ((Df as.length).map fun Z=>.v (.lis as))
 | .mlis l,ρ,σ=>(Tg l ρ σ).bind fun as σ=>match Df as.length with
  | some _=>.ok (.loc σ.length) (σ++[.list as])
  | none=>.no
 | .mpen a b,ρ,σ=>(C0 a ρ σ).bind fun a σ=>(C0 b ρ σ).bind fun b σ=>match a,b with
  | .v (.int n),.v (.int c)=>.ok (.loc σ.length) (σ++[.pen n c])
  | _,_=>.no
 | .mdict ks,_,σ=>.ok (.loc σ.length) (σ++[.dict (ks.map fun k=>(k,.none))])
 | .sub o i,ρ,σ=>(C0 o ρ σ).bind fun o σ=>(C0 i ρ σ).bind fun i σ=>Ep σ ((Jz σ o i).map .v)
 | .cut o lo hi,ρ,σ=>(C0 o ρ σ).bind fun o σ=>(pQ lo ρ σ).bind fun lo σ=>(pQ hi ρ σ).bind fun hi σ=>Ep σ ((aB o lo hi).map .v)
 | .compR n elt cap,ρ,σ=>(Eh ρ cap).elim .no fun c=>(C0 n ρ σ).bind fun n σ=>(Hi n).elim .no fun n=>
   if 0≤n∧n≤Cf then(Zf (Hc yes (fun m σ=>C0 elt (.v m::c) σ) (C5 0 n.toNat) σ)).bind fun l σ=>.ok (.v (.lis l)) σ else .no
 | .compL e cond elt cap,ρ,σ=>(Eh ρ cap).elim .no fun c=>(C0 e ρ σ).bind fun e σ=>(BW σ e cond elt c).elim .no fun l=>(Df l.length).elim .no fun Z=>
   (Zf (Hc (fun m σ=>PQ cond (.v m::c) σ) (fun m σ=>C0 elt (.v m::c) σ) l σ)).bind fun l σ=>.ok (.v (.lis l)) σ
 | .compE e elt,ρ,σ=>(C0 e ρ σ).bind fun e σ=>(cH e).elim .no fun l=>(Df l.length).elim .no fun Z=>
   (Zf (Hc yes (fun m σ=>(put (.tup [.var 0,.tup [.var 1,.var 2]]) m [.v .none,.v .none,.v .none]).elim .no fun ρ'=>C0 elt ρ' σ) (Fu l 0) σ)).bind fun l σ=>.ok (.v (.lis l)) σ
 | .lam k,ρ,σ=>(ρ[k]?).elim .no fun r=>(Hi r).elim .no fun d=>.ok (.v (.clo d)) σ
noncomputable def Tf:List ME→List RV→Bu→B1 (List RV)
 | [],_,σ=>.ok [] σ
 | e::es,ρ,σ=>(C0 e ρ σ).bind fun a σ=>(Tf es ρ σ).bind fun as σ=>.ok (a::as) σ
noncomputable def Tg:List ME→List RV→Bu→B1 (List MV)
 | [],_,σ=>.ok [] σ
 | e::es,ρ,σ=>(C0 e ρ σ).bind fun a σ=>(Tg es ρ σ).bind fun as σ=>match a with
  | .v m=>.ok (m::as) σ
  | _=>.no
noncomputable def EU:List ME→List RV→Bu→B1 RV
 | [],_,_=>.no
 | e::es,ρ,σ=>(C0 e ρ σ).bind fun a σ=>match es with
  | []=>.ok a σ
  | _::_=>match Dn a with
   | some true=>EU es ρ σ
   | some false=>.ok a σ
   | none=>.no
noncomputable def EV:List ME→List RV→Bu→B1 RV
 | [],_,_=>.no
 | e::es,ρ,σ=>(C0 e ρ σ).bind fun a σ=>match es with
  | []=>.ok a σ
  | _::_=>match Dn a with
   | some true=>.ok a σ
   | some false=>EV es ρ σ
   | none=>.no
noncomputable def PQ:Option ME→List RV→Bu→B1 Bool
 | Option.none,_,σ=>.ok true σ
 | some e,ρ,σ=>(C0 e ρ σ).bind fun a σ=>Ep σ (Dn a)
noncomputable def pQ:Option ME→List RV→Bu→B1 (Option RV)
 | Option.none,_,σ=>.ok Option.none σ
 | some e,ρ,σ=>(C0 e ρ σ).bind fun a σ=>.ok (some a) σ
end
noncomputable def I7 (pt:MV→List RV→Option (List RV)) (b:List RV→Bu→B1 (Di×List RV)):List MV→List RV→Bu→B1 (Di×List RV)
 | [],ρ,σ=>.ok (.next,ρ) σ
 | m::ms,ρ,σ=>match pt m ρ with
  | none=>.no
  | some ρ=>(b ρ σ).bind fun r σ=>match r with
   | (.next,ρ)=>I7 pt b ms ρ σ
   | (.brk,ρ)=>.ok (.next,ρ) σ
   | (.ret v,ρ)=>.ok (.ret v,ρ) σ
noncomputable def pE (c:List RV→Bu→B1 Bool) (b:List RV→Bu→B1 (Di×List RV)):Nat→List RV→Bu→B1 (Di×List RV)
 | 0,_,_=>.no
 | n+1,ρ,σ=>(c ρ σ).bind fun t σ=>match t with
  | false=>.ok (.next,ρ) σ
  | true=>(b ρ σ).bind fun r σ=>match r with
   | (.next,ρ)=>pE c b n ρ σ
   | (.brk,ρ)=>.ok (.next,ρ) σ
   | (.ret v,ρ)=>.ok (.ret v,ρ) σ
noncomputable def WH:Nat:=400
noncomputable def C9:List Nat→List RV→List RV→Option (List RV)
 | [],[],ρ=>some ρ
 | k::ks,r::rs,ρ=>match F7 ρ k r with
  | some ρ'=>C9 ks rs ρ'
  | none=>none
 | _,_,_=>none
noncomputable def noUn:RV→Bool
 | .un=>false
 | _=>true
noncomputable def gS (o:MO) (k m:MV):Option MO:=match o with
 | .pen n c=>wI k fun i=>wI m fun x=>if i=0 then some (.pen x c) else if i=1 then some (.pen n x) else none
 | .dict d=>wS k fun s=>if d.any (fun p=>Cb p.1 s)∧d.length≤16 then some (.dict (d.map fun p=>if Cb p.1 s then(p.1,m) else p)) else none
 | _=>none
noncomputable def G1 (σ:Bu) (o i e:RV):Option Bu:=match o with
 | .loc r=>wV i fun k=>wV e fun m=>wO σ r fun o=>(gS o k m).map fun o=>σ.set r o
 | _=>none
noncomputable def wR {α:Type} (o:MO) (f:List MV→Int→Option α):Option α:=match o with
 | .rdr ts a=>f ts a
 | _=>none
noncomputable def GL:MV→Option Int
 | .tok _ _ n=>some n
 | _=>none
noncomputable def E5 (σ:Bu):RV→Option Int
 | .loc r=>wO σ r fun o=>wR o fun ts a=>if 0≤a∧ts≠[]∧ts.length≤Cf then(ts[(min a (ts.length - 1)).toNat]?).bind GL else none
 | _=>none
mutual
noncomputable def XA:MS→List RV→Bu→B1 (Di×List RV)
 | .assign p e,ρ,σ=>(C0 C e ρ σ).bind fun a σ=>match p,a with
  | .var k,a=>Ep σ ((F7 ρ k a).map fun ρ=>(.next,ρ))
  | .tup ps,.v m=>Ep σ ((put (.tup ps) m ρ).map fun ρ=>(.next,ρ))
  | _,_=>.no
 | .assignT ks es,ρ,σ=>(Tf C es ρ σ).bind fun as σ=>Ep σ ((C9 ks as ρ).map fun ρ=>(.next,ρ))
 | .setAt o e,ρ,σ=>(C0 C e ρ σ).bind fun a σ=>(C0 C o ρ σ).bind fun o σ=>match o,a with
  | .loc r,.v (.int i)=>match σ[r]? with
   | some (.rdr ts _)=>.ok (.next,ρ) (σ.set r (.rdr ts i))
   | _=>.no
  | _,_=>.no
 | .setItem o i e,ρ,σ=>(C0 C e ρ σ).bind fun a σ=>(C0 C o ρ σ).bind fun o σ=>(C0 C i ρ σ).bind fun i σ=>match G1 σ o i a with
  | some σ=>.ok (.next,ρ) σ
  | none=>.no
 | .expr e,ρ,σ=>(C0 C e ρ σ).bind fun Z σ=>.ok (.next,ρ) σ
 | .ite c a b,ρ,σ=>(C0 C c ρ σ).bind fun t σ=>match Dn t with
  | some true=>Dv a ρ σ
  | some false=>Dv b ρ σ
  | none=>.no
 | .while c b,ρ,σ=>pE (fun ρ σ=>(C0 C c ρ σ).bind fun t σ=>Ep σ (Dn t)) (fun ρ σ=>Dv b ρ σ) WH ρ σ
 | .forIn p e b,ρ,σ=>(C0 C e ρ σ).bind fun e σ=>match Jb σ e with
  | some l=>match Df l.length with
   | some _=>I7 (put p) (fun ρ σ=>Dv b ρ σ) l ρ σ
   | none=>.no
  | none=>.no
 | .forR k lo hi b,ρ,σ=>(pQ C lo ρ σ).bind fun lo σ=>(C0 C hi ρ σ).bind fun hi σ=>match lo,Hi hi with
  | none,some n=>if 0≤n∧n≤Cf then I7 (put (.var k)) (fun ρ σ=>Dv b ρ σ) (C5 0 n.toNat) ρ σ else .no
  | some (.v (.int m)),some n=>if 0≤m∧m≤Cf∧0≤n∧n≤Cf then I7 (put (.var k)) (fun ρ σ=>Dv b ρ σ) (C5 m (n - m).toNat) ρ σ else .no
  | _,_=>.no
 | .ret e,ρ,σ=>(C0 C e ρ σ).bind fun a σ=>.ok (.ret a,ρ) σ
 | .fault o e,ρ,σ=>(C0 C o ρ σ).bind fun o σ=>(E5 σ o).elim .no fun Z=>(C0 C e ρ σ).bind fun e σ=>(E5 σ o).elim .no fun n=>(Oj e).elim .no fun Z=>.exc n σ
 | .brk,ρ,σ=>.ok (.brk,ρ) σ
 | .dead,_,_=>.no
noncomputable def Dv:List MS→List RV→Bu→B1 (Di×List RV)
 | [],ρ,σ=>.ok (.next,ρ) σ
 | s::ss,ρ,σ=>(XA s ρ σ).bind fun r σ=>match r with
  | (.next,ρ)=>Dv ss ρ σ
  | r=>.ok r σ
end
end
noncomputable def Ic (n:Nat) (σ:Bu):RV→B1 RV
 | .v m=>.ok (.v m) (σ.take n)
 | .loc r=>if r < n then .ok (.loc r) (σ.take n) else match σ[r]? with
  | some (.list l)=>.ok (.v (.lis l)) (σ.take n)
  | some (.pen x c)=>.ok (.loc n) (σ.take n++[.pen x c])
  | some (.rdr ts a)=>.ok (.loc n) (σ.take n++[.rdr ts a])
  | _=>.no
 | .un=>.no
noncomputable def I4 {α:Type} (n:Nat):B1 α→B1 α
 | .exc k σ=>.exc k (σ.take n)
 | o=>o
noncomputable def Ef (C:Call) (d:Bv) (args:List RV) (σ:Bu):B1 RV:=
 if args.length≤d.np∧d.np≤args.length+d.dfl.length∧d.dfl.length≤d.np∧d.np≤d.nl then
  I4 σ.length ((Dv C d.body (args++(d.dfl.drop (args.length+d.dfl.length - d.np)).map .v++Ao (d.nl - d.np) .un) σ).bind fun r σ'=>match r.1 with
   | .ret a=>Ic σ.length σ' a
   | .next=>Ic σ.length σ' (.v .none)
   | .brk=>.no)
 else .no
noncomputable def Nk:List Nat:=[32,65,67,67,69,80,84,32,65,67,67,69,83,83,32,65,68,68,32,65,68,86,65,78,67,73,78,71,32,65,70,84,69,82,32,65,76,76,32,65,76,80,72,65,66,69,84,73,67,32,65,76,80,72,65,66,69,84,73,67,45,76,79,87,69,82,32,65,76,80,72,65,66,69,84,73,67,45,85,80,80,69,82,32,65,76,80,72,65,78,85,77,69,82,73,67,32,65,76,80,72,65,78,85,77,69,82,73,67,45,69,68,73,84,69,68,32,65,76,83,79,32,65,76,84,69,82,78,65,84,69,32,65,78,68,32,65,78,89,32,65,82,69,32,65,82,69,65,32,65,82,69,65,83,32,65,83,67,69,78,68,73,78,71,32,65,83,83,73,71,78,32,65,84,32,65,85,84,72,79,82,32,66,69,70,79,82,69,32,66,73,78,65,82,89,32,66,76,65,78,75,32,66,76,79,67,75,32,66,89,32,67,65,76,76,32,67,72,65,82,65,67,84,69,82,32,67,72,65,82,65,67,84,69,82,83,32,67,76,79,83,69,32,67,79,77,80,32,67,79,77,80,45,51,32,67,79,77,80,85,84,65,84,73,79,78,65,76,32,67,79,77,80,85,84,65,84,73,79,78,65,76,45,51,32,67,79,77,80,85,84,69,32,67,79,78,70,73,71,85,82,65,84,73,79,78,32,67,79,78,84,65,73,78,83,32,67,79,78,84,69,78,84,32,67,79,78,84,73,78,85,69,32,67,79,78,86,69,82,84,73,78,71,32,67,79,80,89,32,67,79,82,82,32,67,79,82,82,69,83,80,79,78,68,73,78,71,32,67,79,85,78,84,32,68,65,84,65,32,68,65,84,69,45,67,79,77,80,73,76,69,68,32,68,65,84,69,45,87,82,73,84,84,69,78,32,68,69,76,69,84,69,32,68,69,76,73,77,73,84,69,68,32,68,69,76,73,77,73,84,69,82,32,68,69,80,69,78,68,73,78,71,32,68,69,83,67,69,78,68,73,78,71,32,68,73,83,80,76,65,89,32,68,73,86,73,68,69,32,68,73,86,73,83,73,79,78,32,68,79,87,78,32,68,85,80,76,73,67,65,84,69,83,32,68,89,78,65,77,73,67,32,69,76,83,69,32,69,78,68,32,69,78,68,45,65,68,68,32,69,78,68,45,67,65,76,76,32,69,78,68,45,67,79,77,80,85,84,69,32,69,78,68,45,68,69,76,69,84,69,32,69,78,68,45,68,73,86,73,68,69,32,69,78,68,45,69,86,65,76,85,65,84,69,32,69,78,68,45,73,70,32,69,78,68,45,77,85,76,84,73,80,76,89,32,69,78,68,45,80,69,82,70,79,82,77,32,69,78,68,45,82,69,65,68,32,69,78,68,45,82,69,84,85,82,78,32,69,78,68,45,82,69,87,82,73,84,69,32,69,78,68,45,83,69,65,82,67,72,32,69,78,68,45,83,84,65,82,84,32,69,78,68,45,83,84,82,73,78,71,32,69,78,68,45,83,85,66,84,82,65,67,84,32,69,78,68,45,85,78,83,84,82,73,78,71,32,69,78,68,45,87,82,73,84,69,32,69,78,86,73,82,79,78,77,69,78,84,32,69,81,85,65,76,32,69,82,82,79,82,32,69,86,65,76,85,65,84,69,32,69,88,67,69,80,84,73,79,78,32,69,88,73,84,32,69,88,84,69,78,68,32,69,88,84,69,82,78,65,76,32,70,65,76,83,69,32,70,68,32,70,73,76,69,32,70,73,76,69,45,67,79,78,84,82,79,76,32,70,73,76,76,69,82,32,70,73,82,83,84,32,70,79,82,32,70,82,79,77,32,71,73,86,73,78,71,32,71,76,79,66,65,76,32,71,79,32,71,82,69,65,84,69,82,32,72,73,71,72,45,86,65,76,85,69,32,72,73,71,72,45,86,65,76,85,69,83,32,73,45,79,32,73,45,79,45,67,79,78,84,82,79,76,32,73,68,69,78,84,73,70,73,67,65,84,73,79,78,32,73,70,32,73,78,32,73,78,68,69,88,32,73,78,68,69,88,69,68,32,73,78,73,84,73,65,76,32,73,78,73,84,73,65,76,73,90,69,32,73,78,80,85,84,32,73,78,80,85,84,45,79,85,84,80,85,84,32,73,78,83,80,69,67,84,32,73,78,83,84,65,76,76,65,84,73,79,78,32,73,78,84,79,32,73,78,86,65,76,73,68,32,73,83,32,74,85,83,84,32,74,85,83,84,73,70,73,69,68,32,75,69,89,32,76,65,66,69,76,32,76,69,65,68,73,78,71,32,76,69,70,84,32,76,69,83,83,32,76,73,78,69,32,76,73,78,69,83,32,76,73,78,75,65,71,69,32,76,79,67,75,32,76,79,87,45,86,65,76,85,69,32,76,79,87,45,86,65,76,85,69,83,32,77,69,82,71,69,32,77,79,68,69,32,77,79,86,69,32,77,85,76,84,73,80,76,89,32,78,65,84,73,86,69,32,78,69,71,65,84,73,86,69,32,78,69,88,84,32,78,79,32,78,79,84,32,78,85,77,69,82,73,67,32,78,85,77,69,82,73,67,45,69,68,73,84,69,68,32,79,66,74,69,67,84,45,67,79,77,80,85,84,69,82,32,79,67,67,85,82,83,32,79,70,32,79,70,70,32,79,77,73,84,84,69,68,32,79,78,32,79,80,69,78,32,79,80,84,73,79,78,65,76,32,79,82,32,79,82,68,69,82,32,79,82,71,65,78,73,90,65,84,73,79,78,32,79,84,72,69,82,32,79,85,84,80,85,84,32,79,86,69,82,70,76,79,87,32,80,65,67,75,69,68,45,68,69,67,73,77,65,76,32,80,69,82,70,79,82,77,32,80,73,67,32,80,73,67,84,85,82,69,32,80,79,73,78,84,69,82,32,80,79,83,73,84,73,86,69,32,80,82,79,67,69,68,85,82,69,32,80,82,79,67,69,69,68,32,80,82,79,71,82,65,77,32,80,82,79,71,82,65,77,45,73,68,32,81,85,79,84,69,32,81,85,79,84,69,83,32,82,65,78,68,79,77,32,82,69,65,68,32,82,69,67,79,82,68,32,82,69,67,79,82,68,83,32,82,69,68,69,70,73,78,69,83,32,82,69,70,69,82,69,78,67,69,32,82,69,76,65,84,73,86,69,32,82,69,76,69,65,83,69,32,82,69,77,65,73,78,68,69,82,32,82,69,78,65,77,69,83,32,82,69,80,76,65,67,69,32,82,69,80,76,65,67,73,78,71,32,82,69,84,85,82,78,32,82,69,87,82,73,84,69,32,82,73,71,72,84,32,82,79,85,78,68,69,68,32,82,85,78,32,83,65,77,69,32,83,68,32,83,69,65,82,67,72,32,83,69,67,84,73,79,78,32,83,69,67,85,82,73,84,89,32,83,69,76,69,67,84,32,83,69,78,84,69,78,67,69,32,83,69,80,65,82,65,84,69,32,83,69,81,85,69,78,84,73,65,76,32,83,69,84,32,83,73,71,78,32,83,73,90,69,32,83,79,82,84,32,83,79,82,84,45,77,69,82,71,69,32,83,79,85,82,67,69,45,67,79,77,80,85,84,69,82,32,83,80,65,67,69,32,83,80,65,67,69,83,32,83,80,69,67,73,65,76,45,78,65,77,69,83,32,83,84,65,78,68,65,82,68,32,83,84,65,82,84,32,83,84,65,84,85,83,32,83,84,79,80,32,83,84,82,73,78,71,32,83,85,66,84,82,65,67,84,32,83,89,78,67,32,83,89,78,67,72,82,79,78,73,90,69,68,32,84,65,76,76,89,73,78,71,32,84,69,83,84,32,84,72,65,78,32,84,72,69,78,32,84,72,82,79,85,71,72,32,84,72,82,85,32,84,73,77,69,83,32,84,79,32,84,82,65,73,76,73,78,71,32,84,82,85,69,32,85,78,83,84,82,73,78,71,32,85,78,84,73,76,32,85,80,32,85,80,79,78,32,85,83,65,71,69,32,85,83,73,78,71,32,86,65,76,85,69,32,86,65,76,85,69,83,32,86,65,82,89,73,78,71,32,87,72,69,78,32,87,73,84,72,32,87,79,82,75,73,78,71,45,83,84,79,82,65,71,69,32,87,82,73,84,69,32,90,69,82,79,32,90,69,82,79,69,83,32,90,69,82,79,83,32]
noncomputable def Sy:Str:=⟨Nk.toArray⟩
noncomputable def FC:Bv:=⟨2,[.int 0],2,[
 (.ite (.cmp .Lt (.var 1) (.const (.int 0))) [(.ret (.tup [(.bin .Mult (.var 0) (.bin .Pow (.const (.int 10)) (.neg (.var 1)))),(.const (.int 0))]))] []),
 (.while (.and [(.cmp .Gt (.var 1) (.const (.int 0))),(.cmp .Eq (.bin .Mod (.var 0) (.const (.int 10))) (.const (.int 0)))]) [(.assign (.var 0) (.bin .FloorDiv (.var 0) (.const (.int 10)))),(.assign (.var 1) (.bin .Sub (.var 1) (.const (.int 1))))]),
 (.ret (.tup [(.var 0),(.var 1)]))]⟩ -- 89 [units,scale]
noncomputable def Yw:Bv:=⟨1,[],3,[
 (.assign (.var 1) (.const (.int 0))),
 (.forIn (.var 2) (.var 0) [(.assign (.var 1) (.bin .Add (.bin .Mult (.var 1) (.const (.int 10))) (.meth (.glob "FIGURES" (.str "0123456789")) "index" [(.var 2)])))]),
 (.ret (.var 1))]⟩ -- 124 [figures,number,figure]
noncomputable def Pd:Bv:=⟨1,[],7,[
 (.assign (.var 1) (.ite (.cmp .In (.cut (.var 0) none (some (.const (.int 1)))) (.tup [(.const (.str "+")),(.const (.str "-"))])) (.const (.int 1)) (.const (.int 0)))),
 (.assignT [2,3] [(.cut (.var 0) (some (.var 1)) none),(.const (.str ""))]),
 (.ite (.cmp .In (.const (.str ".")) (.var 2)) [(.assign (.var 4) (.meth (.var 2) "index" [(.const (.str "."))])),(.assignT [2,3] [(.cut (.var 2) none (some (.var 4))),(.cut (.var 2) (some (.bin .Add (.var 4) (.const (.int 1)))) none)]),(.ite (.cmp .Eq (.var 3) (.const (.str ""))) [.dead] [])] []),
 (.ite (.cmp .Eq (.bin .Add (.var 2) (.var 3)) (.const (.str ""))) [.dead] []),
 (.forR 5 (some (.var 1)) (.call (.glob "len" (.val (.builtin "len"))) [(.var 0)]) [(.ite (.and [(.cmp .NotIn (.sub (.var 0) (.var 5)) (.glob "FIGURES" (.str "0123456789"))),(.cmp .NotEq (.var 5) (.bin .Add (.var 1) (.call (.glob "len" (.val (.builtin "len"))) [(.var 2)])))]) [.dead] [])]),
 (.assign (.var 6) (.call (.glob "worth_of" (.val (.ref 124))) [(.bin .Add (.var 2) (.var 3))])),
 (.ret (.call (.glob "decimal" (.val (.ref 89))) [(.ite (.cmp .Eq (.cut (.var 0) none (some (.const (.int 1)))) (.const (.str "-"))) (.neg (.var 6)) (.var 6)),(.call (.glob "len" (.val (.builtin "len"))) [(.var 3)])]))]⟩ -- 131 [text,begin,ahead,behind,point, at,units]
noncomputable def O9:Bv:=⟨1,[],3,[
 (.assignT [1,2] [(.const (.int 0)),(.const (.int 0))]),
 (.while (.or [(.cmp .Gt (.var 1) (.const (.int 0))),(.and [(.cmp .Eq (.var 2) (.const (.int 0))),(.meth (.var 0) "is_sign" [(.const (.str "("))])])]) [(.ite (.cmp .Is (.meth (.var 0) "peek" [(.var 2)]) (.const .none)) [(.ret (.const (.bool false)))] []),(.ite (.meth (.var 0) "is_sign" [(.const (.str "(")),(.var 2)]) [(.assign (.var 1) (.bin .Add (.var 1) (.const (.int 1))))] [(.ite (.meth (.var 0) "is_sign" [(.const (.str ")")),(.var 2)]) [(.assign (.var 1) (.bin .Sub (.var 1) (.const (.int 1))))] [(.ite (.and [(.cmp .Eq (.var 1) (.const (.int 1))),(.meth (.var 0) "is_sign" [(.const (.str ":")),(.var 2)])]) [(.ret (.const (.bool true)))] [])])]),(.assign (.var 2) (.bin .Add (.var 2) (.const (.int 1))))]),
 (.ret (.const (.bool false)))]⟩ -- 139 [reader,depth,ahead]
noncomputable def K2:Bv:=⟨2,[],3,[
 (.expr (.meth (.var 0) "need_sign" [(.const (.str "("))])),
 (.assign (.var 2) (.mlis [(.call (.var 1) [(.var 0)])])),
 (.while (.not (.meth (.var 0) "skip_sign" [(.const (.str ")"))])) [(.ite (.cmp .GtE (.call (.glob "len" (.val (.builtin "len"))) [(.var 2)]) (.glob "MOST_SUBSCRIPTS" (.int 7))) [(.fault (.var 0) (.const (.str "more than 7 subscripts")))] []),(.expr (.meth (.var 2) "append" [(.call (.var 1) [(.var 0)])]))]),
 (.ret (.call (.glob "tuple" (.val (.type "tuple"))) [(.var 2)]))]⟩ -- 146 [reader,read_expr,found]
noncomputable def V9:Bv:=⟨2,[],4,[
 (.expr (.meth (.var 0) "need_sign" [(.const (.str "("))])),
 (.assign (.var 2) (.call (.var 1) [(.var 0)])),
 (.expr (.meth (.var 0) "need_sign" [(.const (.str ":"))])),
 (.assign (.var 3) (.ite (.meth (.var 0) "is_sign" [(.const (.str ")"))]) (.const .none) (.call (.var 1) [(.var 0)]))),
 (.expr (.meth (.var 0) "need_sign" [(.const (.str ")"))])),
 (.ret (.tup [(.var 2),(.var 3)]))]⟩ -- 153 [reader,read_expr,begin,length]
noncomputable def Pj:Bv:=⟨2,[],6,[
 (.assign (.var 2) (.meth (.var 0) "name" [])),
 (.assign (.var 3) (.mlis [])),
 (.while (.cmp .NotEq (.meth (.var 0) "one_of" [(.const (.str "OF IN"))]) (.const (.str ""))) [(.expr (.meth (.var 3) "append" [(.meth (.var 0) "name" [])]))]),
 (.assign (.var 4) (.tup [])),
 (.ite (.and [(.meth (.var 0) "is_sign" [(.const (.str "("))]),(.not (.call (.glob "is_part_next" (.val (.ref 139))) [(.var 0)]))]) [(.assign (.var 4) (.call (.glob "read_subscripts" (.val (.ref 146))) [(.var 0),(.var 1)]))] []),
 (.assign (.var 5) (.ite (.call (.glob "is_part_next" (.val (.ref 139))) [(.var 0)]) (.call (.glob "read_part" (.val (.ref 153))) [(.var 0),(.var 1)]) (.const .none))),
 (.ret (.tup [(.const (.str "ref")),(.var 2),(.call (.glob "tuple" (.val (.type "tuple"))) [(.var 3)]),(.var 4),(.var 5)]))]⟩ -- 160 [reader,read_expr,name,qualifiers,subscripts,part]
noncomputable def Yt:Bv:=⟨1,[],2,[
 (.ite (.meth (.var 0) "is_kind" [(.const (.str "literal"))]) [(.ret (.tup [(.const (.str "all")),(.meth (.var 0) "octets" [])]))] []),
 (.assign (.var 1) (.call (.glob "read_figure" (.val (.ref 174))) [(.var 0)])),
 (.ite (.cmp .Is (.var 1) (.const .none)) [(.fault (.var 0) (.const (.str "a literal is asked behind ALL")))] []),
 (.ret (.var 1))]⟩ -- 167 [reader,figure]
noncomputable def Rl:Bv:=⟨1,[],1,[
 (.ite (.or [(.not (.meth (.var 0) "is_kind" [(.const (.str "word"))])),(.cmp .NotIn (.attr (.meth (.var 0) "peek" []) "worth") (.glob "FIGURE_NAMES" .figs))]) [(.ret (.const .none))] []),
 (.ret (.tup [(.const (.str "figure")),(.sub (.glob "FIGURE_NAMES" .figs) (.attr (.meth (.var 0) "take" []) "worth"))]))]⟩ -- 174 [reader]
noncomputable def Pf:Bv:=⟨2,[],3,[
 (.ite (.meth (.var 0) "is_number" []) [(.ret (.tup [(.const (.str "number")),(.meth (.var 0) "signed" [])]))] []),
 (.ite (.meth (.var 0) "is_kind" [(.const (.str "literal"))]) [(.ret (.tup [(.const (.str "text")),(.meth (.var 0) "octets" [])]))] []),
 (.ite (.meth (.var 0) "skip" [(.const (.str "ALL"))]) [(.ret (.call (.glob "read_all" (.val (.ref 167))) [(.var 0)]))] []),
 (.assign (.var 2) (.call (.glob "read_figure" (.val (.ref 174))) [(.var 0)])),
 (.ret (.ite (.cmp .Is (.var 2) (.const .none)) (.call (.glob "read_ref" (.val (.ref 160))) [(.var 0),(.var 1)]) (.var 2)))]⟩ -- 181 [reader,read_expr,figure]
noncomputable def K1:Bv:=⟨1,[],1,[
 (.ret (.call (.glob "read_sum" (.val (.ref 202))) [(.var 0),(.const (.int 0))]))]⟩ -- 188 [reader]
noncomputable def Tp:Bv:=⟨2,[],3,[
 (.assign (.var 2) (.meth (.var 0) "peek" [])),
 (.ite (.or [(.cmp .Is (.var 2) (.const .none)),(.cmp .NotEq (.attr (.var 2) "kind") (.const (.str "sign"))),(.cmp .NotIn (.attr (.var 2) "worth") (.var 1))]) [(.ret (.const (.str "")))] []),
 (.ret (.attr (.var 2) "worth"))]⟩ -- 195 [reader,signs,token]
noncomputable def Yu:Bv:=⟨2,[],4,[
 (.ite (.cmp .Gt (.var 1) (.glob "MOST_DEEP" (.int 20))) [(.fault (.var 0) (.const (.str "brackets are nested too deep")))] []),
 (.assign (.var 2) (.call (.glob "read_product" (.val (.ref 209))) [(.var 0),(.var 1)])),
 (.while (.cmp .NotEq (.call (.glob "sign_among" (.val (.ref 195))) [(.var 0),(.tup [(.const (.str "+")),(.const (.str "-"))])]) (.const (.str ""))) [(.assign (.var 3) (.attr (.meth (.var 0) "take" []) "worth")),(.assign (.var 2) (.tup [(.var 3),(.var 2),(.call (.glob "read_product" (.val (.ref 209))) [(.var 0),(.var 1)])]))]),
 (.ret (.var 2))]⟩ -- 202 [reader,depth,found,sign]
noncomputable def Ph:Bv:=⟨2,[],4,[
 (.assign (.var 2) (.call (.glob "read_factor" (.val (.ref 216))) [(.var 0),(.var 1)])),
 (.while (.cmp .NotEq (.call (.glob "sign_among" (.val (.ref 195))) [(.var 0),(.tup [(.const (.str "*")),(.const (.str "/"))])]) (.const (.str ""))) [(.assign (.var 3) (.attr (.meth (.var 0) "take" []) "worth")),(.assign (.var 2) (.tup [(.var 3),(.var 2),(.call (.glob "read_factor" (.val (.ref 216))) [(.var 0),(.var 1)])]))]),
 (.ret (.var 2))]⟩ -- 209 [reader,depth,found,sign]
noncomputable def Rk:Bv:=⟨2,[],5,[
 (.assign (.var 2) (.call (.glob "sign_among" (.val (.ref 195))) [(.var 0),(.tup [(.const (.str "+")),(.const (.str "-"))])])),
 (.ite (.cmp .Eq (.var 2) (.const (.str ""))) [(.ret (.call (.glob "read_power" (.val (.ref 230))) [(.var 0),(.var 1)]))] []),
 (.expr (.meth (.var 0) "take" [])),
 (.assign (.var 3) (.and [(.cmp .Eq (.var 2) (.const (.str "-"))),(.call (.glob "is_lone_number" (.val (.ref 223))) [(.var 0)])])),
 (.assign (.var 4) (.call (.glob "read_power" (.val (.ref 230))) [(.var 0),(.var 1)])),
 (.ite (.var 3) [(.ret (.tup [(.const (.str "number")),(.call (.glob "negated" (.val (.ref 96))) [(.sub (.var 4) (.const (.int 1)))])]))] []),
 (.ret (.ite (.cmp .Eq (.var 2) (.const (.str "-"))) (.tup [(.const (.str "neg")),(.var 4)]) (.var 4)))]⟩ -- 216 [reader,depth,sign,is_own,found]
noncomputable def Tm:Bv:=⟨2,[],3,[
 (.assign (.var 2) (.call (.glob "read_primary" (.val (.ref 237))) [(.var 0),(.var 1)])),
 (.while (.cmp .NotEq (.call (.glob "sign_among" (.val (.ref 195))) [(.var 0),(.tup [(.const (.str "**"))])]) (.const (.str ""))) [(.expr (.meth (.var 0) "take" [])),(.assign (.var 2) (.tup [(.const (.str "**")),(.var 2),(.call (.glob "read_primary" (.val (.ref 237))) [(.var 0),(.var 1)])]))]),
 (.ret (.var 2))]⟩ -- 230 [reader,depth,found]
noncomputable def Pg:Bv:=⟨2,[],3,[
 (.ite (.cmp .NotEq (.call (.glob "sign_among" (.val (.ref 195))) [(.var 0),(.tup [(.const (.str "+")),(.const (.str "-"))])]) (.const (.str ""))) [(.fault (.var 0) (.const (.str "an operand is asked here")))] []),
 (.ite (.not (.meth (.var 0) "skip_sign" [(.const (.str "("))])) [(.ret (.call (.glob "read_operand" (.val (.ref 181))) [(.var 0),(.lam 1)]))] []),
 (.assign (.var 2) (.call (.glob "read_sum" (.val (.ref 202))) [(.var 0),(.bin .Add (.var 1) (.const (.int 1)))])),
 (.expr (.meth (.var 0) "need_sign" [(.const (.str ")"))])),
 (.ret (.var 2))]⟩ -- 237 [reader,depth,found]
noncomputable def Tq:Bv:=⟨3,[],4,[
 (.assign (.var 3) (.meth (.var 0) "peek" [(.var 1)])),
 (.ret (.and [(.cmp .IsNot (.var 3) (.const .none)),(.cmp .Eq (.attr (.var 3) "kind") (.const (.str "word"))),(.cmp .Eq (.attr (.var 3) "worth") (.var 2))]))]⟩ -- 244 [reader,ahead,word,token]
noncomputable def Pb:Bv:=⟨1,[],1,[
 (.ite (.cmp .Eq (.var 0) (.const (.str "size"))) [(.ret (.tup [(.tup [(.const (.str "ON"))]),(.tup [(.const (.str "SIZE")),(.const (.str "ERROR"))]),(.tup [])]))] []),
 (.ite (.cmp .Eq (.var 0) (.const (.str "over"))) [(.ret (.tup [(.tup [(.const (.str "ON"))]),(.tup [(.const (.str "OVERFLOW"))]),(.tup [])]))] []),
 (.ite (.cmp .Eq (.var 0) (.const (.str "end"))) [(.ret (.tup [(.tup [(.const (.str "AT"))]),(.tup [(.const (.str "END"))]),(.tup [])]))] []),
 (.ite (.cmp .Eq (.var 0) (.const (.str "invalid"))) [(.ret (.tup [(.tup []),(.tup [(.const (.str "INVALID"))]),(.tup [(.const (.str "KEY"))])]))] []),
 (.ret (.tup [(.tup [(.const (.str "ON"))]),(.tup [(.const (.str "EXCEPTION"))]),(.tup [])]))]⟩ -- 251 [key]
noncomputable def Mh:Bv:=⟨2,[],8,[
 (.assignT [2,3] [(.const (.int 0)),(.var 1)]),
 (.ite (.meth (.var 1) "startswith" [(.const (.str "not "))]) [(.ite (.not (.call (.glob "word_ahead" (.val (.ref 244))) [(.var 0),(.const (.int 0)),(.const (.str "NOT"))])) [(.ret (.const (.int 0)))] []),(.assignT [2,3] [(.const (.int 1)),(.cut (.var 1) (some (.const (.int 4))) none)])] []),
 (.assign (.tup [(.var 4),(.var 5),(.var 6)]) (.call (.glob "phrase_words" (.val (.ref 251))) [(.var 3)])),
 (.forIn (.var 7) (.var 4) [(.ite (.call (.glob "word_ahead" (.val (.ref 244))) [(.var 0),(.var 2),(.var 7)]) [(.assign (.var 2) (.bin .Add (.var 2) (.const (.int 1))))] [])]),
 (.ite (.and [(.cmp .Eq (.var 1) (.const (.str "fault"))),(.call (.glob "word_ahead" (.val (.ref 244))) [(.var 0),(.var 2),(.const (.str "OVERFLOW"))])]) [(.ret (.bin .Add (.var 2) (.const (.int 1))))] []),
 (.forIn (.var 7) (.var 5) [(.ite (.not (.call (.glob "word_ahead" (.val (.ref 244))) [(.var 0),(.var 2),(.var 7)])) [(.ret (.const (.int 0)))] []),(.assign (.var 2) (.bin .Add (.var 2) (.const (.int 1))))]),
 (.forIn (.var 7) (.var 6) [(.ite (.call (.glob "word_ahead" (.val (.ref 244))) [(.var 0),(.var 2),(.var 7)]) [(.assign (.var 2) (.bin .Add (.var 2) (.const (.int 1))))] [])]),
 (.ret (.var 2))]⟩ -- 258 [reader,key,ahead,bare,early,needed,late,word]
noncomputable def V8:Bv:=⟨2,[],3,[
 (.assign (.var 2) (.call (.var 1) [(.var 0)])),
 (.ite (.cmp .Eq (.var 2) (.tup [])) [(.fault (.var 0) (.const (.str "a statement must stand here")))] []),
 (.ret (.var 2))]⟩ -- 265 [reader,read_body,body]
noncomputable def Nr:Bv:=⟨3,[],7,[
 (.assign (.var 3) (.mlis [])),
 (.forIn (.var 4) (.var 2) [(.assign (.var 5) (.call (.glob "opening_length" (.val (.ref 258))) [(.var 0),(.var 4)])),(.ite (.cmp .Gt (.var 5) (.const (.int 0))) [(.forR 6 none (.var 5) [(.expr (.meth (.var 0) "take" []))]),(.expr (.meth (.var 3) "append" [(.tup [(.var 4),(.call (.glob "body_here" (.val (.ref 265))) [(.var 0),(.var 1)])])]))] [])]),
 (.ret (.call (.glob "tuple" (.val (.type "tuple"))) [(.var 3)]))]⟩ -- 272 [reader,read_body,keys,branches,key,length,turn]
noncomputable def Mf:Bv:=⟨1,[],1,[
 (.ite (.or [(.meth (.var 0) "is_number" []),(.meth (.var 0) "is_kind" [(.const (.str "literal"))]),(.meth (.var 0) "is_name" [])]) [(.ret (.const (.bool true)))] []),
 (.ret (.and [(.meth (.var 0) "is_kind" [(.const (.str "word"))]),(.cmp .In (.bin .Add (.bin .Add (.const (.str " ")) (.attr (.meth (.var 0) "peek" []) "worth")) (.const (.str " "))) (.glob "FIGURE_WORDS" (.str " ZERO ZEROS ZEROES SPACE SPACES HIGH-VALUE HIGH-VALUES LOW-VALUE LOW-VALUES QUOTE QUOTES ALL ")))]))]⟩ -- 279 [reader]
noncomputable def Yv:Bv:=⟨1,[],1,[
 (.ite (.not (.meth (.var 0) "is_name" [])) [(.fault (.var 0) (.const (.str "the name of an item must stand here")))] []),
 (.ret (.call (.glob "read_ref" (.val (.ref 160))) [(.var 0),(.glob "read_expression" (.val (.ref 188)))]))]⟩ -- 286 [reader]
noncomputable def Wa:Bv:=⟨3,[],3,[
 (.setAt (.var 0) (.var 1)),
 (.fault (.var 0) (.var 2))]⟩ -- 293 [reader,mark,what]
noncomputable def Pa:Bv:=⟨1,[],1,[
 (.ite (.not (.call (.glob "begins_operand" (.val (.ref 279))) [(.var 0)])) [(.fault (.var 0) (.const (.str "an item or a literal must stand here")))] []),
 (.ret (.call (.glob "read_operand" (.val (.ref 181))) [(.var 0),(.glob "read_expression" (.val (.ref 188)))]))]⟩ -- 300 [reader]
noncomputable def Wc:Bv:=⟨1,[],3,[
 (.assign (.var 1) (.attr (.var 0) "at")),
 (.assign (.var 2) (.call (.glob "operand_here" (.val (.ref 300))) [(.var 0)])),
 (.ite (.cmp .In (.sub (.var 2) (.const (.int 0))) (.tup [(.const (.str "number")),(.const (.str "all"))])) [(.expr (.call (.glob "refuse_at" (.val (.ref 293))) [(.var 0),(.var 1),(.const (.str "an item, a text or a figurative constant must stand here"))]))] []),
 (.ret (.var 2))]⟩ -- 307 [reader,mark,operand]
noncomputable def Rg:Bv:=⟨1,[],1,[
 (.ret (.and [(.call (.glob "begins_operand" (.val (.ref 279))) [(.var 0)]),(.not (.call (.glob "word_ahead" (.val (.ref 244))) [(.var 0),(.const (.int 0)),(.const (.str "ALL"))]))]))]⟩ -- 314 [reader]
noncomputable def Pc:Bv:=⟨1,[],1,[
 (.ite (.and [(.call (.glob "word_ahead" (.val (.ref 244))) [(.var 0),(.const (.int 0)),(.const (.str "WITH"))]),(.call (.glob "word_ahead" (.val (.ref 244))) [(.var 0),(.const (.int 1)),(.const (.str "POINTER"))])]) [(.expr (.meth (.var 0) "take" []))] []),
 (.ret (.ite (.meth (.var 0) "skip" [(.const (.str "POINTER"))]) (.call (.glob "ref_here" (.val (.ref 286))) [(.var 0)]) (.const .none)))]⟩ -- 321 [reader]
noncomputable def G7:Bv:=⟨1,[],4,[
 (.assign (.var 1) (.mlis [])),
 (.while (.or [(.cmp .Eq (.var 1) (.lis [])),(.call (.glob "begins_text" (.val (.ref 314))) [(.var 0)])]) [(.assign (.var 2) (.mlis [(.call (.glob "text_here" (.val (.ref 307))) [(.var 0)])])),(.while (.call (.glob "begins_text" (.val (.ref 314))) [(.var 0)]) [(.expr (.meth (.var 2) "append" [(.call (.glob "text_here" (.val (.ref 307))) [(.var 0)])]))]),(.expr (.meth (.var 0) "need" [(.const (.str "DELIMITED"))])),(.expr (.meth (.var 0) "skip" [(.const (.str "BY"))])),(.assign (.var 3) (.ite (.meth (.var 0) "skip" [(.const (.str "SIZE"))]) (.const .none) (.call (.glob "text_here" (.val (.ref 307))) [(.var 0)]))),(.expr (.meth (.var 1) "extend" [(.compL (.var 2) none (.tup [(.var 0),(.var 1)]) [3])]))]),
 (.ret (.call (.glob "tuple" (.val (.type "tuple"))) [(.var 1)]))]⟩ -- 326 [reader,rows,group,delimiter]
noncomputable def Rm:Bv:=⟨2,[],6,[
 (.expr (.meth (.var 0) "need" [(.const (.str "STRING"))])),
 (.assign (.var 2) (.call (.glob "strung_rows" (.val (.ref 326))) [(.var 0)])),
 (.expr (.meth (.var 0) "need" [(.const (.str "INTO"))])),
 (.assign (.var 3) (.call (.glob "ref_here" (.val (.ref 286))) [(.var 0)])),
 (.assign (.var 4) (.call (.glob "pointer_here" (.val (.ref 321))) [(.var 0)])),
 (.assign (.var 5) (.call (.glob "branches_here" (.val (.ref 272))) [(.var 0),(.var 1),(.tup [(.const (.str "over")),(.const (.str "not over"))])])),
 (.expr (.meth (.var 0) "skip" [(.const (.str "END-STRING"))])),
 (.ret (.tup [(.const (.str "string")),(.var 2),(.var 3),(.var 4),(.var 5)]))]⟩ -- 333 [reader,read_body,rows,goal,pointer,branches]
noncomputable def K0:Bv:=⟨1,[],3,[
 (.assign (.var 1) (.mlis [])),
 (.ite (.meth (.var 0) "skip" [(.const (.str "DELIMITED"))]) [(.expr (.meth (.var 0) "skip" [(.const (.str "BY"))])),(.while (.or [(.cmp .Eq (.var 1) (.lis [])),(.meth (.var 0) "skip" [(.const (.str "OR"))])]) [(.assign (.var 2) (.meth (.var 0) "skip" [(.const (.str "ALL"))])),(.expr (.meth (.var 1) "append" [(.tup [(.call (.glob "text_here" (.val (.ref 307))) [(.var 0)]),(.var 2)])]))])] []),
 (.ret (.call (.glob "tuple" (.val (.type "tuple"))) [(.var 1)]))]⟩ -- 340 [reader,rows,is_all]
noncomputable def Pk:Bv:=⟨2,[],6,[
 (.assignT [2,3] [(.call (.glob "ref_here" (.val (.ref 286))) [(.var 0)]),(.mlis [])]),
 (.forIn (.var 4) (.tup [(.const (.str "DELIMITER")),(.const (.str "COUNT"))]) [(.assign (.var 5) (.attr (.var 0) "at")),(.ite (.meth (.var 0) "skip" [(.var 4)]) [(.ite (.not (.var 1)) [(.expr (.call (.glob "refuse_at" (.val (.ref 293))) [(.var 0),(.var 5),(.const (.str "without DELIMITED BY nothing delimits"))]))] []),(.expr (.meth (.var 0) "skip" [(.const (.str "IN"))])),(.expr (.meth (.var 3) "append" [(.call (.glob "ref_here" (.val (.ref 286))) [(.var 0)])]))] [(.expr (.meth (.var 3) "append" [(.const .none)]))])]),
 (.ret (.tup [(.var 2),(.sub (.var 3) (.const (.int 0))),(.sub (.var 3) (.const (.int 1)))]))]⟩ -- 347 [reader,is_delimited,goal,parts,word,mark]
noncomputable def Im:Bv:=⟨2,[],8,[
 (.expr (.meth (.var 0) "need" [(.const (.str "UNSTRING"))])),
 (.assign (.var 2) (.call (.glob "ref_here" (.val (.ref 286))) [(.var 0)])),
 (.assign (.var 3) (.call (.glob "delimiters_here" (.val (.ref 340))) [(.var 0)])),
 (.expr (.meth (.var 0) "need" [(.const (.str "INTO"))])),
 (.assign (.var 4) (.mlis [(.call (.glob "unstrung_row" (.val (.ref 347))) [(.var 0),(.cmp .NotEq (.var 3) (.tup []))])])),
 (.while (.meth (.var 0) "is_name" []) [(.expr (.meth (.var 4) "append" [(.call (.glob "unstrung_row" (.val (.ref 347))) [(.var 0),(.cmp .NotEq (.var 3) (.tup []))])]))]),
 (.assignT [5,6] [(.call (.glob "pointer_here" (.val (.ref 321))) [(.var 0)]),(.const .none)]),
 (.ite (.meth (.var 0) "skip" [(.const (.str "TALLYING"))]) [(.expr (.meth (.var 0) "skip" [(.const (.str "IN"))])),(.assign (.var 6) (.call (.glob "ref_here" (.val (.ref 286))) [(.var 0)]))] []),
 (.assign (.var 7) (.call (.glob "branches_here" (.val (.ref 272))) [(.var 0),(.var 1),(.tup [(.const (.str "over")),(.const (.str "not over"))])])),
 (.expr (.meth (.var 0) "skip" [(.const (.str "END-UNSTRING"))])),
 (.ret (.tup [(.const (.str "unstring")),(.var 2),(.var 3),(.call (.glob "tuple" (.val (.type "tuple"))) [(.var 4)]),(.var 5),(.var 6),(.var 7)]))]⟩ -- 354 [reader,read_body,source,delimiters,rows,pointer,tally,branches]
noncomputable def Rh:Bv:=⟨1,[],3,[
 (.assignT [1,2] [(.const .none),(.const .none)]),
 (.while (.const (.bool true)) [(.ite (.and [(.cmp .Is (.var 1) (.const .none)),(.meth (.var 0) "skip" [(.const (.str "BEFORE"))])]) [(.expr (.meth (.var 0) "skip" [(.const (.str "INITIAL"))])),(.assign (.var 1) (.call (.glob "text_here" (.val (.ref 307))) [(.var 0)]))] [(.ite (.and [(.cmp .Is (.var 2) (.const .none)),(.meth (.var 0) "skip" [(.const (.str "AFTER"))])]) [(.expr (.meth (.var 0) "skip" [(.const (.str "INITIAL"))])),(.assign (.var 2) (.call (.glob "text_here" (.val (.ref 307))) [(.var 0)]))] [(.ret (.tup [(.var 1),(.var 2)]))])])])]⟩ -- 361 [reader,before,after]
noncomputable def Rj:Bv:=⟨1,[],3,[
 (.ite (.not (.meth (.var 0) "is_name" [])) [(.ret (.const (.bool false)))] []),
 (.assign (.var 1) (.attr (.var 0) "at")),
 (.expr (.call (.glob "ref_here" (.val (.ref 286))) [(.var 0)])),
 (.assign (.var 2) (.call (.glob "word_ahead" (.val (.ref 244))) [(.var 0),(.const (.int 0)),(.const (.str "FOR"))])),
 (.setAt (.var 0) (.var 1)),
 (.ret (.var 2))]⟩ -- 368 [reader,mark,is_count]
noncomputable def O8:Bv:=⟨3,[],7,[
 (.assign (.var 3) (.mlis [])),
 (.while (.or [(.cmp .Eq (.var 3) (.lis [])),(.and [(.call (.glob "begins_text" (.val (.ref 314))) [(.var 0)]),(.not (.call (.glob "opens_count" (.val (.ref 368))) [(.var 0)]))])]) [(.assign (.var 4) (.call (.glob "text_here" (.val (.ref 307))) [(.var 0)])),(.assign (.tup [(.var 5),(.var 6)]) (.call (.glob "bounds_here" (.val (.ref 361))) [(.var 0)])),(.expr (.meth (.var 3) "append" [(.tup [(.var 1),(.var 2),(.var 4),(.var 5),(.var 6)])]))]),
 (.ret (.var 3))]⟩ -- 375 [reader,count,kind,rows,operand,before,after]
noncomputable def Gh:Bv:=⟨1,[],6,[
 (.assign (.var 1) (.mlis [])),
 (.while (.or [(.cmp .Eq (.var 1) (.lis [])),(.call (.glob "opens_count" (.val (.ref 368))) [(.var 0)])]) [(.assignT [2,3] [(.call (.glob "ref_here" (.val (.ref 286))) [(.var 0)]),(.mlis [])]),(.expr (.meth (.var 0) "need" [(.const (.str "FOR"))])),(.while (.const (.bool true)) [(.ite (.meth (.var 0) "skip" [(.const (.str "CHARACTERS"))]) [(.assign (.tup [(.var 4),(.var 5)]) (.call (.glob "bounds_here" (.val (.ref 361))) [(.var 0)])),(.expr (.meth (.var 3) "append" [(.tup [(.var 2),(.const (.str "CHARACTERS")),(.const .none),(.var 4),(.var 5)])]))] [(.ite (.meth (.var 0) "skip" [(.const (.str "ALL"))]) [(.expr (.meth (.var 3) "extend" [(.call (.glob "counted_rows" (.val (.ref 375))) [(.var 0),(.var 2),(.const (.str "ALL"))])]))] [(.ite (.meth (.var 0) "skip" [(.const (.str "LEADING"))]) [(.expr (.meth (.var 3) "extend" [(.call (.glob "counted_rows" (.val (.ref 375))) [(.var 0),(.var 2),(.const (.str "LEADING"))])]))] [.brk])])])]),(.ite (.cmp .Eq (.var 3) (.lis [])) [(.fault (.var 0) (.const (.str "CHARACTERS, ALL or LEADING must stand here")))] []),(.expr (.meth (.var 1) "extend" [(.var 3)]))]),
 (.ret (.call (.glob "tuple" (.val (.type "tuple"))) [(.var 1)]))]⟩ -- 382 [reader,rows,count,found,before,after]
noncomputable def Rn:Bv:=⟨2,[],2,[
 (.ite (.or [(.cmp .NotEq (.sub (.var 1) (.const (.int 0))) (.const (.str "text"))),(.and [(.cmp .IsNot (.var 0) (.const .none)),(.cmp .Eq (.sub (.var 0) (.const (.int 0))) (.const (.str "ref")))])]) [(.ret (.const (.bool true)))] []),
 (.ret (.cmp .Eq (.call (.glob "len" (.val (.builtin "len"))) [(.sub (.var 1) (.const (.int 1)))]) (.ite (.and [(.cmp .IsNot (.var 0) (.const .none)),(.cmp .Eq (.sub (.var 0) (.const (.int 0))) (.const (.str "text")))]) (.call (.glob "len" (.val (.builtin "len"))) [(.sub (.var 0) (.const (.int 1)))]) (.const (.int 1)))))]⟩ -- 389 [operand,by]
noncomputable def FA:Bv:=⟨2,[],4,[
 (.assign (.var 2) (.attr (.var 0) "at")),
 (.assign (.var 3) (.call (.glob "text_here" (.val (.ref 307))) [(.var 0)])),
 (.ite (.not (.call (.glob "widths_meet" (.val (.ref 389))) [(.var 1),(.var 3)])) [(.expr (.call (.glob "refuse_at" (.val (.ref 293))) [(.var 0),(.var 2),(.const (.str "what is put in must be as long as what goes"))]))] []),
 (.ret (.var 3))]⟩ -- 396 [reader,operand,mark,by]
noncomputable def Nt:Bv:=⟨2,[],6,[
 (.assign (.var 2) (.ite (.cmp .Eq (.var 1) (.const (.str "CHARACTERS"))) (.const .none) (.call (.glob "text_here" (.val (.ref 307))) [(.var 0)]))),
 (.expr (.meth (.var 0) "need" [(.const (.str "BY"))])),
 (.assign (.var 3) (.call (.glob "by_here" (.val (.ref 396))) [(.var 0),(.var 2)])),
 (.assign (.tup [(.var 4),(.var 5)]) (.call (.glob "bounds_here" (.val (.ref 361))) [(.var 0)])),
 (.ret (.tup [(.var 1),(.var 2),(.var 3),(.var 4),(.var 5)]))]⟩ -- 403 [reader,kind,operand,by,before,after]
noncomputable def F5:Bv:=⟨1,[],4,[
 (.assign (.var 1) (.mlis [])),
 (.while (.const (.bool true)) [(.assign (.var 2) (.const (.str ""))),(.forIn (.var 3) (.tup [(.const (.str "CHARACTERS")),(.const (.str "ALL")),(.const (.str "LEADING")),(.const (.str "FIRST"))]) [(.ite (.and [(.cmp .Eq (.var 2) (.const (.str ""))),(.meth (.var 0) "skip" [(.var 3)])]) [(.assign (.var 2) (.var 3))] [])]),(.ite (.cmp .Eq (.var 2) (.const (.str ""))) [.brk] []),(.expr (.meth (.var 1) "append" [(.call (.glob "exchange_here" (.val (.ref 403))) [(.var 0),(.var 2)])])),(.while (.and [(.cmp .NotEq (.var 2) (.const (.str "CHARACTERS"))),(.call (.glob "begins_text" (.val (.ref 314))) [(.var 0)])]) [(.expr (.meth (.var 1) "append" [(.call (.glob "exchange_here" (.val (.ref 403))) [(.var 0),(.var 2)])]))])]),
 (.ite (.cmp .Eq (.var 1) (.lis [])) [(.fault (.var 0) (.const (.str "CHARACTERS, ALL, LEADING or FIRST must stand here")))] []),
 (.ret (.call (.glob "tuple" (.val (.type "tuple"))) [(.var 1)]))]⟩ -- 410 [reader,rows,kind,word]
noncomputable def Pe:Bv:=⟨2,[],8,[
 (.expr (.meth (.var 0) "need" [(.const (.str "INSPECT"))])),
 (.assign (.var 2) (.call (.glob "ref_here" (.val (.ref 286))) [(.var 0)])),
 (.ite (.meth (.var 0) "skip" [(.const (.str "CONVERTING"))]) [(.assign (.var 3) (.call (.glob "text_here" (.val (.ref 307))) [(.var 0)])),(.expr (.meth (.var 0) "need" [(.const (.str "TO"))])),(.assign (.var 4) (.call (.glob "by_here" (.val (.ref 396))) [(.var 0),(.var 3)])),(.assign (.tup [(.var 5),(.var 6)]) (.call (.glob "bounds_here" (.val (.ref 361))) [(.var 0)])),(.ret (.tup [(.const (.str "convert")),(.var 2),(.var 3),(.var 4),(.var 5),(.var 6)]))] []),
 (.ite (.meth (.var 0) "skip" [(.const (.str "TALLYING"))]) [(.assign (.var 7) (.tup [(.const (.str "tally")),(.var 2),(.call (.glob "tallied_rows" (.val (.ref 382))) [(.var 0)])])),(.ite (.not (.meth (.var 0) "skip" [(.const (.str "REPLACING"))])) [(.ret (.var 7))] []),(.ret (.tup [(.const (.str "perform")),(.tup [(.const (.str "body")),(.tup [(.var 7),(.tup [(.const (.str "replace")),(.var 2),(.call (.glob "replaced_rows" (.val (.ref 410))) [(.var 0)])])])]),(.tup [(.const (.str "once"))])]))] []),
 (.expr (.meth (.var 0) "need" [(.const (.str "REPLACING"))])),
 (.ret (.tup [(.const (.str "replace")),(.var 2),(.call (.glob "replaced_rows" (.val (.ref 410))) [(.var 0)])]))]⟩ -- 417 [reader,read_body,ref,source,goal,before,after,tally]
noncomputable def Ri:Bv:=⟨1,[],1,[
 (.ret (.cmp .In (.bin .Add (.bin .Add (.const (.str " ")) (.var 0)) (.const (.str " "))) (.glob "RESERVED" (.str Sy))))]⟩ -- 424 [word]
noncomputable def Mg:Bv:=⟨1,[],2,[
 (.assign (.var 1) (.compL (.var 0) none (.call (.glob "ord" (.val (.builtin "ord"))) [(.var 0)]) [])),
 (.ite (.compL (.var 1) (some (.cmp .Gt (.var 0) (.glob "MOST_OCTET" (.int 255)))) (.var 0) []) [(.ret (.const .none))] []),
 (.ret (.call (.glob "bytes" (.val (.type "bytes"))) [(.var 1)]))]⟩ -- 429 [text,numbers]
noncomputable def Ib:Bv:=⟨1,[],3,[
 (.assign (.var 1) (.const (.int 5))),
 (.forIn (.var 2) (.cut (.var 0) none (some (.const (.int 24)))) [(.assign (.var 1) (.bin .Add (.bin .Add (.bin .Mult (.var 1) (.const (.int 1021))) (.bin .Mod (.call (.glob "abs" (.val (.builtin "abs"))) [(.call (.glob "int" (.val (.type "int"))) [(.var 2)])]) (.bin .Pow (.const (.int 10)) (.const (.int 40))))) (.bin .Mult (.bin .Mult (.const (.int 3)) (.bin .Pow (.const (.int 10)) (.const (.int 40)))) (.call (.glob "int" (.val (.type "int"))) [(.cmp .Lt (.var 2) (.const (.int 0)))]))))]),
 (.ret (.mpen (.var 1) (.call (.glob "len" (.val (.builtin "len"))) [(.cut (.var 0) none (some (.const (.int 24))))])))]⟩ -- 639 [script,number,cell]
noncomputable def V3:Bv:=⟨2,[],3,[
 (.ite (.cmp .Eq (.sub (.var 0) (.const (.int 0))) (.const (.int 0))) [(.setItem (.var 0) (.const (.int 1)) (.bin .Add (.sub (.var 0) (.const (.int 1))) (.const (.int 1)))),(.setItem (.var 0) (.const (.int 0)) (.bin .Pow (.bin .Add (.bin .Mult (.const (.int 1997)) (.sub (.var 0) (.const (.int 1)))) (.const (.int 6011))) (.const (.int 9))))] []),
 (.assign (.var 2) (.bin .Mod (.sub (.var 0) (.const (.int 0))) (.var 1))),
 (.setItem (.var 0) (.const (.int 0)) (.bin .FloorDiv (.sub (.var 0) (.const (.int 0))) (.var 1))),
 (.ret (.var 2))]⟩ -- 646 [pen,many,digit]
noncomputable def V5:Bv:=⟨2,[],2,[
 (.ret (.sub (.var 1) (.call (.glob "_law_draw" (.val (.ref 646))) [(.var 0),(.call (.glob "len" (.val (.builtin "len"))) [(.var 1)])])))]⟩ -- 653 [pen,some]
noncomputable def Tk:Bv:=⟨1,[],1,[
 (.ret (.compL (.meth (.var 0) "split" [(.const (.str " "))]) none (.tup [(.const (.str "word")),(.var 0)]) []))]⟩ -- 658 [text]
noncomputable def Ti:Bv:=⟨2,[],2,[
 (.ret (.ite (.cmp .Eq (.call (.glob "_law_draw" (.val (.ref 646))) [(.var 0),(.const (.int 2))]) (.const (.int 1))) (.call (.glob "_law_words" (.val (.ref 658))) [(.var 1)]) (.lis [])))]⟩ -- 665 [pen,text]
noncomputable def O3:Bv:=⟨1,[],1,[
 (.ret (.bin .Add (.bin .Add (.lis [(.tup [(.const (.str "sign")),(.const (.str "("))])]) (.var 0)) (.lis [(.tup [(.const (.str "sign")),(.const (.str ")"))])])))]⟩ -- 672 [inside]
noncomputable def Tj:Bv:=⟨1,[],1,[
 (.ret (.tup [(.lis [(.tup [(.const (.str "number")),(.call (.glob "str" (.val (.type "str"))) [(.var 0)])])]),(.tup [(.const (.str "number")),(.tup [(.var 0),(.const (.int 0))])])]))]⟩ -- 679 [number]
noncomputable def Ys:Bv:=⟨1,[],14,[
 (.assignT [1,2] [(.call (.glob "_law_pick" (.val (.ref 653))) [(.var 0),(.lis [(.const (.str "A")),(.const (.str "TOTAL-1")),(.const (.str "X9")),(.const (.str "I"))])]),(.call (.glob "_law_draw" (.val (.ref 646))) [(.var 0),(.const (.int 7))])]),
 (.assignT [3,4,5,6] [(.lis [(.tup [(.const (.str "word")),(.var 1)])]),(.tup []),(.tup []),(.const .none)]),
 (.ite (.cmp .In (.var 2) (.tup [(.const (.int 1)),(.const (.int 4))])) [(.assignT [3,4] [(.bin .Add (.var 3) (.call (.glob "_law_words" (.val (.ref 658))) [(.const (.str "OF REC"))])),(.tup [(.const (.str "REC"))])])] []),
 (.ite (.cmp .Eq (.var 2) (.const (.int 2))) [(.assignT [3,4] [(.bin .Add (.var 3) (.call (.glob "_law_words" (.val (.ref 658))) [(.const (.str "IN REC OF TOP"))])),(.tup [(.const (.str "REC")),(.const (.str "TOP"))])])] []),
 (.ite (.cmp .In (.var 2) (.tup [(.const (.int 3)),(.const (.int 6))])) [(.assign (.tup [(.var 7),(.var 8)]) (.call (.glob "_law_whole" (.val (.ref 679))) [(.bin .Add (.const (.int 1)) (.call (.glob "_law_draw" (.val (.ref 646))) [(.var 0),(.const (.int 9))]))])),(.assignT [3,5] [(.bin .Add (.var 3) (.call (.glob "_law_bracket" (.val (.ref 672))) [(.var 7)])),(.tup [(.var 8)])])] []),
 (.ite (.cmp .Eq (.var 2) (.const (.int 4))) [(.assign (.tup [(.var 9),(.var 8)]) (.call (.glob "_law_whole" (.val (.ref 679))) [(.bin .Add (.const (.int 1)) (.call (.glob "_law_draw" (.val (.ref 646))) [(.var 0),(.const (.int 9))]))])),(.assign (.var 10) (.tup [(.const (.str "ref")),(.const (.str "J")),(.tup []),(.tup []),(.const .none)])),(.assign (.var 3) (.bin .Add (.var 3) (.call (.glob "_law_bracket" (.val (.ref 672))) [(.bin .Add (.bin .Add (.lis [(.tup [(.const (.str "word")),(.const (.str "J"))]),(.tup [(.const (.str "sign")),(.const (.str "+"))])]) (.var 9)) (.lis [(.tup [(.const (.str "word")),(.const (.str "J"))])]))]))),(.assign (.var 5) (.tup [(.tup [(.const (.str "+")),(.var 10),(.var 8)]),(.var 10)]))] []),
 (.ite (.cmp .In (.var 2) (.tup [(.const (.int 5)),(.const (.int 6))])) [(.assign (.tup [(.var 11),(.var 8)]) (.call (.glob "_law_whole" (.val (.ref 679))) [(.bin .Add (.const (.int 1)) (.call (.glob "_law_draw" (.val (.ref 646))) [(.var 0),(.const (.int 9))]))])),(.assign (.tup [(.var 12),(.var 13)]) (.ite (.cmp .Eq (.call (.glob "_law_draw" (.val (.ref 646))) [(.var 0),(.const (.int 2))]) (.const (.int 1))) (.call (.glob "_law_whole" (.val (.ref 679))) [(.bin .Add (.const (.int 1)) (.call (.glob "_law_draw" (.val (.ref 646))) [(.var 0),(.const (.int 9))]))]) (.tup [(.lis []),(.const .none)]))),(.assignT [3,6] [(.bin .Add (.var 3) (.call (.glob "_law_bracket" (.val (.ref 672))) [(.bin .Add (.bin .Add (.var 11) (.lis [(.tup [(.const (.str "sign")),(.const (.str ":"))])])) (.var 12))])),(.tup [(.var 8),(.var 13)])])] []),
 (.ret (.tup [(.var 3),(.tup [(.const (.str "ref")),(.var 1),(.var 4),(.var 5),(.var 6)])]))]⟩ -- 686 [pen,ref_name,form,tokens,around,subs,part,inside,tree,one,index,begin,behind,last]
noncomputable def O5:Bv:=⟨2,[],3,[
 (.assign (.var 2) (.meth (.const (.str "")) "join" [(.compR (.var 1) (.call (.glob "_law_pick" (.val (.ref 653))) [(.var 1),(.lis [(.const (.str "A")),(.const (.str "z")),(.const (.str " ")),(.const (.str ",")),(.const (.str "7")),(.const (.str "\""))])]) [0])])),
 (.ret (.tup [(.lis [(.tup [(.const (.str "literal")),(.var 2)])]),(.tup [(.const (.str "text")),(.call (.glob "bytes" (.val (.type "bytes"))) [(.compL (.var 2) none (.call (.glob "ord" (.val (.builtin "ord"))) [(.var 0)]) [])])])]))]⟩ -- 691 [pen,many,text]
noncomputable def Rf:Bv:=⟨1,[],3,[
 (.assign (.tup [(.var 1),(.var 2)]) (.call (.glob "_law_pick" (.val (.ref 653))) [(.var 0),(.lis [(.tup [(.const (.str "SPACE")),(.const (.str "SPACE"))]),(.tup [(.const (.str "SPACES")),(.const (.str "SPACE"))]),(.tup [(.const (.str "ZERO")),(.const (.str "ZERO"))]),(.tup [(.const (.str "HIGH-VALUES")),(.const (.str "HIGH"))]),(.tup [(.const (.str "LOW-VALUE")),(.const (.str "LOW"))]),(.tup [(.const (.str "QUOTE")),(.const (.str "QUOTE"))])])])),
 (.ret (.tup [(.lis [(.tup [(.const (.str "word")),(.var 1)])]),(.tup [(.const (.str "figure")),(.var 2)])]))]⟩ -- 698 [pen,word,kind]
noncomputable def V7:Bv:=⟨1,[],2,[
 (.assign (.var 1) (.call (.glob "_law_draw" (.val (.ref 646))) [(.var 0),(.const (.int 4))])),
 (.ite (.cmp .Eq (.var 1) (.const (.int 0))) [(.ret (.call (.glob "_law_ref" (.val (.ref 686))) [(.var 0)]))] []),
 (.ret (.ite (.cmp .Eq (.var 1) (.const (.int 1))) (.call (.glob "_law_figure" (.val (.ref 698))) [(.var 0)]) (.call (.glob "_law_literal" (.val (.ref 691))) [(.var 0),(.bin .Add (.const (.int 1)) (.call (.glob "_law_draw" (.val (.ref 646))) [(.var 0),(.const (.int 3))]))])))]⟩ -- 705 [pen,form]
noncomputable def EZ:Bv:=⟨2,[],3,[
 (.assign (.var 2) (.call (.glob "_law_draw" (.val (.ref 646))) [(.var 0),(.const (.int 4))])),
 (.ite (.cmp .Eq (.var 2) (.const (.int 0))) [(.ret (.call (.glob "_law_ref" (.val (.ref 686))) [(.var 0)]))] []),
 (.ite (.cmp .Eq (.var 2) (.const (.int 1))) [(.ret (.call (.glob "_law_figure" (.val (.ref 698))) [(.var 0)]))] []),
 (.ite (.and [(.cmp .IsNot (.var 1) (.const .none)),(.cmp .Eq (.sub (.var 1) (.const (.int 0))) (.const (.str "ref")))]) [(.ret (.call (.glob "_law_literal" (.val (.ref 691))) [(.var 0),(.bin .Add (.const (.int 1)) (.call (.glob "_law_draw" (.val (.ref 646))) [(.var 0),(.const (.int 3))]))]))] []),
 (.ret (.call (.glob "_law_literal" (.val (.ref 691))) [(.var 0),(.ite (.and [(.cmp .IsNot (.var 1) (.const .none)),(.cmp .Eq (.sub (.var 1) (.const (.int 0))) (.const (.str "text")))]) (.call (.glob "len" (.val (.builtin "len"))) [(.sub (.var 1) (.const (.int 1)))]) (.const (.int 1)))]))]⟩ -- 712 [pen,operand,form]
noncomputable def Re:Bv:=⟨1,[],6,[
 (.assignT [1,2] [(.lis []),(.mdict ["BEFORE","AFTER"])]),
 (.forIn (.var 3) (.call (.glob "_law_pick" (.val (.ref 653))) [(.var 0),(.lis [(.lis []),(.lis [(.const (.str "BEFORE"))]),(.lis [(.const (.str "AFTER"))]),(.lis [(.const (.str "BEFORE")),(.const (.str "AFTER"))]),(.lis [(.const (.str "AFTER")),(.const (.str "BEFORE"))])])]) [(.assign (.tup [(.var 4),(.var 5)]) (.call (.glob "_law_text" (.val (.ref 705))) [(.var 0)])),(.assign (.var 1) (.bin .Add (.bin .Add (.bin .Add (.var 1) (.call (.glob "_law_words" (.val (.ref 658))) [(.var 3)])) (.call (.glob "_law_maybe" (.val (.ref 665))) [(.var 0),(.const (.str "INITIAL"))])) (.var 4))),(.setItem (.var 2) (.var 3) (.var 5))]),
 (.ret (.tup [(.var 1),(.tup [(.sub (.var 2) (.const (.str "BEFORE"))),(.sub (.var 2) (.const (.str "AFTER")))])]))]⟩ -- 719 [pen,tokens,found,word,more,tree]
noncomputable def O6:Bv:=⟨1,[],6,[
 (.assignT [1,2] [(.lis []),(.mlis [])]),
 (.forIn (.tup [(.var 3),(.var 4)]) (.tup [(.tup [(.const (.str "over")),(.lis [])]),(.tup [(.const (.str "not over")),(.lis [(.const (.str "NOT"))])])]) [(.ite (.cmp .Eq (.call (.glob "_law_draw" (.val (.ref 646))) [(.var 0),(.const (.int 2))]) (.const (.int 1))) [(.assign (.var 5) (.bin .Add (.const (.int 1)) (.call (.glob "_law_draw" (.val (.ref 646))) [(.var 0),(.const (.int 2))]))),(.assign (.var 1) (.bin .Add (.bin .Add (.bin .Add (.var 1) (.compL (.var 4) none (.tup [(.const (.str "word")),(.var 0)]) [])) (.call (.glob "_law_maybe" (.val (.ref 665))) [(.var 0),(.const (.str "ON"))])) (.call (.glob "_law_words" (.val (.ref 658))) [(.const (.str "OVERFLOW"))]))),(.assign (.var 1) (.bin .Add (.var 1) (.bin .Mult (.call (.glob "_law_words" (.val (.ref 658))) [(.const (.str "CONTINUE"))]) (.var 5)))),(.expr (.meth (.var 2) "append" [(.tup [(.var 3),(.bin .Mult (.tup [(.tup [(.const (.str "continue"))])]) (.var 5))])]))] [])]),
 (.ret (.tup [(.var 1),(.call (.glob "tuple" (.val (.type "tuple"))) [(.var 2)])]))]⟩ -- 724 [pen,tokens,branches,key,opening,many]
noncomputable def O7:Bv:=⟨1,[],3,[
 (.ite (.cmp .Eq (.call (.glob "_law_draw" (.val (.ref 646))) [(.var 0),(.const (.int 2))]) (.const (.int 0))) [(.ret (.tup [(.lis []),(.const .none)]))] []),
 (.assign (.tup [(.var 1),(.var 2)]) (.call (.glob "_law_ref" (.val (.ref 686))) [(.var 0)])),
 (.ret (.tup [(.bin .Add (.bin .Add (.call (.glob "_law_maybe" (.val (.ref 665))) [(.var 0),(.const (.str "WITH"))]) (.call (.glob "_law_words" (.val (.ref 658))) [(.const (.str "POINTER"))])) (.var 1)),(.var 2)]))]⟩ -- 731 [pen,tokens,ref]
noncomputable def G6:Bv:=⟨1,[],13,[
 (.assignT [1,2] [(.call (.glob "_law_words" (.val (.ref 658))) [(.const (.str "STRING"))]),(.mlis [])]),
 (.forR 3 none (.bin .Add (.const (.int 1)) (.call (.glob "_law_draw" (.val (.ref 646))) [(.var 0),(.const (.int 2))])) [(.assign (.var 4) (.compR (.bin .Add (.const (.int 1)) (.call (.glob "_law_draw" (.val (.ref 646))) [(.var 0),(.const (.int 2))])) (.call (.glob "_law_text" (.val (.ref 705))) [(.var 1)]) [0])),(.assign (.tup [(.var 5),(.var 6)]) (.ite (.cmp .Gt (.call (.glob "_law_draw" (.val (.ref 646))) [(.var 0),(.const (.int 3))]) (.const (.int 0))) (.call (.glob "_law_text" (.val (.ref 705))) [(.var 0)]) (.tup [(.call (.glob "_law_words" (.val (.ref 658))) [(.const (.str "SIZE"))]),(.const .none)]))),(.forIn (.var 7) (.var 4) [(.assign (.var 1) (.bin .Add (.var 1) (.sub (.var 7) (.const (.int 0))))),(.expr (.meth (.var 2) "append" [(.tup [(.sub (.var 7) (.const (.int 1))),(.var 6)])]))]),(.assign (.var 1) (.bin .Add (.bin .Add (.bin .Add (.var 1) (.call (.glob "_law_words" (.val (.ref 658))) [(.const (.str "DELIMITED"))])) (.call (.glob "_law_maybe" (.val (.ref 665))) [(.var 0),(.const (.str "BY"))])) (.var 5)))]),
 (.assign (.tup [(.var 8),(.var 9)]) (.call (.glob "_law_ref" (.val (.ref 686))) [(.var 0)])),
 (.assign (.tup [(.var 5),(.var 10)]) (.call (.glob "_law_pointer" (.val (.ref 731))) [(.var 0)])),
 (.assign (.tup [(.var 11),(.var 12)]) (.call (.glob "_law_phrases" (.val (.ref 724))) [(.var 0)])),
 (.ret (.tup [(.bin .Add (.bin .Add (.bin .Add (.bin .Add (.bin .Add (.var 1) (.call (.glob "_law_words" (.val (.ref 658))) [(.const (.str "INTO"))])) (.var 8)) (.var 5)) (.var 11)) (.call (.glob "_law_maybe" (.val (.ref 665))) [(.var 0),(.const (.str "END-STRING"))])),(.tup [(.const (.str "string")),(.call (.glob "tuple" (.val (.type "tuple"))) [(.var 2)]),(.var 9),(.var 10),(.var 12)])]))]⟩ -- 736 [pen,tokens,rows,group,found,more,tree,part,goal,ref,pointer,behind,branches]
noncomputable def E4:Bv:=⟨1,[],7,[
 (.assignT [1,2] [(.bin .Add (.call (.glob "_law_words" (.val (.ref 658))) [(.const (.str "DELIMITED"))]) (.call (.glob "_law_maybe" (.val (.ref 665))) [(.var 0),(.const (.str "BY"))])),(.mlis [])]),
 (.forR 3 none (.bin .Add (.const (.int 1)) (.call (.glob "_law_draw" (.val (.ref 646))) [(.var 0),(.const (.int 3))])) [(.assign (.tup [(.var 4),(.var 5)]) (.call (.glob "_law_text" (.val (.ref 705))) [(.var 0)])),(.assign (.var 6) (.cmp .Eq (.call (.glob "_law_draw" (.val (.ref 646))) [(.var 0),(.const (.int 2))]) (.const (.int 1)))),(.assign (.var 1) (.bin .Add (.bin .Add (.bin .Add (.var 1) (.ite (.cmp .Gt (.var 3) (.const (.int 0))) (.call (.glob "_law_words" (.val (.ref 658))) [(.const (.str "OR"))]) (.lis []))) (.ite (.var 6) (.call (.glob "_law_words" (.val (.ref 658))) [(.const (.str "ALL"))]) (.lis []))) (.var 4))),(.expr (.meth (.var 2) "append" [(.tup [(.var 5),(.var 6)])]))]),
 (.ret (.tup [(.var 1),(.call (.glob "tuple" (.val (.type "tuple"))) [(.var 2)])]))]⟩ -- 743 [pen,tokens,rows,turn,more,tree,is_all]
noncomputable def Et:Bv:=⟨2,[],19,[
 (.assign (.tup [(.var 2),(.var 3)]) (.call (.glob "_law_ref" (.val (.ref 686))) [(.var 0)])),
 (.assign (.tup [(.var 4),(.var 5)]) (.ite (.var 1) (.call (.glob "_law_delimiters" (.val (.ref 743))) [(.var 0)]) (.tup [(.lis []),(.tup [])]))),
 (.assignT [6,7] [(.bin .Add (.bin .Add (.bin .Add (.call (.glob "_law_words" (.val (.ref 658))) [(.const (.str "UNSTRING"))]) (.var 2)) (.var 4)) (.call (.glob "_law_words" (.val (.ref 658))) [(.const (.str "INTO"))])),(.mlis [])]),
 (.forR 8 none (.bin .Add (.const (.int 1)) (.call (.glob "_law_draw" (.val (.ref 646))) [(.var 0),(.const (.int 3))])) [(.assign (.tup [(.var 9),(.var 10)]) (.call (.glob "_law_ref" (.val (.ref 686))) [(.var 0)])),(.assignT [6,11] [(.bin .Add (.var 6) (.var 9)),(.mlis [(.var 10)])]),(.forIn (.var 12) (.tup [(.const (.str "DELIMITER")),(.const (.str "COUNT"))]) [(.ite (.and [(.var 1),(.cmp .Eq (.call (.glob "_law_draw" (.val (.ref 646))) [(.var 0),(.const (.int 2))]) (.const (.int 1)))]) [(.assign (.tup [(.var 13),(.var 10)]) (.call (.glob "_law_ref" (.val (.ref 686))) [(.var 0)])),(.assign (.var 6) (.bin .Add (.bin .Add (.bin .Add (.var 6) (.call (.glob "_law_words" (.val (.ref 658))) [(.var 12)])) (.call (.glob "_law_maybe" (.val (.ref 665))) [(.var 0),(.const (.str "IN"))])) (.var 13))),(.expr (.meth (.var 11) "append" [(.var 10)]))] [(.expr (.meth (.var 11) "append" [(.const .none)]))])]),(.expr (.meth (.var 7) "append" [(.call (.glob "tuple" (.val (.type "tuple"))) [(.var 11)])]))]),
 (.assign (.tup [(.var 13),(.var 14)]) (.call (.glob "_law_pointer" (.val (.ref 731))) [(.var 0)])),
 (.assignT [6,15] [(.bin .Add (.var 6) (.var 13)),(.const .none)]),
 (.ite (.cmp .Eq (.call (.glob "_law_draw" (.val (.ref 646))) [(.var 0),(.const (.int 2))]) (.const (.int 1))) [(.assign (.tup [(.var 13),(.var 15)]) (.call (.glob "_law_ref" (.val (.ref 686))) [(.var 0)])),(.assign (.var 6) (.bin .Add (.bin .Add (.bin .Add (.var 6) (.call (.glob "_law_words" (.val (.ref 658))) [(.const (.str "TALLYING"))])) (.call (.glob "_law_maybe" (.val (.ref 665))) [(.var 0),(.const (.str "IN"))])) (.var 13)))] []),
 (.assign (.tup [(.var 16),(.var 17)]) (.call (.glob "_law_phrases" (.val (.ref 724))) [(.var 0)])),
 (.assign (.var 18) (.tup [(.const (.str "unstring")),(.var 3),(.var 5),(.call (.glob "tuple" (.val (.type "tuple"))) [(.var 7)]),(.var 14),(.var 15),(.var 17)])),
 (.ret (.tup [(.bin .Add (.bin .Add (.var 6) (.var 16)) (.call (.glob "_law_maybe" (.val (.ref 665))) [(.var 0),(.const (.str "END-UNSTRING"))])),(.var 18)]))]⟩ -- 750 [pen,is_delimited,begin,source,ahead,delimiters,tokens,rows,turn,goal,ref,row,word,more,pointer,tally,behind,branches,tree]
noncomputable def Iz:Bv:=⟨1,[],12,[
 (.assignT [1,2] [(.lis []),(.mlis [])]),
 (.forR 3 none (.bin .Add (.const (.int 1)) (.call (.glob "_law_draw" (.val (.ref 646))) [(.var 0),(.const (.int 2))])) [(.assign (.tup [(.var 4),(.var 5)]) (.call (.glob "_law_ref" (.val (.ref 686))) [(.var 0)])),(.assign (.var 1) (.bin .Add (.bin .Add (.var 1) (.var 4)) (.call (.glob "_law_words" (.val (.ref 658))) [(.const (.str "FOR"))]))),(.forR 6 none (.bin .Add (.const (.int 1)) (.call (.glob "_law_draw" (.val (.ref 646))) [(.var 0),(.const (.int 2))])) [(.assign (.var 7) (.call (.glob "_law_pick" (.val (.ref 653))) [(.var 0),(.lis [(.const (.str "CHARACTERS")),(.const (.str "ALL")),(.const (.str "LEADING"))])])),(.assign (.var 1) (.bin .Add (.var 1) (.call (.glob "_law_words" (.val (.ref 658))) [(.var 7)]))),(.forR 8 none (.bin .Add (.const (.int 1)) (.ite (.cmp .NotEq (.var 7) (.const (.str "CHARACTERS"))) (.call (.glob "_law_draw" (.val (.ref 646))) [(.var 0),(.const (.int 2))]) (.const (.int 0)))) [(.assign (.tup [(.var 4),(.var 9)]) (.ite (.cmp .NotEq (.var 7) (.const (.str "CHARACTERS"))) (.call (.glob "_law_text" (.val (.ref 705))) [(.var 0)]) (.tup [(.lis []),(.const .none)]))),(.assign (.tup [(.var 10),(.var 11)]) (.call (.glob "_law_bounds" (.val (.ref 719))) [(.var 0)])),(.assign (.var 1) (.bin .Add (.bin .Add (.var 1) (.var 4)) (.var 10))),(.expr (.meth (.var 2) "append" [(.tup [(.var 5),(.var 7),(.var 9),(.sub (.var 11) (.const (.int 0))),(.sub (.var 11) (.const (.int 1)))])]))])])]),
 (.ret (.tup [(.var 1),(.call (.glob "tuple" (.val (.type "tuple"))) [(.var 2)])]))]⟩ -- 757 [pen,tokens,rows,turn,more,count,part,kind,place,tree,behind,bounds]
noncomputable def Il:Bv:=⟨1,[],12,[
 (.assignT [1,2] [(.lis []),(.mlis [])]),
 (.forR 3 none (.bin .Add (.const (.int 1)) (.call (.glob "_law_draw" (.val (.ref 646))) [(.var 0),(.const (.int 3))])) [(.assign (.var 4) (.call (.glob "_law_pick" (.val (.ref 653))) [(.var 0),(.lis [(.const (.str "CHARACTERS")),(.const (.str "ALL")),(.const (.str "LEADING")),(.const (.str "FIRST"))])])),(.assign (.var 1) (.bin .Add (.var 1) (.call (.glob "_law_words" (.val (.ref 658))) [(.var 4)]))),(.forR 5 none (.bin .Add (.const (.int 1)) (.ite (.cmp .NotEq (.var 4) (.const (.str "CHARACTERS"))) (.call (.glob "_law_draw" (.val (.ref 646))) [(.var 0),(.const (.int 2))]) (.const (.int 0)))) [(.assign (.tup [(.var 6),(.var 7)]) (.ite (.cmp .NotEq (.var 4) (.const (.str "CHARACTERS"))) (.call (.glob "_law_text" (.val (.ref 705))) [(.var 0)]) (.tup [(.lis []),(.const .none)]))),(.assign (.tup [(.var 8),(.var 9)]) (.call (.glob "_law_by" (.val (.ref 712))) [(.var 0),(.var 7)])),(.assign (.tup [(.var 10),(.var 11)]) (.call (.glob "_law_bounds" (.val (.ref 719))) [(.var 0)])),(.assign (.var 1) (.bin .Add (.bin .Add (.bin .Add (.bin .Add (.var 1) (.var 6)) (.call (.glob "_law_words" (.val (.ref 658))) [(.const (.str "BY"))])) (.var 8)) (.var 10))),(.expr (.meth (.var 2) "append" [(.tup [(.var 4),(.var 7),(.var 9),(.sub (.var 11) (.const (.int 0))),(.sub (.var 11) (.const (.int 1)))])]))])]),
 (.ret (.tup [(.var 1),(.call (.glob "tuple" (.val (.type "tuple"))) [(.var 2)])]))]⟩ -- 764 [pen,tokens,rows,turn,kind,place,more,tree,other,by,behind,bounds]
noncomputable def O4:Bv:=⟨2,[],13,[
 (.assign (.tup [(.var 2),(.var 3)]) (.call (.glob "_law_ref" (.val (.ref 686))) [(.var 0)])),
 (.assign (.var 2) (.bin .Add (.call (.glob "_law_words" (.val (.ref 658))) [(.const (.str "INSPECT"))]) (.var 2))),
 (.ite (.cmp .Eq (.var 1) (.const (.int 3))) [(.assign (.tup [(.var 4),(.var 5)]) (.call (.glob "_law_text" (.val (.ref 705))) [(.var 0)])),(.assign (.tup [(.var 6),(.var 7)]) (.call (.glob "_law_by" (.val (.ref 712))) [(.var 0),(.var 5)])),(.assign (.tup [(.var 8),(.var 9)]) (.call (.glob "_law_bounds" (.val (.ref 719))) [(.var 0)])),(.assign (.var 10) (.tup [(.const (.str "convert")),(.var 3),(.var 5),(.var 7),(.sub (.var 9) (.const (.int 0))),(.sub (.var 9) (.const (.int 1)))])),(.ret (.tup [(.bin .Add (.bin .Add (.bin .Add (.bin .Add (.bin .Add (.var 2) (.call (.glob "_law_words" (.val (.ref 658))) [(.const (.str "CONVERTING"))])) (.var 4)) (.call (.glob "_law_words" (.val (.ref 658))) [(.const (.str "TO"))])) (.var 6)) (.var 8)),(.var 10)]))] []),
 (.ite (.cmp .Eq (.var 1) (.const (.int 1))) [(.assign (.tup [(.var 4),(.var 11)]) (.call (.glob "_law_replaced" (.val (.ref 764))) [(.var 0)])),(.ret (.tup [(.bin .Add (.bin .Add (.var 2) (.call (.glob "_law_words" (.val (.ref 658))) [(.const (.str "REPLACING"))])) (.var 4)),(.tup [(.const (.str "replace")),(.var 3),(.var 11)])]))] []),
 (.assign (.tup [(.var 4),(.var 11)]) (.call (.glob "_law_tallied" (.val (.ref 757))) [(.var 0)])),
 (.assign (.var 2) (.bin .Add (.bin .Add (.var 2) (.call (.glob "_law_words" (.val (.ref 658))) [(.const (.str "TALLYING"))])) (.var 4))),
 (.ite (.cmp .Eq (.var 1) (.const (.int 0))) [(.ret (.tup [(.var 2),(.tup [(.const (.str "tally")),(.var 3),(.var 11)])]))] []),
 (.assign (.tup [(.var 4),(.var 12)]) (.call (.glob "_law_replaced" (.val (.ref 764))) [(.var 0)])),
 (.ret (.tup [(.bin .Add (.bin .Add (.var 2) (.call (.glob "_law_words" (.val (.ref 658))) [(.const (.str "REPLACING"))])) (.var 4)),(.tup [(.const (.str "perform")),(.tup [(.const (.str "body")),(.tup [(.tup [(.const (.str "tally")),(.var 3),(.var 11)]),(.tup [(.const (.str "replace")),(.var 3),(.var 12)])])]),(.tup [(.const (.str "once"))])])]))]⟩ -- 771 [pen,form,tokens,ref,more,source,other,goal,behind,bounds,tree,rows,others]
noncomputable def V4:Bv:=⟨2,[],2,[
 (.ite (.cmp .Eq (.var 1) (.const (.int 0))) [(.ret (.call (.glob "_law_string" (.val (.ref 736))) [(.var 0)]))] []),
 (.ret (.ite (.cmp .Lt (.var 1) (.const (.int 3))) (.call (.glob "_law_unstring" (.val (.ref 750))) [(.var 0),(.cmp .Eq (.var 1) (.const (.int 1)))]) (.call (.glob "_law_inspect" (.val (.ref 771))) [(.var 0),(.bin .Sub (.var 1) (.const (.int 3)))])))]⟩ -- 778 [pen,form]
noncomputable def V2:Bv:=⟨1,[],2,[
 (.assign (.var 1) (.mlis [])),
 (.while (.meth (.var 0) "skip" [(.const (.str "CONTINUE"))]) [(.expr (.meth (.var 1) "append" [(.tup [(.const (.str "continue"))])]))]),
 (.ret (.call (.glob "tuple" (.val (.type "tuple"))) [(.var 1)]))]⟩ -- 785 [reader,found]
noncomputable def G5:Bv:=⟨1,[],1,[
 (.ret (.call (.glob "Reader" (.val (.ref 598))) [(.compE (.var 0) (.call (.glob "Token" (.val (.ref 628))) [(.var 1),(.var 2),(.tup [(.bin .Add (.var 0) (.const (.int 1))),(.const (.int 12))])]))]))]⟩ -- 790 [tokens]
noncomputable def V6:Bv:=⟨1,[],2,[
 (.assign (.var 1) (.attr (.meth (.var 0) "peek" []) "worth")),
 (.ite (.cmp .Eq (.var 1) (.const (.str "STRING"))) [(.ret (.call (.glob "read_string" (.val (.ref 333))) [(.var 0),(.glob "_law_body" (.val (.ref 785)))]))] []),
 (.ret (.ite (.cmp .Eq (.var 1) (.const (.str "UNSTRING"))) (.call (.glob "read_unstring" (.val (.ref 354))) [(.var 0),(.glob "_law_body" (.val (.ref 785)))]) (.call (.glob "read_inspect" (.val (.ref 417))) [(.var 0),(.glob "_law_body" (.val (.ref 785)))])))]⟩ -- 797 [reader,verb]
noncomputable def Tl:Bv:=⟨2,[],12,[
 (.assignT [2,3,4] [(.sub (.call (.glob "_law_ref" (.val (.ref 686))) [(.var 0)]) (.const (.int 0))),(.sub (.call (.glob "_law_text" (.val (.ref 705))) [(.var 0)]) (.const (.int 0))),(.sub (.call (.glob "_law_ref" (.val (.ref 686))) [(.var 0)]) (.const (.int 0)))]),
 (.assignT [5,6] [(.sub (.call (.glob "_law_literal" (.val (.ref 691))) [(.var 0),(.const (.int 2))]) (.const (.int 0))),(.sub (.call (.glob "_law_literal" (.val (.ref 691))) [(.var 0),(.const (.int 1))]) (.const (.int 0)))]),
 (.assignT [7,8] [(.bin .Add (.call (.glob "_law_words" (.val (.ref 658))) [(.const (.str "INSPECT"))]) (.var 2)),(.call (.glob "_law_words" (.val (.ref 658))) [(.const (.str "STRING"))])]),
 (.ite (.cmp .Eq (.var 1) (.const (.int 0))) [(.ret (.tup [(.bin .Add (.bin .Add (.bin .Add (.var 8) (.lis [(.tup [(.const (.str "number")),(.const (.str "5"))])])) (.call (.glob "_law_words" (.val (.ref 658))) [(.const (.str "DELIMITED SIZE INTO"))])) (.var 4)),(.const (.int 1))]))] []),
 (.ite (.cmp .Eq (.var 1) (.const (.int 1))) [(.ret (.tup [(.bin .Add (.bin .Add (.bin .Add (.bin .Add (.var 8) (.var 3)) (.var 5)) (.call (.glob "_law_words" (.val (.ref 658))) [(.const (.str "INTO"))])) (.var 4)),(.bin .Add (.const (.int 1)) (.call (.glob "len" (.val (.builtin "len"))) [(.bin .Add (.var 3) (.var 5))]))]))] []),
 (.ite (.cmp .Eq (.var 1) (.const (.int 2))) [(.assign (.var 9) (.bin .Add (.bin .Add (.bin .Add (.call (.glob "_law_words" (.val (.ref 658))) [(.const (.str "UNSTRING"))]) (.var 2)) (.call (.glob "_law_words" (.val (.ref 658))) [(.const (.str "INTO"))])) (.var 4))),(.ret (.tup [(.bin .Add (.var 9) (.call (.glob "_law_words" (.val (.ref 658))) [(.call (.glob "_law_pick" (.val (.ref 653))) [(.var 0),(.lis [(.const (.str "DELIMITER IN A")),(.const (.str "COUNT B"))])])])),(.call (.glob "len" (.val (.builtin "len"))) [(.var 9)])]))] []),
 (.ite (.cmp .Eq (.var 1) (.const (.int 3))) [(.ret (.tup [(.bin .Add (.bin .Add (.bin .Add (.call (.glob "_law_words" (.val (.ref 658))) [(.const (.str "UNSTRING"))]) (.var 5)) (.call (.glob "_law_words" (.val (.ref 658))) [(.const (.str "INTO"))])) (.var 4)),(.const (.int 1))]))] []),
 (.ite (.cmp .Lt (.var 1) (.const (.int 8))) [(.assign (.var 10) (.lis [(.bin .Add (.bin .Add (.call (.glob "_law_words" (.val (.ref 658))) [(.const (.str "REPLACING ALL"))]) (.var 5)) (.call (.glob "_law_words" (.val (.ref 658))) [(.const (.str "BY"))])),(.call (.glob "_law_words" (.val (.ref 658))) [(.const (.str "REPLACING CHARACTERS BY"))])])),(.assign (.var 10) (.bin .Add (.var 10) (.lis [(.bin .Add (.bin .Add (.call (.glob "_law_words" (.val (.ref 658))) [(.const (.str "CONVERTING"))]) (.var 6)) (.call (.glob "_law_words" (.val (.ref 658))) [(.const (.str "TO"))])),(.call (.glob "_law_words" (.val (.ref 658))) [(.const (.str "REPLACING FIRST SPACES BY"))])]))),(.assign (.var 11) (.ite (.cmp .Eq (.var 1) (.const (.int 4))) (.var 6) (.var 5))),(.ret (.tup [(.bin .Add (.bin .Add (.var 7) (.sub (.var 10) (.bin .Sub (.var 1) (.const (.int 4))))) (.var 11)),(.call (.glob "len" (.val (.builtin "len"))) [(.bin .Add (.var 7) (.sub (.var 10) (.bin .Sub (.var 1) (.const (.int 4)))))])]))] []),
 (.ite (.cmp .Eq (.var 1) (.const (.int 8))) [(.assign (.var 9) (.bin .Add (.bin .Add (.bin .Add (.var 7) (.call (.glob "_law_words" (.val (.ref 658))) [(.const (.str "TALLYING"))])) (.var 4)) (.call (.glob "_law_words" (.val (.ref 658))) [(.const (.str "FOR"))]))),(.ret (.tup [(.bin .Add (.var 9) (.var 3)),(.call (.glob "len" (.val (.builtin "len"))) [(.var 9)])]))] []),
 (.ite (.cmp .Eq (.var 1) (.const (.int 9))) [(.ret (.tup [(.var 7),(.call (.glob "len" (.val (.builtin "len"))) [(.var 7)])]))] []),
 (.ite (.cmp .Eq (.var 1) (.const (.int 10))) [(.ret (.tup [(.bin .Add (.bin .Add (.bin .Add (.bin .Add (.var 7) (.call (.glob "_law_words" (.val (.ref 658))) [(.const (.str "REPLACING"))])) (.var 3)) (.call (.glob "_law_words" (.val (.ref 658))) [(.const (.str "BY"))])) (.var 6)),(.bin .Add (.call (.glob "len" (.val (.builtin "len"))) [(.var 7)]) (.const (.int 1)))]))] []),
 (.ite (.cmp .Eq (.var 1) (.const (.int 11))) [(.ret (.tup [(.bin .Add (.bin .Add (.bin .Add (.bin .Add (.var 8) (.call (.glob "_law_words" (.val (.ref 658))) [(.const (.str "ALL"))])) (.var 5)) (.call (.glob "_law_words" (.val (.ref 658))) [(.const (.str "DELIMITED SIZE INTO"))])) (.var 4)),(.const (.int 1))]))] []),
 (.ite (.cmp .Eq (.var 1) (.const (.int 12))) [(.assign (.var 9) (.bin .Add (.bin .Add (.bin .Add (.bin .Add (.var 8) (.var 3)) (.call (.glob "_law_words" (.val (.ref 658))) [(.const (.str "DELIMITED SIZE INTO"))])) (.var 4)) (.call (.glob "_law_words" (.val (.ref 658))) [(.call (.glob "_law_pick" (.val (.ref 653))) [(.var 0),(.lis [(.const (.str "OVERFLOW")),(.const (.str "NOT ON OVERFLOW"))])])]))),(.ret (.tup [(.var 9),(.call (.glob "len" (.val (.builtin "len"))) [(.var 9)])]))] []),
 (.assign (.var 9) (.bin .Add (.bin .Add (.call (.glob "_law_words" (.val (.ref 658))) [(.const (.str "UNSTRING"))]) (.var 2)) (.call (.glob "_law_words" (.val (.ref 658))) [(.const (.str "DELIMITED BY"))]))),
 (.ret (.tup [(.bin .Add (.bin .Add (.bin .Add (.var 9) (.lis [(.tup [(.const (.str "number")),(.const (.str "7"))])])) (.call (.glob "_law_words" (.val (.ref 658))) [(.const (.str "INTO"))])) (.var 4)),(.call (.glob "len" (.val (.builtin "len"))) [(.var 9)])]))]⟩ -- 804 [pen,kind,tokens,text,goal,pair,one,inspect,string,head,lead,wrong]
noncomputable def R4:Bv:=⟨1,[],8,[
 (.assign (.var 1) (.call (.glob "_law_pen" (.val (.ref 639))) [(.var 0)])),
 (.forR 2 none (.const (.int 7)) [(.assign (.tup [(.var 3),(.var 4)]) (.call (.glob "_law_form" (.val (.ref 778))) [(.var 1),(.var 2)])),(.assign (.var 5) (.call (.glob "_law_reader" (.val (.ref 790))) [(.bin .Add (.var 3) (.lis [(.tup [(.const (.str "sign")),(.const (.str "."))])]))])),(.ite (.or [(.cmp .NotEq (.call (.glob "_law_read" (.val (.ref 797))) [(.var 5)]) (.var 4)),(.cmp .NotEq (.attr (.var 5) "at") (.call (.glob "len" (.val (.builtin "len"))) [(.var 3)]))]) [(.ret (.const (.bool false)))] [])]),
 (.forR 6 none (.const (.int 14)) [(.assign (.tup [(.var 3),(.var 7)]) (.call (.glob "_law_wrong" (.val (.ref 804))) [(.var 1),(.var 6)])),(.ite (.not (.call (.glob "_law_refused" (.val (.ref 811))) [(.bin .Add (.var 3) (.lis [(.tup [(.const (.str "sign")),(.const (.str "."))])])),(.var 7)])) [(.ret (.const (.bool false)))] [])]),
 (.ret (.const (.bool true)))]⟩ -- 818 [script,pen,form,tokens,tree,reader,kind,index]
noncomputable def Rb:Bv:=⟨2,[.int 0],2,[
 (.ite (.cmp .Lt (.bin .Add (.attr (.var 0) "at") (.var 1)) (.call (.glob "len" (.val (.builtin "len"))) [(.attr (.var 0) "tokens")])) [(.ret (.sub (.attr (.var 0) "tokens") (.bin .Add (.attr (.var 0) "at") (.var 1))))] []),
 (.ret (.const .none))]⟩ -- 452 [self,ahead]
noncomputable def Rd:Bv:=⟨1,[],2,[
 (.assign (.var 1) (.meth (.var 0) "peek" [])),
 (.ite (.cmp .Is (.var 1) (.const .none)) [(.fault (.var 0) (.const (.str "the text ends too early")))] []),
 (.setAt (.var 0) (.bin .Add (.attr (.var 0) "at") (.const (.int 1)))),
 (.ret (.var 1))]⟩ -- 473 [self,token]
noncomputable def Ma:Bv:=⟨3,[.int 0],4,[
 (.assign (.var 3) (.meth (.var 0) "peek" [(.var 2)])),
 (.ret (.and [(.cmp .IsNot (.var 3) (.const .none)),(.cmp .Eq (.attr (.var 3) "kind") (.var 1))]))]⟩ -- 481 [self,kind,ahead,token]
noncomputable def Md:Bv:=⟨2,[],4,[
 (.assign (.var 2) (.const (.int 0))),
 (.forIn (.var 3) (.meth (.var 1) "split" [(.const (.str " "))]) [(.ite (.or [(.not (.meth (.var 0) "is_kind" [(.const (.str "word")),(.var 2)])),(.cmp .NotEq (.attr (.meth (.var 0) "peek" [(.var 2)]) "worth") (.var 3))]) [(.ret (.const (.bool false)))] []),(.assign (.var 2) (.bin .Add (.var 2) (.const (.int 1))))]),
 (.ret (.const (.bool true)))]⟩ -- 488 [self,words,ahead,word]
noncomputable def Rc:Bv:=⟨2,[],2,[
 (.ite (.not (.meth (.var 0) "is_word" [(.var 1)])) [(.ret (.const (.bool false)))] []),
 (.setAt (.var 0) (.bin .Add (.attr (.var 0) "at") (.call (.glob "len" (.val (.builtin "len"))) [(.meth (.var 1) "split" [(.const (.str " "))])]))),
 (.ret (.const (.bool true)))]⟩ -- 495 [self,words]
noncomputable def Ra:Bv:=⟨2,[],2,[
 (.ite (.not (.meth (.var 0) "skip" [(.var 1)])) [(.fault (.var 0) (.bin .Add (.var 1) (.const (.str " is asked here"))))] [])]⟩ -- 502 [self,words]
noncomputable def Np:Bv:=⟨2,[],3,[
 (.forIn (.var 2) (.meth (.var 1) "split" [(.const (.str " "))]) [(.ite (.meth (.var 0) "skip" [(.var 2)]) [(.ret (.var 2))] [])]),
 (.ret (.const (.str "")))]⟩ -- 509 [self,words,word]
noncomputable def Mb:Bv:=⟨2,[.int 0],2,[
 (.ret (.and [(.meth (.var 0) "is_kind" [(.const (.str "word")),(.var 1)]),(.not (.call (.glob "is_reserved" (.val (.ref 424))) [(.attr (.meth (.var 0) "peek" [(.var 1)]) "worth")]))]))]⟩ -- 524 [self,ahead]
noncomputable def Q9:Bv:=⟨1,[],1,[
 (.ite (.not (.meth (.var 0) "is_name" [])) [(.fault (.var 0) (.const (.str "a name is asked here")))] []),
 (.ret (.attr (.meth (.var 0) "take" []) "worth"))]⟩ -- 531 [self]
noncomputable def Mc:Bv:=⟨3,[.int 0],3,[
 (.ret (.and [(.meth (.var 0) "is_kind" [(.const (.str "sign")),(.var 2)]),(.cmp .Eq (.attr (.meth (.var 0) "peek" [(.var 2)]) "worth") (.var 1))]))]⟩ -- 546 [self,sign,ahead]
noncomputable def Kk:Bv:=⟨2,[],2,[
 (.ite (.not (.meth (.var 0) "is_sign" [(.var 1)])) [(.ret (.const (.bool false)))] []),
 (.setAt (.var 0) (.bin .Add (.attr (.var 0) "at") (.const (.int 1)))),
 (.ret (.const (.bool true)))]⟩ -- 553 [self,sign]
noncomputable def Kj:Bv:=⟨2,[],2,[
 (.ite (.not (.meth (.var 0) "skip_sign" [(.var 1)])) [(.fault (.var 0) (.bin .Add (.var 1) (.const (.str " is asked here"))))] [])]⟩ -- 560 [self,sign]
noncomputable def Ki:Bv:=⟨1,[],1,[
 (.ite (.or [(.meth (.var 0) "is_sign" [(.const (.str "+"))]),(.meth (.var 0) "is_sign" [(.const (.str "-"))])]) [(.ret (.meth (.var 0) "is_kind" [(.const (.str "number")),(.const (.int 1))]))] []),
 (.ret (.meth (.var 0) "is_kind" [(.const (.str "number"))]))]⟩ -- 567 [self]
noncomputable def Nq:Bv:=⟨1,[],3,[
 (.ite (.not (.meth (.var 0) "is_number" [])) [(.fault (.var 0) (.const (.str "a number is asked here")))] []),
 (.assign (.var 1) (.meth (.var 0) "skip_sign" [(.const (.str "-"))])),
 (.ite (.not (.var 1)) [(.expr (.meth (.var 0) "skip_sign" [(.const (.str "+"))]))] []),
 (.assign (.var 2) (.call (.glob "read_decimal" (.val (.ref 131))) [(.attr (.meth (.var 0) "take" []) "worth")])),
 (.ret (.ite (.var 1) (.call (.glob "negated" (.val (.ref 96))) [(.var 2)]) (.var 2)))]⟩ -- 574 [self,is_below,found]
noncomputable def Nn:Bv:=⟨1,[],2,[
 (.ite (.not (.meth (.var 0) "is_kind" [(.const (.str "literal"))])) [(.fault (.var 0) (.const (.str "a literal is asked here")))] []),
 (.assign (.var 1) (.call (.glob "octets_of_text" (.val (.ref 429))) [(.attr (.meth (.var 0) "peek" []) "worth")])),
 (.ite (.cmp .Is (.var 1) (.const .none)) [(.fault (.var 0) (.const (.str "a sign that is no octet")))] []),
 (.setAt (.var 0) (.bin .Add (.attr (.var 0) "at") (.const (.int 1)))),
 (.ret (.var 1))]⟩ -- 595 [self,found]
noncomputable def VV:List (Nat×Bv):=[
 (89,FC),
 (124,Yw),
 (131,Pd),
 (139,O9),
 (146,K2),
 (153,V9),
 (160,Pj),
 (167,Yt),
 (174,Rl),
 (181,Pf),
 (188,K1),
 (195,Tp),
 (202,Yu),
 (209,Ph),
 (216,Rk),
 (230,Tm),
 (237,Pg),
 (244,Tq),
 (251,Pb),
 (258,Mh),
 (265,V8),
 (272,Nr),
 (279,Mf),
 (286,Yv),
 (293,Wa),
 (300,Pa),
 (307,Wc),
 (314,Rg),
 (321,Pc),
 (326,G7),
 (333,Rm),
 (340,K0),
 (347,Pk),
 (354,Im),
 (361,Rh),
 (368,Rj),
 (375,O8),
 (382,Gh),
 (389,Rn),
 (396,FA),
 (403,Nt),
 (410,F5),
 (417,Pe),
 (424,Ri),
 (429,Mg),
 (639,Ib),
 (646,V3),
 (653,V5),
 (658,Tk),
 (665,Ti),
 (672,O3),
 (679,Tj),
 (686,Ys),
 (691,O5),
 (698,Rf),
 (705,V7),
 (712,EZ),
 (719,Re),
 (724,O6),
 (731,O7),
 (736,G6),
 (743,E4),
 (750,Et),
 (757,Iz),
 (764,Il),
 (771,O4),
 (778,V4),
 (785,V2),
 (790,G5),
 (797,V6),
 (804,Tl),
 (818,R4),
 (452,Rb),
 (473,Rd),
 (481,Ma),
 (488,Md),
 (495,Rc),
 (502,Ra),
 (509,Np),
 (524,Mb),
 (531,Q9),
 (546,Mc),
 (553,Kk),
 (560,Kj),
 (567,Ki),
 (574,Nq),
 (595,Nn)]
noncomputable def mS:List (String×Nat):=[("peek",452),("take",473),("is_kind",481),("is_word",488),("skip",495),("need",502),("one_of",509),("is_name",524),("name",531),("is_sign",546),("skip_sign",553),("need_sign",560),("is_number",567),("signed",574),("octets",595)]
noncomputable def C6:Nat:=628
noncomputable def B3:Nat:=598
noncomputable def Fj:Nat:=811
noncomputable def Hg:Nat:=202
noncomputable def Fi:Nat:=797
noncomputable def Fw:Nat:=790
noncomputable def J4 (a:Nat):Option Bv:=(VV.find? fun p=>p.1==a).map (·.2)
noncomputable def Gw (n:Str):Option Nat:=(mS.find? fun p=>Cb (Aa p.1) n).map (·.2)
section
variable {α β:Type}
noncomputable def nG (l:List α) (f:α→Option β):Option β:=match l with
 | [a]=>f a
 | _=>none
noncomputable def jQ (l:List α) (f:α→α→Option β):Option β:=match l with
 | [a,b]=>f a b
 | _=>none
noncomputable def pr3 (l:List α) (f:α→α→α→Option β):Option β:=match l with
 | [a,b,c]=>f a b c
 | _=>none
noncomputable def wT (m:MV) (f:List MV→Option α):Option α:=match m with
 | .tup i=>f i
 | _=>none
end
noncomputable def Ve (l:List RV):Option MV:=pr3 l fun a b c=>wV a fun a=>wS a fun k=>wV b fun b=>wS b fun w=>wV c fun c=>wT c fun l=>jQ l fun i j=>wI i fun i=>wI j fun j=>if j=12 then some (.tok k w i) else none
noncomputable def NE (i:Int) (k:Nat):B1 RV→B1 RV
 | .ok _ σ=>.ok (.v (.bool false)) (σ.take k)
 | .exc e σ=>.ok (.v (.bool (decide (e=i+1)))) (σ.take k)
 | .no=>.no
noncomputable def Cm:Nat→Call
 | 0=>fun Z Z Z=>.no
 | n+1=>fun f args σ=>match f with
  | .val (.ref a)=>
   if a=C6 then Ep σ ((Ve args).map .v)
   else if a=B3 then(nG args cH).elim .no fun ts=>.ok (.loc σ.length) (σ++[.rdr ts 0])
   else if a=Fj then(jQ args fun t i=>(Hi i).map fun i=>(t,i)).elim .no fun p=>NE p.2 σ.length ((Cm n (.val (.ref Fw)) [p.1] σ).bind fun r σ=>Cm n (.val (.ref Fi)) [r] σ)
   else(J4 a).elim .no fun d=>Ef (Cm n) d args σ
  | .str m=>((Gw m).bind J4).elim .no fun d=>Ef (Cm n) d args σ
  | .clo d=>(nG args some).elim .no fun x=>Cm n (.val (.ref Hg)) [x,.v (.int (d+1))] σ
  | _=>.no
noncomputable def Z7 (n:Nat) (ns:List Int):B1 RV:=Cm n (.val (.ref 818)) [.v (.lis (ns.map .int))] []
namespace Q
inductive LV where
 | v (m:MV)
 | b
 | l (k:Nat)
 | un
set_option genCtorIdx false in
inductive Oc (B:Type) where
 | next (ρ:List LV) (b:B) (ls:Bu)
 | brk (ρ:List LV) (b:B) (ls:Bu)
 | ret (a:LV) (b:B) (ls:Bu)
 | exc (m:Int) (b:B)
noncomputable def Oc.ctorIdx {B:Type} (x:Oc B):Nat:=x.casesOn (fun Z Z Z=>0) (fun Z Z Z=>1) (fun Z Z Z=>2) fun Z Z=>3
inductive Qn (B:Type) where
 | call (f:MV) (as:List LV) (b:B) (ls:Bu)
 | exp (e:ME) (ρ:List LV) (b:B) (ls:Bu)
 | stm (s:MS) (ρ:List LV) (b:B) (ls:Bu)
 | chk (t:Bool)
 | set (i:Int) (b:B)
 | flt (b:B)
 | dec (t:Bool)
 | opt (o:Option MV)
 | put (x m:MV) (b:B)
inductive An (B:Type) where
 | l (a:LV) (b:B) (ls:Bu)
 | x (m:Int) (b:B)
 | o (o:Oc B)
 | b (b:B)
 | t (t:Bool)
 | m (m:MV)
 | u
inductive Fr (B:Type) where
 | fin (o:Oc B)
 | no
 | ask (q:Qn B) (k:An B→Fr B)
section
variable {B:Type} {α:Sort u}
noncomputable def An.onL (z:An B) (d:α) (k:LV→B→Bu→α) (x:Int→B→α):α:=match z with
 | .l a y ls=>k a y ls
 | .x i y=>x i y
 | _=>d
noncomputable def An.onO (z:An B) (d:α) (k:Oc B→α):α:=match z with
 | .o a=>k a
 | _=>d
noncomputable def An.onB (z:An B) (d:α) (k:B→α):α:=match z with
 | .b a=>k a
 | _=>d
noncomputable def An.onT (z:An B) (d:α) (k:Bool→α):α:=match z with
 | .t a=>k a
 | _=>d
noncomputable def An.onM (z:An B) (d:α) (k:MV→α):α:=match z with
 | .m a=>k a
 | _=>d
end
section
variable {B:Type}
noncomputable abbrev KF (B:Type):=LV→B→Bu→Fr B
noncomputable abbrev KO (B:Type):=Oc B→Fr B
noncomputable def Fr.call (f:MV) (as:List LV) (b:B) (ls:Bu) (k:KF B):Fr B:=.ask (.call f as b ls) fun a=>a.onL .no k fun m b=>.fin (.exc m b)
noncomputable def Fr.exp (e:ME) (ρ:List LV) (b:B) (ls:Bu) (k:KF B):Fr B:=.ask (.exp e ρ b ls) fun a=>a.onL .no k fun Z Z=>.no
noncomputable def Fr.stm (s:MS) (ρ:List LV) (b:B) (ls:Bu) (k:KO B):Fr B:=.ask (.stm s ρ b ls) fun a=>a.onO .no k
noncomputable def Fr.chk (t:Bool) (k:Fr B):Fr B:=.ask (.chk t) fun Z=>k
noncomputable def Fr.set (i:Int) (b:B) (k:B→Fr B):Fr B:=.ask (.set i b) fun a=>a.onB .no k
noncomputable def Fr.flt (b:B) (k:Fr B):Fr B:=.ask (.flt b) fun Z=>k
noncomputable def Fr.dec (t:Bool) (k:Bool→Fr B):Fr B:=.ask (.dec t) fun a=>a.onT .no k
noncomputable def Fr.opt (o:Option MV) (k:MV→Fr B):Fr B:=.ask (.opt o) fun a=>a.onM .no k
noncomputable def Fr.put (x m:MV) (b:B) (k:B→Fr B):Fr B:=.ask (.put x m b) fun a=>a.onB .no k
end
structure Bd (B:Type) where
 rd:Bool
 pos:B→Int
noncomputable def Q2:LV→Option Bool
 | .v m=>Dn (.v m)
 | _=>none
noncomputable def Mw (ρ:List LV) (k:Nat) (a:LV):Option (List LV):=if k < ρ.length then some (ρ.set k a) else none
mutual
noncomputable def Xk:Ir→MV→List LV→Option (List LV)
 | .var k,m,ρ=>Mw ρ k (.v m)
 | .tup ps,.tup l,ρ=>Si ps l ρ
 | .tup _,_,_=>none
noncomputable def Si:List Ir→List MV→List LV→Option (List LV)
 | [],[],ρ=>some ρ
 | p::ps,m::ms,ρ=>match Xk p m ρ with
  | some ρ'=>Si ps ms ρ'
  | none=>none
 | _,_,_=>none
end
noncomputable def Sn:List Nat→List LV→List LV→Option (List LV)
 | [],[],ρ=>some ρ
 | k::ks,r::rs,ρ=>match Mw ρ k r with
  | some ρ'=>Sn ks rs ρ'
  | none=>none
 | _,_,_=>none
section
variable {B:Type}
noncomputable def Nc {α:Type} (o:Option α) (k:α→Fr B):Fr B:=match o with
 | some a=>k a
 | none=>.no
noncomputable def PR (o:Option Bool) (t e:Fr B):Fr B:=match o with
 | some true=>t
 | some false=>e
 | none=>.no
noncomputable def P5 (ls:Bu) (q:Nat) (k:List MV→Fr B):Fr B:=Nc (ls[q]?.bind FJ) k
noncomputable def bF (q:Bool) (x y:Fr B):Fr B:=match q with
 | true=>x
 | false=>y
noncomputable def vF (x:LV) (k:MV→Fr B):Fr B:=match x with
 | .v m=>k m
 | _=>.no
noncomputable def eW (q:Bool) (o:Option MV) (k:MV→Fr B):Fr B:=match q with
 | true=>.opt o k
 | false=>Nc o k
noncomputable def Zc:MV→Option (List MV)
 | .lis l=>some l
 | _=>none
noncomputable def isS:MV→Bool
 | .str _=>true
 | _=>false
noncomputable def SU (f:Bq) (a:RV) (σ:Bu) (l:List MV) (k:MV→Fr B):Fr B:=.chk (Ap l.length Cf) (match f with
 | .builtin g=>bF (decide (g="len")) (k (.int (l.length:Nat))) .no
 | .type g=>bF (decide (g="tuple")) (k (.tup l)) (.opt (Om σ (.type g) [a]) k)
 | _=>.no)
noncomputable def biV (f:Bq) (x:MV) (k:MV→Fr B):Fr B:=match Zc x with
 | some l=>SU f (.v (.lis l)) [] l k
 | none=>.opt (Om [] f [.v x]) k
noncomputable def kI (f:Bq) (a:LV) (ls:Bu) (k:MV→Fr B):Fr B:=match a with
 | .l q=>P5 ls q fun l=>SU f (.loc q) ls l k
 | a=>vF a fun x=>biV f x k
noncomputable def rA (f:Bq) (as:List LV) (b:B) (ls:Bu) (k:KF B):Fr B:=match as with
 | [a]=>kI f a ls fun m=>k (.v m) b ls
 | [a,d]=>vF a fun x=>vF d fun y=>Nc (Om [] f [.v x,.v y]) fun m=>k (.v m) b ls
 | _=>.no
noncomputable def WR (v:Bq) (as:List LV) (b:B) (ls:Bu) (k:KF B):Fr B:=match v with
 | .ref a=>.call (.val (.ref a)) as b ls k
 | .builtin g=>rA (.builtin g) as b ls k
 | .type g=>rA (.type g) as b ls k
 | _=>.no
noncomputable def WQ (f:LV) (as:List LV) (b:B) (ls:Bu) (k:KF B):Fr B:=vF f fun f=>match f with
 | .val v=>WR v as b ls k
 | .clo d=>.call (.clo d) as b ls k
 | _=>.no
noncomputable def bI (β:Bd B) (ls:Bu) (o:LV) (n:Str):Bool:=match o with
 | .b=>β.rd&&Fc.any fun m=>Cb m n
 | .l q=>(ls[q]?.bind FJ).isSome&&(Cb n "append"||Cb n "extend")
 | .v m=>Ml [] (.v m) n
 | .un=>false
noncomputable def Nb (m:MV) (n:Str) (x:MV):Option MV:=wS m fun s=>J8 s n x
noncomputable def DD (q:Nat) (l m:List MV) (b:B) (ls:Bu) (k:KF B):Fr B:=.chk (Ap (l++m).length Cf) (k (.v .none) b (ls.set q (.list (l++m))))
noncomputable def rL (q:Nat) (l:List MV) (x:LV) (b:B) (ls:Bu) (k:KF B):Fr B:=match x with
 | .l q2=>bF (Nat.beq q2 q) .no (P5 ls q2 fun m=>DD q l m b ls k)
 | x=>vF x fun x=>Nc (Zc x) fun m=>DD q l m b ls k
noncomputable def cJ (q:Nat) (n:Str) (x:LV) (b:B) (ls:Bu) (k:KF B):Fr B:=P5 ls q fun l=>bF (Cb n "append") (vF x fun m=>DD q l [m] b ls k) (bF (Cb n "extend") (rL q l x b ls k) .no)
noncomputable def eO (as:List LV) (k:LV→Fr B):Fr B:=match as with
 | [x]=>k x
 | _=>.no
noncomputable def YB (o:LV) (n:Str) (as:List LV) (b:B) (ls:Bu) (k:KF B):Fr B:=match o with
 | .b=>.call (.str n) (.b::as) b ls k
 | .l q=>eO as fun x=>cJ q n x b ls k
 | .v m=>eO as fun x=>vF x fun x=>.opt (Nb m n x) fun y=>k (.v y) b ls
 | .un=>.no
noncomputable def ZP (a d:MV):Option (List MV):=(Zc a).bind fun l=>(Zc d).bind fun m=>some (l++m)
noncomputable def QH (a d:MV) (k:MV→Fr B):Fr B:=match ZP a d with
 | some l=>.chk (Ap l.length Cf) (k (.lis l))
 | none=>eW (isS a) (ZQ a d) k
noncomputable def kL (op:Operator) (a d:MV) (k:MV→Fr B):Fr B:=match op with
 | .Add=>QH a d k
 | .Sub=>Nc (QN .Sub a d) k
 | op=>.opt (QN op a d) k
noncomputable def kK (op:Operator) (x y:LV) (k:MV→Fr B):Fr B:=vF x fun a=>vF y fun d=>kL op a d k
noncomputable def lB (op:CmpOp) (x:LV) (d:MV) (ls:Bu):Option Bool:=match x with
 | .v a=>lD op a d
 | .l q=>IA ls op q d
 | _=>none
noncomputable def tF (rd:Bool) (op:CmpOp) (x:LV):Bool:=match op with
 | .Lt | .LtE | .Gt | .GtE | .In | .NotIn=>true
 | .Eq | .NotEq=>match x with
  | .v (.str _)=>true
  | .v (.int _)=> !rd
  | _=>false
 | _=>false
noncomputable def lK (q:Bool) (t:Bool) (k:Bool→Fr B):Fr B:=match q with
 | true=>.dec t k
 | false=>k t
noncomputable def pA (rd:Bool) (op:CmpOp) (x:LV):Bool:=match rd,op,x with
 | false,.NotEq,.v (.tup _)=>true
 | _,_,_=>false
noncomputable def lC (rd:Bool) (op:CmpOp) (x y:LV) (b:B) (ls:Bu) (k:KF B):Fr B:=vF y fun d=>bF (pA rd op x) (vF x fun a=>.exp (.cmp op (.const a) (.const d)) [] b ls k) (Nc (lB op x d ls) fun t=>lK (tF rd op x) t fun t=>k (.v (.bool t)) b ls)
noncomputable def qZ (x:LV):Bool:=match x with
 | .v (.lis _)=>true
 | .v .figs=>true
 | _=>false
noncomputable def tA (o:LV) (d:MV) (ls:Bu):Option MV:=match o with
 | .v a=>oP a d
 | .l q=>wO ls q fun o=>OU o d
 | _=>none
noncomputable def WN (β:Bd B) (n:Str) (a:LV) (b:B) (ls:Bu) (k:KF B):Fr B:=match a with
 | .v m=>Nc (WO m n) fun m=>k (.v m) b ls
 | .b=>bF (β.rd&&Cb n "at") (k (.v (.int (β.pos b))) b ls) (.exp (.attr (.var 0) n) [.b] b ls k)
 | .l q=>.exp (.attr (.var 0) n) [.l q] b ls k
 | _=>.no
noncomputable def pC (o:Option LV) (k:LV→Fr B):Fr B:=match o with
 | some (.v m)=>k (.v m)
 | some .b=>k .b
 | some (.l q)=>k (.l q)
 | _=>.no
noncomputable def oO (o i:LV) (b:B) (ls:Bu) (k:KF B):Fr B:=vF i fun d=>match o with
 | .b=>.exp (.sub (.var 0) (.const d)) [.b] b ls k
 | o=>eW (qZ o) (tA o d ls) fun m=>k (.v m) b ls
noncomputable def XZ:LV→Option (List MV)
 | .v m=>Jb [] (.v m)
 | _=>none
noncomputable def JV:LV→Option Int
 | .v m=>Hi (.v m)
 | _=>none
noncomputable def mR (β:Bd B) (o:LV) (n:Str) (ls:Bu) (k:Fr B):Fr B:=bF (bI β ls o n) k .no
mutual
noncomputable def It (β:Bd B):ME→List LV→B→Bu→KF B→Fr B
 | .const c,_,b,ls,k=>k (.v c) b ls
 | .var i,ρ,b,ls,k=>pC ρ[i]? fun a=>k a b ls
 | .glob _ c,_,b,ls,k=>k (.v c) b ls
 | .attr o n,ρ,b,ls,k=>It β o ρ b ls fun a b ls=>WN β n a b ls k
 | .call f as,ρ,b,ls,k=>It β f ρ b ls fun f b ls=>IP β as ρ b ls fun as b ls=>WQ f as b ls k
 | .meth o n as,ρ,b,ls,k=>It β o ρ b ls fun o b ls=>mR β o n ls (IP β as ρ b ls fun as b ls=>YB o n as b ls k)
 | .bin op l r,ρ,b,ls,k=>It β l ρ b ls fun x b ls=>It β r ρ b ls fun y b ls=>kK op x y fun m=>k (.v m) b ls
 | .cmp op l r,ρ,b,ls,k=>It β l ρ b ls fun x b ls=>It β r ρ b ls fun y b ls=>lC β.rd op x y b ls k
 | .and l,ρ,b,ls,k=>aL β l ρ b ls k
 | .or l,ρ,b,ls,k=>aM β l ρ b ls k
 | .not e,ρ,b,ls,k=>It β e ρ b ls fun a b ls=>Nc (Q2 a) fun t=>k (.v (.bool !t)) b ls
 | .neg e,ρ,b,ls,k=>It β e ρ b ls fun a b ls=>Nc (JV a) fun i=>k (.v (.int (-i))) b ls
 | .ite c x y,ρ,b,ls,k=>It β c ρ b ls fun t b ls=>PR (Q2 t) (It β x ρ b ls k) (It β y ρ b ls k)
 | .tup l,ρ,b,ls,k=>IQ β l ρ b ls fun ms b ls=>Nc (Df ms.length) fun Z=>k (.v (.tup ms)) b ls
 | .lis l,ρ,b,ls,k=>IQ β l ρ b ls fun ms b ls=>Nc (Df ms.length) fun Z=>k (.v (.lis ms)) b ls
 | .mlis l,ρ,b,ls,k=>IQ β l ρ b ls fun ms b ls=>Nc (Df ms.length) fun Z=>k (.l ls.length) b (ls++[.list ms])
 | .sub o i,ρ,b,ls,k=>It β o ρ b ls fun o b ls=>It β i ρ b ls fun i b ls=>oO o i b ls k
 | .lam q,ρ,b,ls,k=>Nc (ρ[q]?.bind JV) fun d=>k (.v (.clo d)) b ls
 | .mpen x y,ρ,b,ls,k=>.exp (.mpen x y) ρ b ls k
 | .mdict l,ρ,b,ls,k=>k (.l ls.length) b (ls++[.dict (l.map fun x=>(x,.none))])
 | .cut x y z,ρ,b,ls,k=>.exp (.cut x y z) ρ b ls k
 | .compR x y z,ρ,b,ls,k=>.exp (.compR x y z) ρ b ls k
 | .compL x y z t,ρ,b,ls,k=>.exp (.compL x y z t) ρ b ls k
 | .compE x y,ρ,b,ls,k=>.exp (.compE x y) ρ b ls k
noncomputable def IP (β:Bd B):List ME→List LV→B→Bu→(List LV→B→Bu→Fr B)→Fr B
 | [],_,b,ls,k=>k [] b ls
 | e::es,ρ,b,ls,k=>It β e ρ b ls fun a b ls=>IP β es ρ b ls fun as b ls=>k (a::as) b ls
noncomputable def IQ (β:Bd B):List ME→List LV→B→Bu→(List MV→B→Bu→Fr B)→Fr B
 | [],_,b,ls,k=>k [] b ls
 | e::es,ρ,b,ls,k=>It β e ρ b ls fun a b ls=>IQ β es ρ b ls fun ms b ls=>vF a fun m=>k (m::ms) b ls
noncomputable def aL (β:Bd B):List ME→List LV→B→Bu→KF B→Fr B
 | [],_,_,_,_=>.no
 | e::es,ρ,b,ls,k=>It β e ρ b ls fun a b ls=>match es with
  | []=>k a b ls
  | _::_=>PR (Q2 a) (aL β es ρ b ls k) (k a b ls)
noncomputable def aM (β:Bd B):List ME→List LV→B→Bu→KF B→Fr B
 | [],_,_,_,_=>.no
 | e::es,ρ,b,ls,k=>It β e ρ b ls fun a b ls=>match es with
  | []=>k a b ls
  | _::_=>PR (Q2 a) (k a b ls) (aM β es ρ b ls k)
end
noncomputable def RY (body:List LV→B→Bu→KO B→Fr B) (p:Ir):List MV→List LV→B→Bu→KO B→Fr B
 | [],ρ,b,ls,K=>K (.next ρ b ls)
 | m::ms,ρ,b,ls,K=>Nc (Xk p m ρ) fun ρ=>body ρ b ls fun o=>match o with
  | .next ρ b ls=>RY body p ms ρ b ls K
  | .brk ρ b ls=>K (.next ρ b ls)
  | o=>K o
noncomputable def tP (cond:List LV→B→Bu→KF B→Fr B) (body:List LV→B→Bu→KO B→Fr B):Nat→List LV→B→Bu→KO B→Fr B
 | 0,_,_,_,_=>.no
 | n+1,ρ,b,ls,K=>cond ρ b ls fun t b ls=>PR (Q2 t) (body ρ b ls fun o=>match o with
   | .next ρ b ls=>tP cond body n ρ b ls K
   | .brk ρ b ls=>K (.next ρ b ls)
   | o=>K o) (K (.next ρ b ls))
noncomputable def nQ (lo hi:Int) (k:List MV→Fr B):Fr B:=match decide (0≤lo∧lo≤Cf)&&decide (0≤hi∧hi≤Cf) with
 | true=>k (C5 lo (hi - lo).toNat)
 | false=>.no
noncomputable def oM:LV→Option Str
 | .v m=>Oj (.v m)
 | _=>none
noncomputable def sF (o:LV) (x:Fr B):Fr B:=match o with
 | .b=>x
 | _=>.no
noncomputable def sX (o:LV) (x m:MV) (b:B) (ls:Bu) (k:B→Bu→Fr B):Fr B:=match o with
 | .b=>.put x m b fun b=>k b ls
 | .l q=>Nc (G1 ls (.loc q) (.v x) (.v m)) fun ls=>k b ls
 | _=>.no
noncomputable def qY (p:Ir) (a:LV) (ρ:List LV) (k:List LV→Fr B):Fr B:=match p with
 | .var i=>Nc (Mw ρ i a) k
 | .tup ps=>vF a fun m=>Nc (Xk (.tup ps) m ρ) k
mutual
noncomputable def aN (u:Bool) (β:Bd B):MS→List LV→B→Bu→KO B→Fr B
 | .assign p e,ρ,b,ls,K=>It β e ρ b ls fun a b ls=>qY p a ρ fun ρ=>K (.next ρ b ls)
 | .assignT ks es,ρ,b,ls,K=>IP β es ρ b ls fun as b ls=>Nc (Sn ks as ρ) fun ρ=>K (.next ρ b ls)
 | .setAt o e,ρ,b,ls,K=>It β e ρ b ls fun a b ls=>It β o ρ b ls fun o b ls=>sF o (bF β.rd (Nc (JV a) fun i=>.set i b fun b=>K (.next ρ b ls)) .no)
 | .expr e,ρ,b,ls,K=>It β e ρ b ls fun Z b ls=>K (.next ρ b ls)
 | .ite c x y,ρ,b,ls,K=>It β c ρ b ls fun t b ls=>PR (Q2 t) (Iy u β x ρ b ls K) (Iy u β y ρ b ls K)
 | .forIn p e x,ρ,b,ls,K=>It β e ρ b ls fun e b ls=>Nc (XZ e) fun l=>Nc (Df l.length) fun Z=>RY (fun ρ b ls K=>Iy u β x ρ b ls K) p l ρ b ls K
 | .ret e,ρ,b,ls,K=>It β e ρ b ls fun a b ls=>K (.ret a b ls)
 | .fault o e,ρ,b,ls,K=>It β o ρ b ls fun o b ls=>sF o (.flt b (It β e ρ b ls fun e b ls=>Nc (oM e) fun Z=>.flt b (.fin (.exc (β.pos b+1) b))))
 | .brk,ρ,b,ls,K=>K (.brk ρ b ls)
 | .dead,_,_,_,_=>.no
 | .setItem o i e,ρ,b,ls,K=>It β e ρ b ls fun e b ls=>It β o ρ b ls fun o b ls=>It β i ρ b ls fun i b ls=>vF i fun x=>vF e fun m=>sX o x m b ls fun b ls=>K (.next ρ b ls)
 | .while x y,ρ,b,ls,K=>bF u (tP (fun ρ b ls k=>It β x ρ b ls k) (fun ρ b ls K=>Iy u β y ρ b ls K) WH ρ b ls K) (.stm (.while x y) ρ b ls K)
 | .forR x none z t,ρ,b,ls,K=>bF u (It β z ρ b ls fun hi b ls=>Nc (JV hi) fun n=>nQ 0 n fun l=>RY (fun ρ b ls K=>Iy u β t ρ b ls K) (.var x) l ρ b ls K) (.stm (.forR x none z t) ρ b ls K)
 | .forR x (some y) z t,ρ,b,ls,K=>.stm (.forR x (some y) z t) ρ b ls K
noncomputable def Iy (u:Bool) (β:Bd B):List MS→List LV→B→Bu→KO B→Fr B
 | [],ρ,b,ls,K=>K (.next ρ b ls)
 | s::ss,ρ,b,ls,K=>aN u β s ρ b ls fun o=>match o with
  | .next ρ b ls=>Iy u β ss ρ b ls K
  | o=>K o
end
noncomputable abbrev Ev (B:Type):=Qn B×An B
noncomputable def Ev.call (f:MV) (as:List LV) (b:B) (ls:Bu) (a:LV) (b':B) (ls':Bu):Ev B:=(.call f as b ls,.l a b' ls')
noncomputable def Ev.callx (f:MV) (as:List LV) (b:B) (ls:Bu) (m:Int) (b':B):Ev B:=(.call f as b ls,.x m b')
noncomputable def Ev.exp (e:ME) (ρ:List LV) (b:B) (ls:Bu) (a:LV) (b':B) (ls':Bu):Ev B:=(.exp e ρ b ls,.l a b' ls')
noncomputable def Ev.stm (s:MS) (ρ:List LV) (b:B) (ls:Bu) (o:Oc B):Ev B:=(.stm s ρ b ls,.o o)
noncomputable def Ev.chk (t:Bool):Ev B:=(.chk t,.u)
noncomputable def Ev.set (i:Int) (b b':B):Ev B:=(.set i b,.b b')
noncomputable def Ev.flt (b:B):Ev B:=(.flt b,.u)
noncomputable def Ev.dec (t v:Bool):Ev B:=(.dec t,.t v)
noncomputable def Ev.opt (o:Option MV) (m:MV):Ev B:=(.opt o,.m m)
noncomputable def Ev.put (x m:MV) (b b':B):Ev B:=(.put x m b,.b b')
set_option genInjectivity true in
set_option genCtorIdx false in
inductive Tr (B:Type) where
 | q (q:Qn B) (t:Tr B)
 | fin (o:Oc B)
 | bad
noncomputable def Tr.ctorIdx {B:Type} (x:Tr B):Nat:=x.casesOn (fun Z Z=>0) (fun Z=>1) 2
noncomputable def go:List (Ev B)→Fr B→Tr B
 | [],.fin o=>.fin o
 | e::es,.ask q k=>.q q (go es (k e.2))
 | _,_=>.bad
noncomputable def J0 (o:Oc B):List (Ev B)→Tr B
 | []=>.fin o
 | e::es=>.q e.1 (J0 o es)
end
theorem nn {α:Type} {a:α} {P:Prop} (h:none=some a):P:=nomatch h
theorem ff {P:Prop} (h:false=true):P:=nomatch h
theorem nt {P:Prop} (h:true=false):P:=nomatch h
theorem Dd {α:Type} {p:α→Prop} (x:α) (h:none=some x):p x:=nn h
theorem Ek {α:Type} {p:α→Prop} {a:α} (h:p a) (x:α) (e:some a=some x):p x:=Ab e▸h
structure Ct (B:Type) where
 C:Call
 n:Nat
 r:Nat
 S:B→Bu
 β:Bd B
 len:∀ b,(S b).length=n
 hrd:β.rd=true→∀ b,∃ ts,(S b)[r]?=some (.rdr ts (β.pos b))
section
variable {B:Type} {c:Ct B}
noncomputable def Ct.rv (c:Ct B):LV→RV
 | .v m=>.v m
 | .b=>.loc c.r
 | .l q=>.loc (c.n+q)
 | .un=>.un
noncomputable def Ct.rvs (c:Ct B):List LV→List RV
 | []=>[]
 | a::as=>c.rv a::c.rvs as
noncomputable def Ct.st (c:Ct B) (b:B) (ls:Bu):Bu:=c.S b++ls
theorem Lm:∀ {ρ:List LV},c.rvs ρ=ρ.map c.rv
 | []=>rfl
 | _::_=>congrArg _ Lm
theorem Uy:∀ {ρ:List LV} {i:Nat},(c.rvs ρ)[i]?=(ρ[i]?).map c.rv
 | [],_=>rfl
 | _::_,0=>rfl
 | _::ρ,i+1=>Uy (ρ:=ρ) (i:=i)
theorem Qy {b:B} {ls:Bu} {q:Nat}:(c.st b ls)[c.n+q]?=ls[q]?:=c.len b▸(Az (A4 ..)).trans (congrArg _ (Nat.add_sub_cancel_left ..))
theorem GH {b:B} {ls:Bu} {q:Nat} {o:MO} (h:(c.S b)[q]?=some o):(c.st b ls)[q]?=some o:=(A5 (Ah.mp h).1).trans h
theorem OM {b:B} {ls:Bu} {q:Nat} {o:MO}:(c.st b ls).set (c.n+q) o=c.st b (ls.set q o):=
 c.len b▸(List.set_append_right _ _ (A4 ..)).trans (congrArg (fun i=>c.S b++ls.set i o) (Nat.add_sub_cancel_left ..))
theorem VN {b:B} {ls:Bu} {o:MO}:c.st b ls++[o]=c.st b (ls++[o]):=Ak ..
theorem hZ {b:B} {ls:Bu}:(c.st b ls).length=c.n+ls.length:=c.len b▸Ai
noncomputable def Is (c:Ct B) (x:B1 (Di×List RV)):Oc B→Prop
 | .next ρ b ls=>x= .ok (.next,c.rvs ρ) (c.st b ls)
 | .brk ρ b ls=>x= .ok (.brk,c.rvs ρ) (c.st b ls)
 | .ret a b ls=>∃ ρ',x= .ok (.ret (c.rv a),ρ') (c.st b ls)
 | .exc m b=>∃ σ,x= .exc m σ∧σ.take c.n=c.S b
noncomputable def Qok (c:Ct B):Qn B→An B→Prop
 | .call f as b ls,z=>z.onL False (fun a b' ls'=>c.C f (c.rvs as) (c.st b ls)= .ok (c.rv a) (c.st b' ls')) fun m b'=>∃ σ,c.C f (c.rvs as) (c.st b ls)= .exc m σ∧σ.take c.n=c.S b'
 | .exp e ρ b ls,z=>z.onL False (fun a b' ls'=>C0 c.C e (c.rvs ρ) (c.st b ls)= .ok (c.rv a) (c.st b' ls')) fun Z Z=>False
 | .stm x ρ b ls,z=>z.onO False fun o=>Is c (XA c.C x (c.rvs ρ) (c.st b ls)) o
 | .chk t,_=>t=true
 | .set i b,z=>z.onB False fun b'=>∀ ts j,(c.S b)[c.r]?=some (.rdr ts j)→(c.S b).set c.r (.rdr ts i)=c.S b'
 | .flt b,_=>E5 (c.S b) (.loc c.r)=some (c.β.pos b+1)
 | .dec t,z=>z.onT False fun v=>t=v
 | .opt o,z=>z.onM False fun m=>o=some m
 | .put x m b,z=>z.onB False fun b'=>G1 (c.S b) (.loc c.r) (.v x) (.v m)=some (c.S b')
noncomputable def Sm (c:Ct B) (o:Oc B):Fr B→Prop
 | .fin o'=>o'=o
 | .no=>False
 | .ask q k=>∃ z,Qok c q z∧Sm c o (k z)
noncomputable def Al (c:Ct B):List (Ev B)→Prop
 | []=>True
 | e::es=>Qok c e.1 e.2∧Al c es
theorem Pr {o:Oc B} {es:List (Ev B)}:∀ {fr:Fr B},go es fr=J0 o es→Al c es→Sm c o fr:=by
 induction es with
 | nil=>
  intro fr h _
  cases fr with
  | fin _=>exact Tr.fin.inj h
  | _=>exact nomatch h
 | cons e es ih=>
  intro fr h a
  cases fr with
  | ask q k=>exact have z:=Tr.q.inj h;⟨e.2,z.1▸a.1,ih z.2 a.2⟩
  | _=>exact nomatch h
inductive Ex (c:Ct B) {α γ:Type} (R:α→γ) (x:B1 γ) (k:α→B→Bu→Fr B) (oc:Oc B):Prop
 | ok (a:α) (b:B) (ls:Bu) (h:x= .ok (R a) (c.st b ls)) (s:Sm c oc (k a b ls))
 | ex (m:Int) (b:B) (σ:Bu) (h:x= .exc m σ) (t:σ.take c.n=c.S b) (e:oc= .exc m b)
section
variable {α γ δ:Type} {R:α→γ} {ε:Type} {R':ε→δ} {x:B1 γ} {k:α→B→Bu→Fr B} {k':ε→B→Bu→Fr B} {oc:Oc B}
theorem Ex.bind {F:γ→Bu→B1 δ} (h:Ex c R x k oc) (q:∀ a b ls,Sm c oc (k a b ls)→Ex c R' (F (R a) (c.st b ls)) k' oc):Ex c R' (x.bind F) k' oc:=match h with
 | .ok a b ls h s=>h▸q a b ls s
 | .ex m b σ h t e=>.ex m b σ (h▸rfl) t e
end
section
variable {P:Prop} {oc:Oc B}
theorem Cs {α:Type} {k:α→Fr B} {o:Option α} (h:Sm c oc (Nc o k)) (q:∀ a,o=some a→Sm c oc (k a)→P):P:=by
 cases o with
 | some a=>exact q a rfl h
 | none=>exact h.elim
theorem L6 {x y:Fr B} {q:Bool} (h:Sm c oc (bF q x y)) (k1:q=true→Sm c oc x→P) (k2:q=false→Sm c oc y→P):P:=by
 cases q with
 | true=>exact k1 rfl h
 | false=>exact k2 rfl h
theorem mH {x:Fr B} {o:LV} (h:Sm c oc (sF o x)) (q:o= .b→Sm c oc x→P):P:=by
 cases o with
 | b=>exact q rfl h
 | _=>exact h.elim
theorem Ly {k:MV→Fr B} {x:LV} (h:Sm c oc (vF x k)) (q:∀ m,x= .v m→Sm c oc (k m)→P):P:=by
 cases x with
 | v m=>exact q m rfl h
 | _=>exact h.elim
theorem oH {T:LV→B→Bu→Prop} {U:Int→B→Prop} {k:KF B} {x:Int→B→Fr B} (h:∃ z:An B,z.onL False T U∧Sm c oc (z.onL .no k x)) (q:∀ a b ls,T a b ls→Sm c oc (k a b ls)→P) (q2:∀ m b,U m b→Sm c oc (x m b)→P):P:=h.elim fun z s=>by
 cases z with
 | l a b ls=>exact q a b ls s.1 s.2
 | x m b=>exact q2 m b s.1 s.2
 | _=>exact s.1.elim
theorem Qu {e:ME} {ρ:List LV} {b:B} {ls:Bu} {k:KF B} (h:Sm c oc (.exp e ρ b ls k)):Ex c c.rv (C0 c.C e (c.rvs ρ) (c.st b ls)) k oc:=oH h (fun a b ls h s=>.ok a b ls h s) fun Z Z h=>h.elim
theorem U2 {f:MV} {as:List LV} {b:B} {ls:Bu} {k:KF B} (h:Sm c oc (.call f as b ls k)):Ex c c.rv (c.C f (c.rvs as) (c.st b ls)) k oc:=oH h (fun a b ls h s=>.ok a b ls h s) fun m b ⟨σ,h,t⟩ e=>.ex m b σ h t e.symm
theorem oG {T:B→Prop} {k:B→Fr B} (h:∃ z:An B,z.onB False T∧Sm c oc (z.onB .no k)) (q:∀ b,T b→Sm c oc (k b)→P):P:=h.elim fun z s=>by
 cases z with
 | b b=>exact q b s.1 s.2
 | _=>exact s.1.elim
theorem sY {T:Oc B→Prop} {k:KO B} (h:∃ z:An B,z.onO False T∧Sm c oc (z.onO .no k)) (q:∀ b,T b→Sm c oc (k b)→P):P:=h.elim fun z s=>by
 cases z with
 | o b=>exact q b s.1 s.2
 | _=>exact s.1.elim
theorem C2 {o:Option MV} {k:MV→Fr B} (h:Sm c oc (.opt o k)) (q:∀ a,o=some a→Sm c oc (k a)→P):P:=Exists.elim h fun z s=>by
 cases z with
 | m a=>exact q a s.1 s.2
 | _=>exact s.1.elim
theorem aE {k:Bool→Fr B} {t q:Bool} (h:Sm c oc (lK q t k)):Sm c oc (k t):=by
 cases q with
 | false=>exact h
 | true=>
 exact Exists.elim h fun z s=>by
  cases z with
  | t x=>exact(show t=x from s.1)▸s.2
  | _=>exact s.1.elim
theorem Un {o:Option MV} {k:MV→Fr B} (q:∀ a,o=some a→Sm c oc (k a)→P):∀ {a:Bool},Sm c oc (eW a o k)→P
 | true,h=>C2 h q
 | false,h=>Cs h q
theorem UD {t e:Fr B}:∀ {o:Option Bool},Sm c oc (PR o t e)→(∀ b,o=some b→Sm c oc (match b with | true=>t | false=>e)→P)→P
 | some true,h,q=>q true rfl h
 | some false,h,q=>q false rfl h
 | none,h,_=>h.elim
theorem Yk {t:Bool} {k:Fr B} (h:Sm c oc (.chk t k)) (q:t=true→Sm c oc k→P):P:=h.elim fun Z h=>q h.1 h.2
theorem CT {k:LV→Fr B}:∀ {as:List LV},Sm c oc (eO as k)→(∀ x,as=[x]→Sm c oc (k x)→P)→P
 | [x],h,q=>q x rfl h
 | [],h,_ | _::_::_,h,_=>h.elim
theorem SZ {o:MO} {l:List MV} (h:FJ o=some l):o= .list l:=by cases o<;>first | exact nn h | exact congrArg MO.list (Ab h)
theorem KR {o:Option MO} {l:List MV} (h:o.bind FJ=some l):o=some (.list l):=(Aq.mp h).elim fun Z h=>h.1.trans (congrArg some (SZ h.2))
theorem N2 {ls:Bu} {q:Nat} {k:List MV→Fr B} (h:Sm c oc (P5 ls q k)) (z:∀ l,ls[q]?=some (.list l)→Sm c oc (k l)→P):P:=Cs h fun l e s=>z l (KR e) s
theorem T3 {m:MV} {l:List MV} (h:Zc m=some l):m= .lis l:=by cases m<;>first | exact nn h | exact congrArg MV.lis (Ab h)
theorem CP {n:Nat} (h:Ap n Cf=true):Df n=some ():=if_pos (Ac h)
theorem Kh {o:Option MV} {m:MV} {b:B} {ls:Bu} {k:KF B} (e:o=some m) (s:Sm c oc (k (.v m) b ls)):Ex c c.rv (Ep (c.st b ls) (o.map .v)) k oc:=e▸ .ok (.v m) _ _ rfl s
end
end
section
variable {B:Type} {c:Ct B} {oc:Oc B} {P:Prop} {b:B} {ls:Bu}
theorem Ks {a:LV} {t:Bool} (h:Q2 a=some t):Dn (c.rv a)=some t:=by
 cases a with
 | v _=>exact h
 | _=>exact nn h
theorem Ka {α:Type} {σ:Bu} {r:Nat} {o:MO} {f:MO→Option α} (e:σ[r]?=some o):wO σ r f=f o:=by unfold wO;rw[e]
theorem jB {α:Type} {q:Nat} {f:MO→Option α}:wO (c.st b ls) (c.n+q) f=wO ls q f:=by unfold wO;rw[Qy]
theorem QI {a d:MV} {l:List MV} (h:ZP a d=some l) (k:∀ x y,a= .lis x→d= .lis y→x++y=l→P):P:=
 (Aq.mp h).elim fun x hx=>(Aq.mp hx.2).elim fun y hy=>k x y (T3 hx.1) (T3 hy.1) (Ab hy.2)
theorem Yd {n:Nat} {α:Type} {x:α} (h:Ap n Cf=true):(Df n).map (fun Z=>x)=some x:=congrArg (Option.map fun Z=>x) (CP h)
theorem ZR {a d:MV} {k:MV→Fr B} (h:Sm c oc (QH a d k)) (q:∀ m,ZQ a d=some m→Sm c oc (k m)→P):P:=match e:ZP a d with
 | some l=>
  have h:Sm c oc (.chk (Ap l.length Cf) (k (.lis l))):=by unfold QH at h;rw[e] at h;exact h
  Yk h fun t s=>QI e fun x y ex ey el=>q (.lis l) (ex▸ey▸el▸Yd (el▸t)) s
 | none=>Un q (a:=isS a) (by unfold QH at h;rw[e] at h;exact h)
theorem QO {a d:MV} {k:MV→Fr B} {op:Operator} (h:Sm c oc (kL op a d k)) (q:∀ m,QN op a d=some m→Sm c oc (k m)→P):P:=by
 cases op with
 | Add=>exact ZR h q
 | Sub=>exact Cs h q
 | _=>exact C2 h q
theorem QP {op:Operator} {x y:LV} {k:KF B} (h:Sm c oc (kK op x y fun m=>k (.v m) b ls)):Ex c c.rv (Ep (c.st b ls) ((Kd op (c.rv x) (c.rv y)).map .v)) k oc:=
 Ly h fun Z ex h=>Ly h fun Z ey h=>QO h fun m e s=>ex▸ey▸Kh e s
theorem lN {q:Nat}:Yp (c.st b ls) (c.n+q)=Yp ls q:=funext fun l=>match l with
 | []=>jB
 | _::_=>rfl
theorem lE {op:CmpOp} {d:MV} {t:Bool}:∀ {x:LV},lB op x d ls=some t→ER (c.st b ls) op (c.rv x) (.v d)=some t
 | .v _,h=>h
 | .l q,h=>by
  refine Eq.trans (b:=IA ls op q d) ?_ h
  show IA (c.st b ls) op (c.n+q) d=_
  unfold IA
  rw[lN]
theorem ID {op:CmpOp} {x y:LV} {k:KF B} (h:Sm c oc (lC c.β.rd op x y b ls k)):Ex c c.rv (Ep (c.st b ls) ((ER (c.st b ls) op (c.rv x) (c.rv y)).map fun t=>.v (.bool t))) k oc:=
 Ly h fun d ey h=>ey▸L6 h (fun Z h=>Ly h fun a ex h=>ex▸Qu h) fun Z h=>Cs h fun t e s=>(congrArg (fun o=>Ep (c.st b ls) (Option.map (fun t=>RV.v (.bool t)) o)) (lE e))▸ .ok (.v (.bool t)) b ls rfl (aE s)
theorem VS {x i:LV} {k:KF B} (h:Sm c oc (oO x i b ls k)):Ex c c.rv (Ep (c.st b ls) ((Jz (c.st b ls) (c.rv x) (c.rv i)).map .v)) k oc:=
 Ly h fun d ey h=>ey▸(match x,h with
  | .b,h=>Qu h
  | .v _,h=>Un (fun m e s=>Kh e s) h
  | .l q,h=>Un (fun m e s=>Kh (o:=wO (c.st b ls) (c.n+q) fun o=>OU o d) (jB.trans e) s) h
  | .un,h=>h.elim)
theorem mP {σ:Bu}:∀ {a:MV},P3 σ (.v a)=P3 [] (.v a)
 | .none | .bool _ | .int _ | .str _ | .bytes _ | .tup _ | .lis _ | .tok .. | .val _ | .figs | .clo _=>rfl
theorem SN {σ:Bu}:∀ {a:MV},Dy σ (.v a)=Dy [] (.v a)
 | .none | .bool _ | .int _ | .str _ | .bytes _ | .tup _ | .lis _ | .tok .. | .val _ | .figs | .clo _=>rfl
theorem mC {σ:Bu} {n:Str}:∀ {a:MV},Ml σ (.v a) n=Ml [] (.v a) n
 | .none | .bool _ | .int _ | .str _ | .bytes _ | .tup _ | .lis _ | .tok .. | .val _ | .figs | .clo _=>rfl
theorem kN {σ:Bu} {g:String} {a:MV}:AY σ g (.v a)=AY [] g (.v a):=by unfold AY;rw[mP]
theorem YZ {σ:Bu} {g:String} {a:MV}:F8 σ g (.v a)=F8 [] g (.v a):=by unfold F8;rw[SN]
theorem rB {σ:Bu} {a:MV}:∀ {f:Bq},Om σ f [.v a]=Om [] f [.v a]
 | .builtin _=>kN
 | .type _=>YZ
 | .none | .notImplemented | .ellipsis | .bool _ | .int _ _ | .float .. | .str _ _ | .bytes .. | .ref _=>rfl
theorem CC {σ σ0:Bu} {a a0:RV} {l:List MV} {k:MV→Fr B} (h1:P3 σ a=if l.length≤Cf then some l.length else none) (h2:Dy σ a=some l) (h3:∀ g,F8 σ g a=F8 σ0 g a0) (h:Sm c oc (SU f a0 σ0 l k)) (q:∀ m,Om σ f [a]=some m→Sm c oc (k m)→P):P:=
 Yk h fun t h=>by
  cases f with
  | builtin g=>exact L6 (q:=decide (g="len")) h (fun e h=>q _ ((if_pos (of_decide_eq_true e)).trans (h1▸congrArg (Option.map fun n:Nat=>MV.int n) (if_pos (Ac t)))) h) fun Z h=>h.elim
  | type g=>exact L6 (q:=decide (g="tuple")) h (fun e h=>q _ ((congrArg (fun g=>F8 σ g a) (of_decide_eq_true e)).trans (h2▸if_pos (Ac t):((Dy σ a).bind fun l=>if l.length≤Cf then some (MV.tup l) else none)=some (.tup l))) h) fun Z h=>C2 h fun m e s=>q m ((h3 g).trans e) s
  | _=>exact h.elim
theorem mG {σ:Bu} {q:Nat} {l:List MV} (e:σ[q]?=some (.list l)):Dy σ (.loc q)=some l:=by unfold Dy;dsimp only;rw[e]
theorem mO {σ:Bu} {q:Nat} {l:List MV} (e:Dy σ (.loc q)=some l):P3 σ (.loc q)=if l.length≤Cf then some l.length else none:=congrArg (fun o:Option (List MV)=>o.bind fun l=>if l.length≤Cf then some l.length else none) e
theorem pB {σ σ0:Bu} {q q0:Nat} {g:String} (e:Dy σ (.loc q)=Dy σ0 (.loc q0)):F8 σ g (.loc q)=F8 σ0 g (.loc q0):=by
 unfold F8
 rw[e]
 rfl
theorem ZU {f:Bq} {k:MV→Fr B} {a:LV} (h:Sm c oc (kI f a ls k)) (z:∀ m,Om (c.st b ls) f [c.rv a]=some m→Sm c oc (k m)→P):P:=by
 cases a with
 | l q=>exact N2 h fun l e h=>have i:=mG (Qy.trans e);CC (mO i) i (fun g=>pB (i.trans (mG e).symm)) h z
 | v x=>
  have h:Sm c oc (match Zc x with | some l=>SU f (.v (.lis l)) [] l k | none=>.opt (Om [] f [.v x]) k):=h
  cases e:Zc x with
  | some l=>rw[e] at h;exact CC (a:=.v (.lis l)) rfl rfl (fun Z=>YZ) h fun m e2 s=>z m (T3 e▸e2) s
  | none=>rw[e] at h;exact C2 h fun m e s=>z m (rB.trans e) s
 | _=>exact h.elim
theorem HK {f:Bq} {as:List LV} {k:KF B} (h:Sm c oc (rA f as b ls k)):Ex c c.rv (Ep (c.st b ls) ((Om (c.st b ls) f (c.rvs as)).map .v)) k oc:=match as,h with
 | [a],h=>ZU (a:=a) h fun m e s=>Kh e s
 | [a,d],h=>Ly h fun x ex h=>Ly h fun y ey h=>Cs h fun m e s=>ex▸ey▸Kh (o:=Om _ f [.v x,.v y]) e s
 | [],h | _::_::_::_,h=>h.elim
theorem EP {v:Bq} {as:List LV} {k:KF B} (h:Sm c oc (WR v as b ls k)):Ex c c.rv (AZ c.C (.v (.val v)) (c.rvs as) (c.st b ls)) k oc:=by
 cases v with
 | ref _=>exact U2 h
 | builtin _=>exact HK h
 | type _=>exact HK h
 | _=>exact h.elim
theorem HT {f:LV} {as:List LV} {k:KF B} (h:Sm c oc (WQ f as b ls k)):Ex c c.rv (AZ c.C (c.rv f) (c.rvs as) (c.st b ls)) k oc:=Ly h fun m e h=>e▸by
 clear e
 cases m with
 | val _=>exact EP h
 | clo _=>exact U2 h
 | _=>exact h.elim
theorem bJ {σ:Bu} {r:Nat} {n:Str} {l:List MV} (e:σ[r]?=some (.list l)):Ml σ (.loc r) n=(Cb n "append"||Cb n "extend"):=by unfold Ml;dsimp only;rw[e]
theorem bK {σ:Bu} {r:Nat} {n:Str} {l:List MV} {i:Int} (e:σ[r]?=some (.rdr l i)):Ml σ (.loc r) n=Fc.any fun m=>Cb m n:=by unfold Ml;dsimp only;rw[e]
theorem GT {p q:Bool} (h:(p&&q)=true):p=true∧q=true:=Bool.and_eq_true_iff.mp h
theorem SI {n:Str}:∀ {o:LV},bI c.β ls o n=true→Ml (c.st b ls) (c.rv o) n=true
 | .b,h=>(c.hrd (GT h).1 b).elim fun ts e=>(bK (GH e)).trans (GT h).2
 | .l q,h=>(Ba.mp (GT h).1).elim fun l e=>(bJ (Qy.trans (KR e))).trans (GT h).2
 | .v _,h=>mC.trans h
theorem TE {C:Call} {σ σ':Bu} {r:Nat} {n:Str} {l:List MV} {x y:RV} (e:σ[r]?=some (.list l)) (h:CI σ r n x=some (y,σ')):Gv C (.loc r) n [x] σ= .ok y σ':=by
 unfold Gv
 dsimp only
 rw[e]
 dsimp only
 rw[show J7 σ (.loc r) n [x]=_ from h]
theorem Qg {C:Call} {q:Nat} {n:Str} {l m:List MV} {x:RV} {k:KF B} (e:ls[q]?=some (.list l)) (z:CI (c.st b ls) (c.n+q) n x=J2 (c.st b ls) (c.n+q) l m) (h:Sm c oc (DD q l m b ls k)):Ex c c.rv (Gv C (.loc (c.n+q)) n [x] (c.st b ls)) k oc:=
 Yk h fun t s=>.ok (.v .none) b (ls.set q (.list (l++m))) (TE (Qy.trans e) (z.trans ((Yd t).trans (congrArg (fun σ=>some (RV.v .none,σ)) OM)))) s
theorem jC {α β:Type} {f:Str→Option α} {g:α→β} {z:α} {m:MV} (h:wS m f=some z):wS m (fun s=>(f s).map g)=some (g z):=by cases m<;>first | exact nn h | exact congrArg (Option.map g) h
theorem cK {m y z:MV} {n:Str} {C:Call} {σ:Bu} (e:Nb m n y=some z):Gv C (.v m) n [.v y] σ= .ok (.v z) σ:=
 congrArg (fun o:Option (RV×Bu)=>(match o with | some (r,σ')=>B1.ok r σ' | none=>.no)) (jC e:J7 σ (.v m) n [.v y]=some (.v z,σ))
theorem KW {o:LV} {n:Str} {as:List LV} {k:KF B} {ls0:Bu} (hb:bI c.β ls0 o n=true) (h:Sm c oc (YB o n as b ls k)):Ex c c.rv (Gv c.C (c.rv o) n (c.rvs as) (c.st b ls)) k oc:=by
 cases o with
 | b=>exact(c.hrd (GT hb).1 b).elim fun ts e=>(show Gv c.C (.loc c.r) n (c.rvs as) (c.st b ls)=c.C (.str n) (c.rvs (.b::as)) (c.st b ls) by unfold Gv;dsimp only;rw[GH e];rfl)▸U2 h
 | l q=>
  exact CT h fun x ex h=>ex▸N2 h fun l e h=>L6 h (fun a h=>Ly h fun m em h=>Qg (x:=c.rv x) e ((Ka (Qy.trans e)).trans ((if_pos a).trans (em▸rfl))) h) fun a h=>L6 h (fun a2 h=>by
   have z:CI (c.st b ls) (c.n+q) n (c.rv x)=JB (c.st b ls) (c.n+q) l (c.rv x):=(Ka (Qy.trans e)).trans ((if_neg (by rw[a];exact Bool.false_ne_true)).trans (if_pos a2))
   clear ex a a2 hb
   cases x with
   | l q2=>exact L6 h (fun Z h=>h.elim) fun ne h=>N2 h fun m e2 h=>Qg e (z.trans ((if_neg (fun y=>Nat.ne_of_beq_eq_false ne (Nat.add_left_cancel y))).trans (Ka (Qy.trans e2)))) h
   | v m=>exact Cs h fun l2 e2 h=>Qg e (z.trans (T3 e2▸rfl)) h
   | _=>exact h.elim) fun Z h=>h.elim
 | v m=>exact CT h fun x ex h=>Ly h fun y ey h=>C2 h fun z e s=>.ok (.v z) b ls (by rw[ex,show c.rvs [x]=[.v y] by rw[ey];rfl];exact cK e) s
 | un=>exact h.elim
theorem HJ {n:Str} {k:KF B}:∀ {a:LV},Sm c oc (WN c.β n a b ls k)→Ex c c.rv (Ep (c.st b ls) ((Ol (c.st b ls) (c.rv a) n).map .v)) k oc
 | .v _,h=>Cs h fun m e s=>Kh e s
 | .b,h=>L6 h (fun e h=>(c.hrd (GT e).1 b).elim fun ts e3=>Kh ((Ka (GH e3)).trans (if_pos (GT e).2)) h) fun Z h=>Qu h
 | .l _,h=>Qu h
 | .un,h=>h.elim
noncomputable def Du (c:Ct B) (oc:Oc B) (e:ME):Prop:=∀ ⦃ρ b ls k⦄,Sm c oc (It c.β e ρ b ls k)→Ex c c.rv (C0 c.C e (c.rvs ρ) (c.st b ls)) k oc
noncomputable def Ry (c:Ct B) (oc:Oc B) (l:List ME):Prop:=∀ ⦃ρ b ls k⦄,Sm c oc (IP c.β l ρ b ls k)→Ex c c.rvs (Tf c.C l (c.rvs ρ) (c.st b ls)) k oc
noncomputable def Oi (c:Ct B) (oc:Oc B) (l:List ME):Prop:=∀ ⦃ρ b ls k⦄,Sm c oc (IQ c.β l ρ b ls k)→Ex c id (Tg c.C l (c.rvs ρ) (c.st b ls)) k oc
noncomputable def QF (c:Ct B) (oc:Oc B) (l:List ME):Prop:=∀ ⦃ρ b ls k⦄,Sm c oc (aL c.β l ρ b ls k)→Ex c c.rv (EU c.C l (c.rvs ρ) (c.st b ls)) k oc
noncomputable def QG (c:Ct B) (oc:Oc B) (l:List ME):Prop:=∀ ⦃ρ b ls k⦄,Sm c oc (aM c.β l ρ b ls k)→Ex c c.rv (EV c.C l (c.rvs ρ) (c.st b ls)) k oc
variable {e x y z:ME} {l:List ME}
theorem LD {m:MV}:Du c oc (.const m):=fun Z b ls Z h=>.ok (.v m) b ls rfl h
theorem TM {n:Str} {m:MV}:Du c oc (.glob n m):=fun Z b ls Z h=>.ok (.v m) b ls rfl h
theorem dQ {i:Nat}:Du c oc (.var i):=fun ρ b ls k h=>by
 have h:Sm c oc (pC ρ[i]? fun a=>k a b ls):=h
 cases e:ρ[i]? with
 | none=>rw[e] at h;exact h.elim
 | some a=>
  rw[e] at h
  have z:C0 c.C (.var i) (c.rvs ρ) (c.st b ls)=match some (c.rv a) with | some (.v m)=>.ok (.v m) (c.st b ls) | some (.loc r)=>.ok (.loc r) (c.st b ls) | _=>.no:=(Uy.trans (congrArg _ e):(c.rvs ρ)[i]?=some (c.rv a))▸rfl
  clear e
  cases a with
  | v m=>exact .ok (.v m) b ls z h
  | b=>exact .ok .b b ls z h
  | l q=>exact .ok (.l q) b ls z h
  | un=>exact h.elim
theorem TK {n:Str} (h:Du c oc x):Du c oc (.attr x n):=fun Z Z Z Z s=>(h s).bind fun Z Z Z s=>HJ s
theorem TL (h:Du c oc x) (hl:Ry c oc l):Du c oc (.call x l):=fun Z Z Z Z s=>(h s).bind fun Z Z Z s=>(hl s).bind fun Z Z Z s=>HT s
theorem dE {op:Operator} (h:Du c oc x) (h2:Du c oc y):Du c oc (.bin op x y):=fun Z Z Z Z s=>(h s).bind fun Z Z Z s=>(h2 s).bind fun Z Z Z s=>QP s
theorem dG {op:CmpOp} (h:Du c oc x) (h2:Du c oc y):Du c oc (.cmp op x y):=fun Z Z Z Z s=>(h s).bind fun Z Z Z s=>(h2 s).bind fun Z Z Z s=>ID s
theorem dN (h:Du c oc x) (h2:Du c oc y):Du c oc (.sub x y):=fun Z Z Z Z s=>(h s).bind fun Z Z Z s=>(h2 s).bind fun Z Z Z s=>VS s
theorem TN {n:Str} (h:Du c oc x) (hl:Ry c oc l):Du c oc (.meth x n l):=fun Z Z Z Z s=>(h s).bind fun a b ls s=>L6 s (fun e s=>(if_neg (by rw[SI e];exact fun q=>nomatch q):(if Ml (c.st b ls) (c.rv a) n=false then _ else _)=_)▸(hl s).bind fun Z Z Z s=>KW e s) fun Z s=>s.elim
theorem dM (h:Du c oc x):Du c oc (.not x):=fun Z Z Z Z s=>(h s).bind fun Z b ls s=>Cs s fun t e s=>(congrArg (fun o=>Ep (c.st b ls) (Option.map (fun t=>RV.v (.bool !t)) o)) (Ks e))▸ .ok (.v (.bool !t)) b ls rfl s
theorem SK {m:MV} {i:Int} (h:Hi (.v m)=some i):m= .int i:=by cases m<;>first | exact nn h | exact congrArg MV.int (Ab h)
theorem BS {a:LV} {i:Int} (h:JV a=some i):c.rv a= .v (.int i):=match a,h with
 | .v m,h=>congrArg RV.v (SK h)
 | .b,h | .l _,h | .un,h=>nn h
theorem oN {a:LV} {s:Str} (h:oM a=some s):Oj (c.rv a)=some s:=match a,h with
 | .v _,h=>h
theorem dL (h:Du c oc x):Du c oc (.neg x):=fun Z Z Z Z s=>(h s).bind fun Z b ls s=>Cs s fun t e s=>BS e▸ .ok (.v (.int (-t))) b ls rfl s
noncomputable def tB (x y:B1 RV) (o:Option Bool):B1 RV:=match o with
 | some true=>x
 | some false=>y
 | none=>.no
theorem Ex.eq {α γ:Type} {R:α→γ} {x y:B1 γ} {k:α→B→Bu→Fr B} (h:Ex c R y k oc) (e:x=y):Ex c R x k oc:=e▸h
theorem Ex.tEx {x y:B1 RV} {k:KF B} {a:LV} {t e:Fr B} (s:Sm c oc (PR (Q2 a) t e)) (h1:Sm c oc t→Ex c c.rv x k oc) (h2:Sm c oc e→Ex c c.rv y k oc):Ex c c.rv (tB x y (Dn (c.rv a))) k oc:=UD s fun t e s=>match t,e,s with
 | true,e,s=>(h1 s).eq (congrArg (Mine.Q.tB x y) (Ks e))
 | false,e,s=>(h2 s).eq (congrArg (Mine.Q.tB x y) (Ks e))
theorem dI (h:Du c oc x) (h2:Du c oc y) (h3:Du c oc z):Du c oc (.ite x y z):=fun ρ Z Z Z s=>(h s).bind fun a b ls s=>Ex.tEx s (fun s=>h2 s) fun s=>h3 s
theorem dP (h:Oi c oc l):Du c oc (.tup l):=fun Z Z Z Z s=>(h s).bind fun ms b ls s=>Cs s fun t e s=>(congrArg (fun o=>Ep (c.st b ls) (Option.map (fun Z=>RV.v (.tup ms)) o)) e)▸ .ok (.v (.tup ms)) b ls rfl s
theorem dK (h:Oi c oc l):Du c oc (.lis l):=fun Z Z Z Z s=>(h s).bind fun ms b ls s=>Cs s fun t e s=>(congrArg (fun o=>Ep (c.st b ls) (Option.map (fun Z=>RV.v (.lis ms)) o)) e)▸ .ok (.v (.lis ms)) b ls rfl s
theorem LG {b:B} {ls:Bu} {o:MO}:B1.ok (RV.loc (c.st b ls).length) (c.st b ls++[o])= .ok (c.rv (.l ls.length)) (c.st b (ls++[o])):=by rw[hZ,VN];rfl
theorem TO (h:Oi c oc l):Du c oc (.mlis l):=fun Z Z Z Z s=>(h s).bind fun ms b ls s=>Cs s fun t e s=>.ok (.l ls.length) b (ls++[.list ms]) ((congrArg (fun o:Option Unit=>(match o with | some _=>B1.ok (RV.loc (c.st b ls).length) (c.st b ls++[MO.list ms]) | none=>.no)) e).trans LG) s
theorem LE {l:List Str}:Du c oc (.mdict l):=fun Z b ls Z s=>.ok (.l ls.length) b _ LG s
theorem dJ {q:Nat}:Du c oc (.lam q):=fun ρ b ls k s=>Cs s fun d e s=>(Aq.mp e).elim fun a ha=>
 have z:(c.rvs ρ)[q]?=some (.v (.int d)):=Uy.trans ((congrArg _ ha.1).trans (congrArg some (BS ha.2)))
 .ok (.v (.clo d)) b ls (congrArg (fun o:Option RV=>o.elim (B1.no:B1 RV) fun r=>(Hi r).elim .no fun d=>B1.ok (RV.v (.clo d)) (c.st b ls)) z) s
theorem dH (h:∀ ρ b ls k,It c.β x ρ b ls k= .exp x ρ b ls k):Du c oc x:=fun ρ b ls k s=>Qu (h ρ b ls k▸s)
theorem eF:Ry c oc []:=fun Z b ls Z h=>.ok [] b ls rfl h
theorem TS (h:Du c oc x) (hl:Ry c oc l):Ry c oc (x::l):=fun Z Z Z Z s=>(h s).bind fun a Z Z s=>(hl s).bind fun as b ls s=>.ok (a::as) b ls rfl s
theorem eI:Oi c oc []:=fun Z b ls Z h=>.ok [] b ls rfl h
theorem TV (h:Du c oc x) (hl:Oi c oc l):Oi c oc (x::l):=fun Z Z Z Z s=>(h s).bind fun a Z Z s=>(hl s).bind fun as b ls s=>Ly s fun m e s=>e▸ .ok (m::as) b ls rfl s
theorem dB (h:Du c oc x):QF c oc [x]:=fun Z Z Z Z s=>(h s).bind fun a b ls s=>.ok a b ls rfl s
theorem dU (h:Du c oc x):QG c oc [x]:=fun Z Z Z Z s=>(h s).bind fun a b ls s=>.ok a b ls rfl s
theorem dC (h:Du c oc x) (hl:QF c oc (y::l)):QF c oc (x::y::l):=fun ρ Z Z Z s=>(h s).bind fun a b ls s=>Ex.tEx s (fun s=>hl s) fun s=>.ok a b ls rfl s
theorem dW (h:Du c oc x) (hl:QG c oc (y::l)):QG c oc (x::y::l):=fun ρ Z Z Z s=>(h s).bind fun a b ls s=>Ex.tEx s (fun s=>.ok a b ls rfl s) fun s=>hl s
end
section
variable {B:Type} {c:Ct B} {oc:Oc B}
mutual
theorem C7:∀ e:ME,Du c oc e
 | .const _=>LD
 | .glob _ _=>TM
 | .var _=>dQ
 | .attr o _=>TK (C7 o)
 | .call f as=>TL (C7 f) (U3 as)
 | .meth o _ as=>TN (C7 o) (U3 as)
 | .bin _ l r=>dE (C7 l) (C7 r)
 | .cmp _ l r=>dG (C7 l) (C7 r)
 | .and l=>@fun ρ b ls k s=>YL l s
 | .or l=>@fun ρ b ls k s=>YM l s
 | .not e=>dM (C7 e)
 | .neg e=>dL (C7 e)
 | .ite p x y=>dI (C7 p) (C7 x) (C7 y)
 | .tup l=>dP (U4 l)
 | .lis l=>dK (U4 l)
 | .mlis l=>TO (U4 l)
 | .sub o i=>dN (C7 o) (C7 i)
 | .lam _=>dJ
 | .mdict _=>LE
 | .mpen .. | .cut .. | .compR .. | .compL .. | .compE .. =>dH fun Z Z Z Z=>rfl
theorem U3:∀ l:List ME,Ry c oc l
 | []=>eF
 | e::es=>TS (C7 e) (U3 es)
theorem U4:∀ l:List ME,Oi c oc l
 | []=>eI
 | e::es=>TV (C7 e) (U4 es)
theorem YL:∀ l:List ME,QF c oc l
 | []=>@fun Z Z Z Z s=>s.elim
 | [e]=>dB (C7 e)
 | e::e2::es=>dC (C7 e) (YL (e2::es))
theorem YM:∀ l:List ME,QG c oc l
 | []=>@fun Z Z Z Z s=>s.elim
 | [e]=>dU (C7 e)
 | e::e2::es=>dW (C7 e) (YM (e2::es))
end
end
section
variable {B:Type} {c:Ct B} {oc:Oc B} {u:Bool} {P:Prop}
inductive St (c:Ct B) (x:B1 (Di×List RV)) (K:KO B) (oc:Oc B):Prop
 | ok (o:Oc B) (h:Is c x o) (s:Sm c oc (K o))
 | ex (m:Int) (b:B) (σ:Bu) (h:x= .exc m σ) (t:σ.take c.n=c.S b) (e:oc= .exc m b)
theorem Is.eq {x z:B1 (Di×List RV)} {o:Oc B} (h:Is c z o) (e:x=z):Is c x o:=e▸h
theorem St.eq {x y:B1 (Di×List RV)} {K:KO B} (h:St c y K oc) (e:x=y):St c x K oc:=e▸h
theorem Ex.bindS {α γ:Type} {R:α→γ} {x:B1 γ} {k:α→B→Bu→Fr B} {K:KO B} {F:γ→Bu→B1 (Di×List RV)} (h:Ex c R x k oc) (q:∀ a b ls,Sm c oc (k a b ls)→St c (F (R a) (c.st b ls)) K oc):St c (x.bind F) K oc:=match h with
 | .ok a b ls h s=>h▸q a b ls s
 | .ex m b σ h t e=>.ex m b σ (h▸rfl) t e
theorem St.next {ρ:List LV} {b:B} {ls:Bu} {K:KO B} (s:Sm c oc (K (.next ρ b ls))):St c (.ok (.next,c.rvs ρ) (c.st b ls)) K oc:=.ok (.next ρ b ls) rfl s
theorem St.bind {x:B1 (Di×List RV)} {K K':KO B} {F:Di×List RV→Bu→B1 (Di×List RV)} (h:St c x K' oc) (hn:∀ ρ b ls,Sm c oc (K' (.next ρ b ls))→St c (F (.next,c.rvs ρ) (c.st b ls)) K oc) (hb:∀ ρ b ls,Sm c oc (K' (.brk ρ b ls))→St c (F (.brk,c.rvs ρ) (c.st b ls)) K oc)
  (hr:∀ a b ls,K' (.ret a b ls)=K (.ret a b ls)) (he:∀ m b,K' (.exc m b)=K (.exc m b)) (hR:∀ a ρ σ,F (.ret a,ρ) σ= .ok (.ret a,ρ) σ):St c (x.bind F) K oc:=by
 cases h with
 | ex m b σ h t e=>exact .ex m b σ (congrArg (·.bind F) h) t e
 | ok k h s=>cases k with
  | «next» ρ b ls=>exact(show x=_ from h)▸hn ρ b ls s
  | brk ρ b ls=>exact(show x=_ from h)▸hb ρ b ls s
  | ret a b ls=>exact .ok (.ret a b ls) (Exists.imp (fun ρ h=>(congrArg (·.bind F) h).trans (hR ..)) h) (hr a b ls▸s)
  | exc m b=>exact .ok (.exc m b) (Exists.imp (fun σ h=>⟨congrArg (·.bind F) h.1,h.2⟩) h) (he m b▸s)
theorem MY {ρ ρ':List LV} {k:Nat} {a:LV} (h:Mw ρ k a=some ρ'):F7 (c.rvs ρ) k (c.rv a)=some (c.rvs ρ'):=by
 rw[Lm,Lm]
 unfold Mw at h
 unfold F7
 rw[Am]
 split at h
 · next q=>rw[if_pos q,←Ab h,List.map_set]
 · cases h
theorem Cw {α β γ:Type} {o:Option α} {o':Option β} {R:α→β} {f:α→Option γ} {g:β→Option γ} {x:γ} (h:o.bind f=some x) (k1:∀ a,o=some a→o'=some (R a)) (k2:∀ a,o=some a→f a=some x→g (R a)=some x):o'.bind g=some x:=
 (Aq.mp h).elim fun a ha=>(congrArg (fun o=>o.bind g) (k1 a ha.1)).trans (k2 a ha.1 ha.2)
noncomputable def ZH (c:Ct B) (p:Ir):Prop:=∀ ⦃m ρ ρ'⦄,Xk p m ρ=some ρ'→put p m (c.rvs ρ)=some (c.rvs ρ')
noncomputable def Vk (c:Ct B) (ps:List Ir):Prop:=∀ ⦃ms ρ ρ'⦄,Si ps ms ρ=some ρ'→FW ps ms (c.rvs ρ)=some (c.rvs ρ')
theorem Z4 {p:Ir} {ps:List Ir} {m:MV} {ms:List MV} {ρ ρ':List LV} (h:Si (p::ps) (m::ms) ρ=some ρ') (k:∀ ρ1,Xk p m ρ=some ρ1→Si ps ms ρ1=some ρ'→P):P:=match e:Xk p m ρ,(show(match Xk p m ρ with | some ρ'=>Si ps ms ρ' | none=>none)=some ρ' from h) with
 | some ρ1,h=>k ρ1 e h
 | none,h=>nomatch h
theorem fC {ps:List Ir} (h:Vk c ps):ZH c (.tup ps):=fun m Z Z e=>by cases m<;>first | exact nn e | exact h e
theorem fB:Vk c []:=fun ms Z Z e=>match ms,e with
 | [],e=>congrArg (fun ρ=>some (c.rvs ρ)) (Ab e)
theorem UM {p:Ir} {ps:List Ir} (h:ZH c p) (hl:Vk c ps):Vk c (p::ps):=fun ms ρ Z e=>match ms,e with
 | m::ms,e=>Z4 e fun ρ1 e1 e2=>(congrArg (fun o:Option (List RV)=>match o with | some ρ'=>FW ps ms ρ' | none=>none) (h e1)).trans (hl e2)
mutual
theorem DE:∀ p:Ir,ZH c p
 | .var _=>@fun Z Z Z h=>MY h
 | .tup ps=>fC (MZ ps)
theorem MZ:∀ ps:List Ir,Vk c ps
 | []=>fB
 | p::ps=>UM (DE p) (MZ ps)
end
theorem AD {k:Nat} {ks:List Nat} {a:LV} {as ρ ρ':List LV} (h:Sn (k::ks) (a::as) ρ=some ρ') (z:∀ ρ1,Mw ρ k a=some ρ1→Sn ks as ρ1=some ρ'→P):P:=match e:Mw ρ k a,(show(match Mw ρ k a with | some ρ'=>Sn ks as ρ' | none=>none)=some ρ' from h) with
 | some ρ1,h=>z ρ1 e h
 | none,h=>nomatch h
theorem gV {ks:List Nat}:∀ {as:List LV} {ρ ρ':List LV},Sn ks as ρ=some ρ'→C9 ks (c.rvs as) (c.rvs ρ)=some (c.rvs ρ'):=by
 induction ks with
 | nil=>intro as ρ ρ' h;cases as with
  | nil=>exact congrArg (fun ρ=>some (c.rvs ρ)) (Ab h)
  | cons _ _=>exact nn h
 | cons k ks ih=>intro as ρ ρ' h;cases as with
  | nil=>exact nn h
  | cons a as=>exact AD h fun ρ1 e1 e2=>(congrArg (fun o:Option (List RV)=>match o with | some ρ'=>C9 ks (c.rvs as) ρ' | none=>none) (MY e1)).trans (ih e2)
theorem St.put {o:Option (List RV)} {ρ:List LV} {b:B} {ls:Bu} {K:KO B} (s:Sm c oc (K (.next ρ b ls))) (e:o=some (c.rvs ρ)):St c (Ep (c.st b ls) (o.map fun ρ=>(.next,ρ))) K oc:=e▸ .next s
noncomputable abbrev jD (c:Ct B) (oc:Oc B) (body:List LV→B→Bu→KO B→Fr B) (far:List RV→Bu→B1 (Di×List RV)):Prop:=∀ ⦃ρ b ls K⦄,Sm c oc (body ρ b ls K)→St c (far (c.rvs ρ) (c.st b ls)) K oc
theorem JM {body:List LV→B→Bu→KO B→Fr B} {far:List RV→Bu→B1 (Di×List RV)} {p:Ir} (hb:jD c oc body far):∀(l:List MV),jD c oc (RY body p l) (I7 (put p) far l)
 | [],_,_,_,_,h=>.next h
 | m::ms,ρ,b,ls,K,h=>Cs h fun ρ1 e h=>St.eq (y:=(far (c.rvs ρ1) (c.st b ls)).bind fun r σ=>match r with | (.next,ρ)=>I7 (Mine.put p) far ms ρ σ | (.brk,ρ)=>.ok (.next,ρ) σ | (.ret v,ρ)=>.ok (.ret v,ρ) σ)
  ((hb h).bind (fun Z Z Z s=>JM hb ms s) (fun Z Z Z s=>.next s) (fun Z Z Z=>rfl) (fun Z Z=>rfl) fun Z Z Z=>rfl)
  (congrArg (fun o:Option (List RV)=>(match o with | none=>B1.no | some ρ=>(far ρ (c.st b ls)).bind fun r σ=>match r with | (.next,ρ)=>I7 (Mine.put p) far ms ρ σ | (.brk,ρ)=>.ok (.next,ρ) σ | (.ret v,ρ)=>.ok (.ret v,ρ) σ)) (DE p e))
theorem bS {σ:Bu} {l:List MV}:∀ {a:LV},XZ a=some l→Jb σ (c.rv a)=some l
 | .v _,h=>h
noncomputable def tC (x y:B1 (Di×List RV)) (o:Option Bool):B1 (Di×List RV):=match o with
 | some true=>x
 | some false=>y
 | none=>.no
theorem St.tEx {x y:B1 (Di×List RV)} {K:KO B} {a:LV} {t e:Fr B} (s:Sm c oc (PR (Q2 a) t e)) (h1:Sm c oc t→St c x K oc) (h2:Sm c oc e→St c y K oc):St c (tC x y (Dn (c.rv a))) K oc:=UD s fun t e s=>match t,e,s with
 | true,e,s=>(h1 s).eq (congrArg (tC x y) (Ks e))
 | false,e,s=>(h2 s).eq (congrArg (tC x y) (Ks e))
theorem tQ {cond:List LV→B→Bu→KF B→Fr B} {body:List LV→B→Bu→KO B→Fr B} {fc:List RV→Bu→B1 Bool} {far:List RV→Bu→B1 (Di×List RV)}
  (hc:∀ {ρ:List LV} {b:B} {ls:Bu} {x y:B→Bu→Fr B},Sm c oc (cond ρ b ls fun t b ls=>PR (Q2 t) (x b ls) (y b ls))→Ex c id (fc (c.rvs ρ) (c.st b ls)) (fun t b ls=>match t with | true=>x b ls | false=>y b ls) oc)
  (hb:jD c oc body far) (n:Nat):jD c oc (tP cond body n) (pE fc far n):=by
 induction n with
 | zero=>exact fun Z Z Z Z h=>h.elim
 | succ n ih=>
  exact fun ρ b ls K h=>(hc h).bindS fun t b ls h=>by
   cases t with
   | false=>exact .next h
   | true=>exact(hb h).bind (fun Z Z Z s=>ih s) (fun Z Z Z s=>.next s) (fun Z Z Z=>rfl) (fun Z Z=>rfl) fun Z Z Z=>rfl
theorem gC {lo hi:Int} {k:List MV→Fr B} (h:Sm c oc (nQ lo hi k)) (z:0≤lo∧lo≤Cf→0≤hi∧hi≤Cf→Sm c oc (k (C5 lo (hi - lo).toNat))→P):P:=L6 (q:=decide (0≤lo∧lo≤Cf)&&decide (0≤hi∧hi≤Cf)) h (fun e h=>z (of_decide_eq_true (GT e).1) (of_decide_eq_true (GT e).2) h) fun Z h=>h.elim
theorem U1 {σ:Bu} {r:Nat} {x m:MV} {o:MO} (e:σ[r]?=some o):G1 σ (.loc r) (.v x) (.v m)=(gS o x m).map fun o=>σ.set r o:=Ka e
theorem DQ {b:B} {ls:Bu} {q:Nat} {o x:MO} (e:(c.S b)[q]?=some o):(c.S b++ls).set q x=(c.S b).set q x++ls:=List.set_append_left _ _ (Ah.mp e).1
theorem Ji {α:Type} {σ:Bu} {r:Nat} {f:MO→Option α} {x:α} (h:wO σ r f=some x) (k:∀ o,σ[r]?=some o→f o=some x→P):P:=match e:σ[r]?,(show(match σ[r]? with | some o=>f o | none=>none)=some x from h) with
 | some o,h=>k o e h
 | none,h=>nomatch h
theorem oE {b b':B} {ls:Bu} {x m:MV} (h:G1 (c.S b) (.loc c.r) (.v x) (.v m)=some (c.S b')):G1 (c.st b ls) (.loc c.r) (.v x) (.v m)=some (c.st b' ls):=
 Ji h fun o e h=>(A9.mp h).elim fun o2 h2=>(U1 (GH e)).trans (A9.mpr ⟨o2,h2.1,(DQ e).trans (congrArg (· ++ls) h2.2)⟩)
theorem oF {b:B} {ls ls':Bu} {q:Nat} {x m:MV} (h:G1 ls (.loc q) (.v x) (.v m)=some ls'):G1 (c.st b ls) (.loc (c.n+q)) (.v x) (.v m)=some (c.st b ls'):=
 Ji h fun o e h=>(A9.mp h).elim fun o2 h2=>(U1 (Qy.trans e)).trans (A9.mpr ⟨o2,h2.1,OM.trans (congrArg (c.st b) h2.2)⟩)
theorem XD {b:B} {ls:Bu} {i:Int} (h:E5 (c.S b) (.loc c.r)=some i):E5 (c.st b ls) (.loc c.r)=some i:=Ji h fun o e h=>(Ka (GH e)).trans h
theorem gU {i:Int} {b:B} {k:B→Fr B} (h:Sm c oc (.set i b k)) (z:∀ b',(∀ ts j,(c.S b)[c.r]?=some (.rdr ts j)→(c.S b).set c.r (.rdr ts i)=c.S b')→Sm c oc (k b')→P):P:=oG h z
theorem fN {x m:MV} {b:B} {k:B→Fr B} (h:Sm c oc (.put x m b k)) (z:∀ b',G1 (c.S b) (.loc c.r) (.v x) (.v m)=some (c.S b')→Sm c oc (k b')→P):P:=oG h z
theorem JK {b:B} {k:Fr B} (h:Sm c oc (.flt b k)) (q:E5 (c.S b) (.loc c.r)=some (c.β.pos b+1)→Sm c oc k→P):P:=h.elim fun Z h=>q h.1 h.2
theorem AI {s:MS} {ρ:List LV} {b:B} {ls:Bu} {K:KO B} (h:Sm c oc (.stm s ρ b ls K)):St c (XA c.C s (c.rvs ρ) (c.st b ls)) K oc:=sY h fun o h s=>.ok o h s
noncomputable def L5 (u:Bool) (c:Ct B) (oc:Oc B) (s:MS):Prop:=jD c oc (aN u c.β s) (XA c.C s)
noncomputable def M6 (u:Bool) (c:Ct B) (oc:Oc B) (l:List MS):Prop:=jD c oc (Iy u c.β l) (Dv c.C l)
variable {e x y z:ME} {l l2:List MS}
theorem dX {p:Ir}:L5 u c oc (.assign p x):=match p with
 | .var k=>fun Z Z Z Z h=>(C7 x h).bindS fun a b ls h=>Cs h fun ρ1 e h=>.put h (MY e)
 | .tup ps=>fun Z Z Z Z h=>(C7 x h).bindS fun a b ls h=>Ly h fun m em h=>Cs h fun ρ1 e h=>em▸ .put h (DE (.tup ps) e)
theorem TR {ks:List Nat} {es:List ME}:L5 u c oc (.assignT ks es):=fun Z Z Z Z h=>(U3 es h).bindS fun as b ls h=>Cs h fun ρ1 e h=>.put h (gV e)
theorem TT:L5 u c oc (.expr x):=fun ρ Z Z Z h=>(C7 x h).bindS fun Z Z Z h=>.next h
theorem dZ (h1:M6 u c oc l) (h2:M6 u c oc l2):L5 u c oc (.ite x l l2):=fun ρ Z Z Z h=>(C7 x h).bindS fun a Z Z h=>St.tEx h (fun h=>h1 h) fun h=>h2 h
theorem dY {p:Ir} (h1:M6 u c oc l):L5 u c oc (.forIn p x l):=fun ρ Z Z K h=>(C7 x h).bindS fun a b ls h=>Cs h fun l2 e1 h=>Cs h fun w e2 h=>(JM h1 l2 h).eq
 ((congrArg (fun o:Option (List MV)=>(match o with | some l2=>(match Df l2.length with | some _=>I7 (Mine.put p) (fun ρ σ=>Dv c.C l ρ σ) l2 (c.rvs ρ) (c.st b ls) | none=>.no) | none=>B1.no)) (bS e1)).trans (congrArg (fun o:Option Unit=>(match o with | some _=>I7 (Mine.put p) (fun ρ σ=>Dv c.C l ρ σ) l2 (c.rvs ρ) (c.st b ls) | none=>B1.no)) e2))
theorem eH:L5 u c oc (.ret x):=fun ρ Z Z Z h=>(C7 x h).bindS fun a b ls h=>.ok (.ret a b ls) ⟨_,rfl⟩ h
theorem LK:L5 u c oc (.setAt x y):=fun ρ Z Z Z h=>(C7 y h).bindS fun a b ls h=>(C7 x h).bindS fun o b ls h=>mH h fun eo h=>L6 h (fun hr h=>(c.hrd hr b).elim fun ts e=>Cs h fun i ei h=>gU h fun b' q s=>eo▸BS (c:=c) ei▸(St.next s).eq
 ((congrArg (fun o:Option MO=>(match o with | some (.rdr ts _)=>B1.ok (Di.next,c.rvs ρ) ((c.st b ls).set c.r (.rdr ts i)) | _=>.no)) (GH e)).trans (congrArg (B1.ok (Di.next,c.rvs ρ)) ((DQ e).trans (congrArg (· ++ls) (q ts _ e)))))) fun Z h=>h.elim
theorem oD {o i a:RV} {σ σ':Bu} {ρ:List RV} (e:G1 σ o i a=some σ'):(match G1 σ o i a with | some σ=>B1.ok (Di.next,ρ) σ | none=>.no)= .ok (.next,ρ) σ':=congrArg (fun o:Option Bu=>(match o with | some σ=>B1.ok (Di.next,ρ) σ | none=>.no)) e
theorem Zj:L5 u c oc (.setItem x y z):=fun ρ Z Z K h=>(C7 z h).bindS fun a Z Z h=>(C7 x h).bindS fun o Z Z h=>(C7 y h).bindS fun i b ls h=>Ly h fun k ek h=>Ly h fun m em h=>ek▸em▸by
 clear ek em
 cases o with
 | b=>exact fN h fun b' q s=>(St.next s).eq (oD (oE q))
 | l q=>exact Cs h fun ls' e s=>(St.next s).eq (oD (oF e))
 | _=>exact h.elim
theorem LJ:L5 u c oc (.fault x y):=fun ρ Z Z Z h=>(C7 x h).bindS fun o b ls h=>mH h fun eo h=>JK h fun q h=>eo▸((C7 y h).bindS fun a b2 ls2 h=>Cs h fun t et h=>JK h fun q2 h=>St.ex _ b2 (c.st b2 ls2)
  ((congrArg (fun o:Option Int=>o.elim (B1.no:B1 (Di×List RV)) fun n=>(Oj (c.rv a)).elim .no fun Z=>.exc n (c.st b2 ls2)) (XD q2)).trans (congrArg (fun o:Option Str=>o.elim (B1.no:B1 (Di×List RV)) fun Z=>.exc (c.β.pos b2+1) (c.st b2 ls2)) (oN et))) (List.take_left' (c.len b2)) h.symm).eq
 (congrArg (fun o:Option Int=>o.elim (B1.no:B1 (Di×List RV)) fun Z=>(C0 c.C y (c.rvs ρ) (c.st b ls)).bind fun e σ=>(E5 σ (.loc c.r)).elim .no fun n=>(Oj e).elim .no fun Z=>.exc n σ) (XD q))
theorem LL (h1:M6 u c oc l):L5 u c oc (.while x l):=fun ρ b ls K h=>L6 (q:=u) h (fun Z h=>tQ (fc:=fun ρ σ=>(C0 c.C x ρ σ).bind fun t σ=>Ep σ (Dn t)) (fun h=>(C7 x h).bind fun t b ls h=>UD h fun t e s=>(Ex.ok t b ls rfl s).eq (congrArg (Ep (c.st b ls)) (Ks e))) h1 WH h) fun Z h=>AI h
theorem TU {k:Nat} (h1:M6 u c oc l):∀ {o:Option ME},L5 u c oc (.forR k o x l)
 | none,ρ,b,ls,K,h=>L6 (q:=u) h (fun Z h=>(C7 x h).bindS fun a b ls h=>Cs h fun n e h=>gC h fun Z e2 h=>BS (c:=c) e▸((JM h1 _ (Int.sub_zero n▸h)).eq (if_pos e2))) fun Z h=>AI h
 | some _,_,_,_,_,h=>AI h
theorem LM {s:MS} (h1:L5 u c oc s) (h2:M6 u c oc l):M6 u c oc (s::l):=fun Z Z Z Z h=>(h1 h).bind (fun Z Z Z s=>h2 s) (fun Z Z Z s=>.ok (.brk _ _ _) rfl s) (fun Z Z Z=>rfl) (fun Z Z=>rfl) fun Z Z Z=>rfl
mutual
theorem YN:∀ s:MS,L5 u c oc s
 | .assign _ _=>dX
 | .assignT _ _=>TR
 | .setAt _ _=>LK
 | .expr _=>TT
 | .ite _ x y=>dZ (Hd x) (Hd y)
 | .forIn _ _ x=>dY (Hd x)
 | .ret _=>eH
 | .fault _ _=>LJ
 | .brk=>@fun Z Z Z Z h=>.ok (.brk _ _ _) rfl h
 | .dead=>@fun Z Z Z Z h=>h.elim
 | .setItem _ _ _=>Zj
 | .while _ y=>LL (Hd y)
 | .forR _ _ _ y=>TU (Hd y)
theorem Hd:∀ l:List MS,M6 u c oc l
 | []=>@fun Z Z Z Z h=>.next h
 | s::ss=>LM (YN s) (Hd ss)
end
theorem JJ {x:B1 (Di×List RV)} {o:Oc B} (s:St c x .fin o):Is c x o:=match s with
 | .ok _ h s=>(show _=o from s)▸h
 | .ex m b σ h t e=>e▸⟨σ,h,t⟩
theorem Z8 {l:List MS} {ρ:List LV} {b:B} {ls:Bu} {o:Oc B} {es:List (Ev B)} (h:go es (Iy u c.β l ρ b ls .fin)=J0 o es) (a:Al c es):Is c (Dv c.C l (c.rvs ρ) (c.st b ls)) o:=JJ (Hd l (Pr h a))
end
noncomputable def Ls (a:Nat):Bool:=Nat.beq a C6||(Nat.beq a B3||Nat.beq a Fj)
noncomputable def nO (v:Bq):Option Nat:=match v with
 | .ref a=>match Ls a with
  | true=>none
  | false=>some a
 | _=>none
noncomputable def aY:MV→Option Bv
 | .val v=>(nO v).bind J4
 | .str m=>(Gw m).bind J4
 | _=>none
noncomputable def vL:List MV→List LV
 | []=>[]
 | m::ms=>.v m::vL ms
noncomputable def vR:List MV→List RV
 | []=>[]
 | m::ms=>.v m::vR ms
section
variable {B:Type}
noncomputable def sS (a:LV) (b:B) (ls:Bu):Fr B:=match a with
 | .v m=>.fin (.ret (.v m) b [])
 | .l q=>P5 ls q fun l=>.fin (.ret (.v (.lis l)) b [])
 | _=>.no
noncomputable def YA:Oc B→Fr B
 | .next _ b _=>.fin (.ret (.v .none) b [])
 | .ret a b ls=>sS a b ls
 | .exc m b=>.fin (.exc m b)
 | .brk .. =>.no
noncomputable def Ty (n:Nat) (d:Bv):Bool:=Ap n d.np&&(Ap d.np (n+d.dfl.length)&&(Ap d.dfl.length d.np&&Ap d.np d.nl))
noncomputable def Wj (u:Bool) (β:Bd B) (f:MV) (as:List LV) (b:B) (es:List (Ev B)):Tr B:=go es (Nc (aY f) fun d=>bF (Ty as.length d) (Iy u β d.body (as++vL (d.dfl.drop (as.length+d.dfl.length - d.np))++Ao (d.nl - d.np) .un) b [] YA) .no)
end
theorem Ia {α β:Type} {o:Option α} {a:α} {z:β} {f:α→β} (h:o=some a):o.elim z f=f a:=h▸rfl
theorem DH {v:Bq} {a:Nat} (h:nO v=some a):v= .ref a∧Ls a=false:=by
 cases v with
 | ref b=>
  have h:(match Ls b with | true=>none | false=>some b)=some a:=h
  cases e:Ls b with
  | true=>rw[e] at h;exact nn h
  | false=>rw[e] at h;exact Ab h▸⟨rfl,e⟩
 | _=>exact nn h
theorem VB {n a:Nat} {d:Bv} {as:List RV} {σ:Bu} (h:Ls a=false) (hd:J4 a=some d):Cm (n+1) (.val (.ref a)) as σ=Ef (Cm n) d as σ:=
 have h1:=Bool.or_eq_false_iff.mp h
 have h2:=Bool.or_eq_false_iff.mp h1.2
 (if_neg (Nat.ne_of_beq_eq_false h1.1)).trans ((if_neg (Nat.ne_of_beq_eq_false h2.1)).trans ((if_neg (Nat.ne_of_beq_eq_false h2.2)).trans (Ia hd)))
theorem Uv {n:Nat} {f:MV} {d:Bv} {as:List RV} {σ:Bu} (h:aY f=some d):Cm (n+1) f as σ=Ef (Cm n) d as σ:=by
 cases f with
 | val v=>exact(Aq.mp h).elim fun a ha=>(DH ha.1).1▸VB (DH ha.1).2 ha.2
 | str m=>exact Ia h
 | _=>exact nn h
theorem NN {B:Type} {c:Ct B}:∀ {l:List MV},c.rvs (vL l)=l.map .v
 | []=>rfl
 | _::_=>congrArg _ NN
theorem Uw {B:Type} {c:Ct B}:∀ {l m:List LV},c.rvs (l++m)=c.rvs l++c.rvs m
 | [],_=>rfl
 | _::_,_=>congrArg _ Uw
theorem gH {B:Type} {c:Ct B} {k:Nat}:c.rvs (Ao k .un)=Ao k .un:=Lm.trans List.map_replicate
theorem VC {B:Type} {c:Ct B} {l:List LV}:(c.rvs l).length=l.length:=(congrArg _ Lm).trans (Am ..)
section
variable {B:Type} {c:Ct B}
noncomputable def Rt (c:Ct B) (x:B1 RV):Oc B→Prop
 | .ret a b _=>x= .ok (c.rv a) (c.S b)
 | .exc m b=>x= .exc m (c.S b)
 | _=>False
noncomputable def K8 (n:Nat) (x:B1 (Di×List RV)):B1 RV:=I4 n (x.bind fun r σ'=>match r.1 with
 | .ret a=>Ic n σ' a
 | .next=>Ic n σ' (.v .none)
 | .brk=>.no)
theorem OY {b:B} {ls:Bu}:(c.st b ls).take c.n=c.S b:=List.take_left' (c.len b)
theorem LQ {b:B} {ls:Bu} {r:RV}:B1.ok r ((c.st b ls).take c.n)= .ok r (c.S b):=congrArg _ OY
theorem KI {x:B1 (Di×List RV)} {o:Oc B} (s:St c x YA o):Rt c (K8 c.n x) o:=by
 cases s with
 | ex m b σ h t e=>exact e▸(congrArg (K8 c.n) h).trans (congrArg _ t)
 | ok k h s=>cases k with
  | «next» ρ b ls=>exact(show _=o from s)▸(congrArg (K8 c.n) h).trans LQ
  | brk=>exact s.elim
  | exc m b=>exact(show _=o from s)▸Exists.elim h fun σ h=>(congrArg (K8 c.n) h.1).trans (congrArg _ h.2)
  | ret a b ls=>
   exact Exists.elim h fun ρ h=>by
    cases a with
    | v m=>exact(show _=o from s)▸(congrArg (K8 c.n) h).trans LQ
    | l q=>exact N2 s fun l e s=>(show _=o from s)▸(congrArg (K8 c.n) h).trans ((congrArg (I4 c.n) ((if_neg (Nat.not_lt.mpr (A4 _ _))).trans (by rw[Qy,e]):Ic c.n (c.st b ls) (.loc (c.n+q))= .ok (.v (.lis l)) ((c.st b ls).take c.n))).trans LQ)
    | _=>exact s.elim
theorem Xo {d:Bv} {as:List LV} {b:B} (hl:Ty as.length d=true):Ef c.C d (c.rvs as) (c.S b)=K8 c.n (Dv c.C d.body (c.rvs (as++vL (d.dfl.drop (as.length+d.dfl.length - d.np))++Ao (d.nl - d.np) .un)) (c.st b [])):=by
 have h1:=GT hl
 have h2:=GT h1.2
 have h3:=GT h2.2
 rw[Uw,Uw,NN,gH,show c.st b []=c.S b from Aj _]
 unfold Ef
 rw[VC,if_pos ⟨Ac h1.1,Ac h2.1,Ac h3.1,Ac h3.2⟩,c.len b]
 rfl
theorem Tt {u:Bool} {n:Nat} {f:MV} {as:List LV} {b:B} {o:Oc B} {es:List (Ev B)} (hC:c.C=Cm n) (h:Wj u c.β f as b es=J0 o es) (a:Al c es):Rt c (Cm (n+1) f (c.rvs as) (c.S b)) o:=
 Cs (Pr h a) fun d hd h=>L6 h (fun hl h=>(Uv hd).symm▸hC▸(Xo hl).symm▸KI (Hd d.body h)) fun Z h=>h.elim
noncomputable def XY:MO→Bool
 | .rdr _ _=>true
 | .pen _ _=>true
 | _=>false
theorem RU {b:B} {ls:Bu} {q:Nat} {o:MO} {ρ:List RV} (ho:ls[q]?=some o) (hr:XY o=true):K8 c.n (.ok (.ret (c.rv (.l q)),ρ) (c.st b ls))= .ok (.loc c.n) (c.S b++[o]):=by
 show I4 c.n (Ic c.n (c.st b ls) (.loc (c.n+q)))=_
 rw[show Ic c.n (c.st b ls) (.loc (c.n+q))=_ from if_neg (Nat.not_lt.mpr (A4 _ _)),Qy,ho]
 cases o with
 | rdr ts a=>exact congrArg (fun s=>B1.ok _ (s++_)) OY
 | pen x y=>exact congrArg (fun s=>B1.ok _ (s++_)) OY
 | _=>cases hr
end
noncomputable abbrev B2:=List MV
noncomputable abbrev tk (k w:Str):MV:=.tup [.str k,.str w]
noncomputable def PA (m:MV) (i:Nat):MV:=match m with
 | .tup [.str k,.str w]=>.tok k w (i+1)
 | _=>.none
noncomputable def Gr (T:B2):List MV:=T.zipIdx.map fun x=>PA x.1 x.2
noncomputable def ps (T L:B2):Int:=((T.length - L.length:Nat):Int)
noncomputable def st (σ:Bu) (r:Nat) (T L:B2):Bu:=σ.set r (.rdr (Gr T) (ps T L))
structure Ok (T L:B2):Prop where
 big:T.length≤Cf
 ws:∀ m∈T,∃ k w,m=tk k w∧Ci w≤1000
 suf:L <:+T
theorem Ok.tl {T L:B2} {p:MV} (H:Ok T (p::L)):Ok T L:=⟨H.big,H.ws,(Aw p L).trans H.suf⟩
theorem Ok.to {T L L':B2} (H:Ok T L) (h:L' <:+L):Ok T L':=⟨H.big,H.ws,h.trans H.suf⟩
theorem Ok.len {T L:B2} (H:Ok T L):L.length≤T.length:=H.suf.length_le
theorem Ok.get {T L:B2} (H:Ok T L) (j:Nat):T[T.length - L.length+j]?=L[j]?:=by
 obtain⟨P,rfl⟩:=H.suf
 rw[Ai,Nat.add_sub_cancel,Az (A4 _ _),Nat.add_sub_cancel_left]
noncomputable abbrev βr (T:B2):Bd B2:=⟨true,ps T⟩
noncomputable def rC (n:Nat) (T:B2) (σ:Bu) (r:Nat) (h:r < σ.length):Ct B2 where
 C:=Cm n
 n:=σ.length
 r:=r
 S:=st σ r T
 β:=βr T
 len:=fun b=>List.length_set ..
 hrd:=fun Z b=>⟨Gr T,List.getElem?_set_self h⟩
noncomputable def RS (k:Nat) (f:MV) (as:List MV) (T L:B2) (a:MV) (L':B2):Prop:=∀(n:Nat) (σ:Bu) (r:Nat),r < σ.length→Cm (n+k) f (.loc r::vR as) (st σ r T L)= .ok (.v a) (st σ r T L')
noncomputable def RX (k:Nat) (f:MV) (as:List MV) (T L:B2) (m:Int) (L':B2):Prop:=∀(n:Nat) (σ:Bu) (r:Nat),r < σ.length→Cm (n+k) f (.loc r::vR as) (st σ r T L)= .exc m (st σ r T L')
noncomputable def PS (k:Nat) (f:MV) (as:List MV) (a:MV):Prop:=∀(n:Nat) (σ:Bu),Cm (n+k) f (vR as) σ= .ok (.v a) σ
structure Vj (B:Type) where
 I:Type
 ct:Nat→I→Ct B
 lv:∀ K i,∃ n,(ct K i).C=Cm (n+K)
 β:Bd B
 hβ:∀ K i,(ct K i).β=β
noncomputable def Af {B:Type} (φ:Vj B) (K:Nat) (b:B) (ls:Bu) (es:List (Ev B)):Prop:=∀ i,Al (φ.ct K i) es
noncomputable def rF (T:B2):Vj B2 where
 I:=Nat×(σ:Bu)×{r:Nat // r < σ.length}
 ct K i:=rC (i.1+K) T i.2.1 i.2.2.1 i.2.2.2
 lv K i:=⟨i.1,rfl⟩
 β:=βr T
 hβ _ _:=rfl
theorem up {n k K:Nat} (h:Ap k K=true):∃ n',n+K=n'+k:=⟨n+(K - k),by rw[Nat.add_assoc,Nat.sub_add_cancel (Ac h)]⟩
theorem Ha {B:Type} {c:Ct B}:∀ {as:List MV},c.rvs (vL as)=vR as
 | []=>rfl
 | _::_=>congrArg _ Ha
section
variable {B:Type} {φ:Vj B} {K k:Nat} {b b':B} {ls ls':Bu} {es:List (Ev B)} {f:MV} {as:List MV} {a m:MV}
theorem R0:Af φ K b ls []:=fun Z=>trivial
theorem cM (ls':Bu) (al:Af φ K b ls' es):Af φ K b ls es:=al
theorem cC {t:Bool} (h:t=true) (al:Af φ K b ls es):Af φ K b ls (.chk t::es):=fun i=>⟨h,al i⟩
theorem cD {t v:Bool} (h:t=v) (al:Af φ K b ls es):Af φ K b ls (.dec t v::es):=fun i=>⟨h,al i⟩
theorem cY (al:Af φ K b ls es):Af φ K b ls (.dec true true::es):=cD rfl al
theorem cN (al:Af φ K b ls es):Af φ K b ls (.dec false false::es):=cD rfl al
theorem cO {x:Option MV} (h:x=some m) (al:Af φ K b ls es):Af φ K b ls (.opt x m::es):=fun i=>⟨h,al i⟩
theorem cP (s:PS k f as a) (al:Af φ K b ls es) (hk:Ap k K=true:=by rfl):Af φ K b ls (.call f (vL as) b ls (.v a) b ls::es):=fun i=>⟨(φ.lv K i).elim fun n e=>(Mine.Q.up hk).elim fun n' e2=>by
 show(φ.ct K i).C f ((φ.ct K i).rvs (vL as)) _=_
 rw[e,e2,Ha]
 exact s n' _,al i⟩
theorem cE {e:ME} {ρ:List LV} {a:LV} (h:∀ i,C0 (φ.ct K i).C e ((φ.ct K i).rvs ρ) ((φ.ct K i).st b ls)= .ok ((φ.ct K i).rv a) ((φ.ct K i).st b' ls')) (al:Af φ K b' ls' es):Af φ K b ls (.exp e ρ b ls a b' ls'::es):=fun i=>⟨h i,al i⟩
noncomputable def SS (φ:Vj B) (K:Nat) (x:MS) (ρ:List LV) (b:B) (ls:Bu) (ρ':List LV) (b':B) (ls':Bu):Prop:=∀ i,Is (φ.ct K i) (XA (φ.ct K i).C x ((φ.ct K i).rvs ρ) ((φ.ct K i).st b ls)) (.next ρ' b' ls')
theorem sR {x:MS} {ρ ρ':List LV} (al:Af φ K b ls es) (hg:go es (aN true φ.β x ρ b ls .fin)=J0 (.next ρ' b' ls') es:=by kernel_rfl):SS φ K x ρ b ls ρ' b' ls':=fun i=>JJ (YN x (Pr (φ.hβ K i▸hg) (al i)))
noncomputable def pG (C:Call) (x:ME) (y:List MS) (m:Nat) (ρ:List RV) (σ:Bu):B1 (Di×List RV):=pE (fun ρ σ=>(C0 C x ρ σ).bind fun t σ=>Ep σ (Dn t)) (fun ρ σ=>Dv C y ρ σ) m ρ σ
noncomputable def WS (φ:Vj B) (K:Nat) (x:ME) (y:List MS) (m:Nat) (ρ:List LV) (b:B) (ls:Bu) (ρ':List LV) (b':B) (ls':Bu):Prop:=
 ∀ i,Is (φ.ct K i) (pG (φ.ct K i).C x y m ((φ.ct K i).rvs ρ) ((φ.ct K i).st b ls)) (.next ρ' b' ls')
noncomputable def iV (u:Bool) (β:Bd B) (x:ME) (y:List MS) (ρ:List LV) (b:B) (ls:Bu):Fr B:=It β x ρ b ls fun t b ls=>PR (Q2 t) (Iy u β y ρ b ls .fin) (.fin (.brk ρ b ls))
theorem WJ {x:ME} {y:List MS} {ρ ρ':List LV} (h:WS φ K x y WH ρ b ls ρ' b' ls'):SS φ K (.while x y) ρ b ls ρ' b' ls':=h
noncomputable def Trn (c:Ct B) (z:B1 (Di×List RV)) (f:List RV→Bu→B1 (Di×List RV)):Oc B→Prop
 | .next ρ b ls=>z=f (c.rvs ρ) (c.st b ls)
 | .brk ρ b ls=>z= .ok (.next,c.rvs ρ) (c.st b ls)
 | _=>True
noncomputable def tO (C:Call) (x:ME) (y:List MS) (n:Nat) (r:Di×List RV) (σ:Bu):B1 (Di×List RV):=match r with
 | (.next,ρ)=>pG C x y n ρ σ
 | (.brk,ρ)=>.ok (.next,ρ) σ
 | (.ret v,ρ)=>.ok (.ret v,ρ) σ
theorem YV {u:Bool} {x:ME} {y:List MS} {ρ:List LV} {o:Oc B} {n:Nat} {c:Ct B} (s:Sm c o (iV u c.β x y ρ b ls)):Trn c (pG c.C x y (n+1) (c.rvs ρ) (c.st b ls)) (pG c.C x y n) o:=by
 cases C7 x s with
 | ex m b σ h t e=>exact e▸trivial
 | ok a b1 ls1 h s=>
  exact UD s fun t e s=>by
   have z:pG c.C x y (n+1) (c.rvs ρ) (c.st b ls)=B1.bind (.ok t (c.st b1 ls1)) fun t σ=>match t with | false=>.ok (.next,c.rvs ρ) σ | true=>(Dv c.C y (c.rvs ρ) σ).bind (tO c.C x y n):=(congrArg (fun o=>B1.bind (B1.bind o _) _) h).trans (congrArg (fun o=>B1.bind (Ep _ o) _) (Ks e))
   clear e h
   cases t with
   | false=>exact(show _=o from s)▸z
   | true=>
    cases Hd y s with
    | ex m b σ h t e=>exact e▸trivial
    | ok k h s=>cases k with
     | «next» ρ b2 ls2=>exact(show _=o from s)▸z.trans (congrArg (fun o=>B1.bind o (tO c.C x y n)) h)
     | brk ρ b2 ls2=>exact(show _=o from s)▸z.trans (congrArg (fun o=>B1.bind o (tO c.C x y n)) h)
     | _=>exact(show _=o from s)▸trivial
theorem Q4 {u:Bool} {m:Nat} {x:ME} {y:List MS} {ρ ρ1 ρ':List LV} {b1:B} {ls1:Bu} (al:Af φ K b ls es) (r:WS φ K x y m ρ1 b1 ls1 ρ' b' ls') (hg:go es (iV u φ.β x y ρ b ls)=J0 (.next ρ1 b1 ls1) es:=by kernel_rfl):WS φ K x y (m+1) ρ b ls ρ' b' ls':=fun i=>
 Eq.trans (YV (n:=m) (Pr (o:=.next ρ1 b1 ls1) (φ.hβ K i▸hg) (al i)):) (r i)
theorem wE {u:Bool} {m:Nat} {x:ME} {y:List MS} {ρ ρ':List LV} (al:Af φ K b ls es) (hg:go es (iV u φ.β x y ρ b ls)=J0 (.brk ρ' b' ls') es:=by kernel_rfl):WS φ K x y (m+1) ρ b ls ρ' b' ls':=fun i=>(YV (n:=m) (Pr (o:=.brk ρ' b' ls') (φ.hβ K i▸hg) (al i)):)
theorem cL {x:MS} {ρ ρ':List LV} (h:SS φ K x ρ b ls ρ' b' ls') (al:Af φ K b' ls' es):Af φ K b ls (.stm x ρ b ls (.next ρ' b' ls')::es):=fun i=>⟨h i,al i⟩
end
section
variable {K k:Nat} {T L L' L2:B2} {f:MV} {as:List MV} {a m:MV} {ls:Bu} {es:List (Ev B2)} {o:Oc B2} {i:Int}
theorem Qw {σ:Bu} {r:Nat} (h:r < σ.length):st σ r T L++ls=st (σ++ls) r T L:=by
 unfold st;rw[List.set_append_left _ _ h]
theorem T6 {r:Nat} {σ ls:Bu} (h:r < σ.length):r < (σ++ls).length:=by rw[Ai];exact Nat.lt_add_right _ h
theorem cR (s:RS k f as T L a L') (al:Af (rF T) K L' ls es) (hk:Ap k K=true:=by rfl):Af (rF T) K L ls (.call f (.b::vL as) L ls (.v a) L' ls::es):=fun⟨n,σ,r,h⟩=>by
 refine⟨?_,al _⟩
 obtain⟨n',e⟩:=up (n:=n) hk
 show Cm (n+K) f (.loc r::(rC (n+K) T σ r h).rvs (vL as)) (st σ r T L++ls)= .ok (.v a) (st σ r T L'++ls)
 rw[e,Ha,Qw h,Qw h]
 exact s n' _ r (T6 h)
theorem cX (s:RX k f as T L i L') (hk:Ap k K=true:=by rfl):Af (rF T) K L ls [.callx f (.b::vL as) L ls i L']:=fun⟨n,σ,r,h⟩=>⟨(up (n:=n) hk).elim fun n' e=>⟨st σ r T L'++ls,by
 show Cm (n+K) f (.loc r::(rC (n+K) T σ r h).rvs (vL as)) (st σ r T L++ls)= .exc i (st σ r T L'++ls)
 rw[e,Ha,Qw h,Qw h]
 exact s n' _ r (T6 h),List.take_left' (List.length_set ..)⟩,trivial⟩
theorem cS (h:ps T L'=i) (al:Af (rF T) K L' ls es):Af (rF T) K L ls (.set i L L'::es):=fun⟨n,σ,r,h'⟩=>⟨fun ts j e=>by
 have e2:(st σ r T L)[r]?=some (.rdr (Gr T) (ps T L)):=List.getElem?_set_self h'
 have e:=e.symm.trans e2
 cases e
 show(σ.set r _).set r _=σ.set r _
 rw[List.set_set,h],al _⟩
theorem Ij:(Gr T).length=T.length:=(Am ..).trans List.length_zipIdx
theorem EC {i:Nat} {k w:Str} (e:T[i]?=some (tk k w)):(Gr T)[i]?=some (.tok k w (i+1)):=by
 unfold Gr
 rw[List.getElem?_map,List.getElem?_zipIdx,e,Nat.zero_add];rfl
theorem aX {σ:Bu} {r:Nat} (h:r < σ.length) (H:Ok T L) (hL:L≠[]):E5 (st σ r T L) (.loc r)=some (ps T L+1):=by
 cases L with
 | nil=>exact(hL rfl).elim
 | cons p L=>
 obtain⟨k,w,rfl,_⟩:=H.ws p (H.suf.subset (.head _))
 have hl:L.length+1≤T.length:=H.len
 have lt:T.length - (L.length+1)≤T.length - 1:=Nat.sub_le_sub_left (Nat.le_add_left 1 _) _
 have c1:0≤ps T (tk k w::L)∧Gr T≠[]∧(Gr T).length≤Cf:=⟨Int.natCast_nonneg _,List.length_pos_iff.mp (Bb (Bb (Nat.succ_pos _) hl) (Au Ij.symm)),Ad (Au Ij) H.big⟩
 have hm:(min (ps T (tk k w::L)) ((Gr T).length - 1)).toNat=T.length - (L.length+1):=by
  rw[Ij,Int.min_eq_left (by rw[←Int.natCast_one,←Int.ofNat_sub (Ad (Nat.succ_pos _) hl)];exact Be.mpr lt)];rfl
 exact(Ka (List.getElem?_set_self h)).trans ((if_pos c1).trans ((congrArg (fun i=>(Gr T)[i]?.bind GL) hm).trans (congrArg (·.bind GL) (EC (H.get 0)))))
theorem cF (H:Ok T L) (al:Af (rF T) K L ls es) (hL:L≠[]:=by exact List.cons_ne_nil _ _):Af (rF T) K L ls (.flt L::es):=fun⟨n,σ,r,h⟩=>⟨aX h H hL,al _⟩
theorem fR' (u:Bool) (al:Af (rF T) K L [] es) (hg:Wj u (βr T) f (.b::vL as) L es=J0 (.ret (.v a) L' []) es:=by kernel_rfl):RS (K+1) f as T L a L':=fun n σ r h=>Ha (c:=rC (n+K) T σ r h) (as:=as)▸Tt (c:=rC (n+K) T σ r h) rfl hg (al ⟨n,σ,r,h⟩)
theorem fX' (u:Bool) (al:Af (rF T) K L [] es) (hg:Wj u (βr T) f (.b::vL as) L es=J0 (.exc i L') es:=by kernel_rfl):RX (K+1) f as T L i L':=fun n σ r h=>Ha (c:=rC (n+K) T σ r h) (as:=as)▸Tt (c:=rC (n+K) T σ r h) rfl hg (al ⟨n,σ,r,h⟩)
theorem fR (al:Af (rF T) K L [] es) (hg:Wj false (βr T) f (.b::vL as) L es=J0 (.ret (.v a) L' []) es:=by kernel_rfl):RS (K+1) f as T L a L':=fR' false al hg
theorem fU (al:Af (rF T) K L [] es) (hg:Wj true (βr T) f (.b::vL as) L es=J0 (.ret (.v a) L' []) es:=by kernel_rfl):RS (K+1) f as T L a L':=fR' true al hg
theorem fX (al:Af (rF T) K L [] es) (hg:Wj true (βr T) f (.b::vL as) L es=J0 (.exc i L') es:=by kernel_rfl):RX (K+1) f as T L i L':=fX' true al hg
theorem RS.up {K:Nat} (s:RS k f as T L a L') (hk:Ap k K=true:=by rfl):RS K f as T L a L':=fun n σ r h=>by
 obtain⟨n',e⟩:=Mine.Q.up (n:=n) hk
 rw[e];exact s n' σ r h
theorem fS {σ:Bu} {r:Nat} (h:r < σ.length):(st σ r T L++ls)[r]?=some (.rdr (Gr T) (ps T L)):=Qw h▸List.getElem?_set_self (T6 h)
theorem cT (al:Af (rF T) K L ls es):Af (rF T) K L ls (.exp (.attr (.var 0) "tokens") [.b] L ls (.v (.lis (Gr T))) L ls::es):=fun⟨n,σ,r,h⟩=>⟨(congrArg (fun o:Option MV=>Ep (st σ r T L++ls) (o.map RV.v)) (Ka (f:=fun o=>Vl o "tokens") (fS h)):),al _⟩
noncomputable def tok (T L:B2) (j:Nat) (k w:Str):MV:=.tok k w ((T.length - L.length+j:Nat)+1)
theorem kH {l:List MV} {i:Nat} {m:MV} (hb:l.length≤Cf) (e:l[i]?=some m):jJ l (.int i)=some m:=(if_pos hb).trans ((if_pos (Int.natCast_nonneg i)).trans e)
theorem nJ {j:Nat}:ps T L+j=((T.length - L.length+j:Nat):Int):=(Int.natCast_add ..).symm
theorem DV {j:Nat} {k w:Str} (H:Ok T L) (e:L[j]?=some (tk k w)):Jz [] (.v (.lis (Gr T))) (.v (.int (ps T L+j)))=some (tok T L j k w):=nJ▸kH (Ad (Au Ij) H.big) (EC ((H.get j).trans e))
theorem KS {j:Nat} {p:MV} (H:Ok T L) (e:L[j]?=some p):decide (ps T L+j < ((Gr T).length:Nat))=true:=nJ▸decide_eq_true (Int.ofNat_lt.mpr (Bb (Ah.mp ((H.get j).trans e)).1 (Au Ij.symm)))
theorem Ny (H:Ok T L):Ap (Gr T).length Cf=true:=A6.mpr (Ad (Au Ij) H.big)
theorem Fb {j:Nat} {k w:Str} (H:Ok T L) (e:L[j]?=some (tk k w)):RS 1 (.str "peek") [.int j] T L (tok T L j k w) L:=
 fR (cT<|cC (Ny H)<|cD (KS H e)<|cT<|cO (DV H e) R0)
end
noncomputable abbrev tS (w:Str):MV:=tk "sign" w
noncomputable abbrev tW (w:Str):MV:=tk "word" w
theorem D9 (x:Str):Cb x x=true:=by unfold Cb;exact beq_self_eq_true _
theorem sy {x y:Str}:(Cb x x&&Cb y y)=true:=by rw[D9,D9];rfl
theorem AA {x y:Str} (h:Cb x y=true):x=y:=by
 obtain⟨⟨x⟩⟩:=x
 obtain⟨⟨y⟩⟩:=y
 unfold Cb at h
 have:=eq_of_beq h
 simp only at this
 rw[this]
theorem Jf (a b:Str):Ci (Gj a b)=Ci a+Ci b:=by unfold Ci Gj;simp
theorem Os {a b:Str} (h:Ci (Gj a b)≤Cf):Kd .Add (.v (.str a)) (.v (.str b))=some (.str (Gj a b)):=by
 show(Df _).map _=_
 unfold Df
 rw[if_pos h];rfl
noncomputable def Jy (w:Str):Bool:=decide (Hb w 32=[w])&&Ap (Ci w) 1000
theorem U5 {w:Str} {l:List Str} (h:Hb w 32=l) (h1:Ci w≤Cf) (h2:l.length≤Cf):Nb (.str w) "split" (.str " ")=some (.lis (l.map .str)):=
 (show _=ite (Ci w≤Cf) ((Df (Hb w 32).length).map fun Z=>MV.lis ((Hb w 32).map .str)) none by kernel_rfl).trans ((if_pos h1).trans (Yd (n:=(Hb w 32).length) (A6.mpr (h▸h2))|>.trans (h▸rfl)))
theorem Hr {w:Str} (h:Jy w=true):Nb (.str w) "split" (.str " ")=some (.lis [.str w]):=by
 unfold Jy at h
 rw[Bool.and_eq_true,decide_eq_true_eq,A6] at h
 exact U5 h.1 (Ad h.2 (by decide)) (show 1≤Cf by decide)
theorem UF {w:Str} (h:Jy w=true):Ci w≤1000:=by
 unfold Jy at h
 rw[Bool.and_eq_true,decide_eq_true_eq,A6] at h
 exact h.2
noncomputable def iA:MV→Option Str
 | .str s=>some s
 | _=>none
theorem DT {m:MV} {s:Str} (h:iA m=some s):m= .str s:=by cases m<;>first | exact nn h | exact congrArg MV.str (Ab h)
noncomputable def oZ:MV→Option (List MV)
 | .tup l=>some l
 | _=>none
theorem WC {m:MV} {s:List MV} (h:oZ m=some s):m= .tup s:=by cases m<;>first | exact nn h | exact congrArg MV.tup (Ab h)
noncomputable def oX (m:MV):Option (Str×Str):=(oZ m).bind fun l=>jQ l fun a b=>(iA a).bind fun k=>(iA b).map fun w=>(k,w)
theorem Us {α β:Type} {P:Prop} {f:α→α→Option β} {z:β} {l:List α} (h:jQ l f=some z) (k:∀ a b,l=[a,b]→f a b=some z→P):P:=by
 cases l with
 | nil=>exact nomatch h
 | cons a l=>
  cases l with
  | nil=>exact nomatch h
  | cons b l=>
   cases l with
   | nil=>exact k a b rfl h
   | cons _ _=>exact nomatch h
theorem iQ {m:MV} {p:Str×Str} (h:oX m=some p):m=tk p.1 p.2:=(Aq.mp h).elim fun l hl=>Us hl.2 fun a b el h=>(Aq.mp h).elim fun k hk=>(A9.mp hk.2).elim fun w hw=>(WC hl.1).trans (el▸hw.2▸(DT hk.1)▸(DT hw.1)▸rfl)
noncomputable def hd (L:B2) (f:Str→Str→Bool):Bool:=(L.head?.bind oX).any fun p=>f p.1 p.2
theorem Jw {k w:Str} {L:B2} {f:Str→Str→Bool}:hd (tk k w::L) f=f k w:=rfl
noncomputable def hK (L:B2) (s:Str):Bool:=hd L fun k Z=>Cb k s
noncomputable def hW (L:B2) (s:Str):Bool:=hd L fun k w=>Cb k "word"&&Cb w s
noncomputable def hS (L:B2) (s:Str):Bool:=hd L fun k w=>Cb k "sign"&&Cb w s
section
variable {T L:B2} {k w:Str}
theorem rU:hW (tW w::L) w=true:=Jw.trans sy
theorem bH:hS (tS w::L) w=true:=Jw.trans sy
theorem Ok.cs (H:Ok T L):L=[]∨∃ k w L',L=tk k w::L':=by
 cases L with
 | nil=>exact .inl rfl
 | cons p L=>
  obtain⟨k,w,rfl,_⟩:=H.ws p (H.suf.subset (.head _))
  exact .inr ⟨k,w,L,rfl⟩
theorem JQ {j:Nat} (H:Ok T L) (e:L[j]?=none):decide (ps T L+j < ((Gr T).length:Nat))=false:=by
 have h1:=List.getElem?_eq_none_iff.mp e
 have h2:=H.len
 rw[Ij]
 unfold ps
 exact decide_eq_false (by omega)
theorem Z1 (j:Nat) (H:Ok T L) (e:L[j]?=none):RS 1 (.str "peek") [.int j] T L .none L:=
 fR (cT<|cC (Ny H)<|cD (JQ H e) R0)
theorem Ey (H:Ok T (tk k w::L)):RS 1 (.str "peek") [] T (tk k w::L) (tok T (tk k w::L) 0 k w) (tk k w::L):=
 fR (cT<|cC (Ny H)<|cD (KS (j:=0) H rfl)<|cT<|cO (DV (j:=0) H rfl) R0)
theorem fD (H:Ok T []):RS 1 (.str "peek") [] T [] .none []:=
 fR (cT<|cC (Ny H)<|cD (JQ (j:=0) H rfl) R0)
theorem Ok.at_ (j:Nat) (H:Ok T L):L[j]?=none∧L.drop j=[]∨∃ k w L',L[j]?=some (tk k w)∧L.drop j=tk k w::L':=by
 cases e:L[j]? with
 | none=>exact .inl ⟨rfl,List.drop_eq_nil_of_le (List.getElem?_eq_none_iff.mp e)⟩
 | some p=>
  obtain⟨k,w,rfl,_⟩:=H.ws p (H.suf.subset (List.mem_of_getElem? e))
  obtain⟨h,e⟩:=Ah.mp e
  exact .inr ⟨k,w,_,rfl,by rw[List.drop_eq_getElem_cons h,e]⟩
theorem Fm (j:Nat) (kd:Str) {b:Bool} (H:Ok T L) (h:hK (L.drop j) kd=b:=by kernel_rfl):RS 2 (.str "is_kind") [.str kd,.int j] T L (.bool b) L:=by
 rcases H.at_ j with⟨e,d⟩ | ⟨k,w,L',e,d⟩
 · rw[d] at h;subst h;exact fR (cR (Z1 j H e) R0)
 · rw[d] at h;exact fR (cR (Fb H e)<|cD h R0)
theorem Dz (kd:Str) {b:Bool} (H:Ok T L) (h:hK L kd=b:=by kernel_rfl):RS 2 (.str "is_kind") [.str kd] T L (.bool b) L:=by
 rcases H.at_ 0 with⟨e,d⟩ | ⟨k,w,L',e,d⟩
 · rw[List.drop_zero] at d;subst d h;exact fR (cR (Z1 0 H e) R0)
 · rw[List.drop_zero] at d;subst d;exact fR (cR (Fb (j:=0) H rfl)<|cD h R0)
theorem Gk (j:Nat) (s:Str) {b:Bool} (H:Ok T L) (h:hS (L.drop j) s=b:=by kernel_rfl):RS 3 (.str "is_sign") [.str s,.int j] T L (.bool b) L:=by
 rcases H.at_ j with⟨e,d⟩ | ⟨k,w,L',e,d⟩
 · rw[d] at h;subst h;exact fR (cR (Fm j "sign" (b:=false) H (by rw[d];rfl)) R0)
 ·
  rw[d] at h
  cases h1:Cb k "sign" with
  | false=>rw[hS,Jw,h1] at h;cases h;exact fR (cR (Fm j "sign" (b:=false) H (by rw[d];exact h1)) R0)
  | true=>rw[hS,Jw,h1] at h;exact fR (cR (Fm j "sign" (b:=true) H (by rw[d];exact h1))<|cR (Fb H e)<|cD h R0)
theorem D8 (s:Str) {b:Bool} (H:Ok T L) (h:hS L s=b:=by kernel_rfl):RS 3 (.str "is_sign") [.str s] T L (.bool b) L:=by
 rcases H.cs with d | ⟨k,w,L',d⟩
 · subst d h;exact fR (cR (Fm 0 "sign" (b:=false) H) R0)
 ·
  subst d
  cases h1:Cb k "sign" with
  | false=>rw[hS,Jw,h1] at h;cases h;exact fR (cR (Fm 0 "sign" H h1) R0)
  | true=>rw[hS,Jw,h1] at h;exact fR (cR (Fm 0 "sign" H h1)<|cR (Fb (j:=0) H rfl)<|cD h R0)
theorem PJ (s:Str) {b:Bool} (H:Ok T L) (h:hW L s=b) (hs:Jy s=true):RS 3 (.str "is_word") [.str s] T L (.bool b) L:=by
 rcases H.cs with d | ⟨k,w,L',d⟩
 · subst d h;exact fR (cO (Hr hs)<|cR (Fm 0 "word" (b:=false) H) R0)
 ·
  subst d
  cases h1:Cb k "word" with
  | false=>rw[hW,Jw,h1] at h;cases h;exact fR (cO (Hr hs)<|cR (Fm 0 "word" H h1) R0)
  | true=>
   rw[hW,Jw,h1] at h
   have h:Cb w s=b:=h
   cases b with
   | false=>exact fR (cO (Hr hs)<|cR (Fm 0 "word" H h1)<|cR (Fb (j:=0) H rfl)<|cD (show(!Cb w s)=true by rw[h];rfl) R0)
   | true=>exact fR (cO (Hr hs)<|cR (Fm 0 "word" H h1)<|cR (Fb (j:=0) H rfl)<|cD (show(!Cb w s)=false by rw[h];rfl) R0)
theorem DC {p:MV} (H:Ok T (p::L)):ps T L=ps T (p::L)+1:=congrArg Nat.cast (Nat.succ_pred_eq_of_pos (Nat.sub_pos_of_lt H.len)).symm
theorem Bw {s:Str} (H:Ok T (tW s::L)) (hs:Jy s=true:=by kernel_rfl):RS 4 (.str "skip") [.str s] T (tW s::L) (.bool true) L:=
 fR (cR (PJ s H rU hs)<|cO (Hr hs)<|cC rfl<|cS (DC H) R0)
theorem Bt (s:Str) (H:Ok T L) (h:hW L s=false:=by kernel_rfl) (hs:Jy s=true:=by kernel_rfl):RS 4 (.str "skip") [.str s] T L (.bool false) L:=
 fR (cR (PJ s H h hs) R0)
theorem Cd {s:Str} (H:Ok T (tW s::L)) (hs:Jy s=true:=by kernel_rfl):RS 5 (.str "need") [.str s] T (tW s::L) .none L:=
 fR (cR (Bw H hs) R0)
theorem LF (s:Str) (H:Ok T L) (h:hW L s=false:=by kernel_rfl) (hL:L≠[]:=by exact List.cons_ne_nil _ _) (hs:Jy s=true:=by kernel_rfl):RX 5 (.str "need") [.str s] T L (ps T L+1) L:=
 fX (cR (Bt s H h hs)<|cF H (hL:=hL)<|cO (Os (a:=s) (b:=Aa " is asked here") (by rw[Jf,show Ci (Aa " is asked here")=14 by decide+kernel];have:=UF hs;unfold Cf;omega))<|cF H R0 (hL:=hL))
theorem Cn (H:Ok T (tk k w::L)):RS 2 (.str "take") [] T (tk k w::L) (tok T (tk k w::L) 0 k w) L:=
 fR (cR (Ey H)<|cS (DC H) R0)
theorem U6 {s:Str} (H:Ok T (tS s::L)):RS 4 (.str "skip_sign") [.str s] T (tS s::L) (.bool true) L:=
 fR (cR (D8 s H bH)<|cS (DC H) R0)
theorem Oa (s:Str) (H:Ok T L) (h:hS L s=false:=by kernel_rfl):RS 4 (.str "skip_sign") [.str s] T L (.bool false) L:=
 fR (cR (D8 s H h) R0)
theorem Gy {s:Str} (H:Ok T (tS s::L)):RS 5 (.str "need_sign") [.str s] T (tS s::L) .none L:=
 fR (cR (U6 H) R0)
end
noncomputable def pF:Vj Unit where
 I:=Nat×Bu
 ct K i:=⟨Cm (i.1+K),i.2.length,0,fun Z=>i.2,⟨false,fun Z=>0⟩,fun Z=>rfl,fun h=>nomatch h⟩
 lv K i:=⟨i.1,rfl⟩
 β:=⟨false,fun Z=>0⟩
 hβ _ _:=rfl
theorem fP {K:Nat} {f:MV} {as:List MV} {a:MV} {es:List (Ev Unit)} (al:Af pF K () [] es) (hg:Wj true ⟨false,fun Z=>0⟩ f (vL as) () es=J0 (.ret (.v a) () []) es:=by kernel_rfl):PS (K+1) f as a:=fun n σ=>Ha (c:=pF.ct K (n,σ)) (as:=as)▸Tt (c:=pF.ct K (n,σ)) rfl hg (al _)
noncomputable def Ez (w:Str):Bool:=gI (Gj (Gj " " w) " ") Sy
theorem gB {w:Str} (h:Ci w≤1000):PS 1 (.val (.ref 424)) [.str w] (.bool (Ez w)):=by
 have l1:Ci (Aa " ")=1:=by decide+kernel
 have h1:Ci (Gj " " w)=1+Ci w:=by rw[Jf,l1]
 exact fP (cO (Os (a:=Aa " ") (b:=w) (by rw[h1];unfold Cf;omega))<|cO (Os (b:=Aa " ") (by rw[Jf,h1,l1];unfold Cf;omega))<|cD (t:=gI (Gj (Gj " " w) " ") Sy) rfl R0)
noncomputable def jK (d:Nat):Str:=NO d
noncomputable abbrev tN (d:Nat):MV:=tk "number" (jK d)
noncomputable abbrev tL (s:Str):MV:=tk "literal" s
noncomputable def Nh (P:Nat→Prop):Nat→Prop
 | 0=>True
 | n+1=>P n∧Nh P n
theorem Nh.of {P:Nat→Prop} {d:Nat}:∀ {n:Nat},Nh P n→d < n→P d
 | 0,_,h=>(Nat.not_lt_zero _ h).elim
 | n+1,a,h=>(Nat.lt_succ_iff_lt_or_eq.mp h).elim (Nh.of a.2) fun e=>e▸a.1
theorem lL {d:Nat} (hd:d < 10):PS 3 (.val (.ref 131)) [.str (jK d)] (.tup [.int d,.int 0]):=fun n σ=>by
 have a:Nh (fun d=>Cm (n+3) (.val (.ref 131)) [.v (.str (jK d))] σ= .ok (.v (.tup [.int d,.int 0])) (((σ.take σ.length).take (σ.take σ.length).length).take σ.length)) 10:=⟨rfl,rfl,rfl,rfl,rfl,rfl,rfl,rfl,rfl,rfl,trivial⟩
 refine(a.of hd).trans ?_
 rw[List.take_length,List.take_length,List.take_length]
section
variable {C:Call} {ρ:List RV} {σ:Bu}
theorem Lq {g:MV→Bu→B1 Bool} {f:MV→Bu→B1 RV} {h:MV→MV}:∀ {l:List MV},(∀ m∈l,g m σ= .ok true σ∧f m σ= .ok (.v (h m)) σ)→Hc g f l σ= .ok (l.map h) σ
 | [],_=>rfl
 | m::l,k=>(congrArg (fun o=>B1.bind o _) (k m (.head _)).1).trans ((congrArg (fun o=>B1.bind o _) (k m (.head _)).2).trans (congrArg (fun o=>B1.bind o _) (Lq fun x hx=>k x (.tail _ hx))))
theorem Xq {g:MV→Bu→B1 Bool} {f:MV→Bu→B1 RV}:∀ {l:List MV},(∀ m∈l,g m σ= .ok false σ)→Hc g f l σ= .ok [] σ
 | [],_=>rfl
 | m::l,k=>(congrArg (fun o=>B1.bind o _) (k m (.head _))).trans (Xq fun x hx=>k x (.tail _ hx))
theorem Ky {e elt:ME} {cond:Option ME} {cap:List Nat} {c:List RV} {r:RV} {l l':List MV} (hc:Eh ρ cap=some c) (he:C0 C e ρ σ= .ok r σ) (hi:BW σ r cond elt c=some l) (hb:l.length≤Cf)
  (hs:Hc (fun m σ=>PQ C cond (.v m::c) σ) (fun m σ=>C0 C elt (.v m::c) σ) l σ= .ok l' σ):C0 C (.compL e cond elt cap) ρ σ= .ok (.v (.lis l')) σ:=(Ia hc).trans ((congrArg (fun o=>B1.bind o _) he).trans ((Ia hi).trans ((Ia (CP (A6.mpr hb))).trans (congrArg (fun o=>B1.bind (Zf o) _) hs))))
end
noncomputable def LP (l:List Nat):List UInt8:=l.map UInt8.ofNat
noncomputable def Uc (s:Str):MV:=.bytes (LP s.cps.toList).toArray
theorem Ms:∀ {l:List Nat},(∀ c∈l,c < 256)→Xa (l.map fun c:Nat=>MV.int c)=some (LP l)
 | [],_=>rfl
 | c::l,h=>(if_pos ⟨Int.natCast_nonneg c,Int.ofNat_lt.mpr (h c (.head _))⟩).trans (congrArg (Option.map _) (Ms fun x hx=>h x (.tail _ hx)))
theorem MI {C:Call} {σ:Bu} {s:Str} {i:Nat} {ρ:List RV} (e:C0 C (.var i) ρ σ= .ok (.v (.str s)) σ) (h:Ci s≤Cf):C0 C (.compL (.var i) none (.call (.glob "ord" (.val (.builtin "ord"))) [.var 0]) []) ρ σ= .ok (.v (.lis (s.cps.toList.map fun c:Nat=>MV.int c))) σ:=by
 refine Ky (c:=[]) (r:=.v (.str s)) (l:=(Fq s).map .str) rfl e (by show(if _ then _ else _)=_;rw[if_pos h]) (by rw[Am];unfold Fq;rw[Am];exact h) ?_
 have:=Lq (σ:=σ) (g:=fun m σ=>PQ C none [.v m] σ) (f:=fun m σ=>C0 C (.call (.glob "ord" (.val (.builtin "ord"))) [.var 0]) [.v m] σ) (l:=(Fq s).map .str) (h:=fun m=>match m with | .str ⟨a⟩=>(match a.toList with | [c]=>.int (c:Nat) | _=>.none) | _=>.none) (fun m hm=>?_)
 ·
  rw[this]
  unfold Fq
  rw[List.map_map,List.map_map]
  rfl
 ·
  unfold Fq at hm
  rw[List.map_map,Bc] at hm
  obtain⟨c,hc,rfl⟩:=hm
  exact⟨rfl,rfl⟩
theorem bL {C:Call} {σ:Bu} {l:List Nat} {x:RV} (h:∀ c∈l,c < 256) (hb:l.length≤Cf):C0 C (.compL (.var 1) (some (.cmp .Gt (.var 0) (.glob "MOST_OCTET" (.int 255)))) (.var 0) []) [x,.v (.lis (l.map fun c:Nat=>MV.int c))] σ= .ok (.v (.lis [])) σ:=by
 refine Ky (c:=[]) (r:=.v (.lis (l.map fun c:Nat=>MV.int c))) rfl rfl rfl (by rw[Am];exact hb) (Xq fun m hm=>?_)
 rw[Bc] at hm
 obtain⟨c,hc,rfl⟩:=hm
 have:=h c hc
 show B1.ok (decide ((c:Int) > 255)) σ=_
 rw[decide_eq_false (by omega)]
theorem FM {s:Str} (hs:∀ c∈s.cps.toList,c < 256) (hl:Ci s≤1000):PS 1 (.val (.ref 429)) [.str s] (Uc s):=by
 have hb:Ci s≤Cf:=Ad hl (by decide)
 refine fP (cE (ρ:=[.v (.str s),.un]) (a:=.v (.lis (s.cps.toList.map fun c:Nat=>MV.int c))) (fun i=>MI (i:=0) rfl hb)<|cE (ρ:=[.v (.str s),.v (.lis (s.cps.toList.map fun c:Nat=>MV.int c))]) (a:=.v (.lis [])) (fun i=>bL hs hb)<|cC (t:=Ap (s.cps.toList.map fun c:Nat=>MV.int c).length Cf) (by rw[Am];exact A6.mpr hb)<|cO (x:=Om [] (.type "bytes") [.v (.lis (s.cps.toList.map fun c:Nat=>MV.int c))]) (m:=Uc s) ?_ R0)
 show F8 [] "bytes" _=_
 unfold F8 wV wL
 simp only [show("bytes"="int")=False by decide,show("bytes"="str")=False by decide,show("bytes"="tuple")=False by decide,if_false,if_true,Am,Ms hs]
 rw[if_pos (show s.cps.toList.length≤Cf from hb)]
 rfl
section
variable {T L:B2} {k w:Str}
theorem Ok.wl (H:Ok T (tk k w::L)):Ci w≤1000:=by
 obtain⟨k',w',e,h⟩:=H.ws _ (H.suf.subset (.head _))
 cases e;exact h
noncomputable def hN (L:B2):Bool:=hd L fun k w=>Cb k "word"&& !Ez w
theorem De {b:Bool} (H:Ok T L) (h:hN L=b):RS 3 (.str "is_name") [] T L (.bool b) L:=by
 rcases H.cs with d | ⟨k,w,L',d⟩
 · subst d h;exact fR (cR (Fm 0 "word" (b:=false) H) R0)
 ·
  subst d
  cases h1:Cb k "word" with
  | false=>rw[hN,Jw,h1] at h;cases h;exact fR (cR (Fm 0 "word" H h1) R0)
  | true=>rw[hN,Jw,h1] at h;cases h;exact fR (cR (Fm 0 "word" H h1)<|cR (Fb (j:=0) H rfl)<|cP (gB H.wl) R0)
theorem mB (h:Ez w=false):hN (tW w::L)=true:=by rw[hN,Jw,h,D9];rfl
theorem Fo (H:Ok T (tW w::L)) (h:Ez w=false):RS 4 (.str "name") [] T (tW w::L) (.str w) L:=
 fR (cR (De H (mB h))<|cR (Cn H) R0)
noncomputable def hP (L:B2):Bool:=hS L "+"||hS L "-"
theorem Ec {b:Bool} (H:Ok T L) (h:hP L=false) (hb:hK L "number"=b):RS 4 (.str "is_number") [] T L (.bool b) L:=by
 obtain⟨h1,h2⟩:=Bool.or_eq_false_iff.mp h
 exact fR (cR (D8 "+" H h1)<|cR (D8 "-" H h2)<|cR (Dz "number" H hb) R0)
theorem OC {d:Nat} (hd:d < 10) (H:Ok T (tN d::L)):RS 5 (.str "signed") [] T (tN d::L) (.tup [.int d,.int 0]) L:=
 fR (cR (Ec H rfl (D9 _))<|cR (Oa "-" H)<|cR (Oa "+" H)<|cR (Cn H)<|cP (lL hd) R0)
theorem Xc {s:Str} (hs:∀ c∈s.cps.toList,c < 256) (H:Ok T (tL s::L)):RS 3 (.str "octets") [] T (tL s::L) (Uc s) L:=
 fR (cR (Dz "literal" H (D9 _))<|cR (Ey H)<|cP (FM hs H.wl)<|cS (DC H) R0)
theorem P7:Nb (.str "OF IN") "split" (.str " ")=some (.lis [.str "OF",.str "IN"]):=U5 (l:=["OF","IN"]) (by decide+kernel) (by decide+kernel) (by decide)
theorem Um {s:Str} (h:s="OF"∨s="IN") (H:Ok T (tW s::L)):RS 5 (.str "one_of") [.str "OF IN"] T (tW s::L) (.str s) L:=by
 rcases h with rfl | rfl
 · exact fR (cO P7<|cR (Bw H) R0)
 · exact fR (cO P7<|cR (Bt "OF" H)<|cR (Bw H) R0)
theorem N6 (H:Ok T L) (h1:hW L "OF"=false) (h2:hW L "IN"=false):RS 5 (.str "one_of") [.str "OF IN"] T L (.str "") L:=
 fR (cO P7<|cR (Bt _ H h1)<|cR (Bt _ H h2) R0)
theorem Jj (j:Nat) (s:Str) {b:Bool} (H:Ok T L) (h:hW (L.drop j) s=b:=by kernel_rfl):RS 2 (.val (.ref 244)) [.int j,.str s] T L (.bool b) L:=by
 rcases H.at_ j with⟨e,d⟩ | ⟨k,w,L',e,d⟩
 · rw[d] at h;subst h;exact fR (cR (Z1 j H e) R0)
 ·
  rw[d] at h
  cases h1:Cb k "word" with
  | false=>rw[hW,Jw,h1] at h;cases h;exact fR (cR (Fb H e)<|cD h1 R0)
  | true=>rw[hW,Jw,h1] at h;exact fR (cR (Fb H e)<|cD h1<|cD h R0)
noncomputable abbrev NP:List Str:=["+","-"]
noncomputable abbrev nX:List Str:=["*","/"]
noncomputable abbrev nY:List Str:=["**"]
noncomputable def GF (L:B2) (l:List Str):Str:=match L with
 | .tup [.str k,.str w]::_=>if Cb k "sign"&&l.any (fun t=>Cb t w) then w else ""
 | _=>""
theorem Qt (ss:List Str) {x:Str} (H:Ok T L) (h:GF L ss=x) (hs:ss=NP∨ss=nX∨ss=nY:=by first | exact .inl rfl | exact .inr (.inl rfl) | exact .inr (.inr rfl)):RS 2 (.val (.ref 195)) [.tup (ss.map .str)] T L (.str x) L:=by
 subst h
 rcases H.cs with d | ⟨k,w,L',d⟩
 · subst d;rcases hs with rfl | rfl | rfl<;>exact fR (cR (fD H) R0)
 ·
  subst d
  unfold GF
  dsimp only
  cases h1:Cb k "sign" with
  | false=>
   have d:(!Cb k "sign")=true:=by rw[h1];rfl
   rcases hs with rfl | rfl | rfl<;>exact fR (cR (Ey H)<|cD d R0)
  | true=>
   have d:(!Cb k "sign")=false:=by rw[h1];rfl
   cases h2:ss.any (fun t=>Cb t w) with
   | false=>
    have d2:(!ss.any fun t=>Cb t w)=true:=by rw[h2];rfl
    clear h2
    rcases hs with rfl | rfl | rfl<;>exact fR (cR (Ey H)<|cD d<|cD d2 R0)
   | true=>
    have d2:(!ss.any fun t=>Cb t w)=false:=by rw[h2];rfl
    clear h2
    rcases hs with rfl | rfl | rfl<;>exact fR (cR (Ey H)<|cD d<|cD d2 R0)
end
noncomputable abbrev Kp (d:Nat):MV:=.tup [.str "number",.tup [.int d,.int 0]]
noncomputable abbrev aV (f:Str):MV:=.tup [.str "figure",.str f]
noncomputable abbrev fZ (w:Str) (q s:List MV) (p:MV):MV:=.tup [.str "ref",.str w,.tup q,.tup s,p]
noncomputable abbrev SV (s:Str):MV:=.tup [.str "text",Uc s]
section
variable {T L:B2} {k w:Str}
theorem Ps {s:Str} (h:Cb w s=false):hW (tk k w::L) s=false:=by show(Cb k "word"&&Cb w s)=false;rw[h,Bool.and_false]
theorem XC (H:Ok T (tW w::L)) (h:E6 w=none):RS 3 (.val (.ref 174)) [] T (tW w::L) .none (tW w::L):=
 fR (cR (Dz "word" H (D9 _))<|cR (Ey H)<|cD (show(!(E6 w).isSome)=true by rw[h];rfl) R0)
theorem fig_k (H:Ok T L) (h:hK L "word"=false):RS 3 (.val (.ref 174)) [] T L .none L:=
 fR (cR (Dz "word" H h) R0)
theorem lP {f:Str} (H:Ok T (tW w::L)) (h:E6 w=some f):RS 3 (.val (.ref 174)) [] T (tW w::L) (aV f) L:=
 fR (cR (Dz "word" H (D9 _))<|cR (Ey H)<|cD (show(!(E6 w).isSome)=false by rw[h];rfl)<|cR (Cn H)<|cO (m:=.str f) (show(E6 w).map .str=_ by rw[h];rfl) R0)
section
variable {m:MV} {v:MV} {L':B2}
theorem Zy {d:Nat} (hd:d < 10) (H:Ok T (tN d::L)):RS 6 (.val (.ref 181)) [m] T (tN d::L) (Kp d) L:=
 fR (cR (Ec H rfl (D9 _))<|cR (OC hd H) R0)
theorem eU {s:Str} (hs:∀ c∈s.cps.toList,c < 256) (H:Ok T (tL s::L)):RS 6 (.val (.ref 181)) [m] T (tL s::L) (SV s) L:=
 fR (cR (Ec (b:=false) H rfl rfl)<|cR (Dz "literal" H (D9 _))<|cR (Xc hs H) R0)
theorem eS {f:Str} (H:Ok T (tW w::L)) (h:E6 w=some f) (ha:Cb w "ALL"=false):RS 6 (.val (.ref 181)) [m] T (tW w::L) (aV f) L:=
 fR (cR (Ec (b:=false) H rfl rfl)<|cR (Dz "literal" (b:=false) H)<|cR (Bt "ALL" H (Ps ha))<|cR (lP H h) R0)
theorem eV {n:Nat} (H:Ok T (tW w::L)) (h:E6 w=none) (ha:Cb w "ALL"=false) (hr:RS n (.val (.ref 160)) [m] T (tW w::L) v L') (hn:Ap n 21=true:=by rfl):RS 22 (.val (.ref 181)) [m] T (tW w::L) v L':=
 fR (cR (Ec (b:=false) H rfl rfl)<|cR (Dz "literal" (b:=false) H)<|cR (Bt "ALL" H (Ps ha))<|cR (XC H h)<|cR hr R0 hn)
end
section
variable {es:List (Ev B2)} {K:Nat}
theorem MQ (H:Ok T (tS "("::L)) (al:Af (rF T) 3 (tS "("::L) [] es):Af (rF T) 3 (tS "("::L) [] (.dec false false:: .call (.str "is_sign") [.b,.v (.str "(")] (tS "("::L) [] (.v (.bool true)) (tS "("::L) []:: .call (.str "peek") [.b,.v (.int (0:Nat))] (tS "("::L) [] (.v (tok T (tS "("::L) 0 "sign" "(")) (tS "("::L) []:: .call (.str "is_sign") [.b,.v (.str "("),.v (.int (0:Nat))] (tS "("::L) [] (.v (.bool true)) (tS "("::L) []::es):=
 cN<|cR (as:=[.str "("]) (D8 "(" H bH)<|cR (as:=[.int (0:Nat)]) (Fb H rfl)<|cR (as:=[.str "(",.int (0:Nat)]) (Gk 0 "(" H bH) al
theorem FU (j:Nat) (H:Ok T L) (e:L[j]?=some (tk k w)) (h:hS (L.drop j) "("=false) (h2:hS (L.drop j) ")"=false) (h3:hS (L.drop j) ":"=false) (al:Af (rF T) 3 L [] es):Af (rF T) 3 L [] (.dec true true:: .call (.str "peek") [.b,.v (.int j)] L [] (.v (tok T L j k w)) L []::
  .call (.str "is_sign") [.b,.v (.str "("),.v (.int j)] L [] (.v (.bool false)) L []:: .call (.str "is_sign") [.b,.v (.str ")"),.v (.int j)] L [] (.v (.bool false)) L []:: .call (.str "is_sign") [.b,.v (.str ":"),.v (.int j)] L [] (.v (.bool false)) L []::es):=
 cY<|cR (as:=[.int j]) (Fb H e)<|cR (as:=[.str "(",.int j]) (Gk j "(" H h)<|cR (as:=[.str ")",.int j]) (Gk j ")" H h2)<|cR (as:=[.str ":",.int j]) (Gk j ":" H h3) al
end
theorem YI (H:Ok T L) (h:hS L "("=false):RS 4 (.val (.ref 139)) [] T L (.bool false) L:=
 fU (cN<|cR (D8 "(" H h) R0)
theorem Z2 {d:Nat} (H:Ok T (tS "("::tN d::tS ")"::L)):RS 4 (.val (.ref 139)) [] T (tS "("::tN d::tS ")"::L) (.bool false) (tS "("::tN d::tS ")"::L):=
 fU (MQ H<|FU 1 H rfl rfl rfl rfl<|cY<|cR (Fb (j:=2) H rfl)<|cR (Gk 2 "(" (b:=false) H)<|cR (Gk 2 ")" (b:=true) H)<|cN R0)
theorem DA {d:Nat} (H:Ok T (tS "("::tN d::tS ":"::L)):RS 4 (.val (.ref 139)) [] T (tS "("::tN d::tS ":"::L) (.bool true) (tS "("::tN d::tS ":"::L):=
 fU (MQ H<|FU 1 H rfl rfl rfl rfl<|cY<|cR (Fb (j:=2) H rfl)<|cR (Gk 2 "(" (b:=false) H)<|cR (Gk 2 ")" (b:=false) H)<|cR (Gk 2 ":" (b:=true) H) R0)
theorem fK {d:Nat} (H:Ok T (tS "("::tW "J"::tS "+"::tN d::tW "J"::tS ")"::L)):RS 4 (.val (.ref 139)) [] T (tS "("::tW "J"::tS "+"::tN d::tW "J"::tS ")"::L) (.bool false) (tS "("::tW "J"::tS "+"::tN d::tW "J"::tS ")"::L):=
 fU (MQ H<|FU 1 H rfl rfl rfl rfl<|FU 2 H rfl rfl rfl rfl<|FU 3 H rfl rfl rfl rfl<|FU 4 H rfl rfl rfl rfl<|cY<|cR (Fb (j:=5) H rfl)<|cR (Gk 5 "(" (b:=false) H)<|cR (Gk 5 ")" (b:=true) H)<|cN R0)
section
variable {v:MV} {L':B2} {n:Nat} {D:Int}
theorem fM (H:Ok T L) (h:hP L=false) (hb:hS L "("=false) (hs:GF L NP="") (op:RS 22 (.val (.ref 181)) [.clo D] T L v L'):RS 23 (.val (.ref 237)) [.int D] T L v L':=
 fR (cR (Qt NP H hs)<|cN<|cR (Oa "(" H hb)<|cR op R0)
theorem UP (H:Ok T L') (hs:GF L' nY="") (op:RS 23 (.val (.ref 237)) [.int D] T L v L'):RS 24 (.val (.ref 230)) [.int D] T L v L':=
 fU (cR op<|cR (Qt nY H hs)<|cN R0)
theorem JD (H:Ok T L) (hs:GF L NP="") (op:RS 24 (.val (.ref 230)) [.int D] T L v L'):RS 25 (.val (.ref 216)) [.int D] T L v L':=
 fU (cR (Qt NP H hs)<|cY<|cR op R0)
theorem FV (H:Ok T L') (hs:GF L' nX="") (op:RS 25 (.val (.ref 216)) [.int D] T L v L'):RS 26 (.val (.ref 209)) [.int D] T L v L':=
 fU (cR op<|cR (Qt nX H hs)<|cN R0)
theorem Lr (H:Ok T L) (H':Ok T L') (h:GF L NP="") (hb:hS L "("=false) (h1:GF L' nY="") (h2:GF L' nX="") (hp:hP L=false) (op:RS 22 (.val (.ref 181)) [.clo D] T L v L'):RS 26 (.val (.ref 209)) [.int D] T L v L':=
 FV H' h2 (JD H h (UP H' h1 (fM H hp hb h op)))
theorem JA (H':Ok T L') (h:GF L' NP="") (op:RS 26 (.val (.ref 209)) [.int 0] T L v L'):RS 28 (.val (.ref 188)) [] T L v L':=
 have s:RS 27 (.val (.ref 202)) [.int 0] T L v L':=fU (cN<|cR op<|cR (Qt NP H' h)<|cN R0)
 fR (cR s R0)
end
noncomputable def Cz (L:B2):Bool:=hW L "OF"||hW L "IN"||hS L "("
theorem U9 (h:Cz L=false):hW L "OF"=false∧hW L "IN"=false∧hS L "("=false:=by
 unfold Cz at h
 simp only [Bool.or_eq_false_iff] at h
 exact⟨h.1.1,h.1.2,h.2⟩
theorem GA {m:MV} (H:Ok T (tW w::L)) (hr:Ez w=false) (hs:Cz L=false):RS 6 (.val (.ref 160)) [m] T (tW w::L) (fZ w [] [] .none) L:=by
 obtain⟨h1,h2,h3⟩:=U9 hs
 have H':=H.tl
 exact fU (cR (Fo H hr)<|cM [.list []]<|cR (N6 H' h1 h2)<|cN<|cR (D8 "(" H' h3)<|cR (YI H' h3)<|cC rfl R0)
theorem jr:Ez "J"=false:=by unfold Ez Sy;kernel_rfl
noncomputable abbrev jV:MV:=fZ "J" [] [] .none
theorem mZ {D:Int} (H:Ok T (tW "J"::L)) (hs:Cz L=false):RS 22 (.val (.ref 181)) [.clo D] T (tW "J"::L) jV L:=
 eV H (by decide+kernel) (by decide+kernel) (GA H jr hs)
theorem Th {d:Nat} (hd:d < 10) (H:Ok T (tN d::L)) (h1:GF L nY="":=by rfl) (h2:GF L nX="":=by rfl) (h3:GF L NP="":=by rfl):RS 28 (.val (.ref 188)) [] T (tN d::L) (Kp d) L:=
 JA H.tl h3 (Lr H H.tl rfl rfl h1 h2 rfl ((Zy hd H).up))
theorem rK (H:Ok T (tW "J"::tS ")"::L)):RS 28 (.val (.ref 188)) [] T (tW "J"::tS ")"::L) jV (tS ")"::L):=
 JA H.tl rfl (Lr H H.tl rfl rfl rfl rfl rfl (mZ H rfl))
theorem lO {d:Nat} (hd:d < 10) (H:Ok T (tW "J"::tS "+"::tN d::tW "J"::L)):RS 28 (.val (.ref 188)) [] T (tW "J"::tS "+"::tN d::tW "J"::L) (.tup [.str "+",jV,Kp d]) (tW "J"::L):=by
 have a:=Lr (D:=0) H H.tl rfl rfl rfl rfl rfl (mZ H rfl)
 have b:=Lr (D:=0) H.tl.tl H.tl.tl.tl rfl rfl rfl rfl rfl ((Zy (m:=.clo 0) hd H.tl.tl).up)
 have s:RS 27 (.val (.ref 202)) [.int 0] T (tW "J"::tS "+"::tN d::tW "J"::L) (.tup [.str "+",jV,Kp d]) (tW "J"::L):=
  fU (cN<|cR a<|cR (Qt NP (x:="+") H.tl rfl)<|cY<|cR (Cn H.tl)<|cR b<|cR (Qt NP (x:="") H.tl.tl.tl rfl)<|cN R0)
 exact fR (cR s R0)
end
noncomputable abbrev IS:MV:=.val (.ref 188)
inductive Sb where
 | no | num (d:Nat) | j (d:Nat)
noncomputable def Sb.tk:Sb→B2→B2
 | .no,L=>L
 | .num d,L=>tS "("::tN d::tS ")"::L
 | .j d,L=>tS "("::tW "J"::tS "+"::tN d::tW "J"::tS ")"::L
noncomputable def Sb.tree:Sb→List MV
 | .no=>[]
 | .num d=>[Kp d]
 | .j d=>[.tup [.str "+",jV,Kp d],jV]
noncomputable def Sb.ok:Sb→Prop
 | .no=>True
 | .num d | .j d=>d < 10
set_option genCtorIdx false in
inductive Pt where
 | no | one (b:Nat) | two (b e:Nat)
noncomputable def Pt.ctorIdx (x:Pt):Nat:=x.casesOn 0 (fun Z=>1) fun Z Z=>2
noncomputable def Pt.tk:Pt→B2→B2
 | .no,L=>L
 | .one b,L=>tS "("::tN b::tS ":"::tS ")"::L
 | .two b e,L=>tS "("::tN b::tS ":"::tN e::tS ")"::L
noncomputable def Pt.tree:Pt→MV
 | .no=>.none
 | .one b=>.tup [Kp b,.none]
 | .two b e=>.tup [Kp b,Kp e]
noncomputable def Pt.ok:Pt→Prop
 | .no=>True
 | .one b=>b < 10
 | .two b e=>b < 10∧e < 10
set_option genCtorIdx true in
inductive Qd where
 | no | one | two
noncomputable def Qd.tk:Qd→B2→B2
 | .no,L=>L
 | .one,L=>tW "OF"::tW "REC"::L
 | .two,L=>tW "IN"::tW "REC"::tW "OF"::tW "TOP"::L
noncomputable def Qd.tree:Qd→List MV
 | .no=>[]
 | .one=>[.str "REC"]
 | .two=>[.str "REC",.str "TOP"]
section
variable {T L:B2}
theorem Qz {d:Nat} (hd:d < 10) (H:Ok T ((Sb.num d).tk L)):RS 30 (.val (.ref 146)) [IS] T ((Sb.num d).tk L) (.tup (Sb.num d).tree) L:=
 fU (cR (Gy H)<|cR (Th hd H.tl)<|cM [.list [Kp d]]<|cR (U6 H.tl.tl)<|cC rfl R0)
theorem AK {d:Nat} (hd:d < 10) (H:Ok T ((Sb.j d).tk L)):RS 30 (.val (.ref 146)) [IS] T ((Sb.j d).tk L) (.tup (Sb.j d).tree) L:=
 fU (cR (Gy H)<|cR (lO hd H.tl)<|cM [.list [.tup [.str "+",jV,Kp d]]]<|cR (Oa ")" H.tl.tl.tl.tl)<|cC rfl<|cN<|cR (rK H.tl.tl.tl.tl)<|cC rfl<|cM [.list [.tup [.str "+",jV,Kp d],jV]]<|cR (U6 H.tl.tl.tl.tl.tl)<|cC rfl R0)
theorem fA {p:Pt} (ok:p.ok) (H:Ok T (p.tk L)) (hn:p≠ .no):RS 30 (.val (.ref 153)) [IS] T (p.tk L) p.tree L:=by
 cases p with
 | no=>exact(hn rfl).elim
 | one b=>exact fU (cR (Gy H)<|cR (Th ok H.tl)<|cR (Gy H.tl.tl)<|cR (D8 ")" (b:=true) H.tl.tl.tl)<|cR (Gy H.tl.tl.tl) R0)
 | two b e=>exact fU (cR (Gy H)<|cR (Th ok.1 H.tl)<|cR (Gy H.tl.tl)<|cR (D8 ")" (b:=false) H.tl.tl.tl)<|cR (Th ok.2 H.tl.tl.tl)<|cR (Gy H.tl.tl.tl.tl) R0)
noncomputable def Pt.is:Pt→Bool
 | .no=>false
 | _=>true
theorem Pt.hS {p:Pt} (h:hS L "("=false):Mine.Q.hS (p.tk L) "("=p.is:=by cases p<;>first | exact h | rfl
theorem Pt.suf {p:Pt}:L <:+p.tk L:=by
 cases p with
 | no=>exact A0 _
 | one b=>exact⟨[_,_,_,_],rfl⟩
 | two b e=>exact⟨[_,_,_,_,_],rfl⟩
theorem Sb.suf {p:Sb}:L <:+p.tk L:=by
 cases p with
 | no=>exact A0 _
 | num b=>exact⟨[_,_,_],rfl⟩
 | j b=>exact⟨[_,_,_,_,_,_],rfl⟩
theorem nF {p:Pt} (H:Ok T (p.tk L)) (h:Mine.Q.hS L "("=false):RS 4 (.val (.ref 139)) [] T (p.tk L) (.bool p.is) (p.tk L):=by
 cases p with
 | no=>exact YI H h
 | one b=>exact DA H
 | two b e=>exact DA H
structure Cl where
 name:Str
 q:Qd
 s:Sb
 p:Pt
noncomputable def Cl.tk (d:Cl) (L:B2):B2:=tW d.name::d.q.tk (d.s.tk (d.p.tk L))
noncomputable def Cl.tree (d:Cl):MV:=fZ d.name d.q.tree d.s.tree d.p.tree
structure Cl.ok (d:Cl):Prop where
 nm:Ez d.name=false
 fg:E6 d.name=none
 al:Cb d.name "ALL"=false
 s:d.s.ok
 p:d.p.ok
theorem rR:Ez "REC"=false:=by unfold Ez Sy;kernel_rfl
theorem rT:Ez "TOP"=false:=by unfold Ez Sy;kernel_rfl
noncomputable def rfW:MS:=Pj.body.getD 2 .dead
theorem fQ {q:Qd} {nm:Str} (H:Ok T (q.tk L)) (h1:hW L "OF"=false) (h2:hW L "IN"=false):
  SS (rF T) 30 rfW [.b,.v IS,.v (.str nm),.l 0,.un,.un] (q.tk L) [.list []] [.b,.v IS,.v (.str nm),.l 0,.un,.un] L [.list q.tree]:=by
 cases q with
 | no=>exact sR (cR (N6 H h1 h2)<|cN R0)
 | one=>exact sR (cR (Um (.inl rfl) H)<|cY<|cR (Fo H.tl rR)<|cC rfl<|cM [.list [.str "REC"]]<|cR (N6 H.tl.tl h1 h2)<|cN R0)
 | two=>exact sR (cR (Um (.inr rfl) H)<|cY<|cR (Fo H.tl rR)<|cC rfl<|cM [.list [.str "REC"]]<|cR (Um (.inl rfl) H.tl.tl)<|cY<|cR (Fo H.tl.tl.tl rT)<|cC rfl<|cM [.list [.str "REC",.str "TOP"]]<|cR (N6 H.tl.tl.tl.tl h1 h2)<|cN R0)
theorem Qd.suf {q:Qd}:L <:+q.tk L:=by
 cases q with
 | no=>exact A0 _
 | one=>exact⟨[_,_],rfl⟩
 | two=>exact⟨[_,_,_,_],rfl⟩
theorem Qd.len {q:Qd}:Ap q.tree.length Cf=true:=by cases q<;>rfl
theorem YQ {s:Sb} {p:Pt} (h:Cz L=false):hW (s.tk (p.tk L)) "OF"=false∧hW (s.tk (p.tk L)) "IN"=false:=by
 obtain⟨h1,h2,_⟩:=U9 h
 cases s<;>first | exact⟨rfl,rfl⟩ | (cases p<;>first | exact⟨rfl,rfl⟩ | exact⟨h1,h2⟩)
theorem NF {d:Cl} (ok:d.ok) (H:Ok T (d.tk L)) (hs:Cz L=false):RS 31 (.val (.ref 160)) [IS] T (d.tk L) d.tree L:=by
 obtain⟨nm,q,s,p⟩:=d
 obtain⟨h0,_,_,os,op⟩:=ok
 obtain⟨_,_,h3⟩:=U9 hs
 have H1:Ok T (q.tk (s.tk (p.tk L))):=H.tl
 have H2:=H1.to q.suf
 have H3:Ok T (p.tk L):=H2.to s.suf
 have Q:=fQ (nm:=nm) H1 (YQ hs).1 (YQ hs).2
 have P:=nF (p:=p) H3 h3
 have S:p≠ .no→RS 30 (.val (.ref 153)) [IS] T (p.tk L) p.tree L:=fA op H3
 cases s with
 | no=>
  cases p with
  | no=>exact fR (cR (Fo H h0)<|cM [.list []]<|cL Q<|cR (D8 "(" H3 h3)<|cR P<|cC q.len R0)
  | one b=>exact fR (cR (Fo H h0)<|cM [.list []]<|cL Q<|cR (D8 "(" (b:=true) H3)<|cR P<|cR P<|cR (S nofun)<|cC q.len R0)
  | two b e=>exact fR (cR (Fo H h0)<|cM [.list []]<|cL Q<|cR (D8 "(" (b:=true) H3)<|cR P<|cR P<|cR (S nofun)<|cC q.len R0)
 | num d=>
  cases p with
  | no=>exact fR (cR (Fo H h0)<|cM [.list []]<|cL Q<|cR (D8 "(" (b:=true) H2)<|cR (Z2 H2)<|cR (Qz os H2)<|cR P<|cC q.len R0)
  | one b=>exact fR (cR (Fo H h0)<|cM [.list []]<|cL Q<|cR (D8 "(" (b:=true) H2)<|cR (Z2 H2)<|cR (Qz os H2)<|cR P<|cR (S nofun)<|cC q.len R0)
  | two b e=>exact fR (cR (Fo H h0)<|cM [.list []]<|cL Q<|cR (D8 "(" (b:=true) H2)<|cR (Z2 H2)<|cR (Qz os H2)<|cR P<|cR (S nofun)<|cC q.len R0)
 | j d=>
  cases p with
  | no=>exact fR (cR (Fo H h0)<|cM [.list []]<|cL Q<|cR (D8 "(" (b:=true) H2)<|cR (fK H2)<|cR (AK os H2)<|cR P<|cC q.len R0)
  | one b=>exact fR (cR (Fo H h0)<|cM [.list []]<|cL Q<|cR (D8 "(" (b:=true) H2)<|cR (fK H2)<|cR (AK os H2)<|cR P<|cR (S nofun)<|cC q.len R0)
  | two b e=>exact fR (cR (Fo H h0)<|cM [.list []]<|cL Q<|cR (D8 "(" (b:=true) H2)<|cR (fK H2)<|cR (AK os H2)<|cR P<|cR (S nofun)<|cC q.len R0)
theorem Cl.suf {d:Cl}:L <:+d.tk L:=d.p.suf|>.trans d.s.suf|>.trans d.q.suf|>.trans (Aw _ _)
inductive Cq where
 | ref (d:Cl) | fig (w f:Str) | lit (s:Str)
noncomputable def Cq.tk:Cq→B2→B2
 | .ref d,L=>d.tk L
 | .fig w _,L=>tW w::L
 | .lit s,L=>tL s::L
noncomputable def Cq.its:Cq→List MV
 | .ref d=>[.str "ref",.str d.name,.tup d.q.tree,.tup d.s.tree,d.p.tree]
 | .fig _ f=>[.str "figure",.str f]
 | .lit s=>[.str "text",Uc s]
noncomputable abbrev Cq.tree (t:Cq):MV:=.tup t.its
noncomputable def FD (w:Str):Bool:=gI (Gj (Gj " " w) " ") " ZERO ZEROS ZEROES SPACE SPACES HIGH-VALUE HIGH-VALUES LOW-VALUE LOW-VALUES QUOTE QUOTES ALL "
noncomputable def Cq.ok:Cq→Prop
 | .ref d=>d.ok
 | .fig w f=>E6 w=some f∧Cb w "ALL"=false∧FD w=true∧Ez w=true
 | .lit s=>∀ c∈s.cps.toList,c < 256
noncomputable def bo (L:B2):Bool:=match L with
 | .tup [.str k,.str w]::_=>Cb k "number"||Cb k "literal"||(Cb k "word"&&(!Ez w||FD w))
 | _=>false
theorem Yh {k w:Str}:bo (tk k w::L)=(Cb k "number"||Cb k "literal"||(Cb k "word"&&(!Ez w||FD w))):=rfl
theorem RQ {w:Str} (h:Ci w≤1000):∃ x,Kd .Add (.v (.str (Aa " "))) (.v (.str w))=some (.str (Gj " " w))∧Kd .Add (.v (.str (Gj " " w))) (.v (.str (Aa " ")))=some (.str x)∧x=Gj (Gj " " w) " ":=by
 have l1:Ci (Aa " ")=1:=by decide+kernel
 have h1:Ci (Gj " " w)=1+Ci w:=by rw[Jf,l1]
 exact⟨_,Os (by rw[h1];unfold Cf;omega),Os (by rw[Jf,h1,l1];unfold Cf;omega),rfl⟩
theorem HN {b:Bool} (H:Ok T L) (hp:hP L=false) (h:bo L=b):RS 5 (.val (.ref 279)) [] T L (.bool b) L:=by
 rcases H.cs with d | ⟨k,w,L',d⟩
 ·
  subst d h
  exact fR (cR (Ec (b:=false) H rfl rfl)<|cR (Dz "literal" (b:=false) H)<|cR (De (b:=false) H rfl)<|cR (Dz "word" (b:=false) H) R0)
 ·
  subst d h
  obtain⟨x,e1,e2,ex⟩:=RQ H.wl
  cases h1:Cb k "number" with
  | true=>rw[show bo (tk k w::L')=true by rw[Yh,h1];rfl];exact fR (cR (Ec H hp h1) R0)
  | false=>
   cases h2:Cb k "literal" with
   | true=>rw[show bo (tk k w::L')=true by rw[Yh,h1,h2];rfl];exact fR (cR (Ec H hp h1)<|cR (Dz "literal" H h2) R0)
   | false=>
    cases h3:Cb k "word" with
    | false=>
     rw[show bo (tk k w::L')=false by rw[Yh,h1,h2,h3];rfl]
     exact fR (cR (Ec H hp h1)<|cR (Dz "literal" H h2)<|cR (De (b:=false) H (by rw[hN,Jw,h3];rfl))<|cR (Dz "word" H h3) R0)
    | true=>
     cases h4:Ez w with
     | false=>rw[show bo (tk k w::L')=true by rw[Yh,h1,h2,h3,h4];rfl];exact fR (cR (Ec H hp h1)<|cR (Dz "literal" H h2)<|cR (De (b:=true) H (by rw[hN,Jw,h3,h4];rfl)) R0)
     | true=>
      rw[show bo (tk k w::L')=FD w by rw[Yh,h1,h2,h3,h4];rfl]
      subst ex
      exact fR (cR (Ec H hp h1)<|cR (Dz "literal" H h2)<|cR (De (b:=false) H (by rw[hN,Jw,h3,h4];rfl))<|cR (Dz "word" H h3)<|cR (Ey H)<|cO e1<|cO e2<|cD (t:=gI (Gj (Gj " " w) " ") " ZERO ZEROS ZEROES SPACE SPACES HIGH-VALUE HIGH-VALUES LOW-VALUE LOW-VALUES QUOTE QUOTES ALL ") rfl R0)
noncomputable def bt (L:B2):Bool:=bo L&& !hW L "ALL"
theorem Ke {b:Bool} (H:Ok T L) (hp:hP L=false) (h:bt L=b):RS 6 (.val (.ref 314)) [] T L (.bool b) L:=by
 unfold bt at h
 cases h1:bo L with
 | false=>rw[h1] at h;subst h;exact fR (cR (HN H hp h1) R0)
 | true=>
  rw[h1] at h
  have h:(!hW L "ALL")=b:=h
  subst h
  exact fR (cR (HN H hp h1)<|cR (as:=[.int (0:Nat),.str "ALL"]) (Jj 0 "ALL" (b:=hW L "ALL") H rfl) R0)
end
theorem DJ {w s:Str} (h:Ez w=false) (hs:Ez s=true):Cb w s=false:=by
 cases e:Cb w s with
 | false=>rfl
 | true=>rw[AA e,hs] at h;cases h
section
variable {T L:B2}
theorem Cl.hW {d:Cl} (ok:d.ok) (s:Str) (hs:Ez s=true:=by kernel_rfl):Mine.Q.hW (d.tk L) s=false:=Ps (DJ ok.nm hs)
theorem Cl.hN {d:Cl} (ok:d.ok):Mine.Q.hN (d.tk L)=true:=mB ok.nm
theorem Cq.hW {t:Cq} (ok:t.ok) (s:Str) (hs:Ez s=true:=by kernel_rfl) (hf:E6 s=none:=by kernel_rfl):Mine.Q.hW (t.tk L) s=false:=by
 cases t with
 | ref d=>exact Ps (DJ (Cl.ok.nm ok) hs)
 | fig w f=>
  refine Ps ?_
  cases e:Cb w s with
  | false=>rfl
  | true=>have o:E6 w=some f:=ok.1;rw[AA e,hf] at o;cases o
 | lit s=>rfl
theorem Cq.hP {t:Cq}:Mine.Q.hP (t.tk L)=false:=by cases t<;>rfl
theorem Cq.hS {t:Cq} {s:Str}:Mine.Q.hS (t.tk L) s=false:=by cases t<;>rfl
theorem Cq.bo {t:Cq} (ok:t.ok):Mine.Q.bo (t.tk L)=true:=by
 cases t with
 | ref d=>show Mine.Q.bo (tW d.name::_)=true;rw[Yh,Cl.ok.nm ok];rfl
 | fig w f=>show Mine.Q.bo (tW w::L)=true;rw[Yh,ok.2.2.1,Bool.or_true];rfl
 | lit s=>rfl
theorem Cq.bt {t:Cq} (ok:t.ok):Mine.Q.bt (t.tk L)=true:=by
 unfold Mine.Q.bt
 rw[Cq.bo ok]
 cases t with
 | ref d=>rw[show Mine.Q.hW ((Cq.ref d).tk L) "ALL"=false from Ps (Cl.ok.al ok)];rfl
 | fig w f=>rw[show Mine.Q.hW ((Cq.fig w f).tk L) "ALL"=false from Ps ok.2.1];rfl
 | lit s=>rfl
theorem Cl.stop {d:Cl} (ok:d.ok):Cz (d.tk L)=false:=by
 unfold Cz
 rw[Cl.hW ok "OF",Cl.hW ok "IN"];rfl
theorem Cq.stop {t:Cq} (ok:t.ok):Cz (t.tk L)=false:=by
 unfold Cz
 rw[Cq.hW ok "OF",Cq.hW ok "IN",Cq.hS];rfl
theorem Cq.suf {t:Cq}:L <:+t.tk L:=by
 cases t with
 | ref d=>exact d.suf
 | fig w f=>exact Aw _ _
 | lit s=>exact Aw _ _
theorem Cy {d:Cl} (ok:d.ok) (H:Ok T (d.tk L)) (hs:Cz L=false):RS 32 (.val (.ref 286)) [] T (d.tk L) d.tree L:=
 fR (cR (De H (Cl.hN ok))<|cR (NF ok H hs) R0)
theorem UH {d:Cl} (ok:d.ok) (H:Ok T (d.tk L)) (hs:Cz L=false):RS 32 (.val (.ref 181)) [IS] T (d.tk L) d.tree L:=
 fR (cR (Ec (b:=false) H rfl rfl)<|cR (Dz "literal" (b:=false) H)<|cR (Bt "ALL" H (Ps ok.al))<|cR (XC H ok.fg)<|cR (NF ok H hs) R0)
theorem sG {t:Cq} (ok:t.ok) (H:Ok T (t.tk L)) (hs:Cz L=false):RS 32 (.val (.ref 181)) [IS] T (t.tk L) t.tree L:=by
 cases t with
 | ref d=>exact UH ok H hs
 | fig w f=>exact(eS H ok.1 ok.2.1).up
 | lit s=>exact(eU ok H).up
theorem nA {t:Cq} (ok:t.ok) (H:Ok T (t.tk L)) (hs:Cz L=false):RS 33 (.val (.ref 300)) [] T (t.tk L) t.tree L:=
 fR (cR (HN H Cq.hP (Cq.bo ok))<|cR (sG ok H hs) R0)
theorem Da {t:Cq} (ok:t.ok) (H:Ok T (t.tk L)) (hs:Cz L=false):RS 34 (.val (.ref 307)) [] T (t.tk L) t.tree L:=by
 have o:=nA ok H hs
 cases t with
 | ref d=>exact fR (cR o<|cN R0)
 | fig w f=>exact fR (cR o<|cN R0)
 | lit s=>exact fR (cR o<|cN R0)
noncomputable def ini (b:Bool) (w:Str) (L:B2):B2:=match b with
 | true=>tW w::L
 | false=>L
theorem Cp {b:Bool} {w:Str}:L <:+ini b w L:=by
 cases b with
 | true=>exact Aw _ _
 | false=>exact A0 _
theorem D0 {b:Bool} {w:Str} (H:Ok T (ini b w L)) (h:hW L w=false) (hw:Jy w=true:=by kernel_rfl):RS 4 (.str "skip") [.str w] T (ini b w L) (.bool b) L:=by
 cases b with
 | true=>exact Bw H hw
 | false=>exact Bt w H h hw
theorem bN {b:Bool} {w s:Str} (h:hW L s=false) (hw:Cb w s=false:=by kernel_rfl):hW (ini b w L) s=false:=by
 cases b with
 | true=>exact Ps hw
 | false=>exact h
inductive Hh where
 | no | yes (w:Bool) (d:Cl)
noncomputable def Hh.tk:Hh→B2→B2
 | .no,L=>L
 | .yes w d,L=>ini w "WITH" (tW "POINTER"::d.tk L)
noncomputable def Hh.tree:Hh→MV
 | .no=>.none
 | .yes _ d=>d.tree
noncomputable def Hh.ok:Hh→Prop
 | .no=>True
 | .yes _ d=>d.ok
theorem Hh.suf {d:Hh}:L <:+d.tk L:=by
 cases d with
 | no=>exact A0 _
 | yes w d=>exact(d.suf.trans (Aw _ _)).trans Cp
theorem MT {d:Hh} (ok:d.ok) (H:Ok T (d.tk L)) (hs:Cz L=false) (h1:hW L "WITH"=false) (h2:hW L "POINTER"=false):RS 33 (.val (.ref 321)) [] T (d.tk L) d.tree L:=by
 cases d with
 | no=>exact fR (cR (as:=[.int (0:Nat),.str "WITH"]) (Jj 0 "WITH" H h1)<|cR (Bt "POINTER" H h2) R0)
 | yes w d=>
  cases w with
  | false=>exact fR (cR (as:=[.int (0:Nat),.str "WITH"]) (Jj 0 "WITH" (b:=false) H)<|cR (Bw H)<|cR (Cy ok H.tl hs) R0)
  | true=>exact fR (cR (as:=[.int (0:Nat),.str "WITH"]) (Jj 0 "WITH" (b:=true) H)<|cR (as:=[.int (1:Nat),.str "POINTER"]) (Jj 1 "POINTER" (b:=true) H)<|cR (Cn H)<|cR (Bw H.tl)<|cR (Cy ok H.tl.tl hs) R0)
structure BT where
 ini:Bool
 t:Cq
noncomputable def BT.tk (w:Str) (x:BT) (L:B2):B2:=tW w::Mine.Q.ini x.ini "INITIAL" (x.t.tk L)
theorem BT.suf {w:Str} {x:BT}:L <:+x.tk w L:=(x.t.suf.trans Cp).trans (Aw _ _)
inductive F2 where
 | no | b (x:BT) | a (x:BT) | ba (x y:BT) | ab (x y:BT)
noncomputable def F2.tk:F2→B2→B2
 | .no,L=>L
 | .b x,L=>x.tk "BEFORE" L
 | .a x,L=>x.tk "AFTER" L
 | .ba x y,L=>x.tk "BEFORE" (y.tk "AFTER" L)
 | .ab x y,L=>x.tk "AFTER" (y.tk "BEFORE" L)
noncomputable def F2.bef:F2→MV
 | .b x | .ba x _ | .ab _ x=>x.t.tree
 | _=>.none
noncomputable def F2.aft:F2→MV
 | .a x | .ba _ x | .ab x _=>x.t.tree
 | _=>.none
noncomputable def F2.ok:F2→Prop
 | .no=>True
 | .b x | .a x=>x.t.ok
 | .ba x y | .ab x y=>x.t.ok∧y.t.ok
theorem F2.suf {d:F2}:L <:+d.tk L:=by
 cases d with
 | no=>exact A0 _
 | b x=>exact x.suf
 | a x=>exact x.suf
 | ba x y=>exact y.suf.trans x.suf
 | ab x y=>exact y.suf.trans x.suf
noncomputable def Q7 (L:B2):Bool:=Cz L||hW L "BEFORE"||hW L "AFTER"||hW L "INITIAL"
theorem Ta (h:Q7 L=false):Cz L=false∧hW L "BEFORE"=false∧hW L "AFTER"=false∧hW L "INITIAL"=false:=by
 unfold Q7 at h
 simp only [Bool.or_eq_false_iff] at h
 exact⟨h.1.1.1,h.1.1.2,h.1.2,h.2⟩
theorem Op {d:F2} (ok:d.ok) (H:Ok T (d.tk L)) (hs:Q7 L=false):RS 35 (.val (.ref 361)) [] T (d.tk L) (.tup [d.bef,d.aft]) L:=by
 obtain⟨h0,h1,h2,h3⟩:=Ta hs
 cases d with
 | no=>exact fU (cR (Bt "BEFORE" H h1)<|cR (Bt "AFTER" H h2) R0)
 | b x=>
  have i:=D0 H.tl (Cq.hW ok "INITIAL")
  have t:=Da ok (H.tl.to Cp) h0
  exact fU (cR (Bw H)<|cR i<|cR t<|cR (Bt "AFTER" (H.to x.suf) h2) R0)
 | a x=>
  have i:=D0 H.tl (Cq.hW ok "INITIAL")
  have t:=Da ok (H.tl.to Cp) h0
  exact fU (cR (Bt "BEFORE" H)<|cR (Bw H)<|cR i<|cR t<|cR (Bt "BEFORE" (H.to x.suf) h1) R0)
 | ba x y=>
  have i:=D0 H.tl (Cq.hW ok.1 "INITIAL")
  have t:=Da ok.1 (H.tl.to Cp) rfl
  have H2:=H.to x.suf
  have i2:=D0 H2.tl (Cq.hW ok.2 "INITIAL")
  have t2:=Da ok.2 (H2.tl.to Cp) h0
  exact fU (cR (Bw H)<|cR i<|cR t<|cR (Bw H2)<|cR i2<|cR t2 R0)
 | ab x y=>
  have i:=D0 H.tl (Cq.hW ok.1 "INITIAL")
  have t:=Da ok.1 (H.tl.to Cp) rfl
  have H2:=H.to x.suf
  have i2:=D0 H2.tl (Cq.hW ok.2 "INITIAL")
  have t2:=Da ok.2 (H2.tl.to Cp) h0
  exact fU (cR (Bt "BEFORE" H)<|cR (Bw H)<|cR i<|cR t<|cR (Bw H2)<|cR i2<|cR t2 R0)
end
noncomputable abbrev cV:MV:=.tup [.str "continue"]
noncomputable def D4 (tw:Bool):List MV:=match tw with
 | true=>[cV,cV]
 | false=>[cV]
noncomputable def Te (tw:Bool) (L:B2):B2:=tW "CONTINUE"::ini tw "CONTINUE" L
noncomputable abbrev Eg:MV:=.val (.ref 785)
section
variable {T L:B2}
theorem O0 {tw:Bool}:L <:+Te tw L:=Cp.trans (Aw _ _)
theorem SP {tw:Bool} (H:Ok T (Te tw L)) (hs:hW L "CONTINUE"=false):RS 5 Eg [] T (Te tw L) (.tup (D4 tw)) L:=by
 cases tw with
 | false=>exact fU (cM [.list []]<|cR (Bw H)<|cC rfl<|cM [.list [cV]]<|cR (Bt "CONTINUE" H.tl hs)<|cC rfl R0)
 | true=>exact fU (cM [.list []]<|cR (Bw H)<|cC rfl<|cM [.list [cV]]<|cR (Bw H.tl)<|cC rfl<|cM [.list [cV,cV]]<|cR (Bt "CONTINUE" H.tl.tl hs)<|cC rfl R0)
theorem Es {tw:Bool} (H:Ok T (Te tw L)) (hs:hW L "CONTINUE"=false):RS 6 (.val (.ref 265)) [Eg] T (Te tw L) (.tup (D4 tw)) L:=by
 have b:=SP H hs
 cases tw with
 | false=>exact fR (cR b R0)
 | true=>exact fR (cR b R0)
noncomputable abbrev YG:MV:=.tup [.tup [.str "ON"],.tup [.str "OVERFLOW"],.tup []]
theorem fH:PS 1 (.val (.ref 251)) [.str "over"] YG:=fP (cN<|cY R0)
theorem nE:PS 1 (.val (.ref 251)) [.str (Sj "not over" 4)] YG:=fP (cN<|cY R0)
noncomputable abbrev PN:=Option (Bool×Bool)
noncomputable def sK (x:Bool×Bool) (L:B2):B2:=ini x.1 "ON" (tW "OVERFLOW"::Te x.2 L)
noncomputable def PN.oTk (d:PN) (L:B2):B2:=match d with
 | none=>L
 | some x=>sK x L
noncomputable def PN.vTk (d:PN) (L:B2):B2:=match d with
 | none=>L
 | some x=>tW "NOT"::sK x L
noncomputable def PN.vals (key:Str) (d:PN):List MV:=match d with
 | none=>[]
 | some x=>[.tup [.str key,.tup (D4 x.2)]]
structure Ru where
 o:PN
 v:PN
noncomputable def Ru.tk (d:Ru) (L:B2):B2:=d.o.oTk (d.v.vTk L)
noncomputable def Ru.tree (d:Ru):List MV:=d.o.vals "over"++d.v.vals "not over"
noncomputable def pN (L:B2):Bool:=hW L "ON"||hW L "OVERFLOW"||hW L "NOT"||hW L "CONTINUE"
theorem ZW (h:pN L=false):hW L "ON"=false∧hW L "OVERFLOW"=false∧hW L "NOT"=false∧hW L "CONTINUE"=false:=by
 unfold pN at h
 simp only [Bool.or_eq_false_iff] at h
 exact⟨h.1.1.1,h.1.1.2,h.1.2,h.2⟩
noncomputable def onN (b:Bool):Nat:=match b with
 | true=>2
 | false=>1
section
variable {K:Nat} {es:List (Ev B2)}
theorem ah (j:Nat) (s:Str) {b:Bool} (H:Ok T L) (h:hW (L.drop j) s=b) (al:Af (rF T) K L [] es) (hk:Ap 2 K=true:=by rfl):Af (rF T) K L [] (.call (.val (.ref 244)) [.b,.v (.int j),.v (.str s)] L [] (.v (.bool b)) L []::es):=cR (as:=[.int j,.str s]) (Jj j s H h) al hk
end
theorem iJ:Nb (.str "over") "startswith" (.str "not ")=some (.bool false):=by kernel_rfl
theorem iK:Nb (.str "not over") "startswith" (.str "not ")=some (.bool true):=by kernel_rfl
theorem UA (H:Ok T L) (h1:hW L "ON"=false) (h2:hW L "OVERFLOW"=false):RS 3 (.val (.ref 258)) [.str "over"] T L (.int 0) L:=
 fR (cO iJ<|cP fH<|ah 0 "ON" H h1<|cN<|ah 0 "OVERFLOW" H h2 R0)
theorem Zm {on:Bool} (H:Ok T (ini on "ON" (tW "OVERFLOW"::L))):RS 3 (.val (.ref 258)) [.str "over"] T (ini on "ON" (tW "OVERFLOW"::L)) (.int (onN on)) (ini on "ON" (tW "OVERFLOW"::L)):=by
 cases on with
 | false=>exact fR (cO iJ<|cP fH<|ah 0 "ON" (b:=false) H rfl<|cN<|ah 0 "OVERFLOW" (b:=true) H rfl R0)
 | true=>exact fR (cO iJ<|cP fH<|ah 0 "ON" (b:=true) H rfl<|cN<|ah 1 "OVERFLOW" (b:=true) H rfl R0)
theorem eM (H:Ok T L) (h:hW L "NOT"=false):RS 3 (.val (.ref 258)) [.str "not over"] T L (.int 0) L:=
 fR (cO iK<|ah 0 "NOT" H h R0)
theorem Zv {on:Bool} (H:Ok T (tW "NOT"::ini on "ON" (tW "OVERFLOW"::L))):RS 3 (.val (.ref 258)) [.str "not over"] T (tW "NOT"::ini on "ON" (tW "OVERFLOW"::L)) (.int (onN on+1:Nat)) (tW "NOT"::ini on "ON" (tW "OVERFLOW"::L)):=by
 have c {L:B2} {es} (al:Af (rF T) 2 L [] es):Af (rF T) 2 L [] (.exp (.cut (.var 1) (some (.const (.int 4))) none) [.b,.v (.str "not over"),.v (.int 0),.v (.str "not over"),.un,.un,.un,.un] L [] (.v (.str (Sj "not over" 4))) L []::es):=cE (fun i=>rfl) al
 cases on with
 | false=>exact fR (cO iK<|ah 0 "NOT" (b:=true) H rfl<|c<|cP nE<|ah 1 "ON" (b:=false) H rfl<|cN<|ah 1 "OVERFLOW" (b:=true) H rfl R0)
 | true=>exact fR (cO iK<|ah 0 "NOT" (b:=true) H rfl<|c<|cP nE<|ah 1 "ON" (b:=true) H rfl<|cN<|ah 2 "OVERFLOW" (b:=true) H rfl R0)
noncomputable abbrev CB:MV:=.tup [.str "over",.str "not over"]
theorem WP {d:Ru} (H:Ok T (d.tk L)) (hs:pN L=false):RS 7 (.val (.ref 272)) [Eg,CB] T (d.tk L) (.tup d.tree) L:=by
 obtain⟨h1,h2,h3,h4⟩:=ZW hs
 obtain⟨o,v⟩:=d
 cases o with
 | none=>
  cases v with
  | none=>exact fU (cM [.list []]<|cR (UA H h1 h2)<|cN<|cR (eM H h3)<|cN<|cC rfl R0)
  | some x=>
   obtain⟨on,tw⟩:=x
   cases on with
   | false=>exact fU (cM [.list []]<|cR (UA H rfl rfl)<|cN<|cR (Zv (on:=false) H)<|cY<|cR (Cn H)<|cR (Cn H.tl)<|cR (Es H.tl.tl h4)<|cC rfl<|cM [.list [.tup [.str "not over",.tup (D4 tw)]]]<|cC rfl R0)
   | true=>exact fU (cM [.list []]<|cR (UA H rfl rfl)<|cN<|cR (Zv (on:=true) H)<|cY<|cR (Cn H)<|cR (Cn H.tl)<|cR (Cn H.tl.tl)<|cR (Es H.tl.tl.tl h4)<|cC rfl<|cM [.list [.tup [.str "not over",.tup (D4 tw)]]]<|cC rfl R0)
 | some x=>
  obtain⟨on,tw⟩:=x
  have hv:hW (v.vTk L) "CONTINUE"=false:=by cases v<;>first | exact h4 | rfl
  cases on with
  | false=>
   have H2:Ok T (v.vTk L):=H.tl.to O0
   cases v with
   | none=>exact fU (cM [.list []]<|cR (Zm (on:=false) H)<|cY<|cR (Cn H)<|cR (Es H.tl h4)<|cC rfl<|cM [.list [.tup [.str "over",.tup (D4 tw)]]]<|cR (eM H2 h3)<|cN<|cC rfl R0)
   | some x=>
    obtain⟨on,tw2⟩:=x
    cases on with
    | false=>exact fU (cM [.list []]<|cR (Zm (on:=false) H)<|cY<|cR (Cn H)<|cR (Es H.tl rfl)<|cC rfl<|cM [.list [.tup [.str "over",.tup (D4 tw)]]]<|cR (Zv (on:=false) H2)<|cY<|cR (Cn H2)<|cR (Cn H2.tl)<|cR (Es H2.tl.tl h4)<|cC rfl<|cM [.list [.tup [.str "over",.tup (D4 tw)],.tup [.str "not over",.tup (D4 tw2)]]]<|cC rfl R0)
    | true=>exact fU (cM [.list []]<|cR (Zm (on:=false) H)<|cY<|cR (Cn H)<|cR (Es H.tl rfl)<|cC rfl<|cM [.list [.tup [.str "over",.tup (D4 tw)]]]<|cR (Zv (on:=true) H2)<|cY<|cR (Cn H2)<|cR (Cn H2.tl)<|cR (Cn H2.tl.tl)<|cR (Es H2.tl.tl.tl h4)<|cC rfl<|cM [.list [.tup [.str "over",.tup (D4 tw)],.tup [.str "not over",.tup (D4 tw2)]]]<|cC rfl R0)
  | true=>
   have H2:Ok T (v.vTk L):=H.tl.tl.to O0
   cases v with
   | none=>exact fU (cM [.list []]<|cR (Zm (on:=true) H)<|cY<|cR (Cn H)<|cR (Cn H.tl)<|cR (Es H.tl.tl h4)<|cC rfl<|cM [.list [.tup [.str "over",.tup (D4 tw)]]]<|cR (eM H2 h3)<|cN<|cC rfl R0)
   | some x=>
    obtain⟨on,tw2⟩:=x
    cases on with
    | false=>exact fU (cM [.list []]<|cR (Zm (on:=true) H)<|cY<|cR (Cn H)<|cR (Cn H.tl)<|cR (Es H.tl.tl rfl)<|cC rfl<|cM [.list [.tup [.str "over",.tup (D4 tw)]]]<|cR (Zv (on:=false) H2)<|cY<|cR (Cn H2)<|cR (Cn H2.tl)<|cR (Es H2.tl.tl h4)<|cC rfl<|cM [.list [.tup [.str "over",.tup (D4 tw)],.tup [.str "not over",.tup (D4 tw2)]]]<|cC rfl R0)
    | true=>exact fU (cM [.list []]<|cR (Zm (on:=true) H)<|cY<|cR (Cn H)<|cR (Cn H.tl)<|cR (Es H.tl.tl rfl)<|cC rfl<|cM [.list [.tup [.str "over",.tup (D4 tw)]]]<|cR (Zv (on:=true) H2)<|cY<|cR (Cn H2)<|cR (Cn H2.tl)<|cR (Cn H2.tl.tl)<|cR (Es H2.tl.tl.tl h4)<|cC rfl<|cM [.list [.tup [.str "over",.tup (D4 tw)],.tup [.str "not over",.tup (D4 tw2)]]]<|cC rfl R0)
end
noncomputable def WE (t:Option Cq) (L:B2):B2:=match t with
 | none=>L
 | some t=>t.tk L
noncomputable def aF (d:Option Cq) (L:B2):B2:=match d with
 | none=>tW "SIZE"::L
 | some t=>t.tk L
noncomputable def RH (d:Option Cq):MV:=match d with
 | none=>.none
 | some t=>t.tree
noncomputable def jP (d:Option Cq):Prop:=∀ t,d=some t→t.ok
structure Iu where
 t:Cq
 t2:Option Cq
 by_:Bool
 d:Option Cq
noncomputable def Iu.tk (g:Iu) (L:B2):B2:=g.t.tk (WE g.t2 (tW "DELIMITED"::ini g.by_ "BY" (aF g.d L)))
noncomputable def Iu.rows (g:Iu):List MV:=.tup [g.t.tree,RH g.d]::(match g.t2 with
 | none=>[]
 | some t=>[.tup [t.tree,RH g.d]])
structure Iu.ok (g:Iu):Prop where
 t:g.t.ok
 t2:jP g.t2
 d:jP g.d
theorem aA {B:Type} {c:Ct B} {d:MV} {b:B} {ls:Bu} {q:Nat} {l l':List MV} (h:ls[q]?=some (.list l)) (hl:(l.map fun t=>MV.tup [t,d])=l') (hb:Ap l.length Cf=true):
  C0 c.C (.compL (.var 2) none (.tup [.var 0,.var 1]) [3]) (c.rvs [.b,.l 0,.l q,.v d]) (c.st b ls)= .ok (c.rv (.v (.lis l'))) (c.st b ls):=by
 subst hl
 refine Ky (c:=[.v d]) (r:=.loc (c.n+q)) (l:=l) rfl rfl ?_ (Ac hb) ?_
 ·
  unfold BW
  dsimp only
  rw[Qy,h];rfl
 · exact Lq fun m Z=>⟨rfl,rfl⟩
theorem Co {A X:List MV} (n:Nat) (h:A.length≤n) (hx:Ap (n+X.length) Cf=true:=by rfl):Ap (A++X).length Cf=true:=by
 rw[Ai]
 exact A6.mpr (Ad (A7 h _) (Ac hx))
theorem cQ {B:Type} {φ:Vj B} {K:Nat} {b:B} {ls:Bu} {es:List (Ev B)} {d:MV} (q:Nat) (l l':List MV) (al:Af φ K b ls es) (h:ls[q]?=some (.list l):=by rfl) (hl:(l.map fun t=>MV.tup [t,d])=l':=by rfl) (hb:Ap l.length Cf=true:=by rfl):
  Af φ K b ls (.exp (.compL (.var 2) none (.tup [.var 0,.var 1]) [3]) [.b,.l 0,.l q,.v d] b ls (.v (.lis l')) b ls::es):=cE (fun i=>aA h hl hb) al
section
variable {T L:B2}
theorem Jr {t:Option Cq}:L <:+WE t L:=by
 cases t with
 | none=>exact A0 _
 | some t=>exact t.suf
theorem RG {t:Option Cq}:L <:+aF t L:=by
 cases t with
 | none=>exact Aw _ _
 | some t=>exact t.suf
theorem Iu.suf {g:Iu}:L <:+g.tk L:=(((RG.trans Cp).trans (Aw _ _)).trans Jr).trans g.t.suf
theorem Iu.stop {g:Iu} (ok:g.ok):Cz (g.tk L)=false:=Cq.stop ok.t
theorem WV {g:Iu} (ok:g.ok) (H:Ok T (tW "DELIMITED"::ini g.by_ "BY" (aF g.d L))):RS 4 (.str "skip") [.str "BY"] T (ini g.by_ "BY" (aF g.d L)) (.bool g.by_) (aF g.d L):=by
 refine D0 H.tl ?_
 cases hd:g.d with
 | none=>rfl
 | some t=>exact Cq.hW (ok.d t hd) "BY"
noncomputable def jS:ME:=match G7.body with
 | [_,.while c _,_]=>c
 | _=>.const .none
noncomputable def jR:List MS:=match G7.body with
 | [_,.while _ b,_]=>b
 | _=>[]
noncomputable def Iu.lst (g:Iu):List MV:=g.t.tree::(match g.t2 with
 | none=>[]
 | some t=>[t.tree])
theorem mA {g:Iu} {m:Nat} {ρ':List LV} {L':B2} {ls':Bu} (ok:g.ok) (H:Ok T (g.tk L)) (hs:Cz L=false) (r:WS (rF T) 36 jS jR m [.b,.l 0,.l 1,.v (RH g.d)] L ([.list g.rows,.list g.lst]) ρ' L' ls'):
  WS (rF T) 36 jS jR (m+1) [.b,.l 0,.un,.un] (g.tk L) [.list []] ρ' L' ls':=by
 obtain⟨t,t2,by_,d⟩:=g
 have H1:Ok T (WE t2 (tW "DELIMITED"::ini by_ "BY" (aF d L))):=H.to t.suf
 have H2:=H1.to Jr
 have B:=WV (g:=⟨t,t2,by_,d⟩) ok H2
 have H3:=H2.tl.to Cp
 have N:=Cd H2
 have n:=Ke (b:=false) H2 rfl (by kernel_rfl)
 cases t2 with
 | none=>
  have x:=Da ok.t H rfl
  cases d with
  | none=>exact Q4 (u:=true) (cR x<|cM ([.list []]++[.list [t.tree]])<|cR n<|cR N<|cR B<|cR (Bw H3)<|cQ 1 [t.tree] [.tup [t.tree,.none]]<|cC rfl R0) r
  | some e=>exact Q4 (u:=true) (cR x<|cM ([.list []]++[.list [t.tree]])<|cR n<|cR N<|cR B<|cR (Bt "SIZE" H3 (Cq.hW (ok.d e rfl) "SIZE"))<|cR (Da (ok.d e rfl) H3 hs)<|cQ 1 [t.tree] [.tup [t.tree,e.tree]]<|cC rfl R0) r
 | some t2=>
  have o2:=ok.t2 t2 rfl
  have x:=Da ok.t H (Cq.stop o2)
  have b:=Ke H1 Cq.hP (Cq.bt o2)
  have y:=Da o2 H1 rfl
  cases d with
  | none=>exact Q4 (u:=true) (cR x<|cM ([.list []]++[.list [t.tree]])<|cR b<|cR y<|cC rfl<|cM ([.list []]++[.list [t.tree,t2.tree]])<|cR n<|cR N<|cR B<|cR (Bw H3)<|cQ 1 [t.tree,t2.tree] [.tup [t.tree,.none],.tup [t2.tree,.none]]<|cC rfl R0) r
  | some e=>exact Q4 (u:=true) (cR x<|cM ([.list []]++[.list [t.tree]])<|cR b<|cR y<|cC rfl<|cM ([.list []]++[.list [t.tree,t2.tree]])<|cR n<|cR N<|cR B<|cR (Bt "SIZE" H3 (Cq.hW (ok.d e rfl) "SIZE"))<|cR (Da (ok.d e rfl) H3 hs)<|cQ 1 [t.tree,t2.tree] [.tup [t.tree,e.tree],.tup [t2.tree,e.tree]]<|cC rfl R0) r
theorem rS {g:Iu} {m:Nat} {ρ':List LV} {L':B2} {ls':Bu} {a:MV} {acc J:List MV} {v2 v3:LV} (hb:(a::acc).length≤10) (ok:g.ok) (H:Ok T (g.tk L)) (hs:Cz L=false) (r:WS (rF T) 36 jS jR m [.b,.l 0,.l 2,.v (RH g.d)] L ([.list (a::acc++g.rows),.list J,.list g.lst]) ρ' L' ls'):
  WS (rF T) 36 jS jR (m+1) [.b,.l 0,v2,v3] (g.tk L) [.list (a::acc),.list J] ρ' L' ls':=by
 obtain⟨t,t2,by_,d⟩:=g
 have H1:Ok T (WE t2 (tW "DELIMITED"::ini by_ "BY" (aF d L))):=H.to t.suf
 have H2:=H1.to Jr
 have B:=WV (g:=⟨t,t2,by_,d⟩) ok H2
 have H3:=H2.tl.to Cp
 have N:=Cd H2
 have n:=Ke (b:=false) H2 rfl (by kernel_rfl)
 have c:=Ke H Cq.hP (Cq.bt ok.t)
 cases t2 with
 | none=>
  have x:=Da ok.t H rfl
  cases d with
  | none=>exact Q4 (u:=true) (cR c<|cR x<|cM ([.list (a::acc),.list J]++[.list [t.tree]])<|cR n<|cR N<|cR B<|cR (Bw H3)<|cQ 2 [t.tree] [.tup [t.tree,.none]]<|cC (Co (A:=a::acc) (X:=[.tup [t.tree,.none]]) 10 hb) R0) r
  | some e=>exact Q4 (u:=true) (cR c<|cR x<|cM ([.list (a::acc),.list J]++[.list [t.tree]])<|cR n<|cR N<|cR B<|cR (Bt "SIZE" H3 (Cq.hW (ok.d e rfl) "SIZE"))<|cR (Da (ok.d e rfl) H3 hs)<|cQ 2 [t.tree] [.tup [t.tree,e.tree]]<|cC (Co (A:=a::acc) (X:=[.tup [t.tree,e.tree]]) 10 hb) R0) r
 | some t2=>
  have o2:=ok.t2 t2 rfl
  have x:=Da ok.t H (Cq.stop o2)
  have b:=Ke H1 Cq.hP (Cq.bt o2)
  have y:=Da o2 H1 rfl
  cases d with
  | none=>exact Q4 (u:=true) (cR c<|cR x<|cM ([.list (a::acc),.list J]++[.list [t.tree]])<|cR b<|cR y<|cC rfl<|cM ([.list (a::acc),.list J]++[.list [t.tree,t2.tree]])<|cR n<|cR N<|cR B<|cR (Bw H3)<|cQ 2 [t.tree,t2.tree] [.tup [t.tree,.none],.tup [t2.tree,.none]]<|cC (Co (A:=a::acc) (X:=[.tup [t.tree,.none],.tup [t2.tree,.none]]) 10 hb) R0) r
  | some e=>exact Q4 (u:=true) (cR c<|cR x<|cM ([.list (a::acc),.list J]++[.list [t.tree]])<|cR b<|cR y<|cC rfl<|cM ([.list (a::acc),.list J]++[.list [t.tree,t2.tree]])<|cR n<|cR N<|cR B<|cR (Bt "SIZE" H3 (Cq.hW (ok.d e rfl) "SIZE"))<|cR (Da (ok.d e rfl) H3 hs)<|cQ 2 [t.tree,t2.tree] [.tup [t.tree,e.tree],.tup [t2.tree,e.tree]]<|cC (Co (A:=a::acc) (X:=[.tup [t.tree,e.tree],.tup [t2.tree,e.tree]]) 10 hb) R0) r
noncomputable def lZ (g:Option Iu) (L:B2):B2:=match g with
 | none=>L
 | some g=>g.tk L
noncomputable def pT (g:Option Iu):List MV:=match g with
 | none=>[]
 | some g=>g.rows
theorem Qo {g:Iu}:g.rows.length≤2:=by
 obtain⟨t,t2,b,d⟩:=g
 cases t2<;>exact Ac rfl
theorem Tb:bt (tW "INTO"::L)=false:=by kernel_rfl
theorem Xv {g:Iu} {g2:Option Iu} (ok:g.ok) (ok2:∀ x,g2=some x→x.ok) (H:Ok T (g.tk (lZ g2 (tW "INTO"::L)))):RS 37 (.val (.ref 326)) [] T (g.tk (lZ g2 (tW "INTO"::L))) (.tup (g.rows++pT g2)) (tW "INTO"::L):=by
 have H1:=H.to g.suf
 cases g2 with
 | none=>
  have w:WS (rF T) 36 jS jR 399 [.b,.l 0,.l 1,.v (RH g.d)] (tW "INTO"::L) [.list g.rows,.list g.lst] [.b,.l 0,.l 1,.v (RH g.d)] (tW "INTO"::L) [.list g.rows,.list g.lst]:=wE (u:=true) (cR (Ke H1 rfl Tb) R0)
  rw[show g.rows++pT none=g.rows from Aj _]
  exact fR (cM [.list []]<|cL (WJ (mA (m:=399) ok H rfl w))<|cC (t:=Ap g.rows.length Cf) (A6.mpr (Ad Qo (by decide))) R0)
 | some h=>
  have H2:Ok T (tW "INTO"::L):=H1.to h.suf
  have ok2:=ok2 h rfl
  obtain⟨a,acc,e⟩:∃ a acc,g.rows=a::acc:=⟨_,_,rfl⟩
  have l1:=Qo (g:=g)
  rw[e] at l1
  have w:WS (rF T) 36 jS jR 398 [.b,.l 0,.l 2,.v (RH h.d)] (tW "INTO"::L) [.list (a::acc++h.rows),.list g.lst,.list h.lst] [.b,.l 0,.l 2,.v (RH h.d)] (tW "INTO"::L) [.list (a::acc++h.rows),.list g.lst,.list h.lst]:=wE (u:=true) (cR (Ke H2 rfl Tb) R0)
  have w2:=mA (m:=399) ok H (Iu.stop ok2) (by rw[e];exact rS (m:=398) (Ad l1 (by decide)) ok2 H1 rfl w)
  rw[e]
  exact fR (cM [.list []]<|cL (WJ w2)<|cC (t:=Ap (a::acc++h.rows).length Cf) (Co 2 l1 (A6.mpr (Ad (A8 Qo 2) (by decide)))) R0)
theorem rX {b:Bool} {w:Str} (P:B2→Prop) (h1:P (tW w::L)) (h:P L):P (ini b w L):=by cases b<;>assumption
theorem Ru.hd {d:Ru} (P:B2→Prop) (h1:∀ X,P (tW "ON"::X)) (h2:∀ X,P (tW "OVERFLOW"::X)) (h3:∀ X,P (tW "NOT"::X)) (h:P L):P (d.tk L):=by
 obtain⟨o,v⟩:=d
 cases o with
 | none=>
  cases v with
  | none=>exact h
  | some x=>exact h3 _
 | some x=>
  obtain⟨on,tw⟩:=x
  cases on with
  | true=>exact h1 _
  | false=>exact h2 _
theorem Hh.hd {d:Hh} (P:B2→Prop) (h1:∀ X,P (tW "WITH"::X)) (h2:∀ X,P (tW "POINTER"::X)) (h:P L):P (d.tk L):=by
 cases d with
 | no=>exact h
 | yes w d=>
  cases w with
  | true=>exact h1 _
  | false=>exact h2 _
theorem Ru.suf {d:Ru}:L <:+d.tk L:=by
 obtain⟨o,v⟩:=d
 have f {x:Bool×Bool} {L:B2}:L <:+sK x L:=(O0.trans (Aw _ _)).trans Cp
 have hv:L <:+v.vTk L:=by
  cases v with
  | none=>exact A0 _
  | some x=>exact f.trans (Aw _ _)
 cases o with
 | none=>exact hv
 | some x=>exact hv.trans f
noncomputable abbrev Dp:B2:=[tS "."]
structure Nl where
 g:Iu
 g2:Option Iu
 goal:Cl
 ptr:Hh
 br:Ru
 fin:Bool
noncomputable def Nl.tk (d:Nl):B2:=tW "STRING"::d.g.tk (lZ d.g2 (tW "INTO"::d.goal.tk (d.ptr.tk (d.br.tk (ini d.fin "END-STRING" Dp)))))
noncomputable def Nl.tree (d:Nl):MV:=.tup [.str "string",.tup (d.g.rows++pT d.g2),d.goal.tree,d.ptr.tree,.tup d.br.tree]
structure Nl.ok (d:Nl):Prop where
 g:d.g.ok
 g2:∀ x,d.g2=some x→x.ok
 goal:d.goal.ok
 ptr:d.ptr.ok
theorem WZ {fin:Bool} {w:Str} (h:w="END-STRING"∨w="END-UNSTRING"):pN (ini fin w Dp)=false∧Cz (ini fin w Dp)=false∧hW (ini fin w Dp) "WITH"=false∧hW (ini fin w Dp) "POINTER"=false:=by
 rcases h with rfl | rfl<;>cases fin<;>decide+kernel
theorem SH {g:Option Iu}:L <:+lZ g L:=by
 cases g with
 | none=>exact A0 _
 | some g=>exact g.suf
theorem UU {d:Nl} (ok:d.ok) (H:Ok T d.tk):RS 40 (.val (.ref 333)) [Eg] T d.tk d.tree Dp:=by
 obtain⟨e1,e2,e3,e4⟩:=WZ (fin:=d.fin) (.inl rfl)
 have H1:=H.tl
 have H2:=(H1.to d.g.suf).to SH
 have H3:=H2.tl.to d.goal.suf
 have H4:=H3.to d.ptr.suf
 have H5:=H4.to d.br.suf
 have b2:=Ru.hd (d:=d.br) (fun L=>Cz L=false) (fun Z=>by kernel_rfl) (fun Z=>by kernel_rfl) (fun Z=>by kernel_rfl) e2
 have b3:=Ru.hd (d:=d.br) (fun L=>hW L "WITH"=false) (fun Z=>by kernel_rfl) (fun Z=>by kernel_rfl) (fun Z=>by kernel_rfl) e3
 have b4:=Ru.hd (d:=d.br) (fun L=>hW L "POINTER"=false) (fun Z=>by kernel_rfl) (fun Z=>by kernel_rfl) (fun Z=>by kernel_rfl) e4
 exact fR (cR (Cd H)<|cR (Xv ok.g ok.g2 H1)<|cR (Cd H2)<|cR (Cy ok.goal H2.tl (Hh.hd (d:=d.ptr) (fun L=>Cz L=false) (fun Z=>by kernel_rfl) (fun Z=>by kernel_rfl) b2))<|cR (MT ok.ptr H3 b2 b3 b4)<|cR (WP H4 e1)<|cR (D0 H5 rfl) R0)
end
structure Q5 where
 all:Bool
 t:Cq
noncomputable def Q5.tk (x:Q5) (L:B2):B2:=ini x.all "ALL" (x.t.tk L)
noncomputable abbrev Q5.v (x:Q5):MV:=.tup [x.t.tree,.bool x.all]
structure Kb where
 by_:Bool
 f:Q5
 l:List Q5
noncomputable def sH:List Q5→B2→B2
 | [],L=>L
 | x::l,L=>tW "OR"::x.tk (sH l L)
noncomputable def Kb.tk (d:Kb) (L:B2):B2:=tW "DELIMITED"::ini d.by_ "BY" (d.f.tk (sH d.l L))
structure Kb.ok (d:Kb):Prop where
 f:d.f.t.ok
 l:∀ x∈d.l,x.t.ok
 len:d.l.length≤2
noncomputable def Vu (d:Option Kb) (L:B2):B2:=match d with
 | none=>L
 | some d=>d.tk L
noncomputable def ES (d:Option Kb):List MV:=match d with
 | none=>[]
 | some d=>d.f.v::d.l.map Q5.v
section
variable {T L:B2}
theorem Cq.al {t:Cq} (ok:t.ok):Mine.Q.hW (t.tk L) "ALL"=false:=by
 cases t with
 | ref d=>exact Ps (Cl.ok.al ok)
 | fig w f=>exact Ps ok.2.1
 | lit s=>rfl
theorem Q5.suf {x:Q5}:L <:+x.tk L:=x.t.suf.trans Cp
theorem CV:∀ {l:List Q5},L <:+sH l L
 | []=>A0 _
 | x::l=>((CV (l:=l)).trans x.suf).trans (Aw _ _)
theorem Kb.suf {d:Kb}:L <:+d.tk L:=((CV.trans d.f.suf).trans Cp).trans (Aw _ _)
theorem IK {d:Option Kb}:L <:+Vu d L:=by
 cases d with
 | none=>exact A0 _
 | some d=>exact d.suf
theorem Q5.hW {x:Q5} (ok:x.t.ok):Mine.Q.hW (x.tk L) "BY"=false:=bN (Cq.hW ok "BY")
theorem BF {d:Option Kb} (ok:∀ x,d=some x→x.ok) (H:Ok T (Vu d (tW "INTO"::L))):RS 36 (.val (.ref 340)) [] T (Vu d (tW "INTO"::L)) (.tup (ES d)) (tW "INTO"::L):=by
 cases d with
 | none=>exact fU (cM [.list []]<|cR (Bt "DELIMITED" H)<|cC rfl R0)
 | some d=>
  obtain⟨by_,f,l⟩:=d
  obtain⟨o1,o2,o3⟩:=ok _ rfl
  have b:=D0 (b:=by_) H.tl (Q5.hW o1)
  have H1:=H.tl.to Cp
  have a:=D0 H1 (Cq.al o1)
  have H2:=H1.to Cp
  have H3:=H2.to f.t.suf
  cases l with
  | nil=>exact fU (cM [.list []]<|cR (Bw H)<|cR b<|cR a<|cR (Da o1 H2 rfl)<|cC rfl<|cM [.list [f.v]]<|cR (Bt "OR" H3)<|cC rfl R0)
  | cons x l=>
  cases l with
  | nil=>
   have ox:=o2 x (.head _)
   have H4:=H3.tl.to Cp
   have H5:=H4.to x.t.suf
   exact fU (cM [.list []]<|cR (Bw H)<|cR b<|cR a<|cR (Da o1 H2 rfl)<|cC rfl<|cM [.list [f.v]]<|cR (Bw H3)<|cR (D0 H3.tl (Cq.al ox))<|cR (Da ox H4 rfl)<|cC rfl<|cM [.list [f.v,x.v]]<|cR (Bt "OR" H5)<|cC rfl R0)
  | cons y l=>
   cases l with
   | cons _ _=>exact nomatch Nat.le_of_succ_le_succ (Nat.le_of_succ_le_succ o3)
   | nil=>
   have ox:=o2 x (.head _)
   have oy:=o2 y (.tail _ (.head _))
   have H4:=H3.tl.to Cp
   have H5:=H4.to x.t.suf
   have H6:=H5.tl.to Cp
   have H7:=H6.to y.t.suf
   exact fU (cM [.list []]<|cR (Bw H)<|cR b<|cR a<|cR (Da o1 H2 rfl)<|cC rfl<|cM [.list [f.v]]<|cR (Bw H3)<|cR (D0 H3.tl (Cq.al ox))<|cR (Da ox H4 rfl)<|cC rfl<|cM [.list [f.v,x.v]]<|cR (Bw H5)<|cR (D0 H5.tl (Cq.al oy))<|cR (Da oy H6 rfl)<|cC rfl<|cM [.list [f.v,x.v,y.v]]<|cR (Bt "OR" H7)<|cC rfl R0)
noncomputable abbrev AR:=Option (Bool×Cl)
noncomputable def GU (w:Str) (o:AR) (L:B2):B2:=match o with
 | none=>L
 | some x=>tW w::ini x.1 "IN" (x.2.tk L)
noncomputable def Zw (o:AR):MV:=match o with
 | none=>.none
 | some x=>x.2.tree
noncomputable def UG (o:AR):Prop:=∀ x,o=some x→x.2.ok
theorem Lj {w:Str} {o:AR}:L <:+GU w o L:=by
 cases o with
 | none=>exact A0 _
 | some x=>exact(x.2.suf.trans Cp).trans (Aw _ _)
structure Fg where
 goal:Cl
 dl:AR
 ct:AR
noncomputable def Fg.tk (d:Fg) (L:B2):B2:=d.goal.tk (GU "DELIMITER" d.dl (GU "COUNT" d.ct L))
noncomputable abbrev Fg.v (d:Fg):MV:=.tup [d.goal.tree,Zw d.dl,Zw d.ct]
structure Fg.ok (d:Fg) (dm:Bool):Prop where
 goal:d.goal.ok
 dl:UG d.dl
 ct:UG d.ct
 dm:dm=false→d.dl=none∧d.ct=none
theorem Fg.suf {d:Fg}:L <:+d.tk L:=(Lj.trans Lj).trans d.goal.suf
theorem DM {d:Fg} {dm:Bool} (ok:d.ok dm) (H:Ok T (d.tk L)) (hs:Cz L=false) (h1:hW L "DELIMITER"=false) (h2:hW L "COUNT"=false):RS 34 (.val (.ref 347)) [.bool dm] T (d.tk L) d.v L:=by
 obtain⟨g,dl,ct⟩:=d
 obtain⟨o1,o2,o3,o4⟩:=ok
 have H1:Ok T (GU "DELIMITER" dl (GU "COUNT" ct L)):=H.to g.suf
 have H2:=H1.to Lj
 have H3:=H2.to Lj
 cases dl with
 | none=>
  cases ct with
  | none=>exact fR (cR (Cy o1 H hs)<|cM [.list []]<|cR (Bt "DELIMITER" H1 h1)<|cC rfl<|cM [.list [.none]]<|cR (Bt "COUNT" H2 h2)<|cC rfl R0)
  | some y=>
   obtain rfl:dm=true:=by cases dm with | true=>rfl | false=>cases(o4 rfl).2
   have oy:=o3 _ rfl
   exact fR (cR (Cy o1 H rfl)<|cM [.list []]<|cR (Bt "DELIMITER" H1)<|cC rfl<|cM [.list [.none]]<|cR (Bw H2)<|cR (D0 H2.tl (Cl.hW oy "IN"))<|cR (Cy oy (H2.tl.to Cp) hs)<|cC rfl R0)
 | some x=>
  obtain rfl:dm=true:=by cases dm with | true=>rfl | false=>cases(o4 rfl).1
  have ox:=o2 _ rfl
  cases ct with
  | none=>exact fR (cR (Cy o1 H rfl)<|cM [.list []]<|cR (Bw H1)<|cR (D0 H1.tl (Cl.hW ox "IN"))<|cR (Cy ox (H1.tl.to Cp) hs)<|cC rfl<|cM [.list [x.2.tree]]<|cR (Bt "COUNT" H2 h2)<|cC rfl R0)
  | some y=>
   have oy:=o3 _ rfl
   exact fR (cR (Cy o1 H rfl)<|cM [.list []]<|cR (Bw H1)<|cR (D0 H1.tl (Cl.hW ox "IN"))<|cR (Cy ox (H1.tl.to Cp) rfl)<|cC rfl<|cM [.list [x.2.tree]]<|cR (Bw H2)<|cR (D0 H2.tl (Cl.hW oy "IN"))<|cR (Cy oy (H2.tl.to Cp) hs)<|cC rfl R0)
noncomputable def Rr (L:B2):Bool:=Cz L||hW L "DELIMITER"||hW L "COUNT"
theorem Qp (h:Rr L=false):Cz L=false∧hW L "DELIMITER"=false∧hW L "COUNT"=false:=by
 unfold Rr at h
 simp only [Bool.or_eq_false_iff] at h
 exact⟨h.1.1,h.1.2,h.2⟩
theorem Cl.rowS {d:Cl} (ok:d.ok):Mine.Q.Rr (d.tk L)=false:=by
 unfold Mine.Q.Rr
 rw[Cl.stop ok,Cl.hW ok "DELIMITER",Cl.hW ok "COUNT"];rfl
noncomputable def GW:List Fg→B2→B2
 | [],L=>L
 | x::l,L=>x.tk (GW l L)
theorem DO:∀ {l:List Fg},L <:+GW l L
 | []=>A0 _
 | x::l=>(DO (l:=l)).trans x.suf
noncomputable def uwS:MS:=Im.body.getD 5 .dead
theorem gD {l:List Fg} {D:List MV} {dm:Bool} {v:MV} {s:MV} (hD:(match D with | []=>false | _::_=>true)=dm) (ok:∀ x∈l,x.ok dm) (hl:l.length≤2) (H:Ok T (GW l L)) (hs:Rr L=false) (hn:hN L=false):
  SS (rF T) 39 uwS [.b,.v Eg,.v s,.v (.tup D),.l 0,.un,.un,.un] (GW l L) [.list [v]] [.b,.v Eg,.v s,.v (.tup D),.l 0,.un,.un,.un] L [.list (v::l.map Fg.v)]:=by
 obtain⟨h0,h1,h2⟩:=Qp hs
 have key:∀ D:List MV,(match D with | []=>false | _::_=>true)=dm→(D=[]∧dm=false)∨∃ a r,D=a::r∧dm=true:=fun D e=>by
  cases D with
  | nil=>exact .inl ⟨rfl,e.symm⟩
  | cons a r=>exact .inr ⟨a,r,rfl,e.symm⟩
 cases l with
 | nil=>exact sR (cR (De H hn) R0)
 | cons x l=>
 cases l with
 | nil=>
  have ox:=ok x (.head _)
  have r:=DM ox H h0 h1 h2
  have n:=De H (Cl.hN ox.goal)
  have e:=De (H.to x.suf) hn
  clear ox
  rcases key D hD with⟨rfl,rfl⟩ | ⟨a,t,rfl,rfl⟩
  · exact sR (cR n<|cR r<|cC rfl<|cM [.list [v,x.v]]<|cR e R0)
  · exact sR (cR n<|cR r<|cC rfl<|cM [.list [v,x.v]]<|cR e R0)
 | cons y l=>
  cases l with
  | cons _ _=>exact nomatch Nat.le_of_succ_le_succ (Nat.le_of_succ_le_succ hl)
  | nil=>
  have ox:=ok x (.head _)
  have oy:=ok y (.tail _ (.head _))
  clear ok
  obtain⟨g0,g1,g2⟩:=Qp (Cl.rowS (L:=GU "DELIMITER" y.dl (GU "COUNT" y.ct L)) oy.goal)
  have r:=DM ox H g0 g1 g2
  have n:=De H (Cl.hN ox.goal)
  have H2:Ok T (y.tk L):=H.to x.suf
  have r2:=DM oy H2 h0 h1 h2
  have n2:=De H2 (Cl.hN oy.goal)
  have e:=De (H2.to y.suf) hn
  rcases key D hD with⟨rfl,rfl⟩ | ⟨a,t,rfl,rfl⟩
  · exact sR (cR n<|cR r<|cC rfl<|cM [.list [v,x.v]]<|cR n2<|cR r2<|cC rfl<|cM [.list [v,x.v,y.v]]<|cR e R0)
  · exact sR (cR n<|cR r<|cC rfl<|cM [.list [v,x.v]]<|cR n2<|cR r2<|cC rfl<|cM [.list [v,x.v,y.v]]<|cR e R0)
structure Nm where
 src:Cl
 del:Option Kb
 row:Fg
 rows:List Fg
 ptr:Hh
 tal:AR
 br:Ru
 fin:Bool
noncomputable def Nm.tk (d:Nm):B2:=tW "UNSTRING"::d.src.tk (Vu d.del (tW "INTO"::d.row.tk (GW d.rows (d.ptr.tk (GU "TALLYING" d.tal (d.br.tk (ini d.fin "END-UNSTRING" Dp)))))))
noncomputable def Nm.tree (d:Nm):MV:=.tup [.str "unstring",d.src.tree,.tup (ES d.del),.tup (d.row.v::d.rows.map Fg.v),d.ptr.tree,Zw d.tal,.tup d.br.tree]
structure Nm.ok (d:Nm):Prop where
 src:d.src.ok
 del:∀ x,d.del=some x→x.ok
 row:d.row.ok d.del.isSome
 rows:∀ x∈d.rows,x.ok d.del.isSome
 len:d.rows.length≤2
 ptr:d.ptr.ok
 tal:UG d.tal
theorem eQ {o:AR} {w:Str} (P:B2→Prop) (h1:∀ X,P (tW w::X)) (h:P L):P (GU w o L):=by
 cases o with
 | none=>exact h
 | some x=>exact h1 _
theorem UW {src:Cl} {del:Option Kb} {row:Fg} {rows:List Fg} {ptr:Hh} {tal:AR} {br:Ru} {fin:Bool} {Xd Xr Xp Xt Xb Xe:B2} (eE:ini fin "END-UNSTRING" Dp=Xe) (eB:br.tk Xe=Xb) (eT:GU "TALLYING" tal Xb=Xt) (eP:ptr.tk Xt=Xp) (eR:row.tk (GW rows Xp)=Xr) (eD:Vu del (tW "INTO"::Xr)=Xd)
  (o1:src.ok) (o2:∀ x,del=some x→x.ok) (o3:row.ok del.isSome) (o4:∀ x∈rows,x.ok del.isSome) (o5:rows.length≤2) (o6:ptr.ok) (o7:UG tal) (H:Ok T (tW "UNSTRING"::src.tk Xd)):
  RS 40 (.val (.ref 354)) [Eg] T (tW "UNSTRING"::src.tk Xd) (.tup [.str "unstring",src.tree,.tup (ES del),.tup (row.v::rows.map Fg.v),ptr.tree,Zw tal,.tup br.tree]) Dp:=by
 obtain⟨e1,e2,e3,e4⟩:=WZ (fin:=fin) (.inr rfl)
 have e5:Rr (ini fin "END-UNSTRING" Dp)=false∧hN (ini fin "END-UNSTRING" Dp)=false∧hW (ini fin "END-UNSTRING" Dp) "TALLYING"=false:=by cases fin<;>exact⟨by kernel_rfl,by kernel_rfl,by kernel_rfl⟩
 have R (P:B2→Prop) (h1:∀ X,P (tW "ON"::X)) (h2:∀ X,P (tW "OVERFLOW"::X)) (h3:∀ X,P (tW "NOT"::X)) (h4:∀ X,P (tW "TALLYING"::X)) (h:P (ini fin "END-UNSTRING" Dp)):P Xt:=by
  subst eT eB eE;exact eQ P h4 (Ru.hd P h1 h2 h3 h)
 have R' (P:B2→Prop) (h1:∀ X,P (tW "ON"::X)) (h2:∀ X,P (tW "OVERFLOW"::X)) (h3:∀ X,P (tW "NOT"::X)) (h:P (ini fin "END-UNSTRING" Dp)):P Xb:=by
  subst eB eE;exact Ru.hd P h1 h2 h3 h
 have b2:=R (fun L=>Cz L=false) (fun Z=>by kernel_rfl) (fun Z=>by kernel_rfl) (fun Z=>by kernel_rfl) (fun Z=>by kernel_rfl) e2
 have b3:=R (fun L=>hW L "WITH"=false) (fun Z=>by kernel_rfl) (fun Z=>by kernel_rfl) (fun Z=>by kernel_rfl) (fun Z=>by kernel_rfl) e3
 have b4:=R (fun L=>hW L "POINTER"=false) (fun Z=>by kernel_rfl) (fun Z=>by kernel_rfl) (fun Z=>by kernel_rfl) (fun Z=>by kernel_rfl) e4
 have r1:=R (fun L=>Rr L=false) (fun Z=>by kernel_rfl) (fun Z=>by kernel_rfl) (fun Z=>by kernel_rfl) (fun Z=>by kernel_rfl) e5.1
 have r2:=R (fun L=>hN L=false) (fun Z=>by kernel_rfl) (fun Z=>by kernel_rfl) (fun Z=>by kernel_rfl) (fun Z=>by kernel_rfl) e5.2.1
 have q1:Rr Xp=false:=by subst eP;exact Hh.hd (d:=ptr) (fun L=>Rr L=false) (fun Z=>by kernel_rfl) (fun Z=>by kernel_rfl) r1
 have q2:hN Xp=false:=by subst eP;exact Hh.hd (d:=ptr) (fun L=>hN L=false) (fun Z=>by kernel_rfl) (fun Z=>by kernel_rfl) r2
 have n:=R' (fun L=>hW L "TALLYING"=false) (fun Z=>by kernel_rfl) (fun Z=>by kernel_rfl) (fun Z=>by kernel_rfl) e5.2.2
 have st:=R' (fun L=>Cz L=false) (fun Z=>by kernel_rfl) (fun Z=>by kernel_rfl) (fun Z=>by kernel_rfl) e2
 have rs:Rr (GW rows Xp)=false:=by
  cases rows with
  | nil=>exact q1
  | cons x l=>exact Cl.rowS (o4 x (.head _)).goal
 have H1:=H.tl
 have H2:=H1.to src.suf
 have H3:Ok T (tW "INTO"::Xr):=by subst eD;exact H2.to IK
 have H4:=H3.tl
 have H5:Ok T (GW rows Xp):=by subst eR;exact H4.to row.suf
 have H6:=H5.to DO
 have H7:Ok T Xt:=by subst eP;exact H6.to ptr.suf
 have H8:Ok T Xb:=by subst eT;exact H7.to Lj
 have H9:Ok T Xe:=by subst eB;exact H8.to br.suf
 obtain⟨g0,g1,g2⟩:=Qp rs
 have RO:RS 34 (.val (.ref 347)) [.bool del.isSome] T Xr row.v (GW rows Xp):=by subst eR;exact DM o3 H4 g0 g1 g2
 have A:=Cy o1 H1 (by subst eD;cases del<;>rfl)
 have D:RS 36 (.val (.ref 340)) [] T Xd (.tup (ES del)) (tW "INTO"::Xr):=by subst eD;exact BF o2 H2
 have P:RS 33 (.val (.ref 321)) [] T Xp ptr.tree Xt:=by subst eP;exact MT o6 H6 b2 b3 b4
 have W:=gD (D:=ES del) (v:=row.v) (s:=src.tree) (by cases del<;>rfl) o4 o5 H5 q1 q2
 have B:RS 7 (.val (.ref 272)) [Eg,CB] T Xb (.tup br.tree) Xe:=by subst eB eE;exact WP H8 e1
 have E:RS 4 (.str "skip") [.str "END-UNSTRING"] T Xe (.bool fin) Dp:=by subst eE;exact D0 H9 rfl
 have len:Ap (row.v::rows.map Fg.v).length Cf=true:=by rw[Bf,Am];exact A6.mpr (Ad (Nat.succ_le_succ o5) (by decide))
 clear R R'
 cases tal with
 | none=>
  have eT:Xb=Xt:=eT
  subst eT
  cases del with
  | none=>exact fR (cR (Cd H)<|cR A<|cR D<|cR (Cd H3)<|cR RO<|cM [.list [row.v]]<|cL W<|cR P<|cR (Bt "TALLYING" H7 n)<|cR B<|cR E<|cC len R0)
  | some y=>exact fR (cR (Cd H)<|cR A<|cR D<|cR (Cd H3)<|cR RO<|cM [.list [row.v]]<|cL W<|cR P<|cR (Bt "TALLYING" H7 n)<|cR B<|cR E<|cC len R0)
 | some x=>
  have eT:tW "TALLYING"::ini x.1 "IN" (x.2.tk Xb)=Xt:=eT
  subst eT
  have ox:=o7 x rfl
  have I:=D0 H7.tl (Cl.hW ox "IN")
  have X:=Cy ox (H7.tl.to Cp) st
  cases del with
  | none=>exact fR (cR (Cd H)<|cR A<|cR D<|cR (Cd H3)<|cR RO<|cM [.list [row.v]]<|cL W<|cR P<|cR (Bw H7)<|cR I<|cR X<|cR B<|cR E<|cC len R0)
  | some y=>exact fR (cR (Cd H)<|cR A<|cR D<|cR (Cd H3)<|cR RO<|cM [.list [row.v]]<|cL W<|cR P<|cR (Bw H7)<|cR I<|cR X<|cR B<|cR E<|cC len R0)
theorem UV {d:Nm} (ok:d.ok) (H:Ok T d.tk):RS 40 (.val (.ref 354)) [Eg] T d.tk d.tree Dp:=
 UW rfl rfl rfl rfl rfl rfl ok.src ok.del ok.row ok.rows ok.len ok.ptr ok.tal H
end
noncomputable def oV (o:Option Cq):MV:=match o with
 | none=>.none
 | some t=>t.tree
noncomputable def sl (s:Str):Nat:=s.cps.toList.length
noncomputable def wm (o:Option Cq) (b:Cq):Bool:=match b with
 | .lit s=>match o with
  | some (.ref _)=>true
  | some (.lit x)=>decide (((sl s:Nat):Int)=(sl x:Nat))
  | _=>decide (((sl s:Nat):Int)=1)
 | _=>true
noncomputable def Fd:Cq→Prop
 | .lit s=>sl s≤1000
 | _=>True
theorem K9 {s:Str} (h:sl s≤1000):Om [] (.builtin "len") [.v (Uc s)]=some (.int (sl s:Nat)):=
 have e:(LP s.cps.toList).length=sl s:=Am ..
 (congrArg (Option.map fun n:Nat=>MV.int n) (if_pos (show(LP s.cps.toList).length≤Cf from e▸Ad h (by decide))):).trans (congrArg (fun n:Nat=>some (MV.int n)) e)
theorem pH {o:Option Cq} {b:Cq} (hb:Fd b) (ho:∀ t,o=some t→Fd t):PS 1 (.val (.ref 389)) [oV o,b.tree] (.bool (wm o b)):=by
 cases b with
 | ref d=>exact fP (cY R0)
 | fig w f=>exact fP (cY R0)
 | lit s=>
  have e:∀ t:Bool,t=t:=fun Z=>rfl
  cases o with
  | none=>exact fP (cN<|cO (K9 hb)<|cD (e (wm none (.lit s))) R0)
  | some t=>
   cases t with
   | ref d=>exact fP (cN<|cY R0)
   | fig w f=>exact fP (cN<|cN<|cO (K9 hb)<|cN<|cD (e (wm none (.lit s))) R0)
   | lit x=>exact fP (cN<|cN<|cO (K9 hb)<|cY<|cO (K9 (ho _ rfl))<|cD (e (wm (some (.lit x)) (.lit s))) R0)
section
variable {T L:B2}
theorem Jd {L0:B2} {i:Int} (w:Str) (e:ps T L0=i) (H:Ok T L0) (h:L0≠[]):RX 1 (.val (.ref 293)) [.int i,.str w] T L (ps T L0+1) L0:=
 fX (cS e<|cF H (hL:=h)<|cF H R0 (hL:=h))
theorem kS {o:Option Cq} {t:Cq} (ok:t.ok) (hm:wm o t=true) (hb:Fd t) (ho:∀ t,o=some t→Fd t) (H:Ok T (t.tk L)) (hs:Cz L=false):RS 35 (.val (.ref 396)) [oV o] T (t.tk L) t.tree L:=by
 have w:=pH hb ho
 rw[hm] at w
 exact fR (cR (Da ok H hs)<|cP w R0)
theorem kT {o:Option Cq} {t:Cq} (ok:t.ok) (hm:wm o t=false) (hb:Fd t) (ho:∀ t,o=some t→Fd t) (H:Ok T (t.tk L)) (hs:Cz L=false) (hL:t.tk L≠[]):RX 35 (.val (.ref 396)) [oV o] T (t.tk L) (ps T (t.tk L)+1) (t.tk L):=by
 have w:=pH hb ho
 rw[hm] at w
 exact fX (cR (Da ok H hs)<|cP w<|cX (Jd "what is put in must be as long as what goes" rfl H hL))
structure M5 where
 o:Option Cq
 b:Cq
 bd:F2
noncomputable def M5.tk (d:M5) (L:B2):B2:=WE d.o (tW "BY"::d.b.tk (d.bd.tk L))
noncomputable abbrev M5.v (kd:Str) (d:M5):MV:=.tup [.str kd,oV d.o,d.b.tree,d.bd.bef,d.bd.aft]
structure M5.ok (d:M5):Prop where
 o:jP d.o
 b:d.b.ok
 bd:d.bd.ok
 wm:wm d.o d.b=true
 sb:Fd d.b
 so:∀ t,d.o=some t→Fd t
theorem F2.hd {d:F2} (P:B2→Prop) (h1:∀ X,P (tW "BEFORE"::X)) (h2:∀ X,P (tW "AFTER"::X)) (h:P L):P (d.tk L):=by
 cases d<;>first | exact h | exact h1 _ | exact h2 _
theorem M5.suf {d:M5}:L <:+d.tk L:=((d.bd.suf.trans d.b.suf).trans (Aw _ _)).trans Jr
theorem IT {d:M5} {kd:Str} (ok:d.ok) (hk:Cb kd "CHARACTERS"=d.o.isNone) (H:Ok T (d.tk L)) (hs:Q7 L=false):RS 36 (.val (.ref 403)) [.str kd] T (d.tk L) (d.v kd) L:=by
 obtain⟨o,b,bd⟩:=d
 obtain⟨o1,o2,o3,o4,o5,o6⟩:=ok
 have H1:Ok T (tW "BY"::b.tk (bd.tk L)):=H.to Jr
 have s:=F2.hd (d:=bd) (fun L=>Cz L=false) (fun Z=>by kernel_rfl) (fun Z=>by kernel_rfl) (Ta hs).1
 have y:=kS o2 o4 o5 o6 H1.tl s
 have z:=Op o3 (H1.tl.to b.suf) hs
 cases o with
 | none=>exact fR (cD hk<|cR (Cd H1)<|cR y<|cR z R0)
 | some t=>exact fR (cD hk<|cR (Da (o1 t rfl) H (by kernel_rfl))<|cR (Cd H1)<|cR y<|cR z R0)
theorem CN (H:Ok T L) (h:hN L=false):RS 35 (.val (.ref 368)) [] T L (.bool false) L:=fR (cR (De H h) R0)
theorem Zk {d:Cl} {b:Bool} (ok:d.ok) (H:Ok T (d.tk L)) (hs:Cz L=false) (h:hW L "FOR"=b):RS 35 (.val (.ref 368)) [] T (d.tk L) (.bool b) (d.tk L):=
 fR (cR (De H (Cl.hN ok))<|cR (Cy ok H hs)<|ah 0 "FOR" (H.to d.suf) h<|cS (L':=d.tk L) rfl R0)
theorem eJ {t:Cq} (ok:t.ok) (H:Ok T (t.tk L)) (hs:Cz L=false) (h:hW L "FOR"=false):RS 35 (.val (.ref 368)) [] T (t.tk L) (.bool false) (t.tk L):=by
 cases t with
 | ref d=>exact Zk ok H hs h
 | fig w f=>exact CN H (by show(Cb "word" "word"&& !Ez w)=false;rw[ok.2.2.2];rfl)
 | lit s=>exact CN H rfl
structure Su where
 t:Cq
 bd:F2
noncomputable def Su.tk (c:Su) (L:B2):B2:=c.t.tk (c.bd.tk L)
noncomputable abbrev Su.row (cnt kd:MV) (c:Su):MV:=.tup [cnt,kd,c.t.tree,c.bd.bef,c.bd.aft]
structure Su.ok (c:Su):Prop where
 t:c.t.ok
 bd:c.bd.ok
theorem Su.suf {c:Su}:L <:+c.tk L:=c.bd.suf.trans c.t.suf
noncomputable def Ce (L:B2):Prop:=bt L=false∨∃ d X,Cl.ok d∧L=d.tk X∧Cz X=false∧hW X "FOR"=true
theorem Ce.ev (E:Ce L) (H:Ok T L) (hp:hP L=false):RS 6 (.val (.ref 314)) [] T L (.bool false) L∨(RS 6 (.val (.ref 314)) [] T L (.bool true) L∧RS 35 (.val (.ref 368)) [] T L (.bool true) L):=by
 rcases E with h | ⟨d,X,ok,rfl,h1,h2⟩
 · exact .inl (Ke H hp h)
 · exact .inr ⟨Ke H hp (Cq.bt (t:=.ref d) ok),Zk ok H h1 h2⟩
noncomputable def pO (c:Option Su) (L:B2):B2:=match c with
 | none=>L
 | some c=>c.tk L
noncomputable def pP (cnt kd:MV) (c:Option Su):List MV:=match c with
 | none=>[]
 | some c=>[c.row cnt kd]
theorem Cq.bndS {t:Cq} (ok:t.ok):Mine.Q.Q7 (t.tk L)=false:=by
 unfold Mine.Q.Q7
 rw[Cq.stop ok,Cq.hW ok "BEFORE",Cq.hW ok "AFTER",Cq.hW ok "INITIAL"];rfl
theorem R2 {c:Su} {c2:Option Su} {cnt kd:MV} (ok:c.ok) (ok2:∀ x,c2=some x→x.ok) (H:Ok T (c.tk (pO c2 L))) (hs:Q7 L=false) (hp:hP L=false) (hf:hW L "FOR"=false) (E:Ce L):
  RS 36 (.val (.ref 375)) [cnt,kd] T (c.tk (pO c2 L)) (.lis (c.row cnt kd::pP cnt kd c2)) L:=by
 have st {d:F2} {L:B2} (h:Q7 L=false):Cz (d.tk L)=false:=F2.hd (fun L=>Cz L=false) (fun Z=>by kernel_rfl) (fun Z=>by kernel_rfl) (Ta h).1
 have H1:=H.to c.t.suf
 have H2:=H1.to c.bd.suf
 cases c2 with
 | none=>
  have t:=Da ok.t H (st hs)
  have b:=Op ok.bd H1 hs
  rcases E.ev H2 hp with e | ⟨e,f⟩
  · exact fU (cM [.list []]<|cR t<|cR b<|cC rfl<|cM [.list [c.row cnt kd]]<|cR e R0)
  · exact fU (cM [.list []]<|cR t<|cR b<|cC rfl<|cM [.list [c.row cnt kd]]<|cR e<|cR f R0)
 | some d=>
  have od:=ok2 d rfl
  have t:=Da ok.t H (st (Cq.bndS od.t))
  have b:=Op ok.bd H1 (Cq.bndS od.t)
  have g:=Ke H2 Cq.hP (Cq.bt od.t)
  have o:=eJ od.t H2 (st hs) (F2.hd (d:=d.bd) (fun L=>hW L "FOR"=false) (fun Z=>by kernel_rfl) (fun Z=>by kernel_rfl) hf)
  have t2:=Da od.t H2 (st hs)
  have H3:=H2.to d.t.suf
  have b2:=Op od.bd H3 hs
  rcases E.ev (H3.to d.bd.suf) hp with e | ⟨e,f⟩
  · exact fU (cM [.list []]<|cR t<|cR b<|cC rfl<|cM [.list [c.row cnt kd]]<|cR g<|cR o<|cR t2<|cR b2<|cC rfl<|cM [.list [c.row cnt kd,d.row cnt kd]]<|cR e R0)
  · exact fU (cM [.list []]<|cR t<|cR b<|cC rfl<|cM [.list [c.row cnt kd]]<|cR g<|cR o<|cR t2<|cR b2<|cC rfl<|cM [.list [c.row cnt kd,d.row cnt kd]]<|cR e<|cR f R0)
end
inductive J1 where
 | chars (bd:F2)
 | cnt (lead:Bool) (c:Su) (c2:Option Su)
noncomputable def Nw (b:Bool):Str:=match b with
 | true=>"LEADING"
 | false=>"ALL"
noncomputable def J1.tk:J1→B2→B2
 | .chars bd,L=>tW "CHARACTERS"::bd.tk L
 | .cnt b c c2,L=>tW (Nw b)::c.tk (pO c2 L)
noncomputable def J1.rows (n:MV):J1→List MV
 | .chars bd=>[.tup [n,.str "CHARACTERS",.none,bd.bef,bd.aft]]
 | .cnt b c c2=>c.row n (.str (Nw b))::pP n (.str (Nw b)) c2
noncomputable def J1.ok:J1→Prop
 | .chars bd=>bd.ok
 | .cnt _ c c2=>c.ok∧∀ x,c2=some x→x.ok
noncomputable def J1.wb (k:J1) (v:LV):LV:=match k with
 | .chars bd=>.v bd.bef
 | _=>v
noncomputable def J1.wa (k:J1) (v:LV):LV:=match k with
 | .chars bd=>.v bd.aft
 | _=>v
structure Ck (L:B2):Prop where
 s:Q7 L=false
 p:hP L=false
 f:hW L "FOR"=false
 e:Ce L
section
variable {T L:B2}
theorem QZ {c:Option Su}:L <:+pO c L:=by
 cases c with
 | none=>exact A0 _
 | some c=>exact c.suf
theorem J1.suf {k:J1}:L <:+k.tk L:=by
 cases k with
 | chars bd=>exact bd.suf.trans (Aw _ _)
 | cnt b c c2=>exact(QZ.trans c.suf).trans (Aw _ _)
theorem J1.ck {k:J1}:Ck (k.tk L):=by
 cases k with
 | chars bd=>exact⟨by kernel_rfl,by kernel_rfl,by kernel_rfl,.inl (by kernel_rfl)⟩
 | cnt b c c2=>cases b<;>exact⟨by kernel_rfl,by kernel_rfl,by kernel_rfl,.inl (by kernel_rfl)⟩
theorem Jo {k:J1} {n:MV}:(k.rows n).length≤2:=by
 cases k with
 | chars bd=>exact Ac rfl
 | cnt b c c2=>cases c2<;>exact Ac rfl
noncomputable def jX:ME:=match Gh.body with
 | [_,.while c _,_]=>c
 | _=>.const .none
noncomputable def YY:List MS:=match Gh.body with
 | [_,.while _ b,_]=>b
 | _=>[]
noncomputable def PU:ME:=match YY with
 | [_,_,.while c _,_,_]=>c
 | _=>.const .none
noncomputable def PT:List MS:=match YY with
 | [_,_,.while _ b,_,_]=>b
 | _=>[]
noncomputable def QT (L:B2):Bool:=hW L "CHARACTERS"||hW L "ALL"||hW L "LEADING"
theorem HV (h:QT L=false):hW L "CHARACTERS"=false∧hW L "ALL"=false∧hW L "LEADING"=false:=by
 unfold QT at h
 simp only [Bool.or_eq_false_iff] at h
 exact⟨h.1.1,h.1.2,h.2⟩
section
variable {k:J1} {n:MV} {f:List MV} {acc J:List MV} {v4 v5:LV} {m:Nat} {ρ':List LV} {L':B2} {ls':Bu}
theorem iR (ok:k.ok) (hf:f.length≤2) (H:Ok T (k.tk L)) (F:Ck L) (r:WS (rF T) 38 PU PT m [.b,.l 0,.v n,.l 1,k.wb v4,k.wa v5] L [.list acc,.list (f++k.rows n)] ρ' L' ls'):
  WS (rF T) 38 PU PT (m+1) [.b,.l 0,.v n,.l 1,v4,v5] (k.tk L) [.list acc,.list f] ρ' L' ls':=by
 cases k with
 | chars bd=>exact Q4 (u:=true) (cR (Bw H)<|cR (Op ok H.tl F.s)<|cC (Co (A:=f) (X:=[.tup [n,.str "CHARACTERS",.none,bd.bef,bd.aft]]) 2 hf) R0) r
 | cnt b c c2=>
  have x:=R2 (cnt:=n) (kd:=.str (Nw b)) ok.1 ok.2 H.tl F.s F.p F.f F.e
  have l:Ap (f++(c.row n (.str (Nw b))::pP n (.str (Nw b)) c2)).length Cf=true:=Co 2 hf (by cases c2<;>rfl)
  cases b with
  | false=>exact Q4 (u:=true) (cR (Bt "CHARACTERS" H)<|cR (Bw H)<|cR x<|cC l R0) r
  | true=>exact Q4 (u:=true) (cR (Bt "CHARACTERS" H)<|cR (Bt "ALL" H)<|cR (Bw H)<|cR x<|cC l R0) r
theorem iS (ok:k.ok) (hf:f.length≤2) (H:Ok T (k.tk L)) (F:Ck L) (r:WS (rF T) 38 PU PT m [.b,.l 0,.v n,.l 2,k.wb v4,k.wa v5] L [.list acc,.list J,.list (f++k.rows n)] ρ' L' ls'):
  WS (rF T) 38 PU PT (m+1) [.b,.l 0,.v n,.l 2,v4,v5] (k.tk L) [.list acc,.list J,.list f] ρ' L' ls':=by
 cases k with
 | chars bd=>exact Q4 (u:=true) (cR (Bw H)<|cR (Op ok H.tl F.s)<|cC (Co (A:=f) (X:=[.tup [n,.str "CHARACTERS",.none,bd.bef,bd.aft]]) 2 hf) R0) r
 | cnt b c c2=>
  have x:=R2 (cnt:=n) (kd:=.str (Nw b)) ok.1 ok.2 H.tl F.s F.p F.f F.e
  have l:Ap (f++(c.row n (.str (Nw b))::pP n (.str (Nw b)) c2)).length Cf=true:=Co 2 hf (by cases c2<;>rfl)
  cases b with
  | false=>exact Q4 (u:=true) (cR (Bt "CHARACTERS" H)<|cR (Bw H)<|cR x<|cC l R0) r
  | true=>exact Q4 (u:=true) (cR (Bt "CHARACTERS" H)<|cR (Bt "ALL" H)<|cR (Bw H)<|cR x<|cC l R0) r
end
structure Fh where
 goal:Cl
 k:J1
 k2:Option J1
noncomputable def jT (k:Option J1) (L:B2):B2:=match k with
 | none=>L
 | some k=>k.tk L
noncomputable def tkV (n:MV) (k:Option J1):List MV:=match k with
 | none=>[]
 | some k=>k.rows n
noncomputable def Fh.tk (d:Fh) (L:B2):B2:=d.goal.tk (tW "FOR"::d.k.tk (jT d.k2 L))
noncomputable def Fh.rows (d:Fh):List MV:=d.k.rows d.goal.tree++tkV d.goal.tree d.k2
structure Fh.ok (d:Fh):Prop where
 goal:d.goal.ok
 k:d.k.ok
 k2:∀ x,d.k2=some x→x.ok
theorem Vd {k:Option J1}:L <:+jT k L:=by
 cases k with
 | none=>exact A0 _
 | some c=>exact c.suf
theorem Fh.suf {d:Fh}:L <:+d.tk L:=((Vd.trans d.k.suf).trans (Aw _ _)).trans d.goal.suf
theorem Fh.ck {d:Fh} (ok:d.ok):Ck (d.tk L):=⟨Cq.bndS (t:=.ref d.goal) ok.goal,rfl,Cq.hW (t:=.ref d.goal) ok.goal "FOR",.inr ⟨d.goal,_,ok.goal,rfl,by kernel_rfl,by kernel_rfl⟩⟩
theorem Fh.ckS {d:Fh} (ok:d.ok):Mine.Q.QT (d.tk L)=false:=by
 unfold Mine.Q.QT
 have h:=ok.goal
 unfold Fh.tk
 rw[Cl.hW h "CHARACTERS",Cl.hW h "ALL",Cl.hW h "LEADING"];rfl
theorem Q0 {d:Fh}:d.rows.length≤4:=by
 unfold Fh.rows
 rw[Ai]
 have h:(tkV d.goal.tree d.k2).length≤2:=by
  cases d.k2 with
  | none=>exact Nat.zero_le _
  | some k=>exact Jo
 exact Ad (Nat.add_le_add Jo h) (Av 4)
theorem Ob {d:Fh}:∃ a r,d.rows=a::r:=by
 obtain⟨g,k,k2⟩:=d
 cases k<;>exact⟨_,_,rfl⟩
noncomputable def Fh.wb (d:Fh) (v:LV):LV:=match d.k2 with
 | none=>d.k.wb v
 | some k=>k.wb (d.k.wb v)
noncomputable def Fh.wa (d:Fh) (v:LV):LV:=match d.k2 with
 | none=>d.k.wa v
 | some k=>k.wa (d.k.wa v)
section
variable {d:Fh} {v2 v3 v4 v5:LV} {m:Nat} {ρ':List LV} {L':B2} {ls':Bu} {acc J:List MV}
theorem VZ {v4 v5:LV} (ok:d.ok) (H:Ok T (d.k.tk (jT d.k2 L))) (F:Ck L) (hs:QT L=false):SS (rF T) 38 (.while PU PT) [.b,.l 0,.v d.goal.tree,.l 1,v4,v5] (d.k.tk (jT d.k2 L)) [.list acc,.list []] [.b,.l 0,.v d.goal.tree,.l 1,d.wb v4,d.wa v5] L [.list acc,.list d.rows]:=by
 obtain⟨g,k,k2⟩:=d
 obtain⟨o1,o2,o3⟩:=ok
 clear o1
 obtain⟨h1,h2,h3⟩:=HV hs
 have H1:=(H.to k.suf).to Vd
 have e {m f v4 v5}:WS (rF T) 38 PU PT (m+1) [.b,.l 0,.v g.tree,.l 1,v4,v5] L [.list acc,.list f] [.b,.l 0,.v g.tree,.l 1,v4,v5] L [.list acc,.list f]:=wE (u:=true) (cR (Bt "CHARACTERS" H1 h1)<|cR (Bt "ALL" H1 h2)<|cR (Bt "LEADING" H1 h3) R0)
 cases k2 with
 | none=>
  have w:WS (rF T) 38 PU PT (399+1) [.b,.l 0,.v g.tree,.l 1,v4,v5] (k.tk L) [.list acc,.list []] [.b,.l 0,.v g.tree,.l 1,k.wb v4,k.wa v5] L [.list acc,.list (k.rows g.tree)]:=iR o2 (Nat.zero_le _) H F e
  rw[show Fh.rows ⟨g,k,none⟩=k.rows g.tree from Aj _]
  exact WJ w
 | some k2=>
  have w:=iR (m:=399) (f:=[]) (acc:=acc) (v4:=v4) (v5:=v5) (n:=g.tree) o2 (Nat.zero_le _) H (J1.ck (k:=k2)) (iR (m:=398) (o3 k2 rfl) Jo (H.to k.suf) F e)
  exact WJ w
theorem WA {v4 v5:LV} (ok:d.ok) (H:Ok T (d.k.tk (jT d.k2 L))) (F:Ck L) (hs:QT L=false):SS (rF T) 38 (.while PU PT) [.b,.l 0,.v d.goal.tree,.l 2,v4,v5] (d.k.tk (jT d.k2 L)) [.list acc,.list J,.list []] [.b,.l 0,.v d.goal.tree,.l 2,d.wb v4,d.wa v5] L [.list acc,.list J,.list d.rows]:=by
 obtain⟨g,k,k2⟩:=d
 obtain⟨o1,o2,o3⟩:=ok
 clear o1
 obtain⟨h1,h2,h3⟩:=HV hs
 have H1:=(H.to k.suf).to Vd
 have e {m f v4 v5}:WS (rF T) 38 PU PT (m+1) [.b,.l 0,.v g.tree,.l 2,v4,v5] L [.list acc,.list J,.list f] [.b,.l 0,.v g.tree,.l 2,v4,v5] L [.list acc,.list J,.list f]:=wE (u:=true) (cR (Bt "CHARACTERS" H1 h1)<|cR (Bt "ALL" H1 h2)<|cR (Bt "LEADING" H1 h3) R0)
 cases k2 with
 | none=>
  have w:WS (rF T) 38 PU PT (399+1) [.b,.l 0,.v g.tree,.l 2,v4,v5] (k.tk L) [.list acc,.list J,.list []] [.b,.l 0,.v g.tree,.l 2,k.wb v4,k.wa v5] L [.list acc,.list J,.list (k.rows g.tree)]:=iS o2 (Nat.zero_le _) H F e
  rw[show Fh.rows ⟨g,k,none⟩=k.rows g.tree from Aj _]
  exact WJ w
 | some k2=>
  have w:=iS (m:=399) (f:=[]) (acc:=acc) (J:=J) (v4:=v4) (v5:=v5) (n:=g.tree) o2 (Nat.zero_le _) H (J1.ck (k:=k2)) (iS (m:=398) (o3 k2 rfl) Jo (H.to k.suf) F e)
  exact WJ w
theorem oU (ok:d.ok) (H:Ok T (d.tk L)) (F:Ck L) (hs:QT L=false) (r:WS (rF T) 38 jX YY m [.b,.l 0,.v d.goal.tree,.l 1,d.wb .un,d.wa .un] L [.list d.rows,.list d.rows] ρ' L' ls'):
  WS (rF T) 38 jX YY (m+1) [.b,.l 0,.un,.un,.un,.un] (d.tk L) [.list []] ρ' L' ls':=by
 have H1:=H.to d.goal.suf
 have w:=VZ (v4:=.un) (v5:=.un) (acc:=[]) ok H1.tl F hs
 obtain⟨a,q,e⟩:=Ob (d:=d)
 have l:=Q0 (d:=d)
 rw[e] at w r l
 exact Q4 (u:=false) (cR (Cy ok.goal H (by kernel_rfl))<|cM [.list [],.list []]<|cR (Cd H1)<|cL w<|cC (t:=Ap ([]++(a::q)).length Cf) (Co 0 (Av _) (A6.mpr (Ad (A8 l 0) (by decide)))) R0) r
theorem tD {b:MV} {acc:List MV} (hb:(b::acc).length≤10) (ok:d.ok) (H:Ok T (d.tk L)) (F:Ck L) (hs:QT L=false) (r:WS (rF T) 38 jX YY m [.b,.l 0,.v d.goal.tree,.l 2,d.wb v4,d.wa v5] L [.list (b::acc++d.rows),.list J,.list d.rows] ρ' L' ls'):
  WS (rF T) 38 jX YY (m+1) [.b,.l 0,v2,v3,v4,v5] (d.tk L) [.list (b::acc),.list J] ρ' L' ls':=by
 have H1:=H.to d.goal.suf
 have w:=WA (v4:=v4) (v5:=v5) (acc:=b::acc) (J:=J) ok H1.tl F hs
 obtain⟨a,q,e⟩:=Ob (d:=d)
 have l:=Q0 (d:=d)
 rw[e] at w r l
 exact Q4 (u:=false) (cR (Zk ok.goal H (by kernel_rfl) (b:=true) (by kernel_rfl))<|cR (Cy ok.goal H (by kernel_rfl))<|cM [.list (b::acc),.list J,.list []]<|cR (Cd H1)<|cL w<|cC (t:=Ap ((b::acc)++(a::q)).length Cf) (Co 10 hb (A6.mpr (Ad (A8 l 10) (by decide)))) R0) r
end
noncomputable def iM (d:Option Fh) (L:B2):B2:=match d with
 | none=>L
 | some d=>d.tk L
noncomputable def oS (d:Option Fh):List MV:=match d with
 | none=>[]
 | some d=>d.rows
theorem Sq {d:Fh} {d2:Option Fh} (ok:d.ok) (ok2:∀ x,d2=some x→x.ok) (H:Ok T (d.tk (iM d2 L))) (F:Ck L) (hs:QT L=false) (hn:hN L=false):RS 39 (.val (.ref 382)) [] T (d.tk (iM d2 L)) (.tup (d.rows++oS d2)) L:=by
 have H1:=H.to d.suf
 cases d2 with
 | none=>
  have w:WS (rF T) 38 jX YY (398+1) [.b,.l 0,.v d.goal.tree,.l 1,d.wb .un,d.wa .un] L [.list d.rows,.list d.rows] [.b,.l 0,.v d.goal.tree,.l 1,d.wb .un,d.wa .un] L [.list d.rows,.list d.rows]:=by
   obtain⟨a,q,e⟩:=Ob (d:=d)
   rw[e]
   exact wE (u:=true) (cR (CN H1 hn) R0)
  rw[show d.rows++oS none=d.rows from Aj _]
  exact fR (cM [.list []]<|cL (WJ (oU (m:=399) ok H F hs w))<|cC (t:=Ap d.rows.length Cf) (A6.mpr (Ad Q0 (by decide))) R0)
 | some h=>
  have ok2:=ok2 h rfl
  have H2:=H1.to h.suf
  have l:=Q0 (d:=d)
  have lh:=Q0 (d:=h)
  obtain⟨b,acc,e⟩:=Ob (d:=d)
  have w:WS (rF T) 38 jX YY (397+1) [.b,.l 0,.v h.goal.tree,.l 2,h.wb (d.wb .un),h.wa (d.wa .un)] L [.list (b::acc++h.rows),.list d.rows,.list h.rows] [.b,.l 0,.v h.goal.tree,.l 2,h.wb (d.wb .un),h.wa (d.wa .un)] L [.list (b::acc++h.rows),.list d.rows,.list h.rows]:=wE (u:=true) (cR (CN H2 hn) R0)
  have w2:=oU (m:=399) ok H (Fh.ck ok2) (Fh.ckS ok2) (by rw[e] at w l⊢;exact tD (m:=398) (Ad l (by decide)) ok2 H1 F hs w)
  show RS _ _ _ _ _ (.tup (d.rows++h.rows)) _
  rw[e] at l⊢
  exact fR (cM [.list []]<|cL (WJ w2)<|cC (t:=Ap (b::acc++h.rows).length Cf) (Co 4 l (A6.mpr (Ad (A8 lh 4) (by decide)))) R0)
end
set_option genCtorIdx true in
inductive RK where
 | c | a | l | f
noncomputable def RK.w:RK→Str
 | .c=>"CHARACTERS"
 | .a=>"ALL"
 | .l=>"LEADING"
 | .f=>"FIRST"
structure F0 where
 kd:RK
 e:M5
 e2:Option M5
noncomputable def rJ (e:Option M5) (L:B2):B2:=match e with
 | none=>L
 | some e=>e.tk L
noncomputable def exV (kd:Str) (e:Option M5):List MV:=match e with
 | none=>[]
 | some e=>[e.v kd]
noncomputable def F0.tk (d:F0) (L:B2):B2:=tW d.kd.w::d.e.tk (rJ d.e2 L)
noncomputable def F0.rows (d:F0):List MV:=d.e.v d.kd.w::exV d.kd.w d.e2
structure F0.ok (d:F0):Prop where
 e:d.e.ok
 e2:∀ x,d.e2=some x→x.ok∧x.o.isSome=true
 k:Cb d.kd.w "CHARACTERS"=d.e.o.isNone
 c:d.kd= .c→d.e2=none
noncomputable def kinds:List Str:=["CHARACTERS","ALL","LEADING","FIRST"]
section
variable {T L:B2}
theorem RI {e:Option M5}:L <:+rJ e L:=by
 cases e with
 | none=>exact A0 _
 | some e=>exact e.suf
theorem F0.suf {d:F0}:L <:+d.tk L:=(RI.trans d.e.suf).trans (Aw _ _)
theorem Qk {d:F0}:d.rows.length≤2:=by
 obtain⟨k,e,e2⟩:=d
 cases e2<;>exact Ac rfl
structure Cr (L:B2):Prop where
 s:Q7 L=false
 p:hP L=false
 b:bt L=false
theorem F0.cr {d:F0}:Cr (d.tk L):=by
 obtain⟨k,e,e2⟩:=d
 cases k<;>exact⟨by kernel_rfl,by kernel_rfl,by kernel_rfl⟩
noncomputable def pX:ME:=match F5.body with
 | [_,.while c _,_,_]=>c
 | _=>.const .none
noncomputable def pW:List MS:=match F5.body with
 | [_,.while _ b,_,_]=>b
 | _=>[]
noncomputable def nR (L:B2):Bool:=hW L "CHARACTERS"||hW L "ALL"||hW L "LEADING"||hW L "FIRST"
theorem gG (h:nR L=false):hW L "CHARACTERS"=false∧hW L "ALL"=false∧hW L "LEADING"=false∧hW L "FIRST"=false:=by
 unfold nR at h
 simp only [Bool.or_eq_false_iff] at h
 exact⟨h.1.1.1,h.1.1.2,h.1.2,h.2⟩
section
variable {d:F0} {acc:List MV} {v2 v3:LV} {m:Nat} {ρ':List LV} {L':B2} {ls':Bu}
theorem sO (hb:acc.length≤10) (ok:d.ok) (H:Ok T (d.tk L)) (F:Cr L) (r:WS (rF T) 37 pX pW m [.b,.l 0,.v (.str d.kd.w),.v (.str "FIRST")] L [.list (acc++d.rows)] ρ' L' ls'):
  WS (rF T) 37 pX pW (m+1) [.b,.l 0,v2,v3] (d.tk L) [.list acc] ρ' L' ls':=by
 obtain⟨kd,e,e2⟩:=d
 obtain⟨o1,o2,o3,o4⟩:=ok
 have H1:Ok T (e.tk (rJ e2 L)):=H.tl
 have c1:=Co (A:=acc) (X:=[e.v kd.w]) 10 hb
 cases e2 with
 | none=>
  have x:=IT o1 o3 H1 F.s
  have n:=Ke (H1.to e.suf) F.p F.b
  cases kd with
  | c=>exact Q4 (u:=true) (cY<|cR (Bw H)<|cN<|cN<|cN<|cN<|cR x<|cC c1<|cN R0) r
  | a=>exact Q4 (u:=true) (cY<|cR (Bt "CHARACTERS" H)<|cY<|cR (Bw H)<|cN<|cN<|cN<|cR x<|cC c1<|cM [.list (acc++[e.v "ALL"])]<|cY<|cR n R0) r
  | l=>exact Q4 (u:=true) (cY<|cR (Bt "CHARACTERS" H)<|cY<|cR (Bt "ALL" H)<|cY<|cR (Bw H)<|cN<|cN<|cR x<|cC c1<|cM [.list (acc++[e.v "LEADING"])]<|cY<|cR n R0) r
  | f=>exact Q4 (u:=true) (cY<|cR (Bt "CHARACTERS" H)<|cY<|cR (Bt "ALL" H)<|cY<|cR (Bt "LEADING" H)<|cY<|cR (Bw H)<|cN<|cR x<|cC c1<|cM [.list (acc++[e.v "FIRST"])]<|cY<|cR n R0) r
 | some g=>
  obtain⟨g1,g2⟩:=o2 g rfl
  obtain⟨t,gb,gd⟩:=g
  cases t with
  | none=>cases g2
  | some t=>
  have ot:=g1.o t rfl
  have H2:Ok T (M5.tk ⟨some t,gb,gd⟩ L):=H1.to e.suf
  have x:=IT o1 o3 H1 (Cq.bndS ot)
  have b:=Ke H2 Cq.hP (Cq.bt ot)
  have n:=Ke (H2.to M5.suf) F.p F.b
  have c2:=Co (A:=acc++[e.v kd.w]) (X:=[M5.v kd.w ⟨some t,gb,gd⟩]) 11 (by rw[Ai];exact A7 hb 1)
  rw[show acc++F0.rows ⟨kd,e,some ⟨some t,gb,gd⟩⟩=acc++[e.v kd.w]++[M5.v kd.w ⟨some t,gb,gd⟩] by rw[Ak];rfl] at r
  cases kd with
  | c=>cases o4 rfl
  | a=>exact Q4 (u:=true) (cY<|cR (Bt "CHARACTERS" H)<|cY<|cR (Bw H)<|cN<|cN<|cN<|cR x<|cC c1<|cM [.list (acc++[e.v "ALL"])]<|cY<|cR b<|cR (IT (kd:="ALL") g1 (by kernel_rfl) H2 F.s)<|cC c2<|cM [.list (acc++[e.v "ALL"]++[M5.v "ALL" ⟨some t,gb,gd⟩])]<|cY<|cR n R0) r
  | l=>exact Q4 (u:=true) (cY<|cR (Bt "CHARACTERS" H)<|cY<|cR (Bt "ALL" H)<|cY<|cR (Bw H)<|cN<|cN<|cR x<|cC c1<|cM [.list (acc++[e.v "LEADING"])]<|cY<|cR b<|cR (IT (kd:="LEADING") g1 (by kernel_rfl) H2 F.s)<|cC c2<|cM [.list (acc++[e.v "LEADING"]++[M5.v "LEADING" ⟨some t,gb,gd⟩])]<|cY<|cR n R0) r
  | f=>exact Q4 (u:=true) (cY<|cR (Bt "CHARACTERS" H)<|cY<|cR (Bt "ALL" H)<|cY<|cR (Bt "LEADING" H)<|cY<|cR (Bw H)<|cN<|cR x<|cC c1<|cM [.list (acc++[e.v "FIRST"])]<|cY<|cR b<|cR (IT (kd:="FIRST") g1 (by kernel_rfl) H2 F.s)<|cC c2<|cM [.list (acc++[e.v "FIRST"]++[M5.v "FIRST" ⟨some t,gb,gd⟩])]<|cY<|cR n R0) r
end
noncomputable def DG:List F0→B2→B2
 | [],L=>L
 | d::l,L=>d.tk (DG l L)
noncomputable def GV (l:List F0):List MV:=match l with
 | []=>[]
 | d::l=>d.rows++GV l
theorem US:∀ {l:List F0},L <:+DG l L
 | []=>A0 _
 | x::l=>(US (l:=l)).trans x.suf
theorem fY {acc:List MV} {v2 v3:LV} {m:Nat} (H:Ok T L) (h:nR L=false):WS (rF T) 37 pX pW (m+1) [.b,.l 0,v2,v3] L [.list acc] [.b,.l 0,.v (.str ""),.v (.str "FIRST")] L [.list acc]:=by
 obtain⟨h1,h2,h3,h4⟩:=gG h
 exact wE (u:=true) (cY<|cR (Bt "CHARACTERS" H h1)<|cY<|cR (Bt "ALL" H h2)<|cY<|cR (Bt "LEADING" H h3)<|cY<|cR (Bt "FIRST" H h4)<|cY R0)
theorem ND:∀ {l:List F0} {acc:List MV} {v2 v3:LV} {m:Nat},acc.length+2*l.length≤10→(∀ x∈l,x.ok)→Ok T (DG l L)→Cr L→nR L=false→WS (rF T) 37 pX pW (m+1+l.length) [.b,.l 0,v2,v3] (DG l L) [.list acc] [.b,.l 0,.v (.str ""),.v (.str "FIRST")] L [.list (acc++GV l)]
 | [],acc,v2,v3,m,_,_,H,F,h=>by
  rw[show acc++GV []=acc from Aj _]
  exact fY H h
 | d::l,acc,v2,v3,m,hb,ok,H,F,h=>by
  have hb:acc.length+2*(l.length+1)≤10:=hb
  have H1:Ok T (DG l L):=H.to d.suf
  have F1:Cr (DG l L):=by
   cases l with
   | nil=>exact F
   | cons e l=>exact F0.cr
  refine sO (Ad (A4 _ _) hb) (ok d (.head _)) H F1 ?_
  rw[show acc++GV (d::l)=acc++d.rows++GV l from(Ak ..).symm]
  have:=Qk (d:=d)
  exact ND (m:=m) (by rw[Ai];omega) (fun x hx=>ok x (.tail _ hx)) H1 F h
theorem Ql {d:F0} {l:List F0} (ok:∀ x∈d::l,x.ok) (hl:l.length≤2) (H:Ok T (DG (d::l) L)) (F:Cr L) (h:nR L=false):RS 38 (.val (.ref 410)) [] T (DG (d::l) L) (.tup (GV (d::l))) L:=by
 have w:=ND (l:=d::l) (acc:=[]) (v2:=.un) (v3:=.un) (m:=398 - l.length) (show 0+2*(l.length+1)≤10 from Nat.zero_add _▸Ad (Nat.mul_le_mul_left 2 (Nat.succ_le_succ hl)) (by decide)) ok H F h
 rw[show 398 - l.length+1+(d::l).length=400 from(Nat.add_right_comm (398 - l.length) 1 (l.length+1)).trans (congrArg (· +2) (Nat.sub_add_cancel (Ad hl (by decide:2≤398))))] at w
 have len:(GV (d::l)).length≤10:=by
  have r:=Qk (d:=d)
  cases l with
  | nil=>show(d.rows++[]).length≤10;rw[Ai];exact Ad r (by decide)
  | cons a l=>
  cases l with
  | nil=>have:=Qk (d:=a);show(d.rows++(a.rows++[])).length≤10;rw[Ai,Ai];exact Ad (Nat.add_le_add r this) (by decide)
  | cons b l=>
   cases l with
   | cons _ _=>exact nomatch Nat.le_of_succ_le_succ (Nat.le_of_succ_le_succ hl)
   | nil=>have ha:=Qk (d:=a);have hb:=Qk (d:=b);show(d.rows++(a.rows++(b.rows++[]))).length≤10;rw[Ai,Ai,Ai];exact Ad (Nat.add_le_add r (Nat.add_le_add ha hb)) (by decide)
 obtain⟨a,r,e⟩:∃ a r,GV (d::l)=a::r:=⟨_,_,rfl⟩
 rw[List.nil_append,e] at w
 rw[e] at len⊢
 exact fR (cM [.list []]<|cL (WJ w)<|cC (t:=Ap (a::r).length Cf) (A6.mpr (Ad len (by decide))) R0)
inductive IB where
 | conv (s b:Cq) (bd:F2)
 | tal (d:Fh) (d2:Option Fh)
 | rep (e:F0) (es:List F0)
 | both (d:Fh) (d2:Option Fh) (e:F0) (es:List F0)
structure Og where
 g:Cl
 b:IB
noncomputable def IB.tk:IB→B2→B2
 | .conv s b bd,L=>tW "CONVERTING"::s.tk (tW "TO"::b.tk (bd.tk L))
 | .tal d d2,L=>tW "TALLYING"::d.tk (iM d2 L)
 | .rep e es,L=>tW "REPLACING"::DG (e::es) L
 | .both d d2 e es,L=>tW "TALLYING"::d.tk (iM d2 (tW "REPLACING"::DG (e::es) L))
noncomputable def Og.tk (d:Og):B2:=tW "INSPECT"::d.g.tk (d.b.tk Dp)
noncomputable def iO (g:MV) (d:Fh) (d2:Option Fh):MV:=.tup [.str "tally",g,.tup (d.rows++oS d2)]
noncomputable def gA (g:MV) (l:List F0):MV:=.tup [.str "replace",g,.tup (GV l)]
noncomputable def IB.tree (g:MV):IB→MV
 | .conv s b bd=>.tup [.str "convert",g,s.tree,b.tree,bd.bef,bd.aft]
 | .tal d ds=>iO g d ds
 | .rep e es=>gA g (e::es)
 | .both d ds e es=>.tup [.str "perform",.tup [.str "body",.tup [iO g d ds,gA g (e::es)]],.tup [.str "once"]]
noncomputable def Og.tree (d:Og):MV:=d.b.tree d.g.tree
noncomputable def iN (d:Fh) (d2:Option Fh):Prop:=d.ok∧∀ x,d2=some x→x.ok
noncomputable def fW (d:F0) (l:List F0):Prop:=(∀ x∈d::l,x.ok)∧l.length≤2
noncomputable def IB.ok:IB→Prop
 | .conv s b bd=>s.ok∧b.ok∧bd.ok∧wm (some s) b=true∧Fd b∧Fd s
 | .tal d ds=>iN d ds
 | .rep e es=>fW e es
 | .both d ds e es=>iN d ds∧fW e es
theorem DY {d:Option Fh}:L <:+iM d L:=by
 cases d with
 | none=>exact A0 _
 | some d=>exact d.suf
theorem rE:Ck Dp:=⟨by kernel_rfl,by kernel_rfl,by kernel_rfl,.inl (by kernel_rfl)⟩
theorem rG:Ck (tW "REPLACING"::L):=⟨by kernel_rfl,by kernel_rfl,by kernel_rfl,.inl (by kernel_rfl)⟩
theorem lG:Cr Dp:=⟨by kernel_rfl,by kernel_rfl,by kernel_rfl⟩
theorem UT {d:Og} (o1:d.g.ok) (o2:d.b.ok) (H:Ok T d.tk):RS 40 (.val (.ref 417)) [Eg] T d.tk d.tree Dp:=by
 obtain⟨g,b⟩:=d
 have H1:Ok T (g.tk (b.tk Dp)):=H.tl
 have H2:=H1.to g.suf
 cases b with
 | conv s b bd=>
  obtain⟨p1,p2,p3,p4,p5,p6⟩:=o2
  have H3:Ok T (tW "TO"::b.tk (bd.tk Dp)):=H2.tl.to s.suf
  have s1:Cz (bd.tk Dp)=false:=F2.hd (fun L=>Cz L=false) (fun Z=>by kernel_rfl) (fun Z=>by kernel_rfl) rfl
  exact fR (cR (Cd H)<|cR (Cy o1 H1 (by kernel_rfl))<|cR (Bw H2)<|cR (Da p1 H2.tl (by kernel_rfl))<|cR (Cd H3)<|cR (kS (o:=some s) p2 p4 p5 (Ek p6) H3.tl s1)<|cR (Op p3 (H3.tl.to b.suf) rfl) R0)
 | tal d ds=>exact fR (cR (Cd H)<|cR (Cy o1 H1 (by kernel_rfl))<|cR (Bt "CONVERTING" H2)<|cR (Bw H2)<|cR (Sq o2.1 o2.2 H2.tl rE rfl rfl)<|cR (Bt "REPLACING" ((H2.tl.to d.suf).to DY)) R0)
 | rep e es=>exact fR (cR (Cd H)<|cR (Cy o1 H1 (by kernel_rfl))<|cR (Bt "CONVERTING" H2)<|cR (Bt "TALLYING" H2)<|cR (Cd H2)<|cR (Ql o2.1 o2.2 H2.tl lG rfl) R0)
 | both d ds e es=>
  have H3:=(H2.tl.to d.suf).to DY
  exact fR (cR (Cd H)<|cR (Cy o1 H1 (by kernel_rfl))<|cR (Bt "CONVERTING" H2)<|cR (Bw H2)<|cR (Sq o2.1.1 o2.1.2 H2.tl rG (by kernel_rfl) (by kernel_rfl))<|cR (Bw H3)<|cR (Ql o2.2.1 o2.2.2 H3.tl lG rfl) R0)
inductive EL where
 | s (d:Nl)
 | u (d:Nm)
 | i (d:Og)
noncomputable def EL.tk:EL→B2
 | .s d=>d.tk
 | .u d=>d.tk
 | .i d=>d.tk
noncomputable def EL.tree:EL→MV
 | .s d=>d.tree
 | .u d=>d.tree
 | .i d=>d.tree
noncomputable def EL.ok:EL→Prop
 | .s d=>d.ok
 | .u d=>d.ok
 | .i d=>d.g.ok∧d.b.ok
theorem SY {d:EL} (ok:d.ok) (H:Ok T d.tk):RS 41 (.val (.ref 797)) [] T d.tk d.tree Dp:=by
 cases d with
 | s d=>exact fR (cR (Ey H)<|cY<|cR (UU ok H) R0)
 | u d=>exact fR (cR (Ey H)<|cN<|cY<|cR (UV ok H) R0)
 | i d=>exact fR (cR (Ey H)<|cN<|cN<|cR (UT ok.1 ok.2 H) R0)
end
noncomputable abbrev En:=Int×Int
noncomputable def pn (σ:Bu) (p:Nat) (x:En):Bu:=σ.set p (.pen x.1 x.2)
theorem MP {σ:Bu} {p:Nat} {x:En} (h:p < σ.length):(pn σ p x)[p]?=some (.pen x.1 x.2):=List.getElem?_set_self h
noncomputable def gF:Vj En where
 I:=Nat×(σ:Bu)×{p:Nat // p < σ.length}
 ct K i:=⟨Cm (i.1+K),i.2.1.length,i.2.2.1,pn i.2.1 i.2.2.1,⟨false,fun Z=>0⟩,fun Z=>List.length_set ..,fun h=>nomatch h⟩
 lv K i:=⟨i.1,rfl⟩
 β:=⟨false,fun Z=>0⟩
 hβ _ _:=rfl
noncomputable def GS (k:Nat) (f:MV) (as:List MV) (x:En) (a:MV) (x':En):Prop:=∀(n:Nat) (σ:Bu) (p:Nat),p < σ.length→Cm (n+k) f (.loc p::vR as) (pn σ p x)= .ok (.v a) (pn σ p x')
structure D1 (c:Nat) (x:En):Prop where
 n0:0≤x.1
 c0:0≤x.2
 le:x.2+c≤100000
noncomputable def Gn {α:Type} (k:Nat) (f:MV) (as:List MV) (u:Nat) (D:α→MV) (P:α→Prop):Prop:=∀ {c:Nat} {x:En} {G:Prop},D1 (c+u) x→(∀ d x',P d→D1 c x'→GS k f as x (D d) x'→G)→G
section
variable {K k:Nat} {x x':En} {f:MV} {as:List MV} {a m:MV} {ls:Bu} {es:List (Ev En)} {u:Bool}
theorem cG (s:GS k f as x a x') (al:Af gF K x' ls es) (hk:Ap k K=true:=by rfl):Af gF K x ls (.call f (.b::vL as) x ls (.v a) x' ls::es):=fun⟨n,σ,p,h⟩=>by
 refine⟨?_,al _⟩
 obtain⟨n',e⟩:=up (n:=n) hk
 show Cm (n+K) f (.loc p::(gF.ct K ⟨n,σ,p,h⟩).rvs (vL as)) (pn σ p x++ls)= .ok (.v a) (pn σ p x'++ls)
 have ap:∀ y,pn σ p y++ls=pn (σ++ls) p y:=fun y=>by unfold pn;rw[List.set_append_left _ _ h]
 rw[e,Ha,ap,ap]
 exact s n' _ p (T6 h)
theorem fG (al:Af gF K x [] es) (hg:Wj false ⟨false,fun Z=>0⟩ f (.b::vL as) x es=J0 (.ret (.v a) x' []) es:=by kernel_rfl):GS (K+1) f as x a x':=fun n σ p h=>Ha (c:=gF.ct K ⟨n,σ,p,h⟩) (as:=as)▸Tt (c:=gF.ct K ⟨n,σ,p,h⟩) rfl hg (al ⟨n,σ,p,h⟩)
theorem cB (i:Nat) {v:Int} (hv:OU (.pen x.1 x.2) (.int i)=some (.int v):=by rfl) (al:Af gF K x ls es):Af gF K x ls (.exp (.sub (.var 0) (.const (.int i))) [.b] x ls (.v (.int v)) x ls::es):=cE (fun⟨n,σ,p,h⟩=>
 (congrArg (fun o:Option MV=>Ep (pn σ p x++ls) (o.map RV.v)) ((Ka (f:=fun o=>OU o (.int i)) ((A5 (Nat.lt_of_lt_of_eq h (List.length_set ..).symm)).trans (MP h))).trans hv):)) al
noncomputable def nB (x:En) (i:Nat) (v:Int):Option En:=match i with
 | 0=>some (v,x.2)
 | 1=>some (x.1,v)
 | _=>none
theorem UN {v:Int}:∀ {i:Nat},nB x i v=some x'→gS (.pen x.1 x.2) (.int i) (.int v)=some (.pen x'.1 x'.2)
 | 0,h=>Ab h▸rfl
 | 1,h=>Ab h▸rfl
theorem cU (i:Nat) {v:Int} (hv:nB x i v=some x') (al:Af gF K x' ls es):Af gF K x ls (.put (.int i) (.int v) x x'::es):=fun⟨n,σ,p,h⟩=>⟨(U1 (MP h)).trans ((congrArg (Option.map fun o=>(pn σ p x).set p o) (UN hv)).trans (congrArg some (List.set_set ..))),al _⟩
theorem WY {m:Nat} (hm:0 < m) (hm2:m≤1000) (h0:0≤x.1):Af gF K x ls [.exp (.sub (.var 0) (.const (.int (0:Nat)))) [.b] x ls (.v (.int x.1)) x ls,.opt (Kd .Mod (.v (.int x.1)) (.v (.int m))) (.int (x.1 % m)),.exp (.sub (.var 0) (.const (.int (0:Nat)))) [.b] x ls (.v (.int x.1)) x ls,.opt (Kd .FloorDiv (.v (.int x.1)) (.v (.int m))) (.int (x.1 / m)),.put (.int (0:Nat)) (.int (x.1 / m)) x (x.1 / m,x.2)]:=
 cB 0 rfl<|cO (show ite _ _ _=_ from if_pos ⟨Int.ofNat_lt.mpr hm,h0⟩)<|cB 0 rfl<|cO (show ite _ _ _=_ from if_pos ⟨Int.ofNat_lt.mpr hm,h0,Int.ofNat_lt.mpr (Ay hm2 (by decide:1000 < 1073741824))⟩)<|cU 0 rfl R0
theorem CM {a b:Int} (h:a.natAbs < 2^6700∧b.natAbs < 2^6700):Kd .Mult (.v (.int a)) (.v (.int b))=some (.int (a*b)):=if_pos h
theorem YE {a b:Int} (h:0≤a∧0≤b∧b≤64∧a.natAbs < 2^64):Kd .Pow (.v (.int a)) (.v (.int b))=some (.int (a^b.toNat)):=if_pos h
theorem ML {a:Int} {c:Nat} (h0:0≤a) (h:a+((c+1:Nat):Int)≤100000):(a+1).natAbs≤100001∧(1997*(a+1)+6011).natAbs < 2^64∧0≤1997*(a+1)+6011∧0≤a+1∧a+1+c≤100000∧a+c≤100000:=by
 obtain⟨k,rfl⟩:=Int.eq_ofNat_of_zero_le h0
 have hn:k+(c+1)≤100000:=Be.mp h
 have hk:k≤100000:=Ad (A4 ..) hn
 exact⟨Nat.succ_le_succ hk,Ay (A7 (Nat.mul_le_mul_left 1997 (Nat.succ_le_succ hk)) 6011) (by decide),Int.natCast_nonneg (1997*(k+1)+6011),Int.natCast_nonneg (k+1),Be.mpr (Nat.add_right_comm k 1 c▸hn),Be.mpr (Nat.le_of_succ_le hn)⟩
theorem I8 {m:Nat} (hm:0 < m) (hm2:m≤1000):Gn 1 (.val (.ref 646)) [.int m] 1 (fun d:Nat=>.int d) (· < m):=fun {c x G} B k=>by
 have main:∀ y:En,0≤y.1→0≤y.2→y.2+c≤100000→GS 1 (.val (.ref 646)) [.int m] x (.int (y.1 % m)) (y.1 / m,y.2)→G:=fun y h0 h1 h2 s=>by
  have hp:0 < (m:Int):=Int.ofNat_lt.mpr hm
  have nn:=Int.emod_nonneg y.1 (Int.ne_of_gt hp)
  have e:=Int.toNat_of_nonneg nn
  rw[←e] at s
  exact k (y.1 % m).toNat (y.1 / m,y.2) ((Int.toNat_lt nn).mpr (Int.emod_lt_of_pos y.1 hp)) ⟨Int.ediv_nonneg h0 (Int.natCast_nonneg m),h1,h2⟩ s
 obtain⟨h6,hp,n0,n1,n2,n3⟩:=ML B.c0 B.le
 have bg:∀ {a n:Nat},a≤n→n < 2^64→a < 2^6700:=fun h hn=>Ay h (Bb hn (Nat.pow_le_pow_right (by decide) (by decide)))
 cases h:decide (x.1=0) with
 | true=>
  refine main ((1997*(x.2+1)+6011)^9,x.2+1) (Int.pow_nonneg n0) n1 n2 ?_
  exact fG (cB 0 rfl<|cD h<|cB 1 rfl<|cU 1 (v:=x.2+1) rfl<|cB 1 rfl<|cO (CM (a:=1997) (b:=x.2+1) ⟨bg (n:=1997) (by decide) (by decide),bg h6 (by decide)⟩)<|cO (YE (a:=1997*(x.2+1)+6011) (b:=9) ⟨n0,by decide,by decide,hp⟩)<|cU 0 (v:=(1997*(x.2+1)+6011)^9) rfl<|WY hm hm2 (Int.pow_nonneg n0))
 | false=>exact main x B.n0 B.c0 n3 (fG (cB 0 rfl<|cD h<|WY hm hm2 B.n0))
end
structure Dl (n:Nat) (A:List MV) (t:B2→B2):Prop where
 app:∀ L,A++L=t L
 len:A.length≤n
 ws:∀ m∈A,∃ k w,m=tk k w∧Ci w≤1000
noncomputable abbrev Hv (n:Nat) (t:B2→B2):Prop:=Dl n (t []) t
section
variable {n m:Nat} {A X:List MV} {t u:B2→B2}
theorem Dl.nil:Dl 0 [] fun L=>L:=⟨fun Z=>rfl,Av _,fun Z h=>nomatch h⟩
theorem Dl.one (k:Str) {w:Str} (hw:Ci w≤1000):Dl 1 [tk k w] fun L=>tk k w::L:=⟨fun Z=>rfl,Av _,fun Z h=>⟨k,w,Ae.mp h,hw⟩⟩
theorem Dl.cons (k:Str) {w:Str} (hw:Ci w≤1000) (h:Dl n A t):Dl (n+1) (tk k w::A) fun L=>tk k w::t L:=⟨fun L=>congrArg _ (h.app L),Nat.succ_le_succ h.len,fun m hm=>by
 rcases Ag.mp hm with rfl | hm
 · exact⟨k,w,rfl,hw⟩
 · exact h.ws m hm⟩
theorem Dl.comp (h:Dl n A t) (g:Dl m X u):Dl (n+m) (A++X) fun L=>t (u L):=⟨fun L=>by rw[Ak,g.app,h.app],by rw[Ai];exact Nat.add_le_add h.len g.len,fun x hx=>(List.mem_append.mp hx).elim (h.ws x) (g.ws x)⟩
theorem Dl.eq (h:Dl n A t):A=t []:=by rw[←h.app,Aj]
theorem Dl.o (h:Dl n A t):Hv n t:=by rw[Hv,←h.eq];exact h
theorem Dl.le (h:Dl n A t) (hn:n≤m):Dl m A t:=⟨h.app,Ad h.len hn,h.ws⟩
theorem Dl.then (h:Hv n t) (g:Hv m u):Hv (n+m) fun L=>t (u L):=(h.comp g).o
noncomputable def iP (m:MV):Bool:=(oX m).any fun p=>Ap (Ci p.2) 1000
theorem EB {m:MV} (h:iP m=true):∃ k w,m=tk k w∧Ci w≤1000:=match e:oX m,(show(oX m).any (fun p=>Ap (Ci p.2) 1000)=true from h) with
 | some p,h=>⟨p.1,p.2,iQ e,Ac h⟩
theorem Dl.of {l:List MV} (a:∀ L,t L=l++L) (hn:(Ap l.length n&&l.all iP)=true):Hv n t:=by
 rw[Bool.and_eq_true,A6,List.all_eq_true] at hn
 have e:t []=l:=(a []).trans (Aj l)
 rw[Hv,e]
 exact⟨fun L=>(a L).symm,hn.1,fun m hm=>EB (hn.2 m hm)⟩
end
noncomputable abbrev pr (t:B2→B2) (v:MV):MV:=.tup [.lis (t []),v]
noncomputable abbrev dF:MV:=.val (.ref 646)
section
variable {c:Nat} {x:En} {G:Prop}
noncomputable abbrev Dk (G:Prop) (c:Nat) (x:En) (m d:Nat):Prop:=∀ x',D1 c x'→GS 1 dF [.int m] x (.int d) x'→G
theorem Yc (B:D1 (c+1) x) (k0:Dk G c x 2 0) (k1:Dk G c x 2 1):G:=I8 (m:=2) (by decide) (by decide) B fun d x' hd B s=>Nh.of (P:=Dk G c x 2) (n:=2) ⟨k1,k0,trivial⟩ hd x' B s
theorem pS (B:D1 (c+1) x) (k0:Dk G c x 3 0) (k1:Dk G c x 3 1) (k2:Dk G c x 3 2):G:=I8 (m:=3) (by decide) (by decide) B fun d x' hd B s=>Nh.of (P:=Dk G c x 3) (n:=3) ⟨k2,k1,k0,trivial⟩ hd x' B s
theorem gD4 (B:D1 (c+1) x) (k0:Dk G c x 4 0) (k1:Dk G c x 4 1) (k2:∀ d:Nat,(d=2∨d=3)→Dk G c x 4 d):G:=I8 (m:=4) (by decide) (by decide) B fun d x' hd B s=>Nh.of (P:=Dk G c x 4) (n:=4) ⟨k2 3 (.inr rfl),k2 2 (.inl rfl),k1,k0,trivial⟩ hd x' B s
theorem gD7 (B:D1 (c+1) x) (k0:Dk G c x 7 0) (k1:Dk G c x 7 1) (k2:Dk G c x 7 2) (k3:Dk G c x 7 3) (k4:Dk G c x 7 4) (k5:Dk G c x 7 5) (k6:Dk G c x 7 6):G:=I8 (m:=7) (by decide) (by decide) B fun d x' hd B s=>Nh.of (P:=Dk G c x 7) (n:=7) ⟨k6,k5,k4,k3,k2,k1,k0,trivial⟩ hd x' B s
theorem aZ (B:D1 (c+1) x) (k:∀(d:Nat) x',1+d < 10→D1 c x'→GS 1 dF [.int (9:Nat)] x (.int d) x'→G):G:=I8 (m:=9) (by decide) (by decide) B fun d x' hd B s=>k d x' (by omega) B s
end
theorem Ja {l:List MV} (hl:0 < l.length) (hl2:l.length≤1000):Gn 2 (.val (.ref 653)) [.lis l] 1 (fun m:MV=>m) (· ∈l):=fun B k=>by
 have hb:l.length≤Cf:=Ad hl2 (by decide)
 refine I8 hl hl2 B fun d x' hd B s=>k l[d] x' (List.getElem_mem hd) B (fG (cC (A6.mpr hb)<|cG s<|cO (x:=Jz [] (.v (.lis l)) (.v (.int d))) (m:=l[d]) (kH hb (Ar hd)) R0))
theorem eR {B:Type} {φ:Vj B} {K:Nat} {e:ME} {ρ:List LV} {b b':B} {ls ls':Bu} {a:LV} {es:List (Ev B)} (al:Af φ K b ls es) (hg:go es (It φ.β e ρ b ls fun a b ls=>.fin (.ret a b ls))=J0 (.ret a b' ls') es:=by kernel_rfl) (i:φ.I):C0 (φ.ct K i).C e ((φ.ct K i).rvs ρ) ((φ.ct K i).st b ls)= .ok ((φ.ct K i).rv a) ((φ.ct K i).st b' ls'):=match C7 e (Pr (o:=.ret a b' ls') (φ.hβ K i▸hg) (al i)) with
 | .ok a b ls h s=>by cases(show Oc.ret a b ls=_ from s);exact h
 | .ex m b σ h t e=>nomatch e
theorem Fe {s:Str} {l:List Str} (hs:Hb s 32=l) (hl:Ci s≤Cf) (hb:l.length≤Cf):PS 1 (.val (.ref 658)) [.str s] (.lis (l.map tW)):=by
 have h:∀ i:pF.I,C0 (pF.ct 0 i).C (.compL (.meth (.var 0) "split" [.const (.str " ")]) none (.tup [.const (.str "word"),.var 0]) []) ((pF.ct 0 i).rvs [.v (.str s)]) ((pF.ct 0 i).st () [])= .ok ((pF.ct 0 i).rv (.v (.lis (l.map tW)))) ((pF.ct 0 i).st () []):=fun i=>?_
 · exact fP (cE h R0)
 have h2:∀ i:pF.I,C0 (pF.ct 0 i).C (.meth (.var 0) "split" [.const (.str " ")]) ((pF.ct 0 i).rvs [.v (.str s)]) ((pF.ct 0 i).st () [])= .ok ((pF.ct 0 i).rv (.v (.lis (l.map .str)))) ((pF.ct 0 i).st () []):=eR (cO (U5 hs hl hb) R0)
 refine Ky (c:=[]) (l:=l.map .str) rfl (h2 i) rfl (by rw[Am];exact hb) ?_
 have:=Lq (σ:=(pF.ct 0 i).st () []) (g:=fun m σ=>PQ (pF.ct 0 i).C none [.v m] σ) (f:=fun m σ=>C0 (pF.ct 0 i).C (.tup [.const (.str "word"),.var 0]) [.v m] σ) (l:=l.map .str) (h:=fun m=>.tup [.str "word",m]) (fun m hm=>⟨rfl,rfl⟩)
 rw[List.map_map] at this
 exact this
theorem PK {s:Str} (hs:Jy s=true:=by kernel_rfl):PS 1 (.val (.ref 658)) [.str s] (.lis [tW s]):=by
 unfold Jy at hs
 rw[Bool.and_eq_true,decide_eq_true_eq,A6] at hs
 exact Fe (l:=[s]) hs.1 (Ad hs.2 (by decide)) (show 1≤Cf by decide)
theorem E7 (w:Str) (hw:Jy w=true:=by kernel_rfl):Gn 2 (.val (.ref 665)) [.str w] 1 (fun b=>.lis (ini b w [])) fun Z=>True:=fun B k=>
 Yc B (fun x' B s=>k false x' trivial B (fG (cG s<|cN R0))) (fun x' B s=>k true x' trivial B (fG (cG s<|cY<|cP (PK hw) R0)))
section
variable {B:Type} {φ:Vj B} {K:Nat} {b:B} {ls:Bu} {es:List (Ev B)}
theorem cA {n:Nat} {A:List MV} {t:B2→B2} (h:Dl n A t) (al:Af φ K b ls es) (hn:Ap n Cf=true:=by rfl):Af φ K b ls (.chk (Ap A.length Cf)::es):=cC (A6.mpr (Ad h.len (Ac hn))) al
end
theorem bl {A:List MV} {n:Nat} (h:A.length≤n) (hn:Ap n Cf=true:=by rfl):Ap A.length Cf=true:=A6.mpr (Ad h (Ac hn))
theorem la {A X:List MV} {n m:Nat} (h:A.length≤n) (hx:X.length≤m):(A++X).length≤n+m:=by rw[Ai];exact Nat.add_le_add h hx
noncomputable abbrev brk (A:List MV):List MV:=tS "("::(A++[tS ")"])
theorem E0 {A:List MV} (h:A.length≤1000):PS 1 (.val (.ref 672)) [.lis A] (.lis (brk A)):=
 fP (cC (bl (la (A:=[tS "("]) (Av 1) h))<|cC (bl (la (X:=[tS ")"]) (la (A:=[tS "("]) (Av 1) h) (Av 1))) R0)
theorem Fv {d:Nat} (hd:d < 10):PS 1 (.val (.ref 679)) [.int d] (.tup [.lis [tN d],Kp d]):=by
 refine fP (cO (x:=Om [] (.type "str") [.v (.int d)]) (m:=.str (jK d)) ?_ R0)
 show F8 [] "str" _=_
 unfold F8 wV wI
 simp only [show("str"="int")=False by decide,if_false,if_true]
 exact if_pos ⟨Int.natCast_nonneg d,Int.ofNat_lt.mpr hd⟩
structure ZG (w:Str):Prop where
 nm:Ez w=false
 fg:E6 w=none
 al:Cb w "ALL"=false
 len:Ci w≤1000
noncomputable def dR (w:Str):Bool:= !Ez w&&(E6 w).isNone&& !Cb w "ALL"&&Ap (Ci w) 1000
theorem mV {w:Str} (h:dR w=true):ZG w:=by
 unfold dR at h
 simp only [Bool.and_eq_true,Bool.not_eq_true',Option.isNone_iff_eq_none,A6] at h
 exact⟨h.1.1.1,h.1.1.2,h.1.2,h.2⟩
noncomputable abbrev nmL:List MV:=[.str "A",.str "TOTAL-1",.str "X9",.str "I"]
theorem rO:Gn 2 (.val (.ref 653)) [.lis nmL] 1 MV.str ZG:=fun {c x G} B k=>by
 refine Ja (l:=nmL) (by decide) (by decide) B fun d x' hd B s=>?_
 have f:∀ w:Str,dR w=true→d= .str w→G:=fun w h e=>k w x' (mV h) B (e▸s)
 rcases Ag.mp hd with e | hd
 · exact f "A" (by unfold dR Ez Sy;kernel_rfl) e
 rcases Ag.mp hd with e | hd
 · exact f "TOTAL-1" (by unfold dR Ez Sy;kernel_rfl) e
 rcases Ag.mp hd with e | hd
 · exact f "X9" (by unfold dR Ez Sy;kernel_rfl) e
 · exact f "I" (by unfold dR Ez Sy;kernel_rfl) (Ae.mp hd)
theorem Kz {d:Nat} (h:d < 10):Ci (jK d)≤1000:=(by decide+kernel:∀ d,d < 10→Ci (jK d)≤1000) d h
theorem Gp {w:Str} (h:Ap (Ci w) 1000=true:=by kernel_rfl):Ci w≤1000:=Ac h
theorem Sb.tkO {s:Sb} (h:s.ok):Hv 6 s.tk:=by
 cases s with
 | no=>exact Dl.nil.le (by decide)
 | num d=>exact Dl.le (n:=3) (.cons "sign" Gp (.cons "number" (Kz h) (.cons "sign" Gp .nil))) (by decide)
 | j d=>exact .cons "sign" Gp (.cons "word" Gp (.cons "sign" Gp (.cons "number" (Kz h) (.cons "word" Gp (.cons "sign" Gp .nil)))))
theorem Pt.tkO {s:Pt} (h:s.ok):Hv 5 s.tk:=by
 cases s with
 | no=>exact Dl.nil.le (by decide)
 | one d=>exact Dl.le (n:=4) (.cons "sign" Gp (.cons "number" (Kz h) (.cons "sign" Gp (.cons "sign" Gp .nil)))) (by decide)
 | two d e=>exact .cons "sign" Gp (.cons "number" (Kz h.1) (.cons "sign" Gp (.cons "number" (Kz h.2) (.cons "sign" Gp .nil))))
theorem Qd.tkO {q:Qd}:Hv 4 q.tk:=by
 cases q with
 | no=>exact Dl.nil.le (by decide)
 | one=>exact Dl.of (l:=[tW "OF",tW "REC"]) (fun Z=>rfl) (by kernel_rfl)
 | two=>exact Dl.of (l:=[tW "IN",tW "REC",tW "OF",tW "TOP"]) (fun Z=>rfl) (by kernel_rfl)
structure Oh (d:Cl):Prop where
 ok:d.ok
 tk:Hv 16 d.tk
theorem Ut {w:Str} {q:Qd} {s:Sb} {p:Pt} (h:ZG w) (hs:s.ok) (hp:p.ok):Oh ⟨w,q,s,p⟩:=
 ⟨⟨h.nm,h.fg,h.al,hs,hp⟩,.cons "word" h.len (Qd.tkO.then ((Sb.tkO hs).then (Pt.tkO hp)))⟩
theorem D1.to {c k:Nat} {x:En} (B:D1 (c+k) x):D1 c x:=⟨B.n0,B.c0,by have:=B.le;omega⟩
theorem Ip:Gn 3 (.val (.ref 686)) [] 6 (fun d:Cl=>pr d.tk d.tree) Oh:=fun {c x G} B k=>by
 have wA:PS 1 (.val (.ref 658)) [.str "OF REC"] (.lis [tW "OF",tW "REC"]):=Fe (l:=["OF","REC"]) (by decide+kernel) (by decide+kernel) (by decide)
 have wB:PS 1 (.val (.ref 658)) [.str "IN REC OF TOP"] (.lis [tW "IN",tW "REC",tW "OF",tW "TOP"]):=Fe (l:=["IN","REC","OF","TOP"]) (by decide+kernel) (by decide+kernel) (by decide)
 refine rO B fun w x1 hw B s1=>?_
 refine gD7 B (fun x2 B s2=>?_) (fun x2 B s2=>?_) (fun x2 B s2=>?_) (fun x2 B s2=>?_) (fun x2 B s2=>?_) (fun x2 B s2=>?_) (fun x2 B s2=>?_)
 · exact k ⟨w,.no,.no,.no⟩ x2 (Ut hw trivial trivial) (B.to (k:=4)) (fG (cG s1<|cG s2<|cN<|cN<|cN<|cN<|cN R0))
 · exact k ⟨w,.one,.no,.no⟩ x2 (Ut hw trivial trivial) (B.to (k:=4)) (fG (cG s1<|cG s2<|cY<|cP wA<|cC rfl<|cN<|cN<|cN<|cN R0))
 · exact k ⟨w,.two,.no,.no⟩ x2 (Ut hw trivial trivial) (B.to (k:=4)) (fG (cG s1<|cG s2<|cN<|cY<|cP wB<|cC rfl<|cN<|cN<|cN R0))
 · exact aZ B fun d x3 hd B s3=>k ⟨w,.no,.num (1+d),.no⟩ x3 (Ut hw hd trivial) (B.to (k:=3)) (fG (cG s1<|cG s2<|cN<|cN<|cY<|cG s3<|cP (Fv hd)<|cP (E0 (A:=[tN (1+d)]) (Ac rfl))<|cC rfl<|cN<|cN R0))
 · exact aZ B fun d x3 hd B s3=>k ⟨w,.one,.j (1+d),.no⟩ x3 (Ut hw hd trivial) (B.to (k:=3)) (fG (cG s1<|cG s2<|cY<|cP wA<|cC rfl<|cN<|cN<|cY<|cG s3<|cP (Fv hd)<|cC rfl<|cC rfl<|cP (E0 (A:=[tW "J",tS "+",tN (1+d),tW "J"]) (Ac rfl))<|cC rfl<|cN R0))
 ·
  refine aZ B fun d x3 hd B s3=>Yc B (fun x4 B s4=>?_) fun x4 B s4=>aZ B fun e x5 he B s5=>?_
  · exact k ⟨w,.no,.no,.one (1+d)⟩ x4 (Ut hw trivial hd) (B.to (k:=2)) (fG (cG s1<|cG s2<|cN<|cN<|cN<|cN<|cY<|cG s3<|cP (Fv hd)<|cG s4<|cN<|cC rfl<|cC rfl<|cP (E0 (A:=[tN (1+d),tS ":"]) (Ac rfl))<|cC rfl R0))
  · exact k ⟨w,.no,.no,.two (1+d) (1+e)⟩ x5 (Ut hw trivial ⟨hd,he⟩) (B.to (k:=1)) (fG (cG s1<|cG s2<|cN<|cN<|cN<|cN<|cY<|cG s3<|cP (Fv hd)<|cG s4<|cY<|cG s5<|cP (Fv he)<|cC rfl<|cC rfl<|cP (E0 (A:=[tN (1+d),tS ":",tN (1+e)]) (Ac rfl))<|cC rfl R0))
 ·
  refine aZ B fun f x6 hf B s6=>aZ B fun d x3 hd B s3=>Yc B (fun x4 B s4=>?_) fun x4 B s4=>aZ B fun e x5 he B s5=>?_
  · exact k ⟨w,.no,.num (1+f),.one (1+d)⟩ x4 (Ut hw hf hd) (B.to (k:=1)) (fG (cG s1<|cG s2<|cN<|cN<|cY<|cG s6<|cP (Fv hf)<|cP (E0 (A:=[tN (1+f)]) (Ac rfl))<|cC rfl<|cN<|cY<|cG s3<|cP (Fv hd)<|cG s4<|cN<|cC rfl<|cC rfl<|cP (E0 (A:=[tN (1+d),tS ":"]) (Ac rfl))<|cC rfl R0))
  · exact k ⟨w,.no,.num (1+f),.two (1+d) (1+e)⟩ x5 (Ut hw hf ⟨hd,he⟩) B (fG (cG s1<|cG s2<|cN<|cN<|cY<|cG s6<|cP (Fv hf)<|cP (E0 (A:=[tN (1+f)]) (Ac rfl))<|cC rfl<|cN<|cY<|cG s3<|cP (Fv hd)<|cG s4<|cY<|cG s5<|cP (Fv he)<|cC rfl<|cC rfl<|cP (E0 (A:=[tN (1+d),tS ":",tN (1+e)]) (Ac rfl))<|cC rfl R0))
section
variable {B:Type} {φ:Vj B} {K:Nat} {x:ME} {c:List LV} {b b1 b':B} {ls:Bu} {l vs:List MV} {m v:MV}
theorem JT {n:Nat} (hn:n≤1000):0≤(n:Int)∧(n:Int)≤Cf:=⟨Int.natCast_nonneg n,Be.mpr (Ad hn (Ac rfl))⟩
noncomputable def QS (φ:Vj B) (K:Nat) (x:ME) (c:List LV) (l:List MV) (b:B) (ls:Bu) (vs:List MV) (b':B):Prop:=
 ∀ i,Hc yes (fun m σ=>C0 (φ.ct K i).C x (.v m::(φ.ct K i).rvs c) σ) l ((φ.ct K i).st b ls)= .ok vs ((φ.ct K i).st b' ls)
theorem qE:QS φ K x c [] b ls [] b:=fun Z=>rfl
theorem qT (h:∀ i,C0 (φ.ct K i).C x ((φ.ct K i).rvs (.v m::c)) ((φ.ct K i).st b ls)= .ok ((φ.ct K i).rv (.v v)) ((φ.ct K i).st b1 ls)) (r:QS φ K x c l b1 ls vs b'):QS φ K x c (m::l) b ls (v::vs) b':=fun i=>(congrArg (fun o=>B1.bind o _) (h i)).trans (congrArg (fun o=>B1.bind o _) (r i))
theorem qO {n:Nat} {y:ME} {ρ:List LV} {cap:List Nat} (hn:n≤1000) (hc:∀ i,Eh ((φ.ct K i).rvs ρ) cap=some ((φ.ct K i).rvs c)) (h:∀ i,C0 (φ.ct K i).C y ((φ.ct K i).rvs ρ) ((φ.ct K i).st b ls)= .ok (.v (.int n)) ((φ.ct K i).st b1 ls)) (r:QS φ K x c (C5 0 n) b1 ls vs b') (i:φ.I):
  C0 (φ.ct K i).C (.compR y x cap) ((φ.ct K i).rvs ρ) ((φ.ct K i).st b ls)= .ok ((φ.ct K i).rv (.v (.lis vs))) ((φ.ct K i).st b' ls):=(Ia (hc i)).trans ((congrArg (fun o=>B1.bind o _) (h i)).trans ((if_pos (JT hn)).trans (congrArg (fun o=>B1.bind (Zf o) _) (r i))))
end
noncomputable abbrev kX:List MV:=[.str "A",.str "z",.str " ",.str ",",.str "7",.str "\""]
theorem rN:Gn 2 (.val (.ref 653)) [.lis kX] 1 (fun c:Nat=>.str ⟨#[c]⟩) (· < 256):=fun {c x G} B k=>by
 refine Ja (l:=kX) (by decide) (by decide) B fun d x' hd B s=>?_
 have f:∀ w:Nat,w < 256→d= .str ⟨#[w]⟩→G:=fun w h e=>k w x' h B (by subst e;exact s)
 have e:kX=[65,122,32,44,55,34].map fun c:Nat=>MV.str ⟨#[c]⟩:=by kernel_rfl
 rw[e,Bc] at hd
 obtain⟨w,h,e⟩:=hd
 exact f w (of_decide_eq_true (List.all_eq_true.mp (show[65,122,32,44,55,34].all (fun c:Nat=>decide (c < 256))=true from rfl) w h)) e.symm
noncomputable abbrev chE:ME:=.call (.glob "_law_pick" (.val (.ref 653))) [.var 1,.lis (kX.map .const)]
theorem WT {ls:Bu}:∀(l:List MV) {c:Nat} {x:En} {G:Prop},D1 (c+l.length) x→(∀(vs:List Nat) x',vs.length=l.length→(∀ c∈vs,c < 256)→D1 c x'→QS gF 2 chE [.b] l x ls (vs.map fun c=>.str ⟨#[c]⟩) x'→G)→G
 | [],_,x,_,B,k=>k [] x rfl (fun Z h=>nomatch h) B qE
 | m::l,c,x,G,B,k=>rN (c:=c+l.length) B fun w x1 hw B s=>WT l B fun vs x2 h1 h2 B r=>k (w::vs) x2 (congrArg _ h1) (fun c hc=>(Ag.mp hc).elim (fun e=>e▸hw) (h2 c)) B (qT (eR (cG (as:=[.lis kX]) s R0)) r)
theorem iH:∀ l:List Nat,Kr (l.map fun c=>MV.str ⟨#[c]⟩)=some (l.map fun c=>(⟨#[c]⟩:Str)):=fun l=>by
 induction l with
 | nil=>rfl
 | cons c l ih=>exact congrArg (fun o:Option (List Str)=>o.map (Str.mk #[c]:: ·)) ih
theorem bT {l:List Nat} (h:l.length≤Cf):Nb (.str "") "join" (.lis (l.map fun c=>MV.str ⟨#[c]⟩))=some (.str ⟨l.toArray⟩):=by
 have e:Je (l.map fun c=>⟨#[c]⟩)=⟨l.toArray⟩:=by
  unfold Je
  rw[List.flatMap_map]
  show(⟨(l.flatMap fun c=>[c]).toArray⟩:Str)=_
  rw[List.flatMap_singleton']
 show BZ (Aa "") _=_
 unfold BZ
 simp only [show Cb (Aa "join") (Aa "join")=true by decide+kernel,if_true,show(Aa "").cps.toList=[] by decide+kernel,iH,Option.bind,e]
 unfold Df
 rw[if_pos (by show l.toArray.toList.length≤Cf;rw[List.toList_toArray];exact h)]
 rfl
theorem QR {l:List Nat} (h:∀ c∈l,c < 256) (hl:l.length≤Cf):Om [] (.type "bytes") [.v (.lis (l.map fun c:Nat=>MV.int c))]=some (.bytes (LP l).toArray):=by
 show F8 [] "bytes" _=_
 unfold F8 wV wL
 simp only [show("bytes"="int")=False by decide,show("bytes"="str")=False by decide,show("bytes"="tuple")=False by decide,if_false,if_true,Am,Ms h]
 rw[if_pos hl]
 rfl
theorem Wn {m:Nat} (hm:m≤3):Gn 3 (.val (.ref 691)) [.int m] m (fun s=>pr (fun L=>tL s::L) (SV s)) fun s=>sl s=m∧∀ c∈s.cps.toList,c < 256:=fun {c x G} B k=>by
 have hl:(C5 0 m).length=m:=by unfold C5;rw[Am,List.length_range]
 refine WT (ls:=[]) (C5 0 m) (c:=c) (by rw[hl];exact B) fun vs x' h1 h2 B q=>?_
 rw[hl] at h1
 have hb:vs.length≤Cf:=Ad (h1▸hm) (by decide)
 have hs:Ci ⟨vs.toArray⟩≤Cf:=by show vs.toArray.toList.length≤Cf;rw[List.toList_toArray];exact hb
 have q1:=qO (ρ:=[.b,.v (.int m),.un]) (y:=.var 1) (cap:=[0]) (Ad hm (by decide)) (fun Z=>rfl) (fun Z=>rfl) q
 have q2:∀ i,C0 (gF.ct 2 i).C (.compL (.var 2) none (.call (.glob "ord" (.val (.builtin "ord"))) [.var 0]) []) ((gF.ct 2 i).rvs [.b,.v (.int m),.v (.str ⟨vs.toArray⟩)]) ((gF.ct 2 i).st x' [])= .ok ((gF.ct 2 i).rv (.v (.lis (vs.map fun c:Nat=>MV.int c)))) ((gF.ct 2 i).st x' []):=fun i=>by
  have:=MI (C:=(gF.ct 2 i).C) (σ:=(gF.ct 2 i).st x' []) (s:=⟨vs.toArray⟩) (i:=2) (ρ:=(gF.ct 2 i).rvs [.b,.v (.int m),.v (.str ⟨vs.toArray⟩)]) rfl hs
  rwa [List.toList_toArray] at this
 refine k ⟨vs.toArray⟩ x' ⟨by show vs.toArray.toList.length=m;rw[List.toList_toArray,h1],fun c hc=>h2 c (by rwa [List.toList_toArray] at hc)⟩ B ?_
 refine fG (cE q1<|cO (bT hb)<|cE q2<|cC (t:=Ap (vs.map fun c:Nat=>MV.int c).length Cf) (by rw[Am];exact A6.mpr hb)<|cO (QR h2 hb) R0)
noncomputable def sh3:Cq→Prop
 | .lit s=>sl s≤3
 | _=>True
structure AU (t:Cq):Prop where
 ok:t.ok
 tk:Hv 16 t.tk
 sh:sh3 t
theorem AU.ref {d:Cl} (h:Oh d):AU (.ref d):=⟨h.ok,h.tk,trivial⟩
theorem AU.lit {s:Str} (h:sl s≤3) (h2:∀ c∈s.cps.toList,c < 256):AU (.lit s):=⟨h2,Dl.le (n:=1) (.one "literal" (Ad h (by decide))) (by decide),h⟩
theorem AU.short {t:Cq} (h:AU t):Fd t:=by
 have:=h.sh
 cases t with
 | lit s=>exact Ad this (by decide)
 | _=>trivial
noncomputable def Wf (w f:Str):Bool:=(match E6 w with
 | some g=>Cb g f
 | none=>false)&& !Cb w "ALL"&&FD w&&Ez w&&Ap (Ci w) 1000
theorem AU.fig {w f:Str} (h:Wf w f=true):AU (.fig w f):=by
 unfold Wf at h
 simp only [Bool.and_eq_true,Bool.not_eq_true'] at h
 obtain⟨⟨⟨⟨a,b⟩,c⟩,d⟩,e⟩:=h
 refine⟨⟨?_,b,c,d⟩,Dl.le (n:=1) (.one "word" (Ac e)) (by decide),trivial⟩
 cases q:E6 w with
 | none=>rw[q] at a;cases a
 | some g=>rw[q] at a;rw[AA a]
noncomputable abbrev fgL:List (Str×Str):=[("SPACE","SPACE"),("SPACES","SPACE"),("ZERO","ZERO"),("HIGH-VALUES","HIGH"),("LOW-VALUE","LOW"),("QUOTE","QUOTE")]
noncomputable abbrev fgV (x:Str×Str):MV:=.tup [.str x.1,.str x.2]
theorem XF:Gn 3 (.val (.ref 698)) [] 1 (fun x:Str×Str=>pr (fun L=>tW x.1::L) (aV x.2)) fun x=>AU (.fig x.1 x.2):=fun {c x G} B k=>by
 refine Ja (l:=fgL.map fgV) (by decide) (by decide) B fun d x' hd B s=>?_
 obtain⟨y,h,e⟩:=Bc.mp hd
 subst e
 have:=List.all_eq_true.mp (show fgL.all (fun y=>Wf y.1 y.2)=true by unfold Wf Ez Sy;kernel_rfl) y h
 exact k y x' (.fig this) B (fG (cG s R0))
theorem D1.dn {a b:Nat} {x:En} (B:D1 a x) (h:b≤a):D1 b x:=⟨B.n0,B.c0,by have:=B.le;omega⟩
theorem D1.lo {a b c:Nat} {x:En} (B:D1 (c+a) x) (h:Ap b a=true:=by rfl):D1 (c+b) x:=B.dn (A8 (Ac h) c)
theorem D1.lo0 {a c:Nat} {x:En} (B:D1 (c+a) x):D1 c x:=B.dn (A4 c a)
theorem J5:Gn 4 (.val (.ref 705)) [] 7 (fun t:Cq=>pr t.tk t.tree) AU:=fun {c x G} B k=>by
 refine gD4 B (fun x1 B s=>?_) (fun x1 B s=>?_) (fun d hd x1 B s=>?_)
 · exact Ip B fun d x2 hd B s2=>k (.ref d) x2 (.ref hd) B (fG (cG s<|cY<|cG s2 R0))
 · exact XF (B.dn (b:=c+1) (Nat.le.intro (k:=5) rfl)) fun d x2 hd B s2=>k (.fig d.1 d.2) x2 hd B (fG (cG s<|cN<|cY<|cG s2 R0))
 ·
  refine I8 (m:=3) (by decide) (by decide) B fun e x2 he B s2=>Wn (m:=1+e) (Nat.add_comm .. ▸he) (B.dn (b:=c+(1+e)) (by have:e < 3:=he;omega)) fun t x3 ht B s3=>?_
  rcases hd with rfl | rfl
  · exact k (.lit t) x3 (.lit (ht.1▸(Nat.add_comm .. ▸he)) ht.2) B (fG (cG s<|cN<|cN<|cG s2<|cG s3 R0))
  · exact k (.lit t) x3 (.lit (ht.1▸(Nat.add_comm .. ▸he)) ht.2) B (fG (cG s<|cN<|cN<|cG s2<|cG s3 R0))
theorem bA {o:Option Cq} (ho:∀ t,o=some t→sh3 t):Gn 4 (.val (.ref 712)) [oV o] 7 (fun t:Cq=>pr t.tk t.tree) fun t=>AU t∧wm o t=true:=fun {c x G} B k=>by
 refine gD4 B (fun x1 B s=>?_) (fun x1 B s=>?_) (fun d hd x1 B s=>?_)
 · exact Ip B fun d x2 hd B s2=>k (.ref d) x2 ⟨.ref hd,rfl⟩ B (fG (cG s<|cY<|cG s2 R0))
 · exact XF (B.dn (b:=c+1) (Nat.le.intro (k:=5) rfl)) fun d x2 hd B s2=>k (.fig d.1 d.2) x2 ⟨hd,rfl⟩ B (fG (cG s<|cN<|cY<|cG s2 R0))
 have fx:∀ m:Nat,m≤3→(∀ t:Str,sl t=m→wm o (.lit t)=true)→(∀ t x2,GS 3 (.val (.ref 691)) [.int m] x1 (pr (fun L=>tL t::L) (SV t)) x2→GS 4 (.val (.ref 712)) [oV o] x (pr (fun L=>tL t::L) (SV t)) x2)→G:=fun m hm hw f=>
  Wn hm (B.dn (b:=c+m) (Ad (A8 hm c) (Nat.le.intro (k:=3) rfl))) fun t x2 ht B s2=>k (.lit t) x2 ⟨.lit (ht.1▸hm) ht.2,hw t ht.1⟩ B (f t x2 s2)
 have e1:∀ t:Str,sl t=1→decide (((sl t:Nat):Int)=1)=true:=fun t h=>by rw[h];rfl
 cases o with
 | none=>exact fx 1 (by decide) e1 fun t x2 s2=>by rcases hd with rfl | rfl<;>exact fG (cG s<|cN<|cN<|cG s2 R0)
 | some o=>
  cases o with
  | ref r=>
   refine I8 (m:=3) (by decide) (by decide) B fun e x2 he B s2=>Wn (m:=1+e) (Nat.add_comm .. ▸he) (B.dn (b:=c+(1+e)) (by have:e < 3:=he;omega)) fun t x3 ht B s3=>?_
   refine k (.lit t) x3 ⟨.lit (ht.1▸(Nat.add_comm .. ▸he)) ht.2,rfl⟩ B ?_
   clear fx k ho
   rcases hd with rfl | rfl<;>exact fG (cG s<|cN<|cN<|cY<|cG s2<|cG s3 R0)
  | fig w f=>exact fx 1 (by decide) e1 fun t x2 s2=>by rcases hd with rfl | rfl<;>exact fG (cG s<|cN<|cN<|cN<|cN<|cG s2 R0)
  | lit u=>
   have hu:=ho _ rfl
   exact fx (sl u) hu (fun t h=>by show decide (_=_)=true;rw[h];exact decide_eq_true rfl) fun t x2 s2=>by rcases hd with rfl | rfl<;>exact fG (cG s<|cN<|cN<|cN<|cY<|cO (K9 (Ad hu (by decide)))<|cG s2 R0)
theorem cw {B:Type} {φ:Vj B} {K:Nat} {b:B} {ls:Bu} {es:List (Ev B)} (w:Str) (al:Af φ K b ls es) (hw:Jy w=true:=by kernel_rfl) (hk:Ap 1 K=true:=by rfl):Af φ K b ls (.call (.val (.ref 658)) [.v (.str w)] b ls (.v (.lis [tW w])) b ls::es):=cP (as:=[.str w]) (PK hw) al hk
theorem GS.eq {k n:Nat} {f:MV} {as:List MV} {x x':En} {A:List MV} {t:B2→B2} {v:MV} (h:Dl n A t) (s:GS k f as x (.tup [.lis A,v]) x'):GS k f as x (pr t v) x':=by rw[pr,←h.eq];exact s
theorem Eo {b:Bool} {w:Str} (h:Ci w≤1000:=by exact Gp):Hv 1 (ini b w):=by
 cases b with
 | false=>exact Dl.nil.le (by decide)
 | true=>exact .one "word" h
theorem Em {w:Str} (h:Ci w≤1000:=by exact Gp):Dl 1 [tW w] fun L=>tW w::L:=.one "word" h
noncomputable abbrev bdL:List MV:=[.lis [],.lis [.str "BEFORE"],.lis [.str "AFTER"],.lis [.str "BEFORE",.str "AFTER"],.lis [.str "AFTER",.str "BEFORE"]]
structure qF (d:F2):Prop where
 ok:d.ok
 tk:Hv 36 d.tk
noncomputable abbrev aD (a b:MV):Bu:=[.dict [("BEFORE",a),("AFTER",b)]]
theorem Wm:Gn 5 (.val (.ref 719)) [] 17 (fun d:F2=>pr d.tk (.tup [d.bef,d.aft])) qF:=fun {c x G} B k=>by
 refine Ja (l:=bdL) (by decide) (by decide) B fun d x1 hd B sp=>?_
 have one:∀ {c:Nat} {x:En},D1 (c+8) x→(∀ t x1 (b:Bool) x2,AU t→GS 4 (.val (.ref 705)) [] x (pr t.tk t.tree) x1→GS 2 (.val (.ref 665)) [.str "INITIAL"] x1 (.lis (ini b "INITIAL" [])) x2→D1 c x2→G)→G:=fun {c x} B k=>
  J5 (c:=c+1) B fun t x1 ht B s1=>(E7 "INITIAL") B fun b x2 Z B s2=>k t x1 b x2 ht s1 s2 B
 rcases Ag.mp hd with e | hd
 ·
  subst e
  exact k .no x1 ⟨trivial,Dl.nil.le (by decide)⟩ B.lo0 (fG (cM (aD .none .none)<|cG sp R0))
 rcases Ag.mp hd with e | hd
 ·
  subst e
  refine one (c:=c+8) B fun t x2 b x3 ht s1 s2 B=>?_
  have h1:=Dl.nil.comp (Em (w:="BEFORE"))
  have h2:=h1.comp (Eo (b:=b) (w:="INITIAL"))
  have h3:=h2.comp ht.tk
  refine k (.b ⟨b,t⟩) x3 ⟨ht.ok,h3.o.le (by decide)⟩ B.lo0 (GS.eq h3 (fG (cM (aD .none .none)<|cG sp<|cG s1<|cw "BEFORE"<|cA h1<|cG s2<|cA h2<|cA h3 R0)))
 rcases Ag.mp hd with e | hd
 ·
  subst e
  refine one (c:=c+8) B fun t x2 b x3 ht s1 s2 B=>?_
  have h1:=Dl.nil.comp (Em (w:="AFTER"))
  have h2:=h1.comp (Eo (b:=b) (w:="INITIAL"))
  have h3:=h2.comp ht.tk
  refine k (.a ⟨b,t⟩) x3 ⟨ht.ok,h3.o.le (by decide)⟩ B.lo0 (GS.eq h3 (fG (cM (aD .none .none)<|cG sp<|cG s1<|cw "AFTER"<|cA h1<|cG s2<|cA h2<|cA h3 R0)))
 rcases Ag.mp hd with e | hd
 ·
  subst e
  refine one (c:=c+8) B fun t x2 b x3 ht s1 s2 B=>one B fun u x4 d x5 hu s3 s4 B=>?_
  have h1:=Dl.nil.comp (Em (w:="BEFORE"))
  have h2:=h1.comp (Eo (b:=b) (w:="INITIAL"))
  have h3:=h2.comp ht.tk
  have h4:=h3.comp (Em (w:="AFTER"))
  have h5:=h4.comp (Eo (b:=d) (w:="INITIAL"))
  have h6:=h5.comp hu.tk
  refine k (.ba ⟨b,t⟩ ⟨d,u⟩) x5 ⟨⟨ht.ok,hu.ok⟩,h6.o⟩ B (GS.eq h6 (fG (cM (aD .none .none)<|cG sp<|cG s1<|cw "BEFORE"<|cA h1<|cG s2<|cA h2<|cA h3<|cM (aD t.tree .none)<|cG s3<|cw "AFTER"<|cA h4<|cG s4<|cA h5<|cA h6 R0)))
 ·
  have e:=Ae.mp hd
  clear hd
  subst e
  refine one (c:=c+8) B fun t x2 b x3 ht s1 s2 B=>one B fun u x4 d x5 hu s3 s4 B=>?_
  have h1:=Dl.nil.comp (Em (w:="AFTER"))
  have h2:=h1.comp (Eo (b:=b) (w:="INITIAL"))
  have h3:=h2.comp ht.tk
  have h4:=h3.comp (Em (w:="BEFORE"))
  have h5:=h4.comp (Eo (b:=d) (w:="INITIAL"))
  have h6:=h5.comp hu.tk
  refine k (.ab ⟨b,t⟩ ⟨d,u⟩) x5 ⟨⟨ht.ok,hu.ok⟩,h6.o⟩ B (GS.eq h6 (fG (cM (aD .none .none)<|cG sp<|cG s1<|cw "AFTER"<|cA h1<|cG s2<|cA h2<|cA h3<|cM (aD .none t.tree)<|cG s3<|cw "BEFORE"<|cA h4<|cG s4<|cA h5<|cA h6 R0)))
noncomputable def nb (t:Bool):Nat:=match t with
 | true=>1
 | false=>0
theorem gDb {c:Nat} {x:En} {G:Prop} (B:D1 (c+1) x) (k:∀ t x',D1 c x'→GS 1 dF [.int (2:Nat)] x (.int (nb t)) x'→G):G:=Yc B (k false) (k true)
theorem CK (t:Bool):Kd .Mult (.v (.lis [tW "CONTINUE"])) (.v (.int (1+(nb t:Nat))))=some (.lis (Te t [])):=by cases t<;>rfl
theorem CL (t:Bool):Kd .Mult (.v (.tup [cV])) (.v (.int (1+(nb t:Nat))))=some (.tup (D4 t)):=by cases t<;>rfl
theorem BE {t:Bool}:Hv 2 (Te t):=.cons "word" Gp Eo
structure BrG (d:Ru):Prop where
 tk:Hv 12 d.tk
theorem JN:Gn 3 (.val (.ref 724)) [] 6 (fun d:Ru=>pr d.tk (.tup d.tree)) BrG:=fun {c x G} B k=>by
 have one:∀ {c:Nat} {x:En},D1 (c+2) x→(∀(t:Bool) x1 (b:Bool) x2,GS 1 dF [.int (2:Nat)] x (.int (nb t)) x1→GS 2 (.val (.ref 665)) [.str "ON"] x1 (.lis (ini b "ON" [])) x2→D1 c x2→G)→G:=fun {c x} B k=>
  gDb (c:=c+1) B fun t x1 B s1=>(E7 "ON") B fun b x2 Z B s2=>k t x1 b x2 s1 s2 B
 have cp:∀(A:List MV) (key:Str) (op:List MV) (t:Bool) (x:En) (ls:Bu) (es:List (Ev En)),(op=[]∨op=[.str "NOT"])→Af gF 2 x ls es→Af gF 2 x ls (.exp (.compL (.var 4) none (.tup [.const (.str "word"),.var 0]) []) [.b,.v (.lis A),.l 0,.v (.str key),.v (.lis op),.v (.int (1+(nb t:Nat)))] x ls (.v (.lis (op.map fun w=>.tup [.str "word",w]))) x ls::es):=fun A key op t x ls es h al=>by
  rcases h with rfl | rfl
  · exact cE (fun Z=>rfl) al
  · exact cE (fun Z=>rfl) al
 have ho:Dl 1 [tW "OVERFLOW"] _:=Em
 refine Yc (c:=c+5) B (fun x1 B s1=>Yc (c:=c+4) B (fun x2 B s2=>?_) fun x2 B s2=>one (c:=c+2) B fun t2 x3 b2 x4 s3 s4 B=>?_) fun x1 B s1=>one (c:=c+3) B fun t x2 b x3 s2 s3 B=>Yc (c:=c+2) B (fun x4 B s4=>?_) fun x4 B s4=>one (c:=c) B fun t2 x5 b2 x6 s5 s6 B=>?_
 · exact k ⟨none,none⟩ x2 ⟨Dl.nil.le (by decide)⟩ B.lo0 (fG (cM [.list []]<|cG s1<|cN<|cG s2<|cN<|cC rfl R0))
 ·
  have h1:=Dl.nil.comp (Em (w:="NOT"))
  have h2:=h1.comp (Eo (b:=b2) (w:="ON"))
  have h3:=h2.comp ho
  have h4:=h3.comp (BE (t:=t2))
  exact k ⟨none,some (b2,t2)⟩ x4 ⟨h4.o.le (by decide)⟩ B.lo0 (GS.eq h4 (fG (cM [.list []]<|cG s1<|cN<|cG s2<|cY<|cG s3<|cp [] "not over" [.str "NOT"] t2 _ _ _ (.inr rfl)<|cA h1<|cG s4<|cA h2<|cw "OVERFLOW"<|cA h3<|cw "CONTINUE"<|cO (CK t2)<|cA h4<|cO (CL t2)<|cC rfl<|cM [.list [.tup [.str "not over",.tup (D4 t2)]]]<|cC rfl R0)))
 ·
  have h1:=Dl.nil.comp Dl.nil
  have h2:=h1.comp (Eo (b:=b) (w:="ON"))
  have h3:=h2.comp ho
  have h4:=h3.comp (BE (t:=t))
  exact k ⟨some (b,t),none⟩ x4 ⟨h4.o.le (by decide)⟩ B.lo0 (GS.eq h4 (fG (cM [.list []]<|cG s1<|cY<|cG s2<|cp [] "over" [] t _ _ _ (.inl rfl)<|cA h1<|cG s3<|cA h2<|cw "OVERFLOW"<|cA h3<|cw "CONTINUE"<|cO (CK t)<|cA h4<|cO (CL t)<|cC rfl<|cM [.list [.tup [.str "over",.tup (D4 t)]]]<|cG s4<|cN<|cC rfl R0)))
 ·
  have h1:=Dl.nil.comp Dl.nil
  have h2:=h1.comp (Eo (b:=b) (w:="ON"))
  have h3:=h2.comp ho
  have h4:=h3.comp (BE (t:=t))
  have g1:=h4.comp (Em (w:="NOT"))
  have g2:=g1.comp (Eo (b:=b2) (w:="ON"))
  have g3:=g2.comp ho
  have g4:=g3.comp (BE (t:=t2))
  exact k ⟨some (b,t),some (b2,t2)⟩ x6 ⟨g4.o.le (by decide)⟩ B (GS.eq g4 (fG (cM [.list []]<|cG s1<|cY<|cG s2<|cp [] "over" [] t _ _ _ (.inl rfl)<|cA h1<|cG s3<|cA h2<|cw "OVERFLOW"<|cA h3<|cw "CONTINUE"<|cO (CK t)<|cA h4<|cO (CL t)<|cC rfl<|cM [.list [.tup [.str "over",.tup (D4 t)]]]<|
   cG s4<|cY<|cG s5<|cp ([]++[]++ini b "ON" []++[tW "OVERFLOW"]++Te t []) "not over" [.str "NOT"] t2 _ _ _ (.inr rfl)<|cA g1<|cG s6<|cA g2<|cw "OVERFLOW"<|cA g3<|cw "CONTINUE"<|cO (CK t2)<|cA g4<|cO (CL t2)<|cC rfl<|cM [.list [.tup [.str "over",.tup (D4 t)],.tup [.str "not over",.tup (D4 t2)]]]<|cC rfl R0)))
structure kE (d:Hh):Prop where
 ok:d.ok
 tk:Hv 18 d.tk
theorem XG:Gn 4 (.val (.ref 731)) [] 8 (fun d:Hh=>pr d.tk d.tree) kE:=fun {c x G} B k=>
 Yc (c:=c+7) B (fun x1 B s1=>k .no x1 ⟨trivial,Dl.nil.le (by decide)⟩ B.lo0 (fG (cG s1<|cY R0))) fun x1 B s1=>Ip (c:=c+1) B fun d x2 hd B s2=>(E7 "WITH") B fun b x3 Z B s3=>by
  have h2:=(Eo (b:=b) (w:="WITH")).comp (Em (w:="POINTER"))
  have h3:=h2.comp hd.tk
  exact k (.yes b d) x3 ⟨hd.ok,h3.o⟩ B (GS.eq h3 (fG (cG s1<|cN<|cG s2<|cG s3<|cw "POINTER"<|cA h2<|cA h3 R0)))
section
variable {B:Type} {φ:Vj B} {K:Nat} {p:Ir} {y:List MS} {l:List MV} {m:MV} {ρ ρ1 ρ':List LV} {b b1 b':B} {ls ls1 ls':Bu} {es:List (Ev B)}
noncomputable def FS (φ:Vj B) (K:Nat) (p:Ir) (y:List MS) (l:List MV) (ρ:List LV) (b:B) (ls:Bu) (ρ':List LV) (b':B) (ls':Bu):Prop:=
 ∀ i,Is (φ.ct K i) (I7 (put p) (fun ρ σ=>Dv (φ.ct K i).C y ρ σ) l ((φ.ct K i).rvs ρ) ((φ.ct K i).st b ls)) (.next ρ' b' ls')
theorem fE:FS φ K p y [] ρ b ls ρ b ls:=fun i=>rfl
noncomputable def tnF (u:Bool) (β:Bd B) (p:Ir) (y:List MS) (m:MV) (ρ:List LV) (b:B) (ls:Bu):Fr B:=Nc (Xk p m ρ) fun ρ=>Iy u β y ρ b ls .fin
noncomputable def rM (C:Call) (p:Ir) (y:List MS) (l:List MV) (r:Di×List RV) (σ:Bu):B1 (Di×List RV):=match r with
 | (.next,ρ)=>I7 (put p) (fun ρ σ=>Dv C y ρ σ) l ρ σ
 | (.brk,ρ)=>.ok (.next,ρ) σ
 | (.ret v,ρ)=>.ok (.ret v,ρ) σ
theorem fT (u:Bool) (al:Af φ K b ls es) (r:FS φ K p y l ρ1 b1 ls1 ρ' b' ls') (hg:go es (tnF u φ.β p y m ρ b ls)=J0 (.next ρ1 b1 ls1) es:=by kernel_rfl):FS φ K p y (m::l) ρ b ls ρ' b' ls':=fun i=>Cs (Pr (o:=.next ρ1 b1 ls1) (φ.hβ K i▸hg) (al i)) fun ρ2 e s=>
 have h1:I7 (put p) (fun ρ σ=>Dv (φ.ct K i).C y ρ σ) (m::l) ((φ.ct K i).rvs ρ) ((φ.ct K i).st b ls)=(Dv (φ.ct K i).C y ((φ.ct K i).rvs ρ2) ((φ.ct K i).st b ls)).bind (rM (φ.ct K i).C p y l):=congrArg (fun o:Option (List RV)=>(match o with | none=>B1.no | some ρ=>(Dv (φ.ct K i).C y ρ ((φ.ct K i).st b ls)).bind (rM (φ.ct K i).C p y l))) (DE p e)
 have h2:Dv (φ.ct K i).C y ((φ.ct K i).rvs ρ2) ((φ.ct K i).st b ls)=_:=JJ (Hd y s)
 (h1.trans (congrArg (fun o=>B1.bind o (rM (φ.ct K i).C p y l)) h2)).trans (r i)
theorem fO {n:Nat} {x:Nat} {z:ME} (hn:n≤1000) (h:∀ i,C0 (φ.ct K i).C z ((φ.ct K i).rvs ρ) ((φ.ct K i).st b ls)= .ok ((φ.ct K i).rv (.v (.int n))) ((φ.ct K i).st b1 ls1)) (r:FS φ K (.var x) y (C5 0 n) ρ b1 ls1 ρ' b' ls'):SS φ K (.forR x none z y) ρ b ls ρ' b' ls':=fun i=>Is.eq (r i) ((congrArg (fun o=>B1.bind o _) (h i)).trans (if_pos (JT hn)))
end
theorem FS.ls {φ:Vj En} {K:Nat} {p:Ir} {y:List MS} {l:List MV} {ρ ρ':List LV} {b b':En} {X Y:List MV} {ls':Bu} (e:X=Y) (r:FS φ K p y l ρ b [.list Y] ρ' b' ls'):FS φ K p y l ρ b [.list X] ρ' b' ls':=e▸r
noncomputable abbrev sZ:List MS:=match G6.body.getD 1 .dead with
 | .forR _ _ _ b=>b
 | _=>[]
structure GrG (g:Iu):Prop where
 ok:g.ok
 tk:Hv 60 g.tk
theorem bG {A:List MV} {t:B2→B2} {n:Nat} {R:List MV} {c:Nat} {x:En} {G:Prop} {v3 v4 v5 v6 v7:LV} (hA:Dl n A t) (hn:n≤1000) (hR:R.length≤2) (B:D1 (c+24) x)
  (k:∀(g:Iu) x' A' v4' v5' v6' v7',GrG g→D1 c x'→Dl (n+60) A' (fun L=>t (g.tk L))→(∀ {m l ρ' x'' ls'},FS gF 5 (.var 3) sZ l [.b,.v (.lis A'),.l 0,.v m,v4',v5',v6',v7',.un,.un,.un,.un,.un] x' [.list (R++g.rows)] ρ' x'' ls'→FS gF 5 (.var 3) sZ (m::l) [.b,.v (.lis A),.l 0,v3,v4,v5,v6,v7,.un,.un,.un,.un,.un] x [.list R] ρ' x'' ls')→G):G:=by
 have ca:∀ {A':List MV} {t':B2→B2} {x:En} {ls:Bu} {es:List (Ev En)} (m:Nat),Dl (n+m) A' t'→Ap m 1000=true→Af gF 5 x ls es→Af gF 5 x ls (.chk (Ap A'.length Cf)::es):=fun m h hm al=>cC (A6.mpr (Ad h.len (Ad (Nat.add_le_add hn (Ac hm)) (by decide)))) al
 have cr:∀ {x:En} {ls:Bu} {es:List (Ev En)} (z:MV),Af gF 5 x ls es→Af gF 5 x ls (.chk (Ap (R++[z]).length Cf)::es):=fun z al=>cC (Co 2 hR) al
 have one:∀ {c:Nat} {x:En},D1 (c+9) x→(∀(d:Option Cq) (b:Bool) (e:Nat) x1 x2 x3,GS 1 dF [.int (3:Nat)] x (.int e) x1→(match d with
   | none=>e=0∧x1=x2
   | some t=>decide ((e:Int) > 0)=true∧AU t∧GS 4 (.val (.ref 705)) [] x1 (pr t.tk t.tree) x2)→GS 2 (.val (.ref 665)) [.str "BY"] x2 (.lis (ini b "BY" [])) x3→D1 c x3→G)→G:=fun {c x} B k=>by
  have yes:∀ e:Nat,decide ((e:Int) > 0)=true→Dk G (c+8) x 3 e:=fun e he x1 B s=>J5 (c:=c+1) B fun t x2 ht B s2=>(E7 "BY") B fun b x3 Z B s3=>k (some t) b e x1 x2 x3 s ⟨he,ht,s2⟩ s3 B
  exact pS (c:=c+8) B (fun x1 B s=>(E7 "BY") (B.dn (b:=c+1) (Nat.le.intro (k:=7) rfl)) fun b x3 Z B s3=>k none b 0 x1 x1 x3 s ⟨rfl,rfl⟩ s3 B) (yes 1 rfl) (yes 2 rfl)
 have dl:Dl 1 [tW "DELIMITED"] _:=Em
 have sz:Dl 1 [tW "SIZE"] _:=Em
 have q:∀(m:MV) {e:Nat} {k:Nat} {x1 x2:En} {vs:List MV},GS 1 dF [.int (2:Nat)] x (.int e) x1→k=1+e→k≤2→QS gF 5 (.call (.glob "_law_text" (.val (.ref 705))) [.var 1]) [.b] (C5 0 k) x1 [.list R] vs x2→∀ i,C0 (gF.ct 5 i).C (.compR (.bin .Add (.const (.int 1)) (.call (.glob "_law_draw" (.val (.ref 646))) [.var 0,.const (.int 2)])) (.call (.glob "_law_text" (.val (.ref 705))) [.var 1]) [0]) ((gF.ct 5 i).rvs [.b,.v (.lis A),.l 0,.v m,v4,v5,v6,v7,.un,.un,.un,.un,.un]) ((gF.ct 5 i).st x [.list R])= .ok ((gF.ct 5 i).rv (.v (.lis vs))) ((gF.ct 5 i).st x2 [.list R]):=fun m e k x1 x2 vs s hk hk2 q=>by
  subst hk
  exact qO (c:=[.b]) (Ad hk2 (by decide)) (fun Z=>rfl) (eR (φ:=gF) (K:=5) (a:=.v (.int (1+e:Nat))) (cG s R0)) q
 refine Yc (c:=c+23) B (fun x1 B s1=>J5 (c:=c+16) B fun u x2 hu B s2=>one (c:=c+7) B fun d b e y1 y2 y3 r1 r2 r3 B=>?_) fun x1 B s1=>J5 (c:=c+16) B fun u x2 hu B s2=>J5 (c:=c+9) B fun w x3 hw B s3=>one (c:=c) B fun d b e y1 y2 y3 r1 r2 r3 B=>?_
 ·
  have q1:=fun m=>q m (vs:=[pr u.tk u.tree]) (x2:=x2) s1 rfl (by decide) (qT (eR (φ:=gF) (K:=5) (cG s2 R0)) qE)
  have h0:=hA.comp hu.tk
  have h1:=h0.comp (m:=1) dl
  have h2:=h1.comp (Eo (b:=b) (w:="BY"))
  cases d with
  | none=>
   obtain⟨rfl,rfl⟩:=r2
   have h3:=h2.comp sz
   exact k ⟨u,none,b,none⟩ y3 _ (.v (.lis [pr u.tk u.tree])) (.v (.lis [tW "SIZE"])) (.v .none) (.v (pr u.tk u.tree)) ⟨⟨hu.ok,Dd,Dd⟩,(hu.tk.then (dl.then ((Eo (b:=b) (w:="BY")).then sz))).le (by decide)⟩ B.lo0 (h3.le (Nat.le.intro (k:=41) rfl)) fun {m l ρ' x'' ls'} r=>fT false (cE (q1 m)<|cG r1<|cN<|cw "SIZE"<|ca 16 h0 rfl<|cr (.tup [u.tree,.none])<|cM [.list (R++[.tup [u.tree,.none]])]<|cw "DELIMITED"<|ca 17 h1 rfl<|cG r3<|ca 18 h2 rfl<|ca 19 h3 rfl R0) r
  | some d=>
   obtain⟨he,hd,r2⟩:=r2
   have h3:=h2.comp hd.tk
   exact k ⟨u,none,b,some d⟩ y3 _ (.v (.lis [pr u.tk u.tree])) (.v (.lis (d.tk []))) (.v d.tree) (.v (pr u.tk u.tree)) ⟨⟨hu.ok,Dd,Ek hd.ok⟩,(hu.tk.then (dl.then ((Eo (b:=b) (w:="BY")).then hd.tk))).le (by decide)⟩ B.lo0 (h3.le (Nat.le.intro (k:=26) rfl)) fun {m l ρ' x'' ls'} r=>fT false (cE (q1 m)<|cG r1<|cD he<|cG r2<|ca 16 h0 rfl<|cr (.tup [u.tree,d.tree])<|cM [.list (R++[.tup [u.tree,d.tree]])]<|cw "DELIMITED"<|ca 17 h1 rfl<|cG r3<|ca 18 h2 rfl<|ca 34 h3 rfl R0) r
 ·
  have q1:=fun m=>q m (vs:=[pr u.tk u.tree,pr w.tk w.tree]) (x2:=x3) s1 rfl (by decide) (qT (eR (φ:=gF) (K:=5) (cG s2 R0)) (qT (eR (φ:=gF) (K:=5) (cG s3 R0)) qE))
  have h0:=hA.comp hu.tk
  have h00:=h0.comp hw.tk
  have h1:=h00.comp (m:=1) dl
  have h2:=h1.comp (Eo (b:=b) (w:="BY"))
  cases d with
  | none=>
   obtain⟨rfl,rfl⟩:=r2
   have h3:=h2.comp sz
   refine k ⟨u,some w,b,none⟩ y3 _ (.v (.lis [pr u.tk u.tree,pr w.tk w.tree])) (.v (.lis [tW "SIZE"])) (.v .none) (.v (pr w.tk w.tree)) ⟨⟨hu.ok,Ek hw.ok,Dd⟩,(hu.tk.then (hw.tk.then (dl.then ((Eo (b:=b) (w:="BY")).then sz)))).le (by decide)⟩ (B.dn (Nat.le.intro (k:=0) rfl)) (h3.le (Nat.le.intro (k:=25) rfl)) fun {m l ρ' x'' ls'} r=>?_
   exact fT false (cE (q1 m)<|cG r1<|cN<|cw "SIZE"<|ca 16 h0 rfl<|cr (.tup [u.tree,.none])<|cM [.list (R++[.tup [u.tree,.none]])]<|ca 32 h00 rfl<|cC (t:=Ap ((R++[MV.tup [u.tree,.none]])++[MV.tup [w.tree,.none]]).length Cf) (by rw[Ak];exact Co 2 hR)<|cM [.list ((R++[MV.tup [u.tree,.none]])++[MV.tup [w.tree,.none]])]<|cw "DELIMITED"<|ca 33 h1 rfl<|cG r3<|ca 34 h2 rfl<|ca 35 h3 rfl R0) (FS.ls (Ak R [MV.tup [u.tree,.none]] [MV.tup [w.tree,.none]]) r)
  | some d=>
   obtain⟨he,hd,r2⟩:=r2
   have h3:=h2.comp hd.tk
   refine k ⟨u,some w,b,some d⟩ y3 _ (.v (.lis [pr u.tk u.tree,pr w.tk w.tree])) (.v (.lis (d.tk []))) (.v d.tree) (.v (pr w.tk w.tree)) ⟨⟨hu.ok,Ek hw.ok,Ek hd.ok⟩,(hu.tk.then (hw.tk.then (dl.then ((Eo (b:=b) (w:="BY")).then hd.tk)))).le (by decide)⟩ (B.dn (Nat.le.intro (k:=0) rfl)) (h3.le (Nat.le.intro (k:=10) rfl)) fun {m l ρ' x'' ls'} r=>?_
   exact fT false (cE (q1 m)<|cG r1<|cD he<|cG r2<|ca 16 h0 rfl<|cr (.tup [u.tree,d.tree])<|cM [.list (R++[.tup [u.tree,d.tree]])]<|ca 32 h00 rfl<|cC (t:=Ap ((R++[MV.tup [u.tree,d.tree]])++[MV.tup [w.tree,d.tree]]).length Cf) (by rw[Ak];exact Co 2 hR)<|cM [.list ((R++[MV.tup [u.tree,d.tree]])++[MV.tup [w.tree,d.tree]])]<|cw "DELIMITED"<|ca 33 h1 rfl<|cG r3<|ca 34 h2 rfl<|ca 50 h3 rfl R0) (FS.ls (Ak R [MV.tup [u.tree,d.tree]] [MV.tup [w.tree,d.tree]]) r)
theorem GS.eq2 {k n:Nat} {f:MV} {as:List MV} {x x':En} {A:List MV} {t:B2→B2} {v w:MV} (h:Dl n A t) (e:v=w) (s:GS k f as x (.tup [.lis A,w]) x'):GS k f as x (pr t v) x':=by rw[e];exact GS.eq h s
theorem Iu.rl {g:Iu}:g.rows.length≤2:=by
 unfold Iu.rows
 cases g.t2<;>exact Ac rfl
noncomputable def Nl.t (d:Nl) (L:B2):B2:=tW "STRING"::d.g.tk (lZ d.g2 (tW "INTO"::d.goal.tk (d.ptr.tk (d.br.tk (ini d.fin "END-STRING" L)))))
structure qR (d:Nl):Prop where
 ok:d.ok
 tk:Hv 200 d.t
theorem lS:Gn 6 (.val (.ref 736)) [] 70 (fun d:Nl=>pr d.t d.tree) qR:=fun {c x G} B k=>by
 have s0:Dl 1 [tW "STRING"] _:=Em
 have q:∀ {e n:Nat} {x1 x2:En} {ρ':List LV} {ls':Bu},GS 1 dF [.int (2:Nat)] x (.int e) x1→n=1+e→n≤2→FS gF 5 (.var 3) sZ (C5 0 n) [.b,.v (.lis [tW "STRING"]),.l 0,.un,.un,.un,.un,.un,.un,.un,.un,.un,.un] x1 [.list []] ρ' x2 ls'→
   SS gF 5 (G6.body.getD 1 .dead) [.b,.v (.lis [tW "STRING"]),.l 0,.un,.un,.un,.un,.un,.un,.un,.un,.un,.un] x [.list []] ρ' x2 ls':=fun {e n x1 x2 ρ' ls'} s hn h2 r=>by
  subst hn
  exact fO (Ad h2 (by decide)) (eR (φ:=gF) (K:=5) (a:=.v (.int (1+e:Nat))) (cG s R0)) r
 have tl:∀ {c:Nat} {x:En},D1 (c+21) x→(∀ d x1 p x2 b x3 f x4,Oh d→kE p→BrG b→GS 3 (.val (.ref 686)) [] x (pr d.tk d.tree) x1→GS 4 (.val (.ref 731)) [] x1 (pr p.tk p.tree) x2→GS 3 (.val (.ref 724)) [] x2 (pr b.tk (.tup b.tree)) x3→GS 2 (.val (.ref 665)) [.str "END-STRING"] x3 (.lis (ini f "END-STRING" [])) x4→D1 c x4→G)→G:=fun {c x} B k=>
  Ip (c:=c+15) B fun d x1 hd B s1=>XG (c:=c+7) B fun p x2 hp B s2=>JN (c:=c+1) B fun b x3 hb B s3=>(E7 "END-STRING") B fun f x4 Z B s4=>k d x1 p x2 b x3 f x4 hd hp hb s1 s2 s3 s4 B
 refine Yc (c:=c+69) B (fun x1 B s1=>bG (v3:=.un) (v4:=.un) (v5:=.un) (v6:=.un) (v7:=.un) (R:=[]) (c:=c+45) s0 (by decide) (by decide) B fun g x2 A v4 v5 v6 v7 hg B hA fg=>?_) fun x1 B s1=>bG (v3:=.un) (v4:=.un) (v5:=.un) (v6:=.un) (v7:=.un) (R:=[]) (c:=c+45) s0 (by decide) (by decide) B fun g x2 A v4 v5 v6 v7 hg B hA fg=>bG (v3:=.v (.int (0:Nat))) (v4:=v4) (v5:=v5) (v6:=v6) (v7:=v7) (R:=g.rows) (c:=c+21) hA (by decide) Iu.rl B fun g2 x3 A2 v42 v52 v62 v72 hg2 B hA2 fg2=>?_
 ·
  refine tl (c:=c+24) B fun d y1 p y2 b y3 f y4 hd hp hb r1 r2 r3 r4 B=>?_
  have S:=q (n:=1) s1 rfl (by decide) (fg (m:=.int 0) (l:=[]) fE)
  have h1:=hA.comp (Em (w:="INTO"))
  have h2:=h1.comp hd.tk
  have h3:=h2.comp hp.tk
  have h4:=h3.comp hb.tk
  have h5:=h4.comp (Eo (b:=f) (w:="END-STRING"))
  refine k ⟨g,none,d,p,b,f⟩ y4 ⟨⟨hg.ok,Dd,hd.ok,hp.ok⟩,h5.o.le (by decide)⟩ B.lo0 (GS.eq2 (w:=.tup [.str "string",.tup g.rows,d.tree,p.tree,.tup b.tree]) h5 ?_ (fG (cw "STRING"<|cM [.list []]<|cL S<|cG r1<|cG r2<|cG r3<|cw "INTO"<|cA h1<|cA h2<|cA h3<|cA h4<|cG r4<|cA h5<|cC (bl (Iu.rl (g:=g))) R0)))
  show MV.tup [_,.tup (g.rows++[]),_,_,_]=_
  rw[Aj]
 ·
  refine tl (c:=c) B fun d y1 p y2 b y3 f y4 hd hp hb r1 r2 r3 r4 B=>?_
  have S:=q (n:=2) s1 rfl (by decide) (fg (m:=.int 0) (l:=[.int 1]) (fg2 (m:=.int 1) (l:=[]) fE))
  have h1:=hA2.comp (Em (w:="INTO"))
  have h2:=h1.comp hd.tk
  have h3:=h2.comp hp.tk
  have h4:=h3.comp hb.tk
  have h5:=h4.comp (Eo (b:=f) (w:="END-STRING"))
  exact k ⟨g,some g2,d,p,b,f⟩ y4 ⟨⟨hg.ok,Ek hg2.ok,hd.ok,hp.ok⟩,h5.o.le (by decide)⟩ B (GS.eq h5 (fG (cw "STRING"<|cM [.list []]<|cL S<|cG r1<|cG r2<|cG r3<|cw "INTO"<|cA h1<|cA h2<|cA h3<|cA h4<|cG r4<|cA h5<|cC (bl (la (Iu.rl (g:=g)) (Iu.rl (g:=g2)))) R0)))
noncomputable abbrev rH:List MS:=match E4.body.getD 1 .dead with
 | .forR _ _ _ b=>b
 | _=>[]
theorem ca {n:Nat} {A:List MV} {t:B2→B2} {K:Nat} {x:En} {ls:Bu} {es:List (Ev En)} (m:Nat) (hn:n≤1000) (h:Dl (n+m) A t) (al:Af gF K x ls es) (hm:Ap m 1000=true:=by rfl):Af gF K x ls (.chk (Ap A.length Cf)::es):=cC (A6.mpr (Ad h.len (Ad (Nat.add_le_add hn (Ac hm)) (by decide)))) al
structure AlG (a:Q5):Prop where
 ok:a.t.ok
 tk:Hv 17 a.tk
theorem QK {A:List MV} {t:B2→B2} {n:Nat} {R:List MV} {c:Nat} {x:En} {G:Prop} {v3 v4 v5 v6:LV} {j:Nat} {o:Bool} (hA:Dl n A t) (hn:n≤1000) (hR:R.length≤3) (ho:decide ((j:Int) > 0)=o) (B:D1 (c+8) x)
  (k:∀(a:Q5) x' A' v4' v5' v6',AlG a→D1 c x'→Dl (n+18) A' (fun L=>t (ini o "OR" (a.tk L)))→(∀ {l ρ' x'' ls'},FS gF 5 (.var 3) rH l [.b,.v (.lis A'),.l 0,.v (.int j),v4',v5',v6'] x' [.list (R++[a.v])] ρ' x'' ls'→FS gF 5 (.var 3) rH (.int j::l) [.b,.v (.lis A),.l 0,v3,v4,v5,v6] x [.list R] ρ' x'' ls')→G):G:=by
 refine J5 (c:=c+1) B fun u x1 hu B s1=>gDb B fun b x2 B s2=>?_
 have h1:=hA.comp (Eo (b:=o) (w:="OR"))
 have h2:=h1.comp (Eo (b:=b) (w:="ALL"))
 have h3:=h2.comp hu.tk
 refine k ⟨b,u⟩ x2 _ (.v (.lis (u.tk []))) (.v u.tree) (.v (.bool b)) ⟨hu.ok,(Eo (b:=b) (w:="ALL")).then hu.tk⟩ B h3 fun {l ρ' x'' ls'} r=>?_
 cases o with
 | false=>
  cases b with
  | false=>exact fT false (cG s1<|cG s2<|cN<|cD ho<|ca 1 hn h1<|ca 2 hn h2<|ca 18 hn h3<|cC (t:=Ap (R++[Q5.v ⟨false,u⟩]).length Cf) (Co 3 hR) R0) r
  | true=>exact fT false (cG s1<|cG s2<|cY<|cD ho<|ca 1 hn h1<|cw "ALL"<|ca 2 hn h2<|ca 18 hn h3<|cC (t:=Ap (R++[Q5.v ⟨true,u⟩]).length Cf) (Co 3 hR) R0) r
 | true=>
  cases b with
  | false=>exact fT false (cG s1<|cG s2<|cN<|cD ho<|cw "OR"<|ca 1 hn h1<|ca 2 hn h2<|ca 18 hn h3<|cC (t:=Ap (R++[Q5.v ⟨false,u⟩]).length Cf) (Co 3 hR) R0) r
  | true=>exact fT false (cG s1<|cG s2<|cY<|cD ho<|cw "OR"<|ca 1 hn h1<|cw "ALL"<|ca 2 hn h2<|ca 18 hn h3<|cC (t:=Ap (R++[Q5.v ⟨true,u⟩]).length Cf) (Co 3 hR) R0) r
structure jZ (d:Kb):Prop where
 ok:d.ok
 tk:Hv 60 d.tk
theorem lR:Gn 6 (.val (.ref 743)) [] 26 (fun d:Kb=>pr d.tk (.tup (d.f.v::d.l.map Q5.v))) jZ:=fun {c x G} B k=>by
 refine(E7 "BY") (show D1 (c+25+1) x from B) fun b x1 Z B s1=>?_
 have h1:=(Em (w:="DELIMITED")).comp (Eo (b:=b) (w:="BY"))
 have q:∀ {e n:Nat} {x2 x3:En} {ρ':List LV} {ls':Bu},GS 1 dF [.int (3:Nat)] x1 (.int e) x2→n=1+e→n≤3→FS gF 5 (.var 3) rH (C5 0 n) [.b,.v (.lis ([tW "DELIMITED"]++ini b "BY" [])),.l 0,.un,.un,.un,.un] x2 [.list []] ρ' x3 ls'→
   SS gF 5 (E4.body.getD 1 .dead) [.b,.v (.lis ([tW "DELIMITED"]++ini b "BY" [])),.l 0,.un,.un,.un,.un] x1 [.list []] ρ' x3 ls':=fun {e n x1 x2 ρ' ls'} s hn h2 r=>by
  subst hn
  exact fO (Ad h2 (by decide)) (eR (φ:=gF) (K:=5) (a:=.v (.int (1+e:Nat))) (cG s R0)) r
 have go:=fun {c:Nat} {x2:En} (B:D1 (c+8) x2)=>QK (G:=G) (j:=0) (v3:=.un) (v4:=.un) (v5:=.un) (v6:=.un) (R:=[]) (x:=x2) (c:=c) h1 (by decide) (by decide) rfl B
 refine pS (c:=c+24) B (fun x2 B s2=>go (c:=c+16) B fun a x3 A v4 v5 v6 ha B hA fa=>?_) (fun x2 B s2=>go (c:=c+16) B fun a x3 A v4 v5 v6 ha B hA fa=>QK (j:=1) (v3:=.v (.int (0:Nat))) (v4:=v4) (v5:=v5) (v6:=v6) (R:=[a.v]) (c:=c+8) hA (by decide) (Ac rfl) rfl B fun a2 x4 A2 v42 v52 v62 ha2 B hA2 fa2=>?_)
  (fun x2 B s2=>go (c:=c+16) B fun a x3 A v4 v5 v6 ha B hA fa=>QK (j:=1) (v3:=.v (.int (0:Nat))) (v4:=v4) (v5:=v5) (v6:=v6) (R:=[a.v]) (c:=c+8) hA (by decide) (Ac rfl) rfl B fun a2 x4 A2 v42 v52 v62 ha2 B hA2 fa2=>QK (j:=2) (v3:=.v (.int (1:Nat))) (v4:=v42) (v5:=v52) (v6:=v62) (R:=[a.v,a2.v]) (c:=c) hA2 (by decide) (Ac rfl) rfl B fun a3 x5 A3 v43 v53 v63 ha3 B hA3 fa3=>?_)
 ·
  have S:=q (n:=1) s2 rfl (by decide) (fa (l:=[]) fE)
  exact k ⟨b,a,[]⟩ x3 ⟨⟨ha.ok,(fun Z h=>nomatch h),Nat.zero_le _⟩,hA.o.le (by decide)⟩ B.lo0 (GS.eq hA (fG (cw "DELIMITED"<|cG s1<|cA h1<|cM [.list []]<|cL S<|cC rfl R0)))
 ·
  have S:=q (n:=2) s2 rfl (by decide) (fa (l:=[.int (1:Nat)]) (fa2 (l:=[]) fE))
  exact k ⟨b,a,[a2]⟩ x4 ⟨⟨ha.ok,(fun y h=>Ae.mp h▸ha2.ok),Ac rfl⟩,hA2.o.le (by decide)⟩ B.lo0 (GS.eq hA2 (fG (cw "DELIMITED"<|cG s1<|cA h1<|cM [.list []]<|cL S<|cC rfl R0)))
 ·
  have S:=q (n:=3) s2 rfl (by decide) (fa (l:=[.int (1:Nat),.int (2:Nat)]) (fa2 (l:=[.int (2:Nat)]) (fa3 (l:=[]) fE)))
  exact k ⟨b,a,[a2,a3]⟩ x5 ⟨⟨ha.ok,(fun y h=>(Ag.mp h).elim (fun e=>e▸ha2.ok) fun h=>Ae.mp h▸ha3.ok),Av _⟩,hA3.o.le (by decide)⟩ B (GS.eq hA3 (fG (cw "DELIMITED"<|cG s1<|cA h1<|cM [.list []]<|cL S<|cC rfl R0)))
noncomputable abbrev tI:List MS:=match Et.body.getD 3 .dead with
 | .forR _ _ _ b=>b
 | _=>[]
structure QC (d:Fg) (dm:Bool):Prop where
 ok:d.ok dm
 tk:Hv 52 d.tk
noncomputable def smE (E:Bu):Prop:=E=[]∨(∃ a,E=[.list a])∨∃ a b,E=[.list a,.list b]
theorem opO {w:Str} {o:AR} (hw:Ci w≤1000) (h:∀ x,o=some x→Oh x.2):Hv 18 (GU w o):=by
 cases o with
 | none=>exact Dl.nil.le (by decide)
 | some x=>exact(Em hw).o.then ((Eo (b:=x.1) (w:="IN")).then (h x rfl).tk)
theorem DN {A:List MV} {t:B2→B2} {n:Nat} {R:List MV} {c:Nat} {x:En} {G:Prop} {w2 w3 w4 w5 v8 v9 v10 v11 v12 v13:LV} {dm:Bool} {E:Bu} (hE:smE E) (hA:Dl n A t) (hn:n≤1000) (hR:R.length≤3) (B:D1 (c+22) x)
  (k:∀(d:Fg) x' A' v9' v10' v11' v12' v13',QC d dm→D1 c x'→Dl (n+52) A' (fun L=>t (d.tk L))→(∀ {m l ρ' x'' ls'},FS gF 6 (.var 8) tI l [.b,.v (.bool dm),w2,w3,w4,w5,.v (.lis A'),.l 0,.v m,v9',v10',v11',v12',v13',.un,.un,.un,.un,.un] x' (.list (R++[d.v])::(E++[.list [d.goal.tree,Zw d.dl,Zw d.ct]])) ρ' x'' ls'→FS gF 6 (.var 8) tI (m::l) [.b,.v (.bool dm),w2,w3,w4,w5,.v (.lis A),.l 0,v8,v9,v10,v11,v12,v13,.un,.un,.un,.un,.un] x (.list R::E) ρ' x'' ls')→G):G:=by
 refine Ip (c:=c+16) B fun g x1 hg B s1=>?_
 have h1:=hA.comp hg.tk
 have rg:∀(d1 d2:AR),(∀ x,d1=some x→Oh x.2)→(∀ x,d2=some x→Oh x.2)→(dm=false→d1=none∧d2=none)→QC ⟨g,d1,d2⟩ dm:=fun d1 d2 o1 o2 od=>⟨⟨hg.ok,fun x e=>(o1 x e).ok,fun x e=>(o2 x e).ok,od⟩,hg.tk.then ((opO Gp o1).then (opO Gp o2))⟩
 have sm:∀ {o:AR} {b:Bool} {d:Cl},o=some (b,d)→Oh d→∀ x,o=some x→Oh x.2:=fun e h=>e▸Ek h
 have nn:∀ x,(none:AR)=some x→Oh x.2:=Dd
 have ic:∀ {x:En} {ls:Bu} {es:List (Ev En)} (z:Fg),Af gF 6 x ls es→Af gF 6 x ls (.chk (Ap (R++[z.v]).length Cf)::es):=fun z al=>cC (Co 3 hR) al
 cases dm with
 | false=>
  refine k ⟨g,none,none⟩ x1 _ (.v (.lis (g.tk []))) (.v g.tree) (.l (1+E.length)) (.v (.str "COUNT")) v13 (rg _ _ nn nn fun Z=>⟨rfl,rfl⟩) B.lo0 (h1.le (Nat.le.intro (k:=36) rfl)) fun {m l ρ' x'' ls'} r=>?_
  have al:=fun(S0:Bu) (S:List MV→Bu)=>(cG (ls:=S0) s1<|ca 16 hn h1<|cC rfl<|cC rfl<|cC rfl<|ic ⟨g,none,none⟩ R0:Af gF 6 x S0 _)
  clear k
  rcases hE with rfl | ⟨a,rfl⟩ | ⟨a,b,rfl⟩
  · exact fT false (al [.list R] fun l=>[.list R,.list l]) r
  · exact fT false (al [.list R,.list a] fun l=>[.list R,.list a,.list l]) r
  · exact fT false (al [.list R,.list a,.list b] fun l=>[.list R,.list a,.list b,.list l]) r
 | true=>
  have op:∀ {c x},D1 (c+8) x→(∀ x1,GS 1 dF [.int (2:Nat)] x (.int (0:Nat)) x1→D1 (c+7) x1→G)→(∀ d x1 b x2 x3,Oh d→GS 1 dF [.int (2:Nat)] x (.int (1:Nat)) x1→GS 3 (.val (.ref 686)) [] x1 (pr d.tk d.tree) x2→GS 2 (.val (.ref 665)) [.str "IN"] x2 (.lis (ini b "IN" [])) x3→D1 c x3→G)→G:=fun {c x} B k0 k1=>
   Yc (c:=c+7) B (fun x1 B s=>k0 x1 s B) fun x1 B s=>Ip (c:=c+1) B fun d x2 hd B s2=>(E7 "IN") B fun b x3 Z B s3=>k1 d x1 b x2 x3 hd s s2 s3 B
  refine op (c:=c+8) B (fun x2 s2 B=>op (c:=c) B.lo0 (fun x3 s3 B=>?_) fun d2 x3 b2 x4 x5 hd2 s3 s4 s5 B=>?_) fun d x2 b x3 x4 hd s2 s3 s4 B=>op (c:=c) B (fun x5 s5 B=>?_) fun d2 x5 b2 x6 x7 hd2 s5 s6 s7 B=>?_
  ·
   refine k ⟨g,none,none⟩ x3 _ (.v (.lis (g.tk []))) (.v g.tree) (.l (1+E.length)) (.v (.str "COUNT")) v13 (rg _ _ nn nn fun h=>nt h) B.lo0 (h1.le (Nat.le.intro (k:=36) rfl)) fun {m l ρ' x'' ls'} r=>?_
   have al:=fun(S0:Bu) (S:List MV→Bu)=>(cG (ls:=S0) s1<|ca 16 hn h1<|cM (S [g.tree])<|cG s2<|cN<|cC rfl<|cM (S [g.tree,.none])<|cG s3<|cN<|cC rfl<|cC rfl<|ic ⟨g,none,none⟩ R0:Af gF 6 x S0 _)
   clear k
   rcases hE with rfl | ⟨a,rfl⟩ | ⟨a,b,rfl⟩
   · exact fT false (al [.list R] fun l=>[.list R,.list l]) r
   · exact fT false (al [.list R,.list a] fun l=>[.list R,.list a,.list l]) r
   · exact fT false (al [.list R,.list a,.list b] fun l=>[.list R,.list a,.list b,.list l]) r
  ·
   have h2:=h1.comp (Em (w:="COUNT"))
   have h3:=h2.comp (Eo (b:=b2) (w:="IN"))
   have h4:=h3.comp hd2.tk
   refine k ⟨g,none,some (b2,d2)⟩ x5 _ (.v (.lis (g.tk []))) (.v d2.tree) (.l (1+E.length)) (.v (.str "COUNT")) (.v (.lis (d2.tk []))) (rg _ _ nn (sm rfl hd2) fun h=>nt h) B (h4.le (Nat.le.intro (k:=18) rfl)) fun {m l ρ' x'' ls'} r=>?_
   have al:=fun(S0:Bu) (S:List MV→Bu)=>(cG (ls:=S0) s1<|ca 16 hn h1<|cM (S [g.tree])<|cG s2<|cN<|cC rfl<|cM (S [g.tree,.none])<|cG s3<|cY<|cG s4<|cw "COUNT"<|ca 17 hn h2<|cG s5<|ca 18 hn h3<|ca 34 hn h4<|cC rfl<|cC rfl<|ic ⟨g,none,some (b2,d2)⟩ R0:Af gF 6 x S0 _)
   clear k
   rcases hE with rfl | ⟨a,rfl⟩ | ⟨a,b,rfl⟩
   · exact fT false (al [.list R] fun l=>[.list R,.list l]) r
   · exact fT false (al [.list R,.list a] fun l=>[.list R,.list a,.list l]) r
   · exact fT false (al [.list R,.list a,.list b] fun l=>[.list R,.list a,.list b,.list l]) r
  ·
   have h2:=h1.comp (Em (w:="DELIMITER"))
   have h3:=h2.comp (Eo (b:=b) (w:="IN"))
   have h4:=h3.comp hd.tk
   refine k ⟨g,some (b,d),none⟩ x5 _ (.v (.lis (g.tk []))) (.v d.tree) (.l (1+E.length)) (.v (.str "COUNT")) (.v (.lis (d.tk []))) (rg _ _ (sm rfl hd) nn fun h=>nt h) B.lo0 (h4.le (Nat.le.intro (k:=18) rfl)) fun {m l ρ' x'' ls'} r=>?_
   have al:=fun(S0:Bu) (S:List MV→Bu)=>(cG (ls:=S0) s1<|ca 16 hn h1<|cM (S [g.tree])<|cG s2<|cY<|cG s3<|cw "DELIMITER"<|ca 17 hn h2<|cG s4<|ca 18 hn h3<|ca 34 hn h4<|cC rfl<|cM (S [g.tree,d.tree])<|cG s5<|cN<|cC rfl<|cC rfl<|ic ⟨g,some (b,d),none⟩ R0:Af gF 6 x S0 _)
   clear k
   rcases hE with rfl | ⟨a,rfl⟩ | ⟨a,b,rfl⟩
   · exact fT false (al [.list R] fun l=>[.list R,.list l]) r
   · exact fT false (al [.list R,.list a] fun l=>[.list R,.list a,.list l]) r
   · exact fT false (al [.list R,.list a,.list b] fun l=>[.list R,.list a,.list b,.list l]) r
  ·
   have h2:=h1.comp (Em (w:="DELIMITER"))
   have h3:=h2.comp (Eo (b:=b) (w:="IN"))
   have h4:=h3.comp hd.tk
   have h5:=h4.comp (Em (w:="COUNT"))
   have h6:=h5.comp (Eo (b:=b2) (w:="IN"))
   have h7:=h6.comp hd2.tk
   refine k ⟨g,some (b,d),some (b2,d2)⟩ x7 _ (.v (.lis (g.tk []))) (.v d2.tree) (.l (1+E.length)) (.v (.str "COUNT")) (.v (.lis (d2.tk []))) (rg _ _ (sm rfl hd) (sm rfl hd2) fun h=>nt h) B h7 fun {m l ρ' x'' ls'} r=>?_
   have al:=fun(S0:Bu) (S:List MV→Bu)=>(cG (ls:=S0) s1<|ca 16 hn h1<|cM (S [g.tree])<|cG s2<|cY<|cG s3<|cw "DELIMITER"<|ca 17 hn h2<|cG s4<|ca 18 hn h3<|ca 34 hn h4<|cC rfl<|cM (S [g.tree,d.tree])<|cG s5<|cY<|cG s6<|cw "COUNT"<|ca 35 hn h5<|cG s7<|ca 36 hn h6<|ca 52 hn h7<|cC rfl<|cC rfl<|ic ⟨g,some (b,d),some (b2,d2)⟩ R0:Af gF 6 x S0 _)
   clear k
   rcases hE with rfl | ⟨a,rfl⟩ | ⟨a,b,rfl⟩
   · exact fT false (al [.list R] fun l=>[.list R,.list l]) r
   · exact fT false (al [.list R,.list a] fun l=>[.list R,.list a,.list l]) r
   · exact fT false (al [.list R,.list a,.list b] fun l=>[.list R,.list a,.list b,.list l]) r
theorem rwO:∀ {l:List Fg},(∀ y∈l,Hv 52 y.tk)→Hv (52*l.length) (GW l)
 | [],_=>Dl.nil.le (by decide)
 | y::l,h=>Dl.le (n:=52+52*l.length) ((h y (.head _)).then (rwO fun z hz=>h z (.tail _ hz))) (by rw[Bf];omega)
theorem gE {A:List MV} {t:B2→B2} {n:Nat} {c:Nat} {x:En} {G:Prop} {w2 w3 w4 w5:LV} {dm:Bool} (hA:Dl n A t) (hn:n≤500) (B:D1 (c+67) x)
  (k:∀(d:Fg) (ds:List Fg) x' A' v8' v9' v10' v11' v12' v13' E,QC d dm→(∀ y∈ds,QC y dm)→ds.length≤2→D1 c x'→Dl (n+156) A' (fun L=>t (d.tk (GW ds L)))→SS gF 6 (Et.body.getD 3 .dead) [.b,.v (.bool dm),w2,w3,w4,w5,.v (.lis A),.l 0,.un,.un,.un,.un,.un,.un,.un,.un,.un,.un,.un] x [.list []] [.b,.v (.bool dm),w2,w3,w4,w5,.v (.lis A'),.l 0,v8',v9',v10',v11',v12',v13',.un,.un,.un,.un,.un] x' (.list (d.v::ds.map Fg.v)::E)→G):G:=by
 have q:∀ {e n:Nat} {x1 x2:En} {ρ':List LV} {ls':Bu},GS 1 dF [.int (3:Nat)] x (.int e) x1→n=1+e→n≤3→FS gF 6 (.var 8) tI (C5 0 n) [.b,.v (.bool dm),w2,w3,w4,w5,.v (.lis A),.l 0,.un,.un,.un,.un,.un,.un,.un,.un,.un,.un,.un] x1 [.list []] ρ' x2 ls'→
   SS gF 6 (Et.body.getD 3 .dead) [.b,.v (.bool dm),w2,w3,w4,w5,.v (.lis A),.l 0,.un,.un,.un,.un,.un,.un,.un,.un,.un,.un,.un] x [.list []] ρ' x2 ls':=fun {e n x1 x2 ρ' ls'} s hn h2 r=>by
  subst hn
  exact fO (Ad h2 (by decide)) (eR (φ:=gF) (K:=6) (a:=.v (.int (1+e:Nat))) (cG s R0)) r
 have first:=fun {c:Nat} {x1:En} (B:D1 (c+22) x1)=>DN (G:=G) (v8:=.un) (v9:=.un) (v10:=.un) (v11:=.un) (v12:=.un) (v13:=.un) (w2:=w2) (w3:=w3) (w4:=w4) (w5:=w5) (dm:=dm) (R:=[]) (E:=[]) (.inl rfl) hA (Ad hn (by decide)) (by decide) B
 have l2:n+52≤1000:=Ad (A7 hn 52) (Ac rfl)
 have l3:n+52+52≤1000:=Ad (A7 hn (52+52)) (Ac rfl)
 refine pS (c:=c+66) B (fun x1 B s1=>first (c:=c+44) B fun d x2 A1 a9 a10 a11 a12 a13 hd B h1 f1=>?_) (fun x1 B s1=>first (c:=c+44) B fun d x2 A1 a9 a10 a11 a12 a13 hd B h1 f1=>DN (v8:=.v (.int (0:Nat))) (v9:=a9) (v10:=a10) (v11:=a11) (v12:=a12) (v13:=a13) (w2:=w2) (w3:=w3) (w4:=w4) (w5:=w5) (dm:=dm) (E:=[.list [d.goal.tree,Zw d.dl,Zw d.ct]]) (R:=[d.v]) (c:=c+22) (.inr (.inl ⟨_,rfl⟩)) h1 l2 (Ac rfl) B fun d2 x3 A2 b9 b10 b11 b12 b13 hd2 B h2 f2=>?_)
  (fun x1 B s1=>first (c:=c+44) B fun d x2 A1 a9 a10 a11 a12 a13 hd B h1 f1=>DN (v8:=.v (.int (0:Nat))) (v9:=a9) (v10:=a10) (v11:=a11) (v12:=a12) (v13:=a13) (w2:=w2) (w3:=w3) (w4:=w4) (w5:=w5) (dm:=dm) (E:=[.list [d.goal.tree,Zw d.dl,Zw d.ct]]) (R:=[d.v]) (c:=c+22) (.inr (.inl ⟨_,rfl⟩)) h1 l2 (Ac rfl) B fun d2 x3 A2 b9 b10 b11 b12 b13 hd2 B h2 f2=>DN (v8:=.v (.int (1:Nat))) (v9:=b9) (v10:=b10) (v11:=b11) (v12:=b12) (v13:=b13) (w2:=w2) (w3:=w3) (w4:=w4) (w5:=w5) (dm:=dm) (E:=[.list [d.goal.tree,Zw d.dl,Zw d.ct],.list [d2.goal.tree,Zw d2.dl,Zw d2.ct]]) (R:=[d.v,d2.v]) (c:=c) (.inr (.inr ⟨_,_,rfl⟩)) h2 l3 (Ac rfl) B fun d3 x4 A3 c9 c10 c11 c12 c13 hd3 B h3 f3=>?_)
 · exact k d [] x2 A1 (.v (.int (0:Nat))) a9 a10 a11 a12 a13 _ hd (fun Z h=>nomatch h) (by decide) B.lo0 (h1.le (Nat.le.intro (k:=104) rfl)) (q (n:=1) s1 rfl (by decide) (f1 (m:=.int (0:Nat)) (l:=[]) fE))
 · exact k d [d2] x3 A2 (.v (.int (1:Nat))) b9 b10 b11 b12 b13 _ hd (fun y h=>Ae.mp h▸hd2) (Ac rfl) B.lo0 (h2.le (Nat.le.intro (k:=52) rfl)) (q (n:=2) s1 rfl (by decide) (f1 (m:=.int (0:Nat)) (l:=[.int (1:Nat)]) (f2 (m:=.int (1:Nat)) (l:=[]) fE)))
 · exact k d [d2,d3] x4 A3 (.v (.int (2:Nat))) c9 c10 c11 c12 c13 _ hd (fun y h=>(Ag.mp h).elim (fun e=>e▸hd2) fun h=>Ae.mp h▸hd3) (Ac rfl) B (h3.le (Nat.le.intro (k:=0) rfl)) (q (n:=3) s1 rfl (by decide) (f1 (m:=.int (0:Nat)) (l:=[.int (1:Nat),.int (2:Nat)]) (f2 (m:=.int (1:Nat)) (l:=[.int (2:Nat)]) (f3 (m:=.int (2:Nat)) (l:=[]) fE))))
noncomputable def Nm.t (d:Nm) (L:B2):B2:=tW "UNSTRING"::d.src.tk (Vu d.del (tW "INTO"::d.row.tk (GW d.rows (d.ptr.tk (GU "TALLYING" d.tal (d.br.tk (ini d.fin "END-UNSTRING" L)))))))
structure ZM (d:Nm):Prop where
 ok:d.ok
 tk:Hv 400 d.t
theorem XJ {dm:Bool}:Gn 7 (.val (.ref 750)) [.bool dm] 122 (fun d:Nm=>pr d.t d.tree) ZM:=fun {c x G} B k=>by
 refine Ip (c:=c+116) B fun s x1 hs B r1=>?_
 have g1:=(Em (w:="UNSTRING")).comp hs.tk
 have dl:(∀(del:Option Kb) x2,del.isSome=dm→(∀ d,del=some d→jZ d)→D1 (c+90) x2→(dm=true→∃ d,del=some d∧GS 6 (.val (.ref 743)) [] x1 (pr d.tk (.tup (d.f.v::d.l.map Q5.v))) x2)→(dm=false→x1=x2)→G)→G:=fun k=>by
  cases dm with
  | true=>exact lR (c:=c+90) B fun d x2 hd B s=>k (some d) x2 rfl (Ek hd) B (fun Z=>⟨d,rfl,s⟩) fun h=>nt h
  | false=>exact k none x1 rfl Dd B.lo (fun h=>ff h) fun Z=>rfl
 refine dl fun del x2 e hd B y1 y2=>?_
 have hdl:Hv 60 (Vu del):=by
  cases del with
  | none=>exact Dl.nil.le (by decide)
  | some d=>exact(hd d rfl).tk
 have g2:=g1.comp hdl
 have g3:=g2.comp (Em (w:="INTO"))
 refine gE (w2:=.v (.lis (s.tk []))) (w3:=.v s.tree) (w4:=.v (.lis (Vu del []))) (w5:=.v (.tup (ES del))) (dm:=dm) (c:=c+23) g3 (by decide) B fun d ds x3 A v8 v9 v10 v11 v12 v13 E hr hrs hl B g4 S=>?_
 have lr:Ap (d.v::ds.map Fg.v).length Cf=true:=bl (n:=3) (by rw[Bf,Am];exact Nat.succ_le_succ hl)
 refine XG (c:=c+15) B fun p x4 hp B r4=>?_
 have g5:=g4.comp hp.tk
 refine Yc (c:=c+14) B (fun x5 B r5=>JN (c:=c+1) (B.dn (Nat.le.intro (k:=7) rfl)) fun b x6 hb B r6=>(E7 "END-UNSTRING") B fun f x7 Z Bz r7=>?_) fun x5 B r5=>Ip (c:=c+8) B fun u x6 hu B r6=>(E7 "IN") (show D1 (c+7+1) x6 from B) fun ub x7 Z B r7=>JN (c:=c+1) B fun b x8 hb B r8=>(E7 "END-UNSTRING") B fun f x9 Z Bz r9=>?_
 ·
  have g6:=g5.comp hb.tk
  have g7:=g6.comp (Eo (b:=f) (w:="END-UNSTRING"))
  have T:=(cL S<|cG r4<|cA g5<|cG r5<|cN<|cG r6<|cC lr<|cA g6<|cG r7<|cA g7 R0:Af gF 6 x2 [.list []] _)
  have U:ZM ⟨s,del,d,ds,p,none,b,f⟩:=⟨⟨hs.ok,fun y h=>(hd y h).ok,e▸hr.ok,fun y h=>e▸(hrs y h).ok,hl,hp.ok,Dd⟩,g7.o.le (by decide)⟩
  cases dm with
  | true=>
   obtain⟨w,rfl,sd⟩:=y1 rfl
   exact k _ x7 U Bz (GS.eq g7 (fG (cG r1<|cG sd<|cw "UNSTRING"<|cA g1<|cA g2<|cw "INTO"<|cA g3<|cM [.list []] T)))
  | false=>
   cases y2 rfl
   cases del with
   | some w=>cases e
   | none=>exact k _ x7 U Bz (GS.eq g7 (fG (cG r1<|cw "UNSTRING"<|cA g1<|cA g2<|cw "INTO"<|cA g3<|cM [.list []] T)))
 ·
  have g6:=g5.comp (Em (w:="TALLYING"))
  have g7:=g6.comp (Eo (b:=ub) (w:="IN"))
  have g8:=g7.comp hu.tk
  have g9:=g8.comp hb.tk
  have g10:=g9.comp (Eo (b:=f) (w:="END-UNSTRING"))
  have T:=(cL S<|cG r4<|cA g5<|cG r5<|cY<|cG r6<|cw "TALLYING"<|cA g6<|cG r7<|cA g7<|cA g8<|cG r8<|cC lr<|cA g9<|cG r9<|cA g10 R0:Af gF 6 x2 [.list []] _)
  have U:ZM ⟨s,del,d,ds,p,some (ub,u),b,f⟩:=⟨⟨hs.ok,fun y h=>(hd y h).ok,e▸hr.ok,fun y h=>e▸(hrs y h).ok,hl,hp.ok,(Ek hu.ok)⟩,g10.o.le (by decide)⟩
  cases dm with
  | true=>
   obtain⟨w,rfl,sd⟩:=y1 rfl
   exact k _ x9 U Bz (GS.eq g10 (fG (cG r1<|cG sd<|cw "UNSTRING"<|cA g1<|cA g2<|cw "INTO"<|cA g3<|cM [.list []] T)))
  | false=>
   cases y2 rfl
   cases del with
   | some w=>cases e
   | none=>exact k _ x9 U Bz (GS.eq g10 (fG (cG r1<|cw "UNSTRING"<|cA g1<|cA g2<|cw "INTO"<|cA g3<|cM [.list []] T)))
noncomputable def N7:MS→List MS
 | .forR _ _ _ b=>b
 | _=>[]
noncomputable abbrev oQ:MS:=Iz.body.getD 1 .dead
noncomputable abbrev oR:MS:=(N7 oQ).getD 2 .dead
noncomputable abbrev qA:MS:=(N7 oR).getD 2 .dead
structure CrG (d:Su):Prop where
 ok:d.ok
 tk:Hv 52 d.tk
section
variable {A:List MV} {t:B2→B2} {n:Nat} {R:List MV} {c:Nat} {x:En} {G:Prop} {v4 v5 v6 v7 v8 v9 v10 v11:LV} {kd:Str} {N:MV}
theorem Ur (hk:(!Cb kd "CHARACTERS")=true) (hA:Dl n A t) (hn:n≤1000) (hR:R.length≤20) (B:D1 (c+24) x)
  (k:∀(d:Su) x' A' v4' v9' v10' v11',CrG d→D1 c x'→Dl (n+52) A' (fun L=>t (d.tk L))→(∀ {v3 v6:LV} {m l ρ' x'' ls'},FS gF 5 (.var 8) (N7 qA) l [.b,.v (.lis A'),.l 0,v3,v4',.v N,v6,.v (.str kd),.v m,v9',v10',v11'] x' [.list (R++[d.row N (.str kd)])] ρ' x'' ls'→FS gF 5 (.var 8) (N7 qA) (m::l) [.b,.v (.lis A),.l 0,v3,v4,.v N,v6,.v (.str kd),v8,v9,v10,v11] x [.list R] ρ' x'' ls')→G):G:=by
 refine J5 (c:=c+17) B fun u x1 hu B s1=>Wm B fun d x2 hd B s2=>?_
 have h1:=hA.comp hu.tk
 have h2:=h1.comp hd.tk
 exact k ⟨u,d⟩ x2 _ (.v (.lis (u.tk []))) (.v u.tree) (.v (.lis (d.tk []))) (.v (.tup [d.bef,d.aft])) ⟨⟨hu.ok,hd.ok⟩,hu.tk.then hd.tk⟩ B h2 fun {v3 v6 m l ρ' x'' ls'} r=>fT false (cD hk<|cG s1<|cG s2<|ca 16 hn h1<|ca 52 hn h2<|cC (t:=Ap (R++[Su.row N (.str kd) ⟨u,d⟩]).length Cf) (Co 20 hR) R0) r
structure TkG (d:J1):Prop where
 ok:d.ok
 tk:Hv 105 d.tk
theorem J1.rl {d:J1} {N:MV}:(d.rows N).length≤2:=by
 cases d with
 | chars b=>exact Ac rfl
 | cnt b c c2=>cases c2<;>exact Ac rfl
noncomputable abbrev kdL:List MV:=[.str "CHARACTERS",.str "ALL",.str "LEADING"]
theorem Z0 (hA:Dl n A t) (hn:n≤800) (hR:R.length≤18) (B:D1 (c+50) x)
  (k:∀(d:J1) x' A' v4' v7' v8' v9' v10' v11',TkG d→D1 c x'→Dl (n+105) A' (fun L=>t (d.tk L))→(∀ {v3:LV} {m l ρ' x'' ls'},FS gF 5 (.var 6) (N7 oR) l [.b,.v (.lis A'),.l 0,v3,v4',.v N,.v m,v7',v8',v9',v10',v11'] x' [.list (R++d.rows N)] ρ' x'' ls'→FS gF 5 (.var 6) (N7 oR) (m::l) [.b,.v (.lis A),.l 0,v3,v4,.v N,v6,v7,v8,v9,v10,v11] x [.list R] ρ' x'' ls')→G):G:=by
 have hn2:n≤1000:=Ad hn (by decide)
 have hn3:n+1≤1000:=Ad (Nat.succ_le_succ hn) (by decide)
 have hR2:R.length≤20:=Ad hR (by decide)
 refine Ja (l:=kdL) (c:=c+49) (by decide) (by decide) B fun kv x1 hd B s1=>?_
 have many:∀ b:Bool,GS 2 (.val (.ref 653)) [.lis kdL] x (.str (Nw b)) x1→G:=fun b s1=>by
  have hk:(!Cb (Nw b) "CHARACTERS")=true:=by cases b<;>kernel_rfl
  have hw:Ci (Nw b)≤1000:=by cases b<;>exact Gp
  have h1:=hA.comp (Em hw)
  have q:∀ {v3:LV} {e n:Nat} {m:MV} {x2 x3:En} {ρ':List LV} {ls':Bu},GS 1 dF [.int (2:Nat)] x1 (.int e) x2→n=1+e→n≤2→FS gF 5 (.var 8) (N7 qA) (C5 0 n) [.b,.v (.lis (A++[tW (Nw b)])),.l 0,v3,v4,.v N,.v m,.v (.str (Nw b)),v8,v9,v10,v11] x2 [.list R] ρ' x3 ls'→
    SS gF 5 qA [.b,.v (.lis (A++[tW (Nw b)])),.l 0,v3,v4,.v N,.v m,.v (.str (Nw b)),v8,v9,v10,v11] x1 [.list R] ρ' x3 ls':=fun {v3 e n m x1 x2 ρ' ls'} s hn h2 r=>by
   subst hn
   exact fO (Ad h2 (by decide)) (eR (φ:=gF) (K:=5) (a:=.v (.int (1+e:Nat))) (cD hk<|cG s R0)) r
  have ww:Jy (Nw b)=true:=by cases b<;>kernel_rfl
  refine Yc (c:=c+48) B (fun x2 B s2=>Ur (v4:=v4) (v8:=v8) (v9:=v9) (v10:=v10) (v11:=v11) (N:=N) (c:=c+24) hk h1 hn3 hR2 B fun d x3 A1 w4 w9 w10 w11 hd B h2 f1=>?_) fun x2 B s2=>Ur (v4:=v4) (v8:=v8) (v9:=v9) (v10:=v10) (v11:=v11) (N:=N) (c:=c+24) hk h1 hn3 hR2 B fun d x3 A1 w4 w9 w10 w11 hd B h2 f1=>
   Ur (v4:=w4) (v8:=.v (.int (0:Nat))) (v9:=w9) (v10:=w10) (v11:=w11) (N:=N) (c:=c) hk h2 (Ad (A7 hn (1+52)) (Ac rfl)) (Ad (la (X:=[d.row N (.str (Nw b))]) hR (Av 1)) (show 18+1≤20 by decide)) B fun d2 x4 A2 u4 u9 u10 u11 hd2 B h3 f2=>?_
  · exact k (.cnt b d none) x3 A1 w4 (.v (.str (Nw b))) (.v (.int (0:Nat))) w9 w10 w11 ⟨⟨hd.ok,Dd⟩,((Em hw).o.then hd.tk).le (by decide)⟩ B.lo0 (h2.le (Nat.le.intro (k:=52) rfl)) fun {v3 m l ρ' x'' ls'} r=>fT false (cG s1<|cw (Nw b) (ca 1 hn2 h1<|cL (q (v3:=v3) (m:=m) (n:=1) s2 rfl (by decide) (f1 (m:=.int (0:Nat)) (l:=[]) fE)) R0) ww) r
  · exact k (.cnt b d (some d2)) x4 A2 u4 (.v (.str (Nw b))) (.v (.int (1:Nat))) u9 u10 u11 ⟨⟨hd.ok,Ek hd2.ok⟩,((Em hw).o.then (hd.tk.then hd2.tk)).le (by decide)⟩ B (h3.le (Nat.le.intro (k:=0) rfl)) fun {v3 m l ρ' x'' ls'} r=>fT false (cG s1<|cw (Nw b) (ca 1 hn2 h1<|cL (q (v3:=v3) (m:=m) (n:=2) s2 rfl (by decide) (f1 (m:=.int (0:Nat)) (l:=[.int (1:Nat)]) (f2 (m:=.int (1:Nat)) (l:=[]) fE))) R0) ww) (FS.ls (Ak R [d.row N (.str (Nw b))] [d2.row N (.str (Nw b))]) r)
 rcases Ag.mp hd with rfl | hd
 ·
  refine Wm (c:=c+32) B fun d x2 hd B s2=>?_
  have h1:=hA.comp (Em (w:="CHARACTERS"))
  have h2:=h1.comp Dl.nil
  have h3:=h2.comp hd.tk
  exact k (.chars d) x2 _ (.v (.lis [])) (.v (.str "CHARACTERS")) (.v (.int (0:Nat))) (.v .none) (.v (.lis (d.tk []))) (.v (.tup [d.bef,d.aft])) ⟨hd.ok,(Em (w:="CHARACTERS")).o.then hd.tk|>.le (by decide)⟩ B.lo0 (h3.le (Nat.le.intro (k:=68) rfl)) fun {v3 m l ρ' x'' ls'} r=>fT true (cG s1<|cw "CHARACTERS"<|ca 1 hn2 h1<|cN<|cN<|cG s2<|ca 1 hn2 h2<|ca 37 hn2 h3<|cC (t:=Ap (R++[MV.tup [N,.str "CHARACTERS",.none,d.bef,d.aft]]).length Cf) (Co 20 hR2) R0) r
 rcases Ag.mp hd with rfl | hd
 · exact many false s1
 ·
  cases Ae.mp hd
  exact many true s1
theorem Fh.rl {d:Fh}:d.rows.length≤4:=by
 unfold Fh.rows
 cases d.k2 with
 | none=>exact la J1.rl (m:=2) (Nat.zero_le _)
 | some k=>exact la J1.rl (J1.rl (d:=k))
structure TaG (d:Fh):Prop where
 ok:d.ok
 tk:Hv 227 d.tk
theorem PF (hA:Dl n A t) (hn:n≤500) (hR:R.length≤14) (B:D1 (c+107) x)
  (k:∀(d:Fh) x' A' v4' v6' v7' v8' v9' v10' v11',TaG d→D1 c x'→Dl (n+227) A' (fun L=>t (d.tk L))→(∀ {m l ρ' x'' ls'},FS gF 5 (.var 3) (N7 oQ) l [.b,.v (.lis A'),.l 0,.v m,v4',.v d.goal.tree,v6',v7',v8',v9',v10',v11'] x' [.list (R++d.rows)] ρ' x'' ls'→∀ {v3},FS gF 5 (.var 3) (N7 oQ) (m::l) [.b,.v (.lis A),.l 0,v3,v4,v5,v6,v7,v8,v9,v10,v11] x [.list R] ρ' x'' ls')→G):G:=by
 refine Ip (c:=c+101) B fun g x1 hg B s1=>?_
 have h1:=hA.comp hg.tk
 have h2:=h1.comp (Em (w:="FOR"))
 have hn2:n≤1000:=Ad hn (by decide)
 have l1:n+16+1≤800:=Ad (A7 hn (16+1)) (Ac rfl)
 have q:∀ {m:MV} {e k:Nat} {x2 x3:En} {ρ':List LV} {ls':Bu},GS 1 dF [.int (2:Nat)] x1 (.int e) x2→k=1+e→k≤2→FS gF 5 (.var 6) (N7 oR) (C5 0 k) [.b,.v (.lis ((A++g.tk [])++[tW "FOR"])),.l 0,.v m,.v (.lis (g.tk [])),.v g.tree,v6,v7,v8,v9,v10,v11] x2 [.list R] ρ' x3 ls'→
   SS gF 5 oR [.b,.v (.lis ((A++g.tk [])++[tW "FOR"])),.l 0,.v m,.v (.lis (g.tk [])),.v g.tree,v6,v7,v8,v9,v10,v11] x1 [.list R] ρ' x3 ls':=fun {m e k x1 x2 ρ' ls'} s hn h2 r=>by
  subst hn
  exact fO (Ad h2 (by decide)) (eR (φ:=gF) (K:=5) (a:=.v (.int (1+e:Nat))) (cG s R0)) r
 refine Yc (c:=c+100) B (fun x2 B s2=>Z0 (v4:=.v (.lis (g.tk []))) (v6:=v6) (v7:=v7) (v8:=v8) (v9:=v9) (v10:=v10) (v11:=v11) (N:=g.tree) (R:=R) (c:=c+50) h2 l1 (Ad hR (by decide)) B fun d x3 A1 w4 w7 w8 w9 w10 w11 hd B h3 f1=>?_) fun x2 B s2=>Z0 (v4:=.v (.lis (g.tk []))) (v6:=v6) (v7:=v7) (v8:=v8) (v9:=v9) (v10:=v10) (v11:=v11) (N:=g.tree) (R:=R) (c:=c+50) h2 l1 (Ad hR (by decide)) B fun d x3 A1 w4 w7 w8 w9 w10 w11 hd B h3 f1=>
  Z0 (v4:=w4) (v6:=.v (.int (0:Nat))) (v7:=w7) (v8:=w8) (v9:=w9) (v10:=w10) (v11:=w11) (N:=g.tree) (R:=R++d.rows g.tree) (c:=c) h3 (Ad (A7 hn (16+1+105)) (Ac rfl)) (Ad (la hR J1.rl) (by decide)) B fun d2 x4 A2 u4 u7 u8 u9 u10 u11 hd2 B h4 f2=>?_
 · exact k ⟨g,d,none⟩ x3 A1 w4 (.v (.int (0:Nat))) w7 w8 w9 w10 w11 ⟨⟨hg.ok,hd.ok,Dd⟩,(hg.tk.then ((Em (w:="FOR")).o.then hd.tk)).le (by decide)⟩ B.lo0 (h3.le (Nat.le.intro (k:=105) rfl)) fun {m l ρ' x'' ls'} r {v3}=>fT false (cG s1<|ca 16 hn2 h1<|cw "FOR"<|ca 17 hn2 h2<|cL (q (m:=m) (k:=1) s2 rfl (by decide) (f1 (m:=.int (0:Nat)) (l:=[]) fE)) R0) (FS.ls (congrArg (R++ ·) (Aj (d.rows g.tree)).symm) r)
 · exact k ⟨g,d,some d2⟩ x4 A2 u4 (.v (.int (1:Nat))) u7 u8 u9 u10 u11 ⟨⟨hg.ok,hd.ok,Ek hd2.ok⟩,(hg.tk.then ((Em (w:="FOR")).o.then (hd.tk.then hd2.tk))).le (by decide)⟩ B (h4.le (Nat.le.intro (k:=0) rfl)) fun {m l ρ' x'' ls'} r {v3}=>fT false (cG s1<|ca 16 hn2 h1<|cw "FOR"<|ca 17 hn2 h2<|cL (q (m:=m) (k:=2) s2 rfl (by decide) (f1 (m:=.int (0:Nat)) (l:=[.int (1:Nat)]) (f2 (m:=.int (1:Nat)) (l:=[]) fE))) R0) (FS.ls (Ak R (d.rows g.tree) (d2.rows g.tree)) r)
end
structure qS (d:Fh×Option Fh):Prop where
 ok:iN d.1 d.2
 tk:Hv 454 fun L=>d.1.tk (iM d.2 L)
theorem XI:Gn 6 (.val (.ref 757)) [] 215 (fun d:Fh×Option Fh=>pr (fun L=>d.1.tk (iM d.2 L)) (.tup (d.1.rows++oS d.2))) qS:=fun {c x G} B k=>by
 have q:∀ {e n:Nat} {x1 x2:En} {ρ':List LV} {ls':Bu},GS 1 dF [.int (2:Nat)] x (.int e) x1→n=1+e→n≤2→FS gF 5 (.var 3) (N7 oQ) (C5 0 n) [.b,.v (.lis []),.l 0,.un,.un,.un,.un,.un,.un,.un,.un,.un] x1 [.list []] ρ' x2 ls'→
   SS gF 5 oQ [.b,.v (.lis []),.l 0,.un,.un,.un,.un,.un,.un,.un,.un,.un] x [.list []] ρ' x2 ls':=fun {e n x1 x2 ρ' ls'} s hn h2 r=>by
  subst hn
  exact fO (Ad h2 (by decide)) (eR (φ:=gF) (K:=5) (a:=.v (.int (1+e:Nat))) (cG s R0)) r
 have first:=fun {c:Nat} {x1:En} (B:D1 (c+107) x1)=>PF (G:=G) (v4:=.un) (v5:=.un) (v6:=.un) (v7:=.un) (v8:=.un) (v9:=.un) (v10:=.un) (v11:=.un) (R:=[]) Dl.nil (by decide) (by decide) B
 refine Yc (c:=c+214) B (fun x1 B s1=>first (c:=c+107) B fun d x2 A v4 v6 v7 v8 v9 v10 v11 hd B h1 f1=>?_) fun x1 B s1=>first (c:=c+107) B fun d x2 A v4 v6 v7 v8 v9 v10 v11 hd B h1 f1=>PF (v4:=v4) (v5:=.v d.goal.tree) (v6:=v6) (v7:=v7) (v8:=v8) (v9:=v9) (v10:=v10) (v11:=v11) (R:=d.rows) (c:=c) h1 (by decide) (Ad Fh.rl (by decide)) B fun d2 x3 A2 u4 u6 u7 u8 u9 u10 u11 hd2 B h2 f2=>?_
 · refine k ⟨d,none⟩ x2 ⟨⟨hd.ok,Dd⟩,hd.tk.le (by decide)⟩ B.lo0 (GS.eq2 (w:=.tup d.rows) h1 (congrArg MV.tup (Aj d.rows)) (fG (cM [.list []]<|cL (q (n:=1) s1 rfl (by decide) (f1 (m:=.int (0:Nat)) (l:=[]) fE))<|cC (bl (Fh.rl (d:=d))) R0)))
 · exact k ⟨d,some d2⟩ x3 ⟨⟨hd.ok,Ek hd2.ok⟩,hd.tk.then hd2.tk⟩ B (GS.eq h2 (fG (cM [.list []]<|cL (q (n:=2) s1 rfl (by decide) (f1 (m:=.int (0:Nat)) (l:=[.int (1:Nat)]) (f2 (m:=.int (1:Nat)) (l:=[]) fE)))<|cC (bl (la (Fh.rl (d:=d)) (Fh.rl (d:=d2)))) R0)))
noncomputable abbrev nN:MS:=Il.body.getD 1 .dead
noncomputable abbrev pV:MS:=(N7 nN).getD 2 .dead
structure ExG (d:M5):Prop where
 ok:d.ok
 tk:Hv 69 d.tk
section
variable {A:List MV} {t:B2→B2} {n:Nat} {R:List MV} {c:Nat} {x:En} {G:Prop} {v4 v5 v6 v7 v8 v9 v10 v11:LV} {kd:Str}
theorem Qq (hk:(!Cb kd "CHARACTERS")=true) (hA:Dl n A t) (hn:n≤900) (hR:R.length≤20) (B:D1 (c+31) x)
  (k:∀(d:M5) x' A' v6' v7' v8' v9' v10' v11',ExG d→d.o.isSome=true→D1 c x'→Dl (n+69) A' (fun L=>t (d.tk L))→(∀ {v3:LV} {m l ρ' x'' ls'},FS gF 5 (.var 5) (N7 pV) l [.b,.v (.lis A'),.l 0,v3,.v (.str kd),.v m,v6',v7',v8',v9',v10',v11'] x' [.list (R++[d.v kd])] ρ' x'' ls'→FS gF 5 (.var 5) (N7 pV) (m::l) [.b,.v (.lis A),.l 0,v3,.v (.str kd),v5,v6,v7,v8,v9,v10,v11] x [.list R] ρ' x'' ls')→G):G:=by
 have hn2:n≤1000:=Ad hn (by decide)
 refine J5 (c:=c+24) B fun u x1 hu B s1=>(bA (o:=some u) fun y e=>by cases e;exact hu.sh) (show D1 (c+17+7) x1 from B) fun b x2 hb B s2=>Wm B fun d x3 hd B s3=>?_
 have h1:=hA.comp hu.tk
 have h2:=h1.comp (Em (w:="BY"))
 have h3:=h2.comp hb.1.tk
 have h4:=h3.comp hd.tk
 exact k ⟨some u,b,d⟩ x3 _ (.v (.lis (u.tk []))) (.v u.tree) (.v (.lis (b.tk []))) (.v b.tree) (.v (.lis (d.tk []))) (.v (.tup [d.bef,d.aft])) ⟨⟨Ek hu.ok,hb.1.ok,hd.ok,hb.2,hb.1.short,fun y e=>by cases e;exact hu.short⟩,hu.tk.then ((Em (w:="BY")).o.then (hb.1.tk.then hd.tk))⟩ rfl B h4 fun {v3 m l ρ' x'' ls'} r=>fT false (cD hk<|cG s1<|cG (as:=[oV (some u)]) s2<|cG s3<|ca 16 hn2 h1<|cw "BY"<|ca 17 hn2 h2<|ca 33 hn2 h3<|ca 69 hn2 h4<|cC (t:=Ap (R++[M5.v kd ⟨some u,b,d⟩]).length Cf) (Co 20 hR) R0) r
structure qN (d:F0):Prop where
 ok:d.ok
 tk:Hv 139 d.tk
theorem F0.rl {d:F0}:d.rows.length≤2:=by
 unfold F0.rows
 cases d.e2<;>exact Ac rfl
noncomputable abbrev reL:List MV:=[.str "CHARACTERS",.str "ALL",.str "LEADING",.str "FIRST"]
theorem N8 (hA:Dl n A t) (hn:n≤500) (hR:R.length≤18) (B:D1 (c+64) x)
  (k:∀(d:F0) x' A' v4' v5' v6' v7' v8' v9' v10' v11',qN d→D1 c x'→Dl (n+139) A' (fun L=>t (d.tk L))→(∀ {m l ρ' x'' ls'},FS gF 5 (.var 3) (N7 nN) l [.b,.v (.lis A'),.l 0,.v m,v4',v5',v6',v7',v8',v9',v10',v11'] x' [.list (R++d.rows)] ρ' x'' ls'→∀ {v3},FS gF 5 (.var 3) (N7 nN) (m::l) [.b,.v (.lis A),.l 0,v3,v4,v5,v6,v7,v8,v9,v10,v11] x [.list R] ρ' x'' ls')→G):G:=by
 have hn2:n≤1000:=Ad hn (by decide)
 have hn3:n+1≤900:=Ad (Nat.succ_le_succ hn) (by decide)
 have hR2:R.length≤20:=Ad hR (by decide)
 refine Ja (l:=reL) (c:=c+63) (by decide) (by decide) B fun kv x1 hd B s1=>?_
 have many:∀ b:RK,b≠ .c→GS 2 (.val (.ref 653)) [.lis reL] x (.str b.w) x1→G:=fun b nb s1=>by
  have hk:(!Cb b.w "CHARACTERS")=true:=by cases b<;>first | exact(nb rfl).elim | kernel_rfl
  have hw:Ci b.w≤1000:=by cases b<;>exact Gp
  have ww:Jy b.w=true:=by cases b<;>kernel_rfl
  have hk2:Cb b.w "CHARACTERS"=false:=by rw[Bool.not_eq_true'] at hk;exact hk
  have hko:∀ {o:Option Cq},o.isSome=true→Cb b.w "CHARACTERS"=o.isNone:=fun {o} h=>by
   rw[hk2]
   cases o with
   | none=>cases h
   | some t=>rfl
  have h1:=hA.comp (Em hw)
  have q:∀ {m:MV} {e n:Nat} {x2 x3:En} {ρ':List LV} {ls':Bu},GS 1 dF [.int (2:Nat)] x1 (.int e) x2→n=1+e→n≤2→FS gF 5 (.var 5) (N7 pV) (C5 0 n) [.b,.v (.lis (A++[tW b.w])),.l 0,.v m,.v (.str b.w),v5,v6,v7,v8,v9,v10,v11] x2 [.list R] ρ' x3 ls'→
    SS gF 5 pV [.b,.v (.lis (A++[tW b.w])),.l 0,.v m,.v (.str b.w),v5,v6,v7,v8,v9,v10,v11] x1 [.list R] ρ' x3 ls':=fun {m e n x1 x2 ρ' ls'} s hn h2 r=>by
   subst hn
   exact fO (Ad h2 (by decide)) (eR (φ:=gF) (K:=5) (a:=.v (.int (1+e:Nat))) (cD hk<|cG s R0)) r
  refine Yc (c:=c+62) B (fun x2 B s2=>Qq (v5:=v5) (v6:=v6) (v7:=v7) (v8:=v8) (v9:=v9) (v10:=v10) (v11:=v11) (c:=c+31) hk h1 hn3 hR2 B fun d x3 A1 w6 w7 w8 w9 w10 w11 hd ho B h2 f1=>?_) fun x2 B s2=>Qq (v5:=v5) (v6:=v6) (v7:=v7) (v8:=v8) (v9:=v9) (v10:=v10) (v11:=v11) (c:=c+31) hk h1 hn3 hR2 B fun d x3 A1 w6 w7 w8 w9 w10 w11 hd ho B h2 f1=>
   Qq (v5:=.v (.int (0:Nat))) (v6:=w6) (v7:=w7) (v8:=w8) (v9:=w9) (v10:=w10) (v11:=w11) (c:=c) hk h2 (Ad (A7 hn (1+69)) (Ac rfl)) (Ad (la (X:=[d.v b.w]) hR (Av 1)) (show 18+1≤20 by decide)) B fun d2 x4 A2 u6 u7 u8 u9 u10 u11 hd2 ho2 B h3 f2=>?_
  · exact k ⟨b,d,none⟩ x3 A1 (.v (.str b.w)) (.v (.int (0:Nat))) w6 w7 w8 w9 w10 w11 ⟨⟨hd.ok,Dd,hko ho,fun Z=>rfl⟩,((Em hw).o.then hd.tk).le (by decide)⟩ B.lo0 (h2.le (Nat.le.intro (k:=69) rfl)) fun {m l ρ' x'' ls'} r {v3}=>fT false (cG s1<|cw b.w (ca 1 hn2 h1<|cL (q (m:=m) (n:=1) s2 rfl (by decide) (f1 (m:=.int (0:Nat)) (l:=[]) fE)) R0) ww) r
  · exact k ⟨b,d,some d2⟩ x4 A2 (.v (.str b.w)) (.v (.int (1:Nat))) u6 u7 u8 u9 u10 u11 ⟨⟨hd.ok,(fun y e=>by cases e;exact⟨hd2.ok,ho2⟩),hko ho,fun e=>(nb e).elim⟩,(Em hw).o.then (hd.tk.then hd2.tk)⟩ B h3 fun {m l ρ' x'' ls'} r {v3}=>fT false (cG s1<|cw b.w (ca 1 hn2 h1<|cL (q (m:=m) (n:=2) s2 rfl (by decide) (f1 (m:=.int (0:Nat)) (l:=[.int (1:Nat)]) (f2 (m:=.int (1:Nat)) (l:=[]) fE))) R0) ww) (FS.ls (Ak R [d.v b.w] [d2.v b.w]) r)
 rcases Ag.mp hd with rfl | hd
 ·
  refine(bA (o:=none) Dd) (show D1 (c+56+7) x1 from B) fun b x2 hb B s2=>Wm (c:=c+39) B fun d x3 hd B s3=>?_
  have h1:=hA.comp (Em (w:="CHARACTERS"))
  have h2:=h1.comp Dl.nil
  have h3:=h2.comp (Em (w:="BY"))
  have h4:=h3.comp hb.1.tk
  have h5:=h4.comp hd.tk
  exact k ⟨.c,⟨none,b,d⟩,none⟩ x3 _ (.v (.str "CHARACTERS")) (.v (.int (0:Nat))) (.v (.lis [])) (.v .none) (.v (.lis (b.tk []))) (.v b.tree) (.v (.lis (d.tk []))) (.v (.tup [d.bef,d.aft])) ⟨⟨⟨Dd,hb.1.ok,hd.ok,hb.2,hb.1.short,Dd⟩,Dd,by kernel_rfl,fun Z=>rfl⟩,((Em (w:="CHARACTERS")).o.then ((Em (w:="BY")).o.then (hb.1.tk.then hd.tk))).le (by decide)⟩ B.lo0 (h5.le (Nat.le.intro (k:=85) rfl)) fun {m l ρ' x'' ls'} r {v3}=>fT true (cG s1<|cw "CHARACTERS"<|ca 1 hn2 h1<|cN<|cN<|cG (as:=[oV none]) s2<|cG s3<|ca 1 hn2 h2<|cw "BY"<|ca 2 hn2 h3<|ca 18 hn2 h4<|ca 54 hn2 h5<|cC (t:=Ap (R++[M5.v "CHARACTERS" ⟨none,b,d⟩]).length Cf) (Co 20 hR2) R0) r
 rcases Ag.mp hd with rfl | hd
 · exact many .a (fun h=>nomatch h) s1
 rcases Ag.mp hd with rfl | hd
 · exact many .l (fun h=>nomatch h) s1
 ·
  cases Ae.mp hd
  exact many .f (fun h=>nomatch h) s1
end
theorem reO:∀ {l:List F0},(∀ y∈l,qN y)→Hv (139*l.length) (DG l)
 | [],_=>Dl.nil.le (by decide)
 | y::l,h=>Dl.le (n:=139+139*l.length) ((h y (.head _)).tk.then (reO fun z hz=>h z (.tail _ hz))) (by rw[Bf];omega)
structure qP (d:F0×List F0):Prop where
 ok:fW d.1 d.2
 tk:Hv 417 (DG (d.1::d.2))
theorem XH:Gn 6 (.val (.ref 764)) [] 193 (fun d:F0×List F0=>pr (DG (d.1::d.2)) (.tup (GV (d.1::d.2)))) qP:=fun {c x G} B k=>by
 have q:∀ {e n:Nat} {x1 x2:En} {ρ':List LV} {ls':Bu},GS 1 dF [.int (3:Nat)] x (.int e) x1→n=1+e→n≤3→FS gF 5 (.var 3) (N7 nN) (C5 0 n) [.b,.v (.lis []),.l 0,.un,.un,.un,.un,.un,.un,.un,.un,.un] x1 [.list []] ρ' x2 ls'→
   SS gF 5 nN [.b,.v (.lis []),.l 0,.un,.un,.un,.un,.un,.un,.un,.un,.un] x [.list []] ρ' x2 ls':=fun {e n x1 x2 ρ' ls'} s hn h2 r=>by
  subst hn
  exact fO (Ad h2 (by decide)) (eR (φ:=gF) (K:=5) (a:=.v (.int (1+e:Nat))) (cG s R0)) r
 have first:=fun {c:Nat} {x1:En} (B:D1 (c+64) x1)=>N8 (G:=G) (v4:=.un) (v5:=.un) (v6:=.un) (v7:=.un) (v8:=.un) (v9:=.un) (v10:=.un) (v11:=.un) (R:=[]) Dl.nil (by decide) (by decide) B
 have fin:∀ {d:F0} {l:List F0} {x':En} {A V:List MV} {n:Nat},Dl n A (DG (d::l))→n≤417→l.length≤2→(∀ y∈d::l,qN y)→D1 c x'→GV (d::l)=V→GS 6 (.val (.ref 764)) [] x (.tup [.lis A,.tup V]) x'→G:=fun h hn hl ho B e s=>k ⟨_,_⟩ _ ⟨⟨fun y hy=>(ho y hy).ok,hl⟩,h.o.le hn⟩ B (GS.eq2 h (congrArg MV.tup e) s)
 refine pS (c:=c+192) B (fun x1 B s1=>first (c:=c+128) B fun d x2 A v4 v5 v6 v7 v8 v9 v10 v11 hd B h1 f1=>?_) (fun x1 B s1=>first (c:=c+128) B fun d x2 A v4 v5 v6 v7 v8 v9 v10 v11 hd B h1 f1=>N8 (v4:=v4) (v5:=v5) (v6:=v6) (v7:=v7) (v8:=v8) (v9:=v9) (v10:=v10) (v11:=v11) (R:=d.rows) (c:=c+64) h1 (by decide) (Ad F0.rl (by decide)) B fun d2 x3 A2 u4 u5 u6 u7 u8 u9 u10 u11 hd2 B h2 f2=>?_)
  (fun x1 B s1=>first (c:=c+128) B fun d x2 A v4 v5 v6 v7 v8 v9 v10 v11 hd B h1 f1=>N8 (v4:=v4) (v5:=v5) (v6:=v6) (v7:=v7) (v8:=v8) (v9:=v9) (v10:=v10) (v11:=v11) (R:=d.rows) (c:=c+64) h1 (by decide) (Ad F0.rl (by decide)) B fun d2 x3 A2 u4 u5 u6 u7 u8 u9 u10 u11 hd2 B h2 f2=>N8 (v4:=u4) (v5:=u5) (v6:=u6) (v7:=u7) (v8:=u8) (v9:=u9) (v10:=u10) (v11:=u11) (R:=d.rows++d2.rows) (c:=c) h2 (by decide) (Ad (la F0.rl F0.rl) (by decide)) B fun d3 x4 A3 w4 w5 w6 w7 w8 w9 w10 w11 hd3 B h3 f3=>?_)
 · exact fin (d:=d) (l:=[]) h1 (by decide) (by decide) (fun y h=>Ae.mp h▸hd) B.lo0 (Aj d.rows) (fG (cM [.list []]<|cL (q (n:=1) s1 rfl (by decide) (f1 (m:=.int (0:Nat)) (l:=[]) fE))<|cC (bl (F0.rl (d:=d))) R0))
 · exact fin (d:=d) (l:=[d2]) h2 (by decide) (Ac rfl) (fun y h=>(Ag.mp h).elim (fun e=>e▸hd) fun h=>Ae.mp h▸hd2) B.lo0 (congrArg (d.rows++ ·) (Aj d2.rows)) (fG (cM [.list []]<|cL (q (n:=2) s1 rfl (by decide) (f1 (m:=.int (0:Nat)) (l:=[.int (1:Nat)]) (f2 (m:=.int (1:Nat)) (l:=[]) fE)))<|cC (bl (la (F0.rl (d:=d)) (F0.rl (d:=d2)))) R0))
 · exact fin (d:=d) (l:=[d2,d3]) h3 (by decide) (Ac rfl) (fun y h=>(Ag.mp h).elim (fun e=>e▸hd) fun h=>(Ag.mp h).elim (fun e=>e▸hd2) fun h=>Ae.mp h▸hd3) B (by show d.rows++(d2.rows++(d3.rows++[]))=d.rows++d2.rows++d3.rows;rw[Aj,Ak]) (fG (cM [.list []]<|cL (q (n:=3) s1 rfl (by decide) (f1 (m:=.int (0:Nat)) (l:=[.int (1:Nat),.int (2:Nat)]) (f2 (m:=.int (1:Nat)) (l:=[.int (2:Nat)]) (f3 (m:=.int (2:Nat)) (l:=[]) fE))))<|cC (bl (la (la (F0.rl (d:=d)) (F0.rl (d:=d2))) (F0.rl (d:=d3)))) R0))
noncomputable def Og.t (d:Og) (L:B2):B2:=tW "INSPECT"::d.g.tk (d.b.tk L)
structure kC (d:Og):Prop where
 g:d.g.ok
 b:d.b.ok
 tk:Hv 900 d.t
theorem BN {f:Nat} (hf:f < 4):Gn 7 (.val (.ref 771)) [.int f] 414 (fun d:Og=>pr d.t d.tree) kC:=fun {c x G} B k=>by
 refine Ip (c:=c+408) B fun g x1 hg B s1=>?_
 have h1:=(Em (w:="INSPECT")).comp hg.tk
 refine Nh.of (P:=fun f=>(∀(d:Og) x',kC d→D1 c x'→GS 7 (.val (.ref 771)) [.int (f:Nat)] x (pr d.t d.tree) x'→G)→G) (n:=4) ⟨fun k=>?_,fun k=>?_,fun k=>?_,fun k=>?_,trivial⟩ hf k
 ·
  refine J5 (c:=c+401) B fun u x2 hu B s2=>(bA (o:=some u) fun y e=>by cases e;exact hu.sh) (show D1 (c+394+7) x2 from B) fun b x3 hb B s3=>Wm (c:=c+377) B fun d x4 hd B s4=>?_
  have h2:=h1.comp (Em (w:="CONVERTING"))
  have h3:=h2.comp hu.tk
  have h4:=h3.comp (Em (w:="TO"))
  have h5:=h4.comp hb.1.tk
  have h6:=h5.comp hd.tk
  exact k ⟨g,.conv u b d⟩ x4 ⟨hg.ok,⟨hu.ok,hb.1.ok,hd.ok,hb.2,hb.1.short,hu.short⟩,h6.o.le (by decide)⟩ B.lo0 (GS.eq h6 (fG (cG s1<|cw "INSPECT"<|cA h1<|cY<|cG s2<|cG (as:=[oV (some u)]) s3<|cG s4<|cw "CONVERTING"<|cA h2<|cA h3<|cw "TO"<|cA h4<|cA h5<|cA h6 R0)))
 ·
  refine XI (c:=c+193) B fun d x2 hd B s2=>XH (c:=c) B fun e x3 he B s3=>?_
  have h2:=h1.comp (Em (w:="TALLYING"))
  have h3:=h2.comp hd.tk
  have h4:=h3.comp (Em (w:="REPLACING"))
  have h5:=h4.comp he.tk
  exact k ⟨g,.both d.1 d.2 e.1 e.2⟩ x3 ⟨hg.ok,⟨hd.ok,he.ok⟩,h5.o.le (by decide)⟩ B (GS.eq h5 (fG (cG s1<|cw "INSPECT"<|cA h1<|cN<|cN<|cG s2<|cw "TALLYING"<|cA h2<|cA h3<|cN<|cG s3<|cw "REPLACING"<|cA h4<|cA h5 R0)))
 ·
  refine XH (c:=c+215) B fun d x2 hd B s2=>?_
  have h2:=h1.comp (Em (w:="REPLACING"))
  have h3:=h2.comp hd.tk
  exact k ⟨g,.rep d.1 d.2⟩ x2 ⟨hg.ok,hd.ok,h3.o.le (by decide)⟩ B.lo0 (GS.eq h3 (fG (cG s1<|cw "INSPECT"<|cA h1<|cN<|cY<|cG s2<|cw "REPLACING"<|cA h2<|cA h3 R0)))
 ·
  refine XI (c:=c+193) B fun d x2 hd B s2=>?_
  have h2:=h1.comp (Em (w:="TALLYING"))
  have h3:=h2.comp hd.tk
  exact k ⟨g,.tal d.1 d.2⟩ x2 ⟨hg.ok,hd.ok,h3.o.le (by decide)⟩ B.lo0 (GS.eq h3 (fG (cG s1<|cw "INSPECT"<|cA h1<|cN<|cN<|cG s2<|cw "TALLYING"<|cA h2<|cA h3<|cY R0)))
noncomputable def EL.t:EL→B2→B2
 | .s d=>d.t
 | .u d=>d.t
 | .i d=>d.t
structure StG (d:EL):Prop where
 ok:d.ok
 tk:Hv 900 d.t
theorem bB {f:Nat} (hf:f < 7):Gn 8 (.val (.ref 778)) [.int f] 414 (fun d:EL=>pr d.t d.tree) StG:=fun {c x G} B k=>by
 exact Nh.of (P:=fun f=>(∀(d:EL) x',StG d→D1 c x'→GS 8 (.val (.ref 778)) [.int (f:Nat)] x (pr d.t d.tree) x'→G)→G) (n:=7) ⟨
  fun k=>BN (f:=3) (by decide) B fun d x1 hd B s1=>k (.i d) x1 ⟨⟨hd.g,hd.b⟩,hd.tk⟩ B (fG (cN<|cN<|cG s1 R0)),
  fun k=>BN (f:=2) (by decide) B fun d x1 hd B s1=>k (.i d) x1 ⟨⟨hd.g,hd.b⟩,hd.tk⟩ B (fG (cN<|cN<|cG s1 R0)),
  fun k=>BN (f:=1) (by decide) B fun d x1 hd B s1=>k (.i d) x1 ⟨⟨hd.g,hd.b⟩,hd.tk⟩ B (fG (cN<|cN<|cG s1 R0)),
  fun k=>BN (f:=0) (by decide) B fun d x1 hd B s1=>k (.i d) x1 ⟨⟨hd.g,hd.b⟩,hd.tk⟩ B (fG (cN<|cN<|cG s1 R0)),
  fun k=>XJ (dm:=false) (c:=c+292) B fun d x1 hd B s1=>k (.u d) x1 ⟨hd.ok,hd.tk.le (by decide)⟩ B.lo0 (fG (cN<|cY<|cN<|cG s1 R0)),
  fun k=>XJ (dm:=true) (c:=c+292) B fun d x1 hd B s1=>k (.u d) x1 ⟨hd.ok,hd.tk.le (by decide)⟩ B.lo0 (fG (cN<|cY<|cY<|cG s1 R0)),
  fun k=>lS (c:=c+344) B fun d x1 hd B s1=>k (.s d) x1 ⟨hd.ok,hd.tk.le (by decide)⟩ B.lo0 (fG (cY<|cG s1 R0)),trivial⟩ hf k
section
variable {T L L':B2} {i:Int}
theorem RX.up {k K:Nat} {f:MV} {as:List MV} (s:RX k f as T L i L') (hk:Ap k K=true:=by rfl):RX K f as T L i L':=fun n σ r h=>by
 obtain⟨n',e⟩:=Mine.Q.up (n:=n) hk
 rw[e];exact s n' σ r h
theorem EE {d:Nat} (hd:d < 10) (H:Ok T (tN d::L)):RX 34 (.val (.ref 307)) [] T (tN d::L) (ps T (tN d::L)+1) (tN d::L):=by
 have o:RS 7 (.val (.ref 300)) [] T (tN d::L) (Kp d) L:=fR (cR (HN (b:=true) H rfl rfl)<|cR (Zy (m:=IS) hd H) R0)
 exact fX (cR o<|cY<|cX (Jd (L:=L) (L0:=tN d::L) "an item, a text or a figurative constant must stand here" rfl H (by exact List.cons_ne_nil _ _)))
theorem WF {s:Str} (hs:∀ c∈s.cps.toList,c < 256) (H:Ok T (tW "ALL"::tL s::L)):RX 34 (.val (.ref 307)) [] T (tW "ALL"::tL s::L) (ps T (tW "ALL"::tL s::L)+1) (tW "ALL"::tL s::L):=by
 have a:RS 4 (.val (.ref 167)) [] T (tL s::L) (.tup [.str "all",Uc s]) L:=fR (cR (Dz "literal" H.tl (D9 _))<|cR (Xc hs H.tl) R0)
 have p:RS 6 (.val (.ref 181)) [IS] T (tW "ALL"::tL s::L) (.tup [.str "all",Uc s]) L:=fR (cR (Ec (b:=false) H rfl rfl)<|cR (Dz "literal" (b:=false) H)<|cR (Bw H)<|cR a R0)
 have o:RS 7 (.val (.ref 300)) [] T (tW "ALL"::tL s::L) (.tup [.str "all",Uc s]) L:=fR (cR (HN (b:=true) H rfl (by unfold bo Ez FD Sy;kernel_rfl))<|cR p R0)
 exact fX (cR o<|cY<|cX (Jd (L:=L) (L0:=tW "ALL"::tL s::L) "an item, a text or a figurative constant must stand here" rfl H (by exact List.cons_ne_nil _ _)))
theorem nP (H:Ok T L) (h:hN L=false) (hL:L≠[]:=by exact List.cons_ne_nil _ _):RX 4 (.val (.ref 286)) [] T L (ps T L+1) L:=
 fX (cR (De H h)<|cF H (hL:=hL)<|cF H R0 (hL:=hL))
theorem HO (H:Ok T L) (h:hW L "CONTINUE"=false) (hL:L≠[]:=by exact List.cons_ne_nil _ _):RX 6 (.val (.ref 265)) [Eg] T L (ps T L+1) L:=by
 have b:RS 5 Eg [] T L (.tup []) L:=fU (cM [.list []]<|cR (Bt "CONTINUE" H h)<|cC rfl R0)
 exact fX (cR b<|cF H (hL:=hL)<|cF H R0 (hL:=hL))
theorem sA (H:Ok T (tW "STRING"::L)) (s:RX 42 (.val (.ref 326)) [] T L i L'):RX 45 (.val (.ref 797)) [] T (tW "STRING"::L) i L':=by
 have r:RX 43 (.val (.ref 333)) [Eg] T (tW "STRING"::L) i L':=fX (cR (Cd H)<|cX s)
 exact fX (cR (Ey H)<|cY<|cX (as:=[Eg]) r)
theorem sB (H:Ok T (tW "UNSTRING"::L)) (r:RX 43 (.val (.ref 354)) [Eg] T (tW "UNSTRING"::L) i L'):RX 45 (.val (.ref 797)) [] T (tW "UNSTRING"::L) i L':=
 fX (cR (Ey H)<|cN<|cY<|cX (as:=[Eg]) r)
theorem pU (H:Ok T (tW "INSPECT"::L)) (r:RX 43 (.val (.ref 417)) [Eg] T (tW "INSPECT"::L) i L'):RX 45 (.val (.ref 797)) [] T (tW "INSPECT"::L) i L':=
 fX (cR (Ey H)<|cN<|cN<|cX (as:=[Eg]) r)
theorem x_0 {d:Nat} (hd:d < 10) (H:Ok T (tW "STRING"::tN d::L)):RX 45 (.val (.ref 797)) [] T (tW "STRING"::tN d::L) (ps T (tN d::L)+1) (tN d::L):=
 sA H (fX (cM [.list []]<|cX (EE hd H.tl)))
theorem tT {s:Str} (hs:∀ c∈s.cps.toList,c < 256) (H:Ok T (tW "STRING"::tW "ALL"::tL s::L)):RX 45 (.val (.ref 797)) [] T (tW "STRING"::tW "ALL"::tL s::L) (ps T (tW "ALL"::tL s::L)+1) (tW "ALL"::tL s::L):=
 sA H (fX (cM [.list []]<|cX (WF hs H.tl)))
theorem x_1 {t:Cq} {s:Str} (ok:t.ok) (hs:∀ c∈s.cps.toList,c < 256) (H:Ok T (tW "STRING"::t.tk (tL s::tW "INTO"::L))):RX 45 (.val (.ref 797)) [] T (tW "STRING"::t.tk (tL s::tW "INTO"::L)) (ps T (tW "INTO"::L)+1) (tW "INTO"::L):=by
 have H1:=H.tl.to t.suf
 have o:Cq.ok (.lit s):=hs
 exact sA H (fX (cM [.list []]<|cR (Da ok H.tl rfl)<|cM ([.list []]++[.list [t.tree]])<|cR (Ke (b:=true) H1 rfl (Cq.bt o))<|cR (Da o H1 (by kernel_rfl))<|cC rfl<|cM ([.list []]++[.list [t.tree,Cq.tree (.lit s)]])<|cR (Ke H1.tl rfl Tb)<|cX (LF "DELIMITED" H1.tl)))
theorem LN:jP none:=Dd
noncomputable def ov (b:Bool) (L:B2):B2:=match b with
 | true=>tW "NOT"::tW "ON"::tW "OVERFLOW"::L
 | false=>tW "OVERFLOW"::L
theorem sJ {b:Bool}:L <:+ov b L:=by
 cases b with
 | false=>exact Aw _ _
 | true=>exact⟨[_,_,_],rfl⟩
theorem kQ {b:Bool} (H:Ok T (ov b Dp)):RX 8 (.val (.ref 272)) [Eg,CB] T (ov b Dp) (ps T Dp+1) Dp:=by
 cases b with
 | false=>exact fX (cM [.list []]<|cR (Zm (on:=false) H)<|cY<|cR (Cn H)<|cX (HO H.tl rfl))
 | true=>exact fX (cM [.list []]<|cR (UA H rfl rfl)<|cN<|cR (Zv (on:=true) H)<|cY<|cR (Cn H)<|cR (Cn H.tl)<|cR (Cn H.tl.tl)<|cX (HO H.tl.tl.tl rfl))
theorem pK {t:Cq} {g:Cl} {b:Bool} (ok:t.ok) (og:g.ok) (H:Ok T (tW "STRING"::t.tk (tW "DELIMITED"::tW "SIZE"::tW "INTO"::g.tk (ov b Dp)))):RX 45 (.val (.ref 797)) [] T (tW "STRING"::t.tk (tW "DELIMITED"::tW "SIZE"::tW "INTO"::g.tk (ov b Dp))) (ps T Dp+1) Dp:=by
 have H1:=H.tl.to t.suf
 have H2:Ok T (ov b Dp):=H1.tl.tl.tl.to g.suf
 have s:=Xv (g:=⟨t,none,false,none⟩) (g2:=none) ⟨ok,LN,LN⟩ Dd H.tl
 have z:Cz (ov b Dp)=false∧hW (ov b Dp) "WITH"=false∧hW (ov b Dp) "POINTER"=false:=by cases b<;>exact⟨by kernel_rfl,by kernel_rfl,by kernel_rfl⟩
 have r:RX 43 (.val (.ref 333)) [Eg] T (tW "STRING"::t.tk (tW "DELIMITED"::tW "SIZE"::tW "INTO"::g.tk (ov b Dp))) (ps T Dp+1) Dp:=
  fX (cR (Cd H)<|cR s<|cR (Cd H1.tl.tl)<|cR (Cy og H1.tl.tl.tl z.1)<|cR (MT (d:=.no) trivial H2 z.1 z.2.1 z.2.2)<|cX (as:=[Eg,CB]) (kQ H2))
 exact fX (cR (Ey H)<|cY<|cX (as:=[Eg]) r)
theorem x_2 {d g:Cl} {w:Str} (hw:w="DELIMITER"∨w="COUNT") (od:d.ok) (og:g.ok) (H:Ok T (tW "UNSTRING"::d.tk (tW "INTO"::g.tk (tW w::L)))):RX 45 (.val (.ref 797)) [] T (tW "UNSTRING"::d.tk (tW "INTO"::g.tk (tW w::L))) (ps T (tW w::L)+1) (tW w::L):=by
 have H1:=H.tl.to d.suf
 have H2:=H1.tl.to g.suf
 have r:RX 42 (.val (.ref 347)) [.bool false] T (g.tk (tW w::L)) (ps T (tW w::L)+1) (tW w::L):=by
  rcases hw with rfl | rfl
  · exact fX (cR (Cy og H1.tl rfl)<|cM [.list []]<|cR (Bw H2)<|cX (Jd (L:=L) "without DELIMITED BY nothing delimits" rfl H2 (by exact List.cons_ne_nil _ _)))
  · exact fX (cR (Cy og H1.tl rfl)<|cM [.list []]<|cR (Bt "DELIMITER" H2)<|cC rfl<|cM [.list [.none]]<|cR (Bw H2)<|cX (Jd (L:=L) "without DELIMITED BY nothing delimits" rfl H2 (by exact List.cons_ne_nil _ _)))
 exact sB H (fX (cR (Cd H)<|cR (Cy od H.tl rfl)<|cR (BF (d:=none) Dd H1)<|cR (Cd H1)<|cX r))
theorem x_3 {s:Str} (H:Ok T (tW "UNSTRING"::tL s::L)):RX 45 (.val (.ref 797)) [] T (tW "UNSTRING"::tL s::L) (ps T (tL s::L)+1) (tL s::L):=
 sB H (fX (cR (Cd H)<|cX (nP H.tl rfl)))
theorem tU {d:Cl} {n:Nat} (hn:n < 10) (od:d.ok) (H:Ok T (tW "UNSTRING"::d.tk (tW "DELIMITED"::tW "BY"::tN n::L))):RX 45 (.val (.ref 797)) [] T (tW "UNSTRING"::d.tk (tW "DELIMITED"::tW "BY"::tN n::L)) (ps T (tN n::L)+1) (tN n::L):=by
 have H1:=H.tl.to d.suf
 have r:RX 42 (.val (.ref 340)) [] T (tW "DELIMITED"::tW "BY"::tN n::L) (ps T (tN n::L)+1) (tN n::L):=fX (cM [.list []]<|cR (Bw H1)<|cR (Bw H1.tl)<|cR (Bt "ALL" H1.tl.tl)<|cX (EE hn H1.tl.tl))
 exact sB H (fX (cR (Cd H)<|cR (Cy od H.tl rfl)<|cX r))
theorem x_9 {d:Cl} (od:d.ok) (H:Ok T (tW "INSPECT"::d.tk Dp)):RX 45 (.val (.ref 797)) [] T (tW "INSPECT"::d.tk Dp) (ps T Dp+1) Dp:=by
 have H1:=H.tl.to d.suf
 exact pU H (fX (cR (Cd H)<|cR (Cy od H.tl rfl)<|cR (Bt "CONVERTING" H1)<|cR (Bt "TALLYING" H1)<|cX (LF "REPLACING" H1)))
theorem x_6 {d:Cl} {u s:Str} (od:d.ok) (hu:∀ c∈u.cps.toList,c < 256) (hs:∀ c∈s.cps.toList,c < 256) (lu:sl u≤1000) (ls:sl s≤1000) (m:wm (some (.lit u)) (.lit s)=false) (H:Ok T (tW "INSPECT"::d.tk (tW "CONVERTING"::tL u::tW "TO"::tL s::Dp))):RX 45 (.val (.ref 797)) [] T (tW "INSPECT"::d.tk (tW "CONVERTING"::tL u::tW "TO"::tL s::Dp)) (ps T (tL s::Dp)+1) (tL s::Dp):=by
 have H1:=H.tl.to d.suf
 have b:=kT (o:=some (.lit u)) (t:=.lit s) hs m ls (Ek lu) H1.tl.tl.tl rfl (by exact List.cons_ne_nil _ _)
 exact pU H (fX (cR (Cd H)<|cR (Cy od H.tl rfl)<|cR (Bw H1)<|cR (Da (t:=.lit u) hu H1.tl rfl)<|cR (Cd H1.tl.tl)<|cX (as:=[oV (some (.lit u))]) b))
theorem x_8 {d g:Cl} {t:Cq} (od:d.ok) (og:g.ok) (ot:t.ok) (H:Ok T (tW "INSPECT"::d.tk (tW "TALLYING"::g.tk (tW "FOR"::t.tk L)))) (hL:t.tk L≠[]):RX 45 (.val (.ref 797)) [] T (tW "INSPECT"::d.tk (tW "TALLYING"::g.tk (tW "FOR"::t.tk L))) (ps T (t.tk L)+1) (t.tk L):=by
 have H1:=H.tl.to d.suf
 have H2:=H1.tl.to g.suf
 have r:RX 40 (.val (.ref 382)) [] T (g.tk (tW "FOR"::t.tk L)) (ps T (t.tk L)+1) (t.tk L):=fX (cM [.list []]<|cR (Cy og H1.tl rfl)<|cM ([.list []]++[.list []])<|cR (Cd H2)<|cR (Bt "CHARACTERS" H2.tl (Cq.hW ot _))<|cR (Bt "ALL" H2.tl (Cq.al ot))<|cR (Bt "LEADING" H2.tl (Cq.hW ot _))<|cF H2.tl (hL:=hL)<|cF H2.tl R0 (hL:=hL))
 exact pU H (fX (cR (Cd H)<|cR (Cy od H.tl rfl)<|cR (Bt "CONVERTING" H1)<|cR (Bw H1)<|cX r))
theorem lrR {d:Cl} (od:d.ok) (H:Ok T (tW "INSPECT"::d.tk (tW "REPLACING"::L))) (r:RX 40 (.val (.ref 410)) [] T L i L'):RX 45 (.val (.ref 797)) [] T (tW "INSPECT"::d.tk (tW "REPLACING"::L)) i L':=by
 have H1:=H.tl.to d.suf
 exact pU H (fX (cR (Cd H)<|cR (Cy od H.tl rfl)<|cR (Bt "CONVERTING" H1)<|cR (Bt "TALLYING" H1)<|cR (Cd H1)<|cX r))
theorem tR {d:Cl} {t:Cq} (od:d.ok) (ot:t.ok) (H:Ok T (tW "INSPECT"::d.tk (tW "REPLACING"::t.tk L))) (hL:t.tk L≠[]):RX 45 (.val (.ref 797)) [] T (tW "INSPECT"::d.tk (tW "REPLACING"::t.tk L)) (ps T (t.tk L)+1) (t.tk L):=by
 have H1:=(H.tl.to d.suf).tl
 exact lrR od H (fX (cM [.list []]<|cY<|cR (Bt "CHARACTERS" H1 (Cq.hW ot _))<|cY<|cR (Bt "ALL" H1 (Cq.al ot))<|cY<|cR (Bt "LEADING" H1 (Cq.hW ot _))<|cY<|cR (Bt "FIRST" H1 (Cq.hW ot _))<|cY<|cF H1 (hL:=hL)<|cF H1 R0 (hL:=hL)))
theorem aS {o:Option Cq} {kd s:Str} (hk:Cb kd "CHARACTERS"=o.isNone) (oo:jP o) (so:∀ t,o=some t→Fd t) (hs:∀ c∈s.cps.toList,c < 256) (ls:sl s≤1000) (m:wm o (.lit s)=false) (H:Ok T (WE o (tW "BY"::tL s::Dp))):RX 38 (.val (.ref 403)) [.str kd] T (WE o (tW "BY"::tL s::Dp)) (ps T (tL s::Dp)+1) (tL s::Dp):=by
 have H1:Ok T (tW "BY"::tL s::Dp):=H.to Jr
 have b:=kT (o:=o) (t:=.lit s) hs m ls so H1.tl rfl (by exact List.cons_ne_nil _ _)
 cases o with
 | none=>exact fX (cD hk<|cR (Cd H1)<|cX (as:=[oV none]) b)
 | some t=>exact fX (cD hk<|cR (Da (oo t rfl) H rfl)<|cR (Cd H1)<|cX (as:=[oV (some t)]) b)
theorem tV {d:Cl} {o:Option Cq} {kd:RK} {s:Str} (od:d.ok) (hk:Cb kd.w "CHARACTERS"=o.isNone) (oo:jP o) (so:∀ t,o=some t→Fd t) (hs:∀ c∈s.cps.toList,c < 256) (ls:sl s≤1000) (m:wm o (.lit s)=false) (H:Ok T (tW "INSPECT"::d.tk (tW "REPLACING"::tW kd.w::WE o (tW "BY"::tL s::Dp)))):RX 45 (.val (.ref 797)) [] T (tW "INSPECT"::d.tk (tW "REPLACING"::tW kd.w::WE o (tW "BY"::tL s::Dp))) (ps T (tL s::Dp)+1) (tL s::Dp):=by
 have H1:=(H.tl.to d.suf).tl
 have e:=aS hk oo so hs ls m H1.tl
 refine lrR od H ?_
 cases kd with
 | c=>exact fX (cM [.list []]<|cY<|cR (Bw H1)<|cN<|cN<|cN<|cN<|cX (as:=[.str "CHARACTERS"]) e)
 | a=>exact fX (cM [.list []]<|cY<|cR (Bt "CHARACTERS" H1)<|cY<|cR (Bw H1)<|cN<|cN<|cN<|cX (as:=[.str "ALL"]) e)
 | l=>exact fX (cM [.list []]<|cY<|cR (Bt "CHARACTERS" H1)<|cY<|cR (Bt "ALL" H1)<|cY<|cR (Bw H1)<|cN<|cN<|cX (as:=[.str "LEADING"]) e)
 | f=>exact fX (cM [.list []]<|cY<|cR (Bt "CHARACTERS" H1)<|cY<|cR (Bt "ALL" H1)<|cY<|cR (Bt "LEADING" H1)<|cY<|cR (Bw H1)<|cN<|cX (as:=[.str "FIRST"]) e)
end
structure pM (A:List MV) (i:Nat):Prop where
 len:A.length≤300
 ws:∀ m∈A,∃ k w,m=tk k w∧Ci w≤1000
 x:Ok (A++Dp) (A++Dp)→∃ L',RX 45 (.val (.ref 797)) [] (A++Dp) (A++Dp) (i+1) L'
theorem F9 {n m i:Nat} {A P L':List MV} {t u:B2→B2} (h:Dl n A t) (hh:Dl m P u) (hi:P.length=i) (e:u L'=t Dp) (hn:Ap n 300=true) (x:Ok (t Dp) (t Dp)→RX 45 (.val (.ref 797)) [] (t Dp) (t Dp) (ps (t Dp) L'+1) L'):pM A i:=by
 refine⟨Ad h.len (Ac hn),h.ws,fun H=>?_⟩
 rw[h.app] at H⊢
 have hp:ps (t Dp) L'=i:=by
  unfold ps
  rw[←e,←hh.app,Ai,Nat.add_sub_cancel,hi]
 have:=x H
 rw[hp] at this
 exact⟨L',this⟩
theorem EG:PS 1 (.val (.ref 658)) [.str "DELIMITED SIZE INTO"] (.lis [tW "DELIMITED",tW "SIZE",tW "INTO"]):=Fe (l:=["DELIMITED","SIZE","INTO"]) (by decide+kernel) (by decide+kernel) (by decide)
theorem tK:PS 1 (.val (.ref 658)) [.str "DELIMITED BY"] (.lis [tW "DELIMITED",tW "BY"]):=Fe (l:=["DELIMITED","BY"]) (by decide+kernel) (by decide+kernel) (by decide)
theorem kO {l:List MV} (h:l.all iP=true:=by kernel_rfl):Dl l.length l fun L=>l++L:=⟨fun Z=>rfl,Av _,fun m hm=>EB (List.all_eq_true.mp h m hm)⟩
theorem YW {t:Cq} (L:B2):t.tk L≠[]:=by cases t<;>exact fun q=>nomatch q
theorem SB {f:Nat} (hf:f < 14):Gn 5 (.val (.ref 804)) [.int f] 23 (fun w:List MV×Nat=>.tup [.lis w.1,.int w.2]) fun w=>pM w.1 w.2:=fun {c x G} B k=>by
 refine Ip (c:=c+17) B fun d x1 hd B s1=>J5 (c:=c+10) B fun t x2 ht B s2=>Ip (c:=c+4) B fun g x3 hg B s3=>Wn (m:=2) (c:=c+2) (by decide) B fun p x4 hp B s4=>Wn (m:=1) (c:=c+1) (by decide) B fun q x5 hq B s5=>?_
 have hT:Hv 16 t.tk:=ht.tk
 have hD:Hv 16 d.tk:=hd.tk
 have hG:Hv 16 g.tk:=hg.tk
 have hP:Dl 1 [tL p] fun L=>tL p::L:=.one "literal" (Ad (Au hp.1) (by decide))
 have hQ:Dl 1 [tL q] fun L=>tL q::L:=.one "literal" (Ad (Au hq.1) (by decide))
 have hI:=(Em (w:="INSPECT")).comp hD
 have hS:=Em (w:="STRING")
 have pre:=fun {es:List (Ev En)} (al:Af gF 4 x5 [] es)=>(cG s1<|cG s2<|cG s3<|cG s4<|cG s5<|cw "INSPECT"<|cA hI<|cw "STRING" al:Af gF 4 x [] _)
 have B':D1 c x5:=B.lo0
 clear s1 s2 s3 s4 s5
 have lp:sl p≤1000:=Ad (Au hp.1) (by decide)
 have lq:sl q≤1000:=Ad (Au hq.1) (by decide)
 have a0:=kO (l:=[tW "REPLACING",tW "ALL"])
 have a1:=a0.comp hP
 have a2:=a1.comp (Em (w:="BY"))
 have b1:=kO (l:=[tW "REPLACING",tW "CHARACTERS",tW "BY"])
 have e0:=(Em (w:="CONVERTING")).comp hQ
 have e2:=e0.comp (Em (w:="TO"))
 have c1:=kO (l:=[tW "REPLACING",tW "FIRST",tW "SPACES",tW "BY"])
 have nn:∀ t,(none:Option Cq)=some t→Fd t:=fun t e=>nomatch e
 have lead:=fun {es:List (Ev En)} (al:Af gF 4 x5 [] es)=>(cP (Fe (s:="REPLACING ALL") (l:=["REPLACING","ALL"]) (by decide+kernel) (by decide+kernel) (by decide))<|cA a1<|cw "BY"<|cA a2<|cP (Fe (s:="REPLACING CHARACTERS BY") (l:=["REPLACING","CHARACTERS","BY"]) (by decide+kernel) (by decide+kernel) (by decide))<|cw "CONVERTING"<|cA e0<|cw "TO"<|cA e2<|cP (Fe (s:="REPLACING FIRST SPACES BY") (l:=["REPLACING","FIRST","SPACES","BY"]) (by decide+kernel) (by decide+kernel) (by decide))<|cC rfl al:Af gF 4 x5 [] _)
 let L4:List MV:=[.lis (([tW "REPLACING",tW "ALL"]++[tL p])++[tW "BY"]),.lis [tW "REPLACING",tW "CHARACTERS",tW "BY"],.lis (([tW "CONVERTING"]++[tL q])++[tW "TO"]),.lis [tW "REPLACING",tW "FIRST",tW "SPACES",tW "BY"]]
 revert k
 refine Nh.of (P:=fun f=>(∀(d:List MV×Nat) x',pM d.1 d.2→D1 c x'→GS 5 (.val (.ref 804)) [.int (f:Nat)] x (.tup [.lis d.1,.int d.2]) x'→G)→G) (n:=14) ⟨?a13,?a12,?a11,?a10,?a9,?a8,?a7,?a6,?a5,?a4,?a3,?a2,?a1,?a0,trivial⟩ hf
 case a0=>
  intro k
  have h1:=hS.comp (kO (l:=[tN 5]))
  have h2:=h1.comp (kO (l:=[tW "DELIMITED",tW "SIZE",tW "INTO"]))
  have h3:=h2.comp hG
  exact k (_,1) x5 (F9 h3 hS rfl rfl rfl fun H=>x_0 (by decide) H) B' (fG (pre<|cY<|cA h1<|cP EG<|cA h2<|cA h3 R0))
 case a1=>
  intro k
  have h1:=hS.comp hT
  have h2:=h1.comp hP
  have h3:=h2.comp (Em (w:="INTO"))
  have h4:=h3.comp hG
  exact k (_,1+(t.tk []++[tL p]).length) x5 (F9 h4 (hS.comp (hT.comp hP)) (by rw[Ai];rfl) rfl rfl fun H=>x_1 ht.ok hp.2 H) B' (fG (pre<|cN<|cY<|cA h1<|cA h2<|cw "INTO"<|cA h3<|cA h4<|cA (hT.comp hP)<|cC (bl (hT.comp hP).len) R0))
 case a2=>
  intro k
  have h1:=(Em (w:="UNSTRING")).comp hD
  have h2:=h1.comp (Em (w:="INTO"))
  have h3:=h2.comp hG
  refine Ja (l:=[.str "DELIMITER IN A",.str "COUNT B"]) (by decide) (by decide) B fun v x6 hv B s6=>?_
  rcases Ag.mp hv with rfl | hv
  ·
   have h4:=h3.comp (kO (l:=[tW "DELIMITER",tW "IN",tW "A"]))
   exact k (_,_) x6 (F9 h4 h3 rfl rfl rfl fun H=>x_2 (.inl rfl) hd.ok hg.ok H) B (fG (pre<|cN<|cN<|cY<|cw "UNSTRING"<|cA h1<|cw "INTO"<|cA h2<|cA h3<|cG s6<|cP (Fe (s:="DELIMITER IN A") (l:=["DELIMITER","IN","A"]) (by decide+kernel) (by decide+kernel) (by decide))<|cA h4<|cA h3 R0))
  ·
   cases Ae.mp hv
   have h4:=h3.comp (kO (l:=[tW "COUNT",tW "B"]))
   exact k (_,_) x6 (F9 h4 h3 rfl rfl rfl fun H=>x_2 (.inr rfl) hd.ok hg.ok H) B (fG (pre<|cN<|cN<|cY<|cw "UNSTRING"<|cA h1<|cw "INTO"<|cA h2<|cA h3<|cG s6<|cP (Fe (s:="COUNT B") (l:=["COUNT","B"]) (by decide+kernel) (by decide+kernel) (by decide))<|cA h4<|cA h3 R0))
 case a3=>
  intro k
  have h1:=(Em (w:="UNSTRING")).comp hP
  have h2:=h1.comp (Em (w:="INTO"))
  have h3:=h2.comp hG
  exact k (_,1) x5 (F9 h3 (Em (w:="UNSTRING")) rfl rfl rfl fun H=>x_3 H) B' (fG (pre<|cN<|cN<|cN<|cY<|cw "UNSTRING"<|cA h1<|cw "INTO"<|cA h2<|cA h3 R0))
 case a8=>
  intro k
  have h1:=hI.comp (Em (w:="TALLYING"))
  have h2:=h1.comp hG
  have h3:=h2.comp (Em (w:="FOR"))
  have h4:=h3.comp hT
  exact k (_,_) x5 (F9 h4 h3 rfl rfl rfl fun H=>x_8 hd.ok hg.ok ht.ok H (YW _)) B' (fG (pre<|cN<|cN<|cN<|cN<|cN<|cY<|cw "TALLYING"<|cA h1<|cA h2<|cw "FOR"<|cA h3<|cA h4<|cA h3 R0))
 case a9=>
  intro k
  exact k (_,_) x5 (F9 hI hI rfl rfl rfl fun H=>x_9 hd.ok H) B' (fG (pre<|cN<|cN<|cN<|cN<|cN<|cN<|cY<|cA hI R0))
 case a10=>
  intro k
  have h1:=hI.comp (Em (w:="REPLACING"))
  have h2:=h1.comp hT
  have h3:=h2.comp (Em (w:="BY"))
  have h4:=h3.comp hQ
  exact k (_,([tW "INSPECT"]++d.tk []).length+1) x5 (F9 h4 h1 (by rw[Ai];rfl) rfl rfl fun H=>tR hd.ok ht.ok H (YW _)) B' (fG (pre<|cN<|cN<|cN<|cN<|cN<|cN<|cN<|cY<|cw "REPLACING"<|cA h1<|cA h2<|cw "BY"<|cA h3<|cA h4<|cA hI R0))
 case a11=>
  intro k
  have h1:=hS.comp (Em (w:="ALL"))
  have h2:=h1.comp hP
  have h3:=h2.comp (kO (l:=[tW "DELIMITED",tW "SIZE",tW "INTO"]))
  have h4:=h3.comp hG
  exact k (_,1) x5 (F9 h4 hS rfl rfl rfl fun H=>tT hp.2 H) B' (fG (pre<|cN<|cN<|cN<|cN<|cN<|cN<|cN<|cN<|cY<|cw "ALL"<|cA h1<|cA h2<|cP EG<|cA h3<|cA h4 R0))
 case a12=>
  intro k
  have h1:=hS.comp hT
  have h2:=h1.comp (kO (l:=[tW "DELIMITED",tW "SIZE",tW "INTO"]))
  have h3:=h2.comp hG
  refine Ja (l:=[.str "OVERFLOW",.str "NOT ON OVERFLOW"]) (by decide) (by decide) B fun v x6 hv B s6=>?_
  rcases Ag.mp hv with rfl | hv
  ·
   have h4:=h3.comp (kO (l:=[tW "OVERFLOW"]))
   exact k (_,_) x6 (F9 h4 h4 rfl rfl rfl fun H=>pK (b:=false) ht.ok hg.ok H) B (fG (pre<|cN<|cN<|cN<|cN<|cN<|cN<|cN<|cN<|cN<|cY<|cA h1<|cP EG<|cA h2<|cA h3<|cG s6<|cw "OVERFLOW"<|cA h4<|cA h4 R0))
  ·
   cases Ae.mp hv
   have h4:=h3.comp (kO (l:=[tW "NOT",tW "ON",tW "OVERFLOW"]))
   exact k (_,_) x6 (F9 h4 h4 rfl rfl rfl fun H=>pK (b:=true) ht.ok hg.ok H) B (fG (pre<|cN<|cN<|cN<|cN<|cN<|cN<|cN<|cN<|cN<|cY<|cA h1<|cP EG<|cA h2<|cA h3<|cG s6<|cP (Fe (s:="NOT ON OVERFLOW") (l:=["NOT","ON","OVERFLOW"]) (by decide+kernel) (by decide+kernel) (by decide))<|cA h4<|cA h4 R0))
 case a13=>
  intro k
  have h1:=(Em (w:="UNSTRING")).comp hD
  have h2:=h1.comp (kO (l:=[tW "DELIMITED",tW "BY"]))
  have h3:=h2.comp (kO (l:=[tN 7]))
  have h4:=h3.comp (Em (w:="INTO"))
  have h5:=h4.comp hG
  exact k (_,_) x5 (F9 h5 h2 rfl rfl rfl fun H=>tU (by decide) hd.ok H) B' (fG (pre<|cN<|cN<|cN<|cN<|cN<|cN<|cN<|cN<|cN<|cN<|cw "UNSTRING"<|cA h1<|cP tK<|cA h2<|cA h3<|cw "INTO"<|cA h4<|cA h5<|cA h2 R0))
 case a4=>
  intro k
  have g1:=hI.comp a2
  have g2:=g1.comp hQ
  exact k (_,_) x5 (F9 g2 g1 rfl rfl rfl fun H=>tV (kd:=.a) (o:=some (.lit p)) hd.ok (by kernel_rfl) (fun t e=>by cases e;exact hp.2) (Ek lp) hq.2 lq (by show decide (_=_)=false;rw[hp.1,hq.1];rfl) H) B' (fG (pre<|cN<|cN<|cN<|cN<|cY<|lead<|cY<|cO (x:=Jz [] (.v (.lis L4)) (.v (.int (0:Nat)))) rfl<|cA g1<|cA g2<|cO (x:=Jz [] (.v (.lis L4)) (.v (.int (0:Nat)))) rfl<|cA g1<|cA g1 R0))
 case a5=>
  intro k
  have g1:=hI.comp b1
  have g2:=g1.comp hP
  exact k (_,_) x5 (F9 g2 g1 rfl rfl rfl fun H=>tV (kd:=.c) (o:=none) hd.ok (by kernel_rfl) LN nn hp.2 lp (by show decide (_=_)=false;rw[hp.1];rfl) H) B' (fG (pre<|cN<|cN<|cN<|cN<|cY<|lead<|cN<|cO (x:=Jz [] (.v (.lis L4)) (.v (.int (1:Nat)))) rfl<|cA g1<|cA g2<|cO (x:=Jz [] (.v (.lis L4)) (.v (.int (1:Nat)))) rfl<|cA g1<|cA g1 R0))
 case a6=>
  intro k
  have g1:=hI.comp e2
  have g2:=g1.comp hP
  exact k (_,_) x5 (F9 g2 g1 rfl rfl rfl fun H=>x_6 hd.ok hq.2 hp.2 lq lp (by show decide (_=_)=false;rw[hp.1,hq.1];rfl) H) B' (fG (pre<|cN<|cN<|cN<|cN<|cY<|lead<|cN<|cO (x:=Jz [] (.v (.lis L4)) (.v (.int (2:Nat)))) rfl<|cA g1<|cA g2<|cO (x:=Jz [] (.v (.lis L4)) (.v (.int (2:Nat)))) rfl<|cA g1<|cA g1 R0))
 case a7=>
  intro k
  have g1:=hI.comp c1
  have g2:=g1.comp hP
  have F:AU (.fig "SPACES" "SPACE"):=.fig (by unfold Wf Ez Sy;kernel_rfl)
  exact k (_,_) x5 (F9 g2 g1 rfl rfl rfl fun H=>tV (kd:=.f) (o:=some (.fig "SPACES" "SPACE")) hd.ok (by kernel_rfl) (fun t e=>by cases e;exact F.ok) (Ek trivial) hp.2 lp (by show decide (_=_)=false;rw[hp.1];rfl) H) B' (fG (pre<|cN<|cN<|cN<|cN<|cY<|lead<|cN<|cO (x:=Jz [] (.v (.lis L4)) (.v (.int (3:Nat)))) rfl<|cA g1<|cA g2<|cO (x:=Jz [] (.v (.lis L4)) (.v (.int (3:Nat)))) rfl<|cA g1<|cA g1 R0))
inductive Gd:Nat→MV→Prop where
 | none (n:Nat):Gd (n+1) .none
 | bool (n:Nat) (b:Bool):Gd (n+1) (.bool b)
 | int (n:Nat) (i:Int):Gd (n+1) (.int i)
 | str (n:Nat) (s:Str):Gd (n+1) (.str s)
 | bytes (n:Nat) (b:Array UInt8):Gd (n+1) (.bytes b)
 | tup {n:Nat} {l:List MV}:(∀ m∈l,Gd n m)→Gd (n+1) (.tup l)
noncomputable abbrev Q6 (n:Nat) (l:List MV):Prop:=∀ m∈l,Gd n m
theorem IN {f:MV→MV→Option Bool} {l:List MV} (h:∀ m∈l,f m m=some true):BJ f l l=some true:=by
 induction l with
 | nil=>rfl
 | cons m l ih=>
  show(match f m m,BJ f l l with | some p,some q=>some (p&&q) | _,_=>none)=some true
  rw[h m (.head _),ih fun y hy=>h y (.tail _ hy)];rfl
theorem Gd.eq {n:Nat} {m:MV} (h:Gd n m):E9 n m m=some true:=by
 induction h with
 | none n=>rfl
 | bool n b=>exact congrArg some (beq_self_eq_true b)
 | int n i=>exact congrArg some (decide_eq_true rfl)
 | str n s=>exact congrArg some (D9 s)
 | bytes n b=>exact congrArg some (beq_self_eq_true b.toList)
 | @tup n l h ih=>
  show(BJ (E9 n) l l).map (fun t=>t&&l.length==l.length)=some true
  rw[IN ih]
  exact congrArg some (beq_self_eq_true l.length)
section
variable {n:Nat}
theorem Gd.nil:Q6 n []:=fun m hm=>nomatch hm
theorem Gd.cons {m:MV} {l:List MV} (h:Gd n m) (k:Q6 n l):Q6 n (m::l):=fun y hy=>(Ag.mp hy).elim (fun e=>e▸h) (k y)
theorem Gd.app {l l2:List MV} (h:Q6 n l) (k:Q6 n l2):Q6 n (l++l2):=fun m hm=>(List.mem_append.mp hm).elim (h m) (k m)
theorem Gd.map {α:Type} {f:α→MV} {l:List α} (h:∀ y,Gd n (f y)):Q6 n (l.map f):=fun m hm=>by
 obtain⟨y,_,rfl⟩:=Bc.mp hm
 exact h y
theorem Pn {d:Nat}:Gd (n+3) (Kp d):=.tup (.cons (.str ..) (.cons (.tup (.cons (.int ..) (.cons (.int ..) .nil))) .nil))
theorem lT:Gd (n+3) jV:=.tup (.cons (.str ..) (.cons (.str ..) (.cons (.tup .nil) (.cons (.tup .nil) (.cons (.none _) .nil)))))
theorem lW {s:Sb}:Q6 (n+4) s.tree:=by
 cases s with
 | no=>exact .nil
 | num d=>exact .cons Pn .nil
 | j d=>exact .cons (.tup (.cons (.str ..) (.cons lT (.cons Pn .nil)))) (.cons lT .nil)
theorem lU {s:Pt}:Gd (n+4) s.tree:=by
 cases s with
 | no=>exact .none _
 | one b=>exact .tup (.cons Pn (.cons (.none _) .nil))
 | two b e=>exact .tup (.cons Pn (.cons Pn .nil))
theorem rQ {q:Qd}:Q6 (n+1) q.tree:=by
 cases q with
 | no=>exact .nil
 | one=>exact .cons (.str ..) .nil
 | two=>exact .cons (.str ..) (.cons (.str ..) .nil)
theorem E8 {d:Cl}:Gd (n+6) d.tree:=.tup (.cons (.str ..) (.cons (.str ..) (.cons (.tup rQ) (.cons (.tup lW) (.cons lU .nil)))))
theorem Ej {t:Cq}:Gd (n+6) t.tree:=by
 cases t with
 | ref d=>exact E8
 | fig w f=>exact .tup (.cons (.str ..) (.cons (.str ..) .nil))
 | lit s=>exact .tup (.cons (.str ..) (.cons (.bytes ..) .nil))
theorem rP {o:Option Cq}:Gd (n+6) (oV o):=by
 cases o with
 | none=>exact .none _
 | some t=>exact Ej
theorem XL {o:Option Cq}:Gd (n+6) (RH o):=by
 cases o with
 | none=>exact .none _
 | some t=>exact Ej
theorem BO {d:F2} {l:List MV} (h:Q6 (n+6) l):Q6 (n+6) (d.bef::d.aft::l):=by
 cases d with
 | no=>exact .cons (.none _) (.cons (.none _) h)
 | b x=>exact .cons Ej (.cons (.none _) h)
 | a x=>exact .cons (.none _) (.cons Ej h)
 | ba x y=>exact .cons Ej (.cons Ej h)
 | ab x y=>exact .cons Ej (.cons Ej h)
theorem JO {d:Hh}:Gd (n+6) d.tree:=by
 cases d with
 | no=>exact .none _
 | yes w d=>exact E8
theorem Wo {o:AR}:Gd (n+6) (Zw o):=by
 cases o with
 | none=>exact .none _
 | some y=>exact E8
theorem XN {key:Str} {p:PN}:Q6 (n+4) (PN.vals key p):=by
 cases p with
 | none=>exact .nil
 | some y=>
  refine .cons (.tup (.cons (.str ..) (.cons (.tup ?_) .nil))) .nil
  have c:Gd (n+2) cV:=.tup (.cons (.str ..) .nil)
  cases y.2 with
  | true=>exact .cons c (.cons c .nil)
  | false=>exact .cons c .nil
theorem XK {d:Ru}:Q6 (n+4) d.tree:=Gd.app XN XN
theorem XM {g:Iu}:Q6 (n+7) g.rows:=by
 refine .cons (.tup (.cons Ej (.cons XL .nil))) ?_
 cases g.t2 with
 | none=>exact .nil
 | some t=>exact .cons (.tup (.cons Ej (.cons XL .nil))) .nil
theorem bC {g:Option Iu}:Q6 (n+7) (pT g):=by
 cases g with
 | none=>exact .nil
 | some g=>exact XM
theorem XQ {N:MV} (h:Gd (n+6) N) {k:J1}:Q6 (n+7) (k.rows N):=by
 have r:∀ {b:Bool} {c:Su},Gd (n+7) (c.row N (.str (Nw b))):=.tup (.cons h (.cons (.str ..) (.cons Ej (BO .nil))))
 cases k with
 | chars bd=>exact .cons (.tup (.cons h (.cons (.str ..) (.cons (.none _) (BO .nil))))) .nil
 | cnt b c c2=>
  refine .cons r ?_
  cases c2 with
  | none=>exact .nil
  | some c=>exact .cons r .nil
theorem XO {d:Fh}:Q6 (n+7) d.rows:=by
 refine Gd.app (XQ E8) ?_
 cases d.k2 with
 | none=>exact .nil
 | some k=>exact XQ E8
theorem JP {d:Fh} {d2:Option Fh}:Q6 (n+7) (d.rows++oS d2):=by
 refine Gd.app XO ?_
 cases d2 with
 | none=>exact .nil
 | some k=>exact XO
theorem lV {d:F0}:Q6 (n+7) d.rows:=by
 have r:∀ {w:Str} {e:M5},Gd (n+7) (e.v w):=.tup (.cons (.str ..) (.cons rP (.cons Ej (BO .nil))))
 refine .cons r ?_
 cases d.e2 with
 | none=>exact .nil
 | some e=>exact .cons r .nil
theorem Y3:∀ {l:List F0},Q6 (n+7) (GV l)
 | []=>.nil
 | d::l=>Gd.app lV Y3
theorem bE {g:Cl} {d:Fh} {d2:Option Fh}:Gd (n+9) (iO g.tree d d2):=.tup (.cons (.str ..) (.cons E8 (.cons (.tup JP) .nil)))
theorem bD {g:Cl} {l:List F0}:Gd (n+9) (gA g.tree l):=.tup (.cons (.str ..) (.cons E8 (.cons (.tup Y3) .nil)))
end
theorem WB (d:EL):∃ l,d.tree= .tup l∧Ze (.tup l) (.tup l)=some true:=by
 have f:∀ {l:List MV},d.tree= .tup l→Q6 59 l→∃ l,d.tree= .tup l∧Ze (.tup l) (.tup l)=some true:=fun e h=>⟨_,e,(Gd.tup h).eq⟩
 cases d with
 | s d=>exact f rfl (.cons (.str ..) (.cons (.tup (Gd.app XM bC)) (.cons E8 (.cons JO (.cons (.tup XK) .nil)))))
 | u d=>
  refine f rfl (.cons (.str ..) (.cons E8 (.cons (.tup ?_) (.cons (.tup (.cons (.tup (.cons E8 (.cons Wo (.cons Wo .nil)))) (.map fun r=>.tup (.cons E8 (.cons Wo (.cons Wo .nil)))))) (.cons JO (.cons Wo (.cons (.tup XK) .nil)))))))
  cases d.del with
  | none=>exact .nil
  | some y=>exact .cons (.tup (.cons Ej (.cons (.bool ..) .nil))) (.map fun a=>.tup (.cons Ej (.cons (.bool ..) .nil)))
 | i d=>
  obtain⟨g,b⟩:=d
  cases b with
  | conv s b bd=>exact f rfl (.cons (.str ..) (.cons E8 (.cons Ej (.cons Ej (BO .nil)))))
  | tal a as=>exact f rfl (.cons (.str ..) (.cons E8 (.cons (.tup JP) .nil)))
  | rep e es=>exact f rfl (.cons (.str ..) (.cons E8 (.cons (.tup Y3) .nil)))
  | both a as e es=>exact f rfl (.cons (.str ..) (.cons (.tup (.cons (.str ..) (.cons (.tup (.cons bE (.cons bD .nil))) .nil))) (.cons (.tup (.cons (.str ..) .nil)) .nil)))
theorem PC (T:B2):(Fu T 0).map (fun m=>match m with | .tup [.int i,v]=>PA v i.toNat | _=>.none)=Gr T:=by
 unfold Fu Gr
 rw[List.map_map]
 rfl
theorem DK {n K:Nat} {σ:Bu} {f:MV} {d:Bv} {as:List MV} {o:MO} {ls:Bu} {q:Nat} (hf:aY f=some d) (hl:Ty (vL as).length d=true) (h:Is (pF.ct K (n,σ)) (Dv (Cm (n+K)) d.body ((pF.ct K (n,σ)).rvs (vL as++vL (d.dfl.drop ((vL as).length+d.dfl.length - d.np))++Ao (d.nl - d.np) .un)) (σ++[])) (.ret (.l q) () ls)) (ho:ls[q]?=some o) (hr:XY o=true):Cm (n+K+1) f (vR as) σ= .ok (.loc σ.length) (σ++[o]):=h.elim fun ρ' h=>
 ((Uv hf).trans (Ha (c:=pF.ct K (n,σ))▸Xo (c:=pF.ct K (n,σ)) (b:=()) hl)).trans ((congrArg (K8 σ.length) h).trans (RU (c:=pF.ct K (n,σ)) ho hr))
theorem Xm {T:B2} (hT:T.length≤Cf) (ws:∀ m∈T,∃ k w,m=tk k w∧Ci w≤1000) (n:Nat) (σ:Bu):Cm (n+2) (.val (.ref 790)) [.v (.lis T)] σ= .ok (.loc σ.length) (σ++[.rdr (Gr T) 0]):=by
 have e:∀ i:pF.I,C0 (pF.ct 1 i).C (.compE (.var 0) (.call (.glob "Token" (.val (.ref 628))) [.var 1,.var 2,.tup [.bin .Add (.var 0) (.const (.int 1)),.const (.int 12)]])) ((pF.ct 1 i).rvs [.v (.lis T)]) ((pF.ct 1 i).st () [])= .ok ((pF.ct 1 i).rv (.v (.lis (Gr T)))) ((pF.ct 1 i).st () []):=fun i=>by
  refine(Ia (CP (A6.mpr hT))).trans (congrArg (fun o=>B1.bind (Zf o) _) ((Lq (h:=fun m=>match m with | .tup [.int i,v]=>PA v i.toNat | _=>.none) fun m hm=>⟨rfl,?_⟩).trans (congrArg (fun l=>B1.ok l _) (PC T))))
  obtain⟨⟨v,i⟩,hy,rfl⟩:=Bc.mp hm
  obtain⟨k,w,rfl,_⟩:=ws v ((List.mem_zipIdx hy).2.2▸List.getElem_mem _)
  rfl
 have r:Af pF 1 () [] [.exp (.compE (.var 0) (.call (.glob "Token" (.val (.ref 628))) [.var 1,.var 2,.tup [.bin .Add (.var 0) (.const (.int 1)),.const (.int 12)]])) [.v (.lis T)] () [] (.v (.lis (Gr T))) () [],.call (.val (.ref 598)) [.v (.lis (Gr T))] () [] (.l 0) () [.rdr (Gr T) 0]]:=
  cE e fun i=>⟨by
   show Cm (i.1+1) (.val (.ref 598)) [.v (.lis (Gr T))] (i.2++[])= .ok (.loc (i.2.length+0)) (i.2++[.rdr (Gr T) 0])
   rw[Aj];rfl,trivial⟩
 have h:=Z8 (u:=true) (c:=pF.ct 1 (n,σ)) (l:=G5.body) (ρ:=[.v (.lis T)]) (b:=()) (ls:=[]) (o:=.ret (.l 0) () [.rdr (Gr T) 0]) (by kernel_rfl) (r (n,σ))
 exact DK (f:=.val (.ref 790)) (d:=G5) (as:=[.lis T]) rfl rfl h rfl rfl
theorem KT {σ:Bu} {o:MO}:σ.length < (σ++[o]).length:=by rw[Ai];exact Nat.lt_succ_self _
theorem U8 {σ:Bu} {T L:B2}:st (σ++[.rdr (Gr T) 0]) σ.length T L=σ++[.rdr (Gr T) (ps T L)]:=by
 unfold st
 rw[List.set_append_right _ _ (Av _),Nat.sub_self];rfl
theorem nH {T:B2}:ps T T=0:=by unfold ps;rw[Nat.sub_self];rfl
theorem GB {A:List MV} {i:Nat} (h:pM A i):PS 47 (.val (.ref 811)) [.lis (A++Dp),.int i] (.bool true):=fun n σ=>by
 have hl:(A++Dp).length≤Cf:=Ad (la (X:=Dp) h.len (Av 1)) (by decide)
 have ws:∀ m∈A++Dp,∃ k w,m=tk k w∧Ci w≤1000:=fun m hm=>(List.mem_append.mp hm).elim (h.ws m) fun hm=>⟨_,_,Ae.mp hm,Gp⟩
 obtain⟨L',x⟩:=h.x ⟨hl,ws,A0 _⟩
 have e2:=x (n+1) (σ++[.rdr (Gr (A++Dp)) 0]) σ.length KT
 rw[U8,U8,nH,show n+1+45=n+46 by omega] at e2
 refine(congrArg (fun o=>NE (i:Int) σ.length (B1.bind o fun r σ=>Cm (n+46) (.val (.ref 797)) [r] σ)) (Xm hl ws (n+44) σ)).trans ((congrArg (NE (i:Int) σ.length) e2).trans ?_)
 show B1.ok _ (List.take _ _)=_
 rw[List.take_left' rfl,decide_eq_true rfl]
section
variable {B:Type} {φ:Vj B} {K:Nat} {s:MS} {ss:List MS} {ρ ρ1 ρ':List LV} {b b1 b':B} {ls ls1 ls':Bu} {p:Ir} {e:ME} {y:List MS} {l:List MV}
noncomputable def ssw (C:Call) (ss:List MS) (r:Di×List RV) (σ:Bu):B1 (Di×List RV):=match r with
 | (.next,ρ)=>Dv C ss ρ σ
 | r=>.ok r σ
theorem pZ {o:Oc B} (h:SS φ K s ρ b ls ρ1 b1 ls1) {i:φ.I} (r:Is (φ.ct K i) (Dv (φ.ct K i).C ss ((φ.ct K i).rvs ρ1) ((φ.ct K i).st b1 ls1)) o):Is (φ.ct K i) (Dv (φ.ct K i).C (s::ss) ((φ.ct K i).rvs ρ) ((φ.ct K i).st b ls)) o:=
 Is.eq r (congrArg (fun o=>B1.bind o (ssw (φ.ct K i).C ss)) (h i))
noncomputable def fiw (C:Call) (p:Ir) (y:List MS) (l:List MV) (ρ:List RV) (σ:Bu) (o:Option Unit):B1 (Di×List RV):=match o with
 | some _=>I7 (put p) (fun ρ σ=>Dv C y ρ σ) l ρ σ
 | none=>.no
theorem fI (h:∀ i,C0 (φ.ct K i).C e ((φ.ct K i).rvs ρ) ((φ.ct K i).st b ls)= .ok (.v (.lis l)) ((φ.ct K i).st b1 ls1)) (hl:l.length≤Cf) (r:FS φ K p y l ρ b1 ls1 ρ' b' ls'):SS φ K (.forIn p e y) ρ b ls ρ' b' ls':=fun i=>
 (Is.eq (Is.eq (r i) (congrArg (fiw (φ.ct K i).C p y l ((φ.ct K i).rvs ρ) ((φ.ct K i).st b1 ls1)) (CP (A6.mpr hl)))) (congrArg (fun o=>B1.bind o _) (h i)))
end
theorem DB:(10:Int)^(Int.toNat 40)=10000000000000000000000000000000000000000:=rfl
theorem MK {a r t N M:Nat} (h:a < M) (hr:r < N) (ht:t≤3*N) (hM:4*N≤M):a*1021+r+t < M*1048576:=
 have h4:r+t < M:=Bb (Nat.add_lt_add_of_lt_of_le hr ht) (Ad (Au ((Nat.succ_mul 3 N).symm▸Nat.add_comm N (3*N))) hM)
 Nat.add_assoc .. ▸Bb (Nat.add_lt_add_of_le_of_lt (Nat.mul_le_mul_right 1021 (Nat.le_of_lt h)) h4) (Nat.mul_le_mul_left M (Ac rfl:1022≤1048576))
theorem MM {a l:Nat} {c:Int} (hl:l+1≤24) (h:a < 2^(200+20*(24 - (l+1)))):∃ b:Nat,(a:Int)*1021+(if c < 0 then -c else c) % 10^(Int.toNat 40)+3*10^(Int.toNat 40)*(if decide (c < 0) then 1 else 0)=b∧b < 2^(200+20*(24 - l)):=by
 rw[DB,show 24 - l=(24 - (l+1))+1 from(Nat.succ_pred_eq_of_pos (Nat.sub_pos_of_lt hl)).symm,show 200+20*(24 - (l+1)+1)=(200+20*(24 - (l+1)))+20 from rfl,Nat.pow_add]
 have hM:4*10000000000000000000000000000000000000000≤2^(200+20*(24 - (l+1))):=Ad (Ac rfl) (Nat.pow_le_pow_right (by decide) (A4 200 _))
 generalize 2^(200+20*(24 - (l+1)))=M at h hM⊢
 have h1:=Int.emod_nonneg (if c < 0 then -c else c) (b:=10000000000000000000000000000000000000000) (by decide)
 have h2:=Int.emod_lt_of_pos (if c < 0 then -c else c) (b:=10000000000000000000000000000000000000000) (by decide)
 generalize (if c < 0 then -c else c) % 10000000000000000000000000000000000000000=r at h1 h2⊢
 obtain⟨n,rfl⟩:=Int.eq_ofNat_of_zero_le h1
 have h2:=Int.ofNat_lt.mp h2
 cases decide (c < 0) with
 | true=>exact⟨a*1021+n+3*10000000000000000000000000000000000000000,rfl,MK h h2 (Av _) hM⟩
 | false=>exact⟨a*1021+n+0,rfl,MK h h2 (Nat.zero_le _) hM⟩
noncomputable abbrev pnB:List MS:=match Ib.body.getD 1 .dead with
 | .forIn _ _ b=>b
 | _=>[]
noncomputable abbrev O1:ME:=.cut (.var 0) none (some (.const (.int 24)))
theorem mX {a b:Int} (h:0 < b∧0≤a):Kd .Mod (.v (.int a)) (.v (.int b))=some (.int (a % b)):=if_pos h
theorem YH {s:LV}:∀(l:List MV) {a:Nat} {v:LV},(∀ m∈l,∃ c:Int,m= .int c)→l.length≤24→a < 2^(200+20*(24 - l.length))→∃(b:Nat) (w:LV),FS pF 0 (.var 2) pnB l [s,.v (.int a),v] () [] [s,.v (.int b),w] () []
 | [],a,v,_,_,_=>⟨a,v,fE⟩
 | m::l,a,v,hm,hl,ha=>by
  obtain⟨c,rfl⟩:=hm _ (.head _)
  obtain⟨b,e,hb⟩:=MM (c:=c) hl ha
  obtain⟨b',w,r⟩:=YH l (v:=.v (.int c)) (fun m h=>hm m (.tail _ h)) (Nat.le_of_succ_le hl) hb
  rw[←e] at r
  have b700:∀ {m k:Nat},m < 2^k→k≤6700→m < 2^6700:=fun h hk=>Bb h (Nat.pow_le_pow_right (by decide) hk)
  have p:=YE (a:=10) (b:=40) ⟨by decide,by decide,by decide,by decide⟩
  have h3:(3*(10:Int)^Int.toNat 40).natAbs < 2^6700:=b700 (k:=140) (by rw[DB];decide) (by decide)
  have h0:0≤(if c < 0 then -c else c):=by split<;>omega
  exact⟨b',w,fT false (cO (CM (a:=a) (b:=1021) ⟨b700 (by rw[Int.natAbs_natCast];exact ha) (by omega),b700 (k:=64) (by decide) (by decide)⟩)<|cO (x:=Om [] (.type "int") [.v (.int c)]) (m:=.int c) rfl<|cO (x:=Om [] (.builtin "abs") [.v (.int c)]) (m:=.int (if c < 0 then -c else c)) rfl<|cO p<|cO (mX (b:=10^Int.toNat 40) ⟨by rw[DB];decide,h0⟩)<|
   cO p<|cO (CM (a:=3) (b:=10^Int.toNat 40) ⟨b700 (k:=64) (by decide) (by decide),b700 (k:=140) (by rw[DB];decide) (by decide)⟩)<|cD (t:=decide (c < 0)) (v:=decide (c < 0)) rfl<|cO (x:=Om [] (.type "int") [.v (.bool (decide (c < 0)))]) (m:=.int (if decide (c < 0) then 1 else 0)) rfl<|cO (CM (a:=3*10^Int.toNat 40) (b:=(if decide (c < 0) then 1 else 0:Int)) ⟨h3,b700 (k:=64) (by split<;>decide) (by decide)⟩) R0) r⟩
theorem nD {ns:List Int} (hl:ns.length≤1000) (n:Nat):∃ a c:Int,D1 90000 (a,c)∧Cm (n+1) (.val (.ref 639)) [.v (.lis (ns.map .int))] []= .ok (.loc 0) [.pen a c]:=by
 have hl2:(ns.map MV.int).length≤Cf:=by rw[Am];exact Ad hl (by decide)
 have ht:((ns.map MV.int).take 24).length≤24:=List.length_take_le ..
 obtain⟨b,w,r⟩:=YH (s:=.v (.lis (ns.map .int))) ((ns.map MV.int).take 24) (a:=5) (v:=.un) (fun m hm=>by
  obtain⟨c,_,rfl⟩:=Bc.mp (List.mem_of_mem_take hm)
  exact⟨c,rfl⟩) ht (Bb (show 5 < 2^200 by decide) (Nat.pow_le_pow_right (by decide) (A4 ..)))
 have cu:∀ {w1 w2:LV} (i:pF.I),C0 (pF.ct 0 i).C O1 ((pF.ct 0 i).rvs [.v (.lis (ns.map .int)),w1,w2]) ((pF.ct 0 i).st () [])= .ok (.v (.lis ((ns.map MV.int).take 24))) ((pF.ct 0 i).st () []):=fun {w1 w2} i=>by
  exact congrArg (fun o:Option MV=>Ep ((pF.ct 0 i).st () []) (o.map RV.v)) (show lJ (.lis (ns.map MV.int)) 24=some (.lis ((ns.map MV.int).take 24)) from if_pos ⟨by decide,hl2⟩)
 have ln:∀ i:pF.I,C0 (pF.ct 0 i).C (.call (.glob "len" (.val (.builtin "len"))) [O1]) ((pF.ct 0 i).rvs [.v (.lis (ns.map .int)),.v (.int b),w]) ((pF.ct 0 i).st () [])= .ok ((pF.ct 0 i).rv (.v (.int (((ns.map MV.int).take 24).length:Nat)))) ((pF.ct 0 i).st () []):=
  eR (φ:=pF) (K:=0) (cE (e:=O1) (ρ:=[.v (.lis (ns.map .int)),.v (.int b),w]) (a:=.v (.lis ((ns.map MV.int).take 24))) cu<|cC (bl ht) R0)
 have mp:∀ i:pF.I,C0 (pF.ct 0 i).C (.mpen (.var 1) (.call (.glob "len" (.val (.builtin "len"))) [O1])) ((pF.ct 0 i).rvs [.v (.lis (ns.map .int)),.v (.int b),w]) ((pF.ct 0 i).st () [])= .ok ((pF.ct 0 i).rv (.l 0)) ((pF.ct 0 i).st () [.pen b (((ns.map MV.int).take 24).length:Nat)]):=fun i=>by
  refine(show B1.bind (C0 (pF.ct 0 i).C (.call (.glob "len" (.val (.builtin "len"))) [O1]) ((pF.ct 0 i).rvs [.v (.lis (ns.map .int)),.v (.int b),w]) ((pF.ct 0 i).st () [])) _=_ from congrArg (fun o=>B1.bind o _) (ln i)).trans ?_
  show B1.ok (RV.loc (i.2++[]).length) ((i.2++[])++_)=_
  rw[Aj]
  rfl
 have h:Is (pF.ct 0 (n,[])) (Dv (Cm n) Ib.body ((pF.ct 0 (n,[])).rvs [.v (.lis (ns.map .int)),.un,.un]) []) (.ret (.l 0) () [.pen b (((ns.map MV.int).take 24).length:Nat)]):=by
  refine pZ (φ:=pF) (K:=0) (i:=(n,[])) (b:=()) (ls:=[]) (ρ1:=[.v (.lis (ns.map .int)),.v (.int 5),.un]) (b1:=()) (ls1:=[]) (sR R0) (pZ (φ:=pF) (K:=0) (i:=(n,[])) (fI cu (Ad ht (by decide)) r) ?_)
  exact Z8 (u:=true) (c:=pF.ct 0 (n,[])) (l:=[.ret (.mpen (.var 1) (.call (.glob "len" (.val (.builtin "len"))) [O1]))]) (o:=.ret (.l 0) () [.pen b (((ns.map MV.int).take 24).length:Nat)]) (es:=[.exp (.mpen (.var 1) (.call (.glob "len" (.val (.builtin "len"))) [O1])) [.v (.lis (ns.map .int)),.v (.int b),w] () [] (.l 0) () [.pen b (((ns.map MV.int).take 24).length:Nat)]]) (by kernel_rfl) ⟨mp (n,[]),trivial⟩
 exact⟨b,((ns.map MV.int).take 24).length,⟨Int.natCast_nonneg _,Int.natCast_nonneg _,by omega⟩,DK (K:=0) (f:=.val (.ref 639)) (d:=Ib) (as:=[.lis (ns.map .int)]) rfl rfl h rfl rfl⟩
noncomputable abbrev jM:MS:=R4.body.getD 1 .dead
noncomputable abbrev jN:MS:=R4.body.getD 2 .dead
section
variable {K:Nat} {x:En} {E:Bu} {es:List (Ev En)} {T:B2}
theorem rD (hT:T.length≤Cf) (ws:∀ m∈T,∃ k w,m=tk k w∧Ci w≤1000) (al:Af gF K x (E++[.rdr (Gr T) 0]) es) (hk:Ap 2 K=true:=by rfl):Af gF K x E (.call (.val (.ref 790)) [.v (.lis T)] x E (.l E.length) x (E++[.rdr (Gr T) 0])::es):=fun⟨n,σ,p,h⟩=>⟨(up (n:=n) hk).elim fun n' e=>by
 show Cm (n+K) (.val (.ref 790)) [.v (.lis T)] (pn σ p x++E)= .ok (.loc (σ.length+E.length)) (pn σ p x++(E++[.rdr (Gr T) 0]))
 rw[e,Xm hT ws,Ai,←Ak,show(pn σ p x).length=σ.length from List.length_set ..],al _⟩
theorem kU {a:MV} {L':B2} (s:RS 41 (.val (.ref 797)) [] T T a L') (al:Af gF K x (E++[.rdr (Gr T) (ps T L')]) es) (hk:Ap 41 K=true:=by rfl):Af gF K x (E++[.rdr (Gr T) 0]) (.call (.val (.ref 797)) [.l E.length] x (E++[.rdr (Gr T) 0]) (.v a) x (E++[.rdr (Gr T) (ps T L')])::es):=fun⟨n,σ,p,h⟩=>⟨(up (n:=n) hk).elim fun n' e=>by
 have l:(pn σ p x++E).length=σ.length+E.length:=by rw[Ai,show(pn σ p x).length=σ.length from List.length_set ..]
 have e2:=s n' ((pn σ p x++E)++[.rdr (Gr T) 0]) (pn σ p x++E).length KT
 rw[U8,U8,nH,l,←e,Ak,Ak] at e2
 exact e2,al _⟩
theorem cAt {j:Int} (al:Af gF K x (E++[.rdr (Gr T) j]) es):Af gF K x (E++[.rdr (Gr T) j]) (.exp (.attr (.var 0) "at") [.l E.length] x (E++[.rdr (Gr T) j]) (.v (.int j)) x (E++[.rdr (Gr T) j])::es):=cE (fun i=>
 (congrArg (fun o:Option MV=>Ep ((gF.ct K i).st x (E++[.rdr (Gr T) j])) (o.map RV.v)) (jB.trans (Ka (f:=fun o=>Vl o "at") (by rw[Az (Av _),Nat.sub_self];rfl:(E++[MO.rdr (Gr T) j])[E.length]?=some (.rdr (Gr T) j)))):)) al
theorem cNe {l:List MV} (h:Ze (.tup l) (.tup l)=some true) (al:Af gF K x E es):Af gF K x E (.exp (.cmp .NotEq (.const (.tup l)) (.const (.tup l))) [] x E (.v (.bool false)) x E::es):=cE (fun i=>by
 show Ep _ (((Ze (.tup l) (.tup l)).map (!·)).map fun t=>RV.v (.bool t))=_
 rw[h];rfl) al
end
noncomputable abbrev dO:Dl 1 Dp fun L=>tS "."::L:=.one "sign" Gp
section
variable {s v2 v3 v4 v5 v6 v7:LV} {c:Nat} {x:En} {G:Prop} {E:Bu}
theorem mL {f:Nat} (hf:f < 7) (B:D1 (c+414) x) (k:∀ x' w3 w4 w5 E',D1 c x'→(∀ {l ρ' x'' ls'},FS gF 50 (.var 2) (N7 jM) l [s,.b,.v (.int f),w3,w4,w5,v6,v7] x' E' ρ' x'' ls'→FS gF 50 (.var 2) (N7 jM) (.int f::l) [s,.b,v2,v3,v4,v5,v6,v7] x E ρ' x'' ls')→G):G:=
 bB hf B fun d x1 hd B s1=>by
  obtain⟨l,e,he⟩:=WB d
  have h1:=Dl.comp hd.tk dO
  have hl:(d.t []++Dp).length≤Cf:=Ad h1.len (by decide)
  have et:d.t []++Dp=d.tk:=by rw[h1.eq];cases d<;>rfl
  have R:RS 41 (.val (.ref 797)) [] (d.t []++Dp) (d.t []++Dp) (.tup l) Dp:=by rw[et,←e];exact SY hd.ok ⟨et▸hl,et▸h1.ws,A0 _⟩
  have hp:ps (d.t []++Dp) Dp=(d.t []).length:=by unfold ps;rw[Ai,Nat.add_sub_cancel]
  have s2:GS 8 (.val (.ref 778)) [.int f] x (.tup [.lis (d.t []),.tup l]) x1:=by rw[←e];exact s1
  exact k x1 (.v (.lis (d.t []))) (.v (.tup l)) (.l E.length) (E++[.rdr (Gr (d.t []++Dp)) (ps (d.t []++Dp) Dp)]) B fun {l ρ' x'' ls'} r=>fT false (cG (as:=[.int f]) s2<|cA h1<|rD hl h1.ws<|kU R<|cNe he<|cAt<|cC (bl hd.tk.len)<|cD (t:= !decide (ps (d.t []++Dp) Dp=((d.t []).length:Nat))) (v:=false) (by rw[decide_eq_true hp];rfl) R0) r
theorem mM {f:Nat} (hf:f < 14) (B:D1 (c+23) x) (k:∀ x' w3 w7,D1 c x'→(∀ {l ρ' x'' ls'},FS gF 50 (.var 6) (N7 jN) l [s,.b,v2,w3,v4,v5,.v (.int f),w7] x' E ρ' x'' ls'→FS gF 50 (.var 6) (N7 jN) (.int f::l) [s,.b,v2,v3,v4,v5,v6,v7] x E ρ' x'' ls')→G):G:=
 SB hf B fun w x1 hw B s1=>by
  exact k x1 (.v (.lis w.1)) (.v (.int w.2)) B fun {l ρ' x'' ls'} r=>fT false (cG (as:=[.int f]) s1<|cC (t:=Ap (w.1++Dp).length Cf) (bl (la (X:=Dp) hw.len (Av 1)))<|cP (GB hw) R0) r
theorem bV (l:List Nat):∀ {c:Nat} {x:En} {E:Bu} {v2 v3 v4 v5:LV},(∀ f∈l,f < 7)→D1 (c+414*l.length) x→(∀ x' w2 w3 w4 w5 E',D1 c x'→FS gF 50 (.var 2) (N7 jM) (l.map fun f:Nat=>.int f) [s,.b,v2,v3,v4,v5,v6,v7] x E [s,.b,w2,w3,w4,w5,v6,v7] x' E'→G)→G:=by
 induction l with
 | nil=>exact fun Z B k=>k _ _ _ _ _ _ B fE
 | cons f l ih=>exact fun {c x E _ _ _ _} h B k=>mL (c:=c+414*l.length) (h f (.head _)) (by rw[Bf] at B;exact(B.dn (Au (Nat.add_assoc ..)))) fun x1 w3 w4 w5 E1 B r=>ih (fun g hg=>h g (.tail _ hg)) B fun x2 u2 u3 u4 u5 E2 B q=>k x2 u2 u3 u4 u5 E2 B (r q)
theorem bW (l:List Nat):∀ {c:Nat} {x:En} {v3 v6 v7:LV},(∀ f∈l,f < 14)→D1 (c+23*l.length) x→(∀ x' w3 w6 w7,FS gF 50 (.var 6) (N7 jN) (l.map fun f:Nat=>.int f) [s,.b,v2,v3,v4,v5,v6,v7] x E [s,.b,v2,w3,v4,v5,w6,w7] x' E→G)→G:=by
 induction l with
 | nil=>exact fun Z B k=>k _ _ _ _ fE
 | cons f l ih=>exact fun {c x _ _ _} h B k=>mM (c:=c+23*l.length) (h f (.head _)) (by rw[Bf] at B;exact(B.dn (Au (Nat.add_assoc ..)))) fun x1 w3 w7 B r=>ih (fun g hg=>h g (.tail _ hg)) B fun x2 u3 u6 u7 q=>k x2 u3 u6 u7 (r q)
end
theorem KL {ns:List Int} (hl:ns.length≤1000):∃ σ,Z7 60 ns= .ok (.v (.bool true)) σ:=by
 obtain⟨a,c,B,e⟩:=nD hl 58
 refine bV (s:=.v (.lis (ns.map .int))) (v2:=.un) (v3:=.un) (v4:=.un) (v5:=.un) (v6:=.un) (v7:=.un) (E:=[]) [0,1,2,3,4,5,6] (c:=1000) (x:=(a,c)) (by decide) (B.dn (by decide)) fun x1 w2 w3 w4 w5 E1 B r1=>?_
 refine bW (s:=.v (.lis (ns.map .int))) (v2:=w2) (v3:=w3) (v4:=w4) (v5:=w5) (v6:=.un) (v7:=.un) (E:=E1) [0,1,2,3,4,5,6,7,8,9,10,11,12,13] (c:=0) (x:=x1) (by decide) (B.dn (by decide)) fun x2 u3 u6 u7 r2=>?_
 let i:gF.I:=⟨9,⟨[MO.pen a c],⟨0,Nat.zero_lt_one⟩⟩⟩
 have s1:SS gF 50 jM [.v (.lis (ns.map .int)),.b,.un,.un,.un,.un,.un,.un] (a,c) [] [.v (.lis (ns.map .int)),.b,w2,w3,w4,w5,.un,.un] x1 E1:=fO (n:=7) (by decide) (fun Z=>rfl) r1
 have s2:SS gF 50 jN [.v (.lis (ns.map .int)),.b,w2,w3,w4,w5,.un,.un] x1 E1 [.v (.lis (ns.map .int)),.b,w2,u3,w4,w5,u6,u7] x2 E1:=fO (n:=14) (by decide) (fun Z=>rfl) r2
 have h:Is (gF.ct 50 i) (Dv (gF.ct 50 i).C [jM,jN,.ret (.const (.bool true))] ((gF.ct 50 i).rvs [.v (.lis (ns.map .int)),.b,.un,.un,.un,.un,.un,.un]) ((gF.ct 50 i).st (a,c) [])) (.ret (.v (.bool true)) x2 E1):=
  pZ s1 (pZ s2 (Z8 (u:=true) (es:=[]) (by kernel_rfl) trivial))
 obtain⟨ρ',h⟩:=h
 have f:Z7 60 ns=Ef (Cm 59) R4 [.v (.lis (ns.map .int))] []:=Uv rfl
 rw[f]
 unfold Ef
 have b:Dv (Cm 59) R4.body [.v (.lis (ns.map .int)),.un,.un,.un,.un,.un,.un,.un] []= .ok (.ret (.v (.bool true)),ρ') ((gF.ct 50 i).st x2 E1):=by
  refine Eq.trans ?_ h
  show Dv (Cm 59) (.assign (.var 1) (.call (.glob "_law_pen" (.val (.ref 639))) [.var 0])::[jM,jN,.ret (.const (.bool true))]) _ _=_
  exact congrArg (fun o=>B1.bind (B1.bind o _) _) e
 refine⟨[],(if_pos ⟨Av 1,Av 1,Nat.zero_le _,Ac rfl⟩).trans ?_⟩
 ·
  show I4 0 (B1.bind (Dv (Cm 59) R4.body [.v (.lis (ns.map .int)),.un,.un,.un,.un,.un,.un,.un] []) _)=_
  rw[b];rfl
end Q
open PySem.W PySem.Calls PyProof.Rows
theorem Tw {α:Type} {P:Prop} {c:Prop} [Decidable c] {x y:α} {T:α→Prop} (H:T (if c then x else y)) (k1:c→T x→P) (k2:¬c→T y→P):P:=if q:c then k1 q ((congrArg T (if_pos q)).mp H) else k2 q ((congrArg T (if_neg q)).mp H)
theorem nn {P:Prop} {α:Type} {a:α} (h:none=some a):P:=nomatch h
theorem ff {P:Prop} (h:false=true):P:=nomatch h
theorem b2 {a b:Bool} (h:(a&&b)=true):a=true∧b=true:=Bool.and_eq_true_iff.mp h
noncomputable def Ud (x0:Expr) (f:BoolOp→List Expr→Pos→Bool):Bool:=if h:x0.ctorIdx=0 then Expr.BoolOp.elim (motive_1:=fun Z=>Bool) x0 h f else false
theorem Gb {P:Prop} {x0:Expr} {f:BoolOp→List Expr→Pos→Bool} (h:Ud x0 f=true) (k:∀ o l p,x0= .BoolOp o l p→f o l p=true→P):P:=
 if q:x0.ctorIdx=0 then Expr.BoolOp.elim (motive_1:=fun x0=>Ud x0 f=true→(∀ o l p,x0= .BoolOp o l p→f o l p=true→P)→P) x0 q (fun o l p h z=>z o l p rfl h) h k else ff ((dif_neg q).symm.trans h)
noncomputable def Xf (x0:Expr) (f:Expr→Operator→Expr→Pos→Bool):Bool:=if h:x0.ctorIdx=2 then Expr.BinOp.elim (motive_1:=fun Z=>Bool) x0 h f else false
theorem Lf {P:Prop} {x0:Expr} {f:Expr→Operator→Expr→Pos→Bool} (h:Xf x0 f=true) (k:∀ a o b p,x0= .BinOp a o b p→f a o b p=true→P):P:=
 if q:x0.ctorIdx=2 then Expr.BinOp.elim (motive_1:=fun x0=>Xf x0 f=true→(∀ a o b p,x0= .BinOp a o b p→f a o b p=true→P)→P) x0 q (fun a o b p h z=>z a o b p rfl h) h k else ff ((dif_neg q).symm.trans h)
noncomputable def UC (x0:Expr) (f:UnaryOp→Expr→Pos→Bool):Bool:=if h:x0.ctorIdx=3 then Expr.UnaryOp.elim (motive_1:=fun Z=>Bool) x0 h f else false
theorem Li {P:Prop} {x0:Expr} {f:UnaryOp→Expr→Pos→Bool} (h:UC x0 f=true) (k:∀ o a p,x0= .UnaryOp o a p→f o a p=true→P):P:=
 if q:x0.ctorIdx=3 then Expr.UnaryOp.elim (motive_1:=fun x0=>UC x0 f=true→(∀ o a p,x0= .UnaryOp o a p→f o a p=true→P)→P) x0 q (fun o a p h z=>z o a p rfl h) h k else ff ((dif_neg q).symm.trans h)
noncomputable def LZ (x0:Expr) (f:Arguments→Expr→Scope→Pos→Bool):Bool:=if h:x0.ctorIdx=4 then Expr.Lambda.elim (motive_1:=fun Z=>Bool) x0 h f else false
theorem Xh {P:Prop} {x0:Expr} {f:Arguments→Expr→Scope→Pos→Bool} (h:LZ x0 f=true) (k:∀ a b s p,x0= .Lambda a b s p→f a b s p=true→P):P:=
 if q:x0.ctorIdx=4 then Expr.Lambda.elim (motive_1:=fun x0=>LZ x0 f=true→(∀ a b s p,x0= .Lambda a b s p→f a b s p=true→P)→P) x0 q (fun a b s p h z=>z a b s p rfl h) h k else ff ((dif_neg q).symm.trans h)
noncomputable def eL (x0:Expr) (f:Expr→Expr→Expr→Pos→Bool):Bool:=if h:x0.ctorIdx=5 then Expr.IfExp.elim (motive_1:=fun Z=>Bool) x0 h f else false
theorem Uh {P:Prop} {x0:Expr} {f:Expr→Expr→Expr→Pos→Bool} (h:eL x0 f=true) (k:∀ a b c p,x0= .IfExp a b c p→f a b c p=true→P):P:=
 if q:x0.ctorIdx=5 then Expr.IfExp.elim (motive_1:=fun x0=>eL x0 f=true→(∀ a b c p,x0= .IfExp a b c p→f a b c p=true→P)→P) x0 q (fun a b c p h z=>z a b c p rfl h) h k else ff ((dif_neg q).symm.trans h)
noncomputable def Ug (x0:Expr) (f:List (Option Expr)→List Expr→Pos→Bool):Bool:=if h:x0.ctorIdx=6 then Expr.Dict.elim (motive_1:=fun Z=>Bool) x0 h f else false
theorem Mv {P:Prop} {x0:Expr} {f:List (Option Expr)→List Expr→Pos→Bool} (h:Ug x0 f=true) (k:∀ k l p,x0= .Dict k l p→f k l p=true→P):P:=
 if q:x0.ctorIdx=6 then Expr.Dict.elim (motive_1:=fun x0=>Ug x0 f=true→(∀ k l p,x0= .Dict k l p→f k l p=true→P)→P) x0 q (fun k l p h z=>z k l p rfl h) h k else ff ((dif_neg q).symm.trans h)
noncomputable def Mu (x0:Expr) (f:Expr→List Comprehension→Scope→Pos→Bool):Bool:=if h:x0.ctorIdx=8 then Expr.ListComp.elim (motive_1:=fun Z=>Bool) x0 h f else false
theorem Fp {P:Prop} {x0:Expr} {f:Expr→List Comprehension→Scope→Pos→Bool} (h:Mu x0 f=true) (k:∀ a g s p,x0= .ListComp a g s p→f a g s p=true→P):P:=
 if q:x0.ctorIdx=8 then Expr.ListComp.elim (motive_1:=fun x0=>Mu x0 f=true→(∀ a g s p,x0= .ListComp a g s p→f a g s p=true→P)→P) x0 q (fun a g s p h z=>z a g s p rfl h) h k else ff ((dif_neg q).symm.trans h)
noncomputable def CQ (x0:Expr) (f:Expr→List CmpOp→List Expr→Pos→Bool):Bool:=if h:x0.ctorIdx=15 then Expr.Compare.elim (motive_1:=fun Z=>Bool) x0 h f else false
theorem Qa {P:Prop} {x0:Expr} {f:Expr→List CmpOp→List Expr→Pos→Bool} (h:CQ x0 f=true) (k:∀ a o l p,x0= .Compare a o l p→f a o l p=true→P):P:=
 if q:x0.ctorIdx=15 then Expr.Compare.elim (motive_1:=fun x0=>CQ x0 f=true→(∀ a o l p,x0= .Compare a o l p→f a o l p=true→P)→P) x0 q (fun a o l p h z=>z a o l p rfl h) h k else ff ((dif_neg q).symm.trans h)
noncomputable def G9 (x0:Expr) (f:Expr→List Expr→List Keyword→Pos→Bool):Bool:=if h:x0.ctorIdx=16 then Expr.Call.elim (motive_1:=fun Z=>Bool) x0 h f else false
theorem Ee {P:Prop} {x0:Expr} {f:Expr→List Expr→List Keyword→Pos→Bool} (h:G9 x0 f=true) (k:∀ a l k p,x0= .Call a l k p→f a l k p=true→P):P:=
 if q:x0.ctorIdx=16 then Expr.Call.elim (motive_1:=fun x0=>G9 x0 f=true→(∀ a l k p,x0= .Call a l k p→f a l k p=true→P)→P) x0 q (fun a l k p h z=>z a l k p rfl h) h k else ff ((dif_neg q).symm.trans h)
noncomputable def Gz (x0:Expr) (f:Const→Nat→Pos→Bool):Bool:=if h:x0.ctorIdx=19 then Expr.Constant.elim (motive_1:=fun Z=>Bool) x0 h f else false
theorem Ew {P:Prop} {x0:Expr} {f:Const→Nat→Pos→Bool} (h:Gz x0 f=true) (k:∀ c k p,x0= .Constant c k p→f c k p=true→P):P:=
 if q:x0.ctorIdx=19 then Expr.Constant.elim (motive_1:=fun x0=>Gz x0 f=true→(∀ c k p,x0= .Constant c k p→f c k p=true→P)→P) x0 q (fun c k p h z=>z c k p rfl h) h k else ff ((dif_neg q).symm.trans h)
noncomputable def Ie (x0:Expr) (f:Expr→Str→Pos→Bool):Bool:=if h:x0.ctorIdx=20 then Expr.Attribute.elim (motive_1:=fun Z=>Bool) x0 h f else false
theorem D7 {P:Prop} {x0:Expr} {f:Expr→Str→Pos→Bool} (h:Ie x0 f=true) (k:∀ a n p,x0= .Attribute a n p→f a n p=true→P):P:=
 if q:x0.ctorIdx=20 then Expr.Attribute.elim (motive_1:=fun x0=>Ie x0 f=true→(∀ a n p,x0= .Attribute a n p→f a n p=true→P)→P) x0 q (fun a n p h z=>z a n p rfl h) h k else ff ((dif_neg q).symm.trans h)
noncomputable def Xi (x0:Expr) (f:Expr→Expr→Pos→Bool):Bool:=if h:x0.ctorIdx=21 then Expr.Subscript.elim (motive_1:=fun Z=>Bool) x0 h f else false
theorem Jc {P:Prop} {x0:Expr} {f:Expr→Expr→Pos→Bool} (h:Xi x0 f=true) (k:∀ a b p,x0= .Subscript a b p→f a b p=true→P):P:=
 if q:x0.ctorIdx=21 then Expr.Subscript.elim (motive_1:=fun x0=>Xi x0 f=true→(∀ a b p,x0= .Subscript a b p→f a b p=true→P)→P) x0 q (fun a b p h z=>z a b p rfl h) h k else ff ((dif_neg q).symm.trans h)
noncomputable def Dj (x0:Expr) (f:Str→Pos→Bool):Bool:=if h:x0.ctorIdx=23 then Expr.Name.elim (motive_1:=fun Z=>Bool) x0 h f else false
theorem B5 {P:Prop} {x0:Expr} {f:Str→Pos→Bool} (h:Dj x0 f=true) (k:∀ x p,x0= .Name x p→f x p=true→P):P:=
 if q:x0.ctorIdx=23 then Expr.Name.elim (motive_1:=fun x0=>Dj x0 f=true→(∀ x p,x0= .Name x p→f x p=true→P)→P) x0 q (fun x p h z=>z x p rfl h) h k else ff ((dif_neg q).symm.trans h)
noncomputable def Qf (x0:Expr) (f:List Expr→Pos→Bool):Bool:=if h:x0.ctorIdx=24 then Expr.List.elim (motive_1:=fun Z=>Bool) x0 h f else false
theorem Gc {P:Prop} {x0:Expr} {f:List Expr→Pos→Bool} (h:Qf x0 f=true) (k:∀ l p,x0= .List l p→f l p=true→P):P:=
 if q:x0.ctorIdx=24 then Expr.List.elim (motive_1:=fun x0=>Qf x0 f=true→(∀ l p,x0= .List l p→f l p=true→P)→P) x0 q (fun l p h z=>z l p rfl h) h k else ff ((dif_neg q).symm.trans h)
noncomputable def Lh (x0:Expr) (f:List Expr→Nat→Pos→Bool):Bool:=if h:x0.ctorIdx=25 then Expr.Tuple.elim (motive_1:=fun Z=>Bool) x0 h f else false
theorem Fa {P:Prop} {x0:Expr} {f:List Expr→Nat→Pos→Bool} (h:Lh x0 f=true) (k:∀ l k p,x0= .Tuple l k p→f l k p=true→P):P:=
 if q:x0.ctorIdx=25 then Expr.Tuple.elim (motive_1:=fun x0=>Lh x0 f=true→(∀ l k p,x0= .Tuple l k p→f l k p=true→P)→P) x0 q (fun l k p h z=>z l k p rfl h) h k else ff ((dif_neg q).symm.trans h)
noncomputable def Uj (x0:Expr) (f:Option Expr→Option Expr→Option Expr→Pos→Bool):Bool:=if h:x0.ctorIdx=26 then Expr.Slice.elim (motive_1:=fun Z=>Bool) x0 h f else false
theorem Zs {P:Prop} {x0:Expr} {f:Option Expr→Option Expr→Option Expr→Pos→Bool} (h:Uj x0 f=true) (k:∀ a b c p,x0= .Slice a b c p→f a b c p=true→P):P:=
 if q:x0.ctorIdx=26 then Expr.Slice.elim (motive_1:=fun x0=>Uj x0 f=true→(∀ a b c p,x0= .Slice a b c p→f a b c p=true→P)→P) x0 q (fun a b c p h z=>z a b c p rfl h) h k else ff ((dif_neg q).symm.trans h)
noncomputable def Sc (x0:Stmt) (f:Option Expr→Pos→Bool):Bool:=if h:x0.ctorIdx=3 then Stmt.Return.elim (motive_2:=fun Z=>Bool) x0 h f else false
theorem Lg {P:Prop} {x0:Stmt} {f:Option Expr→Pos→Bool} (h:Sc x0 f=true) (k:∀ a p,x0= .Return a p→f a p=true→P):P:=
 if q:x0.ctorIdx=3 then Stmt.Return.elim (motive_2:=fun x0=>Sc x0 f=true→(∀ a p,x0= .Return a p→f a p=true→P)→P) x0 q (fun a p h z=>z a p rfl h) h k else ff ((dif_neg q).symm.trans h)
noncomputable def P8 (x0:Stmt) (f:List Expr→Expr→Pos→Bool):Bool:=if h:x0.ctorIdx=5 then Stmt.Assign.elim (motive_2:=fun Z=>Bool) x0 h f else false
theorem Hq {P:Prop} {x0:Stmt} {f:List Expr→Expr→Pos→Bool} (h:P8 x0 f=true) (k:∀ l v p,x0= .Assign l v p→f l v p=true→P):P:=
 if q:x0.ctorIdx=5 then Stmt.Assign.elim (motive_2:=fun x0=>P8 x0 f=true→(∀ l v p,x0= .Assign l v p→f l v p=true→P)→P) x0 q (fun l v p h z=>z l v p rfl h) h k else ff ((dif_neg q).symm.trans h)
noncomputable def CR (x0:Stmt) (f:Expr→Expr→List Stmt→List Stmt→Pos→Bool):Bool:=if h:x0.ctorIdx=9 then Stmt.For.elim (motive_2:=fun Z=>Bool) x0 h f else false
theorem Qc {P:Prop} {x0:Stmt} {f:Expr→Expr→List Stmt→List Stmt→Pos→Bool} (h:CR x0 f=true) (k:∀ t i b e p,x0= .For t i b e p→f t i b e p=true→P):P:=
 if q:x0.ctorIdx=9 then Stmt.For.elim (motive_2:=fun x0=>CR x0 f=true→(∀ t i b e p,x0= .For t i b e p→f t i b e p=true→P)→P) x0 q (fun t i b e p h z=>z t i b e p rfl h) h k else ff ((dif_neg q).symm.trans h)
noncomputable def MF (x0:Stmt) (f:Expr→List Stmt→List Stmt→Pos→Bool):Bool:=if h:x0.ctorIdx=11 then Stmt.While.elim (motive_2:=fun Z=>Bool) x0 h f else false
theorem MG {P:Prop} {x0:Stmt} {f:Expr→List Stmt→List Stmt→Pos→Bool} (h:MF x0 f=true) (k:∀ t b e p,x0= .While t b e p→f t b e p=true→P):P:=
 if q:x0.ctorIdx=11 then Stmt.While.elim (motive_2:=fun x0=>MF x0 f=true→(∀ t b e p,x0= .While t b e p→f t b e p=true→P)→P) x0 q (fun t b e p h z=>z t b e p rfl h) h k else ff ((dif_neg q).symm.trans h)
noncomputable def LW (x0:Stmt) (f:Expr→List Stmt→List Stmt→Pos→Bool):Bool:=if h:x0.ctorIdx=12 then Stmt.If.elim (motive_2:=fun Z=>Bool) x0 h f else false
theorem LY {P:Prop} {x0:Stmt} {f:Expr→List Stmt→List Stmt→Pos→Bool} (h:LW x0 f=true) (k:∀ t b e p,x0= .If t b e p→f t b e p=true→P):P:=
 if q:x0.ctorIdx=12 then Stmt.If.elim (motive_2:=fun x0=>LW x0 f=true→(∀ t b e p,x0= .If t b e p→f t b e p=true→P)→P) x0 q (fun t b e p h z=>z t b e p rfl h) h k else ff ((dif_neg q).symm.trans h)
noncomputable def MA (x0:Stmt) (f:Option Expr→Option Expr→Pos→Bool):Bool:=if h:x0.ctorIdx=16 then Stmt.Raise.elim (motive_2:=fun Z=>Bool) x0 h f else false
theorem MB {P:Prop} {x0:Stmt} {f:Option Expr→Option Expr→Pos→Bool} (h:MA x0 f=true) (k:∀ a b p,x0= .Raise a b p→f a b p=true→P):P:=
 if q:x0.ctorIdx=16 then Stmt.Raise.elim (motive_2:=fun x0=>MA x0 f=true→(∀ a b p,x0= .Raise a b p→f a b p=true→P)→P) x0 q (fun a b p h z=>z a b p rfl h) h k else ff ((dif_neg q).symm.trans h)
noncomputable def MC (x0:Stmt) (f:List Stmt→List ExceptHandler→List Stmt→List Stmt→Pos→Bool):Bool:=if h:x0.ctorIdx=17 then Stmt.Try.elim (motive_2:=fun Z=>Bool) x0 h f else false
theorem MD {P:Prop} {x0:Stmt} {f:List Stmt→List ExceptHandler→List Stmt→List Stmt→Pos→Bool} (h:MC x0 f=true) (k:∀ b hs e g p,x0= .Try b hs e g p→f b hs e g p=true→P):P:=
 if q:x0.ctorIdx=17 then Stmt.Try.elim (motive_2:=fun x0=>MC x0 f=true→(∀ b hs e g p,x0= .Try b hs e g p→f b hs e g p=true→P)→P) x0 q (fun b hs e g p h z=>z b hs e g p rfl h) h k else ff ((dif_neg q).symm.trans h)
noncomputable def Xg (x0:Stmt) (f:Expr→Pos→Bool):Bool:=if h:x0.ctorIdx=24 then Stmt.Expr.elim (motive_2:=fun Z=>Bool) x0 h f else false
theorem Qb {P:Prop} {x0:Stmt} {f:Expr→Pos→Bool} (h:Xg x0 f=true) (k:∀ a p,x0= .Expr a p→f a p=true→P):P:=
 if q:x0.ctorIdx=24 then Stmt.Expr.elim (motive_2:=fun x0=>Xg x0 f=true→(∀ a p,x0= .Expr a p→f a p=true→P)→P) x0 q (fun a p h z=>z a p rfl h) h k else ff ((dif_neg q).symm.trans h)
noncomputable def LS (x0:Stmt) (f:Pos→Bool):Bool:=if h:x0.ctorIdx=26 then Stmt.Break.elim (motive_2:=fun Z=>Bool) x0 h f else false
theorem LT {P:Prop} {x0:Stmt} {f:Pos→Bool} (h:LS x0 f=true) (k:∀ p,x0= .Break p→f p=true→P):P:=
 if q:x0.ctorIdx=26 then Stmt.Break.elim (motive_2:=fun x0=>LS x0 f=true→(∀ p,x0= .Break p→f p=true→P)→P) x0 q (fun p h z=>z p rfl h) h k else ff ((dif_neg q).symm.trans h)
noncomputable def N4 (x0:Const) (f:Bool):Bool:=if h:x0.ctorIdx=0 then Const.none.elim (motive:=fun Z=>Bool) x0 h f else false
theorem P9 {P:Prop} {x0:Const} {f:Bool} (h:N4 x0 f=true) (k:x0= .none→f=true→P):P:=
 if q:x0.ctorIdx=0 then Const.none.elim (motive:=fun x0=>N4 x0 f=true→(x0= .none→f=true→P)→P) x0 q (fun h k=>k rfl h) h k else ff ((dif_neg q).symm.trans h)
noncomputable def Ue (x0:Const) (f:Bool→Bool):Bool:=if h:x0.ctorIdx=1 then Const.bool.elim (motive:=fun Z=>Bool) x0 h f else false
theorem Zn {P:Prop} {x0:Const} {f:Bool→Bool} (h:Ue x0 f=true) (k:∀ b,x0= .bool b→f b=true→P):P:=
 if q:x0.ctorIdx=1 then Const.bool.elim (motive:=fun x0=>Ue x0 f=true→(∀ b,x0= .bool b→f b=true→P)→P) x0 q (fun b h z=>z b rfl h) h k else ff ((dif_neg q).symm.trans h)
noncomputable def Mt (x0:Const) (f:Int→Bool):Bool:=if h:x0.ctorIdx=2 then Const.int.elim (motive:=fun Z=>Bool) x0 h f else false
theorem Jn {P:Prop} {x0:Const} {f:Int→Bool} (h:Mt x0 f=true) (k:∀ i,x0= .int i→f i=true→P):P:=
 if q:x0.ctorIdx=2 then Const.int.elim (motive:=fun x0=>Mt x0 f=true→(∀ i,x0= .int i→f i=true→P)→P) x0 q (fun i h z=>z i rfl h) h k else ff ((dif_neg q).symm.trans h)
noncomputable def Uf (x0:Const) (f:Str→Bool):Bool:=if h:x0.ctorIdx=5 then Const.str.elim (motive:=fun Z=>Bool) x0 h f else false
theorem Sa {P:Prop} {x0:Const} {f:Str→Bool} (h:Uf x0 f=true) (k:∀ s,x0= .str s→f s=true→P):P:=
 if q:x0.ctorIdx=5 then Const.str.elim (motive:=fun x0=>Uf x0 f=true→(∀ s,x0= .str s→f s=true→P)→P) x0 q (fun s h z=>z s rfl h) h k else ff ((dif_neg q).symm.trans h)
noncomputable def Uk (x0:Bq) (f:Addr→Bool):Bool:=if h:x0.ctorIdx=10 then Bq.ref.elim (motive:=fun Z=>Bool) x0 h f else false
theorem Sd {P:Prop} {x0:Bq} {f:Addr→Bool} (h:Uk x0 f=true) (k:∀ a,x0= .ref a→f a=true→P):P:=
 if q:x0.ctorIdx=10 then Bq.ref.elim (motive:=fun x0=>Uk x0 f=true→(∀ a,x0= .ref a→f a=true→P)→P) x0 q (fun a h z=>z a rfl h) h k else ff ((dif_neg q).symm.trans h)
noncomputable def Zt (x0:Bq) (f:String→Bool):Bool:=if h:x0.ctorIdx=9 then Bq.builtin.elim (motive:=fun Z=>Bool) x0 h f else false
theorem FQ {P:Prop} {x0:Bq} {f:String→Bool} (h:Zt x0 f=true) (k:∀ a,x0= .builtin a→f a=true→P):P:=
 if q:x0.ctorIdx=9 then Bq.builtin.elim (motive:=fun x0=>Zt x0 f=true→(∀ a,x0= .builtin a→f a=true→P)→P) x0 q (fun a h z=>z a rfl h) h k else ff ((dif_neg q).symm.trans h)
noncomputable def Zu (x0:Bq) (f:String→Bool):Bool:=if h:x0.ctorIdx=8 then Bq.type.elim (motive:=fun Z=>Bool) x0 h f else false
theorem FR {P:Prop} {x0:Bq} {f:String→Bool} (h:Zu x0 f=true) (k:∀ a,x0= .type a→f a=true→P):P:=
 if q:x0.ctorIdx=8 then Bq.type.elim (motive:=fun x0=>Zu x0 f=true→(∀ a,x0= .type a→f a=true→P)→P) x0 q (fun a h z=>z a rfl h) h k else ff ((dif_neg q).symm.trans h)
noncomputable def Zr (x0:MV) (f:Bq→Bool):Bool:=if h:x0.ctorIdx=8 then MV.val.elim (motive_1:=fun Z=>Bool) x0 h f else false
theorem FP {P:Prop} {x0:MV} {f:Bq→Bool} (h:Zr x0 f=true) (k:∀ v,x0= .val v→f v=true→P):P:=
 if q:x0.ctorIdx=8 then MV.val.elim (motive_1:=fun x0=>Zr x0 f=true→(∀ v,x0= .val v→f v=true→P)→P) x0 q (fun v h z=>z v rfl h) h k else ff ((dif_neg q).symm.trans h)
noncomputable def Zq (x0:MV) (f:Str→Bool):Bool:=if h:x0.ctorIdx=3 then MV.str.elim (motive_1:=fun Z=>Bool) x0 h f else false
theorem FO {P:Prop} {x0:MV} {f:Str→Bool} (h:Zq x0 f=true) (k:∀ s,x0= .str s→f s=true→P):P:=
 if q:x0.ctorIdx=3 then MV.str.elim (motive_1:=fun x0=>Zq x0 f=true→(∀ s,x0= .str s→f s=true→P)→P) x0 q (fun s h z=>z s rfl h) h k else ff ((dif_neg q).symm.trans h)
noncomputable def Zp (x0:MV) (f:Int→Bool):Bool:=if h:x0.ctorIdx=2 then MV.int.elim (motive_1:=fun Z=>Bool) x0 h f else false
theorem FN {P:Prop} {x0:MV} {f:Int→Bool} (h:Zp x0 f=true) (k:∀ i,x0= .int i→f i=true→P):P:=
 if q:x0.ctorIdx=2 then MV.int.elim (motive_1:=fun x0=>Zp x0 f=true→(∀ i,x0= .int i→f i=true→P)→P) x0 q (fun i h z=>z i rfl h) h k else ff ((dif_neg q).symm.trans h)
noncomputable def Ui (x0:MV) (f:Bool):Bool:=if h:x0.ctorIdx=9 then MV.figs.elim (motive_1:=fun Z=>Bool) x0 h f else false
theorem Zo {P:Prop} {x0:MV} {f:Bool} (h:Ui x0 f=true) (k:x0= .figs→f=true→P):P:=
 if q:x0.ctorIdx=9 then MV.figs.elim (motive_1:=fun x0=>Ui x0 f=true→(x0= .figs→f=true→P)→P) x0 q (fun h k=>k rfl h) h k else ff ((dif_neg q).symm.trans h)
noncomputable def one {α:Type}:List α→(α→Bool)→Bool
 | [x],f=>f x
 | _,_=>false
theorem Dr {P:Prop} {α:Type} {f:α→Bool} {l:List α} (h:one l f=true) (k:∀ x,l=[x]→f x=true→P):P:=by
 cases l with
 | nil=>exact ff h
 | cons x l=>
  cases l with
  | nil=>exact k x rfl h
  | cons _ _=>exact ff h
noncomputable def IF {α:Type} (l:List α) (f:α→List α→Bool):Bool:=match l with
 | x::xs=>f x xs
 | []=>false
theorem Oz {P:Prop} {α:Type} {f:α→List α→Bool} {l:List α} (h:IF l f=true) (k:∀ x xs,l=x::xs→f x xs=true→P):P:=by
 cases l with
 | nil=>exact ff h
 | cons x xs=>exact k x xs rfl h
noncomputable def two {α:Type}:List α→(α→α→Bool)→Bool
 | [x,y],f=>f x y
 | _,_=>false
theorem Jh {P:Prop} {α:Type} {f:α→α→Bool} {l:List α} (h:two l f=true) (k:∀ x y,l=[x,y]→f x y=true→P):P:=by
 cases l with
 | nil=>exact ff h
 | cons x l=>
  cases l with
  | nil=>exact ff h
  | cons y l=>
   cases l with
   | nil=>exact k x y rfl h
   | cons _ _=>exact ff h
noncomputable def nil {α:Type}:List α→Bool
 | []=>true
 | _=>false
theorem Cc {α:Type} {l:List α} (h:nil l=true):l=[]:=by
 cases l with
 | nil=>rfl
 | cons _ _=>exact ff h
noncomputable def opt {α:Type}:Option α→(α→Bool)→Bool
 | some a,f=>f a
 | none,_=>false
theorem C2 {P:Prop} {α:Type} {f:α→Bool}:∀ {o:Option α},opt o f=true→(∀ a,o=some a→f a=true→P)→P
 | some a,h,k=>k a rfl h
 | none,h,_=>ff h
noncomputable def dS {α:Type}:Option α→Bool
 | some _=>false
 | none=>true
theorem Mq {α:Type} {o:Option α} (h:dS o=true):o=none:=by
 cases o with
 | none=>rfl
 | some _=>exact ff h
theorem Cv {β:Type} {a k:Str} {v:β} {l:List (Str×β)}:((k,v)::l).lookup a=if a=k then some v else l.lookup a:=by
 show(match a==k with | true=>some v | false=>l.lookup a)=_
 by_cases e:a=k
 · rw[if_pos e,beq_iff_eq.mpr e]
 · rw[if_neg e,(beq_eq_false_iff_ne.mpr e:(a==k)=false)]
theorem KA {i:Int} {n:Nat} (h0:0≤i) (h:i.toNat < n) (hz:n≤1048576):i < 2^63:=Int.lt_trans ((Int.toNat_lt h0).mp (Bb h hz)) (by decide)
theorem KB {i:Int} (h0:0≤i): -(2^63)≤i:=Int.le_trans (by decide) h0
theorem KC {i:Int} (h0: -(2^63)≤i) (h:i < 2^63):(decide (i < -(2^63:Int))||decide (i≥2^63))=false:=by rw[decide_eq_false (Int.not_lt.mpr h0),decide_eq_false (Int.not_le.mpr h)];rfl
theorem nk {α:Type} {r:α} {σ:Bu} {P:Prop} (h:B1.no=B1.ok r σ):P:=nomatch h
theorem Ul {P:Prop} {α β:Type} {l:List α} {f:α→Option β} {b:β} (h:UE l f=some b) (k:∀ x,l=[x]→f x=some b→P):P:=by
 cases l with
 | nil=>exact nn h
 | cons x l=>
  cases l with
  | nil=>exact k x rfl h
  | cons _ _=>exact nn h
theorem Cw {α β:Type} {P:Prop} {x:α} {o:Option β} {f:β→α} (h:o.map f=some x) (k:∀ a,o=some a→f a=x→P):P:=by
 cases o with
 | none=>exact nn h
 | some a=>exact k a rfl (Ab h)
theorem Hy {α β:Type} {P:Prop} {x:α} {o:Option β} {f:β→Option α} (h:o.bind f=some x) (k:∀ a,o=some a→f a=some x→P):P:=by
 cases o with
 | none=>exact nn h
 | some a=>exact k a rfl h
noncomputable abbrev prog:=PySem.Challenge.pw_pb0280_01
noncomputable abbrev F4:Addr:=232
noncomputable abbrev B9:=Addr→Obj→Prop
noncomputable def B9.le (P P':B9):Prop:=∀ a o,P a o→P' a o
noncomputable def qU (es:List Bl) (k w:Str) (at_:Bq):Prop:=
 ∃ e1 e2 e3 e4:Bl,es=[e1,e2,e3,e4]∧(∃ t,e1.key= .str "kind" t)∧(∃ t,e2.key= .str "worth" t)∧(∃ t,e3.key= .str "at" t)∧(∃ t,e4.key= .str "is_in_a" t)∧
  (∃ t,e1.val= .str k t)∧(∃ t,e2.val= .str w t)∧e3.val=at_
noncomputable def R9 (P:B9) (v:Bq) (vs:List Bq):Prop:=∃ a o n,v= .ref a∧P a o∧o.cls= .type "tuple"∧o.data= .seq vs.toArray n
noncomputable def Ws (P:B9) (v:Bq) (vs:List Bq):Prop:=∃ a o n,v= .ref a∧P a o∧o.cls= .type "list"∧o.data= .seq vs.toArray n
structure qW where
 a:Addr
 dx:Addr
 sl:Array (Option Bq)
 es:List Bl
 n:Nat
 at_:Bq
 t1:Tok
 t2:Tok
structure qV (P:B9) (k w:Str) (i:Int) (v:Bq) (x:qW):Prop where
 v:v= .ref x.a
 o:P x.a {cls:=.ref C6,dict:=some x.dx,data:=.plain,slots:=x.sl}
 d:P x.dx (dictOf x.es x.n)
 e:qU x.es k w x.at_
 u:R9 P x.at_ [.int i x.t1,.int 12 x.t2]
noncomputable def Wu (P:B9) (v:Bq) (k w:Str) (i:Int):Prop:=∃ x,qV P k w i v x
noncomputable def KG (a:Arguments) (e:Expr) (sc:Scope):Bool:=
 nil a.posonlyargs&&(one a.args fun x=>Cb x.arg "inner"&&dS x.annotation)&&dS a.vararg&&nil a.kwonlyargs&&nil a.kw_defaults&&dS a.kwarg&&nil a.defaults&&
 (G9 e fun f l kw Z=>Dj f (fun f Z=>Cb f "read_sum")&&nil kw&&two l fun y b=>Dj y (fun y Z=>Cb y "inner")&&Xf b fun d o n Z=>decide (o= .Add)&&Dj d (fun d Z=>Cb d "depth")&&Gz n fun c Z Z=>Mt c fun i=>decide (i=1))&&
 sc.names==[(Aa "inner",NameKind.local),(Aa "depth",NameKind.free),(Aa "read_sum",NameKind.globalImplicit)]&&sc.kind== .function&& !sc.isGenerator&& !sc.isCoroutine
noncomputable def Rp:Str:="read_primary.<locals>.<lambda>"
noncomputable def Km (P:B9) (c:Addr) (q:Str):Prop:=∃ o vs t,P c o∧o.cls= .type "code"∧o.data= .fields vs∧vs[1]?=some (.str q t)
noncomputable def Mm (P:B9) (c:Addr) (v:Bq):Prop:=∃ o,P c o∧o.cls= .type "cell"∧o.data= .cell (some v)
structure qH where
 a:Addr
 o:Obj
 c:Addr
 t:Tok
 args:Arguments
 body:Expr
 sc:Scope
 pm:Bq
 c':Addr
 ct:Bq
structure qG (P:B9) (v:Bq) (d:Int) (x:qH):Prop where
 v:v= .ref x.a
 o:P x.a x.o
 c:x.o.cls= .type "function"
 f:x.o.data= .func (kla_fn "<lambda>" Rp x.args x.body x.sc [("depth",x.c)] x.pm (.ref x.c') x.ct)
 l:KG x.args x.body x.sc=true
 i:Mm P x.c (.int d x.t)
 q:Km P x.c' Rp
noncomputable def M9 (P:B9) (v:Bq) (d:Int):Prop:=∃ x,qG P v d x
mutual
noncomputable def VR (P:B9):MV→Bq→Prop
 | .none,v=>v= .none
 | .bool b,v=>v= .bool b
 | .int i,v=>∃ t,v= .int i t
 | .str s,v=>∃ t,v= .str s t
 | .bytes b,v=>∃ t,v= .bytes b t
 | .tup l,v=>∃ vs,R9 P v vs∧Ds P l vs
 | .lis l,v=>∃ vs,Ws P v vs∧Ds P l vs
 | .tok k w i,v=>Wu P v k w i
 | .val w,v=>v=w
 | .figs,v=>v= .ref 132
 | .clo d,v=>M9 P v d
noncomputable def Ds (P:B9):List MV→List Bq→Prop
 | [],vs=>vs=[]
 | m::ms,vs=>∃ v r,vs=v::r∧VR P m v∧Ds P ms r
end
section
variable {P P':B9} (x:P.le P')
include x
theorem R9.up {v:Bq} {vs:List Bq} (h:R9 P v vs):R9 P' v vs:=h.imp fun a h=>h.imp fun o h=>h.imp fun n h=>⟨h.1,x _ _ h.2.1,h.2.2⟩
theorem Ws.up {v:Bq} {vs:List Bq} (h:Ws P v vs):Ws P' v vs:=h.imp fun a h=>h.imp fun o h=>h.imp fun n h=>⟨h.1,x _ _ h.2.1,h.2.2⟩
theorem Wu.up {v:Bq} {k w:Str} {i:Int}:Wu P v k w i→Wu P' v k w i:=fun⟨y,h⟩=>⟨y,h.v,x _ _ h.o,x _ _ h.d,h.e,h.u.up x⟩
theorem Km.up {c:Addr} {q:Str} (h:Km P c q):Km P' c q:=h.imp fun o h=>h.imp fun vs h=>h.imp fun t h=>⟨x _ _ h.1,h.2⟩
theorem Mm.up {c:Addr} {v:Bq}:Mm P c v→Mm P' c v:=fun⟨o,hp,r⟩=>⟨o,x _ _ hp,r⟩
theorem M9.up {v:Bq} {d:Int}:M9 P v d→M9 P' v d:=fun⟨y,h⟩=>⟨y,h.v,x _ _ h.o,h.c,h.f,h.l,h.i.up x,h.q.up x⟩
mutual
theorem VR.up:∀(m:MV) {v:Bq},VR P m v→VR P' m v
 | .none,_,h | .bool _,_,h | .int _,_,h | .str _,_,h | .bytes _,_,h | .val _,_,h | .figs,_,h=>h
 | .tup l,v,⟨vs,a,b⟩=>⟨vs,a.up x,Ds.up l b⟩
 | .lis l,v,⟨vs,a,b⟩=>⟨vs,a.up x,Ds.up l b⟩
 | .tok ..,v,h=>Wu.up x h
 | .clo d,v,h=>M9.up x h
theorem Ds.up:∀(l:List MV) {vs:List Bq},Ds P l vs→Ds P' l vs
 | [],_,h=>h
 | m::ms,_,⟨v,r,e,a,b⟩=>⟨v,r,e,VR.up m a,Ds.up ms b⟩
end
end
section
variable {P:B9}
theorem Ds.length:∀ {l:List MV} {vs:List Bq},Ds P l vs→vs.length=l.length
 | [],_,h=>congrArg List.length (show _=[] from h)
 | m::ms,_,⟨v,r,e,_,b⟩=>e▸congrArg Nat.succ b.length
theorem Ds.append {l':List MV} {vs':List Bq} (h':Ds P l' vs'):∀ {l:List MV} {vs:List Bq},Ds P l vs→Ds P (l++l') (vs++vs')
 | [],_,h=>(show _=[] from h)▸h'
 | m::ms,_,⟨v,r,e,a,b⟩=>⟨v,r++vs',e▸rfl,a,Ds.append h' b⟩
theorem Ds.get {l:List MV}:∀ {vs:List Bq},Ds P l vs→∀ {i:Nat} {m:MV},l[i]?=some m→∃ v,vs[i]?=some v∧VR P m v:=by
 induction l with
 | nil=>intro vs h i m e;exact nomatch e
 | cons x xs ih=>
  intro vs h i m q
  obtain⟨v,r,e,a,b⟩:=h
  rw[e]
  cases i with
  | zero=>exact⟨v,rfl,Ab q▸a⟩
  | succ i=>exact ih b (i:=i) q
theorem Ds.take {l:List MV}:∀ {vs:List Bq} (n:Nat),Ds P l vs→Ds P (l.take n) (vs.take n):=by
 induction l with
 | nil=>intro vs n h;rw[show vs=[] from h,List.take_nil,List.take_nil];rfl
 | cons x xs ih=>
  intro vs n h
  cases n with
  | zero=>rfl
  | succ n=>exact h.imp fun v h=>h.elim fun r h=>⟨r.take n,h.1▸rfl,h.2.1,ih n h.2.2⟩
theorem Ds.drop {l:List MV}:∀ {vs:List Bq} (n:Nat),Ds P l vs→Ds P (l.drop n) (vs.drop n):=by
 induction l with
 | nil=>exact fun n h=>(show _=[] from h)▸by rw[List.drop_nil,List.drop_nil];rfl
 | cons x xs ih=>
  intro vs n h
  cases n with
  | zero=>exact h
  | succ n=>exact h.elim fun v h=>h.elim fun r h=>h.1▸ih n h.2.2
end
noncomputable def Ni (P:B9):List (Str×MV)→List (Str×Bq)→Prop
 | [],es=>es=[]
 | (k,m)::r,es=>∃ v es',es=(k,v)::es'∧VR P m v∧Ni P r es'
theorem Ni.up {P P':B9} (x:P.le P') {d:List (Str×MV)}:∀ {es:List (Str×Bq)},Ni P d es→Ni P' d es:=by
 induction d with
 | nil=>exact fun h=>h
 | cons p r ih=>exact fun h=>h.imp fun v h=>h.imp fun es' h=>⟨h.1,VR.up x _ h.2.1,ih h.2.2⟩
set_option genCtorIdx false in
inductive D2 where
 | seq (d:Bool) (vs:List Bq)
 | ns (m:Str→Option Bq)
 | cell (v:Option Bq)
 | dic (kvs:List (Str×Bq))
 | rdr (t i n:Bq)
 | tab (c:Option Addr)
 | any (p:Obj→Prop)
noncomputable def D2.ctorIdx (x:D2):Nat:=x.casesOn (fun Z Z=>0) (fun Z=>1) (fun Z=>2) (fun Z=>3) (fun Z Z Z=>4) (fun Z=>5) fun Z=>6
noncomputable def nsO (m:Str→Option Bq) (o:Obj):Prop:=∃ es ep,o.data= .dict es ep∧StrKeys es∧∀ name,nsFind es name=m name
noncomputable def sN (t i n:Bq) (o:Obj):Prop:=∃(e1 e2 e3:Bl) (k:Nat),o=dictOf [e1,e2,e3] k∧((∃ u,e1.key= .str "tokens" u)∧e1.val=t)∧((∃ u,e2.key= .str "at" u)∧e2.val=i)∧(∃ u,e3.key= .str "named" u)∧e3.val=n
noncomputable def D2.ok (w:World):D2→Obj→Prop
 | .seq d vs,o=>o.cls= .type "list"∧(∃ n,o.data= .seq vs.toArray n)∧(d=true→o.dict=none)
 | .ns m,o=>nsO m o
 | .cell v,o=>o.cls= .type "cell"∧o.data= .cell v
 | .dic kvs,o=>Obj.IsDictOf (strKind prog w) o kvs
 | .rdr t i n,o=>sN t i n o
 | .tab none,o=>o=tabObj #[]
 | .tab (some c),o=>o=tabObj #[rawInt 174,rawInt 36,.ref c]
 | .any p,o=>p o
noncomputable def SR (P:B9) (mo:MO) (ab:Addr×Addr) (c:D2):Prop:=match mo with
 | .list l=>∃ vs,c= .seq true vs∧ab.1=ab.2∧Ds P l vs
 | .pen n k=>∃ t u,c= .seq false [.int n t,.int k u]∧ab.1=ab.2
 | .dict d=>∃ kvs,c= .dic kvs∧ab.1=ab.2∧Ni P d kvs
 | .rdr ts i=>∃ t v n,c= .rdr t v n∧(∃ sl,P ab.1 {cls:=.ref B3,dict:=some ab.2,data:=.plain,slots:=sl})∧VR P (.lis ts) t∧(∃ u,v= .int i u)∧∃ a,n= .ref a
noncomputable def D2.kd:D2→Nat
 | .ns _=>1
 | .cell _=>2
 | .any _=>3
 | _=>0
noncomputable def D2.isTab:D2→Bool
 | .tab _=>true
 | _=>false
section
variable {P:B9} {ab:Addr×Addr}
theorem SR.up {P':B9} (x:P.le P') {c:D2} {mo:MO} (h:SR P mo ab c):SR P' mo ab c:=by
 cases mo with
 | list l=>exact Exists.imp (fun vs h=>⟨h.1,h.2.1,Ds.up x _ h.2.2⟩) h
 | pen n k=>exact h
 | dict d=>exact Exists.imp (fun vs h=>⟨h.1,h.2.1,h.2.2.up x⟩) h
 | rdr ts i=>exact Exists.imp (fun t h=>h.imp fun v h=>h.imp fun n h=>⟨h.1,h.2.1.imp fun sl a=>x _ _ a,VR.up x _ h.2.2.1,h.2.2.2⟩) h
theorem SR.con {c:D2} {mo:MO} (h:SR P mo ab c):c.kd=0∧c.isTab=false:=by
 cases mo with
 | list l=>exact Exists.elim h fun vs h=>h.1▸⟨rfl,rfl⟩
 | pen n k=>exact Exists.elim h fun t h=>h.elim fun u h=>h.1▸⟨rfl,rfl⟩
 | dict d=>exact Exists.elim h fun vs h=>h.1▸⟨rfl,rfl⟩
 | rdr ts i=>exact Exists.elim h fun t h=>h.elim fun v h=>h.elim fun n h=>h.1▸⟨rfl,rfl⟩
theorem SR.kd {mo:MO} {c:D2} (h:SR P mo ab c):c.kd=0:=h.con.1
theorem SR.notTab {mo:MO} {t:Option Addr} (h:SR P mo ab (.tab t)):False:=nomatch h.con.2
end
noncomputable def jH (P:B9) (bs:List (Addr×Addr)):RV→Bq→Prop
 | .v m,v=>VR P m v
 | .loc r,v=>∃ ab,bs[r]?=some ab∧v= .ref ab.1
 | .un,_=>False
noncomputable def G3 (P:B9) (bs:List (Addr×Addr)):List RV→List Bq→Prop
 | [],vs=>vs=[]
 | m::ms,vs=>∃ v r,vs=v::r∧jH P bs m v∧G3 P bs ms r
structure Gx where
 w:World
 hB:Heap
structure Wd where
 F:B9
 S:Addr→Option D2
 bs:List (Addr×Addr)
 σ:Bu
 s:Bk
structure B6 (G:Gx) (W:Wd):Prop where
 fh:∀ a o,W.F a o→W.s.heap.get? a=some o
 fs:∀ a o,W.F a o→W.S a=none
 sh:∀ a c,W.S a=some c→∃ o,W.s.heap.get? a=some o∧c.ok G.w o
 old:∀ a o,G.hB.get? a=some o→W.F a o
 sto:∀(i:Nat) (mo:MO),W.σ[i]?=some mo→∃ ab c,W.bs[i]?=some ab∧W.S ab.2=some c∧SR W.F mo ab c
 len:W.bs.length=W.σ.length
 inj:∀(i j:Nat) (a b:Addr×Addr),W.bs[i]?=some a→W.bs[j]?=some b→a.2=b.2→i=j
 tab:∃ c,W.S F4=some (.tab c)∧∀ x,c=some x→Km W.F x Rp
structure Le (m:List Addr) (W W':Wd):Prop where
 F:W.F.le W'.F
 bs:∃ r,W'.bs=W.bs++r
 kd:∀ a c,W.S a=some c→c.kd≠0→∃ c',W'.S a=some c'∧c'.kd=c.kd
 keep:∀ a c,W.S a=some c→c.kd≠0→a∉m→W'.S a=some c
 rest:∀ h t,{W'.s with heap:=h,toks:=t}={W.s with heap:=h,toks:=t}
structure Go (G:Gx) (m:List Addr) (W W':Wd):Prop where
 inv:B6 G W'
 le:Le m W W'
theorem Le.refl (m:List Addr) (W:Wd):Le m W W:=⟨fun Z Z h=>h,⟨[],(Aj _).symm⟩,fun a c h Z=>⟨c,h,rfl⟩,fun Z Z h Z Z=>h,fun Z Z=>rfl⟩
theorem Le.trans {m:List Addr} {W W' W'':Wd} (x:Le m W W') (y:Le m W' W''):Le m W W'':=
 ⟨fun a o h=>y.F a o (x.F a o h),let ⟨r,e⟩:=x.bs;let ⟨q,f⟩:=y.bs;⟨r++q,f.trans (e▸Ak ..)⟩,
  fun a c h k=>let ⟨d,h',e⟩:=x.kd a c h k;let ⟨d',h'',e'⟩:=y.kd a d h' (e▸k);⟨d',h'',e'.trans e⟩,fun a c h k n=>y.keep a c (x.keep a c h k n) k n,
  fun h t=>(y.rest h t).trans (x.rest h t)⟩
theorem Le.up {m:List Addr} {W W':Wd} (x:Le [] W W'):Le m W W':=⟨x.F,x.bs,x.kd,fun a c h k Z=>x.keep a c h k (List.not_mem_nil),x.rest⟩
theorem Go.refl {G:Gx} {m:List Addr} {W:Wd} (I:B6 G W):Go G m W W:=⟨I,.refl m W⟩
theorem Go.trans {G:Gx} {m:List Addr} {W W' W'':Wd} (x:Go G m W W') (y:Go G m W' W''):Go G m W W'':=⟨y.inv,x.le.trans y.le⟩
theorem Go.up {G:Gx} {m:List Addr} {W W':Wd} (x:Go G [] W W'):Go G m W W':=⟨x.inv,x.le.up⟩
theorem jH.up {P P':B9} {bs bs':List (Addr×Addr)} (x:P.le P') (y:∃ r,bs'=bs++r) {r:RV} {v:Bq} (h:jH P bs r v):jH P' bs' r v:=by
 cases r with
 | v m=>exact VR.up x m h
 | loc r=>exact h.imp fun ab e=>y.elim fun q g=>⟨g▸(A5 (Ah.mp e.1).1).trans e.1,e.2⟩
 | un=>exact h
theorem G3.up {P P':B9} {bs bs':List (Addr×Addr)} (x:P.le P') (y:∃ r,bs'=bs++r):∀ {l:List RV} {vs:List Bq},G3 P bs l vs→G3 P' bs' l vs
 | [],_,h=>h
 | r::rs,_,⟨v,q,e,a,b⟩=>⟨v,q,e,a.up x y,b.up x y⟩
noncomputable abbrev Cj (W:Wd):RV→Bq→Prop:=jH W.F W.bs
noncomputable abbrev Fy (W:Wd):List RV→List Bq→Prop:=G3 W.F W.bs
section
variable {G:Gx} {m:List Addr} {W W':Wd}
theorem Go.v (g:Go G m W W') {r:RV} {v:Bq} (h:Cj W r v):Cj W' r v:=h.up g.le.F g.le.bs
theorem Go.vs (g:Go G m W W') {r:List RV} {v:List Bq} (h:Fy W r v):Fy W' r v:=h.up g.le.F g.le.bs
end
noncomputable def PW (P:B9) (es:List Bl) (n:Int):Prop:=
 ∃ e1 e2:Bl,es=[e1,e2]∧(∃ t,e1.key= .str "what" t)∧(∃ t,e2.key= .str "at" t)∧VR P (.tup [.int n,.int 12]) e2.val
theorem PW.up {P P':B9} (x:P.le P') {es:List Bl} {n:Int}:PW P es n→PW P' es n:=fun⟨e1,e2,a,b,c,d⟩=>⟨e1,e2,a,b,c,VR.up x _ d⟩
noncomputable def RJ (dx:Addr) (o:Obj):Prop:=∃ sl vs,o={cls:=.ref 72,dict:=some dx,data:=.fields vs,slots:=sl}
noncomputable def YU (o:Obj):Prop:=∃ ts,o.cls= .type "traceback"∧o.data= .fields ts∧3 < ts.size
structure PZ where
 a:Addr
 dx:Addr
 es:List Bl
 k:Nat
 sl:Array (Option Bq)
 vs:Array Bq
structure Sw (W:Wd) (n:Int) (e:Bq) (y:PZ):Prop where
 e:e= .ref y.a
 s:W.S y.a=some (.any (RJ y.dx))
 o:W.s.heap.get? y.a=some {cls:=.ref 72,dict:=some y.dx,data:=.fields y.vs,slots:=y.sl}
 d:W.F y.dx (dictOf y.es y.k)
 x:PW W.F y.es n
noncomputable def kG (W:Wd) (a:Addr) (x:Bq):Prop:=∃ T,x= .ref T∧T≠a∧W.S T=some (.any YU)
noncomputable def ZE (W:Wd) (n:Int) (e:Bq):Prop:=∃ y,Sw W n e y∧∃ x,y.vs[1]?=some x∧(x= .none∨kG W y.a x)
noncomputable def Sv (W:Wd) (n:Int) (e:Bq):Prop:=∃ y,Sw W n e y∧∃ x,y.vs[1]?=some x∧kG W y.a x
theorem Sv.fly {W:Wd} {n:Int} {e:Bq}:Sv W n e→ZE W n e:=fun⟨y,h,x,a,b⟩=>⟨y,h,x,a,.inr b⟩
noncomputable def Br (G:Gx) (m:List Addr) (W:Wd) {α β:Type} (Rel:Wd→α→β→Prop) (Q:β→Bk→Prop) (E:Bq→Bk→Prop):B1 α→Prop
 | .ok r σ'=>∀ v W',W'.σ=σ'→Go G m W W'→Rel W' r v→Q v W'.s
 | .exc n σ'=>∀ e W',W'.σ=σ'→Go G m W W'→ZE W' n e→E e W'.s
 | .no=>False
noncomputable abbrev C4 (G:Gx) (W:Wd) (r:RV) (Q:Bq→Bk→Prop):Prop:=∀ v W',W'.σ=W.σ→Go G [] W W'→Cj W' r v→Q v W'.s
section
variable {G:Gx} {m:List Addr} {W:Wd} {α β γ δ:Type} {Rel:Wd→α→β→Prop} {Rel':Wd→γ→δ→Prop} {Q:δ→Bk→Prop} {Q1:β→Bk→Prop} {E:Bq→Bk→Prop}
theorem Br.go {o:B1 γ} {W1:Wd} (g:Go G m W W1):Br G m W Rel' Q E o→Br G m W1 Rel' Q E o:=match o with
 | .ok r σ=>fun H v W' e g' h=>H v W' e (g.trans g') h
 | .exc n σ=>fun H v W' e g' h=>H v W' e (g.trans g') h
 | .no=>fun H=>H
theorem Br.low {o:B1 γ}:Br G m W Rel' Q E o→Br G [] W Rel' Q E o:=match o with
 | .ok r σ=>fun H v W' e g' h=>H v W' e g'.up h
 | .exc n σ=>fun H v W' e g' h=>H v W' e g'.up h
 | .no=>fun H=>H
theorem Br.bindm {o:B1 α} {g:α→Bu→B1 γ} (H:Br G m W Rel' Q E (o.bind g)) (k:∀ r v W1,Go G m W W1→Rel W1 r v→Br G m W1 Rel' Q E (g r W1.σ)→Q1 v W1.s):Br G m W Rel Q1 E o:=match o,H with
 | .ok r σ,H=>fun v W' e g' h=>k r v W' g' h (Br.go g' (e.symm▸H))
 | .exc n σ,H=>H
 | .no,H=>H
theorem Br.bind {o:B1 α} {g:α→Bu→B1 γ} (H:Br G m W Rel' Q E (o.bind g)) (k:∀ r v W1,Go G [] W W1→Rel W1 r v→Br G m W1 Rel' Q E (g r W1.σ)→Q1 v W1.s):Br G [] W Rel Q1 E o:=match o,H with
 | .ok r σ,H=>fun v W' e g' h=>k r v W' g' h (Br.go g'.up (e.symm▸H))
 | .exc n σ,H=>fun v W' e g' h=>H v W' e g'.up h
 | .no,H=>H
theorem Br.bindw {W0:Wd} {o:B1 α} {g:α→Bu→B1 γ} (g0:Go G m W0 W) (H:Br G m W0 Rel' Q E (o.bind g)) (k:∀ r v W1,Go G m W W1→Rel W1 r v→Br G m W0 Rel' Q E (g r W1.σ)→Q1 v W1.s):Br G m W Rel Q1 E o:=match o,H with
 | .ok r σ,H=>fun v W' e g' h=>k r v W' g' h (e.symm▸H)
 | .exc n σ,H=>fun e W' q g' h=>H e W' q (g0.trans g') h
 | .no,H=>H
theorem Br.opt {P:Prop} {o:Option γ} {σ:Bu} (H:Br G m W Rel' Q E (Ep σ o)) (k:∀ a,o=some a→Br G m W Rel' Q E (.ok a σ)→P):P:=match o,H with
 | some a,H=>k a rfl H
theorem Br.optm {P:Prop} {o:Option α} {f:α→γ} {σ:Bu} (H:Br G m W Rel' Q E (Ep σ (o.map f))) (k:∀ a,o=some a→Br G m W Rel' Q E (.ok (f a) σ)→P):P:=match o,H with
 | some a,H=>k a rfl H
end
noncomputable def up (S:Addr→Option D2) (a:Addr) (c:D2):Addr→Option D2:=fun b=>if b=a then some c else S b
theorem Dh {S:Addr→Option D2} {a:Addr} {c:D2}:up S a c a=some c:=if_pos rfl
theorem PH {S:Addr→Option D2} {a b:Addr} {c d:D2} (e:up S a c b=some d):(b=a∧d=c)∨(b≠a∧S b=some d):=
 if q:b=a then .inl ⟨q,(Ab ((if_pos q).symm.trans e)).symm⟩ else .inr ⟨q,(if_neg q).symm.trans e⟩
theorem Dg {S:Addr→Option D2} {a b:Addr} {c:D2} (h:b≠a):up S a c b=S b:=if_neg h
noncomputable abbrev Wd.see (W:Wd) (h:Heap) (t:Nat):Wd:={W with s:={W.s with heap:=h,toks:=t}}
noncomputable abbrev Wd.lay (W:Wd) (a:Addr) (c:D2) (h:Heap) (t:Nat):Wd:={W with S:=up W.S a c,s:={W.s with heap:=h,toks:=t}}
noncomputable def B9.add (P:B9) (a:Addr) (o:Obj):B9:=fun b x=>P b x∨b=a∧x=o
noncomputable abbrev Wd.say (W:Wd) (a:Addr) (o:Obj) (h:Heap) (t:Nat):Wd:={W with F:=W.F.add a o,s:={W.s with heap:=h,toks:=t}}
noncomputable abbrev Wd.put (W:Wd) (r:Nat) (d:Addr) (mo:MO) (c:D2) (h:Heap) (t:Nat):Wd:={W with S:=up W.S d c,σ:=W.σ.set r mo,s:={W.s with heap:=h,toks:=t}}
noncomputable abbrev Wd.new (W:Wd) (a d:Addr) (mo:MO) (c:D2) (h:Heap) (t:Nat):Wd:={W with S:=up W.S d c,bs:=W.bs++[(a,d)],σ:=W.σ++[mo],s:={W.s with heap:=h,toks:=t}}
noncomputable abbrev Wd.cut (W:Wd) (n:Nat):Wd:={W with bs:=W.bs.take n,σ:=W.σ.take n}
noncomputable abbrev Wd.off (W:Wd) (a:Addr) (h:Heap) (t:Nat):Wd:={W with S:=fun b=>if b=a then none else W.S b,s:={W.s with heap:=h,toks:=t}}
noncomputable abbrev Wd.fix (W:Wd) (a:Addr) (o:Obj):Wd:={W with F:=W.F.add a o,S:=fun b=>if b=a then none else W.S b}
noncomputable abbrev Hn (h h':Heap):Prop:=∀ a o,h.get? a=some o→h'.get? a=some o
noncomputable abbrev C8 (x:Addr) (h h':Heap):Prop:=∀ a o,a≠x→h.get? a=some o→h'.get? a=some o
theorem B9.le_add {P:B9} {a:Addr} {o:Obj}:P.le (P.add a o):=fun Z Z h=>.inl h
theorem B4 {h:Heap} {o:Obj}:Hn h (h.push o):=fun Z Z e=>Bo _ e
section
variable {G:Gx} {W W0:Wd} {m:List Addr} {h:Heap} {t:Nat} {a:Addr} {c:D2} {o:Obj}
theorem B6.none (I:B6 G W) (hn:W.s.heap.get? a=Option.none):W.S a=Option.none:=match e:W.S a with
 | .some c=>let ⟨_,e',_⟩:=I.sh a c e;nomatch hn.symm.trans e'
 | .none=>rfl
theorem B6.nof (I:B6 G W) (hs:W.S a=some c) (o:Obj):¬ W.F a o:=fun f=>nomatch (I.fs a o f).symm.trans hs
theorem B6.see (I:B6 G W) (k:Hn W.s.heap h):B6 G (W.see h t):=
 ⟨fun a o x=>k a o (I.fh a o x),I.fs,fun a c e=>let ⟨o,x,y⟩:=I.sh a c e;⟨o,k a o x,y⟩,I.old,I.sto,I.len,I.inj,I.tab⟩
theorem B6.see' (I:B6 G W) (k:∀ a o,W.S a=Option.none→W.s.heap.get? a=some o→h.get? a=some o) (ks:∀ a c,W.S a=some c→∃ o,h.get? a=some o∧c.ok G.w o):B6 G (W.see h t):=
 ⟨fun a o x=>k a o (I.fs a o x) (I.fh a o x),I.fs,ks,I.old,I.sto,I.len,I.inj,I.tab⟩
theorem B6.say (I:B6 G W) (k:Hn W.s.heap h) (ha:h.get? a=some o) (hs:W.S a=Option.none):B6 G (W.say a o h t):=
 ⟨fun b x q=>q.elim (fun q=>k b x (I.fh b x q)) fun q=>by rw[q.1,q.2];exact ha,fun b x q=>q.elim (fun q=>I.fs b x q) fun q=>q.1▸hs,fun a c e=>(I.sh a c e).imp fun o x=>⟨k a o x.1,x.2⟩,fun a o q=>.inl (I.old a o q),fun i mo q=>(I.sto i mo q).imp fun ab x=>x.imp fun c x=>⟨x.1,x.2.1,x.2.2.up B9.le_add⟩,I.len,I.inj,
  I.tab.imp fun c x=>⟨x.1,fun b e=>(x.2 b e).up B9.le_add⟩⟩
theorem B6.up_sh (I:B6 G W) (k:C8 a W.s.heap h) (ha:h.get? a=some o) (hc:c.ok G.w o) {b:Addr} {y:D2} (e:up W.S a c b=some y):∃ o,h.get? b=some o∧y.ok G.w o:=(PH e).elim (fun q=>by rw[q.1,q.2];exact⟨o,ha,hc⟩) fun q=>(I.sh b y q.2).imp fun x z=>⟨k b x q.1 z.1,z.2⟩
theorem DR {α:Type} {l:List α} {x y:α} {i:Nat} (q:(l++[x])[i]?=some y):l[i]?=some y∨(i=l.length∧y=x):=by
 by_cases hi:i < l.length
 ·
  rw[A5 hi] at q
  exact .inl q
 ·
  rw[Az (Nat.le_of_not_lt hi)] at q
  cases e:i - l.length with
  | zero=>rw[e] at q;exact .inr ⟨Nat.le_antisymm (Nat.sub_eq_zero_iff_le.mp e) (Nat.le_of_not_lt hi),(Ab q).symm⟩
  | succ j=>rw[e] at q;exact nomatch q
theorem B6.lay (I:B6 G W) (k:C8 a W.s.heap h) (ha:h.get? a=some o) (hc:c.ok G.w o) (hF:∀ o,¬ W.F a o) (hk:∀ d,W.S a=some d→d.kd≠0):B6 G (W.lay a c h t):=
 have ne {b:Addr} {d:D2} (e:W.S b=some d) (z:d.kd=0):b≠a:=fun q=>hk d (q▸e) z
 have nf {b:Addr} {x:Obj} (q:W.F b x):b≠a:=fun e=>hF x (e▸q)
 ⟨fun b x q=>k b x (nf q) (I.fh b x q),fun b x q=>(Dg (nf q)).trans (I.fs b x q),fun b d e=>I.up_sh k ha hc e,
  I.old,fun i mo q=>(I.sto i mo q).imp fun ab x=>x.imp fun c x=>⟨x.1,(Dg (ne x.2.1 x.2.2.kd)).trans x.2.1,x.2.2⟩,I.len,I.inj,I.tab.imp fun c x=>⟨(Dg (ne x.1 rfl)).trans x.1,x.2⟩⟩
theorem B6.put {r:Nat} {b d:Addr} {mo:MO} (I:B6 G W) (hr:W.bs[r]?=some (b,d)) (k:C8 d W.s.heap h) (ha:h.get? d=some o) (hc:c.ok G.w o) (hsr:SR W.F mo (b,d) c):B6 G (W.put r d mo c h t):=
 have hl:r < W.σ.length:=I.len▸(Ah.mp hr).1
 (I.sto r _ (Ar hl)).elim fun ab x=>x.elim fun c0 q=>
 have q4:W.S d=some c0:=by rw[show ab=(b,d) from Ab (q.1.symm.trans hr)] at q;exact q.2.1
 have nf {b:Addr} {x:Obj} (q:W.F b x):b≠d:=fun e=>I.nof q4 x (e▸q)
 ⟨fun b x q=>k b x (nf q) (I.fh b x q),fun b x q=>(Dg (nf q)).trans (I.fs b x q),fun b y e=>I.up_sh k ha hc e,
  I.old,fun i mo' q=>if e:i=r then⟨(b,d),c,e▸hr,Dh,by rw[e,List.getElem?_set_self hl] at q;exact Ab q▸hsr⟩ else
   (I.sto i mo' ((List.getElem?_set_ne (Ne.symm e)).symm.trans q)).imp fun ab x=>x.imp fun c x=>⟨x.1,(Dg fun q=>e (I.inj i r ab (b,d) x.1 hr q)).trans x.2.1,x.2.2⟩,
  I.len.trans (List.length_set ..).symm,I.inj,I.tab.imp fun c x=>⟨(Dg fun e=>by have q3:=q.2.2;rw[←e,x.1] at q4;rw[←Ab q4] at q3;exact q3.notTab).trans x.1,x.2⟩⟩
theorem B6.newAt {b d:Addr} {mo:MO} (I:B6 G W) (hF:∀ o,¬ W.F d o) (hS:∀ c,W.S d=some c→c.kd≠0) (k:C8 d W.s.heap h) (ha:h.get? d=some o) (hc:c.ok G.w o) (hsr:SR W.F mo (b,d) c):B6 G (W.new b d mo c h t):=
 have nf {b:Addr} {x:Obj} (q:W.F b x):b≠d:=fun e=>hF x (e▸q)
 have ns {b:Addr} {c:D2} (q:W.S b=some c) (z:c.kd=0):b≠d:=fun e=>hS c (e▸q) z
 have at_ {i:Nat} {ab:Addr×Addr} (q:(W.bs++[(b,d)])[i]?=some ab):(W.bs[i]?=some ab∧ab.2≠d)∨(i=W.bs.length∧ab=(b,d)):=(DR q).imp_left fun q=>⟨q,(I.sto i _ (Ar (I.len▸(Ah.mp q).1))).elim fun ab' x=>x.elim fun c' x=>Ab (x.1.symm.trans q)▸ns x.2.1 x.2.2.kd⟩
 ⟨fun b x q=>k b x (nf q) (I.fh b x q),fun b x q=>(Dg (nf q)).trans (I.fs b x q),fun b y e=>I.up_sh k ha hc e,I.old,
  fun i mo' q=>(DR q).elim (fun q=>(I.sto i mo' q).imp fun ab x=>x.imp fun c x=>⟨(A5 (Ah.mp x.1).1).trans x.1,(Dg (ns x.2.1 x.2.2.kd)).trans x.2.1,x.2.2⟩)
   fun q=>⟨(b,d),c,by rw[q.1,←I.len,Az (Av _),Nat.sub_self];rfl,Dh,q.2▸hsr⟩,
  by show(W.bs++[(b,d)]).length=(W.σ++[mo]).length;rw[Ai,Ai,I.len];rfl,
  fun i j a b' x y e=>(at_ x).elim (fun p=>(at_ y).elim (fun q=>I.inj i j a b' p.1 q.1 e) fun q=>(p.2 (e.trans (congrArg Prod.snd q.2))).elim) fun p=>(at_ y).elim (fun q=>(q.2 (e.symm.trans (congrArg Prod.snd p.2))).elim) fun q=>p.1.trans q.1.symm,
  I.tab.imp fun c x=>⟨(Dg (ns x.1 rfl)).trans x.1,x.2⟩⟩
theorem B6.new {b d:Addr} {mo:MO} (I:B6 G W) (k:Hn W.s.heap h) (hd:W.s.heap.get? d=Option.none) (ha:h.get? d=some o) (hc:c.ok G.w o) (hsr:SR W.F mo (b,d) c):B6 G (W.new b d mo c h t):=
 I.newAt (fun x q=>nomatch hd.symm.trans (I.fh d x q)) (fun x q=>nomatch (I.none hd).symm.trans q) (fun b x Z e=>k b x e) ha hc hsr
theorem B6.cut (I:B6 G W) (n:Nat):B6 G (W.cut n):=
 have tk {α:Type} {l:List α} {i:Nat} {x:α} (q:(l.take n)[i]?=some x):l[i]?=some x∧i < n:=by
  rw[List.getElem?_take] at q
  split at q
  · exact⟨q, ‹_›⟩
  · cases q
 ⟨I.fh,I.fs,I.sh,I.old,fun i mo q=>let ⟨ab,c,x,y⟩:=I.sto i mo (tk q).1;⟨ab,c,(List.getElem?_take_of_lt (tk q).2).trans x,y⟩,by rw[Bg,Bg,I.len],fun i j a b x y=>I.inj i j a b (tk x).1 (tk y).1,I.tab⟩
theorem B6.fix (I:B6 G W) (ha:W.s.heap.get? a=some o) (hb:∀(i:Nat) (ab:Addr×Addr),W.bs[i]?=some ab→ab.2≠a) (ht:a≠F4):B6 G (W.fix a o):=
 ⟨fun b x q=>q.elim (fun q=>I.fh b x q) fun q=>by rw[q.1,q.2];exact ha,fun b x q=>if e:b=a then if_pos e else(if_neg e).trans (q.elim (fun q=>I.fs b x q) fun q=>(e q.1).elim),fun b c e=>if q:b=a then nomatch (if_pos q).symm.trans e else I.sh b c ((if_neg q).symm.trans e),fun a o q=>.inl (I.old a o q),
  fun i mo q=>(I.sto i mo q).imp fun ab x=>x.imp fun c y=>⟨y.1,(if_neg (hb i ab y.1)).trans y.2.1,y.2.2.up B9.le_add⟩,I.len,I.inj,
  I.tab.imp fun c x=>⟨(if_neg (Ne.symm ht)).trans x.1,fun b e=>(x.2 b e).up B9.le_add⟩⟩
theorem B6.off {d:D2} (I:B6 G W) (hs:W.S a=some d) (hk:d.kd≠0) (k:C8 a W.s.heap h):B6 G (W.off a h t):=
 have ne {b:Addr} {c:D2} (q:W.S b=some c) (z:c.kd=0):b≠a:=fun e=>hk (Ab ((e▸hs).symm.trans q)▸z)
 have nf {b:Addr} {x:Obj} (q:W.F b x):b≠a:=fun e=>I.nof hs x (e▸q)
 ⟨fun b x q=>k b x (nf q) (I.fh b x q),fun b x q=>(if_neg (nf q)).trans (I.fs b x q),fun b c e=>if q:b=a then nomatch (if_pos q).symm.trans e else let ⟨o,x,y⟩:=I.sh b c ((if_neg q).symm.trans e);⟨o,k b o q x,y⟩,I.old,
  fun i mo q=>let ⟨ab,c,x,y,z⟩:=I.sto i mo q;⟨ab,c,x,(if_neg (ne y z.kd)).trans y,z⟩,I.len,I.inj,let ⟨c,x,y⟩:=I.tab;⟨c,(if_neg (ne x rfl)).trans x,y⟩⟩
theorem Le.see (L:Le m W0 W):Le m W0 (W.see h t):=⟨L.F,L.bs,L.kd,L.keep,L.rest⟩
theorem Le.say (L:Le m W0 W):Le m W0 (W.say a o h t):=⟨fun a o x=>.inl (L.F a o x),L.bs,L.kd,L.keep,L.rest⟩
theorem Le.lay (L:Le m W0 W) (ha:∀ d,W0.S a=some d→d.kd≠0→a∈m∧c.kd=d.kd):Le m W0 (W.lay a c h t):=
 ⟨L.F,L.bs,fun b d e k=>if q:b=a then⟨c,q▸Dh,(ha d (q▸e) k).2⟩ else let ⟨c,x,y⟩:=L.kd b d e k;⟨c,(Dg q).trans x,y⟩,
  fun b d e k n=>if q:b=a then(n (q▸(ha d (q▸e) k).1)).elim else(Dg q).trans (L.keep b d e k n),L.rest⟩
theorem Le.put {r:Nat} {d:Addr} {mo:MO} (L:Le m W0 W) (hk:∀ x,W0.S d=some x→x.kd=0):Le m W0 (W.put r d mo c h t):=
 have ne {b:Addr} {x:D2} (e:W0.S b=some x) (k:x.kd≠0):b≠d:=fun q=>k (hk x (q▸e))
 ⟨L.F,L.bs,fun b x e k=>let ⟨c,p,q⟩:=L.kd b x e k;⟨c,(Dg (ne e k)).trans p,q⟩,fun b x e k n=>(Dg (ne e k)).trans (L.keep b x e k n),L.rest⟩
theorem Le.new {b d:Addr} {mo:MO} (L:Le m W0 W) (hk:∀ x,W0.S d=some x→x.kd=0):Le m W0 (W.new b d mo c h t):=
 have ne {b:Addr} {x:D2} (e:W0.S b=some x) (k:x.kd≠0):b≠d:=fun q=>k (hk x (q▸e))
 ⟨L.F,let ⟨r,e⟩:=L.bs;⟨r++[(b,d)],by show W.bs++_=_;rw[e,Ak]⟩,fun b x e k=>let ⟨c,p,q⟩:=L.kd b x e k;⟨c,(Dg (ne e k)).trans p,q⟩,fun b x e k n=>(Dg (ne e k)).trans (L.keep b x e k n),L.rest⟩
theorem Le.off (L:Le m W0 W) (hk:∀ x,W0.S a=some x→x.kd=0):Le m W0 (W.off a h t):=
 have ne {b:Addr} {x:D2} (e:W0.S b=some x) (k:x.kd≠0):b≠a:=fun q=>k (hk x (q▸e))
 ⟨L.F,L.bs,fun b x e k=>let ⟨c,p,q⟩:=L.kd b x e k;⟨c,(if_neg (ne e k)).trans p,q⟩,fun b x e k n=>(if_neg (ne e k)).trans (L.keep b x e k n),L.rest⟩
theorem Le.fix (L:Le m W0 W) (hk:∀ x,W0.S a=some x→x.kd=0):Le m W0 (W.fix a o):=
 have ne {b:Addr} {x:D2} (e:W0.S b=some x) (k:x.kd≠0):b≠a:=fun q=>k (hk x (q▸e))
 ⟨fun a o x=>.inl (L.F a o x),L.bs,fun b x e k=>let ⟨c,p,q⟩:=L.kd b x e k;⟨c,(if_neg (ne e k)).trans p,q⟩,fun b x e k n=>(if_neg (ne e k)).trans (L.keep b x e k n),L.rest⟩
theorem B6.turn (I:B6 G W) (ha:W.S a=some c) (k:C8 a W.s.heap h) (ho:h.get? a=some o) (hc:c.ok G.w o):B6 G (W.see h t):=
 I.see' (fun b x n e=>k b x (fun q=>nomatch (q▸n).symm.trans ha) e) fun b d e=>if q:b=a then⟨o,q▸ho,Ab (ha.symm.trans (q▸e))▸hc⟩ else let ⟨x,y,z⟩:=I.sh b d e;⟨x,k b x q y,z⟩
theorem Go.turn (I:B6 G W) (ha:W.S a=some c) (k:C8 a W.s.heap h) (ho:h.get? a=some o) (hc:c.ok G.w o):Go G m W (W.see h t):=⟨I.turn ha k ho hc,(Le.refl m W).see⟩
theorem Go.see (I:B6 G W) (k:Hn W.s.heap h):Go G m W (W.see h t):=⟨I.see k,(Le.refl m W).see⟩
theorem Go.tok (I:B6 G W):Go G m W (W.see W.s.heap t):=.see I fun Z Z e=>e
theorem Go.say (I:B6 G W) (k:Hn W.s.heap h) (ha:h.get? a=some o) (hs:W.S a=Option.none):Go G m W (W.say a o h t):=⟨I.say k ha hs,(Le.refl m W).say⟩
theorem B6.top (I:B6 G W):W.S W.s.heap.objs.size=Option.none:=I.none (Heap.get?_none_of_le (Av _))
end
section
variable [DecidableEq Str]
noncomputable def QY:MV→Const→Bool
 | .none,c=>N4 c true
 | .bool a,c=>Ue c fun b=>a==b
 | .int a,c=>Mt c fun b=>decide (a=b)
 | .str a,c=>Uf c fun b=>decide (a=b)
 | _,_=>false
end
noncomputable def aK:List Nat→List Nat→Bool
 | [],[]=>true
 | a::x,b::y=>Nat.beq a b&&aK x y
 | _,_=>false
theorem BI:∀ {x y:List Nat},aK x y=true→x=y
 | [],[],_=>rfl
 | a::x,b::y,h=>by rw[Nat.eq_of_beq_eq_true (b2 h).1,BI (b2 h).2]
 | [],_::_,h=>ff h
 | _::_,[],h=>ff h
noncomputable def YJ:Bq→Bq→Bool
 | .ref a,w=>Uk w fun b=>decide (a=b)
 | .builtin a,w=>Zt w fun b=>decide (a=b)
 | .type a,w=>Zu w fun b=>decide (a=b)
 | _,_=>false
noncomputable def oA:MV→MV→Bool
 | .val v,b=>Zr b fun w=>YJ v w
 | .str s,b=>Zq b fun t=>aK s.cps.toList t.cps.toList
 | .int i,b=>Zp b fun j=>decide (i=j)
 | .figs,b=>Ui b true
 | _,_=>false
theorem NQ {b a:Bq} (h:YJ a b=true):a=b:=by
 cases a with
 | ref a=>exact Sd h fun Z e h=>e▸congrArg _ (of_decide_eq_true h)
 | builtin a=>exact FQ h fun Z e h=>e▸congrArg _ (of_decide_eq_true h)
 | type a=>exact FR h fun Z e h=>e▸congrArg _ (of_decide_eq_true h)
 | _=>exact ff h
theorem VE {b a:MV} (h:oA a b=true):a=b:=by
 cases a with
 | val v=>exact FP h fun Z e h=>e▸congrArg _ (NQ h)
 | str s=>exact FO h fun t e h=>e▸congrArg (fun l=>MV.str ⟨⟨l⟩⟩) (BI h)
 | int i=>exact FN h fun Z e h=>e▸congrArg _ (of_decide_eq_true h)
 | figs=>exact Zo h fun e Z=>e.symm
 | _=>exact ff h
noncomputable def K4:List (Str×MV):=[
 (Aa "FIGURES",MV.str "0123456789"),
 (Aa "len",MV.val (.builtin "len")),
 (Aa "worth_of",MV.val (.ref 124)),
 (Aa "decimal",MV.val (.ref 89)),
 (Aa "MOST_SUBSCRIPTS",MV.int 7),
 (Aa "tuple",MV.val (.type "tuple")),
 (Aa "is_part_next",MV.val (.ref 139)),
 (Aa "read_subscripts",MV.val (.ref 146)),
 (Aa "read_part",MV.val (.ref 153)),
 (Aa "read_figure",MV.val (.ref 174)),
 (Aa "FIGURE_NAMES",MV.figs),
 (Aa "read_all",MV.val (.ref 167)),
 (Aa "read_ref",MV.val (.ref 160)),
 (Aa "read_sum",MV.val (.ref 202)),
 (Aa "MOST_DEEP",MV.int 20),
 (Aa "read_product",MV.val (.ref 209)),
 (Aa "sign_among",MV.val (.ref 195)),
 (Aa "read_factor",MV.val (.ref 216)),
 (Aa "read_power",MV.val (.ref 230)),
 (Aa "is_lone_number",MV.val (.ref 223)),
 (Aa "negated",MV.val (.ref 96)),
 (Aa "read_primary",MV.val (.ref 237)),
 (Aa "read_operand",MV.val (.ref 181)),
 (Aa "word_ahead",MV.val (.ref 244)),
 (Aa "phrase_words",MV.val (.ref 251)),
 (Aa "opening_length",MV.val (.ref 258)),
 (Aa "body_here",MV.val (.ref 265)),
 (Aa "FIGURE_WORDS",MV.str " ZERO ZEROS ZEROES SPACE SPACES HIGH-VALUE HIGH-VALUES LOW-VALUE LOW-VALUES QUOTE QUOTES ALL "),
 (Aa "read_expression",MV.val (.ref 188)),
 (Aa "begins_operand",MV.val (.ref 279)),
 (Aa "operand_here",MV.val (.ref 300)),
 (Aa "refuse_at",MV.val (.ref 293)),
 (Aa "ref_here",MV.val (.ref 286)),
 (Aa "begins_text",MV.val (.ref 314)),
 (Aa "text_here",MV.val (.ref 307)),
 (Aa "strung_rows",MV.val (.ref 326)),
 (Aa "pointer_here",MV.val (.ref 321)),
 (Aa "branches_here",MV.val (.ref 272)),
 (Aa "delimiters_here",MV.val (.ref 340)),
 (Aa "unstrung_row",MV.val (.ref 347)),
 (Aa "opens_count",MV.val (.ref 368)),
 (Aa "bounds_here",MV.val (.ref 361)),
 (Aa "counted_rows",MV.val (.ref 375)),
 (Aa "widths_meet",MV.val (.ref 389)),
 (Aa "by_here",MV.val (.ref 396)),
 (Aa "exchange_here",MV.val (.ref 403)),
 (Aa "tallied_rows",MV.val (.ref 382)),
 (Aa "replaced_rows",MV.val (.ref 410)),
 (Aa "RESERVED",MV.str Sy),
 (Aa "ord",MV.val (.builtin "ord")),
 (Aa "min",MV.val (.builtin "min")),
 (Aa "Exception",MV.val (.type "Exception")),
 (Aa "GrammarFault",MV.val (.ref 72)),
 (Aa "MOST_OCTET",MV.int 255),
 (Aa "bytes",MV.val (.type "bytes")),
 (Aa "abs",MV.val (.builtin "abs")),
 (Aa "int",MV.val (.type "int")),
 (Aa "_law_draw",MV.val (.ref 646)),
 (Aa "_law_words",MV.val (.ref 658)),
 (Aa "str",MV.val (.type "str")),
 (Aa "_law_pick",MV.val (.ref 653)),
 (Aa "_law_whole",MV.val (.ref 679)),
 (Aa "_law_bracket",MV.val (.ref 672)),
 (Aa "_law_ref",MV.val (.ref 686)),
 (Aa "_law_figure",MV.val (.ref 698)),
 (Aa "_law_literal",MV.val (.ref 691)),
 (Aa "_law_text",MV.val (.ref 705)),
 (Aa "_law_maybe",MV.val (.ref 665)),
 (Aa "_law_pointer",MV.val (.ref 731)),
 (Aa "_law_phrases",MV.val (.ref 724)),
 (Aa "_law_delimiters",MV.val (.ref 743)),
 (Aa "_law_bounds",MV.val (.ref 719)),
 (Aa "_law_by",MV.val (.ref 712)),
 (Aa "_law_replaced",MV.val (.ref 764)),
 (Aa "_law_tallied",MV.val (.ref 757)),
 (Aa "_law_string",MV.val (.ref 736)),
 (Aa "_law_unstring",MV.val (.ref 750)),
 (Aa "_law_inspect",MV.val (.ref 771)),
 (Aa "Reader",MV.val (.ref 598)),
 (Aa "Token",MV.val (.ref 628)),
 (Aa "read_string",MV.val (.ref 333)),
 (Aa "_law_body",MV.val (.ref 785)),
 (Aa "read_unstring",MV.val (.ref 354)),
 (Aa "read_inspect",MV.val (.ref 417)),
 (Aa "_law_pen",MV.val (.ref 639)),
 (Aa "_law_form",MV.val (.ref 778)),
 (Aa "_law_reader",MV.val (.ref 790)),
 (Aa "_law_read",MV.val (.ref 797)),
 (Aa "_law_wrong",MV.val (.ref 804)),
 (Aa "_law_refused",MV.val (.ref 811)),
 (Aa "is_reserved",MV.val (.ref 424)),
 (Aa "read_decimal",MV.val (.ref 131)),
 (Aa "octets_of_text",MV.val (.ref 429))]
section
variable [DecidableEq Str]
noncomputable def SD (x:Str) (c:MV):Bool:=K4.any fun p=>decide (p.1=x)&&oA p.2 c
theorem JS {x:Str} {c:MV} (h:SD x c=true):(x,c)∈K4:=
 let ⟨⟨a,b⟩,hp,e⟩:=List.any_eq_true.mp h
 of_decide_eq_true (b2 e).1▸VE (b2 e).2▸hp
end
noncomputable def C1:Str:=Aa "depth"
noncomputable def F6 (e:Expr):Bool:= !Nat.beq e.ctorIdx 22
noncomputable def T9 (e:Expr):Bool:= !Nat.beq e.ctorIdx 20
noncomputable def Ho (e:Expr):Bool:= !Nat.beq e.ctorIdx 26
noncomputable def Zg (e:Expr):Bool:= !Nat.beq e.ctorIdx 7
noncomputable def LI (e:Expr):Bool:= !Nat.beq e.ctorIdx 25
noncomputable def Ed (e:Expr):Bool:= !(Nat.beq e.ctorIdx 8||Nat.beq e.ctorIdx 9||Nat.beq e.ctorIdx 10)
noncomputable def L7 (e:Expr):Bool:= !G9 e fun f l k Z=>Nat.beq f.ctorIdx 23&&nil l&&nil k
section
variable [DecidableEq Str]
noncomputable def mY (sc:Scope) (x:Str):Bool:=(sc.names.lookup x==some .local||sc.names.lookup x==some .cell||sc.names.lookup x==some .free)&&decide (x≠"__debug__")&&decide (x≠"__classdict__")
noncomputable def XW (ns:List Str) (k:Nat) (x:Str):Bool:=opt ns[k]? fun y=>decide (x=y)
noncomputable def Hm (ns:List Str) (sc:Scope) (k:Nat) (x:Str):Bool:=XW ns k x&&mY sc x
noncomputable def Iw (ns:List Str) (sc:Scope):List Nat→List Str→Bool
 | [],[]=>true
 | k::ks,x::xs=>XW ns k x&&sc.names.lookup x==some .cell&&Iw ns sc ks xs
 | _,_=>false
noncomputable def Ou (ts:List Str) (cap:List Str) (sc:Scope):Bool:=
 sc.kind== .function&& !sc.isGenerator&& !sc.isCoroutine&&decide (sc.names.map (·.1)).Nodup&&(sc.names.filter fun x=>x.2 != .globalImplicit)==(Aa ".0",NameKind.local)::(ts.map fun x=>(x,NameKind.local))++cap.map fun x=>(x,NameKind.free)
noncomputable def Xn (s sc:Scope):Scope:={s with names:=s.names.map fun(n,k)=>if(k== .free&&sc.kind== .function&&sc.names.lookup n==some .cell) then(n,.cell) else(n,k)}
end
noncomputable def Ei (sc:Scope):List Str:=(sc.names.filter fun x=>x.2== .free).map (·.1)
section
variable [DecidableEq Str]
noncomputable def jU:List Str→List (Option Expr)→List Expr→Bool
 | [],xs,vs=>nil xs&&nil vs
 | k::ks,some e::xs,v::vs=>(Gz e fun c Z Z=>Uf c fun x=>decide (k=x))&&(Gz v fun c Z Z=>N4 c true)&&jU ks xs vs
 | _,_,_=>false
noncomputable def UB (sc:Scope) (f:Str) (e:Expr) (k:List Expr→Pos→Bool):Bool:=G9 e fun a l kw p=>Dj a (fun r Z=>decide (r=f)&&sc.names.lookup f==some .globalImplicit)&&nil kw&&k l p
noncomputable def CS (gs:List Comprehension) (k:Expr→Expr→List Expr→Bool):Bool:=one gs fun g=>decide (g.is_async=0)&&k g.target g.iter g.ifs
noncomputable def rY (ns:List Str) (sc:Scope) (k:Nat) (args:Arguments) (body:Expr) (s:Scope) (p:Pos):Bool:=KG args body s&&decide (p.line=174)&&decide (p.col=36)&&XW ns k C1&&sc.names.lookup C1==some NameKind.cell
mutual
noncomputable def El (ns:List Str) (sc:Scope):ME→Expr→Bool
 | .const c,e=>Gz e fun k Z Z=>QY c k
 | .var k,e=>Dj e fun x Z=>Hm ns sc k x
 | .glob x c,e=>Dj e fun y Z=>decide (x=y)&&sc.names.lookup y==some .globalImplicit&&SD x c&&decide (y≠"__debug__")
 | .attr o n,e=>Ie e fun a m Z=>decide (n=m)&&El ns sc o a&&L7 a
 | .call f args,e=>G9 e fun a es kw Z=>nil kw&&El ns sc f a&&T9 a&&Hs ns sc args es
 | .meth o n args,e=>G9 e fun a es kw q=>nil kw&&Ie a (fun b m p=>decide (n=m)&&El ns sc o b&&L7 b&&p.endLine==q.line)&&Hs ns sc args es&&decide (es.length < 20)
 | .bin op l r,e=>Xf e fun a o b Z=>decide (op=o)&&El ns sc l a&&El ns sc r b
 | .cmp op l r,e=>CQ e fun a os bs Z=>one os (fun o=>decide (op=o))&&El ns sc l a&&one bs fun b=>El ns sc r b&& !behindInMarks op b
 | .and l,e=>Ud e fun o es Z=>decide (o= .And)&&Hs ns sc l es&&decide (2≤es.length)
 | .or l,e=>Ud e fun o es Z=>decide (o= .Or)&&Hs ns sc l es&&decide (2≤es.length)
 | .not e,x=>UC x fun o a Z=>decide (o= .Not)&&El ns sc e a
 | .neg e,x=>UC x fun o a Z=>decide (o= .USub)&&El ns sc e a
 | .ite c a b,e=>eL e fun x y z Z=>El ns sc c x&&El ns sc a y&&El ns sc b z
 | .tup l,e=>Lh e fun es Z Z=>Hs ns sc l es
 | .lis l,e=>Qf e fun es Z=>Hs ns sc l es
 | .mlis l,e=>Qf e fun es Z=>Hs ns sc l es
 | .mpen a b,e=>Qf e fun es Z=>two es fun x y=>El ns sc a x&&El ns sc b y&&F6 x&&F6 y
 | .mdict ks,e=>Ug e fun xs vs Z=>jU ks xs vs&&decide ks.Nodup&&decide (1≤ks.length)&&decide (ks.length≤15)
 | .sub o i,e=>Xi e fun a j Z=>El ns sc o a&&El ns sc i j&&Ho j
 | .cut o lo hi,e=>Xi e fun a s Z=>El ns sc o a&&Uj s fun x y z Z=>tG ns sc lo x&&tG ns sc hi y&&dS z
 | .compR n elt cap,e=>Mu e fun x gs s Z=>CS gs fun t it ifs=>nil ifs&&Dj t (fun t Z=>Ou [t] (Ei s) s&&El (t::Ei s) (Xn s sc) elt x)&&Iw ns sc cap (Ei s)&&UB sc "range" it fun l Z=>one l fun a=>El ns sc n a&&F6 a
 | .compL e cond elt cap,x=>Mu x fun x gs s Z=>CS gs fun t it ifs=>Dj t (fun t Z=>Ou [t] (Ei s) s&&El (t::Ei s) (Xn s sc) elt x&&qC (t::Ei s) (Xn s sc) cond ifs)&&Iw ns sc cap (Ei s)&&El ns sc e it&&Zg it
 | .compE e elt,x=>Mu x fun x gs s Z=>CS gs fun t it ifs=>nil ifs&&Lh t (fun l Z Z=>two l fun t q=>Dj t fun t Z=>Lh q fun l Z Z=>two l fun u v=>Dj u fun u Z=>Dj v fun v Z=>Ou [t,u,v] [] s&&El [t,u,v] (Xn s sc) elt x)&&UB sc "enumerate" it fun l Z=>one l fun a=>El ns sc e a&&F6 a
 | .lam k,e=>LZ e fun args body s p=>rY ns sc k args body s p
noncomputable def Hs (ns:List Str) (sc:Scope):List ME→List Expr→Bool
 | [],es=>nil es
 | m::ms,e::es=>El ns sc m e&&F6 e&&Hs ns sc ms es
 | _::_,[]=>false
noncomputable def tG (ns:List Str) (sc:Scope):Option ME→Option Expr→Bool
 | Option.none,e=>dS e
 | some m,e=>opt e fun e=>El ns sc m e
noncomputable def qC (ns:List Str) (sc:Scope):Option ME→List Expr→Bool
 | Option.none,l=>nil l
 | some m,l=>one l fun e=>El ns sc m e
end
noncomputable def AN (sc:Scope) (x:Str) (p:Pos) (e:Expr):Bool:=Mu e fun Z Z s q=>sc.names.lookup x==some .local&&p.line==q.line&& !(s.names.any fun(n,k)=>n==x&&(k== .local||k== .cell))
noncomputable def Gu (ns ac:List Str) (sc:Scope) (k:Nat) (x:Str):Bool:=
 XW ns k x&&(sc.names.lookup x==some .local||(sc.names.lookup x==some .cell&&ac.contains x&&decide (x≠C1)))
noncomputable def X3 (ns ac:List Str) (sc:Scope):List Nat→List Expr→Bool
 | [],es=>nil es
 | k::ks,e::es=>Dj e (fun x Z=>Gu ns ac sc k x)&&X3 ns ac sc ks es
 | _::_,[]=>false
end
noncomputable def CY:List Ir→Option (List Nat)
 | []=>some []
 | .var k::r=>(CY r).map (k:: ·)
 | .tup _::_=>none
section
variable [DecidableEq Str]
noncomputable def jW (ns ac:List Str) (sc:Scope):Ir→Expr→Bool
 | .var k,e=>Dj e fun x Z=>Gu ns ac sc k x
 | .tup ps,e=>Lh e fun ts Z Z=>opt (CY ps) fun ks=>X3 ns ac sc ks ts
end
noncomputable def Y8 (e:Expr):Bool:=Nat.beq e.ctorIdx 22
section
variable [DecidableEq Str]
noncomputable def Jm (sc:Scope) (ts:List Expr):List Str:=
 let line:=(ts.head?.map (·.pos.line)).getD 0
 ts.filterMap fun
  | .Name id pos=>if sc.names.lookup id==some .local&&pos.line==line then some id else none
  | _=>none
noncomputable def OW (sc:Scope) (ts vs:List Expr):Option (Option (List Str)):=
 if(!(ts.length==2||ts.length==3)||vs.length != ts.length)=true then some none
 else if vs.any Y8=true then some none
 else if((Jm sc ts).length != ts.length||(Jm sc ts).eraseDups.length != (Jm sc ts).length)=true then some none
 else if vs.all (foldedForSure 8)=true then some none
 else if vs.all (constantsAlone 8)=true then none
 else some (some (Jm sc ts))
end
noncomputable def N3:List Expr→List Str
 | .Name x _::es=>x::N3 es
 | _=>[]
section
variable [DecidableEq Str]
noncomputable def iL (sc:Scope) (ts vs:List Expr):Bool:=opt (OW sc ts vs) fun
 | none=>true
 | some l=>decide (l=N3 ts)&&decide (l.length=ts.length)
mutual
noncomputable def tH (ns ac:List Str) (sc:Scope):MS→Stmt→Bool
 | .assign p e,s=>P8 s fun l v Z=>El ns sc e v&&one l fun t=>jW ns ac sc p t&&match p with
  | .var k=>Dj t fun x q=>Ed v||AN sc x q v
  | .tup _=>Ed v&&LI v
 | .assignT ks es,s=>P8 s fun l v Z=>one l fun t=>Lh t fun ts Z Z=>X3 ns ac sc ks ts&&Lh v fun vs Z Z=>Hs ns sc es vs&&iL sc ts vs&&decide (ks.Nodup)&&decide (ks.length≤5)
 | .setItem o i e,s=>P8 s fun l v Z=>El ns sc e v&&Ed v&&one l fun t=>Xi t fun t j Z=>El ns sc o t&&El ns sc i j&&Ho j
 | .setAt o e,s=>P8 s fun l v Z=>El ns sc e v&&Ed v&&one l fun t=>Ie t fun t n Z=>decide (n="at")&&El ns sc o t
 | .expr e,s=>Xg s fun x Z=>El ns sc e x&&Ed x
 | .ite c a b,s=>LW s fun t p q Z=>El ns sc c t&&Rs ns ac sc a p&&Rs ns ac sc b q
 | .while c b,s=>MF s fun t p q Z=>El ns sc c t&&Rs ns ac sc b p&&nil q
 | .ret e,s=>Sc s fun x Z=>opt x fun x=>El ns sc e x
 | .forIn p e b,s=>CR s fun tg it q l Z=>jW ns ac sc p tg&&El ns sc e it&&Zg it&&Rs ns ac sc b q&&nil l
 | .forR k lo hi b,s=>CR s fun tg it q l Z=>Rs ns ac sc b q&&nil l&&jW ns ac sc (.var k) tg&&UB sc "range" it fun l Z=>match lo with
  | Option.none=>one l fun e=>El ns sc hi e&&F6 e
  | some lo=>two l fun a b=>El ns sc lo a&&F6 a&&El ns sc hi b&&F6 b
 | .fault o e,s=>MA s fun x y Z=>dS y&&opt x fun x=>G9 x fun a l kw q=>nil kw&&one l (fun y=>El ns sc e y&&F6 y)&&Ie a fun t n p=>decide (n="fault")&&El ns sc o t&&L7 t&&p.endLine==q.line
 | .brk,s=>LS s fun Z=>true
 | .dead,_=>true
noncomputable def Rs (ns ac:List Str) (sc:Scope):List MS→List Stmt→Bool
 | [],l=>nil l
 | m::ms,s::ss=>tH ns ac sc m s&&Rs ns ac sc ms ss
 | _::_,[]=>false
end
end
structure Kx where
 G:Gx
 C:Call
 N:Nat
 A:Bm
 fr:List Env
 env:Env
 ns:List Str
 ac:List Str
 mine:List Addr
 dp:Bool
structure Bs (G:Gx):Prop where
 names:∃ mg mb,G.hB.Ns mainGlobals mg∧G.hB.Ns builtinsNs mb∧(∀ p∈K4,∃ v,(mg p.1=some v∨(mg p.1=none∧mb p.1=some v))∧∀ P,VR P p.2 v)∧
  (mg "range"=none∧mb "range"=some (.type "range"))∧(mg "enumerate"=none∧mb "enumerate"=some (.type "enumerate"))
 nolimit:G.hB.NoLimit
 noTab:G.hB.get? F4=none
 lam:CodeHd G.hB 236 F4∧∃ mg,G.hB.Ns mainGlobals mg∧G.hB.BuiltinsAt mg F4
 figs:StrTab prog G.w G.hB 132 (D5.map fun p=>(.str p.1,.str p.2))
noncomputable def ZF (env:Env):Prop:=env.globals=mainGlobals∧(env.scope.names.lookup C1=some .cell→env.code= .ref 236∧env.qual=Aa "read_primary.<locals>.")
structure Db (N:Nat) (A:Bm) (fr:List Env):Prop where
 frames:A.frames=some fr
 deep:A.depth+N < 690
 units:A.units+12*N+200 < cLine
 calm:A.handled=none
noncomputable def Eu (fr:List Env) (W:Wd):Prop:=∀ env∈fr,env.scope.kind≠ .module∧∃ L m,env.frame=some L∧W.S L=some (.ns m)
structure Ff (K:Kx):Prop where
 call:Db K.N K.A K.fr
 glob:ZF K.env
 blt:K.env.builtins=builtinsNs
 kind:K.env.scope.kind= .function
 nod:K.ns.Nodup
 loc:K.env.locals∈K.mine
 only:∀ x∈K.ns,∀ c,K.env.cells.lookup x=some c→(K.env.kindOf x=some .cell∨K.env.kindOf x=some .free)→c∈K.mine→x∈K.ac
 inj:∀ x∈K.ac,∀ y∈K.ac,K.env.cells.lookup x=K.env.cells.lookup y→x=y
noncomputable def Lz (dp:Bool) (W:Wd) (x:Str) (c:Addr) (v:Bq):Prop:=(W.S c=some (.cell (some v))∧(dp=true∨x≠C1))∨Mm W.F c v
noncomputable def HA (K:Kx) (W:Wd) (m:Str→Option Bq) (x:Str) (v:Bq):Prop:=
 (K.env.kindOf x=some .local∧m x=some v)∨((K.env.kindOf x=some .cell∨K.env.kindOf x=some .free)∧∃ c,K.env.cells.lookup x=some c∧Lz K.dp W x c v)
noncomputable def ZN (K:Kx) (W:Wd) (ρ:List RV) (m:Str→Option Bq):Prop:=∀(k:Nat) (x:Str) (r:RV),K.ns[k]?=some x→ρ[k]?=some r→r≠ .un→∃ v,Cj W r v∧HA K W m x v
noncomputable def AT (l:List Addr) (W:Wd):Prop:=∀ a∈l,∃ c,W.S a=some c∧c.kd≠0∧c.kd≠3
structure At (K:Kx) (W:Wd) (ρ:List RV):Prop where
 inv:B6 K.G W
 frs:Eu K.fr W
 len:ρ.length=K.ns.length
 val:∃ m,W.S K.env.locals=some (.ns m)∧ZN K W ρ m
 cel:∀ x∈K.ac,∃ c v,K.env.cells.lookup x=some c∧c∈K.mine∧W.S c=some (.cell v)
 own:AT K.mine W
section
variable {K:Kx} {G:Gx} {W W':Wd} {ρ:List RV} {m:List Addr}
theorem D2.ns_of {c:D2} (h:c.kd=1):∃ g,c= .ns g:=by cases c<;>first | exact⟨_,rfl⟩ | exact absurd h (of_decide_eq_false rfl)
theorem D2.cell_of {c:D2} (h:c.kd=2):∃ g,c= .cell g:=by cases c<;>first | exact⟨_,rfl⟩ | exact absurd h (of_decide_eq_false rfl)
theorem Le.ns (L:Le m W W') {a:Addr} {f:Str→Option Bq} (h:W.S a=some (.ns f)):∃ g,W'.S a=some (.ns g):=
 let ⟨c,h,k⟩:=L.kd a _ h (fun q=>nomatch q);let ⟨g,e⟩:=D2.ns_of k;⟨g,e▸h⟩
theorem Eu.le {fr:List Env} (L:Le m W W') (h:Eu fr W):Eu fr W':=fun e he=>(h e he).imp id fun h=>h.imp fun a h=>h.elim fun f h=>(L.ns h.2).imp fun g z=>⟨h.1,z⟩
theorem Le.celv {dp:Bool} (L:Le m W W') {x:Str} {c:Addr} {v:Bq} (n:c∉m):Lz dp W x c v→Lz dp W' x c v
 | .inl h=>.inl ⟨L.keep c _ h.1 (fun q=>nomatch q) n,h.2⟩
 | .inr h=>.inr (h.up L.F)
theorem AT.le {l:List Addr} (h:AT l W) (L:Le m W W'):AT l W':=fun a ha=>let ⟨c,x,y⟩:=h a ha;let ⟨d,z,e⟩:=L.kd a c x y.1;⟨d,z,e▸y⟩
theorem At.go (S:At K W ρ) (g:Go K.G [] W W'):At K W' ρ:=
 ⟨g.inv,S.frs.le g.le,S.len,S.val.imp fun f h=>⟨g.le.keep _ _ h.1 (fun q=>nomatch q) List.not_mem_nil,fun k x r a b c=>(h.2 k x r a b c).imp fun v p=>⟨g.v p.1,p.2.imp_right fun q=>⟨q.1,q.2.imp fun c e=>⟨e.1,g.le.celv List.not_mem_nil e.2⟩⟩⟩⟩,
  fun x hx=>(S.cel x hx).imp fun c h=>h.imp fun v h=>⟨h.1,h.2.1,g.le.keep _ _ h.2.2 (fun q=>nomatch q) List.not_mem_nil⟩,S.own.le g.le⟩
theorem B6.ns (I:B6 G W) {a:Addr} {f:Str→Option Bq} (h:W.S a=some (.ns f)):W.s.heap.Ns a f:=let ⟨o,x,es,ep,y⟩:=I.sh a _ h;⟨o,es,ep,x,y⟩
theorem B6.stays (I:B6 G W):G.hB.StaysIn W.s.heap:=fun a o h=>I.fh a o (I.old a o h)
theorem B6.cell (I:B6 G W) {dp:Bool} {x:Str} {c:Addr} {v:Bq} (h:Lz dp W x c v):∃ o,W.s.heap.get? c=some o∧o.data= .cell (some v):=
 h.elim (fun h=>(I.sh c _ h.1).imp fun o h=>⟨h.1,h.2.2⟩) fun h=>h.imp fun o h=>⟨I.fh _ _ h.1,h.2.2⟩
end
noncomputable def AO {α:Type} (_:Wd) (a b:α):Prop:=a=b
noncomputable abbrev Wp (K:Kx) {α:Type} (t:Sem α) (Q:α→Bk→Prop) (E:Bq→Bk→Prop) (W:Wd):Prop:=wpAny (model prog K.G.w) K.A t Q E W.s
noncomputable def rI (C:Call) (me:ME) (ρ:List RV) (σ:Bu):B1 Bool:=(C0 C me ρ σ).bind fun a σ=>Ep σ (Dn a)
noncomputable def SE (K:Kx) (me:ME):Prop:=∀ {e:Expr} {W:Wd} {ρ:List RV} {Q:Bq→Bk→Prop} {E:Bq→Bk→Prop},El K.ns K.env.scope me e=true→At K W ρ→Br K.G [] W Cj Q E (C0 K.C me ρ W.σ)→Wp K (eval e K.env) Q E W
noncomputable def ST (K:Kx) (me:ME):Prop:=∀ {e:Expr} {W:Wd} {ρ:List RV} {Q:Bool→Bk→Prop} {E:Bq→Bk→Prop},El K.ns K.env.scope me e=true→At K W ρ→Br K.G [] W AO Q E (rI K.C me ρ W.σ)→Wp K (isTrue e K.env (eval e K.env)) Q E W
noncomputable def QE (K:Kx) (l:List ME):Prop:=∀ {es:List Expr} {pos:Pos} {W:Wd} {ρ:List RV} {Q:List Bq→Bk→Prop} {E:Bq→Bk→Prop},Hs K.ns K.env.scope l es=true→At K W ρ→Br K.G [] W Fy Q E (Tf K.C l ρ W.σ)→Wp K (spliced (backTo pos (starEach es K.env))) Q E W
noncomputable def VRS (W:Wd):List MV→List Bq→Prop:=Ds W.F
noncomputable def ZL (K:Kx) (l:List ME):Prop:=∀ {es:List Expr} {pos:Pos} {W:Wd} {ρ:List RV} {Q:List Bq→Bk→Prop} {E:Bq→Bk→Prop},Hs K.ns K.env.scope l es=true→At K W ρ→Br K.G [] W VRS Q E (Tg K.C l ρ W.σ)→Wp K (spliced (backTo pos (starEach es K.env))) Q E W
section
variable {G:Gx} {W:Wd} {r:RV} {Q:Bq→Bk→Prop} {t:Nat} {v:Bq}
theorem C4.tok (I:B6 G W) (H:C4 G W r Q) (h:Cj W r v):Q v {W.s with toks:=t}:=H v (W.see W.s.heap t) rfl (Go.tok I) h
theorem C4.here (I:B6 G W) (H:C4 G W r Q) (h:Cj W r v):Q v W.s:=H v W rfl (.refl I) h
theorem C4.grow {h:Heap} (I:B6 G W) (H:C4 G W r Q) (k:Hn W.s.heap h) (x:Cj W r v):Q v {W.s with heap:=h,toks:=t}:=H v (W.see h t) rfl (Go.see I k) x
end
section
variable {K:Kx}
theorem Lp (c:MV):SE K (.const c):=fun {e W ρ Q E} ht S H=>Ew ht fun k kk pos e h=>e▸by
 clear e ht
 cases c with
 | none=>exact P9 h fun e Z=>e▸wpAny_Constant_none (C4.here S.inv H rfl)
 | bool a=>exact Zn h fun b e h=>e▸wpAny_Constant_bool (C4.here S.inv H (congrArg _ (beq_iff_eq.mp h).symm))
 | int a=>exact Jn h fun b e h=>e▸wpAny_Constant_int (C4.tok S.inv H ⟨_,congrArg (Bq.int · _) (of_decide_eq_true h).symm⟩)
 | str a=>exact Sa h fun b e h=>e▸wpAny_Constant_str (C4.tok S.inv H ⟨_,congrArg (Bq.str · _) (of_decide_eq_true h).symm⟩)
 | _=>exact ff h
theorem Pz {ns:List Str} {k:Nat} {x:Str} (h:XW ns k x=true):ns[k]?=some x:=C2 h fun Z e h=>e.trans (congrArg some (of_decide_eq_true h).symm)
theorem JY {ns:List Str} {sc:Scope} {k:Nat} {x:Str} (h:Hm ns sc k x=true):ns[k]?=some x∧x≠"__debug__"∧x≠"__classdict__":=⟨Pz (b2 h).1,of_decide_eq_true (b2 (b2 (b2 h).2).1).2,of_decide_eq_true (b2 (b2 h).2).2⟩
theorem Hp:∀ {b:Bool},(!b)=true→b=false
 | false,_=>rfl
 | true,h=>ff h
theorem dD {x y:Str} (h:x≠y):(x==y)=false:=beq_eq_false_iff_ne.mpr h
theorem FF {A:Bm} {M:Model} {W:Wd} {f:Str→Option Bq} {x:Str} {pos:Pos} {v:Bq} {Q:Bq→Bk→Prop} {E:Bq→Bk→Prop} (hK:Ff K) (I:B6 K.G W) (hf:W.S K.env.locals=some (.ns f)) (hd:x≠"__debug__"∧x≠"__classdict__") (h:HA K W f x v) (q:Q v W.s):wpAny M A (eval (.Name x pos) K.env) Q E W.s:=
 wpAny_Name (h.elim (fun h=>wpAny_loadName_local hK.kind h.1 (I.ns hf) h.2 q) fun h=>h.2.elim fun c e=>h.1.elim (fun k=>wpAny_loadName_cell hK.kind k e.1 (I.cell e.2) q) fun k=>wpAny_loadName_free hK.kind k e.1 (I.cell e.2) q (dD hd.2)) (dD hd.1)
theorem Gl {A:Bm} {M:Model} {W:Wd} {ρ:List RV} {k:Nat} {x:Str} {r:RV} (hK:Ff K) (S:At K W ρ) (h:Hm K.ns K.env.scope k x=true) (hr:ρ[k]?=some r) (hu:r≠ .un):
  ∀ {P:Prop},(∀ v,Cj W r v→(∀ {pos:Pos} {Q:Bq→Bk→Prop} {E:Bq→Bk→Prop},Q v W.s→wpAny M A (eval (.Name x pos) K.env) Q E W.s)→P)→P:=fun k0=>
 have y:=JY h
 S.val.elim fun Z hf=>(hf.2 k x r y.1 hr hu).elim fun v hv=>k0 v hv.1 fun q=>FF hK S.inv hf.1 y.2 hv.2 q
theorem aQ {P:Prop} {C:Call} {k:Nat} {ρ:List RV} {σ:Bu} {G:Gx} {W:Wd} {Q:Bq→Bk→Prop} {E:Bq→Bk→Prop} (H:Br G [] W Cj Q E (C0 C (.var k) ρ σ)) (k0:∀ r,ρ[k]?=some r→r≠ .un→Br G [] W Cj Q E (.ok r σ)→P):P:=by
 revert H k0
 show Br G [] W Cj Q E (match ρ[k]? with
  | some (.v m)=>.ok (.v m) σ
  | some (.loc r)=>.ok (.loc r) σ
  | _=>.no)→_
 match ρ[k]? with
 | some (.v m)=>exact fun H k0=>k0 _ rfl (fun q=>nomatch q) H
 | some (.loc r)=>exact fun H k0=>k0 _ rfl (fun q=>nomatch q) H
 | some .un | none=>exact fun H Z=>H.elim
theorem Ih (hK:Ff K) (k:Nat):SE K (.var k):=fun ht S H=>
 B5 ht fun x pos e h=>aQ H fun r hr hu H=>Gl (A:=K.A) hK S h hr hu fun v hv q=>e▸q (C4.here S.inv H hv)
theorem R7 {P:Prop} {A:Bm} {M:Model} {W:Wd} {x:Str} {c:MV} (hK:Ff K) (B:Bs K.G) (I:B6 K.G W) (hk:K.env.scope.names.lookup x=some .globalImplicit) (hg:SD x c=true) (hd:x≠"__debug__")
  (k:∀ v,(∀ P,VR P c v)→(∀ {pos:Pos} {Q:Bq→Bk→Prop} {E:Bq→Bk→Prop},Q v W.s→wpAny M A (eval (.Name x pos) K.env) Q E W.s)→P):P:=
 B.names.elim fun mg h=>h.elim fun mb h=>(h.2.2.1 _ (JS hg)).elim fun v hv=>
  have ng:W.s.heap.Ns K.env.globals mg:=hK.glob.1▸h.1.keeps I.stays
  have nb:W.s.heap.Ns K.env.builtins mb:=hK.blt▸h.2.1.keeps I.stays
  k v hv.2 fun q=>Name_function_global hK.kind hk (hv.1.elim (fun hv=>loadGlobal_global ng hv q) fun hv=>loadGlobal_builtin ng hv.1 nb hv.2 q) (dD hd)
theorem Jp (hK:Ff K) (B:Bs K.G) (x:Str) (c:MV):SE K (.glob x c):=fun ht S H=>B5 ht fun y pos e h=>
 have h1:=b2 (b2 (b2 h).1).1
 R7 (A:=K.A) hK B S.inv (beq_iff_eq.mp h1.2) (of_decide_eq_true h1.1▸(b2 (b2 h).1).2) (of_decide_eq_true (b2 h).2) fun v hv q=>e▸q (C4.here S.inv H (hv _))
theorem Cg {e:Expr} {rest:List Expr} {env:Env} (h:F6 e=true):starEach (e::rest) env=(false,eval e env)::starEach rest env:=by
 cases e<;>first | rfl | exact ff h
theorem Jq:QE K []:=fun ht S H=>Cc ht▸wpAny_items_nil (H [] _ rfl (.refl S.inv) rfl)
theorem Er {m:ME} {ms:List ME} (hm:SE K m) (hms:QE K ms):QE K (m::ms):=fun {es}=>match es with
 | []=>fun ht=>ff ht
 | e::es=>fun ht S H=>
  have h:=b2 (b2 ht).1
  wpAny_items_cons (hm h.1 S (Br.bind H fun r v W1 g1 hr H1=>hms (b2 ht).2 (S.go g1) (Br.bind H1 fun rs vs W2 g2 hrs H2=>H2 _ W2 rfl (.refl g2.inv) ⟨v,vs,rfl,g2.v hr,hrs⟩))) (Cg h.2)
theorem VT:ZL K []:=fun ht S H=>Cc ht▸wpAny_items_nil (H [] _ rfl (.refl S.inv) rfl)
theorem OV {m:ME} {ms:List ME} (hm:SE K m) (hms:ZL K ms):ZL K (m::ms):=fun {es}=>by
 cases es with
 | nil=>exact fun ht=>ff ht
 | cons e es=>
  exact fun ht S H=>
  have h:=b2 (b2 ht).1
  wpAny_items_cons (hm h.1 S (Br.bind H fun r v W1 g1 hr H1=>hms (b2 ht).2 (S.go g1) (Br.bind H1 fun rs vs W2 g2 hrs H2=>by
   cases r with
   | v m=>exact H2 _ W2 rfl (.refl g2.inv) ⟨v,vs,rfl,VR.up g2.le.F _ hr,hrs⟩
   | _=>exact H2.elim))) (Cg h.2)
theorem jA {P:B9} {l:List MV} {vs:List Bq} (h:Ds P l vs):l.isEmpty=vs.toArray.isEmpty:=by
 cases l with
 | nil=>exact(show vs=[] from h)▸rfl
 | cons _ _=>exact Exists.elim h fun v h=>h.elim fun r h=>h.1▸rfl
theorem S9 {n:Nat} (h:n≤Cf):(n:Int) < 2^63:=Int.lt_of_le_of_lt (Be.mpr h) (by decide)
theorem Ds.size {P:B9} {l:List MV} {vs:List Bq} (h:Ds P l vs):vs.toArray.size=l.length:=(List.size_toArray ..).trans h.length
theorem GP {l:List MV} {b:Bool} (h:Dn (.v (.lis l))=some b):l.length≤Cf∧b= !l.isEmpty:=by
 have h:(if l.length≤Cf then some (!l.isEmpty) else none)=some b:=h
 by_cases hz:l.length≤Cf
 · rw[if_pos hz] at h;exact⟨hz,(Ab h).symm⟩
 · rw[if_neg hz] at h;cases h
theorem PD {r:RV} {b:Bool} (h:Dn r=some b):r= .v (.bool b)∨∃ l,r= .v (.lis l):=by
 cases r with
 | v m=>cases m with
  | bool c=>exact .inl (congrArg (fun b=>RV.v (.bool b)) (Ab h))
  | lis l=>exact .inr ⟨l,rfl⟩
  | _=>exact nn h
 | _=>exact nn h
theorem M2 {G:Gx} {m:List Addr} {W:Wd} {A:Bm} {r:RV} {b:Bool} {v:Bq} {Q:Bool→Bk→Prop} {E E':Bq→Bk→Prop} (I:B6 G W) (hr:Cj W r v) (ht:Dn r=some b) (h:Br G m W AO Q E' (.ok b W.σ)):
  wpAny (model prog G.w) A (truthy v) Q E W.s:=by
 rcases PD ht with rfl | ⟨l,rfl⟩
 · rw[show v= .bool b from hr];exact wpAny_truthy_bool (h b W rfl (.refl I) rfl)
 ·
  obtain⟨vs,⟨a,o,n,e,hp,hc⟩,hv⟩:=hr
  obtain⟨hz,e2⟩:=GP ht
  rw[e]
  exact wpAny_truthy_list (items:=vs.toArray) ⟨o,I.fh _ _ hp,hc.1,n,hc.2⟩ (hv.size▸S9 hz) (h _ (W.see W.s.heap _) rfl (Go.tok I) (e2.trans (congrArg not (jA hv))))
end
noncomputable def ZA (P:B9):MV→Bq→Prop
 | .val (.ref a),fv=>fv= .ref a
 | .clo d,fv=>M9 P fv d
 | .str m,fv=>∃ a,Gw m=some a∧fv= .ref a
 | _,_=>False
noncomputable def Ik (G:Gx) (W:Wd) (fv:Bq):Prop:=∃ k,(k=Keeper.frame∨k=Keeper.machine∨k=Keeper.boundFrame)∧Looks (model prog G.w) W.s.heap (keeperOf fv) k
noncomputable def F3 (G:Gx) (C:Call) (N:Nat):Prop:=∀ {f:MV} {fv:Bq} {args:List RV} {vals:List Bq} {W:Wd} {A:Bm} {fr:List Env} {Q:Bq→Bk→Prop} {E:Bq→Bk→Prop},
 Db N A fr→Eu fr W→B6 G W→Fy W args vals→ZA W.F f fv→Br G [] W Cj Q E (C f args W.σ)→Ik G W fv∧wpAny (model prog G.w) A (PySem.call fv vals) Q E W.s
noncomputable def WM (W:Wd):Option RV→Bq→Prop
 | none,v=>v= .none
 | some r,v=>Cj W r v
structure AS (K:Kx):Prop where
 bin:∀ {op:Operator} {a b:RV} {m:MV} {va vb:Bq} {W:Wd} {Q E:Bq→Bk→Prop},B6 K.G W→Cj W a va→Cj W b vb→Kd op a b=some m→C4 K.G W (.v m) Q→Wp K (binaryOp op va vb) Q E W
 cmp:∀ {op:CmpOp} {a b:RV} {m:Bool} {va vb:Bq} {W:Wd} {Q E:Bq→Bk→Prop},B6 K.G W→Cj W a va→Cj W b vb→ER W.σ op a b=some m→C4 K.G W (.v (.bool m)) Q→Wp K (compareOp op va vb) Q E W
 sub:∀ {value slice:Expr} {a b:RV} {m:MV} {va vb:Bq} {W:Wd} {Q E:Bq→Bk→Prop},Ho slice=true→B6 K.G W→Cj W a va→Cj W b vb→Jz W.σ a b=some m→C4 K.G W (.v m) Q→Wp K (subscriptTail value slice va vb) Q E W
 cut:∀ {value:Expr} {x y:Option Expr} {p:Pos} {a:RV} {lo hi:Option RV} {m:MV} {va vl vh:Bq} {W:Wd} {Q E:Bq→Bk→Prop},B6 K.G W→Cj W a va→WM W lo vl→WM W hi vh→aB a lo hi=some m→C4 K.G W (.v m) Q→
  wpAny (model prog K.G.w) K.A (subscriptTail value (.Slice x y none p) va (.ref W.s.heap.objs.size)) Q E {W.s with heap:=W.s.heap.push {cls:=.type "slice",data:=.fields #[vl,vh,.none]}}
 attr:∀ {a:RV} {n:Str} {m:MV} {va:Bq} {W:Wd} {Q E:Bq→Bk→Prop},B6 K.G W→Cj W a va→Ol W.σ a n=some m→C4 K.G W (.v m) Q→Wp K (getAttr va n true) Q E W
 bi:∀ {f:Bq} {as:List RV} {m:MV} {vals:List Bq} {W:Wd} {Q E:Bq→Bk→Prop},B6 K.G W→Fy W as vals→Om W.σ f as=some m→C4 K.G W (.v m) Q→Wp K (PySem.call f vals) Q E W
 meth:∀ {o:RV} {n:Str} {ov:Bq} {W:Wd},B6 K.G W→Eu K.fr W→Cj W o ov→Ml W.σ o n=true→∃ fv first,(∀ {pl:Sem Bool} {Q:Bq×List Bq→Bk→Prop} {E:Bq→Bk→Prop},Q (fv,first) W.s→Wp K (getMethod ov n pl) Q E W)∧
  ∀ {as:List RV} {vals:List Bq} {W1:Wd} {Q E:Bq→Bk→Prop},Go K.G [] W W1→Fy W1 as vals→Br K.G [] W1 Cj Q E (Gv K.C o n as W1.σ)→Ik K.G W1 fv∧Wp K (PySem.call fv (first++vals)) Q E W1
section
variable {G:Gx} {m:List Addr} {W:Wd} {α β γ δ ε:Type} {Rel:Wd→α→β→Prop} {Rel':Wd→γ→δ→Prop} {Q:δ→Bk→Prop} {E:Bq→Bk→Prop} {A:Bm}
theorem Br.assoc {o:B1 α} {g:α→Bu→B1 ε} {h:ε→Bu→B1 γ} (H:Br G m W Rel' Q E ((o.bind g).bind h)):Br G m W Rel' Q E (o.bind fun a σ=>(g a σ).bind h):=match o,H with
 | .ok _ _,H | .exc _ _,H | .no,H=>H
noncomputable abbrev iW (o:B1 RV):B1 Bool:=o.bind fun a σ=>Ep σ (Dn a)
theorem X1 {Q:Bool→Bk→Prop} {o:B1 RV} (H:Br G [] W AO Q E (iW o)):Br G [] W Cj (fun v s=>wpAny (model prog G.w) A (truthy v) Q E s) E o:=
 Br.bind H fun r v W1 g hr H1=>H1.opt fun b hb H2=>M2 g.inv hr hb H2
theorem Br.test {o:B1 RV} {g:RV→Bu→B1 γ} {Q1:Bool→Bk→Prop} (H:Br G m W Rel' Q E (o.bind g)) (hn:∀ r σ,Dn r=none→g r σ= .no) (k:∀ t r W1,Dn r=some t→Go G [] W W1→Br G m W1 Rel' Q E (g r W1.σ)→Q1 t W1.s):Br G [] W AO Q1 E (iW o):=by
 cases o with
 | ok r σ=>
  show Br G [] W AO Q1 E (Ep σ (Dn r))
  cases ht:Dn r with
  | none=>exact(hn r σ ht▸H:Br G m W Rel' Q E .no)
  | some t=>exact fun v W' e g' h=>(show t=v from h)▸k t r W' ht g' (Br.go g'.up (e.symm▸H))
 | exc n σ=>exact fun v W' e g' h=>H v W' e g'.up h
 | no=>exact H
theorem Br.not {Q:Bool→Bk→Prop} {o:B1 RV} (H:Br G [] W AO Q E (iW (o.bind fun a σ=>Ep σ ((Dn a).map fun t=>.v (.bool !t))))):Br G [] W AO (fun t s=>Q (!t) s) E (iW o):=
 Br.test H.assoc (fun r σ h=>by rw[h];rfl) fun t r W1 ht g H1=>by rw[ht] at H1;exact H1 (!t) W1 rfl (.refl g.inv) rfl
end
section
variable {K:Kx}
theorem Z9 (O:AS K) {op:Operator} {l r:ME} (hl:SE K l) (hr:SE K r):SE K (.bin op l r):=fun ht S H=>
 Lf ht fun a o b p e h=>e▸wpAny_BinOp (hl (b2 (b2 h).1).2 S (Br.bind H fun x v W1 g1 hx H1=>hr (b2 h).2 (S.go g1) (Br.bind H1 fun y u W2 g2 hy H2=>
  H2.optm fun m hm H3=>of_decide_eq_true (b2 (b2 h).1).1▸O.bin g2.inv (g2.v hx) hy hm H3)))
theorem Vq {P:Prop} (O:AS K) {op:CmpOp} {l r:ME} (hl:SE K l) (hr:SE K r) {e:Expr} {W:Wd} {ρ:List RV} {Q1 E:Bq→Bk→Prop} (ht:El K.ns K.env.scope (.cmp op l r) e=true) (S:At K W ρ) (H:Br K.G [] W Cj Q1 E (C0 K.C (.cmp op l r) ρ W.σ))
  (k:∀ a b p,e= .Compare a [op] [b] p→behindInMarks op b=false→Wp K (eval a K.env) (fun v s=>wpAny (model prog K.G.w) K.A (eval b K.env) (fun u s=>wpAny (model prog K.G.w) K.A (compareOp op v u) Q1 E s) E s) E W→P):P:=
 Qa ht fun a os bs p e h=>Dr (b2 (b2 h).1).1 fun o e1 ho=>Dr (b2 h).2 fun b e2 hb=>
 k a b p (of_decide_eq_true ho▸e1▸e2▸e) (Hp (b2 hb).2) (hl (b2 (b2 h).1).2 S (Br.bind H fun x v W1 g1 hx H1=>hr (b2 hb).1 (S.go g1) (Br.bind H1 fun y u W2 g2 hy H2=>
  H2.optm fun m hm H3=>O.cmp g2.inv (g2.v hx) hy hm H3)))
theorem gK (O:AS K) {op:CmpOp} {l r:ME} (hl:SE K l) (hr:SE K r):SE K (.cmp op l r):=fun ht S H=>Vq O hl hr ht S H fun a b p e hm h=>e▸wpAny_Compare1 h hm
theorem hV (O:AS K) {op:CmpOp} {l r:ME} (hl:SE K l) (hr:SE K r):ST K (.cmp op l r):=fun ht S H=>Vq O hl hr ht S (X1 H) fun a b p e hm h=>e▸wpAny_isTrue_Compare1 h hm
theorem ST.of {me:ME} (h:SE K me) (he:∀ {e:Expr} {ns:List Str} {env:Env},El ns env.scope me e=true→∀ whole:Sem Bq,isTrue e env whole=(do let v ←whole;standAt e.pos;holding [v] (truthy v))):ST K me:=
 fun ht S H=>wpAny_isTrue_value (h ht S (X1 H)) (he ht _)
theorem OL {a:ME} (ha:ST K a):ST K (.not a):=fun ht S H=>Li ht fun o a p e h=>e▸of_decide_eq_true (b2 h).1▸wpAny_isTrue_Not (ha (b2 h).2 S (Br.not H))
theorem gQ {a:ME} (ha:SE K a):SE K (.not a):=fun ht S H=>Li ht fun o a p e h=>e▸of_decide_eq_true (b2 h).1▸wpAny_UnaryOp (ha (b2 h).2 S (Br.bind H fun x v W1 g1 hx H1=>H1.optm fun m hm H2=>not_value (M2 (m:=[]) g1.inv hx hm (E':=fun Z Z=>False) fun b W2 e2 g2 hb=>H2 _ W2 e2 g2 (hb▸rfl))))
theorem Hj {r:RV} {i:Int} (h:Hi r=some i):r= .v (.int i):=by
 cases r with
 | v m=>cases m with
  | int j=>exact congrArg (fun j=>RV.v (.int j)) (Ab h)
  | _=>exact nn h
 | _=>exact nn h
theorem gP {a:ME} (ha:SE K a):SE K (.neg a):=fun ht S H=>Li ht fun o a p e h=>e▸of_decide_eq_true (b2 h).1▸wpAny_UnaryOp (ha (b2 h).2 S (Br.bind H fun x v W1 g1 hx H1=>H1.optm fun i hi H2=>(Hj hi▸hx:Cj W1 (.v (.int i)) v).elim fun t e=>e▸P.neg_int (C4.tok g1.inv H2 ⟨_,rfl⟩)))
theorem gM {c a b:ME} (hc:ST K c) (ha:SE K a) (hb:SE K b):SE K (.ite c a b):=fun ht S H=>Uh ht fun x y z p e h=>e▸wpAny_IfExp (hc (b2 (b2 h).1).1 S (Br.test H (fun r σ h=>by rw[h]) fun t r W1 ht g H1=>by
  rw[ht] at H1
  cases t
  · exact hb (b2 h).2 (S.go g) H1
  · exact ha (b2 (b2 h).1).2 (S.go g) H1))
theorem hY {c a b:ME} (hc:ST K c) (ha:ST K a) (hb:ST K b):ST K (.ite c a b):=fun ht S H=>Uh ht fun x y z p e h=>e▸arm_isTrue_IfExp .. ▸Bh (hc (b2 (b2 h).1).1 S (Br.test H.assoc (fun r σ h=>by rw[h];rfl) fun t r W1 ht g H1=>by
  rw[ht] at H1
  cases t
  · exact hb (b2 h).2 (S.go g) H1
  · exact ha (b2 (b2 h).1).2 (S.go g) H1))
end
section
variable {K:Kx}
theorem Dt {P:Prop} {ns:List Str} {sc:Scope} {m:ME} {ms:List ME}:∀ {es:List Expr},Hs ns sc (m::ms) es=true→(∀ e es',es=e::es'→El ns sc m e=true→F6 e=true→Hs ns sc ms es'=true→P)→P
 | e::es,h,k=>k e es rfl (b2 (b2 h).1).1 (b2 (b2 h).1).2 (b2 h).2
 | [],h,_=>ff h
theorem Br.mono {G:Gx} {m:List Addr} {W:Wd} {α β:Type} {Rel:Wd→α→β→Prop} {Q Q1:β→Bk→Prop} {E:Bq→Bk→Prop} (k:∀ v s,Q v s→Q1 v s):∀ {o:B1 α},Br G m W Rel Q E o→Br G m W Rel Q1 E o
 | .ok _ _,H=>fun v W' e g h=>k _ _ (H v W' e g h)
 | .exc _ _,H=>H
 | .no,H=>H
theorem Hk {α:Type}:∀ {o:B1 α},(o.bind fun a σ=>.ok a σ)=o
 | .ok _ _ | .exc _ _ | .no=>rfl
noncomputable abbrev EvL:=List ME→List RV→Bu→B1 RV
noncomputable def PP (K:Kx) (op:BoolOp) (f:EvL) (l:List ME):Prop:=∀ {es:List Expr} {W:Wd} {ρ:List RV} {Q:Bool→Bk→Prop} {E:Bq→Bk→Prop},Hs K.ns K.env.scope l es=true→At K W ρ→Br K.G [] W AO Q E (iW (f l ρ W.σ))→Wp K (allTrue op es K.env) Q E W
noncomputable def PO (K:Kx) (op:BoolOp) (f:EvL) (l:List ME):Prop:=∀ {es:List Expr} {pos:Pos} {W:Wd} {ρ:List RV} {Q:Bq→Bk→Prop} {E:Bq→Bk→Prop},Hs K.ns K.env.scope l es=true→At K W ρ→Br K.G [] W Cj Q E (f l ρ W.σ)→Wp K (boolOp pos op (evalEach es K.env)) Q E W
theorem VO {a:ME} (ha:ST K a):PP K .And (EU K.C) [a]:=fun {es W ρ Q E} ht S H=>Dt ht fun e es' he h1 Z h3=>
 he▸Cc h3▸wpAny_allTrue_And_cons (ha h1 S (Br.mono (fun b s q=>by cases b;exact q;exact wpAny_allTrue_And_nil q) (Hk (o:=C0 K.C a ρ W.σ)▸H:Br K.G [] W AO Q E (iW (C0 K.C a ρ W.σ)))))
theorem VQ {a:ME} (ha:ST K a):PP K .Or (EV K.C) [a]:=fun {es W ρ Q E} ht S H=>Dt ht fun e es' he h1 Z h3=>
 he▸Cc h3▸wpAny_allTrue_Or_cons (ha h1 S (Br.mono (fun b s q=>by cases b;exact wpAny_allTrue_Or_nil q;exact q) (Hk (o:=C0 K.C a ρ W.σ)▸H:Br K.G [] W AO Q E (iW (C0 K.C a ρ W.σ)))))
theorem ON {a b:ME} {l:List ME} (ha:ST K a) (hl:PP K .And (EU K.C) (b::l)):PP K .And (EU K.C) (a::b::l):=fun {es W ρ Q E} ht S H=>Dt ht fun e es' he h1 Z h3=>
 he▸wpAny_allTrue_And_cons (ha h1 S (Br.test (Br.assoc H) (fun r σ h=>by dsimp only;rw[h];rfl) fun t r W1 ht g H1=>by
  dsimp only at H1;rw[ht] at H1
  cases t
  · exact(ht▸(H1:Br K.G [] W1 AO Q E (Ep W1.σ (Dn r))):Br K.G [] W1 AO Q E (Ep W1.σ (some _))) _ W1 rfl (.refl g.inv) rfl
  · exact hl h3 (S.go g) H1))
theorem OQ {a b:ME} {l:List ME} (ha:ST K a) (hl:PP K .Or (EV K.C) (b::l)):PP K .Or (EV K.C) (a::b::l):=fun {es W ρ Q E} ht S H=>Dt ht fun e es' he h1 Z h3=>
 he▸wpAny_allTrue_Or_cons (ha h1 S (Br.test (Br.assoc H) (fun r σ h=>by dsimp only;rw[h];rfl) fun t r W1 ht g H1=>by
  dsimp only at H1;rw[ht] at H1
  cases t
  · exact hl h3 (S.go g) H1
  · exact(ht▸(H1:Br K.G [] W1 AO Q E (Ep W1.σ (Dn r))):Br K.G [] W1 AO Q E (Ep W1.σ (some _))) _ W1 rfl (.refl g.inv) rfl))
theorem hU {l:List ME} (h:PP K .And (EU K.C) l):ST K (.and l):=fun ht S H=>Gb ht fun o es p e q=>e▸of_decide_eq_true (b2 (b2 q).1).1▸wpAny_isTrue_BoolOp (h (b2 (b2 q).1).2 S H)
theorem oJ {l:List ME} (h:PP K .Or (EV K.C) l):ST K (.or l):=fun ht S H=>Gb ht fun o es p e q=>e▸of_decide_eq_true (b2 (b2 q).1).1▸wpAny_isTrue_BoolOp (h (b2 (b2 q).1).2 S H)
theorem gJ {l:List ME} (h:PO K .And (EU K.C) l):SE K (.and l):=fun ht S H=>Gb ht fun o es p e q=>e▸of_decide_eq_true (b2 (b2 q).1).1▸arm_eval_BoolOp .. ▸h (b2 (b2 q).1).2 S H
theorem oB {l:List ME} (h:PO K .Or (EV K.C) l):SE K (.or l):=fun ht S H=>Gb ht fun o es p e q=>e▸of_decide_eq_true (b2 (b2 q).1).1▸arm_eval_BoolOp .. ▸h (b2 (b2 q).1).2 S H
theorem M8 {pos:Pos} {op:BoolOp} {a b:Sem Bq} {r:List (Sem Bq)} {A:Bm} {s:Bk} {Q:Bq→Bk→Prop} {E:Bq→Bk→Prop} {M:Model}
  (h:wpAny M A a (fun v s1=>wpAny M A (truthy v) (fun t s2=>if(op== .And)==t then wpAny M A (boolOp pos op (b::r)) Q E s2 else Q v s2) E s1) E s):wpAny M A (boolOp pos op (a::b::r)) Q E s:=by
 show wpAny M A (do
  let v ←a
  standAt pos
  let t ←holding [v] (truthy v)
  match op,t with
  | .And,false | .Or,true=>pure v
  | _,_=>boolOp pos op (b::r)) Q E s
 refine Bh (wpAny_mono h (fun v s1 q=>Bh (wpAny_standAt (Bh (Bj (wpAny_mono q (fun t s2 q=>?_) fun Z Z x=>x))))) fun Z Z x=>x)
 cases op<;>cases t
 · exact Bi q
 · exact q
 · exact q
 · exact Bi q
theorem VI {a:ME} (ha:SE K a):PO K .And (EU K.C) [a]:=fun {es p W ρ Q E} ht S H=>Dt ht fun e es' he h1 Z h3=>he▸Cc h3▸ha h1 S (Hk (o:=C0 K.C a ρ W.σ)▸H)
theorem VJ {a:ME} (ha:SE K a):PO K .Or (EV K.C) [a]:=fun {es p W ρ Q E} ht S H=>Dt ht fun e es' he h1 Z h3=>he▸Cc h3▸ha h1 S (Hk (o:=C0 K.C a ρ W.σ)▸H)
theorem Br.pick {G:Gx} {m:List Addr} {W:Wd} {β:Type} {Rel':Wd→RV→β→Prop} {Q:β→Bk→Prop} {E:Bq→Bk→Prop} {A:Bm} {o:B1 RV} {g:RV→Bu→B1 RV} {Q1:Bq→Bool→Bk→Prop} (H:Br G m W Rel' Q E (o.bind g)) (hn:∀ r σ,Dn r=none→g r σ= .no)
  (k:∀ t r v W1,Dn r=some t→Go G [] W W1→Cj W1 r v→Br G m W1 Rel' Q E (g r W1.σ)→Q1 v t W1.s):Br G [] W Cj (fun v s=>wpAny (model prog G.w) A (truthy v) (Q1 v) E s) E o:=
 Br.bind H fun r v W1 g1 hr H1=>by
  cases ht:Dn r with
  | none=>rw[hn r _ ht] at H1;exact H1.elim
  | some t=>exact M2 (m:=[]) (E':=fun Z Z=>False) g1.inv hr ht fun b W2 e2 g2 hb=>(show t=b from hb)▸k t r v W2 ht (g1.trans g2) (g2.v hr) (e2▸Br.go g2.up H1)
theorem NU {a b:ME} {l:List ME} (ha:SE K a) (hl:PO K .And (EU K.C) (b::l)):PO K .And (EU K.C) (a::b::l):=fun ht S H=>Dt ht fun e es' he h1 Z h3=>Dt h3 fun e2 es2 he2 Z Z Z=>
 he▸he2▸M8 (ha h1 S (Br.pick H (fun r σ h=>by dsimp only;rw[h]) fun t r v W1 ht g hr H1=>by
  dsimp only at H1;rw[ht] at H1
  cases t
  · exact H1 v W1 rfl (.refl g.inv) hr
  · exact hl (he2▸h3) (S.go g) H1))
theorem NW {a b:ME} {l:List ME} (ha:SE K a) (hl:PO K .Or (EV K.C) (b::l)):PO K .Or (EV K.C) (a::b::l):=fun ht S H=>Dt ht fun e es' he h1 Z h3=>Dt h3 fun e2 es2 he2 Z Z Z=>
 he▸he2▸M8 (ha h1 S (Br.pick H (fun r σ h=>by dsimp only;rw[h]) fun t r v W1 ht g hr H1=>by
  dsimp only at H1;rw[ht] at H1
  cases t
  · exact hl (he2▸h3) (S.go g) H1
  · exact H1 v W1 rfl (.refl g.inv) hr))
theorem Dq {n:Nat} {u:Unit} (h:Df n=some u):n≤Cf:=Decidable.byContradiction fun q=>nn ((if_neg q).symm.trans h)
theorem D3 {n:Nat} (h:n≤Cf):n≤sizeLine:=Ad h (by decide)
theorem P4 {P:B9} {l:List MV} {vs:List Bq} {u:Unit} (hv:Ds P l vs) (h:Df l.length=some u):vs.length≤sizeLine:=hv.length▸D3 (Dq h)
noncomputable abbrev Vf (vs:List Bq):Obj:={cls:=.type "tuple",data:=.seq vs.toArray}
noncomputable abbrev mQ (vs:List Bq):Obj:={cls:=.type "list",data:=.seq vs.toArray}
theorem C4.say {G:Gx} {W:Wd} {r:RV} {Q:Bq→Bk→Prop} {o:Obj} {t:Nat} (I:B6 G W) (H:C4 G W r Q) (hf:o.isFreed=false) (h:Cj (W.say W.s.heap.objs.size o (W.s.heap.push o) t) r (.ref W.s.heap.objs.size)):Q (.ref W.s.heap.objs.size) {W.s with heap:=W.s.heap.push o,toks:=t}:=
 H _ (W.say W.s.heap.objs.size o (W.s.heap.push o) t) rfl (Go.say I B4 (Bp _ hf) I.top) h
theorem C4.tup {G:Gx} {W:Wd} {l:List MV} {vs:List Bq} {Q:Bq→Bk→Prop} {t:Nat} (I:B6 G W) (H:C4 G W (.v (.tup l)) Q) (hv:Ds W.F l vs):Q (.ref W.s.heap.objs.size) {W.s with heap:=W.s.heap.push (Vf vs),toks:=t}:=
 C4.say I H rfl ⟨vs,⟨_,_,_,rfl,.inr ⟨rfl,rfl⟩,rfl,rfl⟩,Ds.up B9.le_add _ hv⟩
theorem C4.lis {G:Gx} {W:Wd} {l:List MV} {vs:List Bq} {Q:Bq→Bk→Prop} {t:Nat} (I:B6 G W) (H:C4 G W (.v (.lis l)) Q) (hv:Ds W.F l vs):Q (.ref W.s.heap.objs.size) {W.s with heap:=W.s.heap.push (mQ vs),toks:=t}:=
 C4.say I H rfl ⟨vs,⟨_,_,_,rfl,.inr ⟨rfl,rfl⟩,rfl,rfl⟩,Ds.up B9.le_add _ hv⟩
theorem gR {l:List ME} (h:ZL K l):SE K (.tup l):=fun ht S H=>Fa ht fun es k p e q=>e▸wpAny_Tuple (h q S (Br.bind H fun x v W1 g hv H1=>H1.optm fun u hu H2=>⟨P4 hv hu,C4.tup g.inv H2 hv⟩))
theorem gO {l:List ME} (h:ZL K l):SE K (.lis l):=fun ht S H=>Gc ht fun es p e q=>e▸wpAny_List (h q S (Br.bind H fun x v W1 g hv H1=>H1.optm fun u hu H2=>⟨P4 hv hu,C4.lis g.inv H2 hv⟩))
theorem Br.new {G:Gx} {m:List Addr} {W:Wd} {mo:MO} {c:D2} {o:Obj} {h:Heap} {d:Addr} {t:Nat} {Q E:Bq→Bk→Prop} (I:B6 G W) (H:Br G m W Cj Q E (.ok (.loc W.σ.length) (W.σ++[mo]))) (k:Hn W.s.heap h) (hd:W.s.heap.get? d=none) (ho:h.get? d=some o) (hc:c.ok G.w o) (hs:SR W.F mo (d,d) c):
  Q (.ref d) {W.s with heap:=h,toks:=t}:=
 H _ (W.new d d mo c h t) rfl ⟨I.new k hd ho hc hs,(Le.refl m W).new fun x e=>nn ((I.none hd).symm.trans e)⟩ ⟨(d,d),by show(W.bs++[(d,d)])[W.σ.length]?=_;rw[←I.len,Az (Av _),Nat.sub_self];rfl,rfl⟩
theorem Ea {h:Heap}:h.get? h.objs.size=none:=Heap.get?_none_of_le (Av _)
theorem Br.pushL {b:Bool} {G:Gx} {m:List Addr} {W:Wd} {mo:MO} {vs:List Bq} {t:Nat} {Q E:Bq→Bk→Prop} (I:B6 G W) (H:Br G m W Cj Q E (.ok (.loc W.σ.length) (W.σ++[mo]))) (hs:SR W.F mo (W.s.heap.objs.size,W.s.heap.objs.size) (.seq b vs)):
  Q (.ref W.s.heap.objs.size) {W.s with heap:=W.s.heap.push (mQ vs),toks:=t}:=
 Br.new (c:=.seq b vs) I H B4 Ea (Bp _ rfl) ⟨rfl,⟨_,rfl⟩,fun Z=>rfl⟩ hs
theorem VG {l:List ME} (h:ZL K l):SE K (.mlis l):=fun ht S H=>Gc ht fun es p e q=>e▸wpAny_List (h q S (Br.bind H fun x v W1 g hv H1=>by
 cases hu:Df x.length with
 | none=>rw[hu] at H1;exact H1.elim
 | some u=>rw[hu] at H1;exact⟨P4 hv hu,Br.pushL g.inv H1 ⟨v,rfl,rfl,hv⟩⟩))
theorem fF {P:Prop} {T:B1 RV→Prop} {a b:RV} {f:Int→Int→B1 RV} (H:T (match a,b with | .v (.int n),.v (.int c)=>f n c | _,_=>.no)) (no:T .no→P) (k:∀ n c,a= .v (.int n)→b= .v (.int c)→T (f n c)→P):P:=by
 cases a with
 | v x=>cases x with
  | int n=>cases b with
   | v y=>cases y with
    | int c=>exact k n c rfl rfl H
    | _=>exact no H
   | _=>exact no H
  | _=>exact no H
 | _=>exact no H
theorem VH {a b:ME} (ha:SE K a) (hb:SE K b):SE K (.mpen a b):=fun ht S H=>Gc ht fun es p e q=>Jh q fun x y e2 h=>
 have h1:=b2 (b2 h).1
 have h2:=b2 h1.1
 e▸e2▸wpAny_List (wpAny_items_cons (ha h2.1 S (Br.bind H fun x v W1 g1 hx H1=>wpAny_items_cons (hb h2.2 (S.go g1) (Br.bind H1 fun y u W2 g2 hy H2=>wpAny_items_nil ⟨by show 2≤sizeLine;decide,
  fF (T:=Br K.G [] W2 Cj _ _) (f:=fun n c=>.ok (.loc W2.σ.length) (W2.σ++[.pen n c])) H2 (fun h=>h.elim) fun n c ex ey H2=>(ex▸g2.v hx:Cj W2 (.v (.int n)) v).elim fun t1 e1=>(ey▸hy:Cj W2 (.v (.int c)) u).elim fun t2 e2=>e1▸e2▸Br.pushL (mo:=.pen n c) g2.inv H2 ⟨t1,t2,rfl,rfl⟩⟩)) (Cg (b2 h).2))) (Cg h1.2))
theorem Gg {o:Expr} {n:Str} {env:Env} {whole:Sem Bq} (h:L7 o=true):attributeBase o n env whole=whole:=by
 cases o with
 | Call f l k p=>cases f with
  | Name x q=>cases l with
   | nil=>cases k with
    | nil=>exact ff h
    | cons _ _=>rfl
   | cons _ _=>rfl
  | _=>rfl
 | _=>rfl
theorem Lo (O:AS K) {o:ME} {n:Str} (ho:SE K o):SE K (.attr o n):=fun ht S H=>D7 ht fun a m p e h=>by
 subst e
 rw[arm_eval_Attribute,Gg (b2 h).2,←of_decide_eq_true (b2 (b2 h).1).1]
 exact Bh (ho (b2 (b2 h).1).2 S (Br.bind H fun x v W1 g1 hx H1=>H1.optm fun m hm H2=>Bh (wpAny_standAt (Bh (Bj (O.attr g1.inv hx hm fun u W2 e2 g2 hu=>Bh (wpAny_letTemporaryGo (Bi (H2 u W2 e2 g2 hu)))))))))
theorem NT (O:AS K) {o i:ME} (ho:SE K o) (hi:SE K i):SE K (.sub o i):=fun ht S H=>Jc ht fun a j p e h=>e▸Subscript_ (ho (b2 (b2 h).1).1 S (Br.bind H fun x v W1 g1 hx H1=>hi (b2 (b2 h).1).2 (S.go g1) (Br.bind H1 fun y u W2 g2 hy H2=>
 H2.optm fun m hm H3=>O.sub (b2 h).2 g2.inv (g2.v hx) hy hm H3)))
noncomputable def SO (K:Kx) (me:Option ME):Prop:=∀ {e:Option Expr} {W:Wd} {ρ:List RV} {Q E:Bq→Bk→Prop},tG K.ns K.env.scope me e=true→At K W ρ→Br K.G [] W WM Q E (pQ K.C me ρ W.σ)→Wp K (evalPart e K.env) Q E W
theorem VK:SO K none:=fun {e W ρ Q E} ht S H=>Mq ht▸evalPart_none .. ▸Bi (H .none W rfl (.refl S.inv) rfl)
theorem VL {me:ME} (h:SE K me):SO K (some me):=fun ht S H=>C2 ht fun e q t=>q▸evalPart_some .. ▸h t S (Br.bind H fun r v W1 g hr H1=>H1 v W1 rfl (.refl g.inv) hr)
theorem WM.go {G:Gx} {m:List Addr} {W W':Wd} (g:Go G m W W') {v:Bq}:∀ {r:Option RV},WM W r v→WM W' r v
 | none,h=>h
 | some r,h=>g.v h
theorem gL (O:AS K) {o:ME} {lo hi:Option ME} (ho:SE K o) (hl:SO K lo) (hh:SO K hi):SE K (.cut o lo hi):=fun ht S H=>Jc ht fun a s p e h=>Zs (b2 h).2 fun x y z q e2 h2=>
 e▸e2▸Mq (b2 h2).2▸Subscript_ (ho (b2 h).1 S (Br.bind H fun r v W1 g1 hr H1=>wpAny_Slice (hl (b2 (b2 h2).1).1 (S.go g1) (Br.bind H1 fun l vl W2 g2 hvl H2=>hh (b2 (b2 h2).1).2 (S.go (g1.trans g2)) (Br.bind H2 fun u vh W3 g3 hvh H3=>
  evalPart_none .. ▸Bi (H3.optm fun m hm H4=>O.cut g3.inv (g3.v (g2.v hr)) (hvl.go g3) hvh hm H4))))))
end
section
variable {K:Kx}
theorem Eb {pos:Pos} {env:Env} {ns:List Str} {sc:Scope}:∀ {l:List ME} {es:List Expr},Hs ns sc l es=true→(backTo pos (starEach es env)).any (·.1)=false∧(backTo pos (starEach es env)).all (!·.1)=true
 | [],es,h=>Cc h▸⟨rfl,rfl⟩
 | m::l,es,h=>Dt h fun e es' q h1 h2 h3=>q▸Cg h2▸Eb (pos:=pos) (env:=env) h3
theorem Fz {M:Model} {A:Bm} {E:Bq→Bk→Prop} {s:Bk} {f:Bq} {args:List (Bool×Sem Bq)} {Q:Args→Bk→Prop} (hp:args.any (·.1)=false)
  (h:wpAny M A (spliced args) (fun vs s'=>Q ⟨vs,[]⟩ s') E s):wpAny M A (evalArgs f true args []) Q E s:=by
 cases args with
 | nil=>
  unfold evalArgs
  show wpAny M A (spliced []>>=_) Q E s
  exact Bh (wpAny_mono h (fun vs s' h'=>Bh (Bi (Bj (Bh (Bi (Bh (Bi (Bi h')))))))) fun Z Z x=>x)
 | cons a rest=>
  obtain⟨b,x⟩:=a
  cases b with
  | false=>exact evalArgs_plain h
  | true=>exact nomatch hp
theorem Kg {e:Expr} {es:List Expr} {pos:Pos} {env:Env} (h:T9 e=true):eval (.Call e es [] pos) env=(do callWith pos (←eval e env) [] (backTo pos (starEach es env)) (backToKw pos (keywordEach [] env))):=by
 cases e<;>first | rfl | exact ff h
theorem G8 {G:Gx} {W:Wd} {id:String}:Ik G W (.builtin id):=⟨_,.inr (.inl rfl),Looks.of_pure rfl⟩
theorem Za {G:Gx} {W:Wd} {id:String}:Ik G W (.type id):=⟨_,.inr (.inl rfl),Looks.of_pure rfl⟩
theorem Rz {f:Bq} {first:List Bq} {pos:Pos} {args:List ME} {es:List Expr} {ρ:List RV} {W:Wd} {Q E:Bq→Bk→Prop} {F:List RV→Bu→B1 RV} (ht:Hs K.ns K.env.scope args es=true) (ha:QE K args) (S:At K W ρ) (H:Br K.G [] W Cj Q E ((Tf K.C args ρ W.σ).bind F))
  (k:∀ as vals W1,Go K.G [] W W1→Fy W1 as vals→Br K.G [] W1 Cj Q E (F as W1.σ)→Ik K.G W1 f∧Wp K (PySem.call f (first++vals)) Q E W1):
  Wp K (callWith pos f first (backTo pos (starEach es K.env)) (backToKw pos (keywordEach [] K.env))) Q E W:=
 have hp:=(Eb (pos:=pos) (env:=K.env) ht).1
 callWith_of (P:=fun h=>∃ k,(k=Keeper.frame∨k=Keeper.machine∨k=Keeper.boundFrame)∧Looks (model prog K.G.w) h (keeperOf f) k) (by rw[hp];rfl) (fun Z h=>h) (Fz hp (ha ht S (Br.bind H fun as vals W1 g hv H1=>k as vals W1 g hv H1)))
theorem HR (O:AS K) (hK:Ff K) (CO:F3 K.G K.C K.N) {W:Wd} {ρ:List RV} {Q E:Bq→Bk→Prop} {r:RV} {v:Bq} {as:List RV} {vals:List Bq} (S:At K W ρ) (hr:Cj W r v) (ha:Fy W as vals) (H:Br K.G [] W Cj Q E (AZ K.C r as W.σ)):Ik K.G W v∧Wp K (PySem.call v vals) Q E W:=by
 cases r with
 | v m=>cases m with
  | val w=>cases w with
   | ref a=>exact CO (f:=.val (.ref a)) hK.call S.frs S.inv ha hr H
   | builtin g=>rw[show v= .builtin g from hr];exact⟨G8,H.optm fun m hm H2=>O.bi S.inv ha hm H2⟩
   | type g=>rw[show v= .type g from hr];exact⟨Za,H.optm fun m hm H2=>O.bi S.inv ha hm H2⟩
   | _=>exact H.elim
  | clo d=>exact CO (f:=.clo d) hK.call S.frs S.inv ha hr H
  | _=>exact H.elim
 | _=>exact H.elim
theorem N9 (O:AS K) (hK:Ff K) (CO:F3 K.G K.C K.N) {f:ME} {args:List ME} (hf:SE K f) (ha:QE K args):SE K (.call f args):=fun ht S H=>Ee ht fun a es kw p e h=>by
 have h1:=b2 h
 have h2:=b2 h1.1
 have h3:=b2 h2.1
 rw[e,Cc h3.1,Kg h2.2]
 exact Bh (hf h3.2 S (Br.bind H fun x v W1 g1 hx H1=>Rz (first:=[]) h1.2 ha (S.go g1) H1 fun as vals W2 g2 hv H2=>HR O hK CO (S.go (g1.trans g2)) (g2.v hx) hv H2))
theorem VF (O:AS K) {o:ME} {n:Str} {args:List ME} (ho:SE K o) (ha:QE K args):SE K (.meth o n args):=fun ht S H=>Ee ht fun a es kw q e h=>D7 (b2 (b2 (b2 h).1).1).2 fun b m p e2 h2=>by
 have h1:=b2 h
 have h3:=b2 h2
 have h4:=b2 h3.1
 have h5:=b2 h4.1
 have hform:methodCallForm (es.length+([]:List Keyword).length) (backTo q (starEach es K.env)) (backToKw q (keywordEach [] K.env))=true:=by
  show(((backTo q (starEach es K.env)).all (!·.1)&&true)&&decide (es.length+0+0 < 30))=true
  rw[(Eb (b2 h1.1).2).2];exact decide_eq_true (Nat.lt_trans (of_decide_eq_true h1.2) (by decide):es.length < 30)
 have hpos:methodCallPos true b K.env p q=pure q:=by
  show(if(!true||p.endLine==q.line)=true then pure q else _)=_
  rw[h3.2];rfl
 rw[e,Cc (b2 (b2 h1.1).1).1,e2,←of_decide_eq_true h5.1,arm_eval_Call,Gg h4.2]
 refine Bh (ho h5.2 S (Br.bind H fun x v W1 g1 hx H1=>Bh (wpAny_standAt ?_)))
 unfold methodCall
 rw[hform]
 cases hM:Ml W1.σ x n with
 | false=>rw[hM] at H1;exact H1.elim
 | true=>
  rw[hM] at H1
  have S1:=S.go g1
  refine(O.meth S1.inv S1.frs hx hM).elim fun fv h=>h.elim fun first h=>?_
  rw[hpos]
  unfold calleeOf
  rw[if_pos rfl]
  exact Bh (Bj (h.1 (Bh (Bi (Rz (b2 h1.1).2 ha S1 H1 fun as vals W2 g2 hv H2=>h.2 g2 hv H2)))))
end
noncomputable def kB (W:Wd):Mine.Di→PySem.Flow→Prop
 | .next,f=>f= .next
 | .brk,f=>f= .brk
 | .ret r,f=>∃ v,f= .ret v∧Cj W r v
noncomputable def GQ (K:Kx) (W:Wd) (x:Mine.Di×List RV) (f:PySem.Flow):Prop:=At K W x.2∧kB W x.1 f
noncomputable def SS (K:Kx) (m:MS):Prop:=∀ {st:Stmt} {W:Wd} {ρ:List RV} {Q:PySem.Flow→Bk→Prop} {E:Bq→Bk→Prop},tH K.ns K.ac K.env.scope m st=true→At K W ρ→Br K.G K.mine W (GQ K) Q E (XA K.C m ρ W.σ)→Wp K (exec st K.env) Q E W
noncomputable def EK (K:Kx) (l:List MS):Prop:=∀ {ss:List Stmt} {W:Wd} {ρ:List RV} {Q:PySem.Flow→Bk→Prop} {E:Bq→Bk→Prop},Rs K.ns K.ac K.env.scope l ss=true→At K W ρ→Br K.G K.mine W (GQ K) Q E (Dv K.C l ρ W.σ)→Wp K (execs ss K.env) Q E W
section
variable {K:Kx} {W:Wd} {ρ:List RV}
theorem Nv {A:Bm} {M:Model} {s:Bk} {env:Env} {E:Bq→Bk→Prop} {name:Str} {c:Addr} {oc:Obj} {v0:Option Bq} {v:Bq} {Q:Unit→Bk→Prop} (hk:env.scope.kind= .function) (hl:env.kindOf name=some .cell)
  (hc:env.cells.lookup name=some c) (ho:s.heap.get? c=some oc) (hd:oc.data= .cell v0)
  (h:Q () {s with heap:=s.heap.update c fun o=>{o with data:=.cell (some v)}}):wpAny M A (storeName env name v) Q E s:=by
 unfold storeName
 rw[hl,hk]
 show wpAny M A (do cellSet (←cellOf env name) (some v)) Q E s
 refine Bh (wpAny_cellOf hc ?_)
 unfold cellSet
 refine Bh (wpAny_load ho ?_)
 rw[hd]
 exact wpAny_update ho h
noncomputable def jY (K:Kx) (k:Nat) (x:Str):Prop:=K.ns[k]?=some x∧(K.env.kindOf x=some .local∨(K.env.kindOf x=some .cell∧x∈K.ac∧(K.dp=true∨x≠C1)))
theorem Hl {k:Nat} {x:Str} (h:Gu K.ns K.ac K.env.scope k x=true):jY K k x:=
 ⟨Pz (b2 h).1,(Bool.or_eq_true_iff.mp (b2 h).2).elim (fun h=>.inl (beq_iff_eq.mp h)) fun h=>have h1:=b2 h;have h2:=b2 h1.1; .inr ⟨beq_iff_eq.mp h2.1,List.contains_iff_mem.mp h2.2,.inr (of_decide_eq_true h1.2)⟩⟩
theorem TP {l:List Str} (h:l.Nodup) {i j:Nat} {x:Str} (a:l[i]?=some x) (b:l[j]?=some x):i=j:=
 have p:=Ah.mp a;have q:=Ah.mp b
 (List.getElem_inj h).mp (p.2.trans q.2.symm)
theorem X8 {W':Wd} {m m':Str→Option Bq} {k:Nat} {x:Str} {r:RV} {v:Bq} (hn:K.ns.Nodup) (hv:ZN K W ρ m) (up:∀ {r v},Cj W r v→Cj W' r v) (hx:K.ns[k]?=some x) (hr:Cj W r v) (h:HA K W' m' x v) (ho:∀ y w,y∈K.ns→y≠x→HA K W m y w→HA K W' m' y w):ZN K W' (ρ.set k r) m':=fun j z r' hj hr' hu=>
 if e:j=k then by
  subst e
  have hz:x=z:=Ab (hx.symm.trans hj)
  have:=Ah.mp hr'
  rw[List.getElem?_set_self (by have:=this.1;rwa [List.length_set] at this)] at hr'
  exact⟨v,Ab hr'▸up hr,hz▸h⟩
 else(hv j z r' hj ((List.getElem?_set_ne (Ne.symm e)).symm.trans hr') hu).elim fun w hw=>⟨w,up hw.1,ho z w (List.mem_of_getElem? hj) (fun q=>e (TP hn (q▸hj) hx)) hw.2⟩
theorem Gi {A:Bm} {M:Model} {Q:Unit→Bk→Prop} {E:Bq→Bk→Prop} {k:Nat} {x:Str} {r:RV} {v:Bq} (hK:Ff K) (S:At K W ρ) (a:jY K k x) (hr:Cj W r v)
  (h:∀ W',W'.σ=W.σ→Go K.G K.mine W W'→At K W' (ρ.set k r)→Q () W'.s):wpAny M A (storeName K.env x v) Q E W.s:=by
 obtain⟨m,hm,hv⟩:=S.val
 have up {W':Wd} (g:Go K.G K.mine W W') {r:RV} {v:Bq} (h:Cj W r v):Cj W' r v:=g.v h
 rcases a.2 with hk | ⟨hk,hac,hdp⟩
 ·
  refine wpAny_storeName_local hk (S.inv.ns hm) (fun h' hn hs=>?_) (by rw[hK.kind];rfl)
  obtain⟨o,es,ep,ho,hd⟩:=hn
  have ne {c:Addr} {x:D2} (q:W.S c=some x) (n:x.kd≠1):c≠K.env.locals:=fun e=>n (by rw[e,hm] at q;exact Ab q▸rfl)
  have g:Go K.G K.mine W (W.lay K.env.locals (.ns _) h' (W.s.toks+1)):=⟨S.inv.lay (fun b o n e=>(hs.2 b n).trans e) ho ⟨es,ep,hd⟩ (S.inv.nof hm) (fun d e=>Ab (hm.symm.trans e)▸fun q=>nomatch q),(Le.refl _ W).lay fun d e Z=>⟨hK.loc,Ab (hm.symm.trans e)▸rfl⟩⟩
  exact h (W.lay K.env.locals (.ns _) h' _) rfl g ⟨g.inv,S.frs.le g.le,(List.length_set ..).trans S.len,⟨_,Dh,X8 hK.nod hv (up g) a.1 hr (.inl ⟨hk,by simp⟩) fun y w Z n hw=>hw.elim (fun hw=>.inl ⟨hw.1,by simp [n,hw.2]⟩) fun⟨q,c,e,d⟩=>.inr ⟨q,c,e,d.elim (fun d=>.inl ⟨(Dg (ne d.1 (fun q=>nomatch q))).trans d.1,d.2⟩) .inr⟩⟩,
   fun y hy=>(S.cel y hy).elim fun c h=>h.elim fun w h=>⟨c,w,h.1,h.2.1,(Dg (ne h.2.2 (fun q=>nomatch q))).trans h.2.2⟩,S.own.le g.le⟩
 ·
  obtain⟨c,v0,hc,hcm,hs⟩:=S.cel x hac
  obtain⟨o,ho,hcl,hcd⟩:=S.inv.sh c _ hs
  refine Nv hK.kind hk hc ho hcd ?_
  have g:Go K.G K.mine W (W.lay c (.cell (some v)) (W.s.heap.update c fun o=>{o with data:=.cell (some v)}) W.s.toks):=⟨S.inv.lay (fun b o n e=>((Heap.SameBut.update W.s.heap c _).2 b n).trans e) (Heap.get?_update_self _ ho rfl) ⟨hcl,rfl⟩ (S.inv.nof hs) (fun d e=>Ab (hs.symm.trans e)▸fun q=>nomatch q),(Le.refl _ W).lay fun d e Z=>⟨hcm,Ab (hs.symm.trans e)▸rfl⟩⟩
  have nl:K.env.locals≠c:=fun e=>by rw[e,hs] at hm;cases hm
  exact h (W.lay c _ _ _) rfl g ⟨g.inv,S.frs.le g.le,(List.length_set ..).trans S.len,⟨m,(Dg nl).trans hm,X8 hK.nod hv (up g) a.1 hr (.inr ⟨.inl hk,c,hc,.inl ⟨Dh,hdp⟩⟩) fun y w hy n hw=>hw.elim .inl fun⟨q,c',e,d⟩=>.inr ⟨q,c',e,d.elim (fun d=>.inl ⟨(Dg fun(z:c'=c)=>n (hK.inj y (hK.only y hy c' e q (z.symm▸hcm)) x hac (e.trans (z▸hc.symm)))).trans d.1,d.2⟩) .inr⟩⟩,
   fun y hy=>(S.cel y hy).elim fun c' h=>h.elim fun w h=>if z:c'=c then⟨c,some v,z▸h.1,hcm,Dh⟩ else⟨c',w,h.1,h.2.1,(Dg z).trans h.2.2⟩,S.own.le g.le⟩
end
open PySem.SeqAt
section
variable {K:Kx} {W:Wd} {ρ ρ':List RV}
noncomputable def Gs (K:Kx):List Nat→List (Bq→Sem Unit)→Prop
 | [],ts=>ts=[]
 | k::ks,ts=>∃ x t ts',ts=t::ts'∧jY K k x∧(∀ {A:Bm} {M:Model} {Q:Unit→Bk→Prop} {E:Bq→Bk→Prop} {s:Bk} {v:Bq},wpAny M A (storeName K.env x v) Q E s→wpAny M A (t v) Q E s)∧Gs K ks ts'
theorem Gs.app {ls:List Nat} {us:List (Bq→Sem Unit)} (h':Gs K ls us) {ks:List Nat}:∀ {ts:List (Bq→Sem Unit)},Gs K ks ts→Gs K (ks++ls) (ts++us):=by
 induction ks with
 | nil=>intro ts h;exact(show ts=[] from h)▸h'
 | cons k ks ih=>intro ts h;exact h.imp fun x h=>h.imp fun t h=>h.elim fun ts' h=>⟨_,congrArg (· ++us) h.1,h.2.1,h.2.2.1,ih h.2.2.2⟩
theorem Gs.rev {ks:List Nat}:∀ {ts:List (Bq→Sem Unit)},Gs K ks ts→Gs K ks.reverse ts.reverse:=by
 induction ks with
 | nil=>exact fun h=>(show _=[] from h)▸rfl
 | cons k ks ih=>
  exact fun h=>h.elim fun x h=>h.elim fun t h=>h.elim fun ts' h=>by
   rw[h.1,List.reverse_cons,List.reverse_cons];exact Gs.app (show Gs K [k] [t] from⟨x,t,[],rfl,h.2.1,h.2.2.1,rfl⟩) (ih h.2.2.2)
theorem G3.length {P:B9} {bs:List (Addr×Addr)}:∀ {l:List RV} {vs:List Bq},G3 P bs l vs→vs.length=l.length
 | [],_,h=>(show _=[] from h)▸rfl
 | r::rs,_,⟨v,q,e,_,b⟩=>e▸congrArg Nat.succ b.length
theorem G3.append {P:B9} {bs:List (Addr×Addr)} {rs':List RV} {vs':List Bq} (h':G3 P bs rs' vs'):∀ {l:List RV} {vs:List Bq},G3 P bs l vs→G3 P bs (l++rs') (vs++vs')
 | [],_,h=>(show _=[] from h)▸h'
 | r::rs,_,⟨v,q,e,a,b⟩=>⟨v,_,congrArg (· ++vs') e,a,G3.append h' b⟩
theorem G3.rev {P:B9} {bs:List (Addr×Addr)}:∀ {l:List RV} {vs:List Bq},G3 P bs l vs→G3 P bs l.reverse vs.reverse
 | [],_,h=>(show _=[] from h)▸rfl
 | r::rs,_,⟨v,q,e,a,b⟩=>by
  subst e;rw[List.reverse_cons,List.reverse_cons];exact G3.append (show G3 P bs [r] [v] from⟨v,[],rfl,a,rfl⟩) (G3.rev b)
theorem Ds.rvrs {P:B9} {bs:List (Addr×Addr)}:∀ {l:List MV} {vs:List Bq},Ds P l vs→G3 P bs (l.map .v) vs
 | [],_,h=>h
 | m::ms,_,⟨v,r,e,a,b⟩=>⟨v,r,e,a,b.rvrs⟩
theorem Ll {k:Nat} {r:RV} (h:F7 ρ k r=some ρ'):k < ρ.length∧ρ.set k r=ρ':=if q:k < ρ.length then⟨q,Ab ((if_pos q).symm.trans h)⟩ else nn ((if_neg q).symm.trans h)
theorem MW {k:Nat} {r:RV} (h:k < ρ.length):F7 ρ k r=some (ρ.set k r):=if_pos h
theorem Sl {k:Nat} {r:RV} {ks:List Nat} {rs:List RV}:C9 (k::ks) (r::rs) ρ=(F7 ρ k r).bind (C9 ks rs):=by
 show(match F7 ρ k r with | some ρ'=>C9 ks rs ρ' | none=>none)=_
 cases F7 ρ k r<;>rfl
theorem E3 {k:Nat} {r:RV} {ks:List Nat} {rs:List RV} (hk:k < ρ.length):C9 (k::ks) (r::rs) ρ=C9 ks rs (ρ.set k r):=Sl.trans (by rw[MW hk];rfl)
theorem Ge {k:Nat} {r:RV} {ks:List Nat} {rs:List RV} (h:C9 (k::ks) (r::rs) ρ=some ρ'):k < ρ.length∧C9 ks rs (ρ.set k r)=some ρ':=
 if q:k < ρ.length then⟨q,(E3 q).symm.trans h⟩ else nn ((show none=(F7 ρ k r).bind (C9 ks rs) from by rw[show F7 ρ k r=none from if_neg q];rfl).trans (Sl.symm.trans h))
theorem Xz {A:Bm} {M:Model} {E:Bq→Bk→Prop} (hK:Ff K):∀ {ks:List Nat} {ts:List (Bq→Sem Unit)} {rs:List RV} {vs:List Bq} {W:Wd} {ρ:List RV} {Q:Unit→Bk→Prop},Gs K ks ts→At K W ρ→C9 ks rs ρ=some ρ'→Fy W rs vs→
  (∀ W',W'.σ=W.σ→Go K.G K.mine W W'→At K W' ρ'→Q () W'.s)→wpAny M A (assignInOrder ts vs) Q E W.s:=by
 intro ks
 induction ks with
 | nil=>
  intro ts rs vs W ρ Q ht S h hv q
  cases rs with
  | nil=>exact(show _=[] from ht)▸(show _=[] from hv)▸Bi (q W rfl (.refl S.inv) (Ab h▸S))
  | cons _ _=>exact nn h
 | cons k ks ih=>
  intro ts rs vs W ρ Q ht S h hv q
  cases rs with
  | nil=>exact nn h
  | cons r rs=>
   obtain⟨x,t,ts',e,a,b,c⟩:=ht
   obtain⟨v,vs',e2,hr,hv⟩:=hv
   rw[e,e2]
   show wpAny M A (do holding vs' (t v);assignInOrder ts' vs') _ E W.s
   exact Bh (Bj (b (Gi hK S a hr fun W1 e1 g1 S1=>ih c S1 (Ge h).2 (g1.vs hv) fun W2 e2 g2 S2=>q W2 (e2.trans e1) (g1.trans g2) S2)))
theorem M1 {P:Prop} {ns ac:List Str} {sc:Scope} {k:Nat} {ks:List Nat} {es:List Expr} (h:X3 ns ac sc (k::ks) es=true) (z:∀ x p es',es= .Name x p::es'→Gu ns ac sc k x=true→X3 ns ac sc ks es'=true→P):P:=by
 cases es with
 | nil=>exact ff h
 | cons e es=>exact B5 (b2 h).1 fun x p e1 h1=>z x p es (e1▸rfl) h1 (b2 h).2
theorem O2 {ks:List Nat}:∀ {es:List Expr},X3 K.ns K.ac K.env.scope ks es=true→Gs K ks ((assignEach es K.env).map (·.2)):=by
 induction ks with
 | nil=>exact fun h=>Cc h▸rfl
 | cons k ks ih=>exact fun h=>M1 h fun x p es' e h1 h2=>e▸⟨x,assign (.Name x p) K.env,_,rfl,Hl h1,fun h=>wpAny_assign_Name h,ih h2⟩
theorem Oo:∀ {ks:List Nat} {es:List Expr},X3 K.ns K.ac K.env.scope ks es=true→Gs K ks ((N3 es).map fun n=>bindName K.env n)
 | [],_,h=>Cc h▸rfl
 | k::ks,es,h=>M1 h fun x p es' e h1 h2=>e▸⟨x,bindName K.env x,_,rfl,Hl h1,fun h=>wpAny_bindName h,Oo h2⟩
theorem Vy {env:Env} {ns ac:List Str} {sc:Scope} {ks:List Nat}:∀ {es:List Expr},X3 ns ac sc ks es=true→(assignEach es env).length=ks.length∧(assignEach es env).findIdx? (·.1)=none∧(N3 es).length=ks.length:=by
 induction ks with
 | nil=>exact fun h=>Cc h▸⟨rfl,rfl,rfl⟩
 | cons k ks ih=>
  exact fun h=>M1 h fun x p es' e h1 h2=>e▸
   have ih:=ih h2
   ⟨congrArg Nat.succ ih.1,by
    show List.findIdx? (·.1) ((false,assign (.Name x p) env)::assignEach es' env)=none
    rw[List.findIdx?_cons,if_neg (fun q=>nomatch q),ih.2.1];rfl,congrArg Nat.succ ih.2.2⟩
theorem Kq:∀ {ks:List Nat} {rs:List RV} {ρ ρ':List RV},C9 ks rs ρ=some ρ'→rs.length=ks.length
 | [],[],_,_,_=>rfl
 | [],_::_,_,_,h=>nn h
 | _::_,[],_,_,h=>nn h
 | _::_,_::_,_,_,h=>congrArg Nat.succ (Kq (Ge h).2)
theorem AC {k:Nat} {r:RV} {ks:List Nat}:∀ {rs:List RV} {ρ ρ':List RV},k∉ks→C9 ks rs ρ=some ρ'→C9 ks rs (ρ.set k r)=some (ρ'.set k r):=by
 induction ks with
 | nil=>
  intro rs ρ ρ' _ h
  cases rs with
  | nil=>exact Ab h▸rfl
  | cons _ _=>exact nn h
 | cons p ps ih=>
  intro rs ρ ρ' hk h
  cases rs with
  | nil=>exact nn h
  | cons m ms=>
   have q:=Ge h
   exact(E3 ((List.length_set ..).symm▸q.1)).trans (List.set_comm m r (fun e=>hk (e▸ .head _):p≠k)▸ih (fun q=>hk (.tail _ q)) q.2)
theorem Xs {k:Nat} {r:RV} {ks:List Nat}:∀ {rs:List RV} {ρ ρ':List RV},C9 ks rs ρ=some ρ'→k < ρ.length→C9 (ks++[k]) (rs++[r]) ρ=some (ρ'.set k r):=by
 induction ks with
 | nil=>
  intro rs ρ ρ' h hk
  cases rs with
  | nil=>exact(E3 hk).trans (Ab h▸rfl)
  | cons _ _=>exact nn h
 | cons p ps ih=>
  intro rs ρ ρ' h hk
  cases rs with
  | nil=>exact nn h
  | cons m ms=>
   have q:=Ge h
   exact(E3 q.1).trans (ih q.2 ((List.length_set ..).symm▸hk))
theorem AB {ks:List Nat}:∀ {rs:List RV} {ρ1 ρ2 ρ':List RV},C9 ks rs ρ1=some ρ'→ρ1.length=ρ2.length→∃ ρ3,C9 ks rs ρ2=some ρ3:=by
 induction ks with
 | nil=>
  intro rs ρ1 ρ2 ρ' h hl
  cases rs with
  | nil=>exact⟨ρ2,rfl⟩
  | cons _ _=>exact nn h
 | cons p ps ih=>
  intro rs ρ1 ρ2 ρ' h hl
  cases rs with
  | nil=>exact nn h
  | cons m ms=>
   have q:=Ge h
   exact(ih q.2 (ρ2:=ρ2.set p m) ((List.length_set ..).trans (hl.trans (List.length_set ..).symm))).elim fun r e=>⟨r,(E3 (hl▸q.1)).trans e⟩
theorem Qs:∀ {ks:List Nat} {rs:List RV} {ρ ρ':List RV},ks.Nodup→C9 ks rs ρ=some ρ'→C9 ks.reverse rs.reverse ρ=some ρ'
 | [],[],_,_,_,h=>h
 | [],_::_,_,_,_,h=>nn h
 | _::_,[],_,_,_,h=>nn h
 | p::ps,m::ms,ρ,ρ',hn,h=>
  have q:=Ge h
  have n:=List.nodup_cons.mp hn
  List.reverse_cons (a:=p)▸List.reverse_cons (a:=m)▸(AB q.2 (ρ2:=ρ) (List.length_set ..)).elim fun ρ2 e=>
   Ab ((AC n.1 e).symm.trans q.2)▸Xs (Qs n.2 e) q.1
theorem FY {ps:List Ir}:∀ {ks:List Nat} {l:List MV} {ρ ρ':List RV},CY ps=some ks→FW ps l ρ=some ρ'→C9 ks (l.map .v) ρ=some ρ':=by
 induction ps with
 | nil=>
  intro ks l ρ ρ' e h
  cases l with
  | nil=>exact Ab e▸h
  | cons _ _=>exact nn h
 | cons p ps ih=>
  intro ks l ρ ρ' e h
  cases p with
  | tup _=>exact nn e
  | var k=>
   cases l with
   | nil=>exact nn h
   | cons m l=>
    exact Cw (o:=CY ps) e fun ks' hp e=>by
     have h:(match F7 ρ k (.v m) with | some ρ'=>FW ps l ρ' | none=>none)=some ρ':=h
     cases hq:F7 ρ k (.v m) with
     | none=>rw[hq] at h;exact nn h
     | some ρ1=>
      rw[hq] at h
      have q:=Ll hq
      exact e▸(E3 q.1).trans (q.2▸ih hp h)
theorem Uq {Q:Unit→Bk→Prop} {E:Bq→Bk→Prop} {e:Expr} {m:MV} {v:Bq} (hK:Ff K) (S:At K W ρ) (hv:VR W.F m v) (q:∀ W',W'.σ=W.σ→Go K.G K.mine W W'→At K W' ρ'→Q () W'.s):∀ {p:Ir},jW K.ns K.ac K.env.scope p e=true→put p m ρ=some ρ'→Wp K (assign e K.env v) Q E W
 | .var k,ht,hp=>B5 ht fun x p e h=>e▸wpAny_assign_Name (Gi (r:=.v m) hK S (Hl h) hv ((Ll hp).2▸q))
 | .tup ps,ht,hp=>Fa ht fun ts k p e h=>C2 h fun ks hks h=>by
  subst e
  cases m with
  | tup l=>
   obtain⟨vs,⟨a,o,n,e,hF,hc⟩,hvs⟩:=hv
   have hs:=FY hks hp
   have hl:=Vy (env:=K.env) h
   rw[e,arm_assign_Tuple]
   refine Bh (wpAny_standAt (wpAny_unpack_tuple hK.call.calm ⟨o,S.inv.fh _ _ hF,hc.1,n,hc.2⟩ ?_ hl.2.1 fun h' hk=>?_))
   · rw[hl.1,←Kq hs,Am,←hvs.size]
   ·
    have g:Go K.G [] W (W.see h' W.s.toks):=Go.see S.inv fun a o e=>hk a o (Nat.ne_of_lt (Heap.lt_size e)) e
    exact Xz hK (O2 h) (S.go g) hs (by rw[List.toList_toArray];exact hvs.rvrs) fun W' e g' S'=>q W' e (g.up.trans g') S'
  | _=>exact nn hp
theorem Jg {v:Expr} {t:Option Expr} {l:Nat} {env:Env} (h:Ed v=true):swapsWith v t l env=pure false:=by
 cases v<;>first | rfl | exact ff h
theorem G2 {v t:Expr} {l:Nat} {env:Env} (h:Ed v=true):swapsWithSole [t] v l env=pure false:=Jg h
theorem AL {l:List Expr} {k:Nat} {p:Pos} {v:Expr} {env:Env} (h:LI v=true):swappedStores [.Tuple l k p] v env=pure none:=by
 cases v<;>first | rfl | exact ff h
theorem Xy {a b:Expr} {p:Pos} {v:Expr} {env:Env}:swappedStores [.Subscript a b p] v env=pure none:=rfl
theorem Xw {a:Expr} {n:Str} {p:Pos} {v:Expr} {env:Env}:swappedStores [.Attribute a n p] v env=pure none:=rfl
theorem Mr {env:Env} (h:env.scope.kind= .function):interactive env=false:=by unfold interactive;rw[h];rfl
theorem hJ {e:ME} (he:SE K e):SS K (.ret e):=fun ht S H=>Lg ht fun a p e h=>C2 h fun x e2 h=>e▸e2▸wpAny_Return_some (he h S (Br.bind H fun r v W1 g hr H1=>H1 _ W1 rfl (.refl g.inv) ⟨S.go g,v,rfl,hr⟩))
theorem gY:SS K .brk:=fun {st W ρ Q E} ht S H=>LT ht fun p e Z=>e▸wpAny_Break (H _ W rfl (.refl S.inv) ⟨S,rfl⟩)
theorem DS:SS K .dead:=fun Z Z H=>H.elim
theorem VM {e:ME} (hK:Ff K) (he:SE K e):SS K (.expr e):=fun ht S H=>Qb ht fun a p e h=>e▸wpAny_Expr_any (he (b2 h).1 S (Br.bind H fun r v W1 g hr H1=>H1 _ W1 rfl (.refl g.inv) ⟨S.go g,rfl⟩)) (Mr hK.kind) (Jg (b2 h).2)
theorem OH {c:ME} {a b:List MS} (hc:ST K c) (ha:EK K a) (hb:EK K b):SS K (.ite c a b):=fun ht S H=>LY ht fun t p q z e h=>e▸wpAny_If (hc (b2 (b2 h).1).1 S (Br.test H (fun r σ h=>by rw[h]) fun t r W1 ht g H1=>by
 rw[ht] at H1
 cases t
 · exact hb (b2 h).2 (S.go g) H1
 · exact ha (b2 (b2 h).1).2 (S.go g) H1))
theorem U7:EK K []:=fun {ss W ρ Q E} ht S H=>Cc ht▸wpAny_execs_nil (H _ W rfl (.refl S.inv) ⟨S,rfl⟩)
theorem Xu {m:MS} {ms:List MS} (hm:SS K m) (hms:EK K ms):EK K (m::ms):=by
 intro ss W ρ Q E ht S H
 cases ss with
 | nil=>exact ff ht
 | cons s ss=>
  refine wpAny_execs_cons (hm (b2 ht).1 S (Br.bindm H fun r f W1 g hf H1=>?_))
  obtain⟨fl,ρ1⟩:=r
  cases fl with
  | next=>exact(show f= .next from hf.2)▸hms (b2 ht).2 hf.1 H1
  | brk=>exact(show f= .brk from hf.2)▸H1 _ W1 rfl (.refl g.inv) ⟨hf.1,rfl⟩
  | ret r=>exact hf.2.elim fun v e=>e.1▸H1 _ W1 rfl (.refl g.inv) ⟨hf.1,v,rfl,e.2⟩
end
section
variable {G:Gx} {m:List Addr} {W W0:Wd} {fr:List Env} {A:Bm} {M:Model}
theorem Eu.mem (x:Eu fr W) {a:Addr} (h:a∈fr.filterMap (·.frame)):∃ f,W.S a=some (.ns f):=
 let ⟨env,he,hf⟩:=List.mem_filterMap.mp h
 (x env he).2.elim fun L q=>q.elim fun f q=>⟨f,Ab (hf.symm.trans q.1)▸q.2⟩
theorem B6.slots {h:Heap} {t:Nat} (I:B6 G W) (x:Eu fr W) (hs:Heap.SlotsOnly (fr.filterMap (·.frame)) W.s.heap h):B6 G (W.see h t):=
 have oth {a:Addr} (n:¬ ∃ f,W.S a=some (.ns f)):h.get? a=W.s.heap.get? a:=hs.2.1 a fun q=>n (x.mem q)
 I.see' (fun a o n e=>(oth fun⟨f,q⟩=>nn (n.symm.trans q)).trans e) fun a c e=>(I.sh a c e).elim fun o q=>by
  cases c with
  | ns f=>exact(hs.2.2 a o q.1).elim fun sl e=>⟨_,e,q.2⟩
  | _=>exact⟨o,(oth fun r=>r.elim fun f r=>nomatch Ab (e.symm.trans r)).trans q.1,q.2⟩
theorem B6.base (I:B6 G W) {a:Addr} {c:D2} (h:W.S a=some c):G.hB.get? a=Option.none:=match e:G.hB.get? a with
 | .none=>rfl
 | .some o=>nn ((I.fs a o (I.old a o e)).symm.trans h)
theorem Eu.fun_ (I:B6 G W) {fr:List Env} (x:Eu fr W):W.s.heap.FunFrames G.hB fr:=by
 induction fr with
 | nil=>trivial
 | cons env fr ih=>exact⟨(x env (.head _)).1,(x env (.head _)).2.elim fun L q=>q.elim fun f q=>(I.sh L _ q.2).elim fun o r=>⟨L,o,q.1,I.base q.2,r.1,r.2.elim fun es y=>y.elim fun ep y vs e=>nomatch y.1.symm.trans e⟩,ih fun e he=>x e (.tail _ he)⟩
theorem YU.set {o:Obj} (h:YU o) (v:Bq):YU (Obj.mapFields (·.setIfInBounds 3 v) o):=let ⟨ts,a,b,c⟩:=h;⟨_,(Obj.cls_mapFields _ _).trans a,Obj.data_mapFields b _,by simpa using c⟩
theorem DZ {T a:Addr} {v:Bq} {Q:Unit→Bk→Prop} {E:Bq→Bk→Prop} (I:B6 G W) (hT:W.S T=some (.any YU)) (h:∀ h',C8 T W.s.heap h'→B6 G (W.see h' W.s.toks)→Q () {W.s with heap:=h'}):wpAny M A (setField (.ref T) 3 v) Q E W.s:=by
 obtain⟨o,ho,hd⟩:=I.sh T _ hT
 obtain⟨ts,hc,hf,hz⟩:=id hd
 have k:C8 T W.s.heap (W.s.heap.update T (Obj.mapFields (·.setIfInBounds 3 v))):=fun b x n e=>(Heap.get?_update_other _ _ (Ne.symm n)).trans e
 exact wpAny_setField ho hf hz (h _ k (I.turn hT k (Heap.get?_update_self _ ho (Obj.isFreed_of_fields (Obj.data_mapFields hf _))) (hd.set v)))
theorem Sw.see {n:Int} {e:Bq} {y:PZ} {h:Heap} {t:Nat} (x:Sw W n e y) (ho:h.get? y.a=some {cls:=.ref 72,dict:=some y.dx,data:=.fields y.vs,slots:=y.sl}):Sw (W.see h t) n e y:=⟨x.e,x.s,ho,x.d,x.x⟩
theorem Jk {fo:Option Addr} {e:Bq} {n:Int} {Q:Unit→Bk→Prop} {E:Bq→Bk→Prop} (I:B6 G W) (x:Sv W n e) (h:∀ W',W'.σ=W.σ→Go G m W W'→Sv W' n e→Q () W'.s):wpAny M A (setFlight e fo) Q E W.s:=by
 obtain⟨y,p,_,hx,T,rfl,hT,hs⟩:=x
 unfold setFlight
 rw[p.e]
 refine Bh (wpAny_field p.o rfl hx ?_)
 rw[if_pos (show(Bq.ref T != Bq.none)=true from rfl)]
 exact DZ (a:=y.a) I hs fun h' k I'=>h (W.see h' W.s.toks) rfl ⟨I',(Le.refl m W).see⟩ ⟨y,p.see (k _ _ (Ne.symm hT) p.o),_,hx,T,rfl,hT,hs⟩
theorem Vn {env:Env} {e:Bq} {n:Int} {E:Bq→Bk→Prop} (I:B6 G W) (x:Sv W n e) (h:∀ W',W'.σ=W.σ→Go G m W W'→Sv W' n e→E e W'.s):cameBackBy M A env E e W.s:=by
 unfold cameBackBy
 obtain⟨y,p,_,hx,T,rfl,hT,hs⟩:=id x
 rw[p.e]
 refine Bh (wpAny_field p.o rfl hx ?_)
 rw[if_neg (fun q=>nomatch q),←p.e]
 exact Jk (m:=m) I x h
noncomputable abbrev qB (head:Bq) (L:Addr) (pl:List Bq):Obj:={cls:=.type "traceback",dict:=none,data:=.fields ([head,.ref L,.none,rawInt L,.none]++(if pl.isEmpty then Ao 6 Bq.none else pl)).toArray}
theorem Ua {env:Env} {outer:List Env} {e:Bq} {n:Int} {Q:Unit→Bk→Prop} {E:Bq→Bk→Prop} (hA:A.frames=some (env::outer)) (I:B6 G W) (hf:Eu (env::outer) W) (x:ZE W n e) (h:∀ W',W'.σ=W.σ→Go G m W W'→Sv W' n e→Q () W'.s):wpAny M A (noteFrame e env) Q E W.s:=by
 obtain⟨y,p,v,hx,hv⟩:=x
 obtain⟨kd,L,f,hL,hLs⟩:=hf env (.head _)
 unfold noteFrame
 simp only [hL]
 have tail:∀(h1:Heap) (head:Bq) (hd:Bool),B6 G (W.see h1 W.s.toks)→h1.get? y.a=some {cls:=.ref 72,dict:=some y.dx,data:=.fields y.vs,slots:=y.sl}→
   wpAny M A (do let f ←frameOf env;let pl ←entryPlaceOf L hd;let b ←EntryCells.newEntry head f .none (rawInt L) .none pl;setField (.ref y.a) 1 b) Q E (W.see h1 W.s.toks).s:=by
  intro h1 head hd I1 he
  refine Bh (wpAny_frameOf_fun hA (Eu.fun_ I1 hf) hL fun h2 hs=>Bh (wpAny_entryPlaceOf fun pl hpl=>?_))
  have I2:B6 G (W.see h2 W.s.toks):=B6.slots (W:=W.see h1 W.s.toks) I1 hf hs
  have he2:h2.get? y.a=some {cls:=.ref 72,dict:=some y.dx,data:=.fields y.vs,slots:=y.sl}:=(hs.2.1 y.a fun q=>(Eu.mem hf q).elim fun f q=>nomatch Ab (p.s.symm.trans q)).trans he
  unfold EntryCells.newEntry newFields
  refine Bh (wpAny_newObj_type ?_ (hpl.sizeOk5 _ _ _ _ _))
  have he3:=Bo (qB head L pl) he2
  have hz:3 < ([head,.ref L,.none,rawInt L,.none]++(if pl.isEmpty then Ao 6 Bq.none else pl)).toArray.size:=by rw[List.size_toArray,Ai];exact Bb (show 3 < 5 by decide) (A4 ..)
  have I3:=B6.lay (t:=W.s.toks) (c:=.any YU) (o:=qB head L pl) I2 (fun b o n e=>B4 b o e) (Bp h2 rfl) ⟨_,rfl,rfl,hz⟩ (fun o q=>nn (Ea.symm.trans (I2.fh _ _ q))) (fun d q=>nn (I2.top.symm.trans q))
  have hd3:=Obj.data_mapFields (o:={cls:=.ref 72,dict:=some y.dx,data:=.fields y.vs,slots:=y.sl}) rfl (·.setIfInBounds 1 (Bq.ref h2.objs.size))
  have he4:=Heap.get?_update_self (Obj.mapFields (·.setIfInBounds 1 (Bq.ref h2.objs.size))) he3 (Obj.isFreed_of_fields hd3)
  have ne:h2.objs.size≠y.a:=Nat.ne_of_gt (Heap.lt_size he2)
  have k4:C8 y.a (h2.push (qB head L pl)) _:=fun b x n e=>(Heap.get?_update_other _ (Obj.mapFields (·.setIfInBounds 1 (Bq.ref h2.objs.size))) (Ne.symm n)).trans e
  have sa:up W.S h2.objs.size (.any YU) y.a=some (.any (RJ y.dx)):=(Dg (Ne.symm ne)).trans p.s
  refine wpAny_setField he3 rfl (Array.getElem?_eq_some_iff.mp hx).1 (h ((W.see h2 W.s.toks).lay h2.objs.size (.any YU) ((h2.push (qB head L pl)).update y.a (Obj.mapFields (·.setIfInBounds 1 (Bq.ref h2.objs.size)))) W.s.toks) rfl ⟨I3.turn sa k4 he4 ⟨_,_,rfl⟩,((Le.refl m W).see (h:=h2) (t:=W.s.toks)).lay fun d q=>nn (I2.top.symm.trans q)⟩ ⟨{y with vs:=y.vs.setIfInBounds 1 (.ref h2.objs.size)},⟨p.e,sa,he4,p.d,p.x⟩,_,Array.getElem?_setIfInBounds_self_of_lt (Array.getElem?_eq_some_iff.mp hx).1,_,rfl,ne,Dh⟩)
 rw[p.e]
 rcases hv with rfl | ⟨T,rfl,hT,hs⟩
 ·
  refine Bh (wpAny_field p.o rfl hx ?_)
  rw[if_neg (by decide)]
  exact tail W.s.heap .none _ I p.o
 ·
  refine Bh (wpAny_field p.o rfl hx ?_)
  rw[if_pos (show(Bq.ref T != Bq.none)=true from rfl)]
  obtain⟨oT,hoT,ts,hc,hd,hz⟩:=I.sh T _ hs
  refine Bh (wpAny_field (x:=ts[3]) hoT hd (Array.getElem?_eq_getElem hz) ?_)
  split
  · exact Bi (h W rfl (.refl I) ⟨y,p,_,hx,T,rfl,hT,hs⟩)
  · exact Bh (DZ (a:=y.a) I hs fun h' k I'=>tail h' (.ref T) _ I' (k _ _ (Ne.symm hT) p.o))
theorem P1 {env:Env} {outer:List Env} {e:Bq} {n:Int} {Q:Unit→Bk→Prop} {E:Bq→Bk→Prop} (hA:A.frames=some (env::outer)) (I:B6 G W) (hf:Eu (env::outer) W) (x:ZE W n e) (h:∀ W',W'.σ=W.σ→Go G m W W'→Sv W' n e→Q () W'.s):wpAny M A (leaving env e) Q E W.s:=by
 unfold leaving
 exact Bh (Ua (m:=m) hA I hf x fun W1 e1 g1 x1=>Jk (m:=m) g1.inv x1 fun W2 e2 g2 x2=>h W2 (e2.trans e1) (g1.trans g2) x2)
theorem KP {env:Env} {outer:List Env} {e:Bq} {n:Int} {E:Bq→Bk→Prop} (hA:A.frames=some (env::outer)) (I:B6 G W) (hf:Eu (env::outer) W) (x:ZE W n e) (h:∀ W',W'.σ=W.σ→Go G m W W'→ZE W' n e→E e W'.s):notedBy M A env (fun e s'=>cameBackBy M A env E e s') e W.s:=by
 unfold notedBy
 exact Ua (m:=m) hA I hf x fun W1 e1 g1 x1=>Vn (m:=m) g1.inv x1 fun W2 e2 g2 x2=>h W2 (e2.trans e1) (g1.trans g2) x2.fly
end
noncomputable def CA (K:Kx) (e:ME):Prop:=∀ {k:Nat} {x:Str} {p:Pos} {v:Expr} {pos:Pos} {W:Wd} {ρ:List RV} {Q:PySem.Flow→Bk→Prop} {E:Bq→Bk→Prop},jY K k x→El K.ns K.env.scope e v=true→AN K.env.scope x p v=true→At K W ρ→
 Br K.G K.mine W (GQ K) Q E (XA K.C (.assign (.var k) e) ρ W.σ)→Wp K (exec (.Assign [.Name x p] v pos) K.env) Q E W
section
variable {K:Kx} {W:Wd} {ρ ρ':List RV}
theorem GG {p:Ir} {e:ME} (hK:Ff K) (he:SE K e) (hca:CA K e):SS K (.assign p e):=fun ht S H=>Hq ht fun l v pos e1 h=>Dr (b2 h).2 fun t e2 h2=>by
 subst e1;subst e2
 cases p with
 | var k=>
  exact B5 (b2 h2).2 fun x q e3 h3=>B5 (b2 h2).1 fun x' q' e4 h4=>by
   subst e3;cases e4
   cases hc:Ed v with
   | false=>rw[hc] at h3;exact hca (Hl h4) (b2 h).1 h3 S H
   | true=>exact wpAny_Assign_Name (he (b2 h).1 S (Br.bind H fun r w W1 g hr H1=>H1.optm fun ρ' hp H2=>Gi hK (S.go g) (Hl h4) hr fun W2 e2 g2 S2=>H2 _ W2 e2 g2 ⟨(Ll hp).2▸S2,rfl⟩)) (Jg hc)
 | tup ps=>
  exact Fa (b2 h2).1 fun ts k q e3 h3=>by
   subst e3
   refine Assign_Tuple (he (b2 h).1 S (Br.bind H fun r w W1 g hr H1=>?_)) (G2 (b2 (b2 h2).2).1) (AL (b2 (b2 h2).2).2)
   cases r with
   | v m=>exact H1.optm fun ρ' hp H2=>Uq hK (S.go g) hr (fun W2 e2 g2 S2=>H2 _ W2 e2 g2 ⟨S2,rfl⟩) (b2 h2).1 hp
   | _=>exact H1.elim
theorem P0 {α β:Type} {sw:α→β} {c:Prop} [Decidable c] {x y:β} {a b:α} (h1:x=sw a) (h2:y=sw b):(if c then x else y)=sw (if c then a else b):=
 if q:c then(if_pos q).trans (h1.trans (congrArg sw (if_pos q).symm)) else(if_neg q).trans (h2.trans (congrArg sw (if_neg q).symm))
noncomputable def swS (X:Sem (Option (List Str))):Option (Option (List Str))→Sem (Option (List Str))
 | some r=>pure r
 | none=>X
theorem VU {ts vs:List Expr} {k k':Nat} {p p':Pos} {env:Env} (hk:env.scope.kind= .function):∃ X,swappedStores [.Tuple ts k p] (.Tuple vs k' p') env=swS X (OW env.scope ts vs):=by
 have hb:env.blockKind= .function:=by unfold Env.blockKind;rw[hk];rfl
 have hs:∀ f:Expr→Bool,(∀ e,f e=Y8 e)→vs.any f=vs.any Y8:=fun f hf=>congrArg vs.any (funext hf)
 unfold swappedStores
 dsimp only
 rw[hb,show(ScopeKind.function != ScopeKind.function)=false from rfl,Bool.or_false,hs _ (fun e=>by cases e<;>rfl)]
 exact⟨_,P0 rfl (P0 rfl (P0 rfl (P0 rfl (P0 rfl rfl))))⟩
theorem DW {ts vs:List Expr} {k k':Nat} {p p':Pos} {env:Env} {r:Option (List Str)} (h:OW env.scope ts vs=some r) (hk:env.scope.kind= .function):swappedStores [.Tuple ts k p] (.Tuple vs k' p') env=pure r:=
 (VU hk).elim fun X e=>e.trans (h▸rfl)
theorem Sr {vs:List Bq} {h:Heap}:(h.push (Vf vs)).IsTuple h.objs.size vs.toArray:=⟨_,Bp _ rfl,rfl,_,rfl⟩
theorem AF {ks:List Nat} {es:List ME} (hK:Ff K) (he:QE K es):SS K (.assignT ks es):=fun {st W ρ Q E} ht S H=>Hq ht fun l v pos e1 h=>Dr h fun t e2 h=>Fa h fun ts k p e3 h=>Fa (b2 h).2 fun vs k' p' e4 h4=>by
 clear ht h
 subst e1;subst e2;subst e3;subst e4
 have hk:=(b2 h).1
 have h5:=b2 h4
 have h6:=b2 h5.1
 have h7:=b2 h6.1
 have hl:=Vy (env:=K.env) hk
 have eval_ {Q':Bq→Bk→Prop} (kk:∀ v r W1 ρ',At K W1 ρ→C9 ks r ρ=some ρ'→Fy W1 r v→v.length=ks.length→(∀ W2,W2.σ=W1.σ→Go K.G K.mine W1 W2→At K W2 ρ'→Q .next W2.s)→Q' (.ref W1.s.heap.objs.size) {W1.s with heap:=W1.s.heap.push (Vf v)}):Wp K (eval (.Tuple vs k' p') K.env) Q' E W:=
  wpAny_Tuple (he h7.1 S (Br.bind H fun r v W1 g hr H1=>H1.optm fun ρ' hp H2=>
   have hl':v.length=ks.length:=hr.length.trans (Kq hp)
   ⟨hl'▸Ad (of_decide_eq_true h5.2) (by decide),kk v r W1 ρ' (S.go g) hp hr hl' fun W2 e2 g2 S2=>H2 _ W2 e2 g2 ⟨S2,rfl⟩⟩))
 have there {W1:Wd} {v:List Bq} {h':Heap} (I:B6 K.G W1) (hk':Heap.ExtBut (W1.s.heap.push (Vf v)).objs.size (W1.s.heap.push (Vf v)) h'):Go K.G [] W1 (W1.see h' W1.s.toks):=
  Go.see I fun a o e=>hk' a o (Nat.ne_of_lt (Heap.lt_size (B4 a o e))) (B4 a o e)
 have fin {W1:Wd} {r:List RV} {v:List Bq} {ρ':List RV} {h':Heap} {ks':List Nat} {ts':List (Bq→Sem Unit)} (S1:At K W1 ρ) (hr:Fy W1 r v) (q:∀ W2,W2.σ=W1.σ→Go K.G K.mine W1 W2→At K W2 ρ'→Q .next W2.s) (g:Go K.G [] W1 (W1.see h' W1.s.toks)) (ht':Gs K ks' ts') (hp:C9 ks' r ρ=some ρ'):wpAny (model prog K.G.w) K.A (assignInOrder ts' v) (fun Z=>Q .next) E (W1.see h' W1.s.toks).s:=
  Xz hK ht' (S1.go g) hp (g.vs hr) fun W3 e3 g3 S3=>q W3 e3 (g.up.trans g3) S3
 refine C2 h7.2 fun r hr h8=>?_
 cases r with
 | none=>
  refine Assign_Tuple (eval_ fun v r W1 ρ' S1 hp hv hlen q=>?_) (G2 rfl) (DW hr hK.kind)
  rw[arm_assign_Tuple]
  exact Bh (wpAny_standAt (wpAny_unpack_tuple hK.call.calm Sr (hl.1.trans (hlen.symm.trans List.size_toArray.symm)) hl.2.1 fun h' hk'=>fin S1 hv q (there S1.inv hk') (O2 hk) hp))
 | some l=>
  obtain rfl:=of_decide_eq_true (b2 h8).1
  refine Assign_Tuple_swapped (eval_ fun v r W1 ρ' S1 hp hv hlen q=>?_) (G2 rfl) (DW hr hK.kind)
  rw[hl.2.2.trans (hlen.symm.trans List.size_toArray.symm),List.map_reverse]
  exact wpAny_unpackItems_tuple hK.call.calm Sr fun h' hk'=>fin S1 hv.rev q (there S1.inv hk') (Oo hk).rev (Qs (of_decide_eq_true h6.2) hp)
theorem Gf {M:Model} {A:Bm} {env:Env} {E:Bq→Bk→Prop} {s:Bk} {t value:Expr} {pos:Pos} {Q:PySem.Flow→Bk→Prop}
  (h:wpAny M A (eval value env) (fun v s₁=>wpAny M A (assign t env v) (fun Z=>Q .next) E s₁) E s)
  (he:(assignEach [t] env).map (·.2)=[assign t env]) (hs:swapsWithSole [t] value pos.line env=pure false) (hw:swappedStores [t] value env=pure none):wpAny M A (exec (.Assign [t] value pos) env) Q E s:=
 wpAny_Assign_stores (wpAny_mono h (fun v s₁ h₁=>he▸h₁) fun Z Z x=>x) hs hw
structure ZI (K:Kx):Prop where
 item:∀ {o i a:RV} {ov iv v:Bq} {σ':Bu} {W:Wd} {Q:Unit→Bk→Prop} {E:Bq→Bk→Prop},B6 K.G W→Cj W o ov→Cj W i iv→Cj W a v→G1 W.σ o i a=some σ'→(∀ W',W'.σ=σ'→Go K.G [] W W'→Q () W'.s)→Wp K (setItem ov iv v) Q E W
 at_:∀ {r:Nat} {ts:List MV} {i j:Int} {ov v:Bq} {W:Wd} {Q:Unit→Bk→Prop} {E:Bq→Bk→Prop},B6 K.G W→Cj W (.loc r) ov→W.σ[r]?=some (.rdr ts i)→Cj W (.v (.int j)) v→(∀ W',W'.σ=W.σ.set r (.rdr ts j)→Go K.G [] W W'→Q () W'.s)→Wp K (setAttr ov "at" v) Q E W
theorem AH (X:ZI K) {o i e:ME} (ho:SE K o) (hi:SE K i) (he:SE K e):SS K (.setItem o i e):=fun ht S H=>Hq ht fun l v pos e1 h=>Dr (b2 h).2 fun t e2 h2=>Jc h2 fun t j p e3 h3=>by
 subst e1;subst e2;subst e3
 refine Gf (he (b2 (b2 h).1).1 S (Br.bind H fun r v W1 g1 hr H1=>?_)) rfl (G2 (b2 (b2 h).1).2) Xy
 rw[arm_assign_Subscript]
 refine Bh (Bj (ho (b2 (b2 h3).1).1 (S.go g1) (Br.bind H1 fun r2 v2 W2 g2 hr2 H2=>Bh (Bj (hi (b2 (b2 h3).1).2 (S.go (g1.trans g2)) (Br.bind H2 fun r3 v3 W3 g3 hr3 H3=>Bh (wpAny_standAt ?_)))))))
 cases hs:G1 W3.σ r2 r3 r with
 | none=>rw[hs] at H3;exact H3.elim
 | some σ'=>
  rw[hs] at H3
  exact Bh (Bj (X.item g3.inv (g3.v hr2) hr3 (g3.v (g2.v hr)) hs fun W4 e4 g4=>wpAny_release (H3 _ W4 e4 g4.up ⟨S.go (((g1.trans g2).trans g3).trans g4),rfl⟩)))
noncomputable def NA (σ:Bu) (q:Nat) (i:Int) (ρ:List RV):B1 (Di×List RV):=match σ[q]? with
 | some (.rdr ts _)=>.ok (.next,ρ) (σ.set q (.rdr ts i))
 | _=>.no
theorem NB {P:Prop} {T:B1 (Di×List RV)→Prop} {σ:Bu} {q:Nat} {i:Int} {ρ:List RV} (H:T (NA σ q i ρ)) (no:T .no→P) (k:∀ ts a,σ[q]?=some (.rdr ts a)→T (.ok (.next,ρ) (σ.set q (.rdr ts i)))→P):P:=by
 unfold NA at H
 cases h:σ[q]? with
 | none=>rw[h] at H;exact no H
 | some o=>
  rw[h] at H
  cases o with
  | rdr ts a=>exact k ts a h H
  | _=>exact no H
theorem OI (X:ZI K) {o e:ME} (ho:SE K o) (he:SE K e):SS K (.setAt o e):=fun ht S H=>Hq ht fun l v pos e1 h=>Dr (b2 h).2 fun t e2 h2=>D7 h2 fun t n p e3 h3=>by
 clear ht h2
 rw[e1,e2,e3,of_decide_eq_true (b2 h3).1]
 refine Gf (he (b2 (b2 h).1).1 S (Br.bind H fun r v W1 g1 hr H1=>?_)) rfl (G2 (b2 (b2 h).1).2) Xw
 rw[arm_assign_Attribute]
 refine Bh (Bj (ho (b2 h3).2 (S.go g1) (Br.bind H1 fun r2 v2 W2 g2 hr2 H2=>Bh (wpAny_standAt ?_))))
 cases r2 with
 | loc q=>cases r with
  | v x=>cases x with
   | int j=>exact NB (T:=Br K.G K.mine W2 (GQ K) _ _) H2 (fun h=>h.elim) fun ts i hl H2=>Bh (Bj (X.at_ g2.inv hr2 hl (g2.v hr) fun W3 e3 g3=>wpAny_release (H2 _ W3 e3 g3.up ⟨S.go ((g1.trans g2).trans g3),rfl⟩)))
   | _=>exact H2.elim
  | _=>exact H2.elim
 | _=>exact H2.elim
theorem Br.fly {G:Gx} {m:List Addr} {W:Wd} {α β:Type} {Rel:Wd→α→β→Prop} {Q:β→Bk→Prop} {E:Bq→Bk→Prop} {A:Bm} {env:Env} {outer:List Env} {M:Model} (hA:A.frames=some (env::outer)) (hf:Eu (env::outer) W):∀ {o:B1 α},Br G m W Rel Q E o→Br G m W Rel Q (notedBy M A env fun e s'=>cameBackBy M A env E e s') o
 | .ok _ _,H=>H
 | .exc n _,H=>fun e W' q g r=>KP (m:=m) hA g.inv (hf.le g.le) r fun W2 e2 g2 r2=>H e W2 (e2.trans q) (g.trans g2) r2
 | .no,H=>H
theorem OJ {outer:List Env} {c:ME} {b:List MS} (hK:Ff K) (ho:K.fr=K.env::outer) (hc:ST K c) (hb:EK K b):SS K (.while c b):=fun {st W ρ Q E} ht S H=>MG ht fun t p q z e h=>by
 subst e
 obtain rfl:=Cc (b2 h).2
 have hA:K.A.frames=some (K.env::outer):=hK.call.frames.trans (congrArg some ho)
 refine wpAny_While (codeAny_whileLoop (fun n s'=>∃ W1 ρ1,s'=W1.s∧Go K.G K.mine W W1∧At K W1 ρ1∧Br K.G K.mine W1 (GQ K) Q E (pE (fun ρ σ=>rI K.C c ρ σ) (fun ρ σ=>Dv K.C b ρ σ) n ρ1 W1.σ)) ?_ WH ⟨W,ρ,rfl,.refl S.inv,S,H⟩)
 rintro n s' ⟨W1,ρ1,rfl,g1,S1,H1⟩
 cases n with
 | zero=>exact H1.elim
 | succ n=>
  have hf:Eu (K.env::outer) W1:=ho▸S1.frs
  refine hc (b2 (b2 h).1).1 S1 (Br.fly hA hf (Br.bind H1 fun t v W2 g2 hv H2=>?_))
  obtain rfl:t=v:=hv
  cases t with
  | false=>exact wpAny_execs_nil (H2 _ W2 rfl (.refl g2.inv) ⟨S1.go g2,rfl⟩)
  | true=>
   refine hb (b2 (b2 h).1).2 (S1.go g2) (Br.fly hA (hf.le g2.le) (Br.bindm H2 fun r f W3 g3 hf3 H3=>?_))
   obtain⟨fl,ρ3⟩:=r
   cases fl with
   | next=>obtain rfl:=(show f= .next from hf3.2);exact⟨n,Nat.lt_succ_self n,W3,ρ3,rfl,(g1.trans g2.up).trans g3,hf3.1,H3⟩
   | brk=>obtain rfl:=(show f= .brk from hf3.2);exact H3 _ W3 rfl (.refl g3.inv) ⟨hf3.1,rfl⟩
   | ret r=>obtain⟨v,rfl,hv⟩:=hf3.2;exact H3 _ W3 rfl (.refl g3.inv) ⟨hf3.1,v,rfl,hv⟩
end
noncomputable def K7:List String:=["list_iterator","tuple_iterator","str_iterator","str_ascii_iterator","range_iterator"]
structure jI (G:Gx) (A:Bm) (I:Addr) (F:B9) (l:List MV) (P:Nat→Bq→Prop) (St:Nat→Heap→Prop) (fp:List Addr):Prop where
 W:Walks prog G.w A I fp [I] l.length P St
 fpk:∀ b∈fp,b=I∨∃ o,F b o
 val:∀(i:Nat) (v:Bq) (m:MV),P i v→l[i]?=some m→VR F m v
 live:∀ i h,St i h→∃ n,n∈K7∧∃ d vs sl,h.get? I=some {cls:=.type n,dict:=d,data:=.fields vs,slots:=sl}
theorem BP {A:Bm} {s:Bk} {tg:Expr} {I:Addr} {v:Bq} {M:Model} {E:Bq→Bk→Prop} {Q:Unit→Bk→Prop} {n:String} (hn:n∈K7) {d:Option Addr} {vs:Array Bq} {sl:Array (Option Bq)} (ho:s.heap.get? I=some {cls:=.type n,dict:=d,data:=.fields vs,slots:=sl}) (h:Q () s):
  wpAny M A (letOwnedTupleGo tg (.ref I) v) Q E s:=by
 have hx:K7.all (fun n=> !(["enumerate","zip","dict_itemiterator","dict_reverseitemiterator","odict_iterator","itertools.zip_longest","itertools.pairwise"]:List String).contains n)=true:=by decide
 have key:∀ a,wpAny M A (do
   let o ←load I
   match o.cls,o.data with
   | .type n,.fields vs=>
    if["enumerate","zip","dict_itemiterator","dict_reverseitemiterator","odict_iterator","itertools.zip_longest","itertools.pairwise"].contains n&&vs[0]?==some (rawInt a) then
     rule "for.unpacks-the-owned-tuple"
     updateField I 0 .none
   | _,_=>pure ()) Q E s:=fun a=>by
  refine Bh (wpAny_load ho ?_)
  dsimp only
  rw[Hp (List.all_eq_true.mp hx n hn)]
  exact Bi h
 cases tg with
 | Tuple _ _ _=>cases v with
  | ref a=>exact key a
  | _=>exact Bi h
 | List _ _=>cases v with
  | ref a=>exact key a
  | _=>exact Bi h
 | _=>exact Bi h
theorem At.it {K:Kx} {W1 W2:Wd} {ρ:List RV} {I:Addr} {p:Obj→Prop} (S:At K W1 ρ) (hI:W1.S I=some (.any p)) (I2:B6 K.G W2) (hF:W2.F=W1.F) (hb:W2.bs=W1.bs) (hS:∀ b,b≠I→W2.S b=W1.S b) (hm:I∉K.mine):At K W2 ρ:=
 have up {a:Addr} {c:D2} (h:W1.S a=some c) (n:c.kd≠3):W2.S a=some c:=(hS a fun e=>n (Ab ((e▸hI).symm.trans h)▸rfl)).trans h
 ⟨I2,fun e he=>(S.frs e he).imp id fun h=>h.imp fun L h=>h.imp fun f h=>⟨h.1,up h.2 (fun q=>nomatch q)⟩,S.len,S.val.imp fun f h=>⟨up h.1 (fun q=>nomatch q),fun k x r a b c=>(h.2 k x r a b c).imp fun v h=>⟨show jH W2.F W2.bs r v from hF▸hb▸h.1,h.2.imp id fun h=>⟨h.1,h.2.imp fun c h=>⟨h.1,h.2.imp (fun h=>⟨up h.1 (fun q=>nomatch q),h.2⟩) fun h=>hF▸h⟩⟩⟩⟩,
  fun x hx=>(S.cel x hx).imp fun c h=>h.imp fun v h=>⟨h.1,h.2.1,up h.2.2 (fun q=>nomatch q)⟩,fun a ha=>(S.own a ha).imp fun c h=>⟨(hS a fun e=>hm (e▸ha)).trans h.1,h.2⟩⟩
section
variable {K:Kx} {W:Wd} {ρ:List RV}
inductive kD (K:Kx) (W:Wd) (I:Addr) (n:Nat) (St:Nat→Heap→Prop) (R:Nat→List RV→Bu→Prop) (k:Nat) (s':Bk):Prop
 | mk (i:Nat) (W1:Wd) (ρ1:List RV) (oI:Obj) (es:s'=W1.s) (ek:k=n+1 - i) (hi:i≤n) (g1:Go K.G K.mine W W1) (S1:At K W1 ρ1) (sI:W1.S I=some (.any (· =oI))) (st:St i W1.s.heap) (H1:R i ρ1 W1.σ)
theorem Wk {outer:List Env} {tg:Expr} {p:Ir} {body:List Stmt} {b:List MS} {l:List MV} {o:Obj} {P:Nat→Bq→Prop} {St:Nat→Heap→Prop} {fp:List Addr} {Q:PySem.Flow→Bk→Prop} {E:Bq→Bk→Prop} (hK:Ff K) (hE:K.fr=K.env::outer) (hb:EK K b)
  (hp:jW K.ns K.ac K.env.scope p tg=true) (ht:Rs K.ns K.ac K.env.scope b body=true) (S:At K W ρ) (X:jI K.G K.A W.s.heap.objs.size W.F l P St fp) (h0:St 0 (W.s.heap.push o))
  (H:Br K.G K.mine W (GQ K) Q E (I7 (put p) (fun ρ σ=>Dv K.C b ρ σ) l ρ W.σ)):
  codeAny (model prog K.G.w) K.A (.forLoop tg (.ref W.s.heap.objs.size) body [] K.env) (fun r s'=>match r with | .ok f=>Q f s' | .error e=>cameBackBy (model prog K.G.w) K.A K.env E e s') {W.s with heap:=W.s.heap.push o}:=by
 have hA:K.A.frames=some (K.env::outer):=hK.call.frames.trans (congrArg some hE)
 have hW:W.S W.s.heap.objs.size=none:=S.inv.top
 have hm:W.s.heap.objs.size∉K.mine:=fun q=>(S.own _ q).elim fun c h=>nn (hW.symm.trans h.1)
 obtain⟨I,hI⟩:∃ I,I=W.s.heap.objs.size:=⟨_,rfl⟩
 rw[←hI] at X hW hm⊢
 obtain⟨n0,_,d0,vs0,sl0,ho0⟩:=X.live 0 _ h0
 have g0:Go K.G [] W (W.lay I (.any (· =_)) (W.s.heap.push o) W.s.toks):=⟨S.inv.lay (fun b x Z e=>B4 b x e) ho0 rfl (fun x q=>nomatch (hI▸Ea).symm.trans (S.inv.fh _ x q)) (fun d e=>nn (hW.symm.trans e)),(Le.refl [] W).lay fun d e=>nn (hW.symm.trans e)⟩
 refine codeAny_forLoop_any (kD K W I l.length St fun i ρ σ=>Br K.G K.mine W (GQ K) Q E (I7 (put p) (fun ρ σ=>Dv K.C b ρ σ) (l.drop i) ρ σ)) ?_ (l.length+1) ⟨0,_,ρ,_,rfl,rfl,Nat.zero_le _,g0.up,S.go g0,Dh,h0,H⟩
 rintro k s' ⟨i,W1,ρ1,oI,rfl,rfl,hi,g1,S1,sI,st,H1⟩
 cases hm':l[i]? with
 | none=>
  obtain rfl:i=l.length:=Nat.le_antisymm hi (List.getElem?_eq_none_iff.mp hm')
  rw[List.drop_length] at H1
  refine X.W.done W1.s _ _ st fun h2 t2 hk=>wpAny_execs_nil ?_
  have I2:B6 K.G (W1.off I h2 t2):=S1.inv.off sI (fun q=>nomatch q) fun b x n e=>hk b x (fun q=>n (Ae.mp q)) e
  exact H1 _ (W1.off I h2 t2) rfl ⟨I2,g1.le.off fun x e=>nn (hW.symm.trans e)⟩ ⟨S1.it sI I2 rfl rfl (fun b n=>if_neg n) hm,rfl⟩
 | some m=>
  have hlt:i < l.length:=(Ah.mp hm').1
  rw[List.drop_eq_getElem_cons hlt,(Ah.mp hm').2] at H1
  refine X.W.item i W1.s _ _ hlt st fun v h2 t2 hP st2 hk=>?_
  clear g0 ho0 hI
  obtain⟨n2,hn2,d2,vs2,sl2,ho2⟩:=X.live _ _ st2
  refine BP hn2 ho2 ?_
  have I2:=S1.inv.lay (t:=t2) (c:=.any (· =_)) (fun b x n e=>hk b x (fun q=>n (Ae.mp q)) e) ho2 rfl (S1.inv.nof sI) (fun d e=>Ab (sI.symm.trans e)▸fun q=>nomatch q)
  have g2:Go K.G K.mine W (W1.lay I (.any (· =_)) h2 t2):=⟨I2,g1.le.lay fun d e=>nn (hW.symm.trans e)⟩
  have S2:At K (W1.lay I (.any (· =_)) h2 t2) ρ1:=S1.it sI I2 rfl rfl (fun b n=>Dg n) hm
  have H1:Br K.G K.mine W (GQ K) Q E (match put p m ρ1 with | none=>.no | some ρ=>(Dv K.C b ρ W1.σ).bind fun r σ=>match r with
   | (.next,ρ)=>I7 (put p) (fun ρ σ=>Dv K.C b ρ σ) (l.drop (i+1)) ρ σ
   | (.brk,ρ)=>.ok (.next,ρ) σ
   | (.ret v,ρ)=>.ok (.ret v,ρ) σ):=H1
  cases hput:put p m ρ1 with
  | none=>rw[hput] at H1;exact H1.elim
  | some ρ2=>
   rw[hput] at H1
   refine Uq hK S2 (VR.up g2.le.F _ (X.val i v m hP hm')) (fun W3 e3 g3 S3=>?_) hp hput
   have g3':=g2.trans g3
   refine hb ht S3 (e3▸Br.fly hA (hE▸S3.frs) (Br.bindw g3' H1 fun r f W4 g4 hf H4=>?_))
   have s4:=g4.le.keep _ _ (g3.le.keep _ _ Dh (fun q=>nomatch q) hm) (fun q=>nomatch q) hm
   have g4':=g3'.trans g4
   clear g3 e3 S2 hk sI hW hm hm' hi
   obtain⟨fl,ρ4⟩:=r
   cases fl with
   | next=>
    obtain rfl:=(show f= .next from hf.2)
    refine⟨l.length+1 - (i+1),Nat.sub_lt_sub_left (Nat.lt_succ_of_lt hlt) (Nat.lt_succ_self i),i+1,W4,ρ4,_,rfl,rfl,hlt,g4',hf.1,s4,X.W.frame _ _ _ st2 (fun b hb o e=>?_),H4⟩
    rcases X.fpk b hb with rfl | ⟨ob,q⟩
    ·
     clear X
     obtain⟨o4,h4,e4⟩:=hf.1.inv.sh _ _ s4
     rw[h4,show o4=_ from e4,←ho2,e]
    · rw[g4'.inv.fh _ _ (g4'.le.F _ _ q),←e,I2.fh _ _ (g2.le.F _ _ q)]
   | brk=>obtain rfl:=(show f= .brk from hf.2);exact H4 _ W4 rfl g4' ⟨hf.1,rfl⟩
   | ret r=>obtain⟨v,rfl,hv⟩:=hf.2;exact H4 _ W4 rfl g4' ⟨hf.1,v,rfl,hv⟩
end
theorem Jt {F:B9} {l:List MV} {vs:List Bq} (hv:Ds F l vs) {i:Nat} {v:Bq} {m:MV} (h1:vs.toArray[i]?=some v) (h2:l[i]?=some m):VR F m v:=
 (hv.get h2).elim fun w h=>Ab (h.1.symm.trans (List.getElem?_toArray.symm.trans h1))▸h.2
theorem FH {P:Prop} {σ:Bu} {r:RV} {l:List MV} (h:Jb σ r=some l) (ks:∀ s,r= .v (.str s)→Ci s≤Cf→l=(Fq s).map .str→P) (kl:r= .v (.lis l)→P) (kt:r= .v (.tup l)→P):P:=by
 cases r with
 | v m=>cases m with
  | str s=>
   have h:(if Ci s≤Cf then some ((Fq s).map MV.str) else none)=some l:=h
   by_cases q:Ci s≤Cf
   · exact ks s rfl q (Ab ((if_pos q).symm.trans h)).symm
   · exact nn ((if_neg q).symm.trans h)
  | lis m=>exact kl (Ab h▸rfl)
  | tup m=>exact kt (Ab h▸rfl)
  | _=>exact nn h
 | _=>exact nn h
section
variable {G:Gx} {A:Bm} {W:Wd}
theorem DU {x:Str} {t:Tok} {n:String} {l:List MV} (hn:n∈K7) (hl:l=(Fq x).map .str) (X:Walks prog G.w A W.s.heap.objs.size [W.s.heap.objs.size] [W.s.heap.objs.size] x.cps.size (SignAt x) (fun i h=>h.IsStrIter W.s.heap.objs.size n x t i)):
  jI G A W.s.heap.objs.size W.F l (SignAt x) (fun i h=>h.IsStrIter W.s.heap.objs.size n x t i) [W.s.heap.objs.size]:=
 ⟨by rw[hl,show((Fq x).map MV.str).length=x.cps.size by simp [Fq]];exact X,fun b hb=>.inl (Ae.mp hb),fun i v m ⟨c,u,hc,e⟩ hm=>by
  have:((Fq x).map MV.str)[i]?=some (.str ⟨#[c]⟩):=by
   have hc':x.cps.toList[i]?=some c:=by simpa using hc
   simp [Fq,hc']
  rw[hl,this] at hm
  exact Ab hm▸⟨_,e⟩,fun i h ⟨⟨cls,d,dt,sl⟩,a,b,c⟩=>⟨n,hn,d,_,sl,by rw[a,←show cls=_ from b,←show dt=_ from c]⟩⟩
theorem BY {r:RV} {v:Bq} {l:List MV} {E Q:Bq→Bk→Prop} (hh:A.handled=none) (I:B6 G W) (hr:Cj W r v) (hi:Jb W.σ r=some l)
  (hq:∀ P St fp o,jI G A W.s.heap.objs.size W.F l P St fp→St 0 (W.s.heap.push o)→Q (.ref W.s.heap.objs.size) {W.s with heap:=W.s.heap.push o}):wpAny (model prog G.w) A (pyIter v) Q E W.s:=
 have seq {a:Addr} {o:Obj} {vs:List Bq} (hp:W.F a o):a≠W.s.heap.objs.size∧∀ b∈[W.s.heap.objs.size,a],b=W.s.heap.objs.size∨∃ o,W.F b o:=
  ⟨Nat.ne_of_lt (Heap.lt_size (I.fh _ _ hp)),fun b hb=>(Ag.mp hb).imp id fun h=>⟨o,(Ae.mp h:b=a).symm▸hp⟩⟩
 FH hi (fun x e hz hl=>(e▸hr:Cj W (.v (.str x)) v).elim fun t e=>by
  subst e
  cases ha:x.cps.all (· < 128) with
  | false=>exact wpAny_pyIter_wide ha (hq _ _ _ _ (DU (by decide) hl (Walks.strWide hh _ x t)) ⟨_,Bp _ rfl,rfl,rfl⟩)
  | true=>exact wpAny_pyIter_ascii ha (hq _ _ _ _ (DU (by decide) hl (Walks.strAscii hh _ x t)) ⟨_,Bp _ rfl,rfl,rfl⟩))
 (fun e=>(e▸hr:Cj W (.v (.lis l)) v).elim fun vs h=>h.1.elim fun a h1=>h1.elim fun o h1=>h1.elim fun n h1=>by
  have hl:W.s.heap.IsList a vs.toArray:=⟨o,I.fh _ _ h1.2.1,h1.2.2.1,n,h1.2.2.2⟩
  have X:=Walks.list (prog:=prog) (w:=G.w) hh W.s.heap.objs.size a (seq (vs:=vs) h1.2.1).1 vs.toArray
  rw[h.2.size] at X
  rw[h1.1]
  exact wpAny_pyIter_list hl (hq _ _ _ _ ⟨X,(seq (vs:=vs) h1.2.1).2,fun i v m a b=>Jt h.2 a b,fun i h ⟨⟨⟨cls,d,dt,sl⟩,a,b,c⟩,_⟩=>⟨"list_iterator",by decide,d,_,sl,by rw[a,←show cls=_ from b,←show dt=_ from c]⟩⟩ ⟨⟨_,Bp _ rfl,rfl,rfl⟩,hl.push _⟩))
 (fun e=>(e▸hr:Cj W (.v (.tup l)) v).elim fun vs h=>h.1.elim fun a h1=>h1.elim fun o h1=>h1.elim fun n h1=>by
  have hl:W.s.heap.IsTuple a vs.toArray:=⟨o,I.fh _ _ h1.2.1,h1.2.2.1,n,h1.2.2.2⟩
  have X:=Walks.tuple (prog:=prog) (w:=G.w) hh W.s.heap.objs.size a (seq (vs:=vs) h1.2.1).1 vs.toArray
  rw[h.2.size] at X
  rw[h1.1]
  exact wpAny_pyIter_tuple hl (hq _ _ _ _ ⟨X,(seq (vs:=vs) h1.2.1).2,fun i v m a b=>Jt h.2 a b,fun i h ⟨⟨⟨cls,d,dt,sl⟩,a,b,c⟩,_⟩=>⟨"tuple_iterator",by decide,d,_,sl,by rw[a,←show cls=_ from b,←show dt=_ from c]⟩⟩ ⟨⟨_,Bp _ rfl,rfl,rfl⟩,⟨o,Bo _ (I.fh _ _ h1.2.1),h1.2.2.1,n,h1.2.2.2⟩⟩))
theorem Py (a:Int) (n:Nat):(C5 a n).length=n:=by rw[C5,Am,List.length_range]
theorem JW {a:Int} {n i:Nat} {m:MV} (h:(C5 a n)[i]?=some m):m= .int (a+(i:Nat)):=by
 rw[C5,List.getElem?_map] at h
 by_cases q:i < n
 · rw[List.getElem?_range q] at h;exact(Ab h).symm
 · rw[List.getElem?_eq_none (by rw[List.length_range];exact Nat.le_of_not_lt q)] at h;exact nn h
theorem OZ (a b:Int):(if a < b then b - a else 0)=((b - a).toNat:Int):=by
 by_cases h:a < b
 · rw[if_pos h,Int.toNat_of_nonneg (Int.sub_nonneg.mpr (Int.le_of_lt h))]
 · rw[if_neg h,Int.toNat_of_nonpos (Int.sub_nonpos_of_le (Int.not_lt.mp h))];rfl
theorem Qi {F:B9} {s:Bk} {r:Addr} {a b:Int} {t u v:Tok} {E Q:Bq→Bk→Prop} (hh:A.handled=none) (hr:IsRange s.heap r a b 1 t u v) (h1:0≤a) (h2:a≤Cf) (h3:0≤b) (h4:b≤Cf)
  (hq:∀ P St fp o,jI G A s.heap.objs.size F (C5 a (b - a).toNat) P St fp→St 0 (s.heap.push o)→Q (.ref s.heap.objs.size) {s with heap:=s.heap.push o}):
  wpAny (model prog G.w) A (pyIter (.ref r)) Q E s:=by
 refine wpAny_pyIter_range hr (small_one (Int.le_trans (by decide) h1) (Int.lt_of_le_of_lt h2 (by decide)) (Int.le_trans (by decide) h3) (Int.lt_of_le_of_lt h4 (by decide))) ?_
 have X:=Walks.range (prog:=prog) (w:=G.w) hh s.heap.objs.size a 1 (b - a).toNat
 rw[show(b - a).toNat=(C5 a (b - a).toNat).length from(Py _ _).symm] at X
 refine hq _ _ _ _ ⟨X,fun b hb=>.inl (Ae.mp hb),fun i v m ⟨t,e⟩ hm=>?_,fun i h st=>⟨"range_iterator",by decide,_,_,_,st⟩⟩ ?_
 · rw[JW hm];exact⟨t,by rw[e,Int.mul_one]⟩
 ·
  have hsz:Builtin.Range.rangeSize a b 1=((b - a).toNat:Int):=by rw[rangeSize_one];exact OZ a b
  have e1:a+((0:Nat):Int)*1=a:=by simp
  have e2:(((C5 a (b - a).toNat).length:Nat):Int) - ((0:Nat):Int)=Builtin.Range.rangeSize a b 1:=by rw[hsz,Py];simp
  show IsRangeIter _ _ (a+((0:Nat):Int)*1) ((((C5 a (b - a).toNat).length:Nat):Int) - ((0:Nat):Int)) 1
  rw[e1,e2]
  exact Bp _ rfl
end
theorem Jl {it:Expr} {x:Bq} {env:Env} (h:Zg it=true):foldedSetIterable it env x=pure x:=by
 cases it<;>first | rfl | exact ff h
section
variable {K:Kx}
theorem gZ {outer:List Env} {p:Ir} {e:ME} {b:List MS} (hK:Ff K) (hE:K.fr=K.env::outer) (he:SE K e) (hb:EK K b):SS K (.forIn p e b):=fun ht S H=>Qc ht fun tg it q l pos e1 h=>by
 have h1:=b2 h
 have h2:=b2 h1.1
 have h3:=b2 h2.1
 have h4:=b2 h3.1
 clear ht h
 subst e1
 obtain rfl:=Cc h1.2
 refine wpAny_For (he h4.2 S (Br.bind H fun r v W1 g1 hr H1=>?_)) (fun x=>Jl h3.2)
 cases hi:Jb W1.σ r with
 | none=>rw[hi] at H1;exact H1.elim
 | some l=>
  rw[hi] at H1
  cases hl:Df l.length with
  | none=>dsimp only at H1;rw[hl] at H1;exact H1.elim
  | some u=>
   dsimp only at H1;rw[hl] at H1
   exact BY hK.call.calm g1.inv hr hi fun P St fp o X h0=>Wk hK hE hb h4.1 h2.2 (S.go g1) X h0 H1
noncomputable def GZ (G:Gx) (f:Str) (t:String):Prop:=∃ mg mb,G.hB.Ns mainGlobals mg∧G.hB.Ns builtinsNs mb∧mg f=none∧mb f=some (.type t)
theorem Bs.range {G:Gx} (B:Bs G):GZ G "range" "range":=B.names.imp fun mg h=>h.imp fun mb h=>⟨h.1,h.2.1,h.2.2.2.1⟩
theorem Bs.enum {G:Gx} (B:Bs G):GZ G "enumerate" "enumerate":=B.names.imp fun mg h=>h.imp fun mb h=>⟨h.1,h.2.1,h.2.2.2.2⟩
theorem N1 {f:Str} {t:String} {es:List Expr} {pos p:Pos} {W:Wd} {Q E:Bq→Bk→Prop} (hK:Ff K) (X:GZ K.G f t) (I:B6 K.G W) (hk:K.env.scope.names.lookup f=some .globalImplicit) (hd:(f=="__debug__")=false) (hp:(backTo pos (starEach es K.env)).any (·.1)=false)
  (h:Wp K (spliced (backTo pos (starEach es K.env))) (fun vs s1=>wpAny (model prog K.G.w) K.A (PySem.call (.type t) vs) Q E s1) E W):Wp K (eval (.Call (.Name f p) es [] pos) K.env) Q E W:=by
 obtain⟨mg,mb,ng,nb,h1,h2⟩:=X
 have ng:=ng.keeps I.stays
 have nb:=nb.keeps I.stays
 rw[←hK.glob.1] at ng
 rw[←hK.blt] at nb
 rw[Kg rfl]
 exact Bh (Name_function_global hK.kind hk (loadGlobal_builtin ng h1 nb h2 (callWith_of (P:=fun Z=>True) (by rw[hp];rfl) (fun Z Z=>⟨_,.inr (.inl rfl),Looks.of_pure rfl⟩) (Fz hp (wpAny_mono h (fun vs s1 q=>⟨trivial,q⟩) fun Z Z q=>q)))) hd)
theorem N5 {P:Prop} {sc:Scope} {f:Str} {e:Expr} {k:List Expr→Pos→Bool} (h:UB sc f e k=true) (z:∀ p l q,e= .Call (.Name f p) l [] q→sc.names.lookup f=some .globalImplicit→k l q=true→P):P:=
 Ee h fun a l kw q e1 h1=>B5 (b2 (b2 h1).1).1 fun r p e2 h2=>z p l q (e1.trans (by rw[e2,Cc (b2 (b2 h1).1).2,of_decide_eq_true (b2 h2).1])) (beq_iff_eq.mp (b2 h2).2) (b2 h1).2
theorem DL {outer:List Env} {k:Nat} {tg:Expr} {b:List MS} {q:List Stmt} {W:Wd} {ρ:List RV} {m n:Int} {t u v:Tok} {tk:Nat} {Q:PySem.Flow→Bk→Prop} {E:Bq→Bk→Prop} (hK:Ff K) (hE:K.fr=K.env::outer) (hb:EK K b) (hp:jW K.ns K.ac K.env.scope (.var k) tg=true) (ht:Rs K.ns K.ac K.env.scope b q=true) (S:At K W ρ)
  (h1:0≤m) (h2:m≤Cf) (h3:0≤n) (h4:n≤Cf) (H:Br K.G K.mine W (GQ K) Q E (I7 (put (.var k)) (fun ρ σ=>Dv K.C b ρ σ) (C5 m (n - m).toNat) ρ W.σ)):
  wpAny (model prog K.G.w) K.A (pyIter (.ref W.s.heap.objs.size)) (fun it s=>codeAny (model prog K.G.w) K.A (.forLoop tg it q [] K.env) (fun r s'=>match r with | .ok f=>Q f s' | .error e=>cameBackBy (model prog K.G.w) K.A K.env E e s') s) E {W.s with heap:=W.s.heap.push {cls:=.type "range",data:=.fields #[.int m t,.int n u,.int 1 v]},toks:=tk}:=by
 have g:Go K.G [] W (W.see (W.s.heap.push {cls:=.type "range",data:=.fields #[.int m t,.int n u,.int 1 v]}) tk):=Go.see S.inv B4
 exact Qi (F:=W.F) (s:=(W.see _ tk).s) hK.call.calm (IsRange.new W.s.heap m n 1 t u v) h1 h2 h3 h4 fun P St fp o X h0=>Wk (W:=W.see _ tk) hK hE hb hp ht (S.go g) X h0 (Br.go g.up H)
theorem OF {outer:List Env} {k:Nat} {hi:ME} {b:List MS} (hK:Ff K) (B:Bs K.G) (hE:K.fr=K.env::outer) (he:SE K hi) (hb:EK K b):SS K (.forR k none hi b):=fun ht S H=>Qc ht fun tg it q l pos e1 h=>N5 (b2 h).2 fun p es pp e2 hk h1=>Dr h1 fun a e3 h2=>by
 have h3:=b2 (b2 h).1
 clear ht h h1
 subst e1;subst e2;subst e3
 obtain rfl:=Cc (b2 h3.1).2
 refine wpAny_For (N1 hK B.range S.inv hk rfl (by rw[Cg (b2 h2).2];rfl) (wpAny_items_cons (he (b2 h2).1 S (Br.bind H fun r v W1 g1 hr H1=>wpAny_items_nil ?_)) (Cg (b2 h2).2))) (fun x=>Jl rfl)
 cases hi':Hi r with
 | none=>rw[hi'] at H1;exact H1.elim
 | some n=>
  rw[hi'] at H1
  obtain rfl:=Hj hi'
  clear hi'
  obtain⟨t,rfl⟩:=hr
  dsimp only at H1
  split at H1
  ·
   rename_i hc
   exact PySem.call_range_1 (DL (m:=0) hK hE hb h3.2 (b2 h3.1).1 (S.go g1) (Int.le_refl _) (by decide) hc.1 hc.2 (by rw[Int.sub_zero];exact H1))
  · exact H1.elim
theorem OG {outer:List Env} {k:Nat} {lo hi:ME} {b:List MS} (hK:Ff K) (B:Bs K.G) (hE:K.fr=K.env::outer) (hl:SE K lo) (he:SE K hi) (hb:EK K b):SS K (.forR k (some lo) hi b):=fun {st W ρ Q E} ht S H=>Qc ht fun tg it q l pos e1 h=>N5 (b2 h).2 fun p es pp e2 hk h1=>Jh h1 fun a c e3 h2=>by
 have h3:=b2 (b2 h).1
 have h4:=b2 h2
 have h5:=b2 h4.1
 have h6:=b2 h5.1
 clear ht h h1
 subst e1;subst e2;subst e3
 obtain rfl:=Cc (b2 h3.1).2
 have H:=Br.assoc (show Br K.G K.mine W (GQ K) Q E (((C0 K.C lo ρ W.σ).bind fun a σ=>.ok (some a) σ).bind _) from H)
 refine wpAny_For (N1 hK B.range S.inv hk rfl (by rw[Cg h6.2,Cg h4.2];rfl) (wpAny_items_cons (hl h6.1 S (Br.bind H fun r v W1 g1 hr H1=>wpAny_items_cons (he h5.2 (S.go g1) (Br.bind H1 fun r2 v2 W2 g2 hr2 H2=>wpAny_items_nil ?_)) (Cg h4.2))) (Cg h6.2))) (fun x=>Jl rfl)
 cases r with
 | v x=>cases x with
  | int m=>
   cases hn:Hi r2 with
   | none=>rw[hn] at H2;exact H2.elim
   | some n=>
    rw[hn] at H2
    rw[Hj hn] at hr2
    obtain⟨t,e4⟩:=hr
    obtain⟨u,e5⟩:=hr2
    rw[e4,e5]
    exact Tw (T:=Br K.G K.mine W2 (GQ K) Q E) H2 (fun hc H2=>PySem.call_range_2 (DL hK hE hb h3.2 (b2 h3.1).1 ((S.go g1).go g2) hc.1 hc.2.1 hc.2.2.1 hc.2.2.2 H2)) fun Z H2=>H2.elim
  | _=>exact H2.elim
 | _=>exact H2.elim
end
theorem AW {a:Int} {n:Nat} (h:a.natAbs < 2^n):Builtin.Int.intBits a≤n:=by
 unfold Builtin.Int.intBits
 split
 · omega
 ·
  rename_i ha
  have h0:a.natAbs≠0:=by simpa using ha
  have:=(Nat.log2_lt h0).mpr h
  omega
theorem mT {a b:Int} (ha:a.natAbs < 2^6700) (hb:b.natAbs < 2^6700):IntMulOk a b:=by
 have h1:=AW ha
 have h2:=AW hb
 unfold IntMulOk
 have:Builtin.Int.intTooBig (Builtin.Int.intBits a+Builtin.Int.intBits b)=false:=by
  unfold Builtin.Int.intTooBig
  have:(bitsLine:Int)=2^27:=by decide
  exact decide_eq_false (by omega)
 rw[this]
 simp
section
variable {prog:Program} {w:World} {A:Bm} {E:Bq→Bk→Prop} {s:Bk}
theorem QJ {l b:Addr} {vs ws:List Bq} {Q:Bq→Bk→Prop} (hl:s.heap.IsList l vs.toArray) (hb:s.heap.IsList b ws.toArray) (hsz:vs.length+ws.length≤sizeLine)
  (h:Q (.ref s.heap.objs.size) {s with heap:=s.heap.push {cls:=.type "list",data:=.seq (vs++ws).toArray}}):wpAny (model prog w) A (binaryOp .Add (.ref l) (.ref b)) Q E s:=by
 obtain⟨⟨cls,dd,data,sl⟩,ho,hc,n,hd⟩:=id hl
 obtain⟨⟨cls2,dd2,data2,sl2⟩,ho2,hc2,n2,hd2⟩:=id hb
 simp only at hc hd hc2 hd2
 subst hc hd hc2 hd2
 have e:vs.toArray++ws.toArray=(vs++ws).toArray:=by simp
 refine concat_meets ⟨_,ho,rfl⟩ ⟨_,ho2,rfl⟩ noFill_list_add seq_list_add PySem.F.slot_list_add PySem.F.entry_list_add (PySem.F.args_list_add_2 _ _) (list_addW l b vs.toArray ws.toArray n n2 dd dd2 sl sl2 (by simpa using hsz)) ⟨ho,ho2,?_⟩
 rw[e]
 exact h
theorem TH {l:Addr} {vs:List Bq} {x:Int} {u:Tok} {Q:Bq→Bk→Prop} (hl:s.heap.IsList l vs.toArray)
  (hlo: -(2^63:Int)≤x) (hhi:x < 2^63) (hsz:vs.length*x.toNat≤2^24)
  (h:Q (.ref s.heap.objs.size) {s with heap:=s.heap.push {cls:=.type "list",data:=.seq (Ao x.toNat vs).flatten.toArray}}):wpAny (model prog w) A (binaryOp .Mult (.ref l) (.int x u)) Q E s:=by
 obtain⟨⟨cls,d,data,sl⟩,ho,hcl,k,hd⟩:=id hl
 simp only at hcl hd
 subst hcl hd
 have hsz':vs.toArray.size*x.toNat≤2^24:=by simpa using hsz
 refine wpAny_binaryOp_repeat_ref (T:="list") (U:="int") (by decide) ⟨_,ho,rfl⟩ (fun s'=>typeIs_int s' x u) noFill_list_mul F.fills_int_mul F.slot_int_rmul repeat_list F.slot_int_index.lookup
  (call_meets F.slot_int_rmul (typeIs_int s x u) F.entry_int_rmul (F.args_int_rmul_2 _ _) (lm_int_rmul_list_any x u l vs.toArray k d sl)
   ⟨ho,rfl,⟨_,ho,rfl⟩,call_meets F.slot_list_mul ⟨_,ho,rfl⟩ F.entry_list_mul (F.args_list_mul_2 _ _)
    (lm_list_mul_any l vs.toArray k d sl x u (by rw[show Builtin.List.listFitsIndex x=true from Bool.and_eq_true_iff.mpr ⟨decide_eq_true hlo,decide_eq_true hhi⟩];exact Bool.false_ne_true) (by omega) (by simp [Builtin.List.listTooLong,sizeLine];omega))
    ⟨ho,?_⟩⟩)
 have e:=listMul_foldl_if vs.toArray x.toNat
 show Q _ {s with heap:=s.heap.push _}
 rw[e]
 exact h
theorem Mp:fillsNumberSlot (.type "tuple") "mul"=pure false:=
 PySem.fillsNumberSlot_seq (id:="tuple.__mul__") (r:=some (.builtin "tuple.__rmul__")) F.slot_tuple_mul.lookup (by decide+kernel) F.slot_tuple_rmul.lookup (by decide+kernel)
theorem Uu:seqRepeat? (.type "tuple")=pure (some (.builtin "tuple.__mul__")):=by
 unfold seqRepeat?
 rw[PySem.seqSlot_of (T:="tuple") (name:="__mul__") (id:="tuple.__mul__") F.slot_tuple_mul.lookup (by decide+kernel),PySem.seqSlot_of (T:="tuple") (name:="__rmul__") (id:="tuple.__rmul__") F.slot_tuple_rmul.lookup (by decide+kernel)]
 rfl
theorem Qm (a:Int) (t:Tok) (l:Addr) (items:Array Bq) (n:Nat) (d:Option Addr) (sl:Array (Option Bq)):
  Meets (Builtin.«int.__rmul__» ⟨[.int a t,.ref l],[]⟩) (fun Z R s=>s.heap.get? l=some {cls:=.type "tuple",dict:=d,data:=.seq items n,slots:=sl}∧R (.ok (.ret Bq.notImplemented)) s):=
 .of_wp fun prog w A R s h=>by obtain⟨hp,g,d,tk,os⟩:=s;obtain⟨hl,h⟩:=h;wp_walk;exact⟨_,rfl,h⟩
theorem X6 (l:Addr) (items:Array Bq) (n:Nat) (d:Option Addr) (sl:Array (Option Bq)) (x:Int) (u:Tok) (h0:items.isEmpty=false) (h1:1 < x) (h2:x≤16) (hz:items.size≤1048576):
  Meets (Builtin.«tuple.__mul__» ⟨[.ref l,.int x u],[]⟩) (fun Z R s=>s.heap.get? l=some {cls:=.type "tuple",dict:=d,data:=.seq items n,slots:=sl}∧R (.ok (.ret (Bq.ref s.heap.objs.size))) {s with heap:=s.heap.push {cls:=Bq.type "tuple",data:=Data.seq (List.foldl (fun x1 x2=>x1++x2) #[] (Ao x.toNat items))},toks:=s.toks}):=
 .of_wp fun prog w A R s h=>by
  obtain⟨hp,g,d,tk,os⟩:=s;obtain⟨hl,h⟩:=h
  have f1:=AutoSeq1.idx_int;have f2:=AutoSeq1.sub_tuple_tuple
  have p0:0≤x:=Int.le_of_lt (Int.lt_trans (by decide) h1)
  have c0:¬ (decide (x < -(2^63))||decide (x≥2^63))=true:=by rw[KC (KB p0) (Int.lt_of_le_of_lt h2 (by decide))];exact Bool.false_ne_true
  have c1:¬ (items.isEmpty||x==1)=true:=by rw[h0];exact fun h=>Int.ne_of_gt h1 (eq_of_beq h)
  have c2:¬ (decide (x≤0)||items.isEmpty)=true:=by rw[h0,decide_eq_false (Int.not_le.mpr (Int.lt_trans (by decide) h1))];exact Bool.false_ne_true
  have hm:(items.size:Int)*x≤16777216:=Int.mul_le_mul (Be.mpr hz) h2 p0 (by decide)
  have c3:¬ ((items.size:Int)*x > (2^63 - 1) / 8):=Int.not_lt.mpr (Int.le_trans hm (by decide))
  have c4:¬ Builtin.Tuple.tupleTooMany ((items.size:Int)*x)=true:=fun h=>absurd (of_decide_eq_true h) (Int.not_lt.mpr hm)
  have hsz:(List.foldl (fun x1 x2=>x1++x2) #[] (Ao x.toNat items)).size≤sizeLine:=by
   rw[AutoListH.size_joined,sizeLine_eq]
   have:x.toNat*items.size≤16*1048576:=Nat.mul_le_mul (Int.toNat_le.mpr h2) hz
   simpa using this
  wp_walk using AutoSeq1.wpAny_loadPart' hl
  rw[if_neg c0]
  wp_walk using AutoSeq1.wpAny_loadPart' hl
  rw[if_neg c1]
  wp_walk using AutoSeq1.wpAny_loadPart' hl
  rw[if_neg c2]
  wp_walk using AutoSeq1.wpAny_loadPart' hl
  rw[if_neg c3]
  wp_walk using AutoSeq1.wpAny_loadPart' hl
  exact⟨_,rfl,h⟩
theorem Vg (l:Addr) (items:Array Bq) (n:Nat) (d:Option Addr) (sl:Array (Option Bq)) (u:Tok) (c1:(items.isEmpty||(1:Int)==1)=true):
  Meets (Builtin.«tuple.__mul__» ⟨[.ref l,.int 1 u],[]⟩) (fun Z R s=>s.heap.get? l=some {cls:=.type "tuple",dict:=d,data:=.seq items n,slots:=sl}∧R (.ok (.ret (Bq.ref l))) s):=
 .of_wp fun prog w A R s h=>by
  obtain⟨hp,g,d,tk,os⟩:=s;obtain⟨hl,h⟩:=h
  have f1:=AutoSeq1.idx_int;have f2:=AutoSeq1.sub_tuple_tuple
  wp_walk using AutoSeq1.wpAny_loadPart' hl
  exact⟨_,rfl,h⟩
theorem TI {l:Addr} {vs:List Bq} {x:Int} {u:Tok} {Q:Bq→Bk→Prop} (hl:IsTup s.heap l vs.toArray) (hne:vs≠[])
  (hlo:0 < x) (hhi:x≤16) (hsz:vs.length≤1048576) (h1:x=1→Q (.ref l) s)
  (h:x≠1→Q (.ref s.heap.objs.size) {s with heap:=s.heap.push {cls:=.type "tuple",data:=.seq (Ao x.toNat vs).flatten.toArray}}):wpAny (model prog w) A (binaryOp .Mult (.ref l) (.int x u)) Q E s:=by
 obtain⟨⟨cls,d,data,sl⟩,ho,hcl,k,hd⟩:=id hl
 simp only at hcl hd
 subst hcl hd
 refine wpAny_binaryOp_repeat_ref (T:="tuple") (U:="int") (by decide) ⟨_,ho,rfl⟩ (fun s'=>typeIs_int s' x u) Mp F.fills_int_mul F.slot_int_rmul Uu F.slot_int_index.lookup
  (call_meets F.slot_int_rmul (typeIs_int s x u) F.entry_int_rmul (F.args_int_rmul_2 _ _) (Qm x u l vs.toArray k d sl)
   ⟨ho,rfl,⟨_,ho,rfl⟩,?_⟩)
 have he:vs.toArray.isEmpty=false:=by simpa using hne
 by_cases hx:x=1
 ·
  subst hx
  exact call_meets F.slot_tuple_mul ⟨_,ho,rfl⟩ F.entry_tuple_mul (F.args_tuple_mul_2 _ _) (Vg l vs.toArray k d sl u (by simp)) ⟨ho,h1 rfl⟩
 ·
  refine call_meets F.slot_tuple_mul ⟨_,ho,rfl⟩ F.entry_tuple_mul (F.args_tuple_mul_2 _ _) (X6 l vs.toArray k d sl x u he (Int.lt_iff_le_and_ne.mpr ⟨hlo,Ne.symm hx⟩) hhi (by simpa using hsz)) ⟨ho,?_⟩
  have e:=listMul_foldl_if vs.toArray x.toNat
  rw[he] at e
  simp only [Bool.false_eq_true,if_false] at e
  show Q _ {s with heap:=s.heap.push _}
  rw[e]
  exact h hx
end
section
variable {α:Type} {P:Prop} {x:α}
theorem Gm {r:RV} {f:MV→Option α} (h:wV r f=some x) (k:∀ m,r= .v m→f m=some x→P):P:=match r,h with
 | .v m,h=>k m rfl h
 | .loc _,h | .un,h=>nn h
theorem Ht {m:MV} {f:Int→Option α} (h:wI m f=some x) (k:∀ i,m= .int i→f i=some x→P):P:=by cases m with
 | int i=>exact k i rfl h
 | _=>exact nn h
theorem Ng {m:MV} {f:Str→Option α} (h:wS m f=some x) (k:∀ i,m= .str i→f i=some x→P):P:=by cases m with
 | str i=>exact k i rfl h
 | _=>exact nn h
theorem EF {m:MV} {f:List MV→Option α} (h:wL m f=some x) (k:∀ i,m= .lis i→f i=some x→P):P:=by cases m with
 | lis i=>exact k i rfl h
 | _=>exact nn h
theorem Ji {σ:Bu} {r:Nat} {f:MO→Option α} (h:wO σ r f=some x) (k:∀ o,σ[r]?=some o→f o=some x→P):P:=by
 have h:(match σ[r]? with | some o=>f o | none=>none)=some x:=h
 cases q:σ[r]? with
 | none=>rw[q] at h;exact nn h
 | some o=>rw[q] at h;exact k o q h
theorem Ca {c:Prop} [Decidable c] {o:Option α} (h:(if c then o else none)=some x):c∧o=some x:=if q:c then⟨q,(if_pos q).symm.trans h⟩ else nn ((if_neg q).symm.trans h)
end
theorem VD (x y:Str):Gj x y=x++y:=congrArg Str.mk (Array.toList_inj.mp (by simp))
theorem Ln (x:Str):Ci x=x.length:=by simp [Ci,Str.length]
theorem Ds.rep {P:B9} {l:List MV} {vs:List Bq} (h:Ds P l vs):∀ n:Nat,Ds P (Ao n l).flatten (Ao n vs).flatten
 | 0=>rfl
 | n+1=>Ds.append (Ds.rep h n) h
section
variable {G:Gx} {W:Wd}
theorem C4.int {i:Int} {t n:Nat} {Q:Bq→Bk→Prop} (I:B6 G W) (H:C4 G W (.v (.int i)) Q):Q (.int i t) {W.s with toks:=n}:=C4.tok I H ⟨_,rfl⟩
theorem C4.str {i:Str} {t n:Nat} {Q:Bq→Bk→Prop} (I:B6 G W) (H:C4 G W (.v (.str i)) Q):Q (.str i t) {W.s with toks:=n}:=C4.tok I H ⟨_,rfl⟩
theorem C4.bool {b:Bool} {Q:Bq→Bk→Prop} (I:B6 G W) (H:C4 G W (.v (.bool b)) Q):Q (.bool b) W.s:=C4.here I H rfl
theorem J6 {P:Prop} {l:List MV} {v:Bq} (I:B6 G W) (h:Cj W (.v (.lis l)) v) (k:∀ a vs,v= .ref a→W.s.heap.IsList a vs.toArray→Ds W.F l vs→P):P:=
 h.elim fun vs h=>h.1.elim fun a x=>x.elim fun o x=>x.elim fun n x=>k a vs x.1 ⟨o,I.fh _ _ x.2.1,x.2.2.1,n,x.2.2.2⟩ h.2
theorem X4 {P:Prop} {l:List MV} {v:Bq} (I:B6 G W) (h:Cj W (.v (.tup l)) v) (k:∀ a vs,v= .ref a→W.s.heap.IsTuple a vs.toArray→Ds W.F l vs→P):P:=
 h.elim fun vs h=>h.1.elim fun a x=>x.elim fun o x=>x.elim fun n x=>k a vs x.1 ⟨o,I.fh _ _ x.2.1,x.2.2.1,n,x.2.2.2⟩ h.2
theorem Pv {α:Type} {P:Prop} {y:MV} {vb:Bq} {f:Int→Option α} {m:α} (hm:wI y f=some m) (hb:Cj W (.v y) vb) (k:∀ j u,y= .int j→vb= .int j u→f j=some m→P):P:=Ht hm fun j e hm=>(e▸hb:Cj W (.v (.int j)) vb).elim fun u q=>k j u e q hm
theorem OR {α:Type} {P:Prop} {y:MV} {vb:Bq} {f:Str→Option α} {m:α} (hm:wS y f=some m) (hb:Cj W (.v y) vb) (k:∀ j u,y= .str j→vb= .str j u→f j=some m→P):P:=Ng hm fun j e hm=>(e▸hb:Cj W (.v (.str j)) vb).elim fun u q=>k j u e q hm
theorem SJ {P:Prop} {m:MV} {x y:MV} {va vb:Bq} {f:Int→Int→Option MV} (hm:(wI x fun a=>wI y fun b=>f a b)=some m) (ha:Cj W (.v x) va) (hb:Cj W (.v y) vb) (k:∀ a b t u,va= .int a t→vb= .int b u→f a b=some m→P):P:=
 Ht hm fun a e hm=>Ht hm fun b e2 hm=>(e▸ha:Cj W (.v (.int a)) va).elim fun t e3=>(e2▸hb:Cj W (.v (.int b)) vb).elim fun u e4=>k a b t u e3 e4 hm
theorem TG {n:Int} {k:Nat} (h1:n≤16) (h2:k≤Cf):k*n.toNat≤2^24:=Nat.mul_le_mul (n₁:=k) (n₂:=1048576) (m₂:=16) h2 (Int.toNat_le.mpr h1)
theorem HL {A:Bm} {op:Operator} {a b:RV} {m:MV} {va vb:Bq} {Q E:Bq→Bk→Prop} (I:B6 G W) (ha:Cj W a va) (hb:Cj W b vb) (hm:Kd op a b=some m) (H:C4 G W (.v m) Q):wpAny (model prog G.w) A (binaryOp op va vb) Q E W.s:=
 Gm hm fun x e hm=>Gm hm fun y e2 hm=>by
  subst e;subst e2
  cases op with
  | Add=>cases x with
   | int i=>exact Pv hm hb fun j u Z e2 hm=>ha.elim fun t e3=>e3▸e2▸P.add_int (C4.int I (Ab hm▸H))
   | str s=>
    exact OR hm hb fun z u Z e hm=>Cw hm fun Z hz e2=>ha.elim fun t e3=>e3▸e▸PyProof.Rows.add_str (fun t' tk=>VD s z▸C4.str I (e2▸H)) (D3 (Ad (Au (show s.length+z.length=Ci (Gj s z) by simp [Ci,Gj,Str.length])) (Dq hz)))
   | lis l=>
    exact EF hm fun z e hm=>Cw hm fun Z hz e2=>J6 I ha fun a vs e3 h1 hv=>J6 I (v:=vb) (e▸hb) fun b ws e4 h2 hw=>e3▸e4▸QJ h1 h2 (by rw[hv.length,hw.length,←Ai];exact D3 (Dq hz)) (C4.lis I (e2▸H) (Ds.append hw hv))
   | _=>exact nn hm
  | Mult=>
   exact Pv hm hb fun n u Z e hm=>by
    rw[e]
    clear hb e
    cases x with
    | int i=>exact ha.elim fun t e3=>e3▸P.mul_int (C4.int I (Ab (Ca hm).2▸H)) (mT (Ca hm).1.1 (Ca hm).1.2)
    | lis l=>
     have hp:=(Ca hm).1
     exact Cw (Ca hm).2 fun Z hz e2=>J6 I ha fun a vs e h1 hv=>e▸TH h1 (Int.le_trans (by decide) (Int.le_of_lt hp.1)) (Int.lt_of_le_of_lt hp.2.1 (by decide)) (TG hp.2.1 (hv.length▸hp.2.2)) (C4.lis I (e2▸H) (hv.rep _))
    | tup l=>
     have hp:=(Ca hm).1
     exact Cw (Ca hm).2 fun Z hz e2=>X4 I ha fun a vs e h1 hv=>by
      clear hz hm
      have H:C4 G W (.v (.tup (Ao n.toNat l).flatten)) Q:=e2▸H
      rw[e]
      refine TI h1 (fun e=>hp.2.2.2 (hv.length▸e▸rfl)) hp.1 hp.2.1 (hv.length▸hp.2.2.1) (fun e1=>?_) fun Z=>C4.tup I H (hv.rep _)
      rw[e1,show(Ao (Int.toNat 1) l).flatten=l from Aj l] at H
      exact C4.here I H (e▸ha)
    | _=>exact nn hm
  | Sub=>exact SJ hm ha hb fun a b t u e e2 hm=>e▸e2▸P.sub_int (C4.int I (Ab hm▸H))
  | FloorDiv=>
   exact SJ hm ha hb fun a b t u e e2 hm=>
    have hp:=(Ca hm).1
    e▸e2▸PyProof.Rows.floordiv_int (Int.ne_of_gt hp.1) (by rw[Int.fdiv_eq_ediv_of_nonneg _ (Int.le_of_lt hp.1)];exact C4.int I (Ab (Ca hm).2▸H)) (.inl (PyProof.noPylong_small (by omega)))
  | Mod=>
   exact SJ hm ha hb fun a b t u e e2 hm=>
    have hp:=(Ca hm).1
    e▸e2▸PyProof.Rows.mod_int' (Int.ne_of_gt hp.1) (by rw[Int.fmod_eq_emod_of_nonneg _ (Int.le_of_lt hp.1)];exact C4.int I (Ab (Ca hm).2▸H))
  | Pow=>
   exact SJ hm ha hb fun a b t u e e2 hm=>
    have hp:=(Ca hm).1
    e▸e2▸PyProof.Rows.pow_int_small hp.2.1 (by omega) hp.2.2.2 (C4.int I (Ab (Ca hm).2▸H))
  | _=>exact nn hm
end
open PySem.StrLaws in
theorem K6 (y x:List Nat):K5 y x=(x.take y.length==y):=by
 induction y generalizing x with
 | nil=>rfl
 | cons a y ih=>
  cases x with
  | nil=>rfl
  | cons b x=>
   show(Nat.beq a b&&K5 y x)=(b::x.take y.length==a::y)
   rw[ih x,List.cons_beq_cons,show Nat.beq a b=(b==a) by rw[Bool.eq_iff_iff,beq_iff_eq];exact⟨fun h=>(Nat.eq_of_beq_eq_true h).symm,fun h=>h▸Nat.beq_refl b⟩]
theorem BU {y x:List Nat} (h:K5 y x=true):0+y.length≤x.length∧(x.drop 0).take y.length=y:=
 have e:x.take y.length=y:=beq_iff_eq.mp ((K6 y x).symm.trans h)
 ⟨(Nat.zero_add y.length).symm▸Ad (Au ((congrArg List.length e).symm.trans Bg)) (Nat.min_le_right _ _),e⟩
theorem Wr (y x:List Nat):bP y x=true↔∃ i,i+y.length≤x.length∧(x.drop i).take y.length=y:=by
 induction x with
 | nil=>exact⟨fun h=>⟨0,BU h⟩,fun h=>h.elim fun i h=>(K6 y []).trans (beq_iff_eq.mpr (by have h2:=h.2;rw[List.drop_nil] at h2;exact h2))⟩
 | cons a x ih=>
  refine⟨fun h=>(Bool.or_eq_true_iff.mp h).elim (fun h=>⟨0,BU h⟩) fun h=>(ih.mp h).elim fun i h=>⟨i+1,Nat.succ_add i y.length▸Nat.succ_le_succ h.1,h.2⟩,fun h=>h.elim fun i h=>Bool.or_eq_true_iff.mpr ?_⟩
  cases i with
  | zero=>exact .inl ((K6 ..).trans (beq_iff_eq.mpr h.2))
  | succ i=>exact .inr (ih.mpr ⟨i,Nat.le_of_succ_le_succ (Nat.succ_add i y.length▸h.1),h.2⟩)
open PySem.StrLaws in
theorem Sz (x y:Str) (i:Nat):StrLaws.At x y x.length i↔i+y.cps.toList.length≤x.cps.toList.length∧(x.cps.toList.drop i).take y.cps.toList.length=y.cps.toList:=by
 unfold StrLaws.At
 have e1:y.length=y.cps.toList.length:=by simp [Str.length]
 have e2:x.length=x.cps.toList.length:=by simp [Str.length]
 rw[e1,e2]
 refine and_congr_right fun h=>?_
 unfold Builtin.Str.subAt
 rw[beq_iff_eq,←Array.toList_inj,Array.toList_extract,e1]
 unfold List.extract
 rw[show i+y.cps.toList.length - i=y.cps.toList.length from Nat.add_sub_cancel_left ..]
theorem TY (x y:Str):(!(Builtin.Str.occurrences x y 0 x.length 1).isEmpty)=gI y x:=by
 unfold gI
 rcases StrLaws.occ_head x y 1 (Av 1) with⟨h,hn⟩ | ⟨i,r,h,ha,_⟩
 ·
  rw[h]
  symm
  simp only [List.isEmpty_nil,Bool.not_true]
  rw[←Bool.not_eq_true]
  intro q
  obtain⟨i,h1,h2⟩:=(Wr _ _).mp q
  exact hn i ((Sz x y i).mpr ⟨h1,h2⟩)
 ·
  rw[h]
  symm
  simp only [List.isEmpty_cons,Bool.not_false]
  exact(Wr _ _).mpr ⟨i,((Sz x y i).mp ha).1,((Sz x y i).mp ha).2⟩
theorem Ch {x y:Str}:Cb x y=true↔x=y:=by
 unfold Cb
 rw[beq_iff_eq]
 exact⟨fun h=>by cases x;cases y;simp only [Str.mk.injEq];exact Array.toList_inj.mp h,fun h=>by rw[h]⟩
theorem Uz (x y:Str):(x==y)=Cb x y:=by
 rw[Bool.eq_iff_iff,beq_iff_eq,Ch]
inductive PV (n:Nat):MV→MV→Bool→Prop
 | none:PV n .none .none true
 | bool (x y):PV n (.bool x) (.bool y) (x==y)
 | int (x y):PV n (.int x) (.int y) (decide (x=y))
 | str (x y):PV n (.str x) (.str y) (Cb x y)
 | bytes (x y):PV n (.bytes x) (.bytes y) (x.toList==y.toList)
 | tup (l m u) (h:BJ (E9 n) l m=some u):PV n (.tup l) (.tup m) (u&&l.length==m.length)
 | lis (l m t) (e:l.length=m.length) (h:BJ (E9 n) l m=some t):PV n (.lis l) (.lis m) t
 | lisN (l m) (e:l.length≠m.length):PV n (.lis l) (.lis m) false
theorem Vz {n:Nat} {a b:MV} {t:Bool} (h:E9 (n+1) a b=some t):PV n a b t:=by
 cases a with
 | none=>cases b with
  | none=>exact Ab h▸ .none
  | _=>exact nn h
 | bool x=>cases b with
  | bool y=>exact Ab h▸ .bool x y
  | _=>exact nn h
 | int x=>cases b with
  | int y=>exact Ab h▸ .int x y
  | _=>exact nn h
 | str x=>cases b with
  | str y=>exact Ab h▸ .str x y
  | _=>exact nn h
 | bytes x=>cases b with
  | bytes y=>exact Ab h▸ .bytes x y
  | _=>exact nn h
 | tup l=>cases b with
  | tup m=>exact Cw h fun u hu e=>e▸ .tup l m u hu
  | _=>exact nn h
 | lis l=>cases b with
  | lis m=>exact if q:l.length=m.length then .lis l m t q ((if_pos q).symm.trans h) else Ab ((if_neg q).symm.trans h)▸ .lisN l m q
  | _=>exact nn h
 | _=>exact nn h
section
variable {A:Bm} {s:Bk} {F:B9}
theorem RcAt.bytes (a:Array UInt8) (t:Tok) (b:Array UInt8) (u:Tok):RcAt A s (.bytes a t) (.bytes b u) (a.toList==b.toList):=fun Z Z Z Z h=>W.eq_bytes h
theorem RcNeAt.bytes (a:Array UInt8) (t:Tok) (b:Array UInt8) (u:Tok):RcNeAt A s (.bytes a t) (.bytes b u) (!(a.toList==b.toList)):=fun Z Z Z Z h=>W.ne_bytes h
theorem EqAt.of_rc {a b:Bq} {k:Bool} (hf:a.ctorIdx≠5) (hs:a=b→k=true) (h:RcAt A s a b k):EqAt A s a b k:=fun prog w E Q hq=>by
 unfold eqBool
 refine Bj (wpAny_ite_split (fun hab=>?_) (fun Z=>?_))
 ·
  obtain rfl:=hs (eq_of_beq hab)
  cases a<;>first | exact(hf rfl).elim | exact Bh (wpAny_rule (Bi hq))
 · cases a<;>first | exact(hf rfl).elim | exact Bh (h prog w E _ (wpAny_truthy_bool hq))
theorem DP {v:Bq} {vs:List Bq} {c:Bq} (h:∃ a o n,v= .ref a∧F a o∧o.cls=c∧o.data= .seq vs.toArray n):v.ctorIdx≠5:=h.elim fun a h=>h.elim fun o h=>h.elim fun n h=>h.1▸of_decide_eq_false rfl
theorem FL {n:Nat} {a b:MV} {t:Bool} {v:Bq} (h:E9 n a b=some t) (hv:VR F a v):v.ctorIdx≠5:=match n,h with
 | 0,h=>nn h
 | n+1,h=>by
  cases a with
  | none=>exact(show v=_ from hv)▸of_decide_eq_false rfl
  | bool _=>exact(show v=_ from hv)▸of_decide_eq_false rfl
  | int _=>exact hv.elim fun Z e=>e▸of_decide_eq_false rfl
  | str _=>exact hv.elim fun Z e=>e▸of_decide_eq_false rfl
  | bytes _=>exact hv.elim fun Z e=>e▸of_decide_eq_false rfl
  | tup _=>exact hv.elim fun Z q=>DP q.1
  | lis _=>exact hv.elim fun Z q=>DP q.1
  | _=>exact nn h
theorem V0 {f:MV→MV→Option Bool} {x y:MV} {a b:List MV} {t:Bool} (h:BJ f (x::a) (y::b)=some t):∃ p q,f x y=some p∧BJ f a b=some q∧(p&&q)=t:=by
 have h:(match f x y,BJ f a b with | some p,some q=>some (p&&q) | _,_=>none)=some t:=h
 cases hp:f x y with
 | none=>rw[hp] at h;exact nn h
 | some p=>
  cases hq:BJ f a b with
  | none=>rw[hp,hq] at h;exact nn h
  | some q=>rw[hp,hq] at h;exact⟨p,q,rfl,rfl,Ab h⟩
theorem V1 {f:MV→MV→Option Bool} {a:List MV}:∀ {b:List MV} {t:Bool},BJ f a b=some t→∃ e:Nat→Bool,t=(List.range (min a.length b.length)).all e∧∀(j:Nat) (x y:MV),a[j]?=some x→b[j]?=some y→f x y=some (e j):=by
 induction a with
 | nil=>exact fun {b t} h=>⟨fun Z=>true,(Ab h).symm.trans (by rw[List.length_nil,Nat.zero_min];rfl),fun j x y e=>nomatch e⟩
 | cons x a ih=>
  intro b t h
  cases b with
  | nil=>exact⟨fun Z=>true,(Ab h).symm,fun j x y Z e=>nomatch e⟩
  | cons y b=>
   obtain⟨p,q,hp,hq,rfl⟩:=V0 h
   obtain⟨e,rfl,he⟩:=ih hq
   refine⟨fun j=>j.casesOn p e,?_,fun j x' y' h1 h2=>?_⟩
   · rw[Bf,Bf,Nat.succ_min_succ,List.range_succ_eq_map,List.all_cons,List.all_map];rfl
   ·
    cases j with
    | zero=>exact Ab h1▸Ab h2▸hp
    | succ j=>exact he j x' y' h1 h2
noncomputable def jG (P:B9):Prop:=∀ a o o',P a o→P a o'→o=o'
theorem B6.fun {G:Gx} {W:Wd} (I:B6 G W):jG W.F:=fun a o o' x y=>Ab ((I.fh a o x).symm.trans (I.fh a o' y))
theorem Qr (hf:jG F) {v:Bq} {vs ws:List Bq} {c:Bq} (h1:∃ a o n,v= .ref a∧F a o∧o.cls=c∧o.data= .seq vs.toArray n) (h2:∃ a o n,v= .ref a∧F a o∧o.cls=c∧o.data= .seq ws.toArray n):vs=ws:=by
 obtain⟨a,o,n,e,p,_,d⟩:=h1
 obtain⟨b,o',n',e',p',_,d'⟩:=h2
 obtain rfl:a=b:=by rw[e] at e';exact Bq.ref.inj e'
 rw[hf _ _ _ p p',d'] at d
 have:=(Data.seq.inj d).1
 exact(congrArg Array.toList this).symm
theorem W9 {n:Nat} (ih:∀(a b:MV) (v:Bq) (t:Bool),E9 n a b=some t→VR F a v→VR F b v→t=true) {a:List MV}:∀ {b:List MV} {vs:List Bq} {t:Bool},BJ (E9 n) a b=some t→Ds F a vs→Ds F b vs→t=true:=by
 induction a with
 | nil=>intro b vs t h _ _;exact(Ab h).symm
 | cons x a ih2=>
  intro b vs t h h1 h2
  cases b with
  | nil=>exact(Ab h).symm
  | cons y b=>
   obtain⟨p,q,hp,hq,e0⟩:=V0 h
   obtain⟨v,r,e,q1,q2⟩:=h1
   obtain⟨v',r',e',q3,q4⟩:=h2
   have e':=List.cons.inj (e.symm.trans e')
   rw[←e0,ih x y v p hp q1 (e'.1▸q3),ih2 hq q2 (e'.2▸q4)];rfl
theorem TJ (hf:jG F) (n:Nat):∀(a b:MV) (v:Bq) (t:Bool),E9 n a b=some t→VR F a v→VR F b v→t=true:=by
 induction n with
 | zero=>exact fun Z Z Z Z h Z Z=>nn h
 | succ n ih=>
  intro a b v t h h1 h2
  have q:=Vz h
  clear h
  cases q with
  | none=>rfl
  | bool x y=>exact beq_iff_eq.mpr (Bq.bool.inj ((show v=_ from h1).symm.trans h2))
  | int x y=>exact h1.elim fun Z h1=>h2.elim fun Z h2=>decide_eq_true (Bq.int.inj (h1.symm.trans h2)).1
  | str x y=>exact h1.elim fun Z h1=>h2.elim fun Z h2=>Ch.mpr (Bq.str.inj (h1.symm.trans h2)).1
  | bytes x y=>exact h1.elim fun Z h1=>h2.elim fun Z h2=>beq_iff_eq.mpr (congrArg Array.toList (Bq.bytes.inj (h1.symm.trans h2)).1)
  | tup l m u hu=>
   exact h1.elim fun vs p=>h2.elim fun ws q=>
    have e:=Qr hf p.1 q.1
    Bool.and_eq_true_iff.mpr ⟨W9 ih hu p.2 (e▸q.2),beq_iff_eq.mpr (p.2.length.symm.trans ((congrArg List.length e).trans q.2.length))⟩
  | lis l m t hl hu=>exact h1.elim fun vs p=>h2.elim fun ws q=>W9 ih hu p.2 (Qr hf p.1 q.1▸q.2)
  | lisN l m hl=>exact h1.elim fun vs p=>h2.elim fun ws q=>(hl (p.2.length.symm.trans ((congrArg List.length (Qr hf p.1 q.1)).trans q.2.length))).elim
theorem PI {l:List MV} {vs:List Bq} (q:Ds F l vs) {j:Nat} (h:j < vs.toArray.size):∃ m,l[j]?=some m∧VR F m vs.toArray[j]:=by
 have g:j < l.length:=q.size▸h
 obtain⟨v,hv,r⟩:=q.get (Ar g)
 obtain⟨_,e⟩:=Ah.mp hv
 exact⟨_,Ar g,by rw[List.getElem_toArray,e];exact r⟩
theorem Ld {n:Nat} (hf:jG F) (ih:∀(a b:MV) (va vb:Bq) (t:Bool),E9 n a b=some t→VR F a va→VR F b vb→RcAt A.in1 s va vb t) {l m:List MV} {vs ws:List Bq} {e:Nat→Bool} (q1:Ds F l vs) (q2:Ds F m ws) (he:∀(j:Nat) (x y:MV),l[j]?=some x→m[j]?=some y→E9 n x y=some (e j))
  (j:Nat) (h1:j < vs.toArray.size) (h2:j < ws.toArray.size):EqAt A.in1 s vs.toArray[j] ws.toArray[j] (e j):=
 (PI q1 h1).elim fun x p=>(PI q2 h2).elim fun y q=>
  have m1:=he j x y p.1 q.1
  EqAt.of_rc (FL m1 p.2) (fun e=>TJ hf n x y _ _ m1 p.2 (e▸q.2)) (ih x y _ _ _ m1 p.2 q.2)
theorem PE (hF:∀ a o,F a o→s.heap.get? a=some o) {v:Bq} {vs:List Bq} (h:R9 F v vs):∃ a,v= .ref a∧s.heap.IsTuple a vs.toArray:=h.imp fun a h=>h.elim fun o h=>h.elim fun n h=>⟨h.1,o,hF _ _ h.2.1,h.2.2.1,n,h.2.2.2⟩
theorem Tz (hF:∀ a o,F a o→s.heap.get? a=some o) {v:Bq} {vs:List Bq} (h:Ws F v vs):∃ a,v= .ref a∧s.heap.IsList a vs.toArray:=h.imp fun a h=>h.elim fun o h=>h.elim fun n h=>⟨h.1,o,hF _ _ h.2.1,h.2.2.1,n,h.2.2.2⟩
theorem LA {R:Bool→Bq→Bq→Prop} (hF:∀ a o,F a o→s.heap.get? a=some o) {n:Nat} {a b:MV} {va vb:Bq} {t:Bool} (h:E9 (n+1) a b=some t) (h1:VR F a va) (h2:VR F b vb)
  (kn:R true .none .none) (kb:∀ x y,R (x==y) (.bool x) (.bool y)) (ki:∀ x t y u,R (decide (x=y)) (.int x t) (.int y u)) (ks:∀ x t y u,R (x==y) (.str x t) (.str y u)) (ky:∀ x t y u,R (x.toList==y.toList) (.bytes x t) (.bytes y u))
  (kt:∀ p q l m vs ws e,s.heap.IsTuple p vs.toArray→s.heap.IsTuple q ws.toArray→Ds F l vs→Ds F m ws→(∀(j:Nat) (x y:MV),l[j]?=some x→m[j]?=some y→E9 n x y=some (e j))→R ((List.range (min vs.toArray.size ws.toArray.size)).all e&&vs.toArray.size==ws.toArray.size) (.ref p) (.ref q))
  (kl:∀ p q l m vs ws e,s.heap.IsList p vs.toArray→s.heap.IsList q ws.toArray→Ds F l vs→Ds F m ws→vs.toArray.size=ws.toArray.size→(∀(j:Nat) (x y:MV),l[j]?=some x→m[j]?=some y→E9 n x y=some (e j))→R ((List.range vs.toArray.size).all e) (.ref p) (.ref q))
  (km:∀ p q vs ws,s.heap.IsList p (List.toArray vs)→s.heap.IsList q (List.toArray ws)→(vs.toArray.size != ws.toArray.size)=true→R false (.ref p) (.ref q)):R t va vb:=by
 have q:=Vz h
 clear h
 cases q with
 | none=>exact(show va=_ from h1)▸(show vb=_ from h2)▸kn
 | bool x y=>exact(show va=_ from h1)▸(show vb=_ from h2)▸kb x y
 | int x y=>exact h1.elim fun Z h1=>h2.elim fun Z h2=>h1▸h2▸ki _ _ _ _
 | str x y=>exact h1.elim fun Z h1=>h2.elim fun Z h2=>h1▸h2▸Uz x y▸ks _ _ _ _
 | bytes x y=>exact h1.elim fun Z h1=>h2.elim fun Z h2=>h1▸h2▸ky _ _ _ _
 | tup l m u hu=>exact h1.elim fun vs t1=>h2.elim fun ws t2=>(PE hF t1.1).elim fun p e1=>(PE hF t2.1).elim fun q e2=>(V1 hu).elim fun e hs=>e1.1▸e2.1▸hs.1▸t1.2.size▸t2.2.size▸kt p q l m vs ws e e1.2 e2.2 t1.2 t2.2 hs.2
 | lis l m t hl hu=>
  have z {e:Nat→Bool} (h:t=(List.range (min l.length m.length)).all e) {vs:List Bq} (q:Ds F l vs):t=(List.range vs.toArray.size).all e:=h.trans (by rw[←hl,Nat.min_self,q.size])
  exact h1.elim fun vs t1=>h2.elim fun ws t2=>(Tz hF t1.1).elim fun p e1=>(Tz hF t2.1).elim fun q e2=>(V1 hu).elim fun e hs=>e1.1▸e2.1▸z hs.1 t1.2▸kl p q l m vs ws e e1.2 e2.2 t1.2 t2.2 (t1.2.size.trans (hl.trans t2.2.size.symm)) hs.2
 | lisN l m hl=>exact h1.elim fun vs t1=>h2.elim fun ws t2=>(Tz hF t1.1).elim fun p e1=>(Tz hF t2.1).elim fun q e2=>e1.1▸e2.1▸km p q vs ws e1.2 e2.2 (bne_iff_ne.mpr fun q=>hl (t1.2.size.symm.trans (q.trans t2.2.size)))
theorem YC (hF:∀ a o,F a o→s.heap.get? a=some o) (hf:jG F) (n:Nat):∀ {A:Bm} (Z:A.units+n < cLine) (a b:MV) (va vb:Bq) (t:Bool),E9 n a b=some t→VR F a va→VR F b vb→RcAt A s va vb t:=by
 induction n with
 | zero=>exact fun Z Z Z Z Z Z h Z Z=>nn h
 | succ n ih0=>
  intro A hu a b va vb t h h1 h2
  have hu1:A.units < cLine:=Ay (A4 ..) hu
  have ih:=ih0 (A:=A.in1) (Ay (Au (Nat.add_right_comm A.units 1 n)) hu)
  exact LA (R:=fun t va vb=>RcAt A s va vb t) hF h h1 h2 .none_none .bool_bool .int_int .str_str RcAt.bytes (fun Z Z Z Z Z Z Z i1 i2 q1 q2 hs=>RcAt.tuples i1 i2 hu1 (Ld hf ih q1 q2 hs)) (fun Z Z Z Z Z Z Z i1 i2 q1 q2 hl hs=>RcAt.lists i1 i2 hl hu1 (Ld hf ih q1 q2 hs)) fun Z Z Z Z i1 i2 hl=>RcAt.lists_lengths i1 i2 hl hu1
theorem mU (hF:∀ a o,F a o→s.heap.get? a=some o) (hf:jG F):∀(n:Nat) {A:Bm} (Z:A.units+n < cLine) (a b:MV) (va vb:Bq) (t:Bool),E9 n a b=some t→VR F a va→VR F b vb→RcNeAt A s va vb (!t)
 | 0,_,_,_,_,_,_,_,h,_,_=>nn h
 | n+1,A,hu,a,b,va,vb,t,h,h1,h2=>
  have hu1:A.units < cLine:=Ay (A4 ..) hu
  have ih:=YC hF hf n (A:=A.in1) (Ay (Au (Nat.add_right_comm A.units 1 n)) hu)
  LA (R:=fun t va vb=>RcNeAt A s va vb (!t)) hF h h1 h2 .none_none .bool_bool .int_int .str_str RcNeAt.bytes (fun Z Z Z Z Z Z Z i1 i2 q1 q2 hs=>RcNeAt.tuples i1 i2 hu1 (Ld hf ih q1 q2 hs)) (fun Z Z Z Z Z Z Z i1 i2 q1 q2 hl hs=>RcNeAt.lists i1 i2 hl hu1 (Ld hf ih q1 q2 hs)) fun Z Z Z Z i1 i2 hl=>RcNeAt.lists_lengths i1 i2 hl hu1
end
theorem Nd {l:List MV} {ss:List Str} (h:Kr l=some ss):l=ss.map .str:=by
 induction l generalizing ss with
 | nil=>exact Ab h▸rfl
 | cons m l ih=>
  cases m with
  | str s=>exact Cw (o:=Kr l) h fun r hr e=>e▸ih hr▸rfl
  | _=>exact nn h
theorem Wq {l:List MV} {ss:List Int} (h:Pw l=some ss):l=ss.map .int:=by
 induction l generalizing ss with
 | nil=>exact Ab h▸rfl
 | cons m l ih=>
  cases m with
  | int s=>exact Cw (o:=Pw l) h fun r hr e=>e▸ih hr▸rfl
  | _=>exact nn h
noncomputable def YS (y:Str):Bq→Bool
 | .str x _=>Cb x y
 | _=>false
noncomputable def XV (y:Int):Bq→Bool
 | .int x _=>decide (x=y)
 | _=>false
theorem HE {P:B9} {y:Str} {ss:List Str}:∀ {vs:List Bq},Ds P (ss.map .str) vs→(vs.any (YS y)=ss.any fun t=>Cb t y)∧∀ v∈vs,∃ x t,v= .str x t:=by
 induction ss with
 | nil=>exact fun h=>(show _=[] from h)▸⟨rfl,fun Z q=>nomatch q⟩
 | cons s ss ih=>
  exact fun h=>h.elim fun v h=>h.elim fun r h=>h.2.1.elim fun t e2=>
   have ih:=ih h.2.2
   h.1▸e2▸⟨congrArg (Cb s y|| ·) ih.1,fun v hv=>(Ag.mp hv).elim (fun e=>⟨s,t,e⟩) (ih.2 v)⟩
theorem HD {P:B9} {y:Int} {ss:List Int}:∀ {vs:List Bq},Ds P (ss.map .int) vs→(vs.any (XV y)=ss.any fun t=>decide (t=y))∧∀ v∈vs,∃ x t,v= .int x t:=by
 induction ss with
 | nil=>exact fun h=>(show _=[] from h)▸⟨rfl,fun Z q=>nomatch q⟩
 | cons s ss ih=>
  exact fun h=>h.elim fun v h=>h.elim fun r h=>h.2.1.elim fun t e2=>
   have ih:=ih h.2.2
   h.1▸e2▸⟨congrArg (decide (s=y)|| ·) ih.1,fun v hv=>(Ag.mp hv).elim (fun e=>⟨s,t,e⟩) (ih.2 v)⟩
theorem Na (y:Str):(PySem.Spec.lookup (.str y) (D5.map fun p=>(PyData.str p.1,PyData.str p.2)))=(E6 y).map PyData.str:=by
 have key:∀ l:List (Str×Str),PySem.Spec.lookup (.str y) (l.map fun p=>(PyData.str p.1,PyData.str p.2))=((l.find? fun p=>Cb p.1 y).map (·.2)).map PyData.str:=by
  intro l
  induction l with
  | nil=>rfl
  | cons p l ih=>
   obtain⟨a,b⟩:=p
   simp only [List.map_cons,PySem.Spec.lookup,PySem.Spec.same,List.find?_cons,Uz]
   cases h:Cb a y
   · simpa using ih
   · rfl
 exact key D5
theorem iY (x:Str) (j:Int) (h:0≤j):Txt.slice x none (some j)=pY x j.toNat:=by
 by_cases hj:j≤x.cps.toList.length
 ·
  have:=slice_closes_to (x:=x) ⟨h,hj⟩
  rw[beq_iff_eq] at this
  rw[this]
  simp [pY]
 ·
  have e:x.length=x.cps.toList.length:=by simp [Str.length]
  have q:(x.cps.toList.length:Int)≤j:=Int.le_of_lt (Int.not_le.mp hj)
  rw[slice_to_beyond (e▸q)]
  have:=slice_closes_to (x:=x) (j:=(x.length:Int)) ⟨Int.natCast_nonneg _,Be.mpr (Au e)⟩
  rw[beq_iff_eq] at this
  rw[this]
  unfold pY
  congr 2
  simp only [Int.toNat_zero,List.drop_zero,Int.sub_zero,Int.toNat_natCast]
  rw[List.take_of_length_le (Au e.symm),List.take_of_length_le ((Int.le_toNat h).mpr q)]
theorem PG (x:Str) (j:Int) (h:0≤j):Txt.slice x (some j) none=Sj x j.toNat:=by
 by_cases hj:j≤x.cps.toList.length
 ·
  have:=slice_closes_from (x:=x) ⟨h,hj⟩
  rw[beq_iff_eq] at this
  rw[this]
  unfold Sj
  congr 2
  rw[List.take_of_length_le (by simp;omega)]
 ·
  have e:x.length=x.cps.toList.length:=by simp [Str.length]
  have q:(x.cps.toList.length:Int)≤j:=Int.le_of_lt (Int.not_le.mp hj)
  rw[slice_from_beyond (e▸q)]
  unfold Sj
  congr 1
  rw[List.drop_of_length_le ((Int.le_toNat h).mpr q)]
theorem M3 {P:B9} {m:MV} {v:Bq} {t:Bool} (h:Y5 m=some t) (hv:VR P m v):(v== .none)=t:=by
 cases m with
 | none=>rw[show v=_ from hv];exact Ab h
 | bool _=>rw[show v=_ from hv];exact Ab h
 | figs=>rw[show v=_ from hv];exact Ab h
 | int _=>obtain⟨_,rfl⟩:=hv;exact Ab h
 | str _=>obtain⟨_,rfl⟩:=hv;exact Ab h
 | bytes _=>obtain⟨_,rfl⟩:=hv;exact Ab h
 | tup _=>obtain⟨_,⟨_,_,_,rfl,_⟩,_⟩:=hv;exact Ab h
 | lis _=>obtain⟨_,⟨_,_,_,rfl,_⟩,_⟩:=hv;exact Ab h
 | tok _ _ _=>obtain⟨x,hx⟩:=hv;rw[hx.v];exact Ab h
 | clo _=>obtain⟨x,hx⟩:=hv;rw[hx.v];exact Ab h
 | val _=>exact nn h
section
variable {G:Gx} {W:Wd} {A:Bm} {Q E:Bq→Bk→Prop}
theorem XU (B:Bs G) {a b:MV} {m:Bool} {va vb:Bq} (I:B6 G W) (ha:VR W.F a va) (hb:VR W.F b vb) (hm:rV a b=some m):(C4 G W (.v (.bool m)) Q→wpAny (model prog G.w) A (compareOp .In va vb) Q E W.s)∧(C4 G W (.v (.bool !m)) Q→wpAny (model prog G.w) A (compareOp .NotIn va vb) Q E W.s):=by
 cases b with
 | str s=>
  exact Ng hm fun y e hm=>by
   subst e
   obtain⟨t,rfl⟩:=ha;obtain⟨u,rfl⟩:=hb
   rw[←Ab hm,←TY]
   exact⟨fun H=>PyProof.Rows.in_str (C4.bool I H),fun H=>PyProof.Rows.notIn_str (C4.bool I H)⟩
 | tup l=>
  refine X4 I hb fun b vs e ht hv=>?_
  subst e
  cases a with
  | str y=>
   exact Cw (o:=Kr l) hm fun ss hs e=>by
    subst e
    obtain⟨t,rfl⟩:=ha
    have q:=HE (y:=y) (Nd hs▸hv:Ds W.F (ss.map .str) vs)
    have he:∀ v,v∈vs.toArray→EqAt A.in1 W.s v (.str y t) (YS y v):=fun v hv=>(q.2 v (List.mem_toArray.mp hv)).elim fun x h=>h.elim fun u e=>by
     subst e
     show EqAt _ _ _ _ (Cb x y)
     rw[←Uz]
     exact .str_str _ _ _ _
    rw[←q.1,←List.any_toArray]
    exact⟨fun H=>in_tupleAt _ ht he (C4.bool I H),fun H=>notIn_tupleAt _ ht he (C4.bool I H)⟩
  | int y=>
   exact Cw (o:=Pw l) hm fun ss hs e=>by
    subst e
    obtain⟨t,rfl⟩:=ha
    have q:=HD (y:=y) (Wq hs▸hv:Ds W.F (ss.map .int) vs)
    have he:∀ v,v∈vs.toArray→EqAt A.in1 W.s v (.int y t) (XV y v):=fun v hv=>(q.2 v (List.mem_toArray.mp hv)).elim fun x h=>h.elim fun u e=>by
     subst e
     exact .int_int _ _ _ _
    rw[←q.1,←List.any_toArray]
    exact⟨fun H=>in_tupleAt _ ht he (C4.bool I H),fun H=>notIn_tupleAt _ ht he (C4.bool I H)⟩
  | _=>exact nn hm
 | figs=>
  exact Ng hm fun y e hm=>by
   clear hm
   subst e
   obtain⟨t,rfl⟩:=ha
   rw[show vb=_ from hb]
   have T:=B.figs.keep I.stays
   have e:(E6 y).isSome=(PySem.Spec.lookup (.str y) (D5.map fun p=>(PyData.str p.1,PyData.str p.2))).isSome:=by rw[Na,Option.isSome_map]
   rw[←Ab hm,e]
   exact⟨fun H=>in_strTab T (H _ (W.see _ _) rfl (Go.tok I) rfl),fun H=>notin_strTab T (H _ (W.see _ _) rfl (Go.tok I) rfl)⟩
 | _=>exact nn hm
theorem B6.list (I:B6 G W) {P:Prop} {r:Nat} {l:List MV} {v:Bq} (hv:Cj W (.loc r) v) (h:W.σ[r]?=some (.list l)) (k:∀ a vs,v= .ref a→W.bs[r]?=some (a,a)→W.S a=some (.seq true vs)→Ds W.F l vs→P):P:=
 hv.elim fun ab e=>(I.sto r _ h).elim fun ab' x=>x.elim fun c x=>x.2.2.elim fun vs y=>by
  obtain rfl:ab'=ab:=Ab (x.1.symm.trans e.1)
  obtain⟨a,b⟩:=ab'
  obtain rfl:a=b:=y.2.1
  exact k a vs e.2 e.1 (y.1▸x.2.1) y.2.2
theorem B6.isList (I:B6 G W) {b:Bool} {a:Addr} {vs:List Bq} (h:W.S a=some (.seq b vs)):W.s.heap.IsList a vs.toArray:=(I.sh a _ h).elim fun o x=>⟨o,x.1,x.2.1,x.2.2.1⟩
theorem IC (B:Bs G) {op:CmpOp} {a b:RV} {m:Bool} {va vb:Bq} (hu:A.units+200 < cLine) (I:B6 G W) (ha:Cj W a va) (hb:Cj W b vb) (hm:ER W.σ op a b=some m) (H:C4 G W (.v (.bool m)) Q):wpAny (model prog G.w) A (compareOp op va vb) Q E W.s:=
 have hu1:A.units < cLine:=Ay (A4 ..) hu
 have hu6:A.units+60 < cLine:=Ay (A8 (by decide) _) hu
 have ii {f:Int→Int→Bool} {x y:MV} (hx:Cj W (.v x) va) (hy:Cj W (.v y) vb) (h:(wI x fun a=>wI y fun b=>some (f a b))=some m) {P:Prop} (k:∀ a b t u,va= .int a t→vb= .int b u→f a b=m→P):P:=
  Ht h fun a e h=>Ht h fun b e2 h=>(e▸hx:Cj W (.v (.int a)) va).elim fun t e3=>(e2▸hy:Cj W (.v (.int b)) vb).elim fun u e4=>k a b t u e3 e4 (Ab h)
 have no {x:Option Bool} {y:MV} (hy:Cj W (.v y) vb) (h:bQ y x=some m) {P:Prop} (k:vb= .none→x=some m→P):P:=by
  cases y with
  | none=>exact k hy h
  | _=>exact nn h
 Gm hm fun y e2 hm=>by
  subst e2
  cases a with
  | v x=>cases op with
   | Lt=>exact ii (f:=fun a b=>decide (a < b)) ha hb hm fun a b t u e e2 e3=>e▸e2▸P.lt_int (C4.bool I (e3▸H))
   | LtE=>exact ii (f:=fun a b=>decide (a≤b)) ha hb hm fun a b t u e e2 e3=>e▸e2▸P.le_int (C4.bool I (e3▸H))
   | Gt=>exact ii (f:=fun a b=>decide (a > b)) ha hb hm fun a b t u e e2 e3=>e▸e2▸P.gt_int (C4.bool I (e3▸H))
   | GtE=>exact ii (f:=fun a b=>decide (a≥b)) ha hb hm fun a b t u e e2 e3=>e▸e2▸P.ge_int (C4.bool I (e3▸H))
   | Is=>exact no hb hm fun e h=>e▸PySem.is_none (M3 h ha▸C4.bool I (M3 h ha▸H))
   | IsNot=>exact no hb hm fun e h=>Cw h fun t h e2=>e▸PySem.isNot_none (by rw[M3 h ha,e2];exact C4.bool I H)
   | Eq=>exact YC I.fh I.fun 60 hu6 _ _ _ _ _ hm ha hb _ _ _ _ (C4.bool I H)
   | NotEq=>exact Cw hm fun t h e=>mU I.fh I.fun 60 hu6 _ _ _ _ _ h ha hb _ _ _ _ (e.symm▸C4.bool I H)
   | In=>exact(XU B I ha hb hm).1 H
   | NotIn=>exact Cw hm fun t h e=>(XU B I ha hb h).2 (e.symm▸H)
  | loc r=>cases op with
   | Eq=>
    exact EF hm fun z e hm=>by
     clear ii no hm
     subst e
     cases z with
     | cons _ _=>exact nn hm
     | nil=>
      refine J6 I hb fun b ws e hl hw=>Ji hm fun o ho hm=>?_
      obtain rfl:ws=[]:=hw
      subst e
      cases o with
      | list l=>
       refine I.list ha ho fun a vs e hab hs hv=>?_
       subst e
       obtain rfl:=Ab hm
       cases l with
       | nil=>
        obtain rfl:vs=[]:=hv
        exact RcAt.lists (e:=fun Z=>true) (I.isList hs) hl rfl hu1 (fun j g=>nomatch g) _ _ _ _ (C4.bool I H)
       | cons x l=>exact RcAt.lists_lengths (I.isList hs) hl (by rw[hv.size];rfl) hu1 _ _ _ _ (C4.bool I H)
      | _=>exact nn hm
   | _=>exact nn hm
  | un=>exact nn hm
theorem Dm {slice:Expr} {o i:Bq} (h:Ho slice=true):subscripted slice false o i=operate [o,i] (getItem o i):=by
 cases slice<;>first | rfl | exact ff h
theorem HI {P:Prop} {l:List MV} {k m:MV} (h:jJ l k=some m) (z:∀ i,k= .int i→l.length≤Cf→0≤i→l[i.toNat]?=some m→P):P:=Ht h fun i e h=>z i e (Ca h).1 (Ca (Ca h).2).1 (Ca (Ca h).2).2
theorem Pq {s:Bk} {a:Addr} {vs:List Bq} {l:List MV} {k m:MV} {vk:Bq} {F:B9} {value slice:Expr} (hs:Ho slice=true) (hl:s.heap.IsList a vs.toArray) (hv:Ds F l vs) (hk:VR F k vk) (h:jJ l k=some m) (hq:∀ v,VR F m v→Q v s):wpAny (model prog G.w) A (subscriptTail value slice (.ref a) vk) Q E s:=
 HI h fun i e hz h0 hi=>(e▸hk:VR F (.int i) vk).elim fun u e=>(hv.get hi).elim fun v x=>by
  subst e
  have hlt:i.toNat < l.length:=(Ah.mp hi).1
  obtain⟨o,ho,hc,_⟩:=id hl
  exact tail_any (T:="list") ⟨o,ho,hc⟩ slot_list_getitem.lookup (wpAny_getItem_list hl h0 (KA h0 hlt hz) (List.getElem?_toArray.trans x.1) (hq v x.2)) (Dm hs)
theorem RD {P:B9} {y:Str} {d:List (Str×MV)}:∀ {kvs:List (Str×Bq)} {m:MV},Ni P d kvs→(d.find? fun p=>Cb p.1 y).map (·.2)=some m→∃ v,valueAt kvs y=some v∧VR P m v:=by
 induction d with
 | nil=>exact fun Z h=>nn h
 | cons p r ih=>
  exact fun {kvs m} h=>h.elim fun v h=>h.elim fun es h e=>h.1▸by
   unfold valueAt
   rw[List.find?_cons] at e⊢
   dsimp only at e⊢
   by_cases hk:p.1=y
   ·
    rw[show Cb p.1 y=true from Ch.mpr hk] at e
    rw[decide_eq_true hk]
    exact⟨v,rfl,Ab e▸h.2.1⟩
   ·
    rw[show Cb p.1 y=false from(Bool.not_eq_true _).mp fun q=>hk (Ch.mp q)] at e
    rw[decide_eq_false hk]
    exact ih h.2.2 e
theorem iI (B:Bs G) {value slice:Expr} {a b:RV} {m:MV} {va vb:Bq} (hs:Ho slice=true) (I:B6 G W) (ha:Cj W a va) (hb:Cj W b vb) (hm:Jz W.σ a b=some m) (H:C4 G W (.v m) Q):wpAny (model prog G.w) A (subscriptTail value slice va vb) Q E W.s:=
 Gm hm fun k e hm=>by
  clear hm
  subst e
  cases a with
  | v x=>cases x with
   | tup l=>
    exact X4 I ha fun a vs e hl hv=>HI hm fun i e2 hz h0 hi=>by
     subst e;subst e2
     obtain⟨u,rfl⟩:=hb
     obtain⟨v,hv',hr⟩:=hv.get hi
     have hlt:i.toNat < l.length:=(Ah.mp hi).1
     exact item_tupleT (j:=i.toNat) hl (KB h0) (KA h0 hlt hz) (seqIndex_of h0 ((Int.toNat_lt h0).mp (hv.length▸hlt))) hv' (C4.here I H hr) (Dm hs)
   | lis l=>exact J6 I ha fun a vs e hl hv=>e▸Pq hs hl hv hb hm fun v hr=>C4.here I H hr
   | str x=>
    exact Ht hm fun i e hm=>Cw (Ca hm).2 fun c hc e2=>by
     subst e;subst e2
     obtain⟨t,rfl⟩:=ha;obtain⟨u,rfl⟩:=hb
     have hp:=(Ca hm).1
     have hlt:=(Ah.mp hc).1
     have hz:x.cps.toList.length≤1048576:=hp.2
     have e:x.length=x.cps.toList.length:=by simp [Str.length]
     refine tail_any (typeIs_str _ _ _) F.slot_str_getitem.lookup (PyProof.Rows.getItem_str (c:=c) ?_ ?_ (C4.str I H)) (Dm hs)
     · exact KC (KB hp.1) (KA hp.1 hlt hz)
     · rw[seqIndex_of hp.1 ((Int.toNat_lt hp.1).mp (e▸hlt))];simpa using hc
   | figs=>
    exact Ng hm fun s e hm=>Cw hm fun y hy e2=>by
     clear hm
     subst e;subst e2
     clear hm
     obtain⟨u,rfl⟩:=hb
     rw[show va=_ from ha]
     clear ha
     obtain⟨lo,kvs,hd,hf⟩:=B.figs.keep I.stays
     obtain⟨v,hv,hfl⟩:=hf.of_lookup PyProof.V.same_str (d:=.str y) (by rw[Na,hy];rfl)
     refine tail_any hd.typeIs slot_dict_getitem.lookup (wpAny_getItem_of (strKind_is prog G.w _ _) hd.mapOf hv ?_) (Dm hs)
     obtain⟨t,rfl⟩:∃ t,v= .str y t:=by cases hfl W.s.heap;exact⟨_,rfl⟩
     exact C4.str I H
   | _=>exact nn hm
  | loc r=>
   refine Ji hm fun o ho hm=>?_
   cases o with
   | list l=>exact I.list ha ho fun a vs e Z hs' hv=>e▸Pq hs (I.isList hs') hv hb hm fun v hr=>C4.here I H hr
   | pen n c=>
    refine Ht hm fun i e hm=>ha.elim fun ab e1=>(I.sto r _ ho).elim fun ab' x=>x.elim fun con x=>x.2.2.elim fun t y=>y.elim fun u y=>?_
    obtain rfl:ab'=ab:=Ab (x.1.symm.trans e1.1)
    have hl:=I.isList (y.1▸x.2.1)
    rw[e1.2,y.2]
    refine Pq (F:=W.F) (l:=[.int n,.int c]) (k:=.int i) hs hl ⟨_,_,rfl,⟨t,rfl⟩,_,_,rfl,⟨u,rfl⟩,rfl⟩ (e▸hb) ?_ fun v hr=>C4.here I H hr
    by_cases h0:i=0
    · subst h0;exact(if_pos rfl).symm.trans hm
    ·
     have h1:=Ca ((if_neg h0).symm.trans hm)
     clear ho h0 e hm
     obtain⟨rfl,h1⟩:=h1
     exact h1
   | dict d=>
    refine Ng hm fun y e hm=>ha.elim fun ab e1=>(I.sto r _ ho).elim fun ab' x=>x.elim fun con x=>x.2.2.elim fun kvs z=>?_
    obtain rfl:ab'=ab:=Ab (x.1.symm.trans e1.1)
    clear ho hm ha
    subst e
    obtain⟨u,rfl⟩:=hb
    obtain⟨v,h1,h2⟩:=RD z.2.2 hm
    have hD:W.s.heap.DictOf (strKind prog G.w) ab'.1 kvs:=Heap.dictOf_iff.mpr (z.2.1▸I.sh _ _ (z.1▸x.2.1))
    rw[e1.2]
    exact tail_any hD.typeIs slot_dict_getitem.lookup (wpAny_getItem_of (strKind_is prog G.w _ _) hD.mapOf h1 (C4.tok I H h2)) (Dm hs)
   | rdr _ _=>exact nn hm
  | un=>exact nn hm
end
theorem jO {α β:Type} {o:Option α} {f:α→β} {b:β} (h:o.map f=some b):∃ a,o=some a∧f a=b:=Cw h fun a e q=>⟨a,e,q⟩
theorem IG {c a:Nat} {l acc:List Nat} (h:c≠a):G4 c acc (a::l)=G4 c (a::acc) l:=if_neg fun q=>h (Nat.eq_of_beq_eq_true q).symm
theorem Vs (c:Nat) (l:List Nat):∀(acc:List Nat),c∉l→G4 c acc l=[acc.reverse++l]:=by
 induction l with
 | nil=>intro acc _;rw[Aj];rfl
 | cons a l ih=>intro acc h;rw[IG fun e=>h (Ag.mpr (.inl e)),ih _ fun q=>h (.tail _ q),List.reverse_cons,Ak];rfl
theorem Yn (c:Nat) (l:List Nat):∀(r acc:List Nat),c∉l→G4 c acc (l++c::r)=(acc.reverse++l)::G4 c [] r:=by
 induction l with
 | nil=>intro r acc _;exact(if_pos (Nat.beq_refl c)).trans (by rw[Aj])
 | cons a l ih=>intro r acc h;rw[List.cons_append,IG fun e=>h (Ag.mpr (.inl e)),ih _ _ fun q=>h (.tail _ q),List.reverse_cons,Ak];rfl
theorem Vt (c:Nat):∀(ps:List Str),ps≠[]→(∀ p∈ps,c∉p.cps.toList)→G4 c [] (Str.join ⟨#[c]⟩ ps).cps.toList=ps.map fun p=>p.cps.toList
 | [],h,_=>(h rfl).elim
 | [p],_,h=>by
  show G4 c [] p.cps.toList=_
  rw[Vs c _ _ (h p (.head _))]
  simp
 | p::q::r,_,h=>by
  have e:(Str.join ⟨#[c]⟩ (p::q::r)).cps.toList=p.cps.toList++c::(Str.join ⟨#[c]⟩ (q::r)).cps.toList:=by
   show((p++⟨#[c]⟩)++Str.join ⟨#[c]⟩ (q::r)).cps.toList=_
   simp [Str.cps_append]
  rw[e,Yn c _ _ _ (h p (.head _)),Vt c (q::r) (fun e=>nomatch e) fun p' hp'=>h p' (.tail _ hp')]
  simp
theorem Qv (x:Str) (c:Nat):Str.join ⟨#[c]⟩ (Txt.split x ⟨#[c]⟩)=x∧Txt.split x ⟨#[c]⟩≠[]:=by
 unfold Txt.split
 split
 · exact⟨rfl,by simp⟩
 ·
  split
  · exact⟨rfl,by simp⟩
  ·
   refine⟨?_,fun e=>?_⟩
   · rw[←StrLaws.glued_eq_join];exact StrLaws.glued_between_self x ⟨#[c]⟩ _
   ·
    have:=congrArg List.length e
    rw[length_partsBetween] at this
    simp at this
theorem Sk (x:Str) (c:Nat):Hb x c=Txt.split x ⟨#[c]⟩:=by
 unfold Hb
 have h1:=Vt c (Txt.split x ⟨#[c]⟩) (Qv x c).2 (StrLaws.split_free x c)
 rw[(Qv x c).1] at h1
 rw[h1,List.map_map]
 conv=>rhs;rw[←List.map_id (Txt.split x ⟨#[c]⟩)]
 apply List.map_congr_left
 intro p _
 cases p
 rfl
theorem Zl {l:List MV} {b:List UInt8} (h:Xa l=some b):∃ ns:List Int,l=ns.map .int∧(∀ n∈ns,0≤n∧n < 256)∧b=ns.map fun n=>n.toNat.toUInt8:=by
 induction l generalizing b with
 | nil=>exact⟨[],rfl,fun Z q=>(nomatch q),(Ab h).symm⟩
 | cons m l ih=>
  cases m with
  | int i=>exact Cw (Ca (c:=0≤i∧i < 256) h).2 fun r hr e=>(ih hr).elim fun ns q=>⟨i::ns,q.1▸rfl,fun n hn=>(Ag.mp hn).elim (fun e=>e▸(Ca (c:=0≤i∧i < 256) h).1) (q.2.1 n),e▸q.2.2▸rfl⟩
  | _=>exact nn h
theorem X9 {P:B9} {ns:List Int}:∀ {vs:List Bq},Ds P (ns.map .int) vs→IntsAre vs ns:=by
 induction ns with
 | nil=>exact fun h=>(show _=[] from h)▸ .nil
 | cons s ss ih=>exact fun h=>h.elim fun v h=>h.elim fun r h=>h.2.1.elim fun t e2=>h.1▸e2▸ .cons _ _ (ih h.2.2)
theorem Nf {P:B9}:∀(l:List (Str×Tok)),Ds P ((l.map (·.1)).map .str) (strValues l)
 | []=>rfl
 | p::l=>⟨_,_,rfl,⟨_,rfl⟩,Nf l⟩
theorem Va {P:B9} {ss:List Str}:∀ {vs:List Bq},Ds P (ss.map .str) vs→∃ l:List (Str×Tok),vs=strValues l∧l.map (·.1)=ss:=by
 induction ss with
 | nil=>exact fun h=>⟨[],h,rfl⟩
 | cons s ss ih=>exact fun h=>h.elim fun v h=>h.elim fun r h=>h.2.1.elim fun t e2=>(ih h.2.2).elim fun l q=>⟨(s,t)::l,by rw[h.1,e2,q.1];rfl,q.2▸rfl⟩
theorem GK (i:Int) (h0:0≤i) (h1:i < 10):(Aa (toString i))=NO i.toNat:=by
 have k:∀ n:Fin 10,Aa (toString ((n.val:Nat):Int))=NO n.val:=by decide+kernel
 exact(congrArg (fun i:Int=>Aa (toString i)) (Int.toNat_of_nonneg h0)).symm.trans (k ⟨i.toNat,(Int.toNat_lt h0).mpr h1⟩)
theorem Y4 (c:Nat) {l:List Nat}:∀ {i:Nat},BR c l=some i→l[i]?=some c∧∀ k,k < i→l[k]?≠some c:=by
 induction l with
 | nil=>intro i h;exact nn h
 | cons a l ih=>
  intro i h
  by_cases hb:Nat.beq a c=true
  ·
   rw[←Ab ((if_pos hb).symm.trans h),Nat.eq_of_beq_eq_true hb]
   exact⟨rfl,fun k hk=>absurd hk (Nat.not_lt_zero _)⟩
  ·
   refine Cw ((if_neg hb).symm.trans h) fun j hj e=>e▸⟨(ih hj).1,fun k hk=>?_⟩
   cases k with
   | zero=>exact fun e=>hb (Ab e▸Nat.beq_refl _)
   | succ k=>exact(ih hj).2 k (Nat.lt_of_succ_lt_succ hk)
theorem Ye {x:Str} {c i:Nat}:StrLaws.At x ⟨#[c]⟩ x.length i↔x.cps.toList[i]?=some c:=by
 rw[Sz]
 show i+1≤_∧(List.drop i x.cps.toList).take 1=[c]↔_
 constructor
 ·
  rintro ⟨h1,h2⟩
  rw[List.drop_eq_getElem_cons h1] at h2
  simp at h2
  rw[Ar h1]
  simpa using h2
 ·
  intro h
  have hl:=(Ah.mp h).1
  refine⟨hl,?_⟩
  rw[List.drop_eq_getElem_cons hl]
  rw[Ar hl] at h
  simpa using h
theorem TW {x:Str} {c i:Nat} (h:BR c x.cps.toList=some i):∃ r,Builtin.Str.occurrences x ⟨#[c]⟩ 0 x.length 1=i::r:=by
 obtain⟨h1,h2⟩:=Y4 c h
 rcases StrLaws.occ_head x ⟨#[c]⟩ 1 (Av 1) with⟨_,hn⟩ | ⟨j,r,e,ha,hf⟩
 · exact(hn i (Ye.mpr h1)).elim
 ·
  refine⟨r,?_⟩
  rw[e]
  have:j=i:=by
   rcases Nat.lt_trichotomy j i with q | q | q
   · exact(h2 j q (Ye.mp ha)).elim
   · exact q
   · exact(hf i q (Ye.mpr h1)).elim
  rw[this]
theorem Vb {x:Str} {l:List Nat} (h:x.cps.toList=l):x=⟨l.toArray⟩:=by
 cases x
 simp only [Str.mk.injEq]
 exact Array.toList_inj.mp (by simpa using h)
theorem KD:∀ ss:List Str,(Txt.join ⟨#[]⟩ ss)=Je ss:=by
 intro ss
 show Builtin.Str.glued ⟨#[]⟩ ss=_
 rw[StrLaws.glued_eq_join]
 induction ss with
 | nil=>rfl
 | cons x r ih=>
  cases r with
  | nil=>apply Str.ext';show x.cps=_;simp [Je]
  | cons y r=>
   show(x++⟨#[]⟩)++Str.join ⟨#[]⟩ (y::r)=_
   rw[ih]
   apply Str.ext'
   simp [Je,Str.cps_append]
theorem GD (ss:List Str):Ci (Je ss)=(ss.map (·.length)).sum:=by
 induction ss with
 | nil=>rfl
 | cons x r ih=>simp [Ci,Je,Str.length] at ih⊢
theorem AE {prog:Program} {w:World} {A:Bm} {E:Bq→Bk→Prop} {s:Bk} {x y:Str} {t u:Tok} {Q:Bq→Bk→Prop} (hy:(y.length==0)=false)
  (hq:∀(l:List (Str×Tok)) tk,l.map (·.1)=Txt.split x y→Q (.ref s.heap.objs.size) {s with heap:=s.heap.push {cls:=.type "list",data:=.seq (strValues l).toArray},toks:=tk})
  (hsz:x.length≤sizeLine) (hsz2:(Txt.split x y).length≤sizeLine):
  wpAny (model prog w) A (PySem.call (.builtin "str.split") [.str x t,.str y u]) Q E s:=by
 cases h1:(decide (x.length < y.length)||decide (Builtin.Str.strKind x < Builtin.Str.strKind y))
 ·
  cases hf:(Builtin.Str.occurrences x y 0 x.length (x.length+1)).isEmpty
  ·
   have hp:Txt.split x y=Builtin.Str.partsBetween x (Builtin.Str.occurrences x y 0 x.length (x.length+1)) y.length:=(if_neg (ne_true_of_eq_false h1)).trans (if_neg (ne_true_of_eq_false hf))
   refine call_meets F.slot_str_split (typeIs_str _ _ _) F.entry_str_split (F.args_str_split_2 _ _) (meets_str_split_sep x y t u h1 hy hf hsz (hp▸hsz2)) ?_
   show wants Q E _ {s with toks:=_,heap:=s.heap.push {cls:=.type "list",data:=.seq (strsFrom s.toks (Builtin.Str.partsBetween x (Builtin.Str.occurrences x y 0 x.length (x.length+1)) y.length)).toArray}}
   rw[strsFrom_eq]
   exact hq (numbered s.toks _) _ ((numbered_texts _ _).trans hp.symm)
  ·
   exact call_meets F.slot_str_split (typeIs_str _ _ _) F.entry_str_split (F.args_str_split_2 _ _) (meets_str_split_not_found x y t u h1 hy hf)
    (hq [(x,t)] s.toks ((if_neg (ne_true_of_eq_false h1)).trans (if_pos hf)).symm)
 ·
  exact call_meets F.slot_str_split (typeIs_str _ _ _) F.entry_str_split (F.args_str_split_2 _ _) (meets_str_split_cannot_occur x y t u h1)
   (hq [(x,t)] s.toks (if_pos h1).symm)
section
variable {G:Gx} {W:Wd} {A:Bm} {Q E:Bq→Bk→Prop}
theorem aC {value:Expr} {x y:Option Expr} {p:Pos} {a:RV} {lo hi:Option RV} {m:MV} {va vl vh:Bq} (I:B6 G W) (ha:Cj W a va) (hl:WM W lo vl) (hh:WM W hi vh) (hm:aB a lo hi=some m) (H:C4 G W (.v m) Q):
  wpAny (model prog G.w) A (subscriptTail value (.Slice x y none p) va (.ref W.s.heap.objs.size)) Q E {W.s with heap:=W.s.heap.push {cls:=.type "slice",data:=.fields #[vl,vh,.none]}}:=by
 have fin {s:Str} {t tk:Nat} (I:B6 G W) (H:C4 G W (.v (.str s)) Q):Q (.str s t) {W.s with heap:=W.s.heap.push {cls:=.type "slice",data:=.fields #[vl,vh,.none]},toks:=tk}:=C4.grow I H B4 ⟨t,rfl⟩
 refine Gm hm fun m' e hm=>?_
 subst e
 cases lo with
 | some lo=>cases hi with
  | some hi=>exact nn hm
  | none=>
   exact Gm (show lH m' lo=some m from hm) fun b e h1=>Ht h1 fun i e2 h2=>Ng h2 fun s e3 h3=>by
    subst e;subst e2;subst e3
    obtain⟨t,rfl⟩:=ha
    clear h2 h1 hm
    obtain⟨u,rfl⟩:∃ u,vl= .int i u:=hl
    clear hm
    obtain rfl:vh= .none:=hh
    have hp:=(Ca h3).1
    have e4:=Ab (Ca h3).2
    rw[←PG s i hp.1] at e4
    clear h3
    subst e4
    have hz:s.length≤Cf:=Ln s▸hp.2
    exact tail_any (ops:=[_,_]) (typeIs_str _ _ _) F.slot_str_getitem.lookup (wpAny_getItem_str_slice (l:=some (i,u)) (u:=none) (st:=none) ⟨_,Bp _ rfl,rfl,rfl⟩ rfl
     (post_val_or_str ⟨Ad (Txt.slice_le s _ _) (D3 hz),fun t' k=>show Q (.str (Txt.slice s _ _) t') _ from fin I H⟩)) rfl
 | none=>cases hi with
  | none=>exact nn hm
  | some hi=>
   exact Gm (show lI m' hi=some m from hm) fun b e h1=>Ht h1 fun i e2 h2=>by
    clear h1 hm
    subst e;subst e2
    obtain rfl:vl= .none:=hl
    obtain⟨u,rfl⟩:∃ u,vh= .int i u:=hh
    cases m' with
    | str s=>
     obtain⟨t,rfl⟩:=ha
     have hp:=(Ca h2).1
     have e4:=Ab (Ca h2).2
     rw[←iY s i hp.1] at e4
     clear hm
     subst e4
     have hz:s.length≤Cf:=Ln s▸hp.2
     exact tail_any (ops:=[_,_]) (typeIs_str _ _ _) F.slot_str_getitem.lookup (wpAny_getItem_str_slice (l:=none) (u:=some (i,u)) (st:=none) ⟨_,Bp _ rfl,rfl,rfl⟩ rfl
      (post_val_or_str ⟨Ad (Txt.slice_le s _ _) (D3 hz),fun t' k=>show Q (.str (Txt.slice s _ _) t') _ from fin I H⟩)) rfl
    | lis l=>
     have hp:=(Ca h2).1
     have e4:=Ab (Ca h2).2
     clear fin hm
     subst e4
     refine J6 I ha fun a vs e hl hv=>?_
     clear ha
     subst e
     obtain⟨j,rfl⟩:∃ j:Nat,i=(j:Int):=⟨i.toNat,(Int.toNat_of_nonneg hp.1).symm⟩
     have hl':(W.s.heap.push {cls:=.type "slice",data:=.fields #[.none,.int j u,.none]}).IsList a vs.toArray:=hl.push _
     have I':=I.see (t:=W.s.toks) (B4 (o:={cls:=.type "slice",data:=.fields #[.none,.int j u,.none]}))
     obtain⟨o,ho,hc,_⟩:=id hl'
     refine tail_any (T:="list") (ops:=[_,_]) ⟨o,ho,hc⟩ list_getitem_lookup (wpAny_getItem_list_slice (items:=vs.toArray) (lo:=none) (hi:=some (j:Int)) (st:=none) hl' ⟨_,Bp _ rfl,rfl,rfl⟩ .none (.int _ _) .none (fun q=>nomatch q) ?_ (D3 (hv.size▸hp.2))) rfl
     rw[slicePick_upto']
     exact C4.lis (W:=W.see _ W.s.toks) (l:=l.take j) I' (fun v W' e g h=>H v W' e ((Go.see I B4).trans g) h) (hv.take j)
    | _=>exact nn h2
theorem BV (I:B6 G W) {P:Prop} {a:RV} {l:List MV} {v:Bq} (hr:Cj W a v) (hi:Dy W.σ a=some l) (kl:∀ ad vs,v= .ref ad→Ds W.F l vs→W.s.heap.IsList ad vs.toArray→P) (kt:a= .v (.tup l)→P):P:=by
 cases a with
 | v m=>cases m with
  | lis l'=>obtain rfl:=Ab hi;exact J6 I hr fun a vs e h hv=>kl a vs e hv h
  | tup l'=>obtain rfl:=Ab hi;exact kt rfl
  | _=>exact nn hi
 | loc r=>
  have hi:(match W.σ[r]? with | some (.list l)=>some l | _=>none)=some l:=hi
  cases ho:W.σ[r]? with
  | none=>rw[ho] at hi;exact nn hi
  | some o=>cases o with
   | list l'=>
    rw[ho] at hi
    obtain rfl:=Ab hi
    exact I.list hr ho fun a vs e Z hs hv=>kl a vs e hv (I.isList hs)
   | _=>rw[ho] at hi;exact nn hi
 | un=>exact nn hi
theorem KM {P:Prop} {σ:Bu} {a:RV} {n:Nat} (h:P3 σ a=some n) (ks:∀ s,a= .v (.str s)→Ci s≤Cf→n=Ci s→P) (kb:∀ s,a= .v (.bytes s)→s.toList.length≤Cf→n=s.toList.length→P) (ki:∀ l,Dy σ a=some l→l.length≤Cf→n=l.length→P):P:=by
 have other (h:((Dy σ a).bind fun l=>if l.length≤Cf then some l.length else none)=some n):P:=Hy h fun l hl h=>ki l hl (Ca h).1 (Ab (Ca h).2).symm
 cases a with
 | v m=>cases m with
  | str s=>exact ks s rfl (Ca (c:=Ci s≤Cf) h).1 (Ab (Ca (c:=Ci s≤Cf) h).2).symm
  | bytes s=>exact kb s rfl (Ca (c:=s.toList.length≤Cf) h).1 (Ab (Ca (c:=s.toList.length≤Cf) h).2).symm
  | _=>exact other h
 | _=>exact other h
theorem Iq {α:Type} {P:Prop} {c:Prop} [Decidable c] {x y z:α} (h:(if c then x else y)=z) (k1:c→x=z→P) (k2:y=z→P):P:=if q:c then k1 q ((if_pos q).symm.trans h) else k2 ((if_neg q).symm.trans h)
theorem bZ {a:RV} {m:MV} {v:Bq} (I:B6 G W) (hr:Cj W a v) (hm:((P3 W.σ a).map fun(n:Nat)=>MV.int (n:Int))=some m) (H:C4 G W (.v m) Q):wpAny (model prog G.w) A (PySem.call (.builtin "len") [v]) Q E W.s:=
 Cw hm fun n hn e=>by
  clear hm
  subst e
  refine KM hn (fun s e hz e2=>?_) (fun s e hz e2=>?_) fun l hl hz e2=>BV I hr hl (fun ad vs e hv h=>?_) fun e=>?_
  ·
   subst e;subst e2;obtain⟨t,rfl⟩:=hr
   exact PyProof.Rows.len_str (Int.not_le.mpr (S9 (Ln s▸hz:s.length≤Cf))) (Ln s▸C4.int I H)
  ·
   subst e;subst e2;obtain⟨t,rfl⟩:=hr
   rw[show s.toList.length=s.size from Array.length_toList] at hz H
   exact PySem.W.len_bytes (Ad hz (by decide)) (C4.int I H)
  ·
   clear hl hr hn
   subst e;subst e2
   exact PyProof.Rows.len_list h (S9 (hv.size▸hz)) (hv.size▸C4.int I H)
  ·
   clear hl
   subst e;subst e2
   exact X4 I hr fun a vs e h hv=>e▸PyProof.Rows.len_tuple h (S9 (hv.size▸hz)) (hv.size▸C4.int I H)
section
variable {a b:RV} {m:MV} {v w:Bq} (hh:A.handled=none) (I:B6 G W) (hr:Cj W a v) (H:C4 G W (.v m) Q)
theorem iZ {α:Type} {P:Prop} {f:MV→Option α} {m:α} (hm:wV a f=some m) (hr:Cj W a v) (k:∀ x,Cj W (.v x) v→f x=some m→P):P:=Gm hm fun x e h=>k x (e▸hr) h
include I hr H
theorem ZO (hm:(wV a fun a=>wI a fun i=>some (MV.int (if i < 0 then -i else i)))=some m):wpAny (model prog G.w) A (PySem.call (.builtin "abs") [v]) Q E W.s:=
 iZ hm hr fun x hx h=>Pv h hx fun i t Z e h=>e▸PyProof.Rows.call_abs_int fun u tk=>C4.int I (Ab h▸H)
omit I hr H in
theorem UK {P:Prop} {s:Str} (h:eX s=some m) (k:∀ c:Nat,s=⟨#[c]⟩→MV.int c=m→P):P:=Ul h fun c q e=>k c (congrArg Str.mk (Array.toList_inj.mp q)) (Ab e)
theorem eY (hm:(wV a fun a=>wS a eX)=some m):wpAny (model prog G.w) A (PySem.call (.builtin "ord") [v]) Q E W.s:=
 iZ hm hr fun x hx h=>OR h hx fun s t Z e h=>UK h fun c es em=>e▸es▸P.ord_of_char (C4.int I (em▸H))
theorem bO (hm:wV a mF=some m):wpAny (model prog G.w) A (PySem.call (.type "int") [v]) Q E W.s:=
 iZ hm hr fun x hx h=>by
  cases x with
  | int i=>exact hx.elim fun t e=>e▸PySem.call_int_int (C4.here I (Ab h▸H:C4 G W (.v (.int i)) Q) ⟨t,rfl⟩)
  | bool b=>exact(show v=_ from hx)▸PySem.call_int_bool (C4.int I (Ab h▸H))
  | _=>exact nn h
theorem iE (hm:(wV a fun a=>wI a fun i=>if 0≤i∧i < 10 then some (.str (NO i.toNat)) else none)=some m):wpAny (model prog G.w) A (PySem.call (.type "str") [v]) Q E W.s:=
 iZ hm hr fun x hx h=>Pv h hx fun i t Z e h=>e▸by
  have hp:=(Ca h).1
  have e3:=Ab (Ca h).2
  rw[←e3,←GK i hp.1 hp.2] at H
  refine P.str_of_int ?_ (C4.str I H)
  by_cases h0:i.natAbs=0
  · rw[h0];decide+kernel
  ·
   have:=(Nat.log2_lt h0).mpr (show i.natAbs < 2^4 by omega)
   omega
theorem iX (hm:((Dy W.σ a).bind fun l=>if l.length≤Cf then some (.tup l) else none)=some m):wpAny (model prog G.w) A (PySem.call (.type "tuple") [v]) Q E W.s:=
 Hy hm fun l hl h2=>
  have hz:=(Ca h2).1
  have H:C4 G W (.v (.tup l)) Q:=Ab (Ca h2).2▸H
  BV I hr hl (fun ad vs e hv h=>e▸PySem.call_tuple_list h (fun h' k=>C4.tup (W:=W.see h' W.s.toks) (I.see k) (fun v W' e g h=>H v W' e ((Go.see I k).trans g) h) hv) (D3 (hv.size▸hz)))
   fun e=>X4 I (v:=v) (l:=l) (e▸hr) fun a vs e2 h hv=>e2▸PySem.call_tuple_same h (C4.here I H (e2▸e▸hr))
include hh
theorem ZY (hm:(wV a fun a=>wL a fun l=>if l.length≤Cf then(Xa l).map fun b=>.bytes b.toArray else none)=some m):wpAny (model prog G.w) A (PySem.call (.type "bytes") [v]) Q E W.s:=
 iZ hm hr fun x hx h=>EF h fun l e2 h2=>Cw (Ca h2).2 fun b hb e3=>J6 I (v:=v) (e2▸hx) fun a vs e h hv=>(Zl hb).elim fun ns q=>
  e▸call_bytes_ints h (X9 (q.1▸hv)) q.2.1 (hv.length▸D3 (Ca h2).1) hh fun h' t k hk=>C4.grow (r:=.v (.bytes b.toArray)) I (e3▸H) hk ⟨t,q.2.2▸rfl⟩
theorem cZ (hr2:Cj W b w) (hm:(wV a fun a=>wI a fun i=>wV b fun b=>wI b fun j=>some (MV.int (if j < i then j else i)))=some m):wpAny (model prog G.w) A (PySem.call (.builtin "min") [v,w]) Q E W.s:=
 iZ hm hr fun x hx h=>Pv h hx fun i t Z e h=>iZ h hr2 fun y hy h=>Pv h hy fun j u Z e2 h=>e▸e2▸min_two_ints hh fun h' tk k=>C4.grow I (Ab h▸H) k (by by_cases q:j < i;rw[if_pos q,if_pos q];exact⟨_,rfl⟩;rw[if_neg q,if_neg q];exact⟨_,rfl⟩)
end
theorem kJ {f:Bq} {as:List RV} {m:MV} {vals:List Bq} (hh:A.handled=none) (I:B6 G W) (ha:Fy W as vals) (hm:Om W.σ f as=some m) (H:C4 G W (.v m) Q):wpAny (model prog G.w) A (PySem.call f vals) Q E W.s:=by
 cases as with
 | nil=>exact nn hm
 | cons a as=>
  obtain⟨v,r,e,hr,hn⟩:=ha
  rw[e]
  clear e
  cases as with
  | nil=>
   rw[show r=[] from hn]
   cases f with
   | builtin id=>exact Iq hm (fun e hm=>e▸bZ I hr hm H) fun hm=>Iq hm (fun e hm=>e▸ZO I hr H hm) fun hm=>Iq hm (fun e hm=>e▸eY I hr H hm) fun hm=>nn hm
   | type ty=>exact Iq hm (fun e hm=>e▸bO I hr H hm) fun hm=>Iq hm (fun e hm=>e▸iE I hr H hm) fun hm=>Iq hm (fun e hm=>e▸iX I hr H hm) fun hm=>Iq hm (fun e hm=>e▸ZY hh I hr H hm) fun hm=>nn hm
   | _=>exact nn hm
  | cons b as=>
   obtain⟨w,r2,e,hr2,hn⟩:=hn
   rw[e]
   clear e
   cases as with
   | nil=>
    rw[show r2=[] from hn]
    cases f with
    | builtin id=>exact(show id="min" from(Ca hm).1)▸cZ hh I hr H hr2 (Ca hm).2
    | _=>exact nn hm
   | cons _ _=>exact nn hm
end
theorem Yr (l:Addr) (items:Array Bq) (n:Nat) (b:Addr) (items2:Array Bq) (n2:Nat) (dd dd2:Option Addr) (sl sl2:Array (Option Bq)) (hc0:¬(!items.isEmpty&&Builtin.List.listTooLong (items.size+items2.size))=true) (hc1:items.size≤sizeLine) (hs2:items.size+items2.size≤sizeLine+1):
  Meets (Builtin.«list.extend» ⟨[.ref l,.ref b],[]⟩) (fun Z R s=>s.heap.get? l=some {cls:=.type "list",dict:=dd,data:=.seq items n,slots:=sl}∧s.heap.get? b=some {cls:=.type "list",dict:=dd2,data:=.seq items2 n2,slots:=sl2}∧R (.ok (.ret Bq.none)) {s with heap:=s.heap.update l (Obj.mapSeq fun x=>x++items2),toks:=s.toks}):=
 .of_wp fun prog w A R s h=>by
  obtain⟨hp,g,d,tk,os⟩:=s;obtain⟨hl,hb,h⟩:=h;have f1:=AutoSeq1.idx_int;have f2:=AutoSeq1.sub_tuple_tuple;have f3:=AutoSeq1.sub_list_list;have f4:=AutoSeq1.sub_tuple_list;have f5:=AutoSeq1.sub_list_tuple;
  have hz':(items++items2).size≤sizeLine+1:=by rw[Array.size_append];exact hs2
  wp_walk using (wpAny_updateSeq hl rfl (hz:=hc1) (_hz':=hz')),AutoSeq1.wpAny_loadPart' hl,AutoSeq1.wpAny_loadPart' hb;exact⟨_,rfl,h⟩
section
variable {G:Gx} {W:Wd} {A:Bm} {Q E:Bq→Bk→Prop}
theorem Go.put {m:List Addr} {r:Nat} {b d:Addr} {mo:MO} {c:D2} {o:Obj} {h:Heap} {t:Nat} (I:B6 G W) (hr:W.bs[r]?=some (b,d)) (k:C8 d W.s.heap h) (ha:h.get? d=some o) (hc:c.ok G.w o) (hsr:SR W.F mo (b,d) c):Go G m W (W.put r d mo c h t):=
 ⟨I.put hr k ha hc hsr,(Le.refl m W).put fun x e=>(I.sto r _ (Ar (I.len▸(Ah.mp hr).1))).elim fun ab y=>y.elim fun c0 y=>by
  obtain rfl:ab=(b,d):=Ab (y.1.symm.trans hr)
  exact Ab (y.2.1.symm.trans e)▸y.2.2.kd⟩
noncomputable def isM (n:Str) (l:List Str):Bool:=l.any fun m=>Cb n m
theorem TA (x n y:Str):J8 x n (.str y)=if Cb n "startswith" then some (.bool (K5 y.cps.toList x.cps.toList)) else if Cb n "split" then OD x y else if Cb n "index" then JU x y else none:=rfl
theorem TB (x n:Str) (l:List MV):J8 x n (.lis l)=if Cb n "join" then BZ x l else none:=rfl
theorem KY {x n:Str} {as:List RV} {vals:List Bq} {E':Bq→Bk→Prop} {W1:Wd} {C:Call} (I:B6 G W1) (ha:Fy W1 as vals) (hH:Br G [] W1 Cj Q E' (Gv C (.v (.str x)) n as W1.σ)) {P:Prop}
  (k:∀ y v m,as=[.v y]→vals=[v]→VR W1.F y v→J8 x n y=some m→C4 G W1 (.v m) Q→P):P:=by
 have hE:Br G [] W1 Cj Q E' (match J7 W1.σ (.v (.str x)) n as with | some (r,σ')=>.ok r σ' | none=>.no):=hH
 clear hH
 cases hb:J7 W1.σ (.v (.str x)) n as with
 | none=>rw[hb] at hE;exact hE.elim
 | some p=>
  rw[hb] at hE
  cases as with
  | nil=>exact nn hb
  | cons a as=>cases as with
   | cons _ _=>exact nn hb
   | nil=>
    exact Gm (show(wV a fun y=>(J8 x n y).map fun r=>(RV.v r,W1.σ))=some p from hb) fun y e1 h1=>Cw h1 fun m hm e2=>ha.elim fun v h=>h.elim fun rest h=>
     k y v m (by rw[e1]) (h.1.trans (congrArg _ h.2.2)) (e1▸h.2.1:Cj W1 (.v y) v) hm (by rw[←e2] at hE;exact hE)
theorem iG {x:Str} {t:Tok} {y m:MV} {v:Bq} (I:B6 G W) (hy:VR W.F y v) (hm:J8 x "startswith" y=some m) (H:C4 G W (.v m) Q):wpAny (model prog G.w) A (PySem.call (.builtin "str.startswith") [.str x t,v]) Q E W.s:=by
 cases y with
 | str y=>
  obtain⟨u,rfl⟩:=hy
  rw[TA,if_pos (by decide+kernel)] at hm
  obtain rfl:=Ab hm
  refine call_gives F.slot_str_startswith (typeIs_str _ _ _) F.entry_str_startswith (F.args_str_startswith_2 _ _) (gives_str_startswith x y t u) ?_
  have e:(decide (0+y.length≤x.length)&&Builtin.Str.subAt x y 0)=K5 y.cps.toList x.cps.toList:=by
   rw[K6,StrLaws.subAt_eq]
   have e1:y.length=y.cps.toList.length:=by simp [Str.length]
   have e2:x.length=x.cps.toList.length:=by simp [Str.length]
   rw[e1,e2,List.drop_zero,Bool.eq_iff_iff]
   simp only [Nat.zero_add,Bool.and_eq_true,decide_eq_true_eq,beq_iff_eq]
   refine⟨fun q=>q.2,fun q=>⟨?_,q⟩⟩
   have:=congrArg List.length q
   rw[Bg] at this
   omega
  rw[←e] at H
  exact C4.bool I H
 | lis l=>rw[TB,if_neg (by decide+kernel)] at hm;exact nn hm
 | _=>exact nn hm
theorem iF {x:Str} {t:Tok} {y m:MV} {v:Bq} (I:B6 G W) (hy:VR W.F y v) (hm:J8 x "split" y=some m) (H:C4 G W (.v m) Q):wpAny (model prog G.w) A (PySem.call (.builtin "str.split") [.str x t,v]) Q E W.s:=by
 cases y with
 | str y=>
  obtain⟨u,rfl⟩:=hy
  rw[TA,if_neg (by decide+kernel),if_pos (by decide+kernel)] at hm
  exact Ul hm fun c hc hm=>
   Vb hc▸Cw (Ca hm).2 fun Z hx e=>by
    have hz:x.length≤Cf:=Ln x▸(Ca hm).1
    rw[Sk] at e
    refine AE rfl (fun l tk h1=>?_) (D3 hz) (by rw[←Sk];exact D3 (Dq hx))
    rw[←h1] at e
    subst e
    exact C4.lis I H (Nf l)
 | lis l=>rw[TB,if_neg (by decide+kernel)] at hm;exact nn hm
 | _=>exact nn hm
theorem iC {x:Str} {t:Tok} {y m:MV} {v:Bq} (I:B6 G W) (hy:VR W.F y v) (hm:J8 x "index" y=some m) (H:C4 G W (.v m) Q):wpAny (model prog G.w) A (PySem.call (.builtin "str.index") [.str x t,v]) Q E W.s:=by
 cases y with
 | str y=>
  obtain⟨u,rfl⟩:=hy
  rw[TA,if_neg (by decide+kernel),if_neg (by decide+kernel),if_pos (by decide+kernel)] at hm
  exact Ul hm fun c hc hm=>Vb hc▸Cw hm fun i hi e=>(TW hi).elim fun r hr=>call_gives F.slot_str_index (typeIs_str _ _ _) F.entry_str_index (F.args_str_index_2 _ _) (gives_str_index x _ t u i r hr) (C4.int I (e▸H))
 | lis l=>rw[TB,if_neg (by decide+kernel)] at hm;exact nn hm
 | _=>exact nn hm
theorem iD {x:Str} {t:Tok} {y m:MV} {v:Bq} (I:B6 G W) (hy:VR W.F y v) (hm:J8 x "join" y=some m) (H:C4 G W (.v m) Q):wpAny (model prog G.w) A (PySem.call (.builtin "str.join") [.str x t,v]) Q E W.s:=by
 cases y with
 | str y=>rw[TA,if_neg (by decide+kernel),if_neg (by decide+kernel),if_neg (by decide+kernel)] at hm;exact nn hm
 | lis l=>
  rw[TB,if_pos (by decide+kernel)] at hm
  exact Hy (Ca hm).2 fun ss hs h2=>Cw h2 fun Z hz e=>by
   subst e
   obtain rfl:=Vb (Ca hm).1
   refine J6 I hy fun a vs e hl hv=>?_
   subst e
   rw[Nd hs] at hv
   obtain⟨ll,rfl,hll⟩:=Va hv
   refine SC.join hl hll ?_ fun t' k=>KD ss▸C4.str I H
   unfold JoinOk
   rw[StrLaws.joinTotal,←GD]
   show(!Builtin.Str.tooLong (Ci (Je ss)+_*0))=true
   have:Ci (Je ss)≤1048576:=Dq hz
   simp [Builtin.Str.tooLong,sizeLine]
   omega
 | _=>exact nn hm
theorem CD {r:Nat} {l ms:List MV} {a:Addr} {vs ws:List Bq} {h:Heap} {t:Nat} {x:RV×Bu} {o:Obj} {E':Bq→Bk→Prop} (I:B6 G W) (hab:W.bs[r]?=some (a,a)) (hv:Ds W.F l vs) (hw:Ds W.F ms ws) (hx:J2 W.σ r l ms=some x) (H:Br G [] W Cj Q E' (.ok x.1 x.2))
  (k:C8 a W.s.heap h) (ho:h.get? a=some o) (hc:D2.ok G.w (.seq true (vs++ws)) o):Q .none {W.s with heap:=h,toks:=t}:=by
 refine Cw hx fun Z Z e=>?_
 subst e
 exact H .none (W.put r a (.list (l++ms)) (.seq true (vs++ws)) h t) rfl (Go.put I hab k ho hc ⟨_,rfl,rfl,Ds.append hw hv⟩) rfl
theorem BK {r:Nat} {l ms:List MV} {a b:Addr} {vs ws:List Bq} {x:RV×Bu} {E':Bq→Bk→Prop} (I:B6 G W) (hab:W.bs[r]?=some (a,a)) (hs:W.S a=some (.seq true vs)) (hv:Ds W.F l vs) (hb:W.s.heap.IsList b ws.toArray) (hw:Ds W.F ms ws) (hx:J2 W.σ r l ms=some x) (H:Br G [] W Cj Q E' (.ok x.1 x.2)):
  wpAny (model prog G.w) A (PySem.call (.builtin "list.extend") [.ref a,.ref b]) Q E W.s:=by
 have hz:l.length+ms.length≤1048576:=Ai▸Cw hx fun Z hu Z=>Dq hu
 obtain⟨⟨cls,dd,data,sl⟩,hob,hcb,n2,hdb⟩:=hb
 obtain⟨⟨cls',dd',data',sl'⟩,ho,hc,⟨n1,hd⟩,hdn⟩:=I.sh a _ hs
 replace hdn:=hdn rfl
 simp only at hc hd hcb hdb hdn
 subst hc hd hcb hdb hdn
 have hfit:vs.toArray.size+ws.toArray.size≤sizeLine:=by rw[hv.size,hw.size];exact D3 hz
 have hnew:=Heap.get?_update_self (Obj.mapSeq fun x=>x++ws.toArray) ho (by rw[mapSeq_app];rfl)
 rw[mapSeq_app] at hnew
 exact call_meets PySem.F.slot_list_extend ⟨_,ho,rfl⟩ PySem.F.entry_list_extend (PySem.F.args_list_extend_2 _ _) (Yr a vs.toArray n1 b ws.toArray n2 none dd sl' sl (extend_door hfit) (by omega) (by omega)) ⟨ho,hob,
  CD I hab hv hw hx H (fun c o n e=>(Heap.get?_update_other _ _ (Ne.symm n)).trans e) hnew ⟨rfl,⟨_,by show Data.seq _ _=_;rw[List.append_toArray]⟩,fun Z=>rfl⟩⟩
end
noncomputable def C3 (K:Frag) (C:Addr) (n:Str):Bool:=match findIn K (.ref C) n with
 | some a=>noGet K a
 | none=>false
noncomputable def KU (K:Frag) (n:Str):Bool:=match Gw n with
 | some a=>findIn K (.ref B3) n==some (some (.ref a))&&typeIn K (.ref a)==some (.type "function")
 | none=>false
noncomputable def BD (K:Frag):Bool:=
 plainGet K B3 ""&&plainGet K C6 ""&&hasDictIn K B3&&hasDictIn K C6&&
 C3 K C6 "kind"&&C3 K C6 "worth"&&C3 K C6 "at"&&C3 K B3 "at"&&C3 K B3 "tokens"&&
 Fc.all (KU K)&&
 findIn K (.ref B3) "__setattr__"==some (some (.builtin "object.__setattr__"))&&plainOver K B3&&takerIn K B3 "at"==some none
theorem Mn {e:Bl} {a:Str} {t:Tok} (h:e.key= .str a t) (n:Str):e.key.isStr n=Cb a n:=by
 rw[h]
 show(a==n)=_
 rw[Bool.eq_iff_iff,beq_iff_eq,Ch]
theorem RC {P:B9} {y:Str} {d:List (Str×MV)}:∀ {kvs:List (Str×Bq)},Ni P d kvs→kvs.any (fun kv=>kv.1=y)=d.any fun p=>Cb p.1 y:=by
 induction d with
 | nil=>exact fun h=>(show _=[] from h)▸rfl
 | cons p r ih=>
  exact fun h=>h.elim fun v h=>h.elim fun es h=>by
   rw[h.1,List.any_cons,List.any_cons,ih h.2.2]
   exact congrArg (· ||_) (Bool.eq_iff_iff.mpr (decide_eq_true_iff.trans Ch.symm))
theorem RE {P:B9} {y:Str} {m:MV} {w:Bq} (hm:VR P m w) {d:List (Str×MV)}:∀ {kvs:List (Str×Bq)},Ni P d kvs→Ni P (d.map fun p=>if Cb p.1 y then(p.1,m) else p) (kvs.map fun kv=>if kv.1=y then(kv.1,w) else kv):=by
 induction d with
 | nil=>exact fun h=>(show _=[] from h)▸rfl
 | cons p r ih=>
  exact fun h=>h.elim fun v h=>h.elim fun es h=>by
   rw[h.1,List.map_cons,List.map_cons]
   by_cases hk:p.1=y
   · rw[if_pos (Ch.mpr hk),if_pos hk];exact⟨w,_,rfl,hm,ih h.2.2⟩
   · rw[if_neg fun q=>hk (Ch.mp q),if_neg hk];exact⟨v,_,rfl,h.2.1,ih h.2.2⟩
theorem BG {P:B9}:∀ {d:List (Str×MV)} {kvs:List (Str×Bq)},Ni P d kvs→kvs.length=d.length
 | [],_,h=>by rw[show _=[] from h];rfl
 | (k,x)::r,_,⟨v,es,e,hv,hr⟩=>by
  subst e
  simp [BG hr]
theorem sV {a b:Str} (h:Cb a b=false):¬ Cb a b=true:=fun q=>nomatch h.symm.trans q
section
variable {G:Gx} {W:Wd} {A:Bm} {E:Bq→Bk→Prop}
theorem JR {n x:Str} {t:Tok} {M:Model} {s:Bk} (h:(Cb n "startswith"||Cb n "split"||Cb n "index"||Cb n "join")=true) {P:Prop} (k:∀ id:String,(∀ {pl:Sem Bool} {Q:Bq×List Bq→Bk→Prop} {E:Bq→Bk→Prop},Q (.builtin id,[.str x t]) s→wpAny M A (getMethod (.str x t) n pl) Q E s)→(n="startswith"∧id="str.startswith"∨n="split"∧id="str.split"∨n="index"∧id="str.index"∨n="join"∧id="str.join")→P):P:=by
 rcases Bool.or_eq_true_iff.mp h with h | h
 ·
  rcases Bool.or_eq_true_iff.mp h with h | h
  ·
   rcases Bool.or_eq_true_iff.mp h with h | h
   · obtain rfl:=Ch.mp h;exact k _ (fun hq=>by with_reducible exact GM.startswith hq) (.inl ⟨rfl,rfl⟩)
   · obtain rfl:=Ch.mp h;exact k _ (fun hq=>by with_reducible exact GM.split hq) (.inr (.inl ⟨rfl,rfl⟩))
  · obtain rfl:=Ch.mp h;exact k _ (fun hq=>by with_reducible exact GM.index hq) (.inr (.inr (.inl ⟨rfl,rfl⟩)))
 · obtain rfl:=Ch.mp h;exact k _ (fun hq=>by with_reducible exact GM.join hq) (.inr (.inr (.inr ⟨rfl,rfl⟩)))
theorem CZ {Q:Unit→Bk→Prop} {r:Nat} {a:Addr} {l l':List Bq} {i:Int} {u:Tok} {v:Bq} {mo:MO} (I:B6 G W) (hab:W.bs[r]?=some (a,a)) (hs:W.S a=some (.seq false l)) (hi:0≤i∧i < 2^63∧i < l.length) (hl:(l.toArray.setIfInBounds i.toNat v)=l'.toArray) (hsr:SR W.F mo (a,a) (.seq false l')) (q:∀ W',W'.σ=W.σ.set r mo→Go G [] W W'→Q () W'.s):wpAny (model prog G.w) A (setItem (.ref a) (.int i u) v) Q E W.s:=
 wpAny_setItem_list (I.isList hs) hi.1 hi.2.1 hi.2.2 fun h' h1 hs=>h1.elim fun o x=>x.2.2.elim fun n e=>q (W.put r a mo (.seq false l') h' W.s.toks) rfl (Go.put I hab (fun b o n e=>(hs.2 b n).trans e) x.1 ⟨x.2.1,⟨n,hl▸e⟩,fun q=>nomatch q⟩ hsr)
theorem RF {Q:Unit→Bk→Prop} {r:Nat} {a:Addr} {d:List (Str×MV)} {kvs:List (Str×Bq)} {y:Str} {u:Tok} {v:Bq} {m:MV} (I:B6 G W) (hab:W.bs[r]?=some (a,a)) (hs:W.S a=some (.dic kvs)) (hd:Ni W.F d kvs) (hm:VR W.F m v) (hp:d.any (fun p=>Cb p.1 y)=true∧d.length≤16) (q:∀ W',W'.σ=W.σ.set r (.dict (d.map fun p=>if Cb p.1 y then(p.1,m) else p))→Go G [] W W'→Q () W'.s):wpAny (model prog G.w) A (setItem (.ref a) (.str y u) v) Q E W.s:=
 wpAny_setItem_pairs (strKind_is prog G.w _ _) (Heap.dictOf_iff.mpr (I.sh a _ hs)) (fun h' h1 hs=>by
  rw[show stored kvs y v=kvs.map _ from if_pos ((RC hd).trans hp.1)] at h1
  exact(Heap.dictOf_iff.mp h1).elim fun o' x=>q (W.put r a _ (.dic _) h' (W.s.toks+1)) rfl (Go.put I hab (fun b o n e=>(hs.2 b n).trans e) x.1 x.2 ⟨_,rfl,rfl,RE hm hd⟩)) (by rw[BG hd];exact Ad hp.2 (by decide))
theorem OA {Q:Unit→Bk→Prop} {o i a:RV} {ov iv v:Bq} {σ':Bu} (I:B6 G W) (ho:Cj W o ov) (hi:Cj W i iv) (ha:Cj W a v) (h:G1 W.σ o i a=some σ') (q:∀ W',W'.σ=σ'→Go G [] W W'→Q () W'.s):wpAny (model prog G.w) A (setItem ov iv v) Q E W.s:=by
 cases o with
 | loc r=>
  exact Gm h fun k e h=>Gm h fun m e2 h=>Ji h fun mo hmo h=>Cw h fun mo' h2 e3=>ho.elim fun ab x=>(I.sto r _ hmo).elim fun ab' y=>y.elim fun c z=>by
   rw[x.2]
   rw[e] at hi;rw[e2] at ha
   rw[←e3] at q
   clear h
   have eb:=Ab (z.1.symm.trans x.1)
   rw[eb] at z
   cases mo with
   | pen n k=>
    obtain⟨_,hs,t1,t2,ec,eq⟩:=z
    rw[ec,←eq] at hs
    have hab:W.bs[r]?=some (ab.1,ab.1):=x.1.trans (congrArg some (Prod.ext rfl eq.symm))
    exact Pv h2 hi fun i u e ei h3=>Ht h3 fun j e2 h4=>by
     rw[ei]
     obtain⟨u2,e2⟩:=(e2▸ha:Cj W (.v (.int j)) v)
     rw[e2]
     refine Iq h4 (fun e h5=>?_) fun h5=>?_
     ·
      rw[e]
      exact CZ (mo:=.pen j k) I hab hs (of_decide_eq_true rfl) rfl ⟨u2,t2,rfl,rfl⟩ (Ab h5▸q)
     ·
      rw[(Ca h5).1]
      exact CZ (mo:=.pen n j) I hab hs (of_decide_eq_true rfl) rfl ⟨t1,u2,rfl,rfl⟩ (Ab (Ca h5).2▸q)
   | dict d=>
    obtain⟨_,hs,kvs,ec,eq,hv⟩:=z
    rw[ec,←eq] at hs
    have hab:W.bs[r]?=some (ab.1,ab.1):=x.1.trans (congrArg some (Prod.ext rfl eq.symm))
    exact OR h2 hi fun y u e ei h3=>by
     rw[ei]
     exact RF I hab hs hv ha (Ca h3).1 (Ab (Ca h3).2▸q)
   | _=>exact nn h2
 | _=>exact nn h
structure Kf (G:Gx) (K:Frag):Prop where
 here:K.In G.hB
 cls:BD K=true
theorem Kf.at_ {K:Frag} (k:Kf G K) (I:B6 G W):K.In W.s.heap:=k.here.keeps I.stays
structure jE (K:Frag):Prop where
 rg:findIn K (.ref B3) "__getattribute__"=some (some (.builtin "object.__getattribute__"))
 rk:findIn K (.ref B3) "__getattr__"=some none
 tg:findIn K (.ref C6) "__getattribute__"=some (some (.builtin "object.__getattribute__"))
 rh:hasDictIn K B3=true
 th:hasDictIn K C6=true
 n1:C3 K C6 "kind"=true
 n2:C3 K C6 "worth"=true
 n3:C3 K C6 "at"=true
 n4:C3 K B3 "at"=true
 n5:C3 K B3 "tokens"=true
 ms:Fc.all (KU K)=true
 sa:findIn K (.ref B3) "__setattr__"=some (some (.builtin "object.__setattr__"))
 po:plainOver K B3=true
 tk:takerIn K B3 "at"=some none
theorem jE.of {K:Frag} (h:BD K=true):jE K:=
 have h1:=b2 h
 have h2:=b2 h1.1
 have h3:=b2 h2.1
 have h4:=b2 h3.1
 have h5:=b2 h4.1
 have h6:=b2 h5.1
 have h7:=b2 h6.1
 have h8:=b2 h7.1
 have h9:=b2 h8.1
 have h10:=b2 h9.1
 have h11:=b2 h10.1
 have h12:=b2 h11.1
 ⟨(plainGet_of h12.1).1,(plainGet_of h12.1).2,(plainGet_of h12.2).1,h11.2,h10.2,h9.2,h8.2,h7.2,h6.2,h5.2,h4.2,beq_iff_eq.mp h3.2,h2.2,beq_iff_eq.mp h1.2⟩
theorem Pp {K:Frag} {a C:Addr} {ox:Obj} {es:List Bl} {n:Nat} {name:Str} {v:Bq} {s:Bk} {Q:Bq→Bk→Prop} {ex:Bool}
  (X:K.In s.heap) (hg:findIn K (.ref C) "__getattribute__"=some (some (.builtin "object.__getattribute__"))) (hh:hasDictIn K C=true) (hn:C3 K C name=true)
  (I:InstAt s.heap a ox C (some (dictOf es n))) (hl:getL name es=some (some v)) (hv:handedIn v=true) (h:Q v {s with toks:=s.toks+1}):wpAny (model prog G.w) A (getAttr (.ref a) name ex) Q E s:=by
 have hn:(match findIn K (.ref C) name with | some a=>noGet K a | none=>false)=true:=hn
 cases q:findIn K (.ref C) name with
 | none=>rw[q] at hn;exact ff hn
 | some x=>rw[q] at hn;exact get_value X I hg (findObj_own hh q hn hl) hv h
structure qM where
 a:Addr
 d:Addr
 sl:Array (Option Bq)
 e1:Bl
 e2:Bl
 e3:Bl
 n:Nat
structure qL (W:Wd) (r:Nat) (ts:List MV) (i:Int) (v:Bq) (x:qM):Prop where
 v:v= .ref x.a
 b:W.bs[r]?=some (x.a,x.d)
 f:W.F x.a {cls:=.ref B3,dict:=some x.d,data:=.plain,slots:=x.sl}
 d:W.s.heap.get? x.d=some (dictOf [x.e1,x.e2,x.e3] x.n)
 k1:∃ u,x.e1.key= .str "tokens" u
 k2:∃ u,x.e2.key= .str "at" u
 k3:∃ u,x.e3.key= .str "named" u
 v1:VR W.F (.lis ts) x.e1.val
 v2:∃ u,x.e2.val= .int i u
 v3:∃ a,x.e3.val= .ref a
 i:InstAt W.s.heap x.a {cls:=.ref B3,dict:=some x.d,data:=.plain,slots:=x.sl} B3 (some (dictOf [x.e1,x.e2,x.e3] x.n))
theorem Qj {r:Nat} {ts:List MV} {i:Int} {v:Bq} (I:B6 G W) (hv:Cj W (.loc r) v) (h:W.σ[r]?=some (.rdr ts i)):∃ x,qL W r ts i v x:=by
 obtain⟨⟨a,d⟩,hab,hv⟩:=hv
 obtain⟨ab,c,hab',hs,t,v',n,rfl,⟨sl,hf⟩,h1,h2,h3⟩:=I.sto r _ h
 obtain rfl:ab=(a,d):=Ab (hab'.symm.trans hab)
 obtain⟨o,ho,e1,e2,e3,k,rfl,⟨q1,rfl⟩,⟨q2,rfl⟩,q3,rfl⟩:=I.sh d _ hs
 exact⟨⟨a,d,sl,e1,e2,e3,k⟩,hv,hab,hf,ho,q1,q2,q3,h1,h2,h3,⟨I.fh _ _ hf,rfl,rfl,ho⟩⟩
theorem Mj {n:Str} {es:List Bl} {e:Bl} (h:es.find? (·.key.isStr n)=some e):getL n es=some (some e.val):=by unfold getL;rw[h]
theorem Mi {e:Bl} {r:List Bl} {a:Str} (k:∃ t,e.key= .str a t):(e::r).find? (·.key.isStr a)=some e:=by obtain⟨t,k⟩:=k;rw[List.find?_cons,Mn k,Ch.mpr rfl]
theorem I5 {e:Bl} {r:List Bl} {a b:Str} {x:Option Bl} (k:∃ t,e.key= .str a t) (h:Cb a b=false) (hr:r.find? (·.key.isStr b)=x):(e::r).find? (·.key.isStr b)=x:=by obtain⟨t,k⟩:=k;rw[List.find?_cons,Mn k,h];exact hr
theorem QM {K:Frag} {Q:Bq→Bk→Prop} (k:Kf G K) {a:RV} {n:Str} {m:MV} {va:Bq} {ex:Bool} (I:B6 G W) (hr:Cj W a va) (h:Ol W.σ a n=some m) (H:C4 G W (.v m) Q):wpAny (model prog G.w) A (getAttr va n ex) Q E W.s:=by
 have c:=jE.of k.cls
 have X:=k.at_ I
 cases a with
 | v x=>cases x with
  | tok kd w i=>
   obtain⟨x,p⟩:=hr
   obtain⟨e1,e2,e3,e4,he,k1,k2,k3,k4,v1,v2,v3⟩:=p.e
   have J:InstAt W.s.heap x.a {cls:=.ref C6,dict:=some x.dx,data:=.plain,slots:=x.sl} C6 (some (dictOf [e1,e2,e3,e4] x.n)):=⟨I.fh _ _ p.o,rfl,rfl,he▸I.fh _ _ p.d⟩
   rw[p.v]
   have h:(if Cb n "kind" then some (MV.str kd) else if Cb n "worth" then some (.str w) else if Cb n "at" then some (.tup [.int i,.int 12]) else none)=some m:=h
   refine Iq h (fun hn h=>?_) fun h=>Iq h (fun hn h=>?_) fun h=>?_
   ·
    clear h
    obtain rfl:=Ch.mp hn;obtain rfl:=Ab h
    exact Pp X c.tg c.th c.n1 J (Mj (Mi k1)) (v1.elim fun t e=>e▸rfl) (C4.tok I H v1)
   ·
    clear h
    obtain rfl:=Ch.mp hn;obtain rfl:=Ab h
    exact Pp X c.tg c.th c.n2 J (Mj (I5 k1 (by decide+kernel) (Mi k2))) (v2.elim fun t e=>e▸rfl) (C4.tok I H v2)
   ·
    obtain⟨hn,h⟩:=Ca h
    clear h
    obtain rfl:=Ch.mp hn;obtain rfl:=Ab h
    exact Pp X c.tg c.th c.n3 J (Mj (I5 k1 (by decide+kernel) (I5 k2 (by decide+kernel) (Mi k3)))) (by obtain⟨b,o,q,e,_⟩:=p.u;rw[v3,e];rfl) (C4.tok I H (v3▸⟨_,p.u,_,_,rfl,⟨_,rfl⟩,_,_,rfl,⟨_,rfl⟩,rfl⟩))
  | _=>exact nn h
 | loc r=>
  refine Ji h fun o ho h=>?_
  cases o with
  | rdr ts i=>
   obtain⟨x,p⟩:=Qj I hr ho
   rw[p.v]
   have h:(if Cb n "at" then some (MV.int i) else if Cb n "tokens" then some (.lis ts) else none)=some m:=h
   refine Iq h (fun hn h=>?_) fun h=>?_
   ·
    clear ho h
    obtain rfl:=Ch.mp hn;obtain rfl:=Ab h
    exact Pp X c.rg c.rh c.n4 p.i (Mj (I5 p.k1 (by decide+kernel) (Mi p.k2))) (p.v2.elim fun t e=>e▸rfl) (C4.tok I H p.v2)
   ·
    obtain⟨hn,h⟩:=Ca h
    clear ho h
    obtain rfl:=Ch.mp hn;obtain rfl:=Ab h
    exact Pp X c.rg c.rh c.n5 p.i (Mj (Mi p.k1)) (by obtain⟨_,⟨b,o,q,e,_⟩,_⟩:=p.v1;rw[e];rfl) (C4.tok I H p.v1)
  | _=>exact nn h
 | un=>exact nn h
theorem UR:Fc.all (fun n=> !(Cb (Aa "tokens") n)&& !(Cb (Aa "at") n)&& !(Cb (Aa "named") n))=true:=by decide+kernel
theorem Sp {e1 e2 e3:Bl} {n:Nat} {name:Str} (k1:∃ u,e1.key= .str "tokens" u) (k2:∃ u,e2.key= .str "at" u) (k3:∃ u,e3.key= .str "named" u) (h1:Cb (Aa "tokens") name=false) (h2:Cb (Aa "at") name=false) (h3:Cb (Aa "named") name=false):shadowIn (some (dictOf [e1,e2,e3] n)) name=some false:=by
 unfold shadowIn
 dsimp only
 rw[lookIn_dict]
 unfold getL
 rw[I5 k1 h1 (I5 k2 h2 (I5 k3 h3 rfl))]
 obtain⟨_,k1⟩:=k1;obtain⟨_,k2⟩:=k2;obtain⟨_,k3⟩:=k3
 rw[if_neg]
 · rfl
 · simp [Bl.refKey,k1,k2,k3]
theorem NH {K:Frag} (k:Kf G K) {P:Prop} {r:Nat} {n:Str} {ts:List MV} {i:Int} {ov:Bq} (I:B6 G W) (hr:Cj W (.loc r) ov) (hl:W.σ[r]?=some (.rdr ts i)) (hm:(Fc.any fun m=>Cb m n)=true)
  (z:∀ fa,Gw n=some fa→(∀ {pl:Sem Bool} {Q:Bq×List Bq→Bk→Prop} {E:Bq→Bk→Prop},Q (.ref fa,[ov]) W.s→wpAny (model prog G.w) A (getMethod ov n pl) Q E W.s)→P):P:=by
 have c:=jE.of k.cls
 obtain⟨n',hn',e⟩:=List.any_eq_true.mp hm
 obtain rfl:=Ch.mp e
 have h1:(match Gw n' with | some a=>findIn K (.ref B3) n'==some (some (.ref a))&&typeIn K (.ref a)==some (.type "function") | none=>false)=true:=List.all_eq_true.mp c.ms _ hn'
 have h2:=b2 (List.all_eq_true.mp UR _ hn')
 have h3:=b2 h2.1
 cases hfa:Gw n' with
 | none=>rw[hfa] at h1;exact ff h1
 | some fa=>
  rw[hfa] at h1
  obtain⟨x,p⟩:=Qj I hr hl
  exact z fa hfa fun hq=>p.v▸method_fn (k.at_ I) p.i c.rg c.rk (beq_iff_eq.mp (b2 h1).1) (beq_iff_eq.mp (b2 h1).2) (Sp p.k1 p.k2 p.k3 (Hp h3.1) (Hp h3.2) (Hp h2.2)) (p.v▸hq)
theorem NZ {K:Frag} {Q:Unit→Bk→Prop} (k:Kf G K) {r:Nat} {ts:List MV} {i j:Int} {ov v:Bq} (I:B6 G W) (hr:Cj W (.loc r) ov) (hl:W.σ[r]?=some (.rdr ts i)) (hv:Cj W (.v (.int j)) v) (q:∀ W',W'.σ=W.σ.set r (.rdr ts j)→Go G [] W W'→Q () W'.s):wpAny (model prog G.w) A (setAttr ov "at" v) Q E W.s:=by
 have c:=jE.of k.cls
 have X:=k.at_ I
 obtain⟨u,rfl⟩:=hv
 obtain⟨x,p⟩:=Qj I hr hl
 rw[p.v]
 refine set_plain X p.i c.sa (osa_open (s:={W.s with toks:=W.s.toks+1}) X p.i c.po c.tk fun b=>?_)
 dsimp only
 obtain⟨cd,hc,hd'⟩:=any_some c.rh
 refine Bh (Bi (Bh (Bh (wpAny_loadPart (I.fh _ _ p.f) (Bh (Looks.here (s:={W.s with toks:=W.s.toks+1}) (looks_clsIn X hc) ?_))))))
 rw[hd']
 refine Bi (a:=some x.d) (Bh (Bi (Bh ?_)))
 unfold nsSet
 refine Bh (Bh (wpAny_askSetting (Bi (Bh (wpAny_mkText (Bh (wpAny_loadPart p.d ?_)))))))
 obtain⟨u1,k1⟩:=id p.k1
 obtain⟨u2,k2⟩:=id p.k2
 have ka:([x.e1,x.e2,x.e3].toArray).any (·.key.isStr (Aa "at"))=true:=by
  rw[←Array.any_toList,List.any_eq_true]
  exact⟨x.e2,by simp,by rw[Mn k2];exact Ch.mpr rfl⟩
 dsimp only
 rw[aRefKeyMayBeTheName_at,ka]
 refine wpAny_updatePart p.d ?_
 have hput:=putName_dict "at" (PyData.keyHash G.w.params "at") (.str "at" (W.s.toks+1)) (.int j u) [x.e1,x.e2,x.e3] x.n
 have hL:putL "at" (PyData.keyHash G.w.params "at") (.str "at" (W.s.toks+1)) (.int j u) [x.e1,x.e2,x.e3]=[x.e1,⟨x.e2.hash,x.e2.key,.int j u⟩,x.e3]:=by
  unfold putL
  rw[Mn k1,show Cb (Aa "tokens") (Aa "at")=false by decide+kernel]
  unfold putL
  rw[Mn k2,Ch.mpr rfl]
  rfl
 rw[hL] at hput
 have D':=Heap.get?_update_self (Obj.putName "at" (PyData.keyHash G.w.params "at") (.str "at" (W.s.toks+1)) (.int j u)) p.d (by rw[hput];rfl)
 rw[hput] at D'
 refine Bh (wpAny_lookBehind D' (pastItsLine_dict (by rw[List.size_toArray,sizeLine_eq];exact of_decide_eq_true rfl)) (Bi ?_))
 exact q (W.put r x.d (.rdr ts j) (.rdr x.e1.val (.int j u) x.e3.val) _ (W.s.toks+2)) rfl (Go.put I p.b (fun b o n e=>(Heap.get?_update_other _ _ (Ne.symm n)).trans e) D' ⟨x.e1,_,x.e3,_,rfl,⟨p.k1,rfl⟩,⟨p.k2,rfl⟩,p.k3,rfl⟩ ⟨_,_,_,rfl,⟨x.sl,p.f⟩,p.v1,⟨u,rfl⟩,p.v3⟩)
theorem wO_at {α:Type} {σ:Bu} {r:Nat} {o:MO} {f:MO→Option α} (e:σ[r]?=some o):wO σ r f=f o:=by unfold wO;rw[e]
noncomputable def AQ (G:Gx) (A:Bm) (fr:List Env) (C:Call) (W:Wd) (o:RV) (n:Str) (ov:Bq):Prop:=
  ∃ fv first,(∀ {pl:Sem Bool} {Q:Bq×List Bq→Bk→Prop} {E:Bq→Bk→Prop},Q (fv,first) W.s→wpAny (model prog G.w) A (getMethod ov n pl) Q E W.s)∧
   ∀ {as:List RV} {vals:List Bq} {W1:Wd} {Q E:Bq→Bk→Prop},Eu fr W1→Go G [] W W1→Fy W1 as vals→Br G [] W1 Cj Q E (Gv C o n as W1.σ)→Ik G W1 fv∧wpAny (model prog G.w) A (PySem.call fv (first++vals)) Q E W1.s
theorem OS {fr:List Env} {C:Call} {x n:Str} {ov:Bq} (hr:Cj W (.v (.str x)) ov) (hM:(Cb n "startswith"||Cb n "split"||Cb n "index"||Cb n "join")=true):AQ G A fr C W (.v (.str x)) n ov:=
 hr.elim fun t e=>e▸JR (A:=A) hM fun id hg hid=>⟨_,_,fun hq=>hg hq,fun hf g ha H=>⟨G8,KY g.inv ha H fun y v m e1 e2 hy hm H2=>by
  clear hg H hM ha
  rw[e2]
  rcases hid with⟨e,e'⟩ | ⟨e,e'⟩ | ⟨e,e'⟩ | ⟨e,e'⟩
  · rw[e'] at *;exact iG g.inv hy (e▸hm) H2
  · rw[e'] at *;exact iF g.inv hy (e▸hm) H2
  · rw[e'] at *;exact iC g.inv hy (e▸hm) H2
  · rw[e'] at *;exact iD g.inv hy (e▸hm) H2⟩⟩
theorem Go.still {r:Nat} {ab:Addr×Addr} {W1:Wd} {P:Prop} (g:Go G [] W W1) (hab:W.bs[r]?=some ab) (z:∀ mo c,W1.σ[r]?=some mo→W1.bs[r]?=some ab→W1.S ab.2=some c→SR W1.F mo ab c→P):P:=by
 obtain⟨q,hq⟩:=g.le.bs
 have hb:W1.bs[r]?=some ab:=hq▸(A5 (Ah.mp hab).1).trans hab
 have hlt:r < W1.σ.length:=g.inv.len▸(Ah.mp hb).1
 obtain⟨ab2,c,h1,h2,h3⟩:=g.inv.sto r _ (Ar hlt)
 have e:ab2=ab:=Ab (h1.symm.trans hb)
 exact z _ c (Ar hlt) hb (e▸h2) (e▸h3)
noncomputable def UI (o:Option (RV×Bu)):B1 RV:=match o with
 | some (r,σ')=>.ok r σ'
 | none=>.no
theorem UJ {P:Prop} {o:Option (RV×Bu)} {Q E:Bq→Bk→Prop} (H:Br G [] W Cj Q E (UI o)) (k:∀ x,o=some x→Br G [] W Cj Q E (.ok x.1 x.2)→P):P:=by
 cases o with
 | some x=>exact k x rfl H
 | none=>exact H.elim
noncomputable def mAt (C:Call) (σ:Bu) (r:Nat) (n:Str) (as:List RV) (o:MO):B1 RV:=match o with
 | .rdr _ _=>C (.str n) (.loc r::as) σ
 | _=>UI (J7 σ (.loc r) n as)
theorem Wz {C:Call} {σ:Bu} {r:Nat} {n:Str} {as:List RV} {o:MO} (e:σ[r]?=some o):Gv C (.loc r) n as σ=mAt C σ r n as o:=by
 show(match σ[r]? with | some (.rdr _ _)=>C (.str n) (.loc r::as) σ | _=>UI (J7 σ (.loc r) n as))=_
 rw[e]
 cases o<;>rfl
theorem aT {P:Prop} {σ:Bu} {r q:Nat} {l:List MV} {p:RV×Bu} (h:JB σ r l (.loc q)=some p) (k:∀ m,σ[q]?=some (.list m)→J2 σ r l m=some p→P):P:=
 Iq (show(if q=r then none else _)=some p from h) (fun Z h=>nn h) fun h=>Ji (show wO σ q _=some p from h) fun o ho h=>by
 cases o with
 | list l=>exact k l ho h
 | _=>exact nn h
section
variable {C:Call} {r:Nat} {a:Addr} {l:List MV} {vs:List Bq} {x:RV} {v:Bq} {Q E:Bq→Bk→Prop} (I:B6 G W) (hab:W.bs[r]?=some (a,a)) (hs:W.S a=some (.seq true vs)) (hv:Ds W.F l vs) (hx:Cj W x v)
include I hab hs hv hx
theorem HF {p:RV×Bu} (hp:(wV x fun m=>J2 W.σ r l [m])=some p) (K:Br G [] W Cj Q E (.ok p.1 p.2)):wpAny (model prog G.w) A (PySem.call (.builtin "list.append") [.ref a,v]) Q E W.s:=
 Gm hp fun m e hp=>by
  have hw:Ds W.F [m] [v]:=⟨v,[],rfl,(e▸hx:Cj W (.v m) v),rfl⟩
  obtain⟨o1,ho1,hc1,⟨n1,hd1⟩,hdn1⟩:=I.sh a _ hs
  have hz:(l++[m]).length≤Cf:=Cw hp fun Z hu Z=>Dq hu
  refine list_append_plainL (its:=vs.toArray) ⟨o1,n1,ho1,hc1,hdn1 rfl,hd1⟩ (fun h' h1 h2=>?_) (by rw[hv.size];exact Ad (Ad (by rw[Ai];exact A4 ..) hz) (by decide))
  obtain⟨o',n',ho',hc',hdn',hd'⟩:=h1
  exact CD I hab hv hw hp K (fun b o n e=>(h2.2 b n).trans e) ho' ⟨hc',⟨n',by rw[hd',List.push_toArray]⟩,fun Z=>hdn'⟩
theorem JC {p:RV×Bu} (hp:JB W.σ r l x=some p) (K:Br G [] W Cj Q E (.ok p.1 p.2)):wpAny (model prog G.w) A (PySem.call (.builtin "list.extend") [.ref a,v]) Q E W.s:=by
 cases x with
 | v m=>exact EF (show wL m (J2 W.σ r l)=some p from hp) fun ms e hp=>J6 I (v:=v) (e▸hx) fun b us e hb hu=>by rw[e];exact BK I hab hs hv hb hu hp K
 | loc q=>
  refine aT hp fun ms ho hp=>I.list hx ho fun b us e Z hs2 hu=>e▸BK I hab hs hv (I.isList hs2) hu hp K
 | un=>exact nn hp
end
theorem cI {C:Call} {σ:Bu} {r:Nat} {n:Str} {as:List RV} {mo:MO}:(∃ ts i,mo= .rdr ts i)∨mAt C σ r n as mo=UI (J7 σ (.loc r) n as):=by
 cases mo with
 | rdr a b=>exact .inl ⟨_,_,rfl⟩
 | _=>exact .inr rfl
theorem TD {P:Prop} {σ:Bu} {r:Nat} {n:Str} {as:List RV} {p:RV×Bu} (h:J7 σ (.loc r) n as=some p) (k:∀ x l,as=[x]→σ[r]?=some (.list l)→(if Cb n "append" then wV x fun m=>J2 σ r l [m] else if Cb n "extend" then JB σ r l x else none)=some p→P):P:=by
 cases as with
 | nil=>exact nn h
 | cons x as=>cases as with
  | nil=>
   refine Ji (show wO σ r _=some p from h) fun o ho h=>?_
   cases o with
   | list l=>exact k x l rfl ho h
   | _=>exact nn h
  | cons _ _=>exact nn h
theorem Wy {C:Call} {n:Str} {id:String} {r:Nat} {a:Addr} {W1:Wd} {as:List RV} {vals:List Bq} {Q E:Bq→Bk→Prop} (hid:n="append"∧id="list.append"∨n="extend"∧id="list.extend") (hab:W.bs[r]?=some (a,a)) (g:Go G [] W W1) (ha:Fy W1 as vals)
  (H:Br G [] W1 Cj Q E (Gv C (.loc r) n as W1.σ)):Ik G W1 (.builtin id)∧wpAny (model prog G.w) A (PySem.call (.builtin id) ([.ref a]++vals)) Q E W1.s:=
 ⟨G8,g.still hab fun mo c hmo hb hs hsr=>by
  rw[Wz hmo] at H
  rcases cI (C:=C) (σ:=W1.σ) (r:=r) (n:=n) (as:=as) (mo:=mo) with⟨ts,i,e⟩ | e
  ·
   rw[e] at hsr
   obtain⟨_,_,_,_,⟨_,hf⟩,_⟩:=hsr;exact nn ((g.inv.fs _ _ hf).symm.trans hs)
  ·
   rw[e] at H
   exact UJ H fun p hp K=>TD hp fun x l ea ho hp=>by
    rw[Ab (hmo.symm.trans ho)] at hsr
    rw[ea] at ha
    obtain⟨ws,ec,_,hw⟩:=hsr
    obtain⟨v,rest,e,hx,hn⟩:=ha
    rw[ec] at hs
    rw[e,show rest=[] from hn]
    rcases hid with⟨e1,e2⟩ | ⟨e1,e2⟩
    ·
     rw[e2];rw[e1] at hp
     exact HF g.inv hb hs hw hx hp K
    ·
     rw[e2];rw[e1] at hp
     exact JC g.inv hb hs hw hx hp K⟩
theorem KQ {fr:List Env} {C:Call} {r:Nat} {l:List MV} {n:Str} {ov:Bq} (I:B6 G W) (hr:Cj W (.loc r) ov) (hmo:W.σ[r]?=some (.list l)) (hM:(Cb n "append"||Cb n "extend")=true):AQ G A fr C W (.loc r) n ov:=
 I.list hr hmo fun a vs e hab hs hv=>(I.sh a _ hs).elim fun o q=>
  have nd:∀ b,Bq.ref a= .ref b→∃ o,W.s.heap.get? b=some o∧o.dict=none:=fun b e=>Bq.ref.inj e▸⟨o,q.1,q.2.2.2 rfl⟩
  have hT:W.s.TypeIs (.ref a) "list":=⟨o,q.1,q.2.1⟩
  e▸(Bool.or_eq_true_iff.mp hM).elim (fun h=>Ch.mp h▸⟨_,[.ref a],fun hq=>getMethod_builtin hT F.plainAttrs_list F.slot_list_append F.type_list_append nd hq,fun Z g ha H=>Wy (.inl ⟨rfl,rfl⟩) hab g ha H⟩)
   fun h=>Ch.mp h▸⟨_,[.ref a],fun hq=>getMethod_builtin hT F.plainAttrs_list F.slot_list_extend F.type_list_extend nd hq,fun Z g ha H=>Wy (.inr ⟨rfl,rfl⟩) hab g ha H⟩
theorem NC {K:Frag} (k:Kf G K) {C:Call} {N:Nat} {fr:List Env} (CO:F3 G C N) (hC:Db N A fr) {r:Nat} {ts:List MV} {i:Int} {n:Str} {ov:Bq} (I:B6 G W) (hr:Cj W (.loc r) ov) (hmo:W.σ[r]?=some (.rdr ts i)) (hM:(Fc.any fun m=>Cb m n)=true):AQ G A fr C W (.loc r) n ov:=
 (Qj I hr hmo).elim fun x p=>NH k I hr hmo hM fun fa hfa hg=>⟨.ref fa,[ov],fun hq=>hg hq,fun {as vals W1 Q E} hf g ha H=>g.still p.b fun mo c hmo1 hab hs hsr=>by
  have no (e:x.a=x.d):False:=nn ((g.inv.fs _ _ (g.le.F _ _ p.f)).symm.trans (show W1.S x.a=some c by rw[e];exact hs))
  rw[Wz hmo1] at H
  cases mo with
  | rdr _ _=>exact CO (f:=.str n) hC hf g.inv (show Fy W1 (.loc r::as) (ov::vals) from⟨_,_,rfl,g.v hr,ha⟩) ⟨fa,hfa,rfl⟩ H
  | list l=>exact(no (hsr.elim fun vs h=>h.2.1)).elim
  | pen _ _=>exact(no (hsr.elim fun t h=>h.elim fun u h=>h.2)).elim
  | dict _=>exact(no (hsr.elim fun vs h=>h.2.1)).elim⟩
theorem TF {K:Frag} (k:Kf G K) {C:Call} {N:Nat} {fr:List Env} (CO:F3 G C N) (hC:Db N A fr) {o:RV} {n:Str} {ov:Bq} (I:B6 G W) (hr:Cj W o ov) (hM:Ml W.σ o n=true):
  ∃ fv first,(∀ {pl:Sem Bool} {Q:Bq×List Bq→Bk→Prop} {E:Bq→Bk→Prop},Q (fv,first) W.s→wpAny (model prog G.w) A (getMethod ov n pl) Q E W.s)∧
   ∀ {as:List RV} {vals:List Bq} {W1:Wd} {Q E:Bq→Bk→Prop},Eu fr W1→Go G [] W W1→Fy W1 as vals→Br G [] W1 Cj Q E (Gv C o n as W1.σ)→Ik G W1 fv∧wpAny (model prog G.w) A (PySem.call fv (first++vals)) Q E W1.s:=by
 show AQ G A fr C W o n ov
 cases o with
 | v x=>cases x with
  | str x=>exact OS hr hM
  | _=>exact ff hM
 | loc r=>
  have hM:(match W.σ[r]? with | some (.list _)=>Cb n "append"||Cb n "extend" | some (.rdr _ _)=>Fc.any fun m=>Cb m n | _=>false)=true:=hM
  cases hmo:W.σ[r]? with
  | none=>rw[hmo] at hM;exact ff hM
  | some mo=>
   rw[hmo] at hM
   cases mo with
   | rdr ts i=>exact NC k CO hC I hr hmo hM
   | list l=>exact KQ I hr hmo hM
   | _=>exact ff hM
 | un=>exact ff hM
end
theorem KN {a:Str}:∀ {A:List Str} {V:List Bq},a∉A→(A.zip V).lookup a=none
 | _::_,_::_,h=>Cv.trans ((if_neg fun(e:a=_)=>h (e▸ .head _)).trans (KN fun q=>h (.tail _ q)))
 | _::_,[],_=>rfl
 | [],_,_=>rfl
theorem Lc {a:Str}:∀ {s t:List (Str×Bq)},s.lookup a=none→(s++t).lookup a=t.lookup a
 | [],_,_=>rfl
 | (k,v)::s,t,h=>if e:a=k then nn ((Cv.trans (if_pos e)).symm.trans h).symm else Cv.trans ((if_neg e).trans (Lc ((Cv.trans (if_neg e)).symm.trans h)))
noncomputable abbrev I0 (s:List (Str×Bq)) (x:Str×Bq):List (Str×Bq):=if(s.lookup x.1).isNone=true then s++[(x.1,x.2)] else s
theorem RT (f:Str×Bq→List (Str×Bq)→Sem (ForInStep (List (Str×Bq)))) (hf:∀ x s,f x s=if(List.lookup x.1 s).isNone=true then pure (.yield (s++[(x.1,x.2)])) else pure (.yield s)) (l:List (Str×Bq)):
  ∀(s:List (Str×Bq)),(forIn l s f:Sem _)=pure (l.foldl I0 s):=by
 induction l with
 | nil=>exact fun s=>rfl
 | cons x l ih=>
  intro s
  rw[List.forIn_cons,hf,List.foldl_cons]
  unfold I0
  by_cases h:(List.lookup x.1 s).isNone=true
  · rw[if_pos h,if_pos h];exact ih _
  · rw[if_neg h,if_neg h];exact ih _
theorem WK {p:Str×Bq} {A:List Str} {V:List Bq} (h:p∈A.zip V):p.1∈A:=(List.of_mem_zip (a:=p.1) (b:=p.2) h).1
theorem JI (l:List (Str×Bq)):∀ s:List (Str×Bq),(l.map (·.1)).Nodup→(∀ p∈l,s.lookup p.1=none)→l.foldl I0 s=s++l:=by
 induction l with
 | nil=>exact fun s Z Z=>(Aj s).symm
 | cons x l ih=>
  intro s hn h
  have hn:=List.nodup_cons.mp hn
  have e:I0 s x=s++[x]:=if_pos (by rw[h x (.head _)];rfl)
  exact(congrArg (l.foldl I0) e).trans ((ih _ hn.2 fun p hp=>(Lc (h p (.tail _ hp))).trans (Cv.trans (if_neg fun q=>hn.1 (Bc.mpr ⟨p,hp,q⟩)))).trans (Ak s [x] l))
theorem K3 {v d x:Nat} (h1:v≤x) (h2:x≤v+d):v+(d - (v+d - x))=x:=by
 obtain⟨k,rfl⟩:=Nat.le.dest h1
 rw[Nat.add_sub_add_left,Nat.sub_sub_self (Nat.le_of_add_le_add_left h2)]
theorem Wh {α β:Type} {f g:α→Option β} {l:List α} (h:∀ a∈l,f a=g a):l.filterMap f=l.filterMap g:=by
 induction l with
 | nil=>rfl
 | cons a l ih=>rw[List.filterMap_cons,List.filterMap_cons,h a (.head _),ih fun b hb=>h b (.tail _ hb)]
theorem Ro (xs:List Str):∀(W:List Bq),xs.Nodup→xs.length=W.length→xs.filterMap (fun n=>Option.map (fun x=>(n,x)) ((xs.zip W).lookup n))=xs.zip W:=by
 induction xs with
 | nil=>exact fun Z Z Z=>rfl
 | cons x xs ih=>
  intro W hn hl
  cases W with
  | nil=>exact nomatch hl
  | cons w W=>
   have hn:=List.nodup_cons.mp hn
   rw[List.zip_cons_cons,List.filterMap_cons,Cv,if_pos rfl]
   exact congrArg _ ((Wh fun y hy=>congrArg _ (Cv.trans (if_neg fun(e:y=x)=>hn.1 (e▸hy)))).trans (ih W hn.2 (Nat.succ.inj hl)))
theorem M0:∀(vals:List Bq) {xs:List Str} {ds:List Bq} {s:List (Str×Bq)},xs.Nodup→(∀ x∈xs,s.lookup x=none)→vals.length≤xs.length→xs.length≤vals.length+ds.length→ds.length≤xs.length→
  ((xs.drop (xs.length - ds.length)).zip ds).foldl I0 (s++xs.zip vals)=s++xs.zip (vals++ds.drop (vals.length+ds.length - xs.length))∧∀ x∈xs.take (xs.length - ds.length),((s++xs.zip vals).lookup x).isSome=true
 | [],xs,ds,s,hn,hs,_,h2,h3=>by
  have e:ds.length=xs.length:=Nat.le_antisymm h3 ((Nat.zero_add ds.length)▸h2)
  rw[e,Nat.sub_self,List.length_nil,Nat.zero_add,Nat.sub_self,List.zip_nil_right,Aj]
  refine⟨?_,fun Z h=>nomatch h⟩
  refine JI _ _ ?_ fun p hp=>hs _ (WK hp)
  rw[show xs.drop 0=xs from rfl,List.map_fst_zip (Au e.symm)];exact hn
 | v::vals,x::xs,ds,s,hn,hs,h1,h2,h3=>by
  have hn:=List.nodup_cons.mp hn
  have h1:=Nat.le_of_succ_le_succ h1
  have hs':∀ y∈xs,(s++[(x,v)]).lookup y=none:=fun y hy=>(Lc (hs y (.tail _ hy))).trans (Cv.trans (if_neg fun(e:y=x)=>hn.1 (e▸hy)))
  have hx:(s++(x,v)::xs.zip vals).lookup x=some v:=(Lc (hs x (.head _))).trans (Cv.trans (if_pos rfl))
  have ap:∀ l,(s++[(x,v)])++l=s++(x,v)::l:=fun l=>Ak s [(x,v)] l
  show((List.drop (xs.length+1 - ds.length) (x::xs)).zip ds).foldl I0 (s++(x,v)::xs.zip vals)=s++(x,v)::xs.zip (vals++ds.drop (vals.length+1+ds.length - (xs.length+1)))∧∀ y∈List.take (xs.length+1 - ds.length) (x::xs),((s++(x,v)::xs.zip vals).lookup y).isSome=true
  rw[Nat.add_right_comm vals.length 1,Nat.add_sub_add_right,←ap (xs.zip vals),←ap (xs.zip (vals++ds.drop (vals.length+ds.length - xs.length)))]
  by_cases q:ds.length≤xs.length
  ·
   have i:=M0 vals hn.2 hs' h1 (Nat.le_of_succ_le_succ (Ad h2 (Au (Nat.add_right_comm vals.length 1 _)))) q
   rw[Nat.succ_sub q,List.drop_succ_cons,List.take_succ_cons]
   exact⟨i.1,fun y hy=>(Ag.mp hy).elim (fun(e:y=x)=>by rw[e,ap,hx];rfl) (i.2 y)⟩
  ·
   have e:ds.length=xs.length+1:=Nat.le_antisymm h3 (Nat.lt_of_not_le q)
   cases ds with
   | nil=>exact nomatch e
   | cons d ds=>
    have e:=Nat.succ.inj e
    have i:=M0 (ds:=ds) vals hn.2 hs' h1 (e▸Nat.le_add_left ..) (Au e)
    rw[e,Nat.sub_self,Nat.add_sub_cancel] at i
    rw[Bf,e,Nat.sub_self,show vals.length+(xs.length+1) - xs.length=vals.length+1 by rw[←Nat.add_assoc,Nat.add_right_comm,Nat.add_sub_cancel]]
    refine⟨Eq.trans (b:=(xs.zip ds).foldl I0 ((s++[(x,v)])++xs.zip vals)) ?_ (i.1.trans (by rw[List.drop_succ_cons])),fun Z h=>nomatch h⟩
    exact congrArg ((xs.zip ds).foldl I0) (if_neg (by rw[show List.lookup x ((s++[(x,v)])++xs.zip vals)=some v from(ap _).symm▸hx];exact fun q=>nomatch q))
 | _::_,[],_,_,_,_,h1,_,_=>nomatch h1
noncomputable def ZC (h:Heap) (v:Bq) (ds:List Bq):Prop:=(v= .none∧ds=[])∨∃ T o n,v= .ref T∧h.get? T=some o∧o.data= .seq ds.toArray n
theorem HG {l:List Arg} {a:Arguments} (h1:a.posonlyargs=[]) (h2:a.kwonlyargs=[]) (h3:a.vararg=none) (h4:a.kwarg=none) (h5:a.args=l):a=⟨[],l,none,[],a.kw_defaults,none,a.defaults⟩:=by
 cases a with
 | mk p as v ko kd kw df=>rw[show p=[] from h1,show as=l from h5,show v=none from h3,show ko=[] from h2,show kw=none from h4]
theorem AV {fd:FuncData} {xs:List Str} {vals ds:List Bq} {M:Model} {A:Bm} {E:Bq→Bk→Prop} {s:Bk} {Q:List (Str×Bq)→Bk→Prop}
  (p1:fd.params.posonlyargs=[]) (p2:fd.params.kwonlyargs=[]) (p3:fd.params.vararg=none) (p4:fd.params.kwarg=none) (hx:fd.params.args.map (·.arg)=xs) (hn:xs.Nodup)
  (hs:ZC s.heap fd.defaults ds) (h1:vals.length≤xs.length) (h2:xs.length≤vals.length+ds.length) (h3:ds.length≤xs.length) (h:Q (xs.zip (vals++ds.drop (vals.length+ds.length - xs.length))) s):
  wpAny M A (bindArgs fd ⟨vals,[]⟩) Q E s:=by
 have main:∀ r:Option (Array Bq),(r.getD #[]).toList=ds→wpAny M A (seqItems? fd.defaults) (fun r' s'=>r'=r∧s'=s) E s→wpAny M A (bindArgs fd ⟨vals,[]⟩) Q E s:=by
  intro r hr hw
  have g:=M0 vals (s:=[]) hn (fun Z Z=>rfl) h1 h2 h3
  unfold bindArgs
  rw[HG p1 p2 p3 p4 rfl]
  dsimp only [List.map_nil,List.nil_append]
  rw[hx]
  refine Bh (Bi ?_)
  refine Bh (wpAny_mono hw (fun r' s' q=>?_) fun Z Z q=>q)
  obtain⟨rfl,rfl⟩:=q
  refine wpAny_ite_false (decide_eq_false fun q=>Nat.not_lt.mpr h1 (of_decide_eq_true (b2 q).1)) ?_
  have hd:List.drop ((r'.getD #[]).toList.length - xs.length) (r'.getD #[]).toList=ds:=by rw[hr,Nat.sub_eq_zero_of_le h3];rfl
  have hm:List.filter (fun n=>(List.lookup n (xs.zip vals)).isNone) (List.take (xs.length - ds.length) xs)=[]:=List.filter_eq_nil_iff.mpr fun a ha q=>nomatch (Option.isNone_iff_eq_none.mp q▸g.2 a ha:(none:Option Bq).isSome=true)
  refine wpAny_ite_false (decide_eq_false fun q=>?_) ?_
  ·
   have q:(!(List.filter (fun n=>(List.lookup n (xs.zip vals)).isNone) (List.take (xs.length - (List.drop ((r'.getD #[]).toList.length - xs.length) (r'.getD #[]).toList).length) xs)).isEmpty)=true:=q
   rw[hd,hm] at q
   exact nomatch q
  refine Bh ?_
  rw[RT _ (fun x s=>rfl)]
  refine Bi (Bh (Bi (wpAny_ite_false (decide_eq_false fun q=>nomatch q) (Bi ?_))))
  show Q ((xs++[]).filterMap fun n=>Option.map (fun x=>(n,x)) (List.lookup n (List.foldl I0 (xs.zip vals) ((List.drop (xs.length - (List.drop ((r'.getD #[]).toList.length - xs.length) (r'.getD #[]).toList).length) xs).zip (List.drop ((r'.getD #[]).toList.length - xs.length) (r'.getD #[]).toList))))) s'
  rw[hd,show List.foldl I0 (xs.zip vals) ((List.drop (xs.length - ds.length) xs).zip ds)=xs.zip (vals++List.drop (vals.length+ds.length - xs.length) ds) from g.1,Aj,Ro _ _ hn ?_]
  · exact h
  · rw[Ai,List.length_drop];exact(K3 h1 h2).symm
 rcases hs with⟨e,rfl⟩ | ⟨T,o,n,e,ho,hd⟩
 ·
  refine main none rfl ?_
  rw[e]
  exact Bh (Bi (Bi ⟨rfl,rfl⟩))
 ·
  refine main (some ds.toArray) (by simp) ?_
  rw[e]
  exact wpAny_seqItems ho hd ⟨rfl,rfl⟩
theorem Vo {n:Nat} {y:Str} {k:NameKind} {r:List (Str×NameKind)} {acc:List (Str×Addr)}:cellsFrom n ((y,k)::r) acc=if(k== .cell)=true then cellsFrom (n+1) r ((y,n)::acc) else cellsFrom n r acc:=rfl
theorem J3 (names:List (Str×NameKind)):∀(n:Nat) (acc:List (Str×Addr)) (x:Str),((acc.lookup x).isSome=true∨names.lookup x=some .cell)→((cellsFrom n names acc).lookup x).isSome=true:=by
 induction names with
 | nil=>exact fun n acc x h=>h.elim id fun h=>nomatch h
 | cons p r ih=>
  intro n acc x h
  obtain⟨y,kind⟩:=p
  rw[Vo]
  by_cases hk:(kind==NameKind.cell)=true
  ·
   rw[if_pos hk]
   refine ih _ _ x ?_
   rw[Cv]
   by_cases e:x=y
   · rw[if_pos e];exact .inl rfl
   · rw[if_neg e];exact h.imp id fun h=>(Cv.trans (if_neg e)).symm.trans h
  ·
   rw[if_neg hk]
   refine ih _ _ x (h.imp id fun h=>?_)
   by_cases e:x=y
   · exact(hk (beq_iff_eq.mpr (Ab ((Cv.trans (if_pos e)).symm.trans h)))).elim
   · exact(Cv.trans (if_neg e)).symm.trans h
structure Vi (h:Heap) (lo:Nat) (cs:List (Str×Addr)):Prop where
 empty:∀ n c,(n,c)∈cs→h.get? c=some {cls:=.type "cell",data:=.cell none}∧lo≤c
 apart:cs.Pairwise fun x y=>x.2≠y.2
theorem Fs:∀(names:List (Str×NameKind)) (h:Heap) (lo:Nat) (acc:List (Str×Addr)),Vi h lo acc→lo≤h.objs.size→
  Vi (pushCells h names) lo (cellsFrom h.objs.size names acc)
 | [],_,_,_,x,_=>x
 | (name,kind)::r,h,lo,acc,x,hlo=>by
  unfold pushCells cellsFrom
  split
  ·
   have:=Fs r (h.push {cls:=.type "cell",data:=.cell none}) lo ((name,h.objs.size)::acc)
    ⟨fun n c hm=>by
      rcases Ag.mp hm with e | hm
      · cases e;exact⟨Bp _ rfl,hlo⟩
      · exact⟨Bo _ (x.empty n c hm).1,(x.empty n c hm).2⟩,
     List.pairwise_cons.mpr ⟨fun y hy e=>by
      have hlt:=Heap.lt_size (x.empty y.1 y.2 hy).1
      have e':h.objs.size=y.2:=e
      exact Nat.lt_irrefl _ (e'▸hlt),x.apart⟩⟩ (by rw[Heap.size_push];omega)
   rwa [Heap.size_push] at this
  · exact Fs r h lo acc x hlo
structure EJ (fd:FuncData) (xs ns ac:List Str):Prop where
 p1:fd.params.posonlyargs=[]
 p2:fd.params.kwonlyargs=[]
 p3:fd.params.vararg=none
 p4:fd.params.kwarg=none
 ps:fd.params.args.map (·.arg)=xs
 nod:ns.Nodup
 pre:∃ r,ns=xs++r
 kinds:∀ x∈xs,fd.scope.names.lookup x=some .local∨fd.scope.names.lookup x=some .cell
 acs:∀ x∈ac,fd.scope.names.lookup x=some .cell
 kind:fd.scope.kind= .function
 co:fd.scope.isCoroutine=false
 gen:fd.scope.isGenerator=false
 glob:fd.globals=mainGlobals
 blt:fd.builtins=builtinsNs
 clo:fd.closure=[]
 dep:C1∉ac
 lam:fd.scope.names.lookup (Aa "depth")=some .cell→fd.code= .ref 236∧fd.qualname=Aa "read_primary"
noncomputable abbrev D6:Obj:={cls:=.type "frame",data:=.dict #[]}
noncomputable abbrev B7 (fd:FuncData) (L:Addr):List (Str×Addr):=cellsFrom (L+1) fd.scope.names []
section
variable {G:Gx} {W W0:Wd} {h:Heap} {t:Nat}
theorem B6.more {S':Addr→Option D2} (I:B6 G W) (k:Hn W.s.heap h) (hS:∀ b c,W.S b=some c→S' b=some c) (hN:∀ b c,S' b=some c→W.S b=some c∨(W.s.heap.get? b=Option.none∧∃ o,h.get? b=some o∧c.ok G.w o)):B6 G {W with S:=S',s:={W.s with heap:=h,toks:=t}}:=
 ⟨fun a o f=>k a o (I.fh a o f),fun a o f=>match e:S' a with
  | .none=>e
  | .some c=>(hN a c e).elim (fun q=>nn ((I.fs a o f).symm.trans q)) fun q=>nn (q.1.symm.trans (I.fh a o f)),fun a c e=>(hN a c e).elim (fun q=>(I.sh a c q).imp fun o x=>⟨k a o x.1,x.2⟩) fun q=>q.2,I.old,
  fun i mo q=>(I.sto i mo q).imp fun ab x=>x.imp fun c x=>⟨x.1,hS _ _ x.2.1,x.2.2⟩,I.len,I.inj,I.tab.imp fun c x=>⟨hS _ _ x.1,x.2⟩⟩
noncomputable def Wd.fixs (W:Wd) (X:List Addr):Wd:={W with F:=fun b o=>W.F b o∨b∈X∧W.s.heap.get? b=some o,S:=fun b=>if b∈X then none else W.S b}
theorem B6.fixs (I:B6 G W) {X:List Addr} (hX:∀ b∈X,∃ c,W.S b=some c∧c.kd≠0):B6 G (W.fixs X):=
 have ne {b:Addr} {c:D2} (e:W.S b=some c) (z:c.kd=0):b∉X:=fun q=>(hX b q).elim fun d x=>x.2 (Ab (x.1.symm.trans e)▸z)
 have up:W.F.le (W.fixs X).F:=fun Z Z f=>.inl f
 ⟨fun a o f=>f.elim (I.fh a o) fun f=>f.2,fun a o f=>if q:a∈X then if_pos q else(if_neg q).trans (f.elim (I.fs a o) fun f=>(q f.1).elim),fun a c e=>if q:a∈X then nn ((if_pos q).symm.trans e) else I.sh a c ((if_neg q).symm.trans e),fun a o f=>.inl (I.old a o f),
  fun i mo q=>(I.sto i mo q).imp fun ab x=>x.imp fun c x=>⟨x.1,(if_neg (ne x.2.1 x.2.2.kd)).trans x.2.1,x.2.2.up up⟩,I.len,I.inj,I.tab.imp fun c x=>⟨(if_neg (ne x.1 rfl)).trans x.1,fun b e=>(x.2 b e).up up⟩⟩
theorem B6.pick {n r:Nat} {ab:Addr×Addr} {mo:MO} (I:B6 G W) (hn:n≤r) (hab:W.bs[r]?=some ab) (hmo:W.σ[r]?=some mo):B6 G {W with bs:=W.bs.take n++[ab],σ:=W.σ.take n++[mo]}:=by
 have hl:n≤W.bs.length:=Nat.le_of_lt (Ay hn (Ah.mp hab).1)
 have at_ {α:Type} {l:List α} {x y:α} (hx:l[r]?=some x) (hl:n≤l.length) {i:Nat} (q:(l.take n++[x])[i]?=some y):(i < n∧l[i]?=some y)∨(i=n∧x=y):=by
  by_cases hi:i < n
  · rw[A5 (Bg.symm▸Nat.lt_min.mpr ⟨hi,Bb hi hl⟩),List.getElem?_take_of_lt hi] at q;exact .inl ⟨hi,q⟩
  ·
   rw[Az (Bg.symm▸Ad (Nat.min_le_left ..) (Nat.le_of_not_lt hi)),Bg,Nat.min_eq_left hl] at q
   cases hj:i - n with
   | zero=>rw[hj] at q;exact .inr ⟨Nat.le_antisymm (Nat.le_of_sub_eq_zero hj) (Nat.le_of_not_lt hi),Ab q⟩
   | succ j=>rw[hj] at q;exact nn q
 have there {α:Type} {l:List α} {x y:α} (hl:n≤l.length) {i:Nat}:(i < n→l[i]?=some y→(l.take n++[x])[i]?=some y)∧(l.take n++[x])[n]?=some x:=by
  refine⟨fun hi q=>?_,?_⟩
  · rw[A5 (Bg.symm▸Nat.lt_min.mpr ⟨hi,Bb hi hl⟩),List.getElem?_take_of_lt hi];exact q
  · rw[Az (Bg.symm▸Nat.min_le_left ..),Bg,Nat.min_eq_left hl,Nat.sub_self];rfl
 have hr (i:Nat) (a:Addr×Addr) (q:W.bs[i]?=some a) (e:a.2=ab.2):i=r:=I.inj i r a ab q hab e
 refine⟨I.fh,I.fs,I.sh,I.old,fun i mo' q=>?_,?_,fun i j a b x y e=>?_,I.tab⟩
 ·
  rcases at_ hmo (I.len▸hl) q with⟨hi,q⟩ | ⟨rfl,rfl⟩
  ·
   obtain⟨ab',c,x,y⟩:=I.sto i mo' q
   exact⟨ab',c,(there (x:=ab) hl).1 hi x,y⟩
  ·
   obtain⟨ab',c,x,y⟩:=I.sto r mo hmo
   obtain rfl:ab'=ab:=Ab (x.symm.trans hab)
   exact⟨ab',c,(there (y:=ab') (i:=0) hl).2,y⟩
 ·
  show(W.bs.take n++[ab]).length=(W.σ.take n++[mo]).length
  rw[Ai,Ai,Bg,Bg,I.len];rfl
 ·
  exact(at_ hab hl x).elim (fun p=>(at_ hab hl y).elim (fun q=>I.inj i j a b p.2 q.2 e) fun q=>(Nat.lt_irrefl _ (Ay hn (hr i a p.2 (e.trans (congrArg Prod.snd q.2.symm))▸p.1))).elim)
   fun p=>(at_ hab hl y).elim (fun q=>(Nat.lt_irrefl _ (Ay hn (hr j b q.2 (e.symm.trans (congrArg Prod.snd p.2.symm))▸q.1))).elim) fun q=>p.1.trans q.1.symm
theorem Le.fixs {m:List Addr} {X:List Addr} (L:Le m W0 W) (hX:∀ b∈X,W0.S b=none):Le m W0 (W.fixs X):=
 have ne {b:Addr} {c:D2} (e:W0.S b=some c):b∉X:=fun q=>nn ((hX b q).symm.trans e)
 ⟨fun a o f=>.inl (L.F a o f),L.bs,fun a c e z=>(L.kd a c e z).imp fun d x=>⟨(if_neg (ne e)).trans x.1,x.2⟩,fun a c e z q=>(if_neg (ne e)).trans (L.keep a c e z q),L.rest⟩
theorem Le.leave {m:List Addr} {W1:Wd} (L:Le [] W0 W) (L1:Le m W W1) (hm:∀ a∈m,W0.S a=none):Le [] W0 W1:=
 have L2:=L.up.trans L1
 ⟨L2.F,L2.bs,L2.kd,fun a c e z Z=>L1.keep a c (L.keep a c e z List.not_mem_nil) z fun q=>nn ((hm a q).symm.trans e),L2.rest⟩
end
section
variable {G:Gx} {C':Call} {N':Nat} {fd:FuncData} {a:Addr} {A:Bm} {fr:List Env} {W:Wd} {xs ns ac:List Str}
noncomputable abbrev pR (G:Gx) (C':Call) (N':Nat) (A:Bm) (fr:List Env) (fd:FuncData) (L a:Addr) (ns ac:List Str) (mine:List Addr) (dp:Bool):Kx:=
 ⟨G,C',N',A.deeper (callEnvC fd L a),callEnvC fd L a::fr,callEnvC fd L a,ns,ac,mine,dp⟩
theorem Db.deeper {env:Env} (h:Db (N'+1) A fr):Db N' (A.deeper env) (env::fr):=
 ⟨show A.frames.map _=_ from h.frames▸rfl,(Nat.add_right_comm A.depth 1 N').symm▸h.deep,Ay (A7 (Nat.add_assoc A.units 3 _▸A8 (Nat.add_comm 3 (12*N')▸A8 (Ac rfl:3≤12) _) A.units) 200) h.units,h.calm⟩
theorem JL {L:Addr} {mine:List Addr} {dp:Bool} (ok:EJ fd xs ns ac) (hC:Db (N'+1) A fr) (hL:L∈mine) {ac':List Str} (only:∀ x∈ns,∀ c,(B7 fd L).lookup x=some c→c∈mine→x∈ac') (inj:∀ x∈ac',∀ y∈ac',(B7 fd L).lookup x=(B7 fd L).lookup y→x=y):Ff (pR G C' N' A fr fd L a ns ac' mine dp):=
 ⟨hC.deeper,⟨ok.glob,fun q=>⟨(ok.lam q).1,by show fd.qualname++_=_;rw[(ok.lam q).2];decide+kernel⟩⟩,ok.blt,ok.kind,ok.nod,hL,fun x hx c hc Z=>only x hx c hc,inj⟩
theorem gT {done:List RV} {n:Nat} {r:RV}:(done++Ao (n+1) RV.un).set done.length r=(done++[r])++Ao n RV.un:=by
 rw[List.set_append_right _ _ (Av _),Nat.sub_self,List.replicate_succ,List.set_cons_zero,Ak];rfl
theorem Yg {K:Kx} {A':Bm} {M:Model} {E:Bq→Bk→Prop} (hK:Ff K) (f:Str×Bq→PUnit→Sem (ForInStep PUnit)) (hf:∀ n v u,f (n,v) u=(do storeName K.env n v;pure (.yield ⟨⟩))) (binds:List (Str×Bq)):∀(rs done:List RV) (m:Nat) (W:Wd) (Q:PUnit→Bk→Prop),
  At K W (done++Ao (binds.length+m) .un)→(∀(i:Nat) x,binds[i]?=some x→jY K (done.length+i) x.1)→Fy W rs (binds.map (·.2))→
  (∀ W',W'.σ=W.σ→Go K.G K.mine W W'→At K W' (done++rs++Ao m .un)→Q ⟨⟩ W'.s)→wpAny M A' (forIn binds ⟨⟩ f) Q E W.s:=by
 induction binds with
 | nil=>
  intro rs done m W Q S _ hr h
  have e0:rs=[]:=by cases rs with | nil=>rfl | cons _ _=>exact hr.elim fun v h=>h.elim fun r h=>nomatch h.1
  rw[e0,Aj] at h
  rw[List.length_nil,Nat.zero_add] at S
  rw[List.forIn_nil]
  exact Bi (h W rfl (.refl S.inv) S)
 | cons p binds ih=>
  intro rs done m W Q S hk hr h
  cases rs with
  | nil=>exact nomatch (show _::_=[] from hr)
  | cons r rs=>
   obtain⟨v',q,e,hrv,hrs⟩:=hr
   have e:=List.cons.inj e
   rw[List.forIn_cons,hf]
   refine Bh (Bh (Gi hK S (hk 0 _ rfl) (e.1▸hrv) fun W1 e1 g1 S1=>Bi ?_))
   rw[Nat.add_zero,Bf,Nat.add_right_comm,gT] at S1
   refine ih rs (done++[r]) m W1 Q S1 (fun i x hx=>?_) (g1.vs (e.2▸hrs)) fun W2 e2 g2 S2=>h W2 (e2.trans e1) (g1.trans g2) ?_
   · rw[Ai,List.length_singleton,Nat.add_assoc,Nat.add_comm 1 i];exact hk (i+1) x hx
   · rw[Ak done [r] rs] at S2;exact S2
theorem eA:nsO (fun Z=>none) D6:=by
 obtain⟨o,es,ep,h1,h2⟩:=Heap.Ns.new ({}:Heap) (.type "frame")
 obtain rfl:D6=o:=Ab ((Bp _ rfl).symm.trans h1)
 exact⟨es,ep,h2⟩
theorem enter {Q:Bk→Prop} (ok:EJ fd xs ns ac) (hC:Db (N'+1) A fr) (hf:Eu fr W) (I:B6 G W) {K:Kx} (hK:K=pR G C' N' A fr fd W.s.heap.objs.size a ns ((B7 fd W.s.heap.objs.size).map (·.1)) (W.s.heap.objs.size::(B7 fd W.s.heap.objs.size).map (·.2)) true)
  (k:∀ W',W'.s={W.s with heap:=pushCells (W.s.heap.push D6) fd.scope.names}→W'.σ=W.σ→Go G [] W W'→Ff K→At K W' (Ao ns.length .un)→(∀ b∈K.mine,W.S b=none)→Q W'.s):Q {W.s with heap:=pushCells (W.s.heap.push D6) fd.scope.names}:=by
 have ok':=Fs fd.scope.names (W.s.heap.push D6) (W.s.heap.objs.size+1) [] ⟨fun Z Z hm=>(nomatch hm),List.Pairwise.nil⟩ (by rw[Heap.size_push];exact Av _)
 rw[Heap.size_push] at ok'
 obtain⟨L,hL⟩:∃ L,L=W.s.heap.objs.size:=⟨_,rfl⟩
 rw[←hL] at ok' hK
 have k1:Hn W.s.heap (pushCells (W.s.heap.push D6) fd.scope.names):=fun b o e=>pushCells_keeps _ _ b o (Bo _ e)
 have memc {x:Str} {c:Addr} (e:(B7 fd L).lookup x=some c):(x,c)∈B7 fd L:=mem_of_lookup e
 have isc {c:Addr} (h:c∈(B7 fd L).map (·.2)):(pushCells (W.s.heap.push D6) fd.scope.names).get? c=some {cls:=.type "cell",data:=.cell none}∧L+1≤c:=by
  obtain⟨p,hp,rfl⟩:=Bc.mp h
  exact ok'.empty p.1 p.2 hp
 have fresh {c:Addr} (h:L≤c):W.s.heap.get? c=none:=Heap.get?_none_of_le (hL▸h)
 let S':Addr→Option D2:=fun b=>if b=L then some (.ns fun Z=>none) else if b∈(B7 fd L).map (·.2) then some (.cell none) else W.S b
 have sL:S' L=some (.ns fun Z=>none):=if_pos rfl
 have sc {c:Addr} (h:c∈(B7 fd L).map (·.2)):S' c=some (.cell none):=(if_neg (Nat.ne_of_gt (isc h).2)).trans (if_pos h)
 have so {b:Addr} {c:D2} (e:W.S b=some c):S' b=some c:=(if_neg fun q=>nn ((I.none (fresh (Au q.symm))).symm.trans e)).trans ((if_neg fun q=>nn ((I.none (fresh (Nat.le_of_succ_le (isc q).2))).symm.trans e)).trans e)
 have I':B6 G {W with S:=S',s:={W.s with heap:=pushCells (W.s.heap.push D6) fd.scope.names,toks:=W.s.toks}}:=I.more k1 (fun b c=>so) fun b c e=>
  if q:b=L then .inr ⟨fresh (Au q.symm),_,q▸pushCells_keeps _ _ _ _ (hL▸Bp _ rfl),Ab ((if_pos q).symm.trans e)▸eA⟩
  else if q2:b∈(B7 fd L).map (·.2) then .inr ⟨fresh (Nat.le_of_succ_le (isc q2).2),_,(isc q2).1,Ab ((sc q2).symm.trans e)▸⟨rfl,rfl⟩⟩ else .inl ((if_neg q2).symm.trans ((if_neg q).symm.trans e))
 have g:Go G [] W {W with S:=S',s:={W.s with heap:=pushCells (W.s.heap.push D6) fd.scope.names,toks:=W.s.toks}}:=⟨I',fun Z Z f=>f,⟨[],(Aj _).symm⟩,fun b c e Z=>⟨c,so e,rfl⟩,fun b c e Z Z=>so e,fun Z Z=>rfl⟩
 have look {x:Str} (h:x∈(B7 fd L).map (·.1)):∃ c,(B7 fd L).lookup x=some c∧c∈(B7 fd L).map (·.2):=by
  obtain⟨p,hp,rfl⟩:=Bc.mp h
  cases e:(B7 fd L).lookup p.1 with
  | some c=>exact⟨c,rfl,Bc.mpr ⟨_,memc e,rfl⟩⟩
  | none=>exact absurd (List.lookup_eq_none_iff.mp e p hp) (by simp)
 subst hK
 refine k {W with S:=S',s:={W.s with heap:=pushCells (W.s.heap.push D6) fd.scope.names,toks:=W.s.toks}} rfl rfl g (JL ok hC (.head _) (fun x hx c hc Z=>Bc.mpr ⟨_,memc hc,rfl⟩) fun x hx y hy e=>?_) ⟨I',?_,List.length_replicate,⟨_,sL,fun k x r hx hr hu=>?_⟩,fun x hx=>(look hx).imp fun c h=>⟨_,h.1,.tail _ h.2,sc h.2⟩,fun b hb=>?_⟩ fun b hb=>?_
 ·
  obtain⟨c,hc,_⟩:=look hx
  exact name_of_addr ok'.apart (memc hc) (memc (e.symm.trans hc))
 ·
  intro env he
  rcases Ag.mp he with rfl | he
  · exact⟨by show fd.scope.kind≠_;rw[ok.kind];decide,L,_,rfl,sL⟩
  · exact(hf env he).imp id fun h=>h.imp fun a h=>h.imp fun f h=>⟨h.1,so h.2⟩
 ·
  rw[List.getElem?_replicate] at hr
  split at hr
  · exact(hu (Ab hr).symm).elim
  · exact nn hr
 ·
  rcases Ag.mp hb with rfl | hb
  · exact⟨_,sL,(fun q=>nomatch q),fun q=>nomatch q⟩
  · exact⟨_,sc hb,(fun q=>nomatch q),fun q=>nomatch q⟩
 ·
  rcases Ag.mp hb with rfl | hb
  · exact I.none (fresh (Av _))
  · exact I.none (fresh (Nat.le_of_succ_le (isc hb).2))
end
structure WL (L:Addr) (cs:List (Str×Addr)):Prop where
 low:∀ p∈cs,L+1≤p.2
 one:∀ {x y:Str} {c:Addr},(x,c)∈cs→(y,c)∈cs→x=y
theorem EN (fd:FuncData) (L:Addr) (h:Heap) (hL:h.objs.size=L):WL L (B7 fd L):=by
 have ok':=Fs fd.scope.names (h.push D6) (L+1) [] ⟨fun Z Z hm=>(nomatch hm),List.Pairwise.nil⟩ (by rw[Heap.size_push,hL];exact Av _)
 rw[Heap.size_push,hL] at ok'
 exact⟨fun p hp=>(ok'.empty p.1 p.2 hp).2,fun a b=>name_of_addr ok'.apart a b⟩
section
variable {G:Gx} {C':Call} {N':Nat} {fd:FuncData} {a:Addr} {A:Bm} {fr:List Env} {W W2:Wd} {xs ns ac:List Str}
noncomputable abbrev cW (fd:FuncData) (L:Addr) (ac:List Str):List Addr:=L::((B7 fd L).filter fun p=>ac.contains p.1).map (·.2)
noncomputable abbrev He (fd:FuncData) (L:Addr) (ac:List Str):List Addr:=((B7 fd L).filter fun p=> !ac.contains p.1&&(B7 fd L).lookup p.1==some p.2).map (·.2)
noncomputable abbrev rW (G:Gx) (C':Call) (N':Nat) (A:Bm) (fr:List Env) (fd:FuncData) (L a:Addr) (ns:List Str):Kx:=pR G C' N' A fr fd L a ns ((B7 fd L).map (·.1)) (L::(B7 fd L).map (·.2)) true
noncomputable abbrev eZ (G:Gx) (C':Call) (N':Nat) (A:Bm) (fr:List Env) (fd:FuncData) (L a:Addr) (ns ac:List Str):Kx:=pR G C' N' A fr fd L a ns ac (cW fd L ac) false
theorem Db.low {N:Nat} (h:Db (N+1) A fr):A.depth < recursionLimit:=Ay (A4 ..) (Bb h.deep (by decide))
theorem Db.sub {N:Nat} (h:Db (N+6) A fr):Db 1 {A with depth:=A.depth+1,units:=A.units+1} fr:=⟨h.frames,Ay (A8 (Ad (Ac rfl:2≤6) (Nat.le_add_left 6 N)) A.depth) h.deep,Ay (A7 (A8 (Ad (Ac rfl:13≤12*6) (Nat.mul_le_mul_left 12 (Nat.le_add_left 6 N))) A.units) 200) h.units,h.calm⟩
theorem Mo {L:Addr} {b:Addr} (h:b∈He fd L ac):∃ y,y∉ac∧(B7 fd L).lookup y=some b:=by
 obtain⟨p,hp,rfl⟩:=Bc.mp h
 have:=b2 (List.mem_filter.mp hp).2
 exact⟨p.1,(fun q=>nomatch (Hp this.1).symm.trans (List.contains_iff_mem.mpr q)),beq_iff_eq.mp this.2⟩
theorem GI {L:Addr} {b:Addr} {y:Str} (h:y∉ac) (e:(B7 fd L).lookup y=some b):b∈He fd L ac:=
 Bc.mpr ⟨(y,b),List.mem_filter.mpr ⟨mem_of_lookup e,Bool.and_eq_true_iff.mpr ⟨by rw[show ac.contains y=false from(Bool.not_eq_true _).mp fun q=>h (List.contains_iff_mem.mp q)];rfl,beq_iff_eq.mpr e⟩⟩,rfl⟩
theorem T7 {L:Addr} {b:Addr} (h:b∈cW fd L ac):b=L∨∃ y,y∈ac∧(y,b)∈B7 fd L:=by
 rcases Ag.mp h with h | h
 · exact .inl h
 ·
  obtain⟨p,hp,rfl⟩:=Bc.mp h
  exact .inr ⟨p.1,List.contains_iff_mem.mp (List.mem_filter.mp hp).2,(List.mem_filter.mp hp).1⟩
theorem gW {L:Addr} {ρ:List RV} (ok:EJ fd xs ns ac) (hC:Db (N'+1) A fr) (AP:WL L (B7 fd L)) (S:At (rW G C' N' A fr fd L a ns) W2 ρ):
  Ff (eZ G C' N' A fr fd L a ns ac)∧At (eZ G C' N' A fr fd L a ns ac) (W2.fixs (He fd L ac)) ρ∧∀ b∈He fd L ac,b∈(rW G C' N' A fr fd L a ns).mine:=by
 have cell {b:Addr} {y:Str} (e:(B7 fd L).lookup y=some b):∃ v,W2.S b=some (.cell v):=by
  obtain⟨c,v,h1,h2,h3⟩:=S.cel y (Bc.mpr ⟨_,mem_of_lookup e,rfl⟩)
  obtain rfl:c=b:=Ab (h1.symm.trans e)
  exact⟨v,h3⟩
 have stc {b:Addr} (h:b∈He fd L ac):∃ v,W2.S b=some (.cell v):=(Mo h).elim fun y h=>cell h.2
 have ns_ {b:Addr} {f:Str→Option Bq} (h:W2.S b=some (.ns f)):(W2.fixs (He fd L ac)).S b=some (.ns f):=(if_neg fun q=>(stc q).elim fun v e=>nomatch Ab (e.symm.trans h)).trans h
 have out {b:Addr} {y:Str} (hy:y∈ac) (h:(y,b)∈B7 fd L):b∉He fd L ac:=fun q=>(Mo q).elim fun z hz=>hz.1 (AP.one h (mem_of_lookup hz.2)▸hy)
 have low {x:Str} {c:Addr} (h:(x,c)∈B7 fd L) (e:c=L):False:=Nat.lt_irrefl _ (e▸AP.low _ h:L < L)
 have look {x:Str} (h:x∈ac):∃ c v,(B7 fd L).lookup x=some c∧c∈cW fd L ac∧W2.S c=some (.cell v):=by
  obtain⟨c,hc⟩:=Ba.mp (J3 fd.scope.names (L+1) [] x (.inr (ok.acs x h)))
  exact(cell hc).elim fun v hv=>⟨c,v,hc,.tail _ (Bc.mpr ⟨(x,c),List.mem_filter.mpr ⟨mem_of_lookup hc,List.contains_iff_mem.mpr h⟩,rfl⟩),hv⟩
 have I':=S.inv.fixs (X:=He fd L ac) fun b hb=>(stc hb).elim fun v h=>⟨_,h,(fun q=>nomatch q)⟩
 refine⟨JL ok hC (.head _) (fun x hx c hc hm=>?_) fun x hx y hy e=>?_,⟨I',fun env he=>(S.frs env he).imp id fun h=>h.imp fun b h=>h.imp fun f h=>⟨h.1,ns_ h.2⟩,S.len,S.val.imp fun f h=>⟨ns_ h.1,fun k x r hx hr hu=>(h.2 k x r hx hr hu).imp fun v q=>⟨q.1.up (fun Z Z f=>.inl f) ⟨[],(Aj _).symm⟩,q.2.imp id fun q=>⟨q.1,q.2.imp fun c q=>⟨q.1,q.2.elim (fun d=>?_) fun d=>.inr (d.up fun Z Z f=>.inl f)⟩⟩⟩⟩,
  fun x hx=>(look hx).imp fun c h=>h.imp fun v h=>⟨h.1,h.2.1,(if_neg (out hx (mem_of_lookup h.1))).trans h.2.2⟩,fun b hb=>?_⟩,fun b hb=>(Mo hb).elim fun y h=>.tail _ (Bc.mpr ⟨_,mem_of_lookup h.2,rfl⟩)⟩
 ·
  rcases T7 hm with e | ⟨y,hy,h⟩
  · exact(low (mem_of_lookup hc) e).elim
  · exact AP.one h (mem_of_lookup hc)▸hy
 ·
  obtain⟨c,v,hc,_⟩:=look hx
  exact AP.one (mem_of_lookup hc) (mem_of_lookup (e.symm.trans hc))
 ·
  rcases T7 hb with e | ⟨y,hy,h⟩
  · exact S.val.elim fun f h=>⟨.ns f,(show(W2.fixs (He fd L ac)).S b=_ from e.symm▸ns_ (show W2.S L=_ from h.1)),(fun q=>nomatch q),fun q=>nomatch q⟩
  · exact(S.own b (.tail _ (Bc.mpr ⟨_,h,rfl⟩))).imp fun c q=>⟨(if_neg (out hy h)).trans q.1,q.2⟩
 ·
  by_cases hx':x∈ac
  · exact .inl ⟨(if_neg (out hx' (mem_of_lookup q.1))).trans d.1,.inr fun e=>ok.dep (e▸hx')⟩
  · exact(S.inv.sh c _ d.1).elim fun o h=>.inr ⟨o,.inr ⟨GI hx' q.1,h.1⟩,h.2⟩
theorem Kw {body:List Stmt} {args:List RV} {vals ds:List Bq} {dm:List MV} {o:Obj} {R:Result→Bk→Prop} (B:Bs G) (ok:EJ fd xs ns ac) (hC:Db (N'+1) A fr) (hf:Eu fr W) (I:B6 G W)
  (ho:W.s.heap.get? a=some o) (hd:o.data= .func fd) (hcd:W.s.heap.CodeRec fd.code fd.qualname) (hbody:fd.body= .stmts body) (hdf:ZC W.s.heap fd.defaults ds) (hdm:Ds W.F dm ds) (hargs:Fy W args vals) (h1:args.length≤xs.length) (h2:xs.length≤args.length+dm.length) (h3:dm.length≤xs.length)
  (h:∀ K W',K.G=G→K.C=C'∧K.dp=false→K.N=N'→K.ns=ns→K.ac=ac→K.env.scope=fd.scope→K.fr=K.env::fr→Ff K→W'.σ=W.σ→Go G [] W W'→(∀ b∈K.mine,W.S b=none)→At K W' (args++(dm.drop (args.length+dm.length - xs.length)).map .v++Ao (ns.length - xs.length) .un)→
   wpAny (model prog G.w) K.A (execs body K.env) (fun f s'=>R (.ok (.ret (match f with | .ret v=>v | _=>.none))) s') (fun e s'=>wpAny (model prog G.w) K.A (leaving K.env e) (fun Z s''=>R (.error e) s'') (fun e' s''=>R (.error e') s'') s') W'.s):
  codeAny (model prog G.w) A (.call (.ref a) ⟨vals,[]⟩) R W.s:=by
 have hvl:=hargs.length
 have hdl:=hdm.length
 have k1:vals.length≤xs.length:=hvl▸h1
 have k2:xs.length≤vals.length+ds.length:=hvl▸hdl▸h2
 have k3:ds.length≤xs.length:=hdl▸h3
 obtain⟨rest,hrest⟩:=ok.pre
 refine codeAny_call_function hC.low ho hd ok.co ok.gen hbody hcd (AV ok.p1 ok.p2 ok.p3 ok.p4 ok.ps (List.nodup_append.mp (hrest▸ok.nod)).1 hdf k1 k2 k3 ?_)
 rw[ok.clo]
 simp only [newFunctionEnv,Option.isSome_none,Bool.false_eq_true,if_false]
 refine Bh (wpAny_alloc (Bh (wpAny_layCells _ (fun name kind cells=>by cases hkc:kind==NameKind.cell<;>simp [hkc]) _ _ _ _ ?_)))
 rw[show({W.s with heap:=W.s.heap.push D6}:Bk).heap.objs.size=W.s.heap.objs.size+1 from Heap.size_push ..]
 have hnl:ns.length=xs.length+rest.length:=by rw[hrest,Ai]
 have hbl:(xs.zip (vals++List.drop (vals.length+ds.length - xs.length) ds)).length=xs.length:=by rw[List.length_zip,Ai,List.length_drop,K3 k1 k2,Nat.min_self]
 have hval:(xs.zip (vals++List.drop (vals.length+ds.length - xs.length) ds)).map (·.2)=vals++List.drop (vals.length+ds.length - xs.length) ds:=List.map_snd_zip (by rw[Ai,List.length_drop,K3 k1 k2];exact Av _)
 have hrs:Fy W (args++(dm.drop (args.length+dm.length - xs.length)).map .v) (vals++List.drop (vals.length+ds.length - xs.length) ds):=by
  rw[hvl,hdl];exact G3.append (hdm.drop _).rvrs hargs
 refine Bh (enter (a:=a) (C':=C') (Q:=fun s=>wpAny _ _ _ _ _ s) ok hC hf I rfl fun W1 es e1 g1 hK1 S1 hm=>?_)
 refine Yg hK1 _ (fun Z Z Z=>rfl) _ _ [] rest.length W1 _ (by rw[List.nil_append,hbl,←hnl];exact S1) (fun i x hx=>?_) (by rw[hval];exact g1.vs hrs) fun W2 e2 g2 S2=>?_
 ·
  obtain⟨hi,hx⟩:=Ah.mp hx
  rw[hbl] at hi
  have hx1:x.1=xs[i]:=by rw[←hx,List.getElem_zip]
  rw[List.length_nil,Nat.zero_add,hx1]
  refine⟨by rw[show(rW G C' N' A fr fd W.s.heap.objs.size a ns).ns=xs++rest from hrest,A5 hi,Ar hi],?_⟩
  rcases ok.kinds _ (List.getElem_mem hi) with q | q
  · exact .inl q
  ·
   obtain⟨c,hc⟩:=Ba.mp (J3 fd.scope.names (W.s.heap.objs.size+1) [] _ (.inr q))
   exact .inr ⟨q,Bc.mpr ⟨_,mem_of_lookup hc,rfl⟩,.inl rfl⟩
 ·
  obtain⟨hK,S3,hX⟩:=gW ok hC (EN fd _ W.s.heap rfl) S2
  have g3:Go G [] W (W2.fixs (He fd W.s.heap.objs.size ac)):=⟨S3.inv,(g1.le.leave g2.le hm).fixs fun b hb=>hm b (hX b hb)⟩
  refine Bi ⟨B.nolimit.keeps g3.inv.stays,codeAny_func (h (eZ G C' N' A fr fd W.s.heap.objs.size a ns ac) (W2.fixs _) rfl ⟨rfl,rfl⟩ rfl rfl rfl rfl rfl hK (e2.trans e1) g3 (fun b hb=>?_) ?_)⟩
  ·
   rcases T7 hb with e | ⟨y,_,h⟩
   · exact hm b (e▸ .head _)
   · exact hm b (.tail _ (Bc.mpr ⟨_,h,rfl⟩))
  · rw[show ns.length - xs.length=rest.length from hnl▸Nat.add_sub_cancel_left ..];exact S3
end
section
variable {G:Gx} {W W2:Wd} {n:Nat} {Q E:Bq→Bk→Prop}
theorem R5 {r:RV} {v:Bq} (g:Go G [] W W2) (hn:n=W.bs.length) (hr:Cj W2 r v) (H:Br G [] W Cj Q E (I4 n (Ic n W2.σ r))):Q v W2.s:=by
 obtain⟨q,hq⟩:=g.le.bs
 have ht:W2.bs.take n=W.bs:=by rw[hq,hn,List.take_left]
 have lc {W3:Wd} (L:Le [] W W3) (h:∃ r,W3.bs.take n=W.bs++r):Le [] W (W3.cut n):=⟨L.F,h,L.kd,L.keep,L.rest⟩
 have gc:Go G [] W (W2.cut n):=⟨g.inv.cut n,lc g.le ⟨[],by rw[ht,Aj]⟩⟩
 cases r with
 | v m=>exact H v (W2.cut n) rfl gc hr
 | un=>exact hr.elim
 | loc r=>
  obtain⟨ab,hab,rfl⟩:=hr
  have H:Br G [] W Cj Q E (I4 n (if r < n then .ok (.loc r) (W2.σ.take n) else match W2.σ[r]? with
   | some (.list l)=>.ok (.v (.lis l)) (W2.σ.take n)
   | some (.pen x c)=>.ok (.loc n) (W2.σ.take n++[.pen x c])
   | some (.rdr ts a)=>.ok (.loc n) (W2.σ.take n++[.rdr ts a])
   | _=>.no)):=H
  by_cases hlt:r < n
  ·
   rw[if_pos hlt] at H
   exact H _ (W2.cut n) rfl gc ⟨ab,(List.getElem?_take_of_lt hlt).trans hab,rfl⟩
  ·
   rw[if_neg hlt] at H
   have hle:=Nat.le_of_not_lt hlt
   have pick {mo:MO} (hmo:W2.σ[r]?=some mo) (H:Br G [] W Cj Q E (.ok (.loc n) (W2.σ.take n++[mo]))):Q (.ref ab.1) W2.s:=
    H _ {W2 with bs:=W2.bs.take n++[ab],σ:=W2.σ.take n++[mo]} rfl ⟨g.inv.pick hle hab hmo,g.le.F,⟨[ab],ht▸rfl⟩,g.le.kd,g.le.keep,g.le.rest⟩ ⟨ab,by show(W2.bs.take n++[ab])[n]?=_;rw[ht,Az (Au hn.symm),hn,Nat.sub_self];rfl,rfl⟩
   cases hmo:W2.σ[r]? with
   | none=>rw[hmo] at H;exact H.elim
   | some mo=>
    rw[hmo] at H
    cases mo with
    | pen x c=>exact pick hmo H
    | rdr ts a=>exact pick hmo H
    | dict _=>exact H.elim
    | list l=>
     refine g.inv.list ⟨ab,hab,rfl⟩ hmo fun a vs e hab' hs hv=>?_
     obtain rfl:ab=(a,a):=Ab (hab.symm.trans hab')
     obtain⟨o,ho,hc,⟨k,hd⟩,_⟩:=g.inv.sh a _ hs
     have nb (i:Nat) (ab:Addr×Addr) (h:(W2.cut n).bs[i]?=some ab):ab.2≠a:=fun e=>by
      have:i < n:=Bb (Bg▸(Ah.mp h).1) (Nat.min_le_left ..)
      exact hlt (g.inv.inj i r ab (a,a) ((List.getElem?_take_of_lt this).symm.trans h) hab e▸this)
     have nt:a≠F4:=fun e=>by
      obtain⟨c,x,_⟩:=g.inv.tab
      rw[←e,hs] at x
      cases x
     have nk (x:D2) (e:W.S a=some x):x.kd=0:=Decidable.byContradiction fun z=>(g.le.kd a x e z).elim fun d q=>z (q.2▸Ab (hs.symm.trans q.1)▸rfl)
     exact H _ ((W2.cut n).fix a o) rfl ⟨(g.inv.cut n).fix ho nb nt,gc.le.fix nk⟩ ⟨vs,⟨a,o,k,rfl,.inr ⟨rfl,rfl⟩,hc,hd⟩,Ds.up B9.le_add _ hv⟩
theorem Y2 {k:Int} {e:Bq} {W3:Wd} {σ2:Bu} (g:Go G [] W W3) (hn:n=W.bs.length) (hσ:W3.σ=σ2) (x:Sv W3 k e) (H:Br G [] W Cj Q E (.exc k (σ2.take n))):E e W3.s:=by
 obtain⟨q,hq⟩:=g.le.bs
 obtain⟨y,p,v,hv,T,e1,hT,hs⟩:=x
 exact H e (W3.cut n) (by rw[←hσ]) ⟨g.inv.cut n,g.le.F,⟨[],by rw[Aj];show W3.bs.take n=_;rw[hq,hn,List.take_left]⟩,g.le.kd,g.le.keep,g.le.rest⟩ ⟨y,⟨p.e,p.s,p.o,p.d,p.x⟩,v,hv,.inr ⟨T,e1,hT,hs⟩⟩
end
theorem X7 (A:Bm) (C:Addr) (rest:List Bq):A.under (.builtin "type.__call__" ⟨.ref C::rest,[]⟩)={A with depth:=A.depth+1,units:=A.units+1}:=by
 have e1:Code.frames (.builtin "type.__call__" ⟨.ref C::rest,[]⟩)=0:=by kernel_rfl
 have e2:Code.isGuard (.builtin "type.__call__" ⟨.ref C::rest,[]⟩)=false:=by kernel_rfl
 have e3:Code.isCaller (.builtin "type.__call__" ⟨.ref C::rest,[]⟩)=false:=by kernel_rfl
 have e4:Code.isCreation (.builtin "type.__call__" ⟨.ref C::rest,[]⟩)=true:=by kernel_rfl
 have e5:Code.envs (.builtin "type.__call__" ⟨.ref C::rest,[]⟩)=[]:=by
  unfold Code.envs
  split<;>rfl
 have e6:Code.guards (.builtin "type.__call__" ⟨.ref C::rest,[]⟩)=[]:=by
  unfold Code.guards
  rw[e2];rfl
 unfold Bm.under
 rw[e5,e6]
 unfold Code.weight Code.cUnits
 rw[e1,e2,e3,e4]
 obtain⟨hd,d,fr,gs,u⟩:=A
 simp [pushEnvs,pushGuards]
 exact e1
section
variable [DecidableEq Str]
noncomputable def Gq (fd:FuncData):List Str:=let ps:=fd.params.args.map (·.arg);ps++((fd.scope.names.filter fun n=>(n.2== .local||n.2== .cell)&& !ps.contains n.1).map (·.1))
noncomputable def EM (fd:FuncData):List Str:=(Gq fd).filter fun x=>fd.scope.names.lookup x==some .cell&& !(fd.params.args.map (·.arg)).contains x&&decide (x≠C1)
end
noncomputable def sW:Data→Option (List Bq)
 | .seq xs _=>some xs.toList
 | _=>none
noncomputable def WW (K:Frag):Bq→Option (List Bq)
 | .none=>some []
 | .ref T=>(K.lookup T).bind fun o=>sW o.data
 | _=>none
theorem IL {P:Prop} {K:Frag} {v:Bq} {ds:List Bq} (h:WW K v=some ds) (k0:v= .none→ds=[]→P) (k:∀ T o n,v= .ref T→K.lookup T=some o→o.data= .seq ds.toArray n→P):P:=by
 cases v with
 | none=>exact k0 rfl (Ab h).symm
 | ref T=>
  refine Hy (show(K.lookup T).bind _=some ds from h) fun o ho h=>?_
  obtain⟨c,d,da,sl⟩:=o
  cases da with
  | seq xs n=>exact k T _ n rfl ho (by rw[←Ab h])
  | _=>exact nn h
 | _=>exact nn h
section
variable [DecidableEq Str]
noncomputable def XB (K:Frag) (fd:FuncData):Bool:=
 fd.params.posonlyargs.isEmpty&&fd.params.kwonlyargs.isEmpty&&fd.params.vararg.isNone&&fd.params.kwarg.isNone&&decide (Gq fd).Nodup&&
 (fd.params.args.map (·.arg)).all (fun x=>fd.scope.names.lookup x==some .local||fd.scope.names.lookup x==some .cell)&&
 fd.scope.kind== .function&& !fd.scope.isCoroutine&& !fd.scope.isGenerator&&fd.globals==mainGlobals&&fd.builtins==builtinsNs&&fd.closure.isEmpty&&
 (!(fd.scope.names.lookup C1==some .cell)||(fd.code== .ref 236&&decide (fd.qualname=Aa "read_primary")))&&codeIn K fd.code fd.qualname
noncomputable def lQ:Data→Option FuncData
 | .func fd=>some fd
 | _=>none
noncomputable def oK:FuncBody→Option (List Stmt)
 | .stmts b=>some b
 | _=>none
noncomputable def Wi (K:Frag) (a:Addr):Option (FuncData×List Stmt×List Bq):=(K.lookup a).bind fun o=>(lQ o.data).bind fun fd=>(oK fd.body).bind fun b=>if XB K fd then(WW K fd.defaults).map fun ds=>(fd,b,ds) else none
theorem SA {d:Data} {fd:FuncData} (h:lQ d=some fd):d= .func fd:=by
 cases d with
 | func f=>exact congrArg _ (Ab h)
 | _=>exact nn h
theorem VP {d:FuncBody} {b:List Stmt} (h:oK d=some b):d= .stmts b:=by
 cases d with
 | stmts f=>exact congrArg _ (Ab h)
 | _=>exact nn h
end
noncomputable def M4 (K:Frag) (a:Addr) (f:FuncData→List Stmt→List Bq→Bool):Bool:=opt (Wi K a) fun p=>f p.1 p.2.1 p.2.2
theorem Hu {P:Prop} {K:Frag} {a:Addr} {f:FuncData→List Stmt→List Bq→Bool} (h:M4 K a f=true) (k:∀ fd b ds,Wi K a=some (fd,b,ds)→f fd b ds=true→P):P:=C2 h fun p e h=>k p.1 p.2.1 p.2.2 e h
structure qJ (h:Heap) (a:Addr) (fd:FuncData) (body:List Stmt) (ds:List Bq):Prop where
 obj:∃ o,h.get? a=some o∧o.data= .func fd
 ok:EJ fd (fd.params.args.map (·.arg)) (Gq fd) (EM fd)
 code:h.CodeRec fd.code fd.qualname
 body:fd.body= .stmts body
 df:ZC h fd.defaults ds
theorem JF {K:Frag} {fd:FuncData} (h:XB K fd=true):EJ fd (fd.params.args.map (·.arg)) (Gq fd) (EM fd)∧codeIn K fd.code fd.qualname=true:=
 have c1:=b2 h
 have c2:=b2 c1.1
 have c3:=b2 c2.1
 have c4:=b2 c3.1
 have c5:=b2 c4.1
 have c6:=b2 c5.1
 have c7:=b2 c6.1
 have c8:=b2 c7.1
 have c9:=b2 c8.1
 have d1:=b2 c9.1
 have d2:=b2 d1.1
 have d3:=b2 d2.1
 have d4:=b2 d3.1
 ⟨⟨List.isEmpty_iff.mp d4.1,List.isEmpty_iff.mp d4.2,Option.isNone_iff_eq_none.mp d3.2,Option.isNone_iff_eq_none.mp d2.2,rfl,of_decide_eq_true d1.2,⟨_,rfl⟩,fun x hx=>(Bool.or_eq_true_iff.mp (List.all_eq_true.mp c9.2 x hx)).imp beq_iff_eq.mp beq_iff_eq.mp,
  fun x hx=>beq_iff_eq.mp (b2 (b2 (List.mem_filter.mp hx).2).1).1,beq_iff_eq.mp c8.2,Hp c7.2,Hp c6.2,beq_iff_eq.mp c5.2,beq_iff_eq.mp c4.2,List.isEmpty_iff.mp c3.2,fun hq=>of_decide_eq_true (b2 (List.mem_filter.mp hq).2).2 rfl,
  fun hq=>(Bool.or_eq_true_iff.mp c2.2).elim (fun z=>nomatch (Hp z).symm.trans (beq_iff_eq.mpr hq)) fun z=>⟨beq_iff_eq.mp (b2 z).1,of_decide_eq_true (b2 z).2⟩⟩,c1.2⟩
set_option tactic.hygienic true in
theorem I6 {K:Frag} {h:Heap} {a:Addr} {fd:FuncData} {b:List Stmt} {ds:List Bq} (X:K.In h) (e:Wi K a=some (fd,b,ds)):qJ h a fd b ds:=
 Hy e fun o ho e=>Hy e fun fd' hf e=>Hy e fun b' hb e=>Cw (Ca e).2 fun ds' hd e2=>by
  have e3:=Prod.mk.inj e2
  have e4:=Prod.mk.inj e3.2
  have h1:=JF (Ca e).1
  rw[e3.1] at h1 hb hf hd
  rw[e4.1] at hb
  rw[e4.2] at hd
  exact⟨⟨o,X _ _ ho,SA hf⟩,h1.1,codeRec_of X h1.2,VP hb,IL hd (fun q e=>.inl ⟨q,e⟩) fun T o n q hT hs=>.inr ⟨T,_,n,q,X _ _ hT,hs⟩⟩
noncomputable def dm1 (m:MV) (v:Bq):Bool:=match m with
 | .int i=>match v with
  | .int j _=>decide (i=j)
  | _=>false
 | .bool i=>match v with
  | .bool j=>decide (i=j)
  | _=>false
 | _=>false
noncomputable def aH:List MV→List Bq→Bool
 | [],l=>nil l
 | m::r,v::s=>dm1 m v&&aH r s
 | _::_,[]=>false
theorem aG {P:B9} {m:MV} {v:Bq} (h:dm1 m v=true):VR P m v:=by
 cases m with
 | int i=>cases v with
  | int j t=>exact⟨t,of_decide_eq_true h▸rfl⟩
  | _=>exact ff h
 | bool i=>cases v with
  | bool j=>exact congrArg _ (of_decide_eq_true h).symm
  | _=>exact ff h
 | _=>exact ff h
theorem BH {P:B9}:∀ {dm:List MV} {ds:List Bq},aH dm ds=true→Ds P dm ds
 | [],_,h=>Cc h
 | m::r,[],h=>ff h
 | m::r,v::s,h=>⟨v,s,rfl,aG (b2 h).1,BH (b2 h).2⟩
section
variable [DecidableEq Str]
noncomputable def NJ (K:Frag) (p:Nat×Bv):Bool:=M4 K p.1 fun fd b ds=>Rs (Gq fd) (EM fd) fd.scope p.2.body b&&p.2.np==fd.params.args.length&&p.2.nl==(Gq fd).length&&aH p.2.dfl ds
end
section
variable {G:Gx} {C':Call} {N':Nat} {A:Bm} {fr:List Env} {W:Wd} {Q E:Bq→Bk→Prop}
theorem HS {K:Frag} (X:K.In G.hB) {a:Nat} {d:Bv} (hrow:NJ K (a,d)=true) {args:List RV} {vals:List Bq} (B:Bs G) (hC:Db (N'+1) A fr) (hf:Eu fr W) (I:B6 G W) (hargs:Fy W args vals)
  (hb:∀ {K:Kx},K.G=G→K.C=C'∧K.dp=false→K.N=N'→Ff K→K.fr=K.env::fr→EK K d.body) (H:Br G [] W Cj Q E (Ef C' d args W.σ)):codeAny (model prog G.w) A (.call (.ref a) ⟨vals,[]⟩) (fun r s'=>match r with | .ok (.ret v)=>Q v s' | .ok _=>False | .error e=>E e s') W.s:=
 Hu hrow fun fd b ds hfn h=>by
  have h1:=b2 h
  have h2:=b2 h1.1
  have h3:=b2 h2.1
  obtain⟨⟨o,ho,hd⟩,ok,hcd,hbody,hdf⟩:=I6 (X.keeps I.stays) hfn
  unfold Ef at H
  split at H
  ·
   rename_i hlen
   have e1:d.np=(fd.params.args.map (·.arg)).length:=(beq_iff_eq.mp h3.2).trans (Am ..).symm
   refine Kw (C':=C') (dm:=d.dfl) B ok hC hf I ho hd hcd hbody hdf (BH h1.2) hargs (e1▸hlen.1) (e1▸hlen.2.1) (e1▸hlen.2.2.1) fun K W1 eG eC eN ens eac esc efr hK eσ g hm S=>?_
   rw[←e1,←show d.nl=(Gq fd).length from beq_iff_eq.mp h2.2] at S
   subst eG
   have fin {r:RV} {v:Bq} {W2:Wd} (g2:Go K.G K.mine W1 W2) (hr:Cj W2 r v) (H:Br K.G [] W Cj Q E (I4 W.σ.length (Ic W.σ.length W2.σ r))):Q v W2.s:=R5 ⟨g2.inv,g.le.leave g2.le hm⟩ I.len.symm hr H
   have hA:K.A.frames=some (K.env::fr):=hK.call.frames.trans (congrArg some efr)
   refine hb rfl eC eN hK efr (ens▸eac▸esc▸h3.1) S ?_
   rw[eC.1,eσ]
   cases hO:Dv C' d.body (args++(d.dfl.drop (args.length+d.dfl.length - d.np)).map .v++Ao (d.nl - d.np) .un) W.σ with
   | no=>rw[hO] at H;exact H.elim
   | exc k σ2=>
    rw[hO] at H
    intro e W2 e2 g2 fly
    exact P1 (m:=K.mine) hA g2.inv (efr▸S.frs.le g2.le) fly fun W3 e3 g3 x=>Y2 ⟨g3.inv,g.le.leave (g2.trans g3).le hm⟩ I.len.symm (e3.trans e2) x H
   | ok r σ2=>
    rw[hO] at H
    intro f W2 e2 g2 hf
    obtain⟨fl,ρ'⟩:=r
    cases fl with
    | next=>obtain rfl:=(show f= .next from hf.2);exact fin (r:=.v .none) g2 rfl (e2▸H)
    | brk=>exact H.elim
    | ret r=>obtain⟨v,rfl,hv⟩:=hf.2;exact fin g2 hv (e2▸H)
  · exact H.elim
end
theorem sQ (s:Scope) (env:Env):relabel s env=Xn s env.scope:=rfl
theorem Kn {α:Type} {l:List (Str×α)} {x:Str} {v:α} (hn:(l.map (·.1)).Nodup) (h:(x,v)∈l):l.lookup x=some v:=by
 induction l with
 | nil=>exact nomatch h
 | cons p l ih=>
  rw[List.map_cons,List.nodup_cons] at hn
  rw[List.lookup_cons]
  rcases Ag.mp h with h | h
  · rw[←h,beq_self_eq_true]
  ·
   rw[show(x==p.1)=false from beq_eq_false_iff_ne.mpr fun e=>hn.1 (Bc.mpr ⟨(x,v),h,e⟩)]
   exact ih hn.2 h
structure Cu (ts cap:List Str) (s:Scope):Prop where
 kind:s.kind= .function
 gen:s.isGenerator=false
 co:s.isCoroutine=false
 nod:(s.names.map (·.1)).Nodup
 nm:(s.names.filter fun x=>x.2 != .globalImplicit)=(Aa ".0",NameKind.local)::(ts.map fun x=>(x,NameKind.local))++cap.map fun x=>(x,NameKind.free)
theorem Cu.of {ts cap:List Str} {s:Scope} (h:Ou ts cap s=true):Cu ts cap s:=by
 unfold Ou at h
 simp only [Bool.and_eq_true,Bool.not_eq_true',beq_iff_eq,decide_eq_true_eq] at h
 exact⟨h.1.1.1.1,h.1.1.1.2,h.1.1.2,h.1.2,h.2⟩
section
variable {ts cap:List Str} {s:Scope}
theorem Cu.mem (c:Cu ts cap s) {x:Str×NameKind} (h:x∈s.names):x.2= .globalImplicit∨x=(Aa ".0",NameKind.local)∨(x.2= .local∧x.1∈ts)∨(x.2= .free∧x.1∈cap):=by
 by_cases hg:x.2= .globalImplicit
 · exact .inl hg
 ·
  have:x∈s.names.filter fun x=>x.2 != .globalImplicit:=List.mem_filter.mpr ⟨h,by simpa using hg⟩
  rw[c.nm] at this
  clear hg h
  rcases List.mem_append.mp this with q | q
  ·
   clear this
   rcases Ag.mp q with q | q
   · exact .inr (.inl q)
   ·
    obtain⟨y,hy,rfl⟩:=Bc.mp q
    exact .inr (.inr (.inl ⟨rfl,hy⟩))
  ·
   obtain⟨y,hy,rfl⟩:=Bc.mp q
   exact .inr (.inr (.inr ⟨rfl,hy⟩))
theorem Cu.loc (c:Cu ts cap s) {x:Str} (h:x∈ts):(x,NameKind.local)∈s.names:=by
 have:(x,NameKind.local)∈s.names.filter fun x=>x.2 != .globalImplicit:=by
  rw[c.nm]
  exact List.mem_append.mpr (.inl (.tail _ (Bc.mpr ⟨x,h,rfl⟩)))
 exact(List.mem_filter.mp this).1
theorem Cu.fre (c:Cu ts cap s) {x:Str} (h:x∈cap):(x,NameKind.free)∈s.names:=by
 have:(x,NameKind.free)∈s.names.filter fun x=>x.2 != .globalImplicit:=by
  rw[c.nm]
  exact List.mem_append.mpr (.inr (Bc.mpr ⟨x,h,rfl⟩))
 exact(List.mem_filter.mp this).1
theorem Cu.cells (c:Cu ts cap s):∀ x∈s.names,x.2≠ .cell:=by
 intro x hx e
 rcases c.mem hx with q | q | q | q
 · rw[q] at e;cases e
 · rw[q] at e;cases e
 · rw[q.1] at e;cases e
 · rw[q.1] at e;cases e
theorem Cu.names (c:Cu ts cap s):∀ x∈s.names,x.2= .local→s.names.lookup x.1=some .local:=by
 rintro ⟨x,k⟩ hx e
 cases e
 exact Kn c.nod hx
theorem JZ {c:Prop} [Decidable c] {n x:Str} {a b:NameKind} {l:List (Str×NameKind)}:List.lookup x ((if c then(n,a) else(n,b))::l)=if x=n then some (if c then a else b) else List.lookup x l:=by
 by_cases h:c
 · rw[if_pos h,if_pos h];exact Cv
 · rw[if_neg h,if_neg h];exact Cv
theorem Ko (sc:Scope) {names:List (Str×NameKind)}:∀ {x:Str} {k:NameKind},names.lookup x=some k→
  (names.map fun(n,k)=>if(k==NameKind.free&&sc.kind== .function&&sc.names.lookup n==some .cell) then(n,NameKind.cell) else(n,k)).lookup x=
   some (if(k==NameKind.free&&sc.kind== .function&&sc.names.lookup x==some .cell) then NameKind.cell else k):=by
 induction names with
 | nil=>exact fun h=>nn h
 | cons p r ih=>
  intro x k h
  refine JZ.trans ?_
  have h:=Cv.symm.trans h
  by_cases e:x=p.1
  · rw[if_pos e] at h⊢;rw[e,←Ab h]
  · rw[if_neg e] at h⊢;exact ih h
theorem Cu.relLoc (c:Cu ts cap s) (sc:Scope) {x:Str} (h:x∈ts):(Xn s sc).names.lookup x=some .local:=by
 refine(Ko sc (Kn c.nod (c.loc h))).trans ?_
 simp
theorem Cu.relFre (c:Cu ts cap s) {sc:Scope} {x:Str} (h:x∈cap) (hk:sc.kind= .function) (hc:sc.names.lookup x=some .cell):(Xn s sc).names.lookup x=some .cell:=by
 refine(Ko sc (Kn c.nod (c.fre h))).trans ?_
 rw[hk,hc];rfl
theorem Nu (sc:Scope) {names:List (Str×NameKind)} {x:Str} (h:names.lookup x=none):
  (names.map fun(n,k)=>if(k==NameKind.free&&sc.kind== .function&&sc.names.lookup n==some .cell) then(n,NameKind.cell) else(n,k)).lookup x=none:=by
 induction names with
 | nil=>rfl
 | cons p r ih=>
  refine JZ.trans ?_
  have h:=Cv.symm.trans h
  by_cases e:x=p.1
  · rw[if_pos e] at h;exact nomatch h
  · rw[if_neg e] at h⊢;exact ih h
theorem Cu.relBack (c:Cu ts cap s) {sc:Scope} {x:Str} (h:(Xn s sc).names.lookup x=some .cell):sc.names.lookup x=some .cell:=by
 cases e:s.names.lookup x with
 | none=>rw[show(Xn s sc).names.lookup x=none from Nu sc e] at h;cases h
 | some k=>
  rw[show(Xn s sc).names.lookup x=_ from Ko sc e] at h
  split at h
  ·
   rename_i q
   simp only [Bool.and_eq_true,beq_iff_eq] at q
   exact q.2
  ·
   cases h
   exact(c.cells _ (mem_of_lookup e) rfl).elim
theorem Cu.nodup (c:Cu ts cap s):(ts++cap).Nodup:=by
 have h1:((s.names.filter fun x=>x.2 != .globalImplicit).map (·.1)).Nodup:=c.nod.sublist (List.filter_sublist.map _)
 rw[c.nm,List.map_append,List.map_cons,List.map_map,List.map_map] at h1
 have e1:List.map ((fun x:Str×NameKind=>x.1)∘fun x=>(x,NameKind.local)) ts=ts:=List.map_id' ts
 have e2:List.map ((fun x:Str×NameKind=>x.1)∘fun x=>(x,NameKind.free)) cap=cap:=List.map_id' cap
 rw[e1,e2,List.cons_append,List.nodup_cons] at h1
 exact h1.2
end
noncomputable def R1 (env:Env) (x:Str) (k:NameKind) (acc:List (Str×Addr)):List (Str×Addr):=if k== .free then(env.cells.lookup x).elim acc fun c=>(x,c)::acc else acc
noncomputable def Ot (env:Env):List (Str×NameKind)→List (Str×Addr)→List (Str×Addr)
 | [],acc=>acc
 | p::r,acc=>Ot env r (R1 env p.1 p.2 acc)
theorem Vp {env:Env} {x y:Str} {k:NameKind} {acc:List (Str×Addr)} (h:(x==y)=false):(R1 env y k acc).lookup x=acc.lookup x:=by
 unfold R1
 by_cases hk:(k== .free)=true
 ·
  rw[if_pos hk]
  cases env.cells.lookup y with
  | none=>rfl
  | some c=>exact List.lookup_cons.trans (by rw[h])
 · rw[if_neg hk]
theorem HW {env:Env} {x:Str} {acc:List (Str×Addr)} (h:acc.lookup x=none):(R1 env x .free acc).lookup x=env.cells.lookup x:=by
 show(Option.elim _ _ _:List (Str×Addr)).lookup x=_
 cases env.cells.lookup x with
 | none=>exact h
 | some c=>exact List.lookup_cons.trans (by rw[beq_self_eq_true])
theorem Ym {env:Env} (f:Str×NameKind→List (Str×Addr)→Sem (ForInStep (List (Str×Addr))))
  (hf:∀ x k cs,f (x,k) cs=if k== .free then(do let a ←cellOf env x;pure (.yield ((x,a)::cs))) else pure (.yield cs)) (names:List (Str×NameKind)):∀(acc:List (Str×Addr)),
  (∀ x,(x,NameKind.free)∈names→(env.cells.lookup x).isSome=true)→(forIn names acc f:Sem _)=pure (Ot env names acc):=by
 induction names with
 | nil=>intro acc _;rw[List.forIn_nil];rfl
 | cons p r ih=>
  intro acc h
  rw[List.forIn_cons,hf]
  show _=pure (Ot env r (R1 env p.1 p.2 acc))
  rw[←ih _ fun y hy=>h y (.tail _ hy)]
  unfold R1
  by_cases hk:(p.2== .free)=true
  ·
   rw[if_pos hk,if_pos hk]
   obtain⟨c,hc⟩:=Ba.mp (h p.1 ((beq_iff_eq.mp hk)▸ .head _))
   unfold cellOf
   rw[hc]
   rfl
  ·
   rw[if_neg hk,if_neg hk]
   rfl
theorem Hz {env:Env} {s:Scope} (h:∀ x,(x,NameKind.free)∈s.names→(env.cells.lookup x).isSome=true):closureFor s env=pure (Ot env s.names []):=by
 unfold closureFor
 dsimp only
 rw[Ym _ (fun x k cs=>rfl) _ _ h]
 rfl
theorem EQ {env:Env} {x:Str} {names:List (Str×NameKind)}:∀ {acc:List (Str×Addr)},(∀ k,(x,k)∉names)→(Ot env names acc).lookup x=acc.lookup x:=by
 induction names with
 | nil=>intro _ _;rfl
 | cons p r ih=>intro acc h;exact(ih fun k q=>h k (.tail _ q)).trans (Vp (beq_eq_false_iff_ne.mpr fun e=>h p.2 (e▸ .head _)))
theorem HY {env:Env} {x:Str} {names:List (Str×NameKind)}:∀ {acc:List (Str×Addr)},(names.map (·.1)).Nodup→(x,NameKind.free)∈names→acc.lookup x=none→(Ot env names acc).lookup x=env.cells.lookup x:=by
 induction names with
 | nil=>intro _ _ h _;exact nomatch h
 | cons p r ih=>
  intro acc hn h ha
  rw[List.map_cons,List.nodup_cons] at hn
  rcases Ag.mp h with e | e
  ·
   rw[←e] at hn⊢
   exact(EQ fun k q=>hn.1 (Bc.mpr ⟨_,q,rfl⟩)).trans (HW ha)
  · exact ih hn.2 e ((Vp (beq_eq_false_iff_ne.mpr fun q=>hn.1 (Bc.mpr ⟨_,e,q⟩))).trans ha)
section
variable {prog:Program} {w:World} {A:Bm} {R:Result→Bk→Prop}
theorem Td {elt target iter:Expr} {ifs:List Expr} {scope:Scope} {pos:Pos} {it acc:Bq} {env:Env} (I:Nat→Bk→Prop)
  (turn:∀ n s,I n s→wpAny (model prog w) A (pyNext it) (fun r s₁=>match r with
   | none=>R (.ok .next) s₁
   | some v=>wpAny (model prog w) A (letOwnedTupleGo target it v) (fun Z s₁'=>wpAny (model prog w) A (assign target env v) (fun Z s₂=>
     wpAny (model prog w) A (forIn ifs true fun c r=>if r=true then do let ok ←isTrue c env (eval c env);pure (ForInStep.yield ok) else pure (ForInStep.yield r)) (fun ok s₃=>
      if ok=true then wpAny (model prog w) A (eval elt env) (fun x s₄=>
       wpAny (model prog w) A (call (.builtin "list.append") [acc,x]) (fun Z s₅=>∃ m,m < n∧I m s₅) (fun Z Z=>False) s₄) (fun Z Z=>False) s₃
      else ∃ m,m < n∧I m s₃) (fun Z Z=>False) s₂) (fun Z Z=>False) s₁') (fun Z Z=>False) s₁) (fun Z Z=>False) s)
  (n:Nat) {s:Bk} (h:I n s):codeAny (model prog w) A (.compLoop (.ListComp elt [⟨target,iter,ifs,0⟩] scope pos) 0 it acc env) R s:=by
 refine codeAny_loop rfl I (fun n s hI=>?_) n h
 show wpAny _ A ((compTurn (.ListComp elt [⟨target,iter,ifs,0⟩] scope pos) 0 it acc env).onRaise (fun x=>do noteFrame x env;theTreesLotGoes x)) _ _ s
 refine wpAny_noted ?_
 rw[compTurn_list]
 have no:∀ {E:Bq→Bk→Prop} (e:Bq) (s:Bk),False→E e s:=fun Z Z f=>f.elim
 refine Bh (wpAny_standAt (Bh (wpAny_mono (turn n s hI) (fun r s₁ h₁=>?_) no)))
 cases r with
 | none=>exact Bi h₁
 | some v=>
  refine Bh (wpAny_mono h₁ (fun Z s₁' h₁'=>?_) no)
  refine Bh (wpAny_mono h₁' (fun Z s₂ h₂=>Bh (wpAny_mono h₂ (fun ok s₃ h₃=>?_) no)) no)
  cases ok with
  | false=>
   rw[if_neg (by decide)] at h₃
   exact Bi ⟨rfl,h₃⟩
  | true=>
   rw[if_pos rfl] at h₃
   exact Bh (Bh (wpAny_mono h₃ (fun x s₄ h₄=>Bh (wpAny_mono h₄ (fun Z s₅ h₅=>Bi (Bi ⟨rfl,h₅⟩)) no)) no))
end
noncomputable def Yb (W:Wd) (b:Addr):Prop:=∃ o,W.S b=some (.any (· =o))
noncomputable def Fx (W:Wd) (b:Addr):Prop:=(∃ o,W.F b o)∨Yb W b
structure Hw (G:Gx) (wr:List Addr) (W W':Wd):Prop where
 inv:B6 G W'
 F:W.F.le W'.F
 bs:W'.bs=W.bs
 σ:W'.σ=W.σ
 S:∀ b,b∉wr→W'.S b=W.S b
 rest:∀ h t,{W'.s with heap:=h,toks:=t}={W.s with heap:=h,toks:=t}
noncomputable abbrev Wd.its (W:Wd) (l:List Addr) (f:Addr→Option D2) (h:Heap) (t:Nat):Wd:={W with S:=fun b=>if b∈l then f b else W.S b,s:={W.s with heap:=h,toks:=t}}
section
variable {G:Gx} {W W' W0:Wd} {wr m:List Addr} {b:Addr} {o:Obj}
theorem Fx.same (I:B6 G W) (I':B6 G W') (L:Le m W W') (hm:b∉m) (e:W.s.heap.get? b=some o):Fx W b→W'.s.heap.get? b=some o
 | .inl ⟨x,h⟩=>(I'.fh _ _ (L.F _ _ h)).trans ((I.fh _ _ h).symm.trans e)
 | .inr ⟨x,h⟩=>(I.sh _ _ h).elim fun y hy=>(I'.sh _ _ (L.keep _ _ h (fun q=>nomatch q) hm)).elim fun z hz=>hz.1.trans (congrArg some (hz.2.trans (hy.2.symm.trans (Ab (hy.1.symm.trans e)))))
theorem Yb.le (L:Le m W W') (hm:b∉m):Yb W b→Yb W' b:=fun⟨o,h⟩=>⟨o,L.keep b _ h (fun q=>nomatch q) hm⟩
theorem Fx.le (L:Le m W W') (hm:b∉m):Fx W b→Fx W' b:=Or.imp (fun⟨o,h⟩=>⟨o,L.F _ _ h⟩) (.le L hm)
theorem Hw.its {f:Addr→Option D2} {h:Heap} {t:Nat} (I:B6 G W) (hl:∀ b∈wr,(∀ o,¬ W.F b o)∧(∀ d,W.S b=some d→d.kd≠0)∧∀ c,f b=some c→∃ o,h.get? b=some o∧c.ok G.w o) (k:∀ b,b∉wr→∀ o,W.s.heap.get? b=some o→h.get? b=some o):Hw G wr W (W.its wr f h t):=
 have nf {b:Addr} {o:Obj} (q:W.F b o):b∉wr:=fun e=>(hl b e).1 o q
 have nk {b:Addr} {c:D2} (q:W.S b=some c) (z:c.kd=0):b∉wr:=fun e=>(hl b e).2.1 c q z
 ⟨⟨fun b x q=>k b (nf q) x (I.fh b x q),fun b x q=>(if_neg (nf q)).trans (I.fs b x q),fun b c e=>if q:b∈wr then(hl b q).2.2 c ((if_pos q).symm.trans e) else(I.sh b c ((if_neg q).symm.trans e)).imp fun o x=>⟨k b q o x.1,x.2⟩,I.old,
  fun i mo q=>(I.sto i mo q).imp fun ab h=>h.imp fun c x=>⟨x.1,(if_neg (nk x.2.1 x.2.2.kd)).trans x.2.1,x.2.2⟩,I.len,I.inj,I.tab.imp fun c x=>⟨(if_neg (nk x.1 rfl)).trans x.1,x.2⟩⟩,fun Z Z h=>h,rfl,rfl,fun b n=>if_neg n,fun Z Z=>rfl⟩
theorem Le.turn0 (L:Le m W0 W) (h0:∀ b∈wr,∀ c,W0.S b=some c→c.kd=0) (T:Hw G wr W W'):Le m W0 W':=
 have e {b:Addr} {c:D2} (h:W0.S b=some c) (k:c.kd≠0):W'.S b=W.S b:=T.S b fun q=>k (h0 b q c h)
 ⟨fun Z Z h=>T.F _ _ (L.F _ _ h),T.bs▸L.bs,fun a c h k=>(L.kd a c h k).imp fun d x=>⟨(e h k).trans x.1,x.2⟩,fun a c h k n=>(e h k).trans (L.keep a c h k n),fun h t=>(T.rest h t).trans (L.rest h t)⟩
theorem Le.turn (L:Le m W0 W) (h0:∀ b∈wr,W0.S b=none) (T:Hw G wr W W'):Le m W0 W':=L.turn0 (fun b hb c e=>nn ((h0 b hb).symm.trans e)) T
theorem At.turn {K:Kx} {ρ:List RV} (S:At K W ρ) (hp:∀ b∈wr,∀ c,W.S b=some c→c.kd=3) (hm:∀ b∈wr,b∉K.mine) (T:Hw K.G wr W W'):At K W' ρ:=
 have up {a:Addr} {c:D2} (h:W.S a=some c) (n:c.kd≠3):W'.S a=some c:=(T.S a fun q=>n (hp a q c h)).trans h
 ⟨T.inv,fun e he=>(S.frs e he).imp id fun h=>h.imp fun L h=>h.imp fun f h=>⟨h.1,up h.2 (fun q=>nomatch q)⟩,S.len,S.val.imp fun f h=>⟨up h.1 (fun q=>nomatch q),fun k x r a b c=>(h.2 k x r a b c).imp fun v h=>⟨h.1.up T.F ⟨[],T.bs.trans (Aj _).symm⟩,h.2.imp id fun h=>⟨h.1,h.2.imp fun c h=>⟨h.1,h.2.imp (fun h=>⟨up h.1 (fun q=>nomatch q),h.2⟩) fun h=>h.up T.F⟩⟩⟩⟩,
  fun x hx=>(S.cel x hx).imp fun c h=>h.imp fun v h=>⟨h.1,h.2.1,up h.2.2 (fun q=>nomatch q)⟩,fun a ha=>(S.own a ha).imp fun c h=>⟨(T.S a fun q=>hm a q ha).trans h.1,h.2⟩⟩
theorem Go.freeze {d:Addr} {p:Obj→Prop} (g:Go G [] W0 W) (h0:∀ x,W0.S d=some x→x.kd=0) (hs:W.S d=some (.any p)):∃ o,W.s.heap.get? d=some o∧p o∧Go G [] W0 (W.fix d o):=(g.inv.sh _ _ hs).imp fun o ho=>
 have ne {a:Addr} {c:D2} (h:W.S a=some c) (k:c.kd=0):a≠d:=fun e=>nomatch (show(3:Nat)=0 from(Ab (hs.symm.trans ((congrArg W.S e).symm.trans h))▸k:(D2.any p).kd=0))
 ⟨ho.1,ho.2,g.inv.fix ho.1 (fun i ab hi=>(g.inv.sto i _ (Ar (g.inv.len▸(Ah.mp hi).1))).elim fun ab' h=>h.elim fun c h=>ne (Ab (hi.symm.trans h.1)▸h.2.1) h.2.2.kd) (fun e=>g.inv.tab.elim fun c h=>ne h.1 rfl e.symm),g.le.fix h0⟩
end
structure HC (G:Gx) (A:Bm) (tg:Expr) (I:Addr) (wr:List Addr) (W0:Wd) (l:List MV) (St:Nat→Heap→Prop) (fp:List Addr):Prop where
 item:∀ {i:Nat} {m:MV} {W:Wd} {Q:Bq→Bk→Prop} {E:Bq→Bk→Prop},l[i]?=some m→B6 G W→W0.F.le W.F→(∀ b∈wr,Yb W b)→St i W.s.heap→(∀ v W',Hw G wr W W'→(∀ b∈wr,Yb W' b)→St (i+1) W'.s.heap→VR W'.F m v→Q v W'.s)→
  wpAny (model prog G.w) A (pyNext (.ref I)) (fun r s1=>∃ v,r=some v∧wpAny (model prog G.w) A (letOwnedTupleGo tg (.ref I) v) (fun Z s2=>Q v s2) E s1) E W.s
 done:∀ {W:Wd} {Q:Option Bq→Bk→Prop} {E:Bq→Bk→Prop},B6 G W→(∀ b∈wr,Yb W b)→St l.length W.s.heap→(∀ W',Hw G wr W W'→Q none W'.s)→wpAny (model prog G.w) A (pyNext (.ref I)) Q E W.s
 self:∀ {i:Nat} {s:Bk} {Q:Bq→Bk→Prop} {E:Bq→Bk→Prop},St i s.heap→Q (.ref I) s→wpAny (model prog G.w) A (pyIter (.ref I)) Q E s
 frame:∀ {i:Nat} {h h':Heap},St i h→(∀ b∈fp,∀ o,h.get? b=some o→h'.get? b=some o)→St i h'
 fpk:∀ b∈fp,b∈wr∨Fx W0 b
section
variable {K:Kx} {W:Wd} {ρ c:List RV} {ts cap:List Str} {caps:List Nat} {s:Scope}
theorem BA {k:Nat} {caps:List Nat} {c:List RV} {P:Prop} (h:Eh ρ (k::caps)=some c) (z:∀ r l,ρ[k]?=some r→r≠ .un→Eh ρ caps=some l→r::l=c→P):P:=by
 have h:(match ρ[k]?,Eh ρ caps with
  | some (.v m),some l=>some (.v m::l)
  | some (.loc q),some l=>some (.loc q::l)
  | _,_=>none)=some c:=h
 cases e1:ρ[k]? with
 | none=>rw[e1] at h;exact nn h
 | some r=>
  cases e2:Eh ρ caps with
  | none=>rw[e1,e2] at h;cases r<;>exact nn h
  | some l=>rw[e1,e2] at h;cases r with
   | un=>exact nn h
   | v m=>exact z _ l e1 (fun q=>nomatch q) e2 (Ab h)
   | loc m=>exact z _ l e1 (fun q=>nomatch q) e2 (Ab h)
theorem Tc {ns:List Str} {sc:Scope} {caps:List Nat}:∀ {cap:List Str} {c:List RV},Iw ns sc caps cap=true→Eh ρ caps=some c→c.length=cap.length∧∀(j:Nat) (x:Str) (r:RV),cap[j]?=some x→c[j]?=some r→∃ i:Nat,ns[i]?=some x∧ρ[i]?=some r∧sc.names.lookup x=some .cell∧r≠ .un:=by
 induction caps with
 | nil=>
  intro cap c ho h
  cases cap with
  | nil=>exact Ab h▸⟨rfl,fun j x r hx=>nomatch hx⟩
  | cons _ _=>exact ff ho
 | cons k caps ih=>
  intro cap c ho h
  cases cap with
  | nil=>exact ff ho
  | cons y cap=>
   exact BA h fun r l e1 hu e2 e=>e▸by
    have i:=ih (b2 ho).2 e2
    refine⟨congrArg Nat.succ i.1,fun j x r' hx hr=>?_⟩
    cases j with
    | zero=>exact Ab hx▸Ab hr▸⟨k,Pz (b2 (b2 ho).1).1,e1,beq_iff_eq.mp (b2 (b2 ho).1).2,hu⟩
    | succ j=>exact i.2 j x r' hx hr
theorem Oq (S:At K W ρ) (ho:Iw K.ns K.env.scope caps cap=true) (hc:Eh ρ caps=some c) {j:Nat} {x:Str} {r:RV} (hx:cap[j]?=some x) (hr:c[j]?=some r):
  K.env.scope.names.lookup x=some .cell∧∃ v,Cj W r v∧∃ a,K.env.cells.lookup x=some a∧Lz K.dp W x a v:=
 ((Tc ho hc).2 j x r hx hr).elim fun i h=>⟨h.2.2.1,S.val.elim fun f hf=>(hf.2 i x r h.1 h.2.1 h.2.2.2).imp fun v q=>⟨q.1,q.2.elim (fun q=>nomatch (show some NameKind.cell=some .local from h.2.2.1.symm.trans q.1)) fun q=>q.2⟩⟩
theorem BB (S:At K W ρ) (ho:Iw K.ns K.env.scope caps cap=true) (hc:Eh ρ caps=some c) {x:Str} (h:x∈cap):∃ v a,K.env.cells.lookup x=some a∧Lz K.dp W x a v:=
 (List.getElem_of_mem h).elim fun j h=>h.elim fun hj e=>(Oq S ho hc ((Ar hj).trans (congrArg some e)) (Ar ((Tc ho hc).1.symm▸hj))).2.imp fun v h=>h.2
noncomputable abbrev Kx.comp (K:Kx) (s:Scope) (C:Addr) (ns:List Str):Kx:={K with env:=compEnvC s (Ot K.env s.names []) C K.env,ns:=ns,ac:=[],mine:=[C]}
variable {C:Addr}
theorem Ow (sc:Cu ts cap s) {x:Str} (h:x∈cap):(Ot K.env s.names []).lookup x=K.env.cells.lookup x:=HY sc.nod (sc.fre h) rfl
theorem IE (hK:Ff K) (sc:Cu ts cap s) (S:At K W ρ) (ho:Iw K.ns K.env.scope caps cap=true) (hc:Eh ρ caps=some c) (hC:W.s.heap.get? C=none):Ff (K.comp s C (ts++cap)):=
 ⟨hK.call,⟨hK.glob.1,fun q=>hK.glob.2 (sc.relBack q)⟩,hK.blt,sc.kind,sc.nodup,.head _,fun x hx a ha hk hm=>(List.mem_append.mp hx).elim (fun q=>hk.elim (fun h=>nomatch (sc.relLoc K.env.scope q).symm.trans h) fun h=>nomatch (sc.relLoc K.env.scope q).symm.trans h)
  fun q=>(BB S ho hc q).elim fun v h=>h.elim fun a' h=>(show False from
   have e:a'=C:=(Ab (h.1.symm.trans ((Ow sc q).symm.trans ha))).trans (Ae.mp hm)
   (S.inv.cell h.2).elim fun o ho=>nn (hC.symm.trans (e▸ho.1))).elim,fun x hx=>nomatch hx⟩
theorem QW {W1:Wd} {f:Str→Option Bq} (hK:Ff K) (sc:Cu ts cap s) (S:At K W ρ) (ho:Iw K.ns K.env.scope caps cap=true) (hc:Eh ρ caps=some c) (g:Go K.G [] W W1) (hf:W1.S C=some (.ns f)):At (K.comp s C (ts++cap)) W1 (Ao ts.length .un++c):=
 have hl:=(Tc ho hc).1
 ⟨g.inv,S.frs.le g.le,by rw[Ai,Ai,List.length_replicate,hl],⟨f,hf,fun k x r hx hr hu=>by
  by_cases hk:k < ts.length
  ·
   rw[A5 ((List.length_replicate).symm▸hk),List.getElem?_replicate,if_pos hk] at hr
   exact(hu (Ab hr).symm).elim
  ·
   have hk':=Nat.le_of_not_lt hk
   rw[Az ((List.length_replicate).symm▸hk'),List.length_replicate] at hr
   rw[Az hk'] at hx
   exact(Oq S ho hc hx hr).2.imp fun v h=>⟨g.v h.1,.inr ⟨.inl (sc.relFre (List.mem_of_getElem? hx) hK.kind (Oq S ho hc hx hr).1),h.2.imp fun a h=>⟨(Ow sc (List.mem_of_getElem? hx)).trans h.1,g.le.celv List.not_mem_nil h.2⟩⟩⟩⟩,
  (fun x hx=>nomatch hx),fun a ha=>⟨.ns f,(Ae.mp ha:a=C).symm▸hf,(fun q=>nomatch q),fun q=>nomatch q⟩⟩
theorem Ov (sc:Cu ts cap s) (S:At K W ρ) (ho:Iw K.ns K.env.scope caps cap=true) (hc:Eh ρ caps=some c):∀ x,(x,NameKind.free)∈s.names→(K.env.cells.lookup x).isSome=true:=fun x hx=>
 (sc.mem hx).elim (fun q=>nomatch q) fun q=>q.elim (fun q=>nomatch q) fun q=>q.elim (fun q=>nomatch q.1) fun q=>(BB S ho hc q.2).elim fun v h=>h.elim fun a h=>Ba.mpr ⟨a,h.1⟩
end
theorem T8 {α:Type} {P:Prop} {o:B1 α} {G:Gx} {m:List Addr} {W:Wd} {β:Type} {γ:Type} {Rel:Wd→β→γ→Prop} {Q:γ→Bk→Prop} {E:Bq→Bk→Prop} {g:α→Bu→B1 β} (H:Br G m W Rel Q E ((Zf o).bind g)) (k:∀ a σ,o= .ok a σ→Br G m W Rel Q E (g a σ)→P):P:=by
 cases o with
 | ok a σ=>exact k a σ rfl H
 | exc _ _=>exact H.elim
 | no=>exact H.elim
theorem Fk {α β:Type} {P:Prop} {o:B1 α} {g:α→Bu→B1 β} {b:β} {τ:Bu} (h:o.bind g= .ok b τ) (k:∀ a σ,o= .ok a σ→g a σ= .ok b τ→P):P:=by
 cases o with
 | ok a σ=>exact k a σ rfl h
 | _=>exact nomatch h
theorem Mz {P:Prop} {g:MV→Bu→B1 Bool} {f:MV→Bu→B1 RV} {m:MV} {l xs:List MV} {σ τ:Bu} (h:Hc g f (m::l) σ= .ok xs τ) (k1:∀ σ1,g m σ= .ok false σ1→Hc g f l σ1= .ok xs τ→P)
  (k2:∀ σ1 x σ2 r,g m σ= .ok true σ1→f m σ1= .ok (.v x) σ2→Hc g f l σ2= .ok r τ→x::r=xs→P):P:=
 Fk h fun b σ1 e1 h1=>by
  cases b with
  | false=>exact k1 σ1 e1 h1
  | true=>
   exact Fk h1 fun r σ2 e2 h2=>by
    cases r with
    | v x=>exact Fk h2 fun xs' σ3 e3 h3=>have q:=B1.ok.inj (show B1.ok (x::xs') σ3= .ok xs τ from h3);k2 σ1 x σ2 xs' e1 e2 (e3.trans (congrArg (B1.ok xs') q.2)) q.1
    | _=>exact nk h2
structure Oe (K:Frag) (C:Addr) (names:List Str):Prop where
 sa:findIn K (.ref C) "__setattr__"=some (some (.builtin "object.__setattr__"))
 cd:∃ cd,clsIn K C=some cd∧cd.hasDict=true∧cd.mro.isEmpty=false∧cd.mro.contains (.type "object")=true∧∀ self,refuseLoop self "__setattr__" cd.mro=pure ()
 tk:∀ n∈names,takerIn K C n=some none
theorem MJ {w:World} {A:Bm} {s:Bk} {K:Frag} {x C:Addr} {R:Result→Bk→Prop} {ox:Obj} {od:Option Obj} {name:Str} {tk:Tok} {v:Bq} {cd:ClassData} (X:K.In s.heap) (I:InstAt s.heap x ox C od) (hc:clsIn K C=some cd) (ne:cd.mro.isEmpty=false) (ho:cd.mro.contains (.type "object")=true)
  (hrf:∀ self,refuseLoop self "__setattr__" cd.mro=pure ()) (ht:takerIn K C name=some none)
  (h:∀ b,wpAny (model prog w) A.in1 (Builtin.ObjectAttr.storeInOwnDict (.ref x) (.ref C) (.str name tk) name v b)
   (fun fin s'=>match fin with | .done f=>R (.ok f) s' | .again c'=>c'.quiet=true∧codeAny (model prog w) A c' R s') (fun e s'=>R (.error e) s') s):
  codeAny (model prog w) A (.call (.builtin "object.__setattr__") ⟨[.ref x,.str name tk,v],[]⟩) R s:=by
 have SF:=PySem.F.store_object
 have sub:Looks (model prog w) s.heap (isInstance (.ref x) (.type "object")) true:=I.type.andThen (looks_mroIn X (by unfold mroIn;rw[hc,Option.bind_some,if_neg (by rw[ne];decide),ho]))
 refine codeAny_call_builtin SF.slot.plain SF.entry (@check_slot (model prog w) _ _ s "object.__setattr__" "object" "__setattr__" (.ref x) [.str name tk,v] [] _ SF.kind SF.split sub (SF.args (.ref x) (.str name tk) v) ?_)
 obtain⟨attr,ha,hr⟩:=Aq.mp ht
 have hm:Looks (model prog w) s.heap (mroOf (.ref C)) cd.mro:=(looks_clsIn X hc).andThen .now
 have L3:Looks (model prog w) s.heap (Builtin.ObjectAttr.storeTaker? attr) none:=by
  cases attr with
  | none=>exact .now
  | some a=>
   clear ha
   obtain⟨b,hb,hb2⟩:=A9.mp hr
   refine(looks_takesIn X hb).andThen ?_
   clear hb hr
   cases b
   · exact .now
   · exact nn hb2.symm
 rw[osa_eq,refuse_eq]
 refine Bh (Bh (I.type.here (Bh (hm.here ?_))))
 rw[hrf]
 exact Bi (Bh (I.type.here (Bh ((looks_findIn X ha).here (Bh (L3.here (h _)))))))
theorem Qh {name:Str} {hsh:Int} {key v:Bq}:∀ {es:List Bl},(∀ e∈es,e.key.isStr name=false)→putL name hsh key v es=es++[⟨hsh,key,v⟩]
 | [],_=>rfl
 | e::es,h=>by
  unfold putL
  rw[h e (.head _),if_neg Bool.false_ne_true,Qh fun e' he=>h e' (.tail _ he)]
  rfl
theorem OB {w:World} {A:Bm} {s:Bk} {K:Frag} {x C dx:Addr} {sl:Array (Option Bq)} {es:List Bl} {n:Nat} {name:Str} {names:List Str} {v:Bq} {E:Bq→Bk→Prop} {dt:Data} {Q:Unit→Bk→Prop} (X:K.In s.heap) (f:Oe K C names) (hn:name∈names) (hx:s.heap.get? x=some {cls:=.ref C,dict:=some dx,data:=dt,slots:=sl}) (hdt:∀ cd,dt≠ .cls cd)
  (hd:s.heap.get? dx=some (dictOf es n)) (hr:∀ e∈es,e.refKey=false) (hnew:∀ e∈es,e.key.isStr name=false) (hz:es.length≤100)
  (h:∀ h' t' e n',C8 dx s.heap h'→h'.get? dx=some (dictOf (es++[e]) n')→(∃ t,e.key= .str name t)→e.val=v→Q () {s with heap:=h',toks:=t'}):wpAny (model prog w) A (setAttr (.ref x) name v) Q E s:=by
 have I:InstAt s.heap x {cls:=.ref C,dict:=some dx,data:=dt,slots:=sl} C (some (dictOf es n)):=⟨hx,rfl,by unfold notCls;cases dt<;>first | rfl | exact(hdt _ rfl).elim,hd⟩
 refine set_plain X I f.sa ?_
 clear hdt
 obtain⟨cd,hc,hd',c1,c2,c3⟩:=f.cd
 refine MJ (s:={s with toks:=s.toks+1}) X I hc c1 c2 c3 (f.tk _ hn) fun b=>?_
 refine Bh (Bi (Bh (Bh (wpAny_loadPart hx (Bh (Looks.here (s:={s with toks:=s.toks+1}) (looks_clsIn X hc) ?_))))))
 rw[hd']
 refine Bi (a:=some dx) (Bh (Bi (Bh ?_)))
 unfold nsSet
 refine Bh (Bh (wpAny_askSetting (Bi (Bh (wpAny_mkText (Bh (wpAny_loadPart hd ?_)))))))
 have hq:es.toArray.any (·.refKey)=false:=by
  rw[←Array.any_toList,List.any_eq_false]
  exact fun e he q=>nomatch (hr e he).symm.trans q
 dsimp only
 rw[aRefKeyMayBeTheName_at,hq,Bool.and_false]
 refine wpAny_updatePart hd ?_
 have hput:=putName_dict name (PyData.keyHash w.params name) (.str name (s.toks+1)) v es n
 rw[Qh hnew] at hput
 have D':=Heap.get?_update_self (Obj.putName name (PyData.keyHash w.params name) (.str name (s.toks+1)) v) hd (by rw[hput];rfl)
 rw[hput] at D'
 exact Bh (wpAny_lookBehind D' (pastItsLine_dict (by rw[List.size_toArray,sizeLine_eq,Ai,List.length_singleton];exact Ad (Nat.succ_le_succ hz) (of_decide_eq_true rfl))) (Bi (h _ (s.toks+2) ⟨PyData.keyHash w.params name,.str name (s.toks+1),v⟩ _ (fun b o hb e=>(Heap.get?_update_other _ _ (Ne.symm hb)).trans e) D' ⟨_,rfl⟩ rfl)))
noncomputable def tJ (ns:List Str) (sc:Scope):Option Nat→Expr→Bool
 | some k,v=>Dj v fun y Z=>Hm ns sc k y
 | none,v=>Ug v fun xs vs Z=>nil xs&&nil vs
noncomputable def qD (ns:List Str) (sc:Scope):List (Str×Option Nat)→List Stmt→Bool
 | [],ss=>nil ss
 | (n,o)::r,ss=>IF ss fun s ss=>(P8 s fun l v Z=>(one l fun t=>Ie t fun a m Z=>decide (n=m)&&Dj a fun x Z=>Hm ns sc 0 x)&&tJ ns sc o v)&&qD ns sc r ss
noncomputable def Ju (P:B9) (ρ:List RV):Option Nat→Bq→Prop
 | some k,v=>∃ m,ρ[k]?=some (.v m)∧VR P m v
 | none,v=>∃ a,v= .ref a
noncomputable def Nj (P:B9) (ρ:List RV):List (Str×Option Nat)→List Bl→Prop
 | [],es=>es=[]
 | (n,o)::r,es=>∃ e es',es=e::es'∧(∃ t,e.key= .str n t)∧Ju P ρ o e.val∧Nj P ρ r es'
section
variable {P P':B9} {ρ:List RV}
theorem Ju.up (x:P.le P'):∀ {o:Option Nat} {v:Bq},Ju P ρ o v→Ju P' ρ o v
 | some _,_,⟨m,e,h⟩=>⟨m,e,VR.up x _ h⟩
 | none,_,h=>h
theorem Nj.up (x:P.le P') {l:List (Str×Option Nat)}:∀ {es:List Bl},Nj P ρ l es→Nj P' ρ l es:=by
 induction l with
 | nil=>exact fun h=>h
 | cons p r ih=>exact fun h=>h.imp fun e h=>h.imp fun es' h=>⟨h.1,h.2.1,h.2.2.1.up x,ih h.2.2.2⟩
theorem Nj.snoc {e:Bl} {n:Str} {o:Option Nat} (h1:∃ t,e.key= .str n t) (h2:Ju P ρ o e.val):∀ {l:List (Str×Option Nat)} {es:List Bl},Nj P ρ l es→Nj P ρ (l++[(n,o)]) (es++[e])
 | [],_,h=>⟨e,[],congrArg (· ++[e]) (show _=[] from h),h1,h2,rfl⟩
 | (n',o')::r,_,⟨e',es',q,k,v,h⟩=>⟨e',es'++[e],congrArg (· ++[e]) q,k,v,Nj.snoc h1 h2 h⟩
theorem Nj.keys {l:List (Str×Option Nat)}:∀ {es:List Bl},Nj P ρ l es→(∀ e∈es,e.refKey=false)∧(∀ name,name∉l.map (·.1)→∀ e∈es,e.key.isStr name=false)∧es.length=l.length:=by
 induction l with
 | nil=>exact fun h=>(show _=[] from h)▸⟨fun Z q=>(nomatch q),fun Z Z Z q=>(nomatch q),rfl⟩
 | cons p r ih=>
  exact fun h=>h.elim fun e h=>h.elim fun es' h=>h.2.1.elim fun t h1=>by
   have i:=ih h.2.2.2
   rw[h.1]
   exact⟨fun e' he=>(Ag.mp he).elim (fun q=>by rw[q];unfold Bl.refKey;rw[h1]) (i.1 e'),fun name hn e' he=>(Ag.mp he).elim (fun q=>by
    rw[q,Mn h1,←Bool.not_eq_true,Ch]
    exact fun z=>hn (z▸ .head _)) (i.2.1 name (fun q=>hn (.tail _ q)) e'),congrArg Nat.succ i.2.2⟩
end
noncomputable def Q8 (es:List Bl) (o:Obj):Prop:=∃ n,o=dictOf es n
structure ZD (fx:Bool) (K:Kx) (Wb W:Wd) (ρ:List RV) (x dx C:Addr) (dt:Data) (es:List Bl) (l:List (Str×Option Nat)):Prop where
 at_:At K W ρ
 go:Go K.G [] Wb W
 self:ρ[0]?=some (.v (.val (.ref x)))
 new:∀ c,Wb.S dx=some c→c.kd=0
 inst:∃ sl,fx=true∧W.F x {cls:=.ref C,dict:=some dx,data:=dt,slots:=sl}∨fx=false∧W.S x=some (.any (· ={cls:=.ref C,dict:=some dx,data:=dt,slots:=sl}))
 ne:x≠dx
 dic:W.S dx=some (.any (Q8 es))
 es:Nj W.F ρ l es
section
variable {fx:Bool} {K:Kx} {Wb W:Wd} {ρ:List RV} {x dx C:Addr} {dt:Data} {es:List Bl} {l done:List (Str×Option Nat)} {F:Frag} {names:List Str} {E:Bq→Bk→Prop}
theorem GJ {n:Str} {o:Option Nat} {w:Bq} {X':Str} {xp ap:Pos} {Q:Unit→Bk→Prop} (hK:Ff K) (X:F.In K.G.hB) (f:Oe F C names) (hn:n∈names) (hdt:∀ cd,dt≠ .cls cd) (hm:dx∉K.mine) (T:ZD fx K Wb W ρ x dx C dt es done) (hx:Hm K.ns K.env.scope 0 X'=true) (hnew:n∉done.map (·.1)) (hlen:done.length≤100) (hw:Ju W.F ρ o w)
  (h:∀ W' es',W'.σ=W.σ→ZD fx K Wb W' ρ x dx C dt es' (done++[(n,o)])→Q () W'.s):Wp K (assign (.Attribute (.Name X' xp) n ap) K.env w) Q E W:=by
 rw[arm_assign_Attribute]
 refine Gl (A:=K.A) (M:=model prog K.G.w) hK T.at_ hx T.self (fun q=>nomatch q) fun v hv he=>?_
 obtain rfl:=(show v= .ref x from hv)
 refine Bh (Bj (he (Bh (wpAny_standAt (Bh (Bj ?_))))))
 obtain⟨sl,hi⟩:=T.inst
 obtain⟨_,hd,n0,rfl⟩:=T.at_.inv.sh _ _ T.dic
 obtain⟨k1,k2,k3⟩:=T.es.keys
 refine OB (X.keeps T.at_.inv.stays) f hn (hi.elim (fun hi=>T.at_.inv.fh _ _ hi.2) fun hi=>(T.at_.inv.sh _ _ hi.2).elim fun o q=>q.1.trans (congrArg some q.2)) hdt hd k1 (k2 n hnew) (k3▸hlen) fun h' t' e n' hs hd' hk hv=>wpAny_release ?_
 have Tn:Hw K.G [dx] W (W.its [dx] (fun Z=>some (.any (Q8 (es++[e])))) h' t'):=.its T.at_.inv (fun b hb=>(Ae.mp hb:b=dx).symm▸⟨T.at_.inv.nof T.dic,(fun d q=>Ab (T.dic.symm.trans q)▸fun q=>nomatch q),fun c q=>⟨_,hd',Ab q▸⟨n',rfl⟩⟩⟩) fun b hb o q=>hs b o (fun z=>hb (Ae.mpr z)) q
 exact h (W.its [dx] (fun Z=>some (.any (Q8 (es++[e])))) h' t') (es++[e]) rfl ⟨T.at_.turn (fun b hb c q=>Ab (T.dic.symm.trans ((Ae.mp hb:b=dx)▸q))▸rfl) (fun b hb q=>hm ((Ae.mp hb:b=dx)▸q)) Tn,⟨Tn.inv,T.go.le.turn0 (fun b hb=>(Ae.mp hb:b=dx).symm▸T.new) Tn⟩,T.self,T.new,⟨sl,hi.imp id fun hi=>⟨hi.1,(Tn.S x fun q=>T.ne (Ae.mp q)).trans hi.2⟩⟩,T.ne,if_pos (.head _),T.es.snoc hk (hv▸hw)⟩
theorem Ii {env:Env} {o:Expr} {n:Str} {p:Pos} {v:Expr}:swappedStores [.Attribute o n p] v env=pure none:=by cases v<;>rfl
theorem Pu (hK:Ff K) (X:F.In K.G.hB) (f:Oe F C names) (hdt:∀ cd,dt≠ .cls cd) (hm:dx∉K.mine) {l:List (Str×Option Nat)}:∀ {ss:List Stmt} {done:List (Str×Option Nat)} {es:List Bl} {W:Wd} {Q:PySem.Flow→Bk→Prop},qD K.ns K.env.scope l ss=true→ZD fx K Wb W ρ x dx C dt es done→(∀ p∈l,p.1∈names)→((done++l).map (·.1)).Nodup→(done++l).length≤100→(∀ n k,(n,some k)∈l→∃ m,ρ[k]?=some (.v m))→
  (∀ W' es',W'.σ=W.σ→ZD fx K Wb W' ρ x dx C dt es' (done++l)→Q .next W'.s)→Wp K (execs ss K.env) Q E W:=by
 induction l with
 | nil=>exact fun {ss done es W Q} ht T hn hd hz hv h=>Cc ht▸wpAny_execs_nil (h W es rfl ((Aj done).symm▸T))
 | cons p l ih=>
  obtain⟨n,o⟩:=p
  exact fun {ss0 done es W Q} ht0 T hn hd hz hv h=>Oz ht0 fun s ss e0 ht=>Hq (b2 ht).1 fun ts v p e1 h1=>Dr (b2 h1).1 fun t e2 h2=>D7 h2 fun a m q e3 h3=>B5 (b2 h3).2 fun y yp e4 h4=>by
   have e:ss0= .Assign [.Attribute (.Name y yp) n q] v p::ss:=by rw[e0,e1,e2,e3,e4,show n=m from of_decide_eq_true (b2 h3).1]
   rw[e]
   have hnew:n∉done.map (·.1):=fun q=>(List.nodup_append.mp (List.map_append▸hd:(done.map (·.1)++((n,o)::l).map (·.1)).Nodup)).2.2 n q n (.head _) rfl
   have ea:done++(n,o)::l=(done++[(n,o)])++l:=(Ak done [(n,o)] l).symm
   have hl:done.length≤100:=Ad (Ai▸A4 ..) hz
   have go {W0:Wd} {w:Bq} (T0:ZD fx K Wb W0 ρ x dx C dt es done) (e0:W0.σ=W.σ) (hw:Ju W0.F ρ o w):Wp K (assign (.Attribute (.Name y yp) n q) K.env w) (fun Z s1=>Wp K (execs ss K.env) Q E {W with s:=s1}) E W0:=
    GJ hK X f (hn _ (.head _)) hdt hm T0 h4 hnew hl hw fun W1 es1 e1 T1=>ih (W:=W1) (b2 ht).2 T1 (fun p hp=>hn p (.tail _ hp)) (ea▸hd) (ea▸hz) (fun n k hk=>hv n k (.tail _ hk)) fun W2 es2 e2 T2=>h W2 es2 (e2.trans (e1.trans e0)) (ea▸T2)
   cases o with
   | some k=>
    refine B5 (b2 h1).2 fun v' vp e5 h5=>?_
    rw[e5]
    clear ht h1 ea h
    obtain⟨m,hm'⟩:=hv n k (.head _)
    exact Gl (A:=K.A) (M:=model prog K.G.w) hK T.at_ h5 hm' (fun q=>nomatch q) fun w hw he=>wpAny_execs_cons (Gf (he (go T rfl ⟨m,hm',hw⟩)) rfl (G2 rfl) Ii)
   | none=>
    refine Mv (b2 h1).2 fun xs vs dp e5 h5=>?_
    rw[e5,Cc (b2 h5).1,Cc (b2 h5).2]
    have g:Go K.G [] W (W.see (W.s.heap.push {cls:=.type "dict",data:=.dict #[]}) W.s.toks):=Go.see T.at_.inv B4
    exact wpAny_execs_cons (Gf (wpAny_Dict_empty (go (W0:=W.see _ _) ⟨T.at_.go g,T.go.trans g,T.self,T.new,T.inst,T.ne,T.dic,T.es⟩ rfl ⟨_,rfl⟩)) rfl (G2 rfl) Ii)
end
noncomputable def Zd (ys:List Bq) (o:Obj):Prop:=o.cls= .type "list"∧o.dict=none∧∃ n,o.data= .seq ys.toArray n
theorem Fx.ne {G:Gx} {W:Wd} {b C:Addr} {f:Str→Option Bq} (I:B6 G W) (h:W.S C=some (.ns f)) (x:Fx W b):b∉[C]:=fun q=>
 have e:b=C:=Ae.mp q
 x.elim (fun⟨o,y⟩=>I.nof (e.symm▸h) o y) fun⟨o,y⟩=>nomatch Ab (h.symm.trans ((congrArg W.S e).symm.trans y))
structure EI where
 K:Kx
 s:Scope
 C:Addr
 D:Addr
 ts:List Str
 cap:List Str
 c:List RV
 tg:Expr
 p:Ir
 elt:Expr
 ifs:List Expr
 melt:ME
 mcond:Option ME
 l:List MV
 g:MV→Bu→B1 Bool
 f:MV→Bu→B1 RV
 I:Addr
 wr:List Addr
 fp:List Addr
 St:Nat→Heap→Prop
 W0:Wd
 Wb:Wd
 tot:List MV
 τ:Bu
noncomputable abbrev EI.Kc (X:EI):Kx:=X.K.comp X.s X.C (X.ts++X.cap)
noncomputable abbrev EI.shape (X:EI) (ρ:List RV):Prop:=∃ xs:List RV,xs.length=X.ts.length∧ρ=xs++X.c
structure ZB (X:EI):Prop where
 src:HC X.K.G X.K.A X.tg X.I X.wr X.W0 X.l X.St X.fp
 asg:∀ {W:Wd} {ρ ρ':List RV} {m:MV} {v:Bq} {Q:Unit→Bk→Prop} {E:Bq→Bk→Prop},At X.Kc W ρ→put X.p m ρ=some ρ'→VR W.F m v→(∀ W',W'.σ=W.σ→Go X.K.G [X.C] W W'→At X.Kc W' ρ'→Q () W'.s)→Wp X.K (assign X.tg X.Kc.env v) Q E W
 put:∀ m ρ,X.shape ρ→(∃ ρ',put X.p m ρ=some ρ'∧X.shape ρ'∧(∀ σ,X.g m σ=PQ X.K.C X.mcond ρ' σ)∧∀ σ,X.f m σ=C0 X.K.C X.melt ρ' σ)∨∀ σ,X.g m σ= .ok true σ∧X.f m σ= .no
 elt:SE X.Kc X.melt
 te:El X.Kc.ns X.Kc.env.scope X.melt X.elt=true
 cond:∀ me,X.mcond=some me→ST X.Kc me
 tc:qC X.Kc.ns X.Kc.env.scope X.mcond X.ifs=true
 big:X.l.length≤Cf
theorem ZB.setD {X:EI} (T:ZB X) {D:Addr}:ZB {X with D:=D}:=⟨T.src,T.asg,T.put,T.elt,T.te,T.cond,T.tc,T.big⟩
structure jF (X:EI):Prop where
 t:ZB X
 new:X.Wb.S X.C=none∧X.Wb.S X.D=none∧∀ b∈X.wr,X.Wb.S b=none
 dw:X.D∉X.wr
 df:X.D∉X.fp
 cw:X.C≠X.D
structure GY (X:EI) (i:Nat) (W:Wd) (ρ:List RV) (acc:List MV) (ys:List Bq):Prop where
 go:Go X.K.G [] X.Wb W
 f0:X.W0.F.le W.F
 at_:At X.Kc W ρ
 shape:X.shape ρ
 lis:W.S X.D=some (.any (Zd ys))
 vals:Ds W.F acc ys
 pins:∀ b∈X.wr,Yb W b
 fx:∀ b∈X.fp,b∈X.wr∨Fx W b
 st:X.St i W.s.heap
 le:i≤X.l.length
noncomputable def qI (X:EI) (k:Nat) (s:Bk):Prop:=∃ i W ρ acc ys rest,s=W.s∧k=X.l.length+1 - i∧GY X i W ρ acc ys∧Hc X.g X.f (X.l.drop i) W.σ= .ok rest X.τ∧acc++rest=X.tot∧acc.length≤i
section
variable {X:EI} {i:Nat} {W:Wd} {ρ:List RV} {acc rest:List MV} {ys:List Bq}
theorem X0 {ok:Bool} {σ5:Bu} {Q:Bool→Bk→Prop} {E:Bq→Bk→Prop} (P:jF X) (S:At X.Kc W ρ) (he:PQ X.K.C X.mcond ρ W.σ= .ok ok σ5) (k:∀ W5,W5.σ=σ5→Go X.K.G [] W W5→Q ok W5.s):
  Wp X.K (forIn X.ifs true fun c r=>if r=true then do let ok ←isTrue c X.Kc.env (eval c X.Kc.env);pure (ForInStep.yield ok) else pure (ForInStep.yield r)) Q E W:=by
 have tc:=P.t.tc
 have cond:=P.t.cond
 cases hm:X.mcond with
 | none=>
  rw[hm] at he tc
  rw[Cc tc]
  have q:=B1.ok.inj (show B1.ok true W.σ= .ok ok σ5 from he)
  exact wpAny_tests_nil (q.1▸k W q.2 (.refl S.inv))
 | some me=>
  rw[hm] at he tc
  exact Dr tc fun e e1 te=>e1▸wpAny_tests_one (cond me hm te S ((show rI X.K.C me ρ W.σ= .ok ok σ5 from he)▸fun v W5 e5 g5 hv=>(show ok=v from hv)▸k W5 e5 g5))
theorem GY.next {W6:Wd} {ρ':List RV} (P:jF X) (Y:GY X i W ρ acc ys) (hlt:i < X.l.length) {Wt:Wd} (T:Hw X.K.G X.wr W Wt) (pt:∀ b∈X.wr,Yb Wt b) (st:X.St (i+1) Wt.s.heap) (L:Le [X.C] Wt W6) (S6:At X.Kc W6 ρ') (sh:X.shape ρ') (hn:∃ f,Wt.S X.C=some (.ns f)):GY X (i+1) W6 ρ' acc ys:=
 have Lb:=Y.go.le.turn P.new.2.2 T
 have cn {b:Addr} (x:Fx Wt b):b∉[X.C]:=hn.elim fun f h=>Fx.ne T.inv h x
 have fx:∀ b∈X.fp,Fx Wt b:=fun b hb=>if q:b∈X.wr then .inr (pt b q) else(Y.fx b hb).elim (fun h=>(q h).elim) (Or.imp (fun⟨o,h⟩=>⟨o,T.F _ _ h⟩) fun⟨o,h⟩=>⟨o,(T.S b q).trans h⟩)
 ⟨⟨S6.inv,Lb.leave L fun a ha=>(Ae.mp ha).symm▸P.new.1⟩,fun a o h=>L.F _ _ (T.F _ _ (Y.f0 _ _ h)),S6,sh,L.keep _ _ ((T.S _ P.dw).trans Y.lis) (fun q=>nomatch q) (fun q=>P.cw (Ae.mp q).symm),Ds.up (fun a o h=>L.F _ _ (T.F _ _ h)) _ Y.vals,fun b hb=>(pt b hb).le L (cn (.inr (pt b hb))),fun b hb=>.inr ((fx b hb).le L (cn (fx b hb))),P.t.src.frame st fun b hb o e=>(fx b hb).same T.inv S6.inv L (cn (fx b hb)) e,hlt⟩
theorem GY.app {x:MV} {xv:Bq} {h:Heap} (P:jF X) (Y:GY X i W ρ acc ys) (hx:VR W.F x xv) (hp:PlainL h X.D (ys++[xv]).toArray) (hk:C8 X.D W.s.heap h):
  ∃ W',W'.s={W.s with heap:=h}∧W'.σ=W.σ∧GY X i W' ρ (acc++[x]) (ys++[xv]):=
 hp.elim fun o hp=>hp.elim fun n hp=>
 have T:Hw X.K.G [X.D] W (W.its [X.D] (fun Z=>some (.any (Zd (ys++[xv])))) h W.s.toks):=.its Y.at_.inv (fun b hb=>(Ae.mp hb:b=X.D).symm▸⟨Y.at_.inv.nof Y.lis,(fun d e=>Ab (Y.lis.symm.trans e)▸fun q=>nomatch q),fun c e=>⟨o,hp.1,Ab e▸⟨hp.2.1,hp.2.2.1,n,hp.2.2.2⟩⟩⟩) fun b hb o e=>hk b o (fun q=>hb (Ae.mpr q)) e
 have ne {b:Addr} (q:b≠X.D):b∉[X.D]:=fun h=>q (Ae.mp h)
 ⟨W.its [X.D] (fun Z=>some (.any (Zd (ys++[xv])))) h W.s.toks,rfl,rfl,⟨T.inv,Y.go.le.turn (fun b hb=>(Ae.mp hb:b=X.D).symm▸P.new.2.1) T⟩,Y.f0,Y.at_.turn (fun b hb c e=>(show c.kd=3 from Ab (Y.lis.symm.trans ((Ae.mp hb:b=X.D)▸e))▸rfl)) (fun b hb q=>P.cw ((Ae.mp q).symm.trans (Ae.mp hb))) T,Y.shape,if_pos (.head _),Ds.append (l':=[x]) ⟨xv,[],rfl,hx,rfl⟩ Y.vals,
  fun b hb=>(Y.pins b hb).imp fun o e=>(T.S b (ne fun q=>P.dw (q▸hb))).trans e,fun b hb=>(Y.fx b hb).imp id (Or.imp id fun⟨o,e⟩=>⟨o,(T.S b (ne fun q=>P.df (q▸hb))).trans e⟩),P.t.src.frame Y.st fun b hb o e=>hk b o (fun q=>P.df (q▸hb)) e,Y.le⟩
theorem WD {R:Result→Bk→Prop} {m:MV} (P:jF X) (Y:GY X i W ρ acc ys) (hq:Hc X.g X.f (X.l.drop i) W.σ= .ok rest X.τ) (ht:acc++rest=X.tot) (hl:acc.length≤i) (hm:X.l[i]?=some m):Wp X.K (pyNext (.ref X.I)) (fun r s₁=>match r with
   | none=>R (.ok .next) s₁
   | some v=>wpAny (model prog X.K.G.w) X.K.A (letOwnedTupleGo X.tg (.ref X.I) v) (fun Z s₁'=>wpAny (model prog X.K.G.w) X.K.A (assign X.tg X.Kc.env v) (fun Z s₂=>
     wpAny (model prog X.K.G.w) X.K.A (forIn X.ifs true fun c r=>if r=true then do let ok ←isTrue c X.Kc.env (eval c X.Kc.env);pure (ForInStep.yield ok) else pure (ForInStep.yield r)) (fun ok s₃=>
      if ok=true then wpAny (model prog X.K.G.w) X.K.A (eval X.elt X.Kc.env) (fun x s₄=>
       wpAny (model prog X.K.G.w) X.K.A (call (.builtin "list.append") [.ref X.D,x]) (fun Z s₅=>∃ m,m < X.l.length+1 - i∧qI X m s₅) (fun Z Z=>False) s₄) (fun Z Z=>False) s₃
      else ∃ m,m < X.l.length+1 - i∧qI X m s₃) (fun Z Z=>False) s₂) (fun Z Z=>False) s₁') (fun Z Z=>False) s₁) (fun Z Z=>False) W:=by
 have hlt:=(Ah.mp hm).1
 rw[List.drop_eq_getElem_cons hlt,(Ah.mp hm).2] at hq
 refine wpAny_mono (P.t.src.item hm Y.at_.inv Y.f0 Y.pins Y.st fun v Wt T pt st hv=>?_) (fun r s1 q=>q.elim fun v q=>q.1▸q.2) fun Z Z f=>f
 obtain⟨f0,hf0,_⟩:=Y.at_.val
 have nw:X.C∉X.wr:=fun q=>(Y.pins _ q).elim fun o e=>nomatch Ab (e.symm.trans hf0)
 have S1:=Y.at_.turn (fun b hb c e=>(Y.pins b hb).elim fun o e'=>(show c.kd=3 from Ab (e'.symm.trans e)▸rfl)) (fun b hb q=>nw (Ae.mp q▸hb)) T
 have hb:X.l.length+1 - (i+1) < X.l.length+1 - i:=Nat.sub_lt_sub_left (Nat.lt_succ_of_lt hlt) (Nat.lt_succ_self i)
 rcases P.t.put m ρ Y.shape with⟨ρ',hp,sh,hg,hf⟩ | hbad
 ·
  refine P.t.asg S1 hp hv fun W4 e4 g4 S4=>?_
  rw[←T.σ,←e4] at hq
  have next {W6:Wd} (g:Go X.K.G [] W4 W6):GY X (i+1) W6 ρ' acc ys:=Y.next P hlt T pt st (g4.trans g.up).le (S4.go g) sh ⟨f0,(T.S _ nw).trans hf0⟩
  refine Mz hq (fun σ1 e1 h1=>X0 P S4 (hg _▸e1) fun W5 e5 g5=>(if_neg Bool.false_ne_true).mpr ⟨_,hb,i+1,W5,ρ',acc,ys,rest,rfl,rfl,next g5,e5▸h1,ht,Nat.le_succ_of_le hl⟩)
   fun σ1 x σ2 r e1 e2 h2 hr=>X0 P S4 (hg _▸e1) fun W5 e5 g5=>(if_pos rfl).mpr (P.t.elt P.t.te (S4.go g5) ((congrArg (Br X.K.G [] W5 Cj _ _) ((congrArg (C0 X.K.C X.melt ρ') e5).trans ((hf _).symm.trans e2))).mpr fun xv W6 e6 g6 hx=>?_))
  have Y6:=next (g5.trans g6)
  refine list_append_plainL (its:=ys.toArray) ((Y6.at_.inv.sh _ _ Y6.lis).elim fun o x=>x.2.2.2.elim fun n e=>⟨o,n,x.1,x.2.1,x.2.2.1,e⟩) (fun h' hp' hs=>?_) (by rw[Y.vals.size];exact D3 (Ad hl (Ad (Nat.le_of_lt hlt) P.t.big)))
  obtain⟨W7,e7,e7',Y7⟩:=Y6.app (x:=x) (xv:=xv) P hx (by rw[List.push_toArray] at hp';exact hp') fun b o q e=>(hs.2 b q).trans e
  exact⟨_,hb,i+1,W7,ρ',_,_,r,e7.symm,rfl,Y7,e7'▸e6▸h2,(Ak ..).trans ((congrArg (acc++ ·) hr).trans ht),by rw[Ai];exact Nat.succ_le_succ hl⟩
 · exact Mz hq (fun σ1 e1 Z=>nomatch e1.symm.trans (hbad _).1) fun σ1 x σ2 r Z e2 Z Z=>nomatch e2.symm.trans (hbad _).2
theorem aI {R:Result→Bk→Prop} (P:jF X) (Y:GY X X.l.length W ρ acc ys) (hq:Hc X.g X.f (X.l.drop X.l.length) W.σ= .ok rest X.τ) (ht:acc++rest=X.tot) {T:Bq→Bk→Prop}
  (hR:∀ W3 f,W3.σ=X.τ→Go X.K.G [] X.Wb W3→W3.S X.C=some (.ns f)→VR W3.F (.lis X.tot) (.ref X.D)→R (.ok .next) W3.s):Wp X.K (pyNext (.ref X.I)) (fun r s₁=>match r with
   | none=>R (.ok .next) s₁
   | some v=>T v s₁) (fun Z Z=>False) W:=by
 rw[List.drop_length] at hq
 have q:=B1.ok.inj (show B1.ok ([]:List MV) W.σ= .ok rest X.τ from hq)
 obtain⟨f0,hf0,_⟩:=Y.at_.val
 refine P.t.src.done Y.at_.inv Y.pins Y.st fun W2 T=>?_
 show R (.ok .next) W2.s
 have lis:W2.S X.D=some (.any (Zd ys)):=(T.S _ P.dw).trans Y.lis
 obtain⟨o,ho,⟨h1,_,n,h2⟩,gf⟩:=Go.freeze ⟨T.inv,Y.go.le.turn P.new.2.2 T⟩ (fun x e=>nn (P.new.2.1.symm.trans e)) lis
 exact hR (W2.fix X.D o) f0 (T.σ.trans q.2) gf ((if_neg P.cw).trans ((T.S _ fun q=>(Y.pins _ q).elim fun o e=>nomatch Ab (e.symm.trans hf0)).trans hf0)) ⟨ys,⟨X.D,o,n,rfl,.inr ⟨rfl,rfl⟩,h1,h2⟩,ht▸q.1▸(Aj acc).symm▸Ds.up (fun a o h=>.inl (T.F _ _ h)) _ Y.vals⟩
theorem SW {iter:Expr} {pos:Pos} {R:Result→Bk→Prop} (P:jF X) (Y:GY X 0 W ρ [] []) (hq:Hc X.g X.f X.l W.σ= .ok X.tot X.τ)
  (hR:∀ W3 f,W3.σ=X.τ→Go X.K.G [] X.Wb W3→W3.S X.C=some (.ns f)→VR W3.F (.lis X.tot) (.ref X.D)→R (.ok .next) W3.s):codeAny (model prog X.K.G.w) X.K.A (.compStart (.ListComp X.elt [⟨X.tg,iter,X.ifs,0⟩] X.s pos) 0 (.ref X.I) (.ref X.D) X.Kc.env) R W.s:=
 have loop:=Td (iter:=iter) (scope:=X.s) (pos:=pos) (env:=X.Kc.env) (qI X) (fun k s J=>by
  obtain⟨i,W1,ρ1,acc,ys,rest,rfl,rfl,Y,hq,ht,hl⟩:=J
  cases hm:X.l[i]? with
  | none=>
   obtain rfl:i=X.l.length:=Nat.le_antisymm Y.le (List.getElem?_eq_none_iff.mp hm)
   exact aI P Y hq ht hR
  | some m=>exact WD P Y hq ht hl hm) (X.l.length+1) ⟨0,W,ρ,[],[],X.tot,rfl,rfl,Y,hq,rfl,Av _⟩
 codeAny_compStart_list loop (P.t.src.self Y.st loop)
end
theorem Ga {G:Gx} {W W0:Wd} {a:Addr} {c:D2} {o:Obj} {h:Heap} {t:Nat} (g:Go G [] W0 W) (hn:W.s.heap.get? a=none) (h0:W0.S a=none) (k:C8 a W.s.heap h) (ha:h.get? a=some o) (hc:c.ok G.w o):Go G [] W0 (W.lay a c h t):=
 ⟨g.inv.lay k ha hc (fun x q=>nn (hn.symm.trans (g.inv.fh _ x q))) fun d e=>nn ((g.inv.none hn).symm.trans e),g.le.lay fun d e=>nn (h0.symm.trans e)⟩
theorem Vr {X:EI} {ρ:List RV} {caps:List Nat} {iter:Expr} {pos:Pos} {E:Bq→Bk→Prop} {KK:Bq→Addr→Result→Bk→Prop} (hK:Ff X.K) (sc:Cu X.ts X.cap X.s) (S:At X.K X.Wb ρ) (ho:Iw X.K.ns X.K.env.scope caps X.cap=true) (hc:Eh ρ caps=some X.c)
  (g0:Go X.K.G [] X.Wb X.W0) (low:∀ a,X.W0.s.heap.get? a=none→X.Wb.s.heap.get? a=none) (hw:∀ b∈X.wr,X.Wb.S b=none∧Yb X.W0 b) (T:∀ C,Ff (X.K.comp X.s C (X.ts++X.cap))→ZB {X with C:=C}) (st:X.St 0 X.W0.s.heap) (hq:Hc X.g X.f X.l X.W0.σ= .ok X.tot X.τ) (fpk:∀ b∈X.fp,b∈X.wr∨Fx X.W0 b) (frame:∀ {i:Nat} {h h':Heap},X.St i h→(∀ b∈X.fp,∀ o,h.get? b=some o→h'.get? b=some o)→X.St i h')
  (hR:∀ W3 f D C,W3.σ=X.τ→Go X.K.G [] X.Wb W3→W3.S C=some (.ns f)→X.Wb.S C=none→VR W3.F (.lis X.tot) (.ref D)→KK (.ref D) C (.ok .next) W3.s):
  wpAny (model prog X.K.G.w) X.K.A (newList []) (fun acc s₃=>wpAny (model prog X.K.G.w) X.K.A (newFunctionEnv X.s X.K.env.globals (Ot X.K.env X.s.names []) [] X.K.env.qual none .none (some X.K.env)) (fun cenv s₄=>
   codeAny (model prog X.K.G.w) X.K.A (.compStart (.ListComp X.elt [⟨X.tg,iter,X.ifs,0⟩] X.s pos) 0 (.ref X.I) acc {cenv with scope:=relabel X.s X.K.env}) (KK acc cenv.locals) s₄) E s₃) E X.W0.s:=by
 refine wpAny_newObj_type (wpAny_newFunctionEnv sc.cells (fun y hy=>nomatch hy) (fun h2 hns hk=>?_) sc.kind)
 have n0:X.W0.s.heap.get? X.W0.s.heap.objs.size=none:=Ea
 obtain⟨D,hD⟩:∃ D,D=X.W0.s.heap.objs.size:=⟨_,rfl⟩
 obtain⟨h1,hh1⟩:∃ h1,h1=X.W0.s.heap.push {cls:=.type "list",dict:=none,data:=.seq ([]:List Bq).toArray}:=⟨_,rfl⟩
 have e1:h1.get? D=some {cls:=.type "list",dict:=none,data:=.seq ([]:List Bq).toArray}:=hh1▸hD▸Bp _ rfl
 have k1:Hn X.W0.s.heap h1:=hh1▸B4
 rw[←hD] at n0⊢
 dsimp only at hns hk⊢
 rw[←hh1] at hns hk⊢
 have n1:h1.get? h1.objs.size=none:=Ea
 have hCs:h1.objs.size=D+1:=by rw[hh1,hD,Heap.size_push]
 obtain⟨C,hC⟩:∃ C,C=h1.objs.size:=⟨_,rfl⟩
 rw[←hC] at hns hk n1 hCs⊢
 have cd:C≠D:=hCs▸Nat.succ_ne_self D
 have nC:X.W0.s.heap.get? C=none:=Option.eq_none_iff_forall_ne_some.mpr fun o e=>nn (n1.symm.trans (k1 _ _ e))
 have fr {a:Addr} (h:X.W0.s.heap.get? a=none):X.Wb.S a=none:=S.inv.none (low a h)
 have g1:Go X.K.G [] X.Wb (X.W0.lay D (.any (Zd [])) h1 X.W0.s.toks):=Ga g0 n0 (fr n0) (fun b o Z e=>k1 b o e) e1 ⟨rfl,rfl,_,rfl⟩
 obtain⟨oC,es,ep,hoC,hdC⟩:=hns
 have g2:Go X.K.G [] X.Wb ((X.W0.lay D (.any (Zd [])) h1 X.W0.s.toks).lay C (.ns _) h2 (X.W0.s.toks+0)):=Ga g1 n1 (fr nC) (fun b o q e=>(hk.2 b q).trans (Bo _ e)) hoC ⟨es,ep,hdC⟩
 have kk:Hn X.W0.s.heap h2:=fun b o e=>(hk.2 b fun q=>nn (nC.symm.trans (q▸e))).trans (Bo _ (k1 b o e))
 have ne {b:Addr} {o:Obj} (h:X.W0.s.heap.get? b=some o):b≠D∧b≠C:=⟨fun q=>nn (n0.symm.trans (q▸h)),fun q=>nn (nC.symm.trans (q▸h))⟩
 have up {b:Addr} {o:Obj} (h:X.W0.S b=some (.any (· =o))):((X.W0.lay D (.any (Zd [])) h1 X.W0.s.toks).lay C (.ns fun x=>([]:List (Str×Bq)).reverse.lookup x) h2 (X.W0.s.toks+0)).S b=some (.any (· =o)):=
  (g0.inv.sh _ _ h).elim fun o' x=>(Dg (ne x.1).2).trans ((Dg (ne x.1).1).trans h)
 have kok:=IE hK sc S ho hc (C:=C) (low C nC)
 have fx {b:Addr} (h:Fx X.W0 b):b≠D:=h.elim (fun⟨o,h⟩=>(ne (g0.inv.fh _ _ h)).1) fun⟨o,h⟩=>(g0.inv.sh _ _ h).elim fun o x=>(ne x.1).1
 have dw:D∉X.wr:=fun q=>fx (.inr (hw _ q).2) rfl
 exact SW (X:={X with C:=C,D:=D}) ⟨(T C kok).setD,⟨fr nC,fr n0,fun b hb=>(hw b hb).1⟩,dw,fun q=>(fpk _ q).elim dw fun h=>fx h rfl,cd⟩
  ⟨g2,fun Z Z h=>h,QW hK sc S ho hc g2 Dh,⟨_,List.length_replicate,rfl⟩,(Dg (Ne.symm cd)).trans Dh,rfl,fun b hb=>(hw b hb).2.imp fun o h=>up h,fun b hb=>(fpk b hb).imp id (Or.imp id fun⟨o,h⟩=>⟨o,up h⟩),frame st fun b Z o e=>kk b o e,Nat.zero_le _⟩ hq
  fun W3 f e g h v=>hR W3 f D C e g h (fr nC) v
noncomputable def BM (K:Frag) (C:Nat) (l:List (Str×Option Nat)):Bool:=
 findIn K (.ref C) "__setattr__"==some (some (.builtin "object.__setattr__"))&&plainOver K C&&hasDictIn K C&&l.all (fun p=>takerIn K C p.1==some none)
theorem Y1 {K:Frag} {C:Nat} {l:List (Str×Option Nat)} (h:BM K C l=true):Oe K C (l.map (·.1)):=by
 have h1:=b2 h;have h2:=b2 h1.1;have h3:=b2 h2.1
 obtain⟨cd,hc,ho⟩:=any_some h3.2
 obtain⟨cd2,hc2,hd⟩:=any_some h2.2
 obtain rfl:=Ab (hc.symm.trans hc2)
 refine⟨beq_iff_eq.mp h3.1,⟨cd,hc,hd,?_,only_has ho,fun self=>refuse_only self ho⟩,fun n hn=>?_⟩
 ·
  cases q:cd.mro with
  | nil=>rw[q] at ho;exact nomatch (show false=true from ho)
  | cons _ _=>rfl
 ·
  obtain⟨p,hp,rfl⟩:=Bc.mp hn
  exact beq_iff_eq.mp (List.all_eq_true.mp h1.2 p hp)
noncomputable def Kl (K:Frag) (C a:Nat) (l:List (Str×Option Nat)) (np nd:Nat):Bool:=
 makesIn K C&&findIn K (.ref C) "__init__"==some (some (.ref a))&&typeIn K (.ref a)==some (.type "function")&&BM K C l&&decide ((l.map (·.1)).Nodup)&&decide (l.length≤100)&&
 M4 K a fun fd b ds=>qD (Gq fd) fd.scope l b&&fd.params.args.length==np&&(EM fd).isEmpty&&ds.length==nd
theorem Q3 {P:B9}:∀ ds:List Bq,Ds P (ds.map .val) ds
 | []=>rfl
 | v::ds=>⟨v,ds,rfl,rfl,Q3 ds⟩
theorem Go.adopt {G:Gx} {W0 W:Wd} {b d:Addr} {mo:MO} {c e:D2} {o:Obj} (g:Go G [] W0 W) (h0:W0.S d=none) (hs:W.S d=some e) (he:e.kd≠0) (ho:W.s.heap.get? d=some o) (hc:c.ok G.w o) (hsr:SR W.F mo (b,d) c):Go G [] W0 {W with S:=Mine.up W.S d c,bs:=W.bs++[(b,d)],σ:=W.σ++[mo]}:=
 ⟨g.inv.newAt (fun x=>g.inv.nof hs x) (fun x q=>Ab (hs.symm.trans q)▸he) (fun Z Z Z x=>x) ho hc hsr,g.le.new (t:=W.s.toks) (h:=W.s.heap) fun x q=>nn (h0.symm.trans q)⟩
section
variable {G:Gx} {A:Bm} {fr:List Env} {W:Wd} {F:Frag}
theorem CF {C a:Nat} {l:List (Str×Option Nat)} {np nd:Nat} {args dm:List MV} {vals:List Bq} {R:Result→Bk→Prop} {N:Nat} (X:F.In G.hB) (hi:Kl F C a l np nd=true) (hdl:dm.length=nd) (hdm:∀ fd b ds,Wi F a=some (fd,b,ds)→∀ P,Ds P dm ds) (B:Bs G) (hC:Db (N+6) A fr) (hf:Eu fr W) (I:B6 G W)
  (hargs:Ds W.F args vals) (h1:args.length+1≤np) (h2:np≤args.length+1+nd) (h3:nd≤np) (hl:∀ n k,(n,some k)∈l→k < np)
  (hR:∀ x dx sl es W' dl,W'.σ=W.σ→Go G [] W W'→W.S dx=none→W'.F x {cls:=.ref C,dict:=some dx,data:=.plain,slots:=sl}→W'.S dx=some (.any (Q8 es))→Nj W'.F ((RV.v (.val (.ref x))::args.map .v)++((dm.drop (args.length+1+dm.length - np)).map .v++dl)) l es→R (.ok (.ret (.ref x))) W'.s):
  codeAny (model prog G.w) A (.call (.ref C) ⟨vals,[]⟩) R W.s:=by
 have i1:=b2 hi;have i2:=b2 i1.1;have i3:=b2 i2.1;have i4:=b2 i3.1;have i5:=b2 i4.1;have i6:=b2 i5.1
 refine Hu i1.2 fun fd b ds hfn j=>?_
 have j1:=b2 j;have j2:=b2 j1.1;have j3:=b2 j2.1
 have XS:=X.keeps I.stays
 refine make_core (h:=W.s.heap) (g:=W.s.gens) (d:=W.s.drawn) (t:=W.s.toks) (os:=W.s.os) (makes_of XS i6.1) (looks_findIn XS (beq_iff_eq.mp i6.2)) (fun self=>bind_fn XS self (beq_iff_eq.mp i5.2)) (.inl rfl) ?_
 rw[X7]
 obtain⟨dx,hdx⟩:∃ dx,dx=W.s.heap.objs.size:=⟨_,rfl⟩
 obtain⟨ha,hha⟩:∃ ha,ha=W.s.heap.push emptyDict:=⟨_,rfl⟩
 have ndx:W.s.heap.get? dx=none:=hdx▸Ea
 have gdx:ha.get? dx=some emptyDict:=hha▸hdx▸Bp _ rfl
 have hx:W.s.heap.objs.size+1=ha.objs.size:=hha▸(Heap.size_push ..).symm
 rw[hx,←hha,←hdx]
 have g1:Go G [] W (W.lay dx (.any (Q8 [])) ha W.s.toks):=Ga (.refl I) ndx (I.none ndx) (fun b o Z e=>hha▸B4 b o e) gdx ⟨_,rfl⟩
 have g2:Go G [] W ((W.lay dx (.any (Q8 [])) ha W.s.toks).say ha.objs.size (instObj C dx) (ha.push (instObj C dx)) W.s.toks):=g1.trans (Go.say g1.inv B4 (Bp _ rfl) g1.inv.top)
 obtain⟨W1,hW1⟩:∃ W1,W1=(W.lay dx (.any (Q8 [])) ha W.s.toks).say ha.objs.size (instObj C dx) (ha.push (instObj C dx)) W.s.toks:=⟨_,rfl⟩
 have s1:W1.S dx=some (.any (Q8 [])):=hW1▸Dh
 have f1:W1.F ha.objs.size (instObj C dx):=hW1▸ .inr ⟨rfl,rfl⟩
 have e1:W1.σ=W.σ:=hW1▸rfl
 have es1:W1.s=⟨ha.push (instObj C dx),W.s.gens,W.s.drawn,W.s.toks,W.s.os⟩:=hW1▸rfl
 rw[←hW1] at g2
 rw[←es1]
 obtain⟨⟨o,ho,hd'⟩,ok,hcd,hbody,hdf⟩:=I6 (X.keeps g2.inv.stays) hfn
 have elen:(fd.params.args.map (·.arg)).length=np:=(Am ..).trans (beq_iff_eq.mp j3.2)
 have alen:(RV.v (.val (.ref ha.objs.size))::args.map .v).length=args.length+1:=congrArg Nat.succ (Am ..)
 refine Kw (A:={A with depth:=A.depth+1,units:=A.units+1}) (C':=fun Z Z Z=>.no) (N':=0) (args:=RV.v (.val (.ref ha.objs.size))::args.map .v) (dm:=dm) B ok hC.sub (hf.le g2.le) g2.inv ho hd' hcd hbody hdf (hdm _ _ _ hfn _) ⟨_,_,rfl,rfl,(hargs.up g2.le.F _).rvrs⟩ (alen▸elen▸h1) (alen▸elen▸hdl▸h2) (elen▸hdl▸h3) fun K W2 eG eC eN ens eac esc efr hK eσ g3 hm S=>?_
 subst eG
 have s2:=g3.le.keep dx _ s1 (fun q=>nomatch q) List.not_mem_nil
 rw[alen,elen] at S
 generalize hρ:(RV.v (.val (.ref ha.objs.size))::args.map .v)++(dm.drop (args.length+1+dm.length - np)).map RV.v++Ao ((Gq fd).length - np) RV.un=ρ at S
 have hv:∀ n k,(n,some k)∈l→∃ m,ρ[k]?=some (.v m):=fun n k hk=>by
  have hk:=hl n k hk
  have e:(RV.v (.val (.ref ha.objs.size))::args.map .v)++(dm.drop (args.length+1+dm.length - np)).map RV.v=((MV.val (.ref ha.objs.size))::args++dm.drop (args.length+1+dm.length - np)).map RV.v:=by rw[List.map_append];rfl
  have hlt:k < ((MV.val (.ref ha.objs.size))::args++dm.drop (args.length+1+dm.length - np)).length:=by
   rw[Ai,Bf,List.length_drop,hdl,K3 h1 h2];exact hk
  rw[←hρ,e,A5 ((Am ..).symm▸hlt),List.getElem?_map,Ar hlt]
  exact⟨_,rfl⟩
 refine Pu (fx:=true) (Wb:=W) (dt:=.plain) (done:=[]) (es:=[]) hK X (Y1 i4.2) (fun Z q=>nomatch q) (fun q=>nn ((hm _ q).symm.trans s1)) (ens▸esc▸j3.1) ⟨S,g2.trans g3,hρ▸rfl,(fun c e=>nn ((I.none ndx).symm.trans e)),⟨_,.inl ⟨rfl,g3.le.F _ _ f1⟩⟩,(hx▸hdx▸Nat.succ_ne_self _),s2,rfl⟩ (fun p hp=>Bc.mpr ⟨p,hp,rfl⟩) (of_decide_eq_true i3.2) (of_decide_eq_true i2.2) hv fun W4 es4 e4 T=>⟨rfl,?_⟩
 obtain⟨sl,hi4⟩:=T.inst
 have hi4:=(hi4.resolve_right fun q=>nomatch q.1).2
 exact hR _ dx sl es4 W4 (Ao ((Gq fd).length - np) RV.un) (e4.trans (eσ.trans e1)) T.go (I.none ndx) hi4 T.dic (by rw[←Ak,hρ];exact T.es)
end
section
variable {α β:Type} {P:Prop} {l:List α} {b:β}
theorem MR {f:α→Option β} (h:nG l f=some b) (k:∀ x,l=[x]→f x=some b→P):P:=by
 cases l with
 | nil=>exact nn h
 | cons x l=>
  cases l with
  | nil=>exact k x rfl h
  | cons _ _=>exact nn h
theorem Us {f:α→α→Option β} (h:jQ l f=some b) (k:∀ x y,l=[x,y]→f x y=some b→P):P:=by
 cases l with
 | nil=>exact nn h
 | cons x l=>cases l with
  | nil=>exact nn h
  | cons y l=>cases l with
   | nil=>exact k x y rfl h
   | cons _ _=>exact nn h
theorem fL {f:α→α→α→Option β} (h:pr3 l f=some b) (k:∀ x y z,l=[x,y,z]→f x y z=some b→P):P:=by
 cases l with
 | nil=>exact nn h
 | cons x l=>cases l with
  | nil=>exact nn h
  | cons y l=>cases l with
   | nil=>exact nn h
   | cons z l=>cases l with
    | nil=>exact k x y z rfl h
    | cons _ _=>exact nn h
end
theorem pD {P:Prop} {α:Type} {x:α} {m:MV} {f:List MV→Option α} (h:wT m f=some x) (k:∀ i,m= .tup i→f i=some x→P):P:=by cases m with
 | tup i=>exact k i rfl h
 | _=>exact nn h
theorem GN {P:Prop} {args:List RV} {m:MV} (h:Ve args=some m) (z:∀ k w i,args=[.str k,.str w,.tup [.int i,.int 12]].map .v→m= .tok k w i→P):P:=
 fL h fun a b c e h=>Gm h fun a' ea h=>Ng h fun k ek h=>Gm h fun b' eb h=>Ng h fun w ew h=>Gm h fun c' ec h=>pD h fun l el h=>Us h fun x y exy h=>Ht h fun i ei h=>Ht h fun j ej h=>
  if q:j=12 then z k w i (by rw[e,ea,ek,eb,ew,ec,el,exy,ei,ej,q];rfl) (Ab ((if_pos q).symm.trans h)).symm else nn ((if_neg q).symm.trans h)
theorem NM {F:B9} {bs:List (Addr×Addr)} {l:List MV}:∀ {vs:List Bq},G3 F bs (l.map .v) vs→Ds F l vs:=by
 induction l with
 | nil=>exact fun h=>h
 | cons m l ih=>exact fun h=>h.elim fun v h=>h.elim fun r h=>⟨v,r,h.1,h.2.1,ih h.2.2⟩
noncomputable abbrev iT:List (Str×Option Nat):=[(Aa "kind",some 1),(Aa "worth",some 2),(Aa "at",some 3),(Aa "is_in_a",some 4)]
noncomputable abbrev fV:List (Str×Option Nat):=[(Aa "tokens",some 1),(Aa "at",some 2),(Aa "named",none)]
noncomputable def Vh (K:Frag):Bool:=opt (Wi K 444) fun p=>one p.2.2 fun v=>match v with
 | .int i _=>decide (i=0)
 | _=>false
section
variable {G:Gx} {A:Bm} {fr:List Env} {W:Wd} {F:Frag} {N:Nat} {vals:List Bq} {Q E:Bq→Bk→Prop}
noncomputable abbrev Vm (Q E:Bq→Bk→Prop) (r:Result) (s':Bk):Prop:=match r with
 | .ok (.ret v)=>Q v s'
 | .ok _=>False
 | .error e=>E e s'
theorem Ju.get {P:B9} {ρ:List RV} {k:Nat} {m:MV} {v:Bq} (h:Ju P ρ (some k) v) (e:ρ[k]?=some (.v m)):VR P m v:=h.elim fun m' q=>RV.v.inj (Ab (q.1.symm.trans e))▸q.2
theorem PB {args:List RV} {m:MV} (X:F.In G.hB) (hi:Kl F C6 618 iT 5 2=true) (B:Bs G) (hC:Db (N+6) A fr) (hf:Eu fr W) (I:B6 G W) (hargs:Fy W args vals) (hm:Ve args=some m) (H:Br G [] W Cj Q E (.ok (.v m) W.σ)):
  codeAny (model prog G.w) A (.call (.ref C6) ⟨vals,[]⟩) (Vm Q E) W.s:=GN hm fun k w i ea em=>by
 clear hm
 subst ea;subst em
 refine C2 (b2 hi).2 fun⟨fd0,b0,ds0⟩ hf0 j=>?_
 refine CF (dm:=ds0.map .val) X hi ((Am ..).trans (beq_iff_eq.mp (b2 j).2)) (fun fd b ds hfn P=>?_) B hC hf I (NM hargs) (Ac rfl) (Ac rfl) (Ac rfl) (fun n k hk=>?_) fun x dx sl es W' dl e g nw hx hd hes=>?_
 ·
  have q:=Ab (hf0.symm.trans hfn)
  rw[show ds0=ds from congrArg (fun p=>p.2.2) q]
  exact Q3 ds
 ·
  rcases Ag.mp hk with q | hk
  · cases q;decide
  rcases Ag.mp hk with q | hk
  · cases q;decide
  rcases Ag.mp hk with q | hk
  · cases q;decide
  cases Ae.mp hk;decide
 obtain⟨e1,_,rfl,k1,v1,e2,_,rfl,k2,v2,e3,_,rfl,k3,v3,e4,_,rfl,k4,v4,rfl⟩:=hes
 obtain⟨o,ho,⟨n,rfl⟩,gf⟩:=g.freeze (fun c e=>nn (nw.symm.trans e)) hd
 have v3:=Ju.get v3 (m:=.tup [.int i,.int 12]) rfl
 clear ho
 obtain⟨vs,hvt,va,r,rfl,⟨ta,rfl⟩,vb,r2,rfl,⟨tb,rfl⟩,rfl⟩:=v3
 exact H _ (W'.fix dx _) e gf ⟨⟨x,dx,sl,[e1,e2,e3,e4],n,e3.val,ta,tb⟩,rfl,.inl hx,.inr ⟨rfl,rfl⟩,⟨e1,e2,e3,e4,rfl,k1,k2,k3,k4,Ju.get v1 (m:=.str k) rfl,Ju.get v2 (m:=.str w) rfl,rfl⟩,hvt.up B9.le_add⟩
theorem FZ {ts:List MV} (X:F.In G.hB) (hi:Kl F B3 444 fV 3 1=true) (hz:Vh F=true) (B:Bs G) (hC:Db (N+6) A fr) (hf:Eu fr W) (I:B6 G W) (hargs:Fy W [.v (.lis ts)] vals) (H:Br G [] W Cj Q E (.ok (.loc W.σ.length) (W.σ++[.rdr ts 0]))):
  codeAny (model prog G.w) A (.call (.ref B3) ⟨vals,[]⟩) (Vm Q E) W.s:=by
 refine C2 hz fun⟨fd0,b0,ds0⟩ hf0 j=>Dr j fun z ez j=>?_
 refine CF (args:=[.lis ts]) (dm:=[.int 0]) X hi rfl (fun fd b ds hfn P=>?_) B hC hf I (NM (l:=[.lis ts]) hargs) (Ac rfl) (Ac rfl) (Ac rfl) (fun n k hk=>?_) fun x dx sl es W' dl e g nw hx hd hes=>?_
 ·
  have q:=Ab (hf0.symm.trans hfn)
  rw[←show ds0=ds from congrArg (fun p=>p.2.2) q,show ds0=[z] from ez]
  cases z with
  | int i t=>exact⟨_,_,rfl,⟨t,congrArg (Bq.int · t) (of_decide_eq_true j)⟩,rfl⟩
  | _=>exact ff j
 ·
  clear ez
  rcases Ag.mp hk with q | hk
  · cases q;decide
  rcases Ag.mp hk with q | hk
  · cases q;decide
  cases Ae.mp hk
 clear ez
 obtain⟨e1,_,rfl,k1,v1,e2,_,rfl,k2,v2,e3,_,rfl,k3,v3,rfl⟩:=hes
 obtain⟨o,ho,n,rfl⟩:=g.inv.sh _ _ hd
 have gl:W'.σ++[.rdr ts 0]=W.σ++[.rdr ts 0]:=e▸rfl
 exact H (.ref x) {W' with S:=Mine.up W'.S dx (.rdr e1.val e2.val e3.val),bs:=W'.bs++[(x,dx)],σ:=W'.σ++[.rdr ts 0]} gl (g.adopt (b:=x) (mo:=.rdr ts 0) (c:=.rdr e1.val e2.val e3.val) nw hd (fun q=>nomatch q) ho ⟨e1,e2,e3,n,rfl,⟨k1,rfl⟩,⟨k2,rfl⟩,k3,rfl⟩ ⟨_,_,_,rfl,⟨sl,hx⟩,Ju.get v1 (m:=.lis ts) rfl,Ju.get v2 (m:=.int 0) rfl,v3⟩)
  ⟨(x,dx),by show(W'.bs++[(x,dx)])[W.σ.length]?=_;rw[←e,←g.inv.len,Az (Av _),Nat.sub_self];rfl,rfl⟩
end
section
variable {prog:Program} {w:World} {A:Bm} {R:Result→Bk→Prop} {h:Heap} {g:Array GenState} {d:Drawn} {t:Nat} {os:OsState}
variable {nm q:Str} {C N:Addr} {bs bm:List Bq} {hdct:Bool} {sn:List Str} {sub:List Bq} {ab:Bool} {col:Option Bool} {dd:Option Addr} {k0 k1 k2 k3 k5:Option Bq} {Bn newId inN:String} {bmN:List Bq}
theorem EY {M:Model} {E:Bq→Bk→Prop} (Fn:ExcBaseFacts Bn newId inN bmN) (hB:bm.contains (.type Bn)=true) {rest:List Bq} {Q:Unit→Bk→Prop} (hC:h.get? C=some (excClassObj nm q C N bs bm hdct sn sub ab col dd k0 k1 k2 k3 k5 newId))
  (hq:Q () ⟨h,g,d,t,os⟩):wpAny M A (checkBuiltinCall newId ⟨.ref C::rest,[]⟩) Q E ⟨h,g,d,t,os⟩:=by
 have hcont:(Bq.ref C::bm).contains (.type Bn)=true:=by rw[List.contains_cons,hB,Bool.or_true]
 have hstar:=Fn.noStar
 simp only [checkBuiltinCall,Fn.newKind,Fn.newSplit,Fn.newRow]
 repeat (first | refine wpAny_loadPart_at hC ?_ | (refine wpAny_isSubtype_exc hC ?_;rw[hcont]) | refine wpAny_staticBase_exc hC ?_ | refine wpAny_madeBy_exc hC ?_ | simp only [bne_self_eq_false,Bool.false_eq_true,if_false] | wp_step)
 exact hq
theorem RM (Fn:ExcBaseFacts Bn newId inN bmN) (hB:bm.contains (.type Bn)=true) (hA:bm.contains (.type "AttributeError")=false) (hN:bm.contains (.type "NameError")=false) {rest:List Bq}
  (hC:h.get? C=some (excClassObj nm q C N bs bm hdct sn sub ab col dd k0 k1 k2 k3 k5 newId))
  (hq:R (.ok (.ret (.ref (h.objs.size+1)))) ⟨(h.push {cls:=.type "tuple",data:=.seq rest.toArray}).push
   {cls:=.ref C,data:=.fields #[.ref h.objs.size,.none,.none,.none,.bool false,.none]},g,d,t,os⟩) (hrest:rest.length≤sizeLine):
  codeAny (model prog w) A (.builtin newId ⟨.ref C::rest,[]⟩) R ⟨h,g,d,t,os⟩:=by
 have hends:=Fn.ends
 have hcB:(Bq.ref C::bm).contains (.type Bn)=true:=by rw[List.contains_cons,hB,Bool.or_true]
 have hcA:(Bq.ref C::bm).contains (.type "AttributeError")=false:=by rw[List.contains_cons,hA];rfl
 have hcN:(Bq.ref C::bm).contains (.type "NameError")=false:=by rw[List.contains_cons,hN];rfl
 refine codeAny_builtinAt Fn.entry ?_
 unfold Builtin.«BaseException.__new__»
 refine PySem.wpAt_bind ?_
 show PySem.wpAt _ _ _ (stack>>=_) _ _ _
 refine PySem.wpAt_bind (PySem.wpAt_stack fun p below=>PySem.wpAt_of_wpAny ?_)
 wp_walk
 refine PySem.wpAt_of_wpAny ?_
 rw[Fn.owner]
 repeat (first | with_reducible refine wpAny_madeHere_exc Fn.canon hC ?_ | with_reducible refine wpAny_loadPart_at hC ?_ | (with_reducible refine wpAny_isSubtype_exc hC ?_;first | rw[hcB] | rw[hcA] | rw[hcN]) | wp_step)
 show R _ _
 rw[Heap.size_push]
 exact hq
theorem IY {K:Frag} {fI:Addr} (X:K.In h) (Fn:ExcBaseFacts Bn newId inN bmN) (hB:bm.contains (.type Bn)=true) (hA:bm.contains (.type "AttributeError")=false) (hN:bm.contains (.type "NameError")=false) {rest:List Bq}
  (hC:h.get? C=some (excClassObj nm q C N bs bm hdct sn sub ab col dd k0 k1 k2 k3 k5 newId)) (hi:findIn K (.ref C) "__init__"=some (some (.ref fI))) (hf:typeIn K (.ref fI)=some (.type "function")) (hrest:rest.length≤sizeLine)
  (hq:codeAny (model prog w) (A.under (.builtin "type.__call__" ⟨.ref C::rest,[]⟩)) (.call (.ref fI) ⟨.ref (h.objs.size+1)::rest,[]⟩) (InitBack (h.objs.size+1) R) ⟨(h.push {cls:=.type "tuple",data:=.seq rest.toArray}).push {cls:=.ref C,data:=.fields #[.ref h.objs.size,.none,.none,.none,.bool false,.none]},g,d,t,os⟩):
  codeAny (model prog w) A (.call (.ref C) ⟨rest,[]⟩) R ⟨h,g,d,t,os⟩:=by
 have f1:=tc_lookup
 have f2:=tc_bind (.ref C)
 have hT:(⟨h,g,d,t,os⟩:Bk).TypeIs (.ref C) "type":=⟨_,hC,rfl⟩
 refine codeAny_of_tree ?_
 show wpAny _ _ (callAny (.ref C) _) _ _ _
 repeat (any_goals (first | assumption | with_reducible refine wpAny_loadPart_at hC ?_ | wp_step))
 refine⟨rfl,?_⟩
 refine codeAny_call_builtin_at (Code.quiet_builtin _ (by decide+kernel)) entry_typeCall (wpAny_check_type_call_sub hC ?_)
 repeat (first | with_reducible refine wpAny_loadPart_at hC ?_ | with_reducible refine wpAny_madeBy_exc hC ?_ | wp_step)
 refine codeAny_call_builtin_code (Code.quiet_builtin _ Fn.quiet) (EY Fn hB hC ?_)
 refine RM Fn hB hA hN hC ?_ hrest
 have k:∀ b o,h.get? b=some o→((h.push {cls:=.type "tuple",data:=.seq rest.toArray}).push {cls:=.ref C,data:=.fields #[.ref h.objs.size,.none,.none,.none,.bool false,.none]}).get? b=some o:=fun b o e=>Bo _ (Bo _ e)
 have hget:((h.push {cls:=.type "tuple",data:=.seq rest.toArray}).push {cls:=.ref C,data:=.fields #[.ref h.objs.size,.none,.none,.none,.bool false,.none]}).get? (h.objs.size+1)=some {cls:=.ref C,data:=.fields #[.ref h.objs.size,.none,.none,.none,.bool false,.none]}:=by heap_get
 have hcC:(Bq.ref C::bm).contains (.ref C)=true:=by simp
 have hC₁:=k _ _ hC
 have i1:Looks (model prog w) _ (typeLookup (.ref C) "__init__") (some (.ref fI)):=(looks_findIn X hi).keeps k
 have b1:Looks (model prog w) _ (bindSpecial (.ref fI) (.ref (h.objs.size+1))) (.ref fI,[.ref (h.objs.size+1)]):=(bind_fn X _ hf).keeps k
 show wpAny _ _ _ _ _ _
 unfold isInstance
 repeat (first | with_reducible refine wpAny_loadPart_at hget ?_ | (with_reducible refine wpAny_isSubtype_exc hC₁ ?_;rw[hcC]) | wp_step)
 show wpAny _ _ (isSubtype (.ref C) (.ref C)) _ _ _
 refine wpAny_isSubtype_exc hC₁ ?_
 rw[hcC]
 have t1:Looks (model prog w) ((h.push {cls:=.type "tuple",data:=.seq rest.toArray}).push {cls:=.ref C,data:=.fields #[.ref h.objs.size,.none,.none,.none,.bool false,.none]}) (typeOf (.ref (h.objs.size+1))) (.ref C):=(Looks.ld hget).andThen .now
 show wpAny _ _ ((holding [Bq.ref (h.objs.size+1)] (callSpecial? (Bq.ref (h.objs.size+1)) (Aa "__init__") rest []))>>=_) _ _ ⟨(h.push {cls:=.type "tuple",data:=.seq rest.toArray}).push {cls:=.ref C,data:=.fields #[.ref h.objs.size,.none,.none,.none,.bool false,.none]},g,d,t,os⟩
 unfold callSpecial? specialOf
 repeat (first | with_reducible refine wpAny_call ?_ | lk)
 refine codeAny_mono hq fun r s' z=>?_
 rcases r with e | (v | _ | _ | _)<;>first | exact z | exact z.elim | skip
 obtain⟨rfl,z⟩:=z
 exact Bi (Bi z)
end
theorem GE {G:World} {A:Bm} {s:Bk} {K:Frag} {x C:Addr} {sl:Array (Option Bq)} {vs:Array Bq} {name:Str} {names:List Str} {w:Bq} {E:Bq→Bk→Prop} {Q:Unit→Bk→Prop} (X:K.In s.heap) (f:Oe K C names) (hn:name∈names) (hx:s.heap.get? x=some {cls:=.ref C,dict:=none,data:=.fields vs,slots:=sl})
  (h:∀ h' t' en n',(∀ b,b≠x→b≠s.heap.objs.size→∀ o,s.heap.get? b=some o→h'.get? b=some o)→h'.get? x=some {cls:=.ref C,dict:=some s.heap.objs.size,data:=.fields vs,slots:=sl}→h'.get? s.heap.objs.size=some (dictOf [en] n')→(∃ t,en.key= .str name t)→en.val=w→Q () {s with heap:=h',toks:=t'}):wpAny (model prog G) A (setAttr (.ref x) name w) Q E s:=by
 have I:InstAt s.heap x {cls:=.ref C,dict:=none,data:=.fields vs,slots:=sl} C none:=⟨hx,rfl,rfl,trivial⟩
 refine set_plain X I f.sa ?_
 obtain⟨cd,hc,hd',c1,c2,c3⟩:=f.cd
 refine MJ (s:={s with toks:=s.toks+1}) X I hc c1 c2 c3 (f.tk _ hn) fun b=>?_
 refine Bh (Bi (Bh (Bh (wpAny_loadPart hx (Bh (Looks.here (s:={s with toks:=s.toks+1}) (looks_clsIn X hc) ?_))))))
 rw[hd']
 dsimp only
 rw[if_neg (by decide)]
 rw[if_neg (by simp [typeHasDict])]
 have hx₁:(s.heap.push {cls:=.type "dict",data:=.dict #[]}).get? x=some {cls:=.ref C,dict:=none,data:=.fields vs,slots:=sl}:=Bo _ hx
 have hxs:x≠s.heap.objs.size:=Nat.ne_of_lt (Heap.lt_size hx)
 refine Bh (wpAny_alloc ?_)
 refine Bh (wpAny_update hx₁ ?_)
 refine Bi ?_
 generalize hH:((s.heap.push {cls:=.type "dict",data:=.dict #[]}).update x fun o=>{cls:=o.cls,dict:=some s.heap.objs.size,data:=o.data,slots:=o.slots})=H
 have hgd:H.get? s.heap.objs.size=some (dictOf [] 0):=by
  rw[←hH];exact(Heap.get?_update_ne _ _ _ _ hxs.symm).trans (Heap.get?_push_at rfl rfl)
 have hgx:H.get? x=some {cls:=.ref C,dict:=some s.heap.objs.size,data:=.fields vs,slots:=sl}:=by
  rw[←hH];exact Heap.get?_update_self _ hx₁ rfl
 have hgo:∀ b,b≠x→∀ o,s.heap.get? b=some o→H.get? b=some o:=fun b hb o e=>by
  rw[←hH];exact(Heap.get?_update_ne _ _ _ _ hb).trans (Bo _ e)
 show wpAny _ _ (Builtin.ObjectAttr.storeInDict s.heap.objs.size (.str name s.toks) name w) _ _ _
 unfold Builtin.ObjectAttr.storeInDict Builtin.ObjectAttr.newKeyGuard nsSet
 refine Bh (Bi (Bh ?_))
 refine Bh (Bh (wpAny_askSetting (Bi (Bh (wpAny_mkText (Bh (wpAny_loadPart hgd ?_)))))))
 dsimp only
 rw[aRefKeyMayBeTheName_at]
 rw[if_neg (by simp)]
 refine wpAny_updatePart hgd ?_
 have hput:=putName_dict name (PyData.keyHash G.params name) (.str name (s.toks+1)) w [] 0
 rw[Qh (by intro e he;cases he)] at hput
 have D':=Heap.get?_update_self (Obj.putName name (PyData.keyHash G.params name) (.str name (s.toks+1)) w) hgd (by rw[hput];rfl)
 rw[hput] at D'
 refine Bh (wpAny_lookBehind D' (pastItsLine_dict (by rw[List.size_toArray,sizeLine_eq];simp)) ?_)
 exact Bi (h _ (s.toks+2) ⟨PyData.keyHash G.params name,.str name (s.toks+1),w⟩ _ (fun b hb hd o e=>(Heap.get?_update_other _ _ (Ne.symm hd)).trans (hgo b hb o e)) ((Heap.get?_update_other _ _ hxs.symm).trans hgx) D' ⟨_,rfl⟩ rfl)
theorem tE:findIn ([]:Frag) (.type "type") "__getattribute__"=some (some (.builtin "type.__getattribute__")):=type_tga
theorem KV {G:World} {A:Bm} {s:Bk} {K:Frag} {T:String} {v:Bq} {name:Str} {pl:Sem Bool} {E:Bq→Bk→Prop} {Q:Bq×List Bq→Bk→Prop} (X:K.In s.heap) (ht:typeOf (.type T)=pure (.type "type")) (hs:Manifest.isStub T=false)
  (e:findCls K (.type T) (.type "type") name=some (.val v)) (hh:handedIn v=true) (h:Q (v,[]) {s with toks:=s.toks+1}):wpAny (model prog G) A (getMethod (.type T) name pl) Q E s:=by
 have hstub:opaqueClassAbove (.type T)=pure none:=by unfold opaqueClassAbove;dsimp only;rw[hs];rfl
 have L0:Looks (model prog G) s.heap (typeOf (.type T)) (.type "type"):=Looks.of_pure ht
 have hg:findIn K (.type "type") "__getattribute__"=some (some (.builtin "type.__getattribute__")):=tE
 unfold getMethod specialOf
 refine Bh (Bh (L0.here ((looks_findIn X hg).here ?_)))
 dsimp only
 rw[if_pos canon_tga]
 refine Bh (wpAny_mono (Q:=fun v=>Q (v,[])) (E:=E) ?_ (fun Z Z z=>Bi z) fun Z Z z=>z)
 have LO:Looks (model prog G) s.heap (opaqueClassAbove (.type T)) none:=Looks.of_pure hstub
 refine cls_open X LO L0 hg (looks_hook X (r:=none) (by rfl)) (by show subIn K _ _=_;rfl) e
  (Bi (by show wpAny _ _ (handedOut v) _ _ _;rw[handedOut_of hh];exact Bi h))
theorem IV (K:Frag):findCls K (.type "Exception") (.type "type") (Aa "__init__")=some (.val (.builtin "Exception.__init__")):=by kernel_rfl
theorem RN:typeOf (.type "Exception")=pure (.type "type"):=by kernel_rfl
theorem IZ:Manifest.isStub "Exception"=false:=by decide+kernel
noncomputable abbrev FB:ExcBaseFacts "Exception" "Exception.__new__" "Exception.__init__" [.type "Exception",.type "BaseException",.type "object"]:=PySem.F.excBase_Exception
section
variable {prog:Program} {w:World} {A:Bm} {E:Bq→Bk→Prop} {s:Bk}
variable {nm q:Str} {C N:Addr} {bs bm:List Bq} {hdct:Bool} {sn:List Str} {sub:List Bq} {ab:Bool} {col:Option Bool} {dd:Option Addr} {k0 k1 k2 k3 k5:Option Bq} {newId:String}
theorem IW {e t0:Addr} {oe:Obj} {vs:Array Bq} {v:Bq} {Q:Bq→Bk→Prop} (hB:bm.contains (.type "Exception")=true) (hC:s.heap.get? C=some (excClassObj nm q C N bs bm hdct sn sub ab col dd k0 k1 k2 k3 k5 newId))
  (he:s.heap.get? e=some oe) (hcls:oe.cls= .ref C) (hd:oe.data= .fields vs) (h0:vs[0]?=some (.ref t0))
  (h:Q .none {s with heap:=(s.heap.push {cls:=.type "tuple",data:=.seq #[v]}).update e (Obj.mapFields (·.setIfInBounds 0 (.ref s.heap.objs.size)))}):
  wpAny (model prog w) A (PySem.call (.builtin "Exception.__init__") [.ref e,v]) Q E s:=by
 have hcB:(Bq.ref C::bm).contains (.type "Exception")=true:=by rw[List.contains_cons,hB,Bool.or_true]
 refine wpAny_call (codeAny_call_builtin FB.init.plain FB.initEntry ?_)
 have hshort:=FB.noStar
 obtain⟨hh,g,d,t,os⟩:=s
 simp only [checkBuiltinCall,FB.initKind,FB.initSplit,FB.initRow]
 repeat (first | (with_reducible refine wpAny_loadPart_at he ?_;rw[hcls]) | with_reducible refine wpAny_loadPart_at hC ?_ | (with_reducible refine wpAny_isSubtype_exc hC ?_;rw[hcB]) | wp_step)
 have hsz:0 < vs.size:=(Array.getElem?_eq_some_iff.mp h0).1
 have he₁:=Bo (h:=hh) {cls:=.type "tuple",data:=.seq #[v]} he
 rw[hd]
 dsimp only
 refine Bi ?_
 rw[h0]
 refine Bi (Bh (wpAny_setField he₁ hd hsz ?_))
 exact wpAny_letGo (Bi h)
end
section
variable {prog:Program} {w:World} {A:Bm} {E:Bq→Bk→Prop} {env:Env}
variable {nm q:Str} {C N:Addr} {bs bm:List Bq} {hdct:Bool} {sn:List Str} {sub:List Bq} {ab:Bool} {col:Option Bool} {dd:Option Addr} {k0 k1 k2 k3 k5:Option Bq} {newId:String}
theorem Xl {s:Bk} {x:Sem Bq} {Q:PySem.Flow→Bk→Prop} (hbase:bm.contains (.type "BaseException")=true) (hh:A.handled=none)
  (h:wpAny (model prog w) A x (fun v s₁=>∃ e t dx sl,v= .ref e∧s₁.heap.get? C=some (excClassObj nm q C N bs bm hdct sn sub ab col dd k0 k1 k2 k3 k5 newId)∧
   s₁.heap.get? e=some {cls:=.ref C,dict:=dx,data:=.fields #[.ref t,.none,.none,.none,.bool false,.none],slots:=sl}∧E (.ref e) s₁) E s):
  wpAny (model prog w) A (raiseStmt env (some x) none) Q E s:=by
 have hcB:(Bq.ref C::bm).contains (.type "BaseException")=true:=by rw[List.contains_cons,hbase,Bool.or_true]
 unfold raiseStmt
 refine Bh (wpAny_mono h (fun v s₁ h₁=>?_) fun Z Z x=>x)
 obtain⟨e,t,dx,sl,rfl,hC,he,hE⟩:=h₁
 obtain⟨hp,g,d,tk,os⟩:=s₁
 repeat (first | with_reducible refine wpAny_loadPart_at he ?_ | with_reducible refine wpAny_loadPart_at hC ?_ | (with_reducible refine wpAny_isSubtype_exc hC ?_;rw[hcB]) | wp_step)
 exact wpAny_raiseNew_none hh hE
end
noncomputable abbrev B8:Nat:=72
noncomputable abbrev Ku:Nat:=37
noncomputable abbrev Yq:List Bq:=[.ref 47,.type "Exception",.type "BaseException",.type "object"]
noncomputable def lA:Data→Option ClassData
 | .cls cd=>some cd
 | _=>none
noncomputable def six {α:Type}:List α→(α→Bool)→Bool
 | [_,_,_,_,e,_],f=>f e
 | _,_=>false
theorem gX {α:Type} {P:Prop} {f:α→Bool} {l:List α} (h:six l f=true) (k:∀ a b c d e g,l=[a,b,c,d,e,g]→f e=true→P):P:=by
 cases l with
 | nil=>exact ff h
 | cons a l=>cases l with
  | nil=>exact ff h
  | cons b l=>cases l with
   | nil=>exact ff h
   | cons c l=>cases l with
    | nil=>exact ff h
    | cons d l=>cases l with
     | nil=>exact ff h
     | cons e l=>cases l with
      | nil=>exact ff h
      | cons g l=>cases l with
       | nil=>exact k a b c d e g rfl h
       | cons _ _=>exact ff h
noncomputable def IU (K:Frag):Bool:=(opt (K.lookup B8) fun o=>o.cls== .type "type"&&(opt (lA o.data) fun cd=>cd.mro== .ref B8::Yq&& !cd.hasDel&&cd.hasDict)&&six o.slots.toList fun n=>n==some (.builtin "Exception.__new__"))&&
 findIn K (.ref B8) "__init__"==some (some (.ref Ku))&&typeIn K (.ref Ku)==some (.type "function")&&
 findIn K (.ref B8) "__setattr__"==some (some (.builtin "object.__setattr__"))&&takerIn K B8 "what"==some none&&takerIn K B8 "at"==some none&&keepIn K (.ref B8)
structure PY where
 nm:Str
 q:Str
 N:Addr
 bs:List Bq
 hdct:Bool
 sn:List Str
 sub:List Bq
 ab:Bool
 col:Option Bool
 dd:Option Addr
 k0:Option Bq
 k1:Option Bq
 k2:Option Bq
 k3:Option Bq
 k5:Option Bq
noncomputable abbrev PY.o (x:PY):Obj:=excClassObj x.nm x.q B8 x.N x.bs Yq x.hdct x.sn x.sub x.ab x.col x.dd x.k0 x.k1 x.k2 x.k3 x.k5 "Exception.__new__"
structure Rv (K:Frag):Prop where
 obj:∃ x:PY,K.lookup B8=some x.o
 init:findIn K (.ref B8) "__init__"=some (some (.ref Ku))
 typ:typeIn K (.ref Ku)=some (.type "function")
 fills:Oe K B8 [Aa "what",Aa "at"]
 keep:keepIn K (.ref B8)=true
theorem QU {d:Data} {cd:ClassData} (h:lA d=some cd):d= .cls cd:=by
 cases d with
 | cls x=>exact congrArg Data.cls (Ab h)
 | _=>exact nn h
theorem EW {K:Frag} (h:IU K=true):Rv K:=
 have h1:=b2 h;have h2:=b2 h1.1;have h3:=b2 h2.1;have h4:=b2 h3.1;have h5:=b2 h4.1;have h6:=b2 h5.1
 C2 h6.1 fun o ho h=>C2 (b2 (b2 h).1).2 fun cd hcd hc=>gX (b2 h).2 fun k0 k1 k2 k3 n k5 hs hn=>by
  have hc1:=b2 (b2 hc).1
  have hd:=QU hcd
  have hobj:∃ x:PY,o=x.o:=by
   obtain⟨c,dd,dt,⟨sl⟩⟩:=o
   obtain⟨nm,bs,mro,ns,qn,hdc,sn,sub,ab,col,del⟩:=cd
   obtain rfl:c= .type "type":=beq_iff_eq.mp (b2 (b2 h).1).1
   obtain rfl:dt=_:=hd
   obtain rfl:sl=_:=hs
   clear hcd h ho
   obtain rfl:mro=_:=beq_iff_eq.mp hc1.1
   obtain rfl:del=false:=Hp hc1.2
   obtain rfl:hdc=true:=(b2 hc).2
   obtain rfl:n=_:=beq_iff_eq.mp hn
   exact⟨⟨_,_,_,_,true,_,_,_,_,_,_,_,_,_,_⟩,rfl⟩
  refine⟨hobj.imp fun Z h=>ho.trans (congrArg some h),beq_iff_eq.mp h6.2,beq_iff_eq.mp h5.2,⟨beq_iff_eq.mp h4.2,⟨cd,by unfold clsIn;rw[ho];cases o;cases hd;rfl,(b2 hc).2,?_,?_,fun self=>?_⟩,fun n hn=>?_⟩,h1.2⟩
  · rw[show cd.mro=_ from beq_iff_eq.mp hc1.1];rfl
  · rw[show cd.mro=_ from beq_iff_eq.mp hc1.1];decide+kernel
  ·
   rw[show cd.mro=_ from beq_iff_eq.mp hc1.1,refuseLoop_ref,refuseLoop_ref]
   exact PySem.F.store_Exception.passes self
  ·
   rcases Ag.mp hn with rfl | hn
   · exact beq_iff_eq.mp h3.2
   · rw[Ae.mp hn];exact beq_iff_eq.mp h2.2
noncomputable def mE (ns:List Str) (sc:Scope) (b:List Stmt):Bool:=IF b fun s ss=>(Xg s fun e Z=>G9 e fun f l kw cp=>nil kw&&(Ie f fun x n ap=>decide (n="__init__")&&(Dj x fun Z Z=>true)&&El ns sc (.glob (Aa "Exception") (.val (.type "Exception"))) x&&ap.endLine==cp.line)&&Hs ns sc [.var 0,.var 1] l&&l.length==2)&&
  qD ns sc [(Aa "what",some 1),(Aa "at",some 2)] ss
noncomputable def Zb (K:Frag):Bool:=M4 K Ku fun fd b ds=>mE (Gq fd) fd.scope b&&fd.params.args.length==3&&(Gq fd).length==3&&(EM fd).isEmpty&&ds.length==1
noncomputable def G0 (h:Heap) (b:Addr):Option D2:=(h.get? b).map fun o=>.any (· =o)
theorem Lk {w:World} {h:Heap} {b:Addr} {c:D2} (e:G0 h b=some c):∃ o,h.get? b=some o∧c.ok w o:=by
 unfold G0 at e
 cases q:h.get? b with
 | none=>rw[q] at e;exact nn e
 | some o=>rw[q] at e;exact⟨o,rfl,Ab e▸rfl⟩
theorem Ig {h:Heap} {b:Addr} {o:Obj} (e:h.get? b=some o):G0 h b=some (.any (· =o)):=congrArg (Option.map _) e
section
variable {G:Gx} {W:Wd} {wr:List Addr} {h:Heap} {t:Nat}
theorem Hw.pin {f:Addr→Option D2} (I:B6 G W) (hw:∀ b∈wr,Yb W b) (hf:∀ b∈wr,∀ c,f b=some c→∃ o,h.get? b=some o∧c.ok G.w o) (k:∀ b o,b∉wr→W.s.heap.get? b=some o→h.get? b=some o):Hw G wr W (W.its wr f h t):=
 .its I (fun b hb=>(hw b hb).elim fun o e=>⟨I.nof e,(fun d q=>Ab (e.symm.trans q)▸fun q=>nomatch q),hf b hb⟩) fun b hb o e=>k b o hb e
theorem Yb.its {b:Addr} (hb:b∈wr) (ho:∃ o,h.get? b=some o):Yb (W.its wr (G0 h) h t) b:=ho.imp fun o e=>(if_pos hb).trans (Ig e)
structure kF (G:Gx) (A:Bm) (I:Addr) (F:B9) (l:List MV) (P:Nat→Bq→Prop) (St:Nat→Heap→Prop) (fp:List Addr):Prop where
 W:Walks prog G.w A I fp [I] l.length P St
 val:∀(i:Nat) (v:Bq) (m:MV),P i v→l[i]?=some m→VR F m v
 live:∀ i h,St i h→∃ n,n∈K7∧∃ d vs sl,h.get? I=some {cls:=.type n,dict:=d,data:=.fields vs,slots:=sl}
theorem jI.d {A:Bm} {I:Addr} {F:B9} {l:List MV} {P:Nat→Bq→Prop} {St:Nat→Heap→Prop} {fp:List Addr} (X:jI G A I F l P St fp):kF G A I F l P St fp:=⟨X.W,X.val,X.live⟩
theorem kF.c {A:Bm} {I:Addr} {F:B9} {l:List MV} {P:Nat→Bq→Prop} {St:Nat→Heap→Prop} {fp:List Addr} {tg:Expr} (X:kF G A I F l P St fp) (hF:F.le W.F) (hp:∀ b∈fp,b=I∨Fx W b):HC G A tg I [I] W l St fp:=
 ⟨fun {i m W1 Q E} hm I1 le pins st k=>X.W.item i W1.s _ _ (Ah.mp hm).1 st fun v h2 t2 hP st2 hk=>(X.live _ _ st2).elim fun n h=>h.2.elim fun d h3=>h3.elim fun vs h4=>h4.elim fun sl ho=>
  ⟨v,rfl,BP h.1 ho (k v (W1.its [I] (G0 h2) h2 t2) (.pin I1 pins (fun Z Z c e=>Lk e) hk) (fun b hb=>.its hb ⟨_,(Ae.mp hb:b=I).symm▸ho⟩) st2 (VR.up (fun a o h=>le _ _ (hF _ _ h)) _ (X.val i v m hP hm)))⟩,
  fun {W1 Q E} I1 pins st k=>X.W.done W1.s _ _ st fun h2 t2 hk=>k (W1.its [I] (fun Z=>none) h2 t2) (.pin I1 pins (fun Z Z c e=>nn e) hk),
  fun {i s Q E} st q=>X.W.self i s _ _ st q,fun st k=>X.W.frame _ _ _ st k,fun b hb=>(hp b hb).imp (fun e=>Ae.mpr e) id⟩
end
noncomputable abbrev YT (K:Kx) (x tg iter:Expr) (ifs:List Expr) (s:Scope) (pos:Pos) (KK:Bq→Addr→Result→Bk→Prop) (E:Bq→Bk→Prop) (it:Bq):Bk→Prop:=
 wpAny (model prog K.G.w) K.A (newList []) (fun acc s₃=>wpAny (model prog K.G.w) K.A (newFunctionEnv s K.env.globals (Ot K.env s.names []) [] K.env.qual none .none (some K.env)) (fun cenv s₄=>
   codeAny (model prog K.G.w) K.A (.compStart (.ListComp x [⟨tg,iter,ifs,0⟩] s pos) 0 it acc {cenv with scope:=relabel s K.env}) (KK acc cenv.locals) s₄) E s₃) E
noncomputable def CW (K:Kx) (me:ME):Prop:=∀ {e:Expr} {W:Wd} {ρ:List RV} {m:List Addr} {γ δ:Type} {Rel:Wd→γ→δ→Prop} {Q:δ→Bk→Prop} {E:Bq→Bk→Prop} {g:RV→Bu→B1 γ} {P:Prop},El K.ns K.env.scope me e=true→At K W ρ→Br K.G m W Rel Q E ((C0 K.C me ρ W.σ).bind g)→
 (∀ x tg iter ifs s pos,e= .ListComp x [⟨tg,iter,ifs,0⟩] s pos→(∀ v,foldedSetIterable iter K.env v=pure v)→closureFor s K.env=pure (Ot K.env s.names [])→s.kind= .function→(∀ x∈s.names,x.2= .local→s.names.lookup x.1=some .local)→
  (∀ KK:Bq→Addr→Result→Bk→Prop,(∀ W3 f l D C,Go K.G [] W W3→W3.S C=some (.ns f)→(∀ x,W.S C=some x→x.kd=0)→VR W3.F (.lis l) (.ref D)→Br K.G m W Rel Q E (g (.v (.lis l)) W3.σ)→KK (.ref D) C (.ok .next) W3.s)→
   Wp K (eval iter K.env) (fun xv s1=>wpAny (model prog K.G.w) K.A (pyIter xv) (YT K x tg iter ifs s pos KK E) E s1) E W)→P)→P
section
variable {K:Kx}
theorem YK {me:ME} (h:CW K me):SE K me:=fun {e W ρ Q E} ht S H=>h ht S (g:=fun a σ=>.ok a σ) (Hk.symm▸H:Br K.G [] W Cj Q E _) fun x tg iter ifs s pos e h1 h2 h3 h4 h5=>by
 rw[e,eval_ListComp]
 exact wpAny_comprehension_free (use:=none) rfl h1 h2 h3 h4 (h5 (fun acc C=>compPost (model prog K.G.w) K.A E none Q acc C) fun W3 f l D C g hf hC hv H3=>
  ⟨f,g.inv.ns hf,fun h' hk=>H3 (.ref D) (W3.off C h' W3.s.toks) rfl ⟨g.inv.off hf (fun q=>nomatch q) fun b o q e=>(hk.2 b q).trans e,g.le.off hC⟩ hv⟩)
theorem Br.sel {G:Gx} {m:List Addr} {W:Wd} {α γ δ ε:Type} {Rel:Wd→γ→δ→Prop} {Q:δ→Bk→Prop} {E:Bq→Bk→Prop} {P:Prop} {o:Option α} {f:α→B1 ε} {g:ε→Bu→B1 γ} (H:Br G m W Rel Q E ((o.elim .no f).bind g)) (k:∀ a,o=some a→Br G m W Rel Q E ((f a).bind g)→P):P:=match o,H with
 | some a,H=>k a rfl H
 | none,H=>(H:False).elim
theorem mN {α β:Type} {P:Prop} {l:List α} {c:β} (h:l.length=[c].length) (k:∀ a,l=[a]→P):P:=by
 cases l with
 | nil=>exact nomatch h
 | cons a l=>
  cases l with
  | nil=>exact k a rfl
  | cons _ _=>exact nomatch h
theorem MH {X:EI} {t:Str} {pt:Pos} (hts:X.ts=[t]) (hp:X.p= .var 0) (htg:X.tg= .Name t pt) (sc:Cu X.ts X.cap X.s) (src:HC X.K.G X.K.A X.tg X.I X.wr X.W0 X.l X.St X.fp) (kok:Ff X.Kc) (hg:∀ m σ,X.g m σ=PQ X.K.C X.mcond (.v m::X.c) σ) (hf:∀ m σ,X.f m σ=C0 X.K.C X.melt (.v m::X.c) σ)
  (he:SE X.Kc X.melt) (te:El (X.ts++X.cap) (Xn X.s X.K.env.scope) X.melt X.elt=true) (cond:∀ me,X.mcond=some me→ST X.Kc me) (tc:qC (X.ts++X.cap) (Xn X.s X.K.env.scope) X.mcond X.ifs=true) (big:X.l.length≤Cf):ZB X:=
 ⟨src,fun S hp' hv q=>Uq (K:=X.Kc) kok S hv q (by
  rw[hp,htg]
  show Gu (X.ts++X.cap) [] (Xn X.s X.K.env.scope) 0 t=true
  unfold Gu XW
  rw[sc.relLoc X.K.env.scope (hts▸ .head _),hts,List.cons_append]
  simp [opt]) hp',fun m ρ h=>h.elim fun xs h=>by exact .inl ⟨.v m::X.c,mN (l:=xs) (c:=t) (hts▸h.1) fun a ha=>by rw[hp,h.2,ha];exact(if_pos (Nat.zero_lt_succ X.c.length):F7 (a::X.c) 0 (.v m)=_),⟨[.v m],hts▸rfl,rfl⟩,hg m,hf m⟩,he,te,cond,tc,big⟩
theorem Oy {W:Wd} {ρ c:List RV} {caps:List Nat} {x iter:Expr} {t:Str} {pt pos:Pos} {ifs:List Expr} {s:Scope} {melt:ME} {mcond:Option ME} {l tot:List MV} {τ:Bu} {g:MV→Bu→B1 Bool} {P:Nat→Bq→Prop} {St:Nat→Heap→Prop} {fp:List Addr} {o:Obj} {tk:Nat} {E:Bq→Bk→Prop} {KK:Bq→Addr→Result→Bk→Prop}
  (hK:Ff K) (S:At K W ρ) (sc:Cu [t] (Ei s) s) (ho:Iw K.ns K.env.scope caps (Ei s)=true) (hc:Eh ρ caps=some c) (X:kF K.G K.A W.s.heap.objs.size W.F l P St fp) (fpx:∀ b∈fp,b=W.s.heap.objs.size∨Fx W b) (st:St 0 (W.s.heap.push o)) (hg:∀ m σ,g m σ=PQ K.C mcond (.v m::c) σ)
  (he:∀ C,Ff (K.comp s C ([t]++Ei s))→SE (K.comp s C ([t]++Ei s)) melt) (te:El ([t]++Ei s) (Xn s K.env.scope) melt x=true) (cond:∀ C,Ff (K.comp s C ([t]++Ei s))→∀ me,mcond=some me→ST (K.comp s C ([t]++Ei s)) me) (tc:qC ([t]++Ei s) (Xn s K.env.scope) mcond ifs=true) (big:l.length≤Cf)
  (hq:Hc g (fun m σ=>C0 K.C melt (.v m::c) σ) l W.σ= .ok tot τ) (hR:∀ W3 f D C,W3.σ=τ→Go K.G [] W W3→W3.S C=some (.ns f)→W.S C=none→VR W3.F (.lis tot) (.ref D)→KK (.ref D) C (.ok .next) W3.s):
  YT K x (.Name t pt) iter ifs s pos KK E (.ref W.s.heap.objs.size) {W.s with heap:=W.s.heap.push o,toks:=tk}:=by
 obtain⟨oI,hI⟩:∃ oI,(W.s.heap.push o).get? W.s.heap.objs.size=some oI:=(X.live _ _ st).elim fun n h=>h.2.elim fun d h=>h.elim fun vs h=>h.elim fun sl h=>⟨_,h⟩
 have nI:W.s.heap.get? W.s.heap.objs.size=none:=Ea
 have g0:Go K.G [] W (W.lay W.s.heap.objs.size (.any (· =oI)) (W.s.heap.push o) tk):=Ga (.refl S.inv) nI S.inv.top (fun b x Z e=>B4 b x e) hI rfl
 have fpk:∀ b∈fp,b=W.s.heap.objs.size∨Fx (W.lay W.s.heap.objs.size (.any (· =oI)) (W.s.heap.push o) tk) b:=fun b hb=>if q:b=W.s.heap.objs.size then .inl q else(fpx b hb).imp id (Or.imp id fun⟨o,h⟩=>⟨o,(Dg q).trans h⟩)
 exact Vr (X:={K:=K,s:=s,C:=0,D:=0,ts:=[t],cap:=Ei s,c:=c,tg:=.Name t pt,p:=.var 0,elt:=x,ifs:=ifs,melt:=melt,mcond:=mcond,l:=l,g:=g,f:=_,I:=W.s.heap.objs.size,wr:=[W.s.heap.objs.size],fp:=fp,St:=St,W0:=W.lay W.s.heap.objs.size (.any (· =oI)) (W.s.heap.push o) tk,Wb:=W,tot:=tot,τ:=τ})
  hK sc S ho hc g0 (fun a h=>Option.eq_none_iff_forall_ne_some.mpr fun o' e=>nn (h.symm.trans (B4 a o' e))) (fun b hb=>(Ae.mp hb:b=W.s.heap.objs.size).symm▸⟨S.inv.top,⟨_,Dh⟩⟩) (fun C kok=>MH rfl rfl rfl sc (X.c (fun Z Z h=>h) fpk) kok hg (fun Z Z=>rfl) (he C kok) te (cond C kok) tc big) st hq
  (fun b hb=>(fpk b hb).imp (fun e=>Ae.mpr e) id) (fun st k=>X.W.frame _ _ _ st k) hR
theorem Br.bind0 {G:Gx} {m:List Addr} {W:Wd} {α β γ δ:Type} {Rel:Wd→α→β→Prop} {Rel':Wd→γ→δ→Prop} {Q:δ→Bk→Prop} {Q1:β→Bk→Prop} {E:Bq→Bk→Prop} {o:B1 α} {g:α→Bu→B1 γ} (H:Br G m W Rel' Q E (o.bind g)) (k:∀ r v W1,Go G [] W W1→Rel W1 r v→Br G m W Rel' Q E (g r W1.σ)→Q1 v W1.s):Br G [] W Rel Q1 E o:=match o,H with
 | .ok r σ,H=>fun v W' e g' h=>k r v W' g' h (e.symm▸H)
 | .exc n σ,H=>fun e W' q g' h=>H e W' q g'.up h
 | .no,H=>H
theorem Le.kd0 {m:List Addr} {W W':Wd} {a:Addr} (L:Le m W W') (h:W'.S a=none):∀ x,W.S a=some x→x.kd=0:=fun x e=>Decidable.byContradiction fun q=>(L.kd a x e q).elim fun d y=>nn (h.symm.trans y.1)
theorem Qe {P:Prop} {gs:List Comprehension} {f:Expr→Expr→List Expr→Bool} (h:CS gs f=true) (k:∀ t i l,gs=[⟨t,i,l,0⟩]→f t i l=true→P):P:=Dr h fun g e h=>match g,e,h with
 | ⟨t,i,l,a⟩,e,h=>k t i l (e.trans (by rw[show a=0 from of_decide_eq_true (b2 h).1])) (b2 h).2
noncomputable abbrev qQ (K:Kx) (me:ME):Prop:=∀ s C ns,Ff (K.comp s C ns)→SE (K.comp s C ns) me
noncomputable abbrev STc (K:Kx) (me:ME):Prop:=∀ s C ns,Ff (K.comp s C ns)→ST (K.comp s C ns) me
theorem bR {α:Type} {P:Prop} {c:Prop} [Decidable c] {x:B1 α} {G:Gx} {m:List Addr} {W:Wd} {γ δ:Type} {Rel:Wd→γ→δ→Prop} {Q:δ→Bk→Prop} {E:Bq→Bk→Prop} {g:α→Bu→B1 γ} (H:Br G m W Rel Q E ((if c then x else .no).bind g)) (k:c→Br G m W Rel Q E (x.bind g)→P):P:=
 if q:c then k q ((congrArg (fun x=>Br G m W Rel Q E (B1.bind x g)) (if_pos q)).mp H) else((congrArg (fun x=>Br G m W Rel Q E (B1.bind x g)) (if_neg q)).mp H:False).elim
theorem IJ {n elt:ME} {caps:List Nat} (hK:Ff K) (B:Bs K.G) (hn:SE K n) (he:qQ K elt):CW K (.compR n elt caps):=fun {e W ρ m γ δ Rel Q E g P} ht S H k=>Fp ht fun x gs s pos e1 h1=>Qe h1 fun tg it ifs e2 h2=>
 have h3:=b2 h2;have h4:=b2 h3.1;have h5:=b2 h4.1
 B5 h5.2 fun t pt e3 h6=>N5 h3.2 fun p l q e4 hk h7=>Dr h7 fun a e5 h8=>
 have sc:=Cu.of (b2 h6).1
 Br.sel (o:=Eh ρ caps) H fun c hc H=>k x tg it ifs s pos (e1.trans (by rw[e2])) (fun v=>by rw[e4];rfl) (Hz (Ov sc S h4.2 hc)) sc.kind sc.names fun KK hKK=>by
  clear h3 h2 e2 h7
  subst e3;subst e4;subst e5
  obtain rfl:=Cc h5.1
  refine N1 hK B.range S.inv hk rfl (by rw[Cg (b2 h8).2];rfl) (wpAny_items_cons (hn (b2 h8).1 S (Br.bind0 (Br.assoc H) fun r v W1 g1 hr H1=>wpAny_items_nil ?_)) (Cg (b2 h8).2))
  refine Br.sel H1 fun i hi H2=>bR H2 fun hb H3=>T8 (Br.assoc H3) fun tot τ hq H4=>?_
  obtain rfl:=Hj hi
  clear hi H1 h5
  obtain⟨u,rfl⟩:=hr
  refine PySem.call_range_1 ?_
  have g2:Go K.G [] W1 (W1.see (W1.s.heap.push {cls:=.type "range",data:=.fields #[.int 0 W1.s.toks,.int i u,.int 1 (W1.s.toks+1)]}) (W1.s.toks+1+1)):=Go.see g1.inv B4
  refine Qi (F:=W1.F) (s:=(W1.see _ (W1.s.toks+1+1)).s) hK.call.calm (IsRange.new W1.s.heap 0 i 1 W1.s.toks u (W1.s.toks+1)) (Int.le_refl _) (by decide) hb.1 hb.2 fun P St fp o X h0=>?_
  rw[Int.sub_zero] at X
  exact Oy (W:=W1.see _ _) hK ((S.go g1).go g2) sc h4.2 hc X.d (fun b hb=>(X.fpk b hb).imp id .inl) h0 (fun m σ=>rfl) (fun C kok=>he _ _ _ kok) (b2 h6).2 (fun Z Z Z e=>nn e) rfl (by rw[Py];omega) hq fun W3 f D C e3 g3 hf hC hv=>hKK W3 f tot D C (g1.trans (g2.trans g3)) hf (g1.le.kd0 hC) hv (e3.symm▸H4)
end
noncomputable abbrev Jv (t:Addr) (dd:Option Addr) (sl:Array (Option Bq)):Obj:={cls:=.ref 72,dict:=dd,data:=.fields #[.ref t,.none,.none,.none,.bool false,.none],slots:=sl}
noncomputable def Rw (W:Wd) (n:Int) (e:Bq):Prop:=∃ y t,Sw W n e y∧y.vs= #[.ref t,.none,.none,.none,.bool false,.none]
theorem Rw.fly {W:Wd} {n:Int} {e:Bq}:Rw W n e→ZE W n e:=fun⟨y,t,h,q⟩=>⟨y,h,.none,by rw[q];rfl,.inl rfl⟩
theorem Hw.one {G:Gx} {W:Wd} {e:Addr} {p q:Obj→Prop} {o:Obj} {h:Heap} {t:Nat} (I:B6 G W) (hs:W.S e=some (.any p)) (ho:h.get? e=some o) (hq:q o) (k:C8 e W.s.heap h):Hw G [e] W (W.its [e] (fun Z=>some (.any q)) h t):=
 .its I (fun b hb=>(Ae.mp hb:b=e).symm▸⟨I.nof hs,(fun d x=>Ab (hs.symm.trans x)▸fun q=>nomatch q),fun c x=>⟨o,ho,Ab x▸hq⟩⟩) fun b hb o x=>k b o (fun z=>hb (Ae.mpr z)) x
section
variable {K:Kx} {Wb W:Wd} {F:Frag} {E:Bq→Bk→Prop} {Q:PySem.Flow→Bk→Prop} {e t0:Addr} {sl:Array (Option Bq)}
theorem bU {p:Obj→Prop} (hs:W.S e=some (.any p)):∀ b∈[e],∀ c,W.S b=some c→c.kd=3:=fun b hb c x=>Ab (hs.symm.trans ((congrArg W.S (Ae.mp hb:b=e)).symm.trans x))▸rfl
theorem SQ {w:Str} {a:MV} {f:Expr} {l:List Expr} {ap cp sp:Pos} (hK:Ff K) (X:F.In K.G.hB) (EA:Rv F) (B:Bs K.G) (go:Go K.G [] Wb W) (nw:Wb.S e=none) (S:At K W [.v (.val (.ref e)),.v (.str w),.v a]) (hm:e∉K.mine)
  (hx:El K.ns K.env.scope (.glob (Aa "Exception") (.val (.type "Exception"))) f=true) (hbo:L7 f=true) (hl:Hs K.ns K.env.scope [.var 0,.var 1] l=true) (hll:l.length=2) (hp:(ap.endLine==cp.line)=true) (he:W.S e=some (.any (· =Jv t0 none sl)))
  (h:∀ W' t1,W'.σ=W.σ→Go K.G [] Wb W'→At K W' [.v (.val (.ref e)),.v (.str w),.v a]→W'.S e=some (.any (· =Jv t1 none sl))→Q .next W'.s):Wp K (exec (.Expr (.Call (.Attribute f "__init__" ap) l [] cp) sp) K.env) Q E W:=by
 refine wpAny_Expr_any ?_ (Mr hK.kind) (Jg rfl)
 rw[arm_eval_Call,Gg hbo]
 refine Bh (Jp hK B _ _ hx S fun v W1 e1 g1 hv=>?_)
 obtain rfl:=(show v= .type "Exception" from hv)
 have hb:=Eb (pos:=cp) (env:=K.env) hl
 have hform:methodCallForm (l.length+([]:List Keyword).length) (backTo cp (starEach l K.env)) (backToKw cp (keywordEach [] K.env))=true:=by
  show(((backTo cp (starEach l K.env)).all (!·.1)&&true)&&decide (l.length+0+0 < 30))=true
  rw[hb.2,hll];rfl
 have hpos:methodCallPos true f K.env ap cp=pure cp:=by
  show(if(!true||ap.endLine==cp.line)=true then pure cp else _)=_
  rw[hp];rfl
 refine Bh (wpAny_standAt ?_)
 unfold methodCall
 rw[hform,hpos]
 unfold calleeOf
 rw[if_pos rfl]
 refine Bh (Bj ?_)
 have S1:=S.go g1
 have XS:=X.keeps S1.inv.stays
 have g2:Go K.G [] W1 (W1.see W1.s.heap (W1.s.toks+1)):=Go.tok S1.inv
 refine KV XS RN IZ (IV F) rfl (Bh (Bi ?_))
 refine callWith_of (P:=fun Z=>True) (by rw[hb.1];rfl) (fun Z Z=>⟨_,.inr (.inl rfl),Looks.of_pure rfl⟩) (Fz hb.1 (Er (Ih hK 0) (Er (Ih hK 1) Jq) (W:=W1.see W1.s.heap (W1.s.toks+1)) hl (S1.go g2) fun vs W2 e2 g3 hvs=>⟨trivial,?_⟩))
 obtain⟨_,_,rfl,rfl,vb,_,rfl,hvb,rfl⟩:=hvs
 obtain⟨xd,hC⟩:=EA.obj
 have S2:=(S1.go g2).go g3
 have ga:=(g1.trans g2).trans g3
 have he2:=ga.le.keep e _ he (fun q=>nomatch q) List.not_mem_nil
 obtain⟨_,ho,rfl⟩:=S2.inv.sh _ _ he2
 show wpAny _ K.A (PySem.call (.builtin "Exception.__init__") [.ref e,vb]) _ _ W2.s
 refine IW (by decide+kernel) (X.keeps S2.inv.stays _ _ hC) ho rfl rfl rfl ?_
 have ne:e≠W2.s.heap.objs.size:=Nat.ne_of_lt (Heap.lt_size ho)
 have Tn:Hw K.G [e] W2 (W2.its [e] (fun Z=>some (.any (· =Jv W2.s.heap.objs.size none sl))) ((W2.s.heap.push {cls:=.type "tuple",data:=.seq #[vb]}).update e (Obj.mapFields (·.setIfInBounds 0 (.ref W2.s.heap.objs.size)))) W2.s.toks):=
  .one S2.inv he2 (Heap.get?_update_self _ (B4 _ _ ho) rfl) rfl fun b o n x=>(Heap.get?_update_ne _ _ _ _ n).trans (Bo _ x)
 exact h (W2.its [e] (fun Z=>some (.any (· =Jv W2.s.heap.objs.size none sl))) _ W2.s.toks) W2.s.heap.objs.size (e2.trans e1) ⟨Tn.inv,(go.trans ga).le.turn (fun b hb=>(Ae.mp hb:b=e).symm▸nw) Tn⟩ (S2.turn (bU he2) (fun b hb q=>hm ((Ae.mp hb:b=e)▸q)) Tn) (if_pos (.head _))
theorem Wg {ρ:List RV} {n:Str} {k:Nat} {names:List Str} {X':Str} {xp ap:Pos} {w:Bq} {Q:Unit→Bk→Prop} (hK:Ff K) (X:F.In K.G.hB) (f:Oe F 72 names) (hn:n∈names) (go:Go K.G [] Wb W) (nw:Wb.S e=none) (S:At K W ρ) (hm:e∉K.mine) (hself:ρ[0]?=some (.v (.val (.ref e)))) (hx:Hm K.ns K.env.scope 0 X'=true)
  (he:W.S e=some (.any (· =Jv t0 none sl))) (hw:Ju W.F ρ (some k) w) (h:∀ W' d es,W'.σ=W.σ→ZD false K Wb W' ρ e d 72 (Jv t0 none sl).data es [(n,some k)]→d∉K.mine→Q () W'.s):Wp K (assign (.Attribute (.Name X' xp) n ap) K.env w) Q E W:=by
 rw[arm_assign_Attribute]
 refine Gl (A:=K.A) (M:=model prog K.G.w) hK S hx hself (fun q=>nomatch q) fun v hv hev=>?_
 obtain rfl:=(show v= .ref e from hv)
 refine Bh (Bj (hev (Bh (wpAny_standAt (Bh (Bj ?_))))))
 obtain⟨_,ho,rfl⟩:=S.inv.sh _ _ he
 refine GE (X.keeps S.inv.stays) f hn ho fun h' t' en n' hk hge hgd hkey hval=>wpAny_release ?_
 obtain⟨d,hd⟩:∃ d,d=W.s.heap.objs.size:=⟨_,rfl⟩
 rw[←hd] at hk hge hgd
 have nd:W.s.heap.get? d=none:=hd▸Ea
 have sd:=S.inv.none nd
 have de:e≠d:=fun q=>nn (nd.symm.trans ((congrArg W.s.heap.get? q).symm.trans ho))
 let f:Addr→Option D2:=fun b=>if b=e then some (.any (· ={Jv t0 none sl with dict:=some d})) else some (.any (Q8 [en]))
 have fd:f d=some (.any (Q8 [en])):=if_neg (Ne.symm de)
 have me {b:Addr} (hb:b∈[e,d]):b=e∨b=d:=(Ag.mp hb).imp id Ae.mp
 have Tn:Hw K.G [e,d] W (W.its [e,d] f h' t'):=.its S.inv (fun b hb=>(me hb).elim (fun q=>q.symm▸⟨S.inv.nof he,(fun c x=>Ab (he.symm.trans x)▸fun q=>nomatch q),fun c x=>⟨_,hge,Ab ((if_pos rfl).symm.trans x)▸rfl⟩⟩)
  fun q=>q.symm▸⟨fun o x=>nn (nd.symm.trans (S.inv.fh _ _ x)),(fun c x=>nn (sd.symm.trans x)),fun c x=>⟨_,hgd,Ab (fd.symm.trans x)▸⟨n',rfl⟩⟩⟩) fun b hb o x=>hk b (fun q=>hb (q▸ .head _)) (fun q=>hb (q▸ .tail _ (.head _))) o x
 have dm:d∉K.mine:=fun q=>(S.own _ q).elim fun c x=>nn (sd.symm.trans x.1)
 exact h (W.its [e,d] f h' t') d [en] rfl ⟨S.turn (fun b hb c x=>(me hb).elim (fun q=>Ab (he.symm.trans ((congrArg W.S q).symm.trans x))▸rfl) fun q=>nn (sd.symm.trans ((congrArg W.S q).symm.trans x))) (fun b hb q=>(me hb).elim (fun z=>hm (z▸q)) fun z=>dm (z▸q)) Tn,
  ⟨Tn.inv,go.le.turn0 (fun b hb c x=>(me hb).elim (fun q=>nn ((q.symm▸nw:Wb.S b=none).symm.trans x)) fun q=>go.le.kd0 sd c (q▸x)) Tn⟩,hself,go.le.kd0 sd,⟨sl,.inr ⟨rfl,(if_pos (.head _)).trans (if_pos rfl)⟩⟩,de,(if_pos (.tail _ (.head _))).trans fd,⟨en,[],rfl,hkey,hval▸hw,rfl⟩⟩ dm
end
noncomputable abbrev D2.own (c:D2):Prop:=c.kd=0∧c.isTab=false
noncomputable def Wd.dim (W:Wd):Wd:={W with S:=fun b=>(W.S b).bind fun c=>if c.own then G0 W.s.heap b else some c,bs:=[],σ:=[]}
noncomputable def Wd.undim (W W1:Wd):Wd:={F:=W1.F,S:=fun b=>(W.S b).elim (W1.S b) fun c=>if c.own then some c else W1.S b,bs:=W.bs,σ:=W.σ,s:=W1.s}
section
variable {G:Gx} {W W1:Wd} {b:Addr} {c:D2}
theorem Nz (h:W.S b=some c) (o:c.own):W.dim.S b=G0 W.s.heap b:=(congrArg (Option.bind · _) h).trans (if_pos o)
theorem Ft (h:W.S b=some c) (o:¬ c.own):W.dim.S b=some c:=(congrArg (Option.bind · _) h).trans (if_neg o)
theorem Vw (h:W.S b=none):W.dim.S b=none:=congrArg (Option.bind · _) h
theorem Vv (I:B6 G W) (h:W.dim.S b=none):W.S b=none:=Option.eq_none_iff_forall_ne_some.mpr fun c e=>if o:c.own then(I.sh b c e).elim fun x hx=>nn (h.symm.trans ((Nz e o).trans (Ig hx.1))) else nn (h.symm.trans (Ft e o))
theorem Ss (h:W.S b=some c) (o:c.own):(W.undim W1).S b=some c:=(congrArg (Option.elim · _ _) h).trans (if_pos o)
theorem Js (h:W.S b=some c) (o:¬ c.own):(W.undim W1).S b=W1.S b:=(congrArg (Option.elim · _ _) h).trans (if_neg o)
theorem Kt (h:W.S b=none):(W.undim W1).S b=W1.S b:=congrArg (Option.elim · _ _) h
theorem Uo (h:c.kd≠0):¬ c.own:=fun o=>h o.1
theorem B6.dim (I:B6 G W):B6 G W.dim:=
 ⟨I.fh,fun a o f=>Vw (I.fs a o f),fun a c e=>match q:W.S a with
  | Option.none=>nn ((Vw q).symm.trans e)
  | some d=>if o:d.own then Lk ((Nz q o).symm.trans e) else Ab ((Ft q o).symm.trans e)▸I.sh a d q,I.old,(fun i mo q=>nomatch q),rfl,(fun i j a b q=>nomatch q),I.tab.imp fun c x=>⟨Ft x.1 (fun o=>nomatch o.2),x.2⟩⟩
theorem Go.undim (I:B6 G W) (g:Go G [] W.dim W1):Go G [] W (W.undim W1):=
 have kept {a:Addr} {c:D2} (h:W.S a=some c) (o:c.own):∃ x,W1.S a=some (.any (· =x))∧W1.s.heap.get? a=some x∧c.ok G.w x:=(I.sh a c h).elim fun x hx=>
  have e:=g.le.keep a _ ((Nz h o).trans (Ig hx.1)) (fun q=>nomatch q) List.not_mem_nil
  ⟨x,e,(g.inv.sh a _ e).elim fun y hy=>hy.1.trans (congrArg some hy.2),hx.2⟩
 have not_ {a:Addr} {c:D2} (h:W.S a=some c) (k:c.kd≠0):(W.undim W1).S a=W1.S a:=Js h (Uo k)
 ⟨⟨g.inv.fh,fun a o f=>match q:W.S a with
  | none=>(Kt q).trans (g.inv.fs a o f)
  | some c=>if w:c.own then(kept q w).elim fun x hx=>nn ((g.inv.fs a o f).symm.trans hx.1) else(Js q w).trans (g.inv.fs a o f),
  fun a c e=>match q:W.S a with
  | none=>g.inv.sh a c ((Kt q).symm.trans e)
  | some d=>if w:d.own then(kept q w).imp fun x hx=>⟨hx.2.1,Ab ((Ss q w).symm.trans e)▸hx.2.2⟩ else g.inv.sh a c ((Js q w).symm.trans e),
  g.inv.old,fun i mo q=>(I.sto i mo q).imp fun ab h=>h.imp fun c h=>⟨h.1,Ss h.2.1 h.2.2.con,h.2.2.up g.le.F⟩,I.len,I.inj,
  I.tab.elim fun c x=>g.inv.tab.imp fun d y=>⟨(Js x.1 fun o=>nomatch o.2).trans y.1,y.2⟩⟩,
  ⟨g.le.F,⟨[],(Aj _).symm⟩,fun a c e k=>(g.le.kd a c (Ft e (Uo k)) k).imp fun d y=>⟨(not_ e k).trans y.1,y.2⟩,fun a c e k n=>(not_ e k).trans (g.le.keep a c (Ft e (Uo k)) k n),g.le.rest⟩⟩
noncomputable def CG:RV→RV
 | .v m=>.v m
 | _=>.un
theorem At.dim {K:Kx} {ρ:List RV} (S:At K W ρ):At K W.dim (ρ.map CG):=
 ⟨S.inv.dim,fun e he=>(S.frs e he).imp id fun h=>h.imp fun L h=>h.imp fun f h=>⟨h.1,Ft h.2 (fun q=>nomatch q.1)⟩,(Am ..).trans S.len,S.val.imp fun f h=>⟨Ft h.1 (fun q=>nomatch q.1),fun k x r hx hr hu=>by
  rw[List.getElem?_map] at hr
  cases e:ρ[k]? with
  | none=>rw[e] at hr;exact nn hr
  | some r0=>
   rw[e] at hr
   cases r0 with
   | v m=>exact Ab hr▸(h.2 k x _ hx e (fun q=>nomatch q)).imp fun v q=>⟨q.1,q.2.imp id fun q=>⟨q.1,q.2.imp fun c q=>⟨q.1,q.2.imp (fun q=>⟨Ft q.1 (fun q=>nomatch q.1),q.2⟩) id⟩⟩⟩
   | _=>exact(hu (Ab hr).symm).elim⟩,
  fun x hx=>(S.cel x hx).imp fun c h=>h.imp fun v h=>⟨h.1,h.2.1,Ft h.2.2 (fun q=>nomatch q.1)⟩,fun a ha=>(S.own a ha).imp fun c h=>⟨Ft h.1 (Uo h.2.1),h.2⟩⟩
end
theorem HU {ρ:List RV} {caps:List Nat}:∀ {c:List RV},Eh ρ caps=some c→c.all jL=true→Eh (ρ.map CG) caps=some c:=by
 induction caps with
 | nil=>exact fun h Z=>h
 | cons k caps ih=>
  exact fun h hv=>BA h fun r l e1 hu e2 e=>by
   rw[←e] at hv⊢
   have q:jL r=true∧l.all jL=true:=b2 hv
   show(match(ρ.map CG)[k]?,Eh (ρ.map CG) caps with
    | some (.v m),some l=>some (.v m::l)
    | some (.loc q),some l=>some (.loc q::l)
    | _,_=>none)=some (r::l)
   rw[List.getElem?_map,e1,ih e2 q.2]
   cases r with
   | v m=>rfl
   | un=>exact ff q.1
   | loc m=>exact ff q.1
noncomputable def qK (C:Call) (e:ME):Prop:=∀ ⦃ρ σ σ' r⦄,C0 C e ρ σ= .ok r σ'→σ=σ'∧∀ σ2,C0 C e ρ σ2= .ok r σ2
noncomputable def QA (C:Call) (es:List ME):Prop:=∀ ⦃ρ σ σ' r⦄,Tg C es ρ σ= .ok r σ'→σ=σ'∧∀ σ2,Tg C es ρ σ2= .ok r σ2
theorem TZ {α:Type} {x r:α} {σ σ':Bu} {f:Bu→B1 α} (e:∀ σ2,f σ2= .ok x σ2) (h:f σ= .ok r σ'):σ=σ'∧∀ σ2,f σ2= .ok r σ2:=have q:=B1.ok.inj ((e σ).symm.trans h);⟨q.2,fun σ2=>(e σ2).trans (congrArg (B1.ok · σ2) q.1)⟩
section
variable {C:Call}
noncomputable def WI (o:Option RV) (σ:Bu):B1 RV:=match o with
 | some (.v m)=>.ok (.v m) σ
 | some (.loc r)=>.ok (.loc r) σ
 | _=>.no
theorem nK {o:Option RV} {σ σ':Bu} {r:RV} (h:WI o σ= .ok r σ'):σ=σ'∧∀ σ2,WI o σ2= .ok r σ2:=match o,h with
 | some (.v m),h=>TZ (f:=WI (some (.v m))) (fun Z=>rfl) h
 | some (.loc m),h=>TZ (f:=WI (some (.loc m))) (fun Z=>rfl) h
 | some .un,h | none,h=>nk h
theorem UQ {l:List ME} (i:QA C l):qK C (.tup l):=fun ρ σ σ' r h=>Fk h fun as σ1 e1 h1=>
 have i:=i e1
 have k (σ2:Bu):C0 C (.tup l) ρ σ2=Ep σ2 ((Df as.length).map fun Z=>.v (.tup as)):=congrArg (B1.bind · _) (i.2 σ2)
 match q:Df as.length,k,h1 with
 | none,_,h1=>nk h1
 | some u,k,h1=>have z:=B1.ok.inj (show B1.ok (RV.v (.tup as)) σ1= .ok r σ' from h1);⟨i.1.trans z.2,fun σ2=>(k σ2).trans (congrArg (B1.ok · σ2) z.1)⟩
theorem MU {e:ME} {es:List ME} (i:qK C e) (j:QA C es):QA C (e::es):=fun ρ σ σ' r h=>Fk h fun a σ1 e1 h1=>Fk h1 fun as σ3 e2 h2=>by
 have i:=i e1
 have j:=j e2
 cases a with
 | v m=>have q:=B1.ok.inj (show B1.ok (m::as) σ3= .ok r σ' from h2);exact⟨i.1.trans (j.1.trans q.2),fun σ2=>(congrArg (B1.bind · _) (i.2 σ2)).trans ((congrArg (B1.bind · _) (j.2 σ2)).trans (congrArg (B1.ok · σ2) q.1))⟩
 | _=>exact nk h2
mutual
theorem Xj:∀ e:ME,Sf e=true→qK C e:=fun e h=>by
 cases e with
 | const c=>exact fun Z Z Z Z h=>TZ (f:=C0 C (.const c) _) (fun Z=>rfl) h
 | var k=>exact fun Z Z Z Z h=>nK h
 | tup l=>exact UQ (Sg l h)
 | _=>exact ff h
theorem Sg:∀ es:List ME,Z3 es=true→QA C es
 | [],_=>fun Z Z Z Z h=>TZ (f:=Tg C [] _) (fun Z=>rfl) h
 | e::es,hp=>MU (Xj e (b2 hp).1) (Sg es (b2 hp).2)
end
end
theorem Sh {C:Call} {elt:ME} {c:List RV} (hp:Sf elt=true):∀ {l:List MV} {σ σ':Bu} {xs:List MV},Hc (fun m σ=>PQ C none (.v m::c) σ) (fun m σ=>C0 C elt (.v m::c) σ) l σ= .ok xs σ'→
  σ=σ'∧∀ σ2,Hc (fun m σ=>PQ C none (.v m::c) σ) (fun m σ=>C0 C elt (.v m::c) σ) l σ2= .ok xs σ2
 | [],σ,σ',xs,h=>have q:=B1.ok.inj (show B1.ok ([]:List MV) σ= .ok xs σ' from h);⟨q.2,fun σ2=>congrArg (B1.ok · σ2) q.1⟩
 | m::l,σ,σ',xs,h=>Mz h (fun σ1 e=>nomatch e) fun σ1 x σ3 r e1 e2 h3 e=>by
  have i:=Xj elt hp e2
  have j:=Sh hp h3
  have e0:=B1.ok.inj (show B1.ok true σ= .ok true σ1 from e1)
  refine⟨e0.2.trans (i.1.trans j.1),fun σ2=>?_⟩
  show(C0 C elt (.v m::c) σ2).bind _=_
  rw[i.2 σ2]
  show(Hc _ _ l σ2).bind _=_
  rw[j.2 σ2]
  exact congrArg (B1.ok · σ2) e
theorem L8 {α β:Type} {P:Prop} {o:Option α} {f:α→Option β} {b:β} (h:o.bind f=some b) (k:∀ a,o=some a→f a=some b→P):P:=match o,h with
 | some a,h=>k a rfl h
theorem FG {P:Prop} {σ:Bu} {q:Nat} {cond:Option ME} {elt:ME} {c:List RV} {l:List MV} (h:BW σ (.loc q) cond elt c=some l) (k:σ[q]?=some (.list l)→cond=none→Sf elt=true→c.all jL=true→P):P:=
 L8 (show(σ[q]?.bind FJ).bind _=some l from h) fun l' h1 h2=>L8 h1 fun mo e1 e2=>
  if w:(cond.isNone&&(Sf elt&&c.all jL))=true then by
   rw[if_pos w] at h2
   cases mo with
   | list l0=>exact k (e1.trans (by rw[Ab (e2.trans h2)])) (Option.isNone_iff_eq_none.mp (b2 w).1) (b2 (b2 w).2).1 (b2 (b2 w).2).2
   | _=>exact nn e2
  else nn ((if_neg w).symm.trans h2)
section
variable {K:Kx}
theorem II {me elt:ME} {cond:Option ME} {caps:List Nat} (hK:Ff K) (hm:SE K me) (he:qQ K elt) (hc:∀ me,cond=some me→STc K me):CW K (.compL me cond elt caps):=fun {e W ρ m γ δ Rel Q E g P} ht S H k=>Fp ht fun x gs s pos e1 h1=>Qe h1 fun tg it ifs e2 h2=>
 have h3:=b2 h2;have h4:=b2 h3.1;have h5:=b2 h4.1
 B5 h5.1 fun t pt e3 h6=>
 have h7:=b2 (b2 h6).1
 have sc:=Cu.of h7.1
 Br.sel (o:=Eh ρ caps) H fun c hcap H=>k x tg it ifs s pos (e1.trans (by rw[e2])) (fun v=>Jl h3.2) (Hz (Ov sc S h5.2 hcap)) sc.kind sc.names fun KK hKK=>
  hm h4.2 S (Br.bind0 (Br.assoc H) fun r v W1 g1 hr H1=>Br.sel H1 fun l hi H2=>Br.sel H2 fun u hu H3=>T8 (Br.assoc H3) fun tot τ hq H4=>by
   clear h4 h3 h2 H3 H2 h1 H ht
   subst e3
   have hi':(∃ q,r= .loc q)∨Jb W1.σ r=some l:=by
    cases r with
    | loc q=>exact .inl ⟨q,rfl⟩
    | _=>exact .inr hi
   clear H H1 e2
   rcases hi' with⟨q,rfl⟩ | hi'
   ·
    refine FG hi fun hl e4 hp hv=>?_
    clear hi
    subst e4
    refine g1.inv.list hr hl fun a vs e5 hab hS hvs=>?_
    have hd:=g1.inv.isList hS
    subst e5
    have ha:a≠W1.s.heap.objs.size:=fun e=>nn (g1.inv.top.symm.trans ((congrArg W1.S e).symm.trans hS))
    have X:=Walks.list (prog:=prog) (w:=K.G.w) hK.call.calm W1.s.heap.objs.size a ha vs.toArray
    rw[hvs.size] at X
    obtain⟨rfl,hq2⟩:=Sh hp hq
    obtain⟨o,ho,_⟩:=id hd
    have D:kF K.G K.A W1.s.heap.objs.size W1.F l _ _ _:=⟨X,fun i v m a b=>Jt hvs a b,fun i h ⟨⟨⟨cls,d,dt,sl⟩,a,b,c⟩,_⟩=>⟨"list_iterator",by decide,d,_,sl,by rw[a,←show cls=_ from b,←show dt=_ from c]⟩⟩
    exact wpAny_pyIter_list hd (Oy (W:=W1.dim) hK (S.go g1).dim sc h5.2 (HU hcap hv) D
     (fun b hb=>(Ag.mp hb).imp id fun h=>.inr ⟨o,(Ae.mp h:b=a).symm▸(Nz hS ⟨rfl,rfl⟩).trans (Ig ho)⟩) ⟨⟨_,Bp _ rfl,rfl,rfl⟩,hd.push _⟩ (fun Z Z=>rfl) (fun C kok=>he _ _ _ kok) h7.2 (fun Z Z Z e=>nn e) (b2 h6).2 (Dq hu) (hq2 _)
     fun W3 f D C e6 g3 hf hC hv=>hKK (W1.undim W3) f tot D C (g1.trans (g3.undim g1.inv)) ((Kt (Vv g1.inv hC)).trans hf) (g1.le.kd0 (Vv g1.inv hC)) hv H4)
   · exact BY hK.call.calm g1.inv hr hi' fun P St fp o X h0=>Oy hK (S.go g1) sc h5.2 hcap X.d (fun b hb=>(X.fpk b hb).imp id .inl) h0 (fun m σ=>rfl) (fun C kok=>he _ _ _ kok) h7.2 (fun C kok me e=>hc me e _ _ _ kok) (b2 h6).2 (Dq hu) hq fun W3 f D C e3 g3 hf hC hv=>hKK W3 f tot D C (g1.trans g3) hf (g1.le.kd0 hC) hv (e3.symm▸H4))
noncomputable abbrev p3:Ir:=.tup [.var 0,.tup [.var 1,.var 2]]
theorem nM (m:MV):(∀ x y z:RV,put p3 m [x,y,z]=none)∨∃ a b c,m= .tup [a,.tup [b,c]]∧∀ x y z:RV,put p3 m [x,y,z]=some [.v a,.v b,.v c]:=by
 cases m with
 | tup l=>cases l with
  | nil=>exact .inl fun Z Z Z=>rfl
  | cons a l=>cases l with
   | nil=>exact .inl fun Z Z Z=>rfl
   | cons b r=>cases b with
    | tup k=>cases k with
     | nil=>exact .inl fun Z Z Z=>rfl
     | cons c k=>cases k with
      | nil=>exact .inl fun Z Z Z=>rfl
      | cons d k=>cases k with
       | cons=>exact .inl fun Z Z Z=>rfl
       | nil=>cases r with
        | nil=>exact .inr ⟨_,_,_,rfl,fun Z Z Z=>rfl⟩
        | cons=>exact .inl fun Z Z Z=>rfl
    | _=>exact .inl fun Z Z Z=>rfl
 | _=>exact .inl fun Z Z Z=>rfl
theorem UL {W:Wd} {x y z:RV} {ρ':List RV} {m:MV} {val:Bq} {t u v:Str} {pt pu pv q1 q2:Pos} {k1 k2:Nat} {Q:Unit→Bk→Prop} {E:Bq→Bk→Prop} (hK:Ff K) (h0:Gu K.ns K.ac K.env.scope 0 t=true) (h1:Gu K.ns K.ac K.env.scope 1 u=true) (h2:Gu K.ns K.ac K.env.scope 2 v=true)
  (S:At K W [x,y,z]) (hp:put p3 m [x,y,z]=some ρ') (hv:VR W.F m val) (q:∀ W',W'.σ=W.σ→Go K.G K.mine W W'→At K W' ρ'→Q () W'.s):Wp K (assign (.Tuple [.Name t pt,.Tuple [.Name u pu,.Name v pv] k1 q1] k2 q2) K.env val) Q E W:=by
 rcases nM m with h | ⟨a,b,c,rfl,h⟩
 · exact nn ((h x y z).symm.trans hp)
 ·
  obtain rfl:=Ab ((h x y z).symm.trans hp)
  obtain⟨vs,⟨ad,o,n,e,hF,hc⟩,va,r,rfl,hva,vb,r2,rfl,hvb,hr⟩:=hv
  obtain rfl:r2=[]:=hr
  rw[e,arm_assign_Tuple]
  refine Bh (wpAny_standAt (wpAny_unpack_tuple hK.call.calm ⟨o,S.inv.fh _ _ hF,hc.1,n,hc.2⟩ rfl rfl fun h' hk=>?_))
  have g:Go K.G [] W (W.see h' W.s.toks):=Go.see S.inv fun a o e=>hk a o (Nat.ne_of_lt (Heap.lt_size e)) e
  exact Bh (Bj (wpAny_assign_Name (Gi (r:=.v a) hK (S.go g) (Hl h0) hva fun W1 e1 g1 S1=>
   Bh (Bj (Uq (p:=.tup [.var 1,.var 2]) (m:=.tup [b,c]) (ρ':=[.v a,.v b,.v c]) hK S1 (VR.up g1.le.F _ hvb) (fun W2 e2 g2 S2=>Bi (q W2 (e2.trans e1) (g.up.trans (g1.trans g2)) S2)) (by
    show(Gu K.ns K.ac K.env.scope 1 u&&(Gu K.ns K.ac K.env.scope 2 v&&true))=true
    rw[h1,h2];rfl) rfl)))))
end
noncomputable abbrev CU (T:Bq→Bk→Prop) (r:Result) (s':Bk):Prop:=match r with
 | .ok (.ret v)=>T v s'
 | _=>False
noncomputable abbrev EH:Str:=Aa "what"
noncomputable abbrev atS:Str:=Aa "at"
section
variable {G:Gx} {A:Bm} {fr:List Env} {W:Wd} {F:Frag} {N:Nat} {T:Bq→Bk→Prop}
theorem TC {K:Kx} {W5:Wd} {e d:Addr} {t1:Addr} {sl0:Array (Option Bq)} {w:Str} {n:Int} {es:List Bl} (ne:W.S e=none) (X:ZD false K W W5 [.v (.val (.ref e)),.v (.str w),.v (.tup [.int n,.int 12])] e d 72 (Jv t1 none sl0).data es [(EH,some 1),(atS,some 2)])
  (H:∀ v W',W'.σ=W5.σ→Go K.G [] W W'→Rw W' n v→T v W'.s):T (.ref e) W5.s:=by
 obtain⟨o,ho,⟨m,rfl⟩,gf⟩:=X.go.freeze X.new X.dic
 obtain⟨sl,hi⟩:=X.inst
 have hi:=(hi.resolve_left fun q=>nomatch q.1).2
 have he:=(X.at_.inv.sh _ _ hi).elim fun o q=>q.1.trans (congrArg some q.2)
 have hs:(W5.fix d (dictOf es m)).S e=_:=(if_neg X.ne).trans hi
 have Tn:Hw K.G [e] (W5.fix d (dictOf es m)) ((W5.fix d (dictOf es m)).its [e] (fun Z=>some (.any (RJ d))) W5.s.heap W5.s.toks):=.one gf.inv hs he ⟨sl,_,rfl⟩ fun Z Z Z x=>x
 obtain⟨e1,_,rfl,k1,v1,e2,_,rfl,k2,v2,rfl⟩:=X.es
 exact H (.ref e) ((W5.fix d (dictOf [e1,e2] m)).its [e] (fun Z=>some (.any (RJ d))) W5.s.heap W5.s.toks) rfl ⟨Tn.inv,gf.le.turn (fun b hb=>(Ae.mp hb:b=e).symm▸ne) Tn⟩
  ⟨⟨e,d,[e1,e2],m,sl,_⟩,t1,⟨rfl,if_pos (.head _),he,.inr ⟨rfl,rfl⟩,e1,e2,rfl,k1,k2,VR.up B9.le_add _ (Ju.get v2 (m:=.tup [.int n,.int 12]) rfl)⟩,rfl⟩
theorem Yz {w:Str} {n:Int} {wv av:Bq} (X:F.In G.hB) (EA:Rv F) (LR:Zb F=true) (B:Bs G) (hC:Db (N+6) A fr) (hf:Eu fr W) (I:B6 G W) (hw:VR W.F (.str w) wv) (ha:VR W.F (.tup [.int n,.int 12]) av)
  (H:∀ v W',W'.σ=W.σ→Go G [] W W'→Rw W' n v→T v W'.s):codeAny (model prog G.w) A (.call (.ref B8) ⟨[wv,av],[]⟩) (CU T) W.s:=by
 refine Hu LR fun fd b ds hfn j=>?_
 have j1:=b2 j;have j2:=b2 j1.1;have j3:=b2 j2.1;have j4:=b2 j3.1
 clear j2 j
 obtain⟨xd,hCl⟩:=EA.obj
 have XS:=X.keeps I.stays
 refine IY (h:=W.s.heap) (g:=W.s.gens) (d:=W.s.drawn) (t:=W.s.toks) (os:=W.s.os) XS FB (by decide+kernel) (by decide+kernel) (by decide+kernel) (XS _ _ hCl) EA.init EA.typ (by show 2≤sizeLine;decide) ?_
 rw[X7]
 obtain⟨t1,ht1⟩:∃ t1,t1=W.s.heap.objs.size:=⟨_,rfl⟩
 obtain⟨ha1,hha⟩:∃ ha1,ha1=W.s.heap.push {cls:=.type "tuple",data:=.seq [wv,av].toArray}:=⟨_,rfl⟩
 have hx:W.s.heap.objs.size+1=ha1.objs.size:=hha▸(Heap.size_push ..).symm
 rw[hx,←hha,←ht1]
 obtain⟨e,he⟩:∃ e,e=ha1.objs.size:=⟨_,rfl⟩
 have g1:Go G [] W (W.see ha1 W.s.toks):=Go.see I (hha▸B4)
 have ne:ha1.get? e=none:=he▸Ea
 have nw:W.S e=none:=I.none (Option.eq_none_iff_forall_ne_some.mpr fun o q=>nn (ne.symm.trans (hha▸B4 _ _ q)))
 have g2:Go G [] W ((W.see ha1 W.s.toks).lay e (.any (· =Jv t1 none #[])) (ha1.push (Jv t1 none #[])) W.s.toks):=Ga g1 ne nw (fun b o Z x=>B4 b o x) (he▸Bp _ rfl) rfl
 obtain⟨W1,hW1⟩:∃ W1,W1=(W.see ha1 W.s.toks).lay e (.any (· =Jv t1 none #[])) (ha1.push (Jv t1 none #[])) W.s.toks:=⟨_,rfl⟩
 have s1:W1.S e=some (.any (· =Jv t1 none #[])):=hW1▸Dh
 have e1:W1.σ=W.σ:=hW1▸rfl
 have es1:W1.s=⟨ha1.push (Jv t1 none #[]),W.s.gens,W.s.drawn,W.s.toks,W.s.os⟩:=hW1▸rfl
 rw[←hW1] at g2
 rw[←he]
 show codeAny _ _ _ _ ⟨ha1.push (Jv t1 none #[]),W.s.gens,W.s.drawn,W.s.toks,W.s.os⟩
 rw[←es1]
 obtain⟨⟨o,ho,hd'⟩,ok,hcd,hbody,hdf⟩:=I6 (X.keeps g2.inv.stays) hfn
 have elen:(fd.params.args.map (·.arg)).length=3:=(Am ..).trans (beq_iff_eq.mp j4.2)
 have dlen:(ds.map MV.val).length=1:=(Am ..).trans (beq_iff_eq.mp j1.2)
 refine Kw (A:={A with depth:=A.depth+1,units:=A.units+1}) (C':=fun Z Z Z=>.no) (N':=0) (args:=[.v (.val (.ref e)),.v (.str w),.v (.tup [.int n,.int 12])]) (dm:=ds.map .val) B ok hC.sub (hf.le g2.le) g2.inv ho hd' hcd hbody hdf (Q3 ds) ⟨_,_,rfl,rfl,wv,_,rfl,VR.up g2.le.F _ hw,av,_,rfl,VR.up g2.le.F _ ha,rfl⟩ (Au elen.symm) (by rw[elen,dlen];exact Nat.le_succ 3) (by rw[elen,dlen];exact Ac rfl) fun K W2 eG eC eN ens eac esc efr hK eσ g3 hm S=>?_
 subst eG
 have hρ: [RV.v (.val (.ref e)),.v (.str w),.v (.tup [.int n,.int 12])]++((ds.map MV.val).drop ([RV.v (.val (.ref e)),.v (.str w),.v (.tup [.int n,.int 12])].length+(ds.map MV.val).length - (fd.params.args.map (·.arg)).length)).map RV.v++Ao ((Gq fd).length - (fd.params.args.map (·.arg)).length) RV.un=[RV.v (.val (.ref e)),.v (.str w),.v (.tup [.int n,.int 12])]:=by
  rw[elen,dlen,show(Gq fd).length=3 from beq_iff_eq.mp j3.2]
  show _++((ds.map MV.val).drop 1).map RV.v++_=_
  rw[List.drop_of_length_le (Au dlen)];rfl
 rw[hρ] at S
 have hem:e∉K.mine:=fun q=>nn ((hm _ q).symm.trans s1)
 have j5:=j4.1
 rw[←ens,←esc] at j5
 refine Oz j5 fun s0 b1 eb0 j6=>Oz (b2 j6).2 fun s2 rest eb1 j7=>Qb (b2 j6).1 fun ex sp ea h1=>Ee h1 fun f l kw cp eb h2=>D7 (b2 (b2 (b2 h2).1).1).2 fun x nn ap ec h3=>Hq (b2 j7).1 fun ts v p ed h4=>Dr (b2 h4).1 fun t ee h5=>D7 h5 fun a m ap2 ef h6=>B5 (b2 h6).2 fun y yp eg h7=>B5 (b2 h4).2 fun v' vp eh h8=>?_
 have h9:=b2 h3;have h10:=b2 h9.1;have h11:=b2 h10.1
 have eq:b= .Expr (.Call (.Attribute x "__init__" ap) l [] cp) sp:: .Assign [.Attribute (.Name y yp) EH ap2] (.Name v' vp) p::rest:=by
  rw[eb0,ea,eb,ec,Cc (b2 (b2 (b2 h2).1).1).1,show nn=Aa "__init__" from of_decide_eq_true h11.1,eb1,ed,ee,ef,eg,eh,show EH=m from of_decide_eq_true (b2 h6).1]
 rw[eq]
 refine wpAny_execs_cons (SQ hK X EA B (g2.trans g3) nw S hem h10.2 (B5 h11.2 fun Z Z q Z=>q▸rfl) (b2 (b2 h2).1).2 (beq_iff_eq.mp (b2 h2).2) h9.2 (g3.le.keep e _ s1 (fun q=>nomatch q) List.not_mem_nil) fun W3 t3 e3 g4 S3 hs3=>?_)
 refine Gl (A:=K.A) (M:=model prog K.G.w) hK S3 h8 (r:=.v (.str w)) rfl (fun q=>nomatch q) fun wv2 hw2 hev=>wpAny_execs_cons (Gf (hev (Wg (k:=1) hK X EA.fills (.head _) g4 nw S3 hem rfl h7 hs3 ⟨_,rfl,hw2⟩ fun W4 d es4 e4 T4 dm=>?_)) rfl (G2 rfl) Ii)
 refine Pu (dt:=(Jv t3 none #[]).data) (done:=[(EH,some 1)]) (l:=[(atS,some 2)]) hK X EA.fills (fun Z q=>nomatch q) dm (b2 j7).2 T4 (fun p hp=>Ae.mp hp▸ .tail _ (.head _)) (by decide+kernel) (by decide) (fun n' k' hk=>⟨.tup [.int n,.int 12],(Prod.mk.inj (Ae.mp hk)).2|>fun q=>Ab q▸rfl⟩) fun W5 es5 e5 T5=>⟨rfl,?_⟩
 exact TC nw T5 fun v W' e6 g6 fr6=>H v W' (e6.trans (e5.trans (e4.trans (e3.trans (eσ.trans e1))))) g6 fr6
end
noncomputable abbrev Hf:Nat:=466
noncomputable abbrev LH:Call:=fun Z Z Z=>.no
theorem EO {G:Gx} {N:Nat}:F3 G LH N:=fun Z Z Z Z Z H=>H.elim
theorem Zz {K:Kx} {F:Frag} (B:Bs K.G) (k:Kf K.G F) (hK:Ff K) (CO:F3 K.G K.C K.N):AS K:=
 ⟨fun I a b h H=>HL I a b h H,fun I a b h H=>IC B (Ay (A7 (A4 ..) 200) hK.call.units) I a b h H,fun hs I a b h H=>iI B hs I a b h H,fun I a b c h H=>aC I a b c h H,fun I a h H=>QM k I a h H,fun I a h H=>kJ hK.call.calm I a h H,
  fun I fr a h=>(TF k CO hK.call I a h).imp fun fv h=>h.imp fun first h=>⟨h.1,fun g hv H=>h.2 (fr.le g.le) g hv H⟩⟩
noncomputable abbrev P2:ME:=.call (.glob (Aa "len") (.val (.builtin "len"))) [.attr (.var 0) "tokens"]
noncomputable abbrev CJ:ME:=.call (.glob (Aa "min") (.val (.builtin "min"))) [.attr (.var 0) "at",.bin .Sub P2 (.const (.int 1))]
noncomputable abbrev N0:ME:=.attr (.sub (.attr (.var 0) "tokens") CJ) "at"
noncomputable abbrev Ts:MS:=.ite (.not (.attr (.var 0) "tokens")) [.dead] []
noncomputable def We (K:Frag):Bool:=M4 K Hf fun fd b ds=>(two b fun st rt=>tH (Gq fd) (EM fd) fd.scope Ts st&&Sc rt fun e Z=>opt e fun e=>G9 e fun f l kw Z=>nil kw&&T9 f&&
 El (Gq fd) fd.scope (.glob (Aa "GrammarFault") (.val (.ref B8))) f&&Hs (Gq fd) fd.scope [.var 1,N0] l)&&fd.params.args.length==2&&(Gq fd).length==2&&ds.isEmpty
section
variable {K:Kx} {W:Wd}
theorem NR (O:AS K) (hK:Ff K) (B:Bs K.G) (CO:F3 K.G K.C K.N):QE K [.var 1,N0]:=
 have tok:SE K (.attr (.var 0) "tokens"):=Lo O (Ih hK 0)
 have len:SE K P2:=N9 O hK CO (Jp hK B _ _) (Er tok Jq)
 Er (Ih hK 1) (Er (Lo O (NT O tok (N9 O hK CO (Jp hK B _ _) (Er (Lo O (Ih hK 0)) (Er (Z9 O len (Lp _)) Jq))))) Jq)
theorem AG (O:AS K) (hK:Ff K):SS K Ts:=
 OH (OL (ST.of (Lo O (Ih hK 0)) fun {e ns env} h whole=>D7 h fun Z Z Z q Z=>q▸rfl)) (Xu DS U7) U7
theorem Pl {P:Prop} {σ:Bu} {o:RV} {n:Int} (h:E5 σ o=some n) (k:∀ r ts i,o= .loc r→σ[r]?=some (.rdr ts i)→0≤i∧ts≠[]∧ts.length≤Cf→(ts[(min i (ts.length - 1)).toNat]?).bind GL=some n→P):P:=by
 cases o with
 | loc r=>
  refine Ji h fun mo e h=>?_
  cases mo with
  | rdr ts i=>exact if q:0≤i∧ts≠[]∧ts.length≤Cf then k r ts i rfl e q ((if_pos q).symm.trans h) else nn ((if_neg q).symm.trans h)
  | _=>exact nn h
 | _=>exact nn h
theorem bM (a b:Int):(if b < a then b else a)=min a b:=by
 by_cases h:b < a
 · rw[if_pos h,Int.min_eq_right (Int.le_of_lt h)]
 · rw[if_neg h,Int.min_eq_left (Int.not_lt.mp h)]
theorem IR {C:Call} {σ:Bu} {r:Nat} {w:MV} {ts:List MV} {i n:Int} (hl:σ[r]?=some (.rdr ts i)) (hc:0≤i∧ts≠[]∧ts.length≤Cf) (ht:(ts[(min i (ts.length - 1)).toNat]?).bind GL=some n):
  XA C Ts [.loc r,.v w] σ= .ok (.next,[.loc r,.v w]) σ∧Tf C [.var 1,N0] [.loc r,.v w] σ= .ok [.v w,.v (.tup [.int n,.int 12])] σ:=by
 have a0 {k:Str} {m:MV} (h:Vl (.rdr ts i) k=some m) {z:ME} (e:z= .attr (.var 0) k):C0 C z [.loc r,.v w] σ= .ok (.v m) σ:=by
  clear hc ht
  subst e
  show Ep σ ((wO σ r fun o=>Vl o k).map RV.v)=_
  unfold wO;rw[hl];dsimp only;rw[h];rfl
 have e1:C0 C (.attr (.var 0) "tokens") [.loc r,.v w] σ= .ok (.v (.lis ts)) σ:=a0 (k:=Aa "tokens") (m:=.lis ts) (by
  show(if Cb (Aa "tokens") "at"=true then some (MV.int i) else if Cb (Aa "tokens") "tokens"=true then some (.lis ts) else none)=_
  rw[if_neg (by decide+kernel),if_pos (by decide+kernel)]) rfl
 have e0:C0 C (.attr (.var 0) "at") [.loc r,.v w] σ= .ok (.v (.int i)) σ:=a0 (k:=Aa "at") (m:=.int i) (by
  show(if Cb (Aa "at") "at"=true then some (MV.int i) else if Cb (Aa "at") "tokens"=true then some (.lis ts) else none)=_
  rw[if_pos (by decide+kernel)]) rfl
 have hz:ts.isEmpty=false:=by
  cases ts with
  | nil=>exact(hc.2.1 rfl).elim
  | cons _ _=>rfl
 have hp:1≤ts.length:=by
  cases ts with
  | nil=>exact(hc.2.1 rfl).elim
  | cons _ _=>exact Nat.succ_le_succ (Nat.zero_le _)
 have e2:C0 C P2 [.loc r,.v w] σ= .ok (.v (.int ts.length)) σ:=by
  show(((C0 C (.attr (.var 0) "tokens") [.loc r,.v w] σ).bind fun a σ=>B1.ok [a] σ).bind fun as σ=>Ep σ ((Om σ (.builtin "len") as).map RV.v))=_
  rw[e1]
  show Ep σ (((((if ts.length≤Cf then some ts.length else none):Option Nat)).map fun(n:Nat)=>MV.int (n:Int)).map RV.v)=_
  rw[if_pos hc.2.2];rfl
 have e3:C0 C (.bin .Sub P2 (.const (.int 1))) [.loc r,.v w] σ= .ok (.v (.int ((ts.length:Int) - 1))) σ:=by
  show((C0 C P2 [.loc r,.v w] σ).bind fun a σ=>Ep σ ((Kd .Sub a (.v (.int 1))).map RV.v))=_
  rw[e2];rfl
 have hmin:(if(ts.length:Int) - 1 < i then(ts.length:Int) - 1 else i)=min i ((ts.length:Int) - 1):=bM ..
 have e4:C0 C CJ [.loc r,.v w] σ= .ok (.v (.int (min i ((ts.length:Int) - 1)))) σ:=by
  show(((C0 C (.attr (.var 0) "at") [.loc r,.v w] σ).bind fun a σ=>((C0 C (.bin .Sub P2 (.const (.int 1))) [.loc r,.v w] σ).bind fun b σ=>B1.ok [b] σ).bind fun as σ=>B1.ok (a::as) σ).bind fun as σ=>Ep σ ((Om σ (.builtin "min") as).map RV.v))=_
  rw[e0]
  show(((C0 C (.bin .Sub P2 (.const (.int 1))) [.loc r,.v w] σ).bind fun b σ=>B1.ok [b] σ).bind fun as σ=>B1.ok (RV.v (.int i)::as) σ).bind _=_
  rw[e3]
  show Ep σ ((some (MV.int (if(ts.length:Int) - 1 < i then(ts.length:Int) - 1 else i))).map RV.v)=_
  rw[hmin];rfl
 refine⟨?_,?_⟩
 ·
  show((((C0 C (.attr (.var 0) "tokens") [.loc r,.v w] σ).bind fun a σ=>Ep σ ((Dn a).map fun t=>RV.v (.bool !t))).bind _):B1 (Di×List RV))=_
  rw[e1]
  show(Ep σ (((if ts.length≤Cf then some (!ts.isEmpty) else none)).map fun t=>RV.v (.bool !t))).bind _=_
  rw[if_pos hc.2.2,hz];rfl
 ·
  show(((((C0 C (.attr (.var 0) "tokens") [.loc r,.v w] σ).bind fun o σ=>(C0 C CJ [.loc r,.v w] σ).bind fun j σ=>Ep σ ((Jz σ o j).map RV.v)).bind fun a σ=>Ep σ ((Ol σ a (Aa "at")).map RV.v)).bind fun a σ=>B1.ok [a] σ).bind fun as σ=>B1.ok (RV.v w::as) σ)=_
  rw[e1]
  show(((((C0 C CJ [.loc r,.v w] σ).bind fun j σ=>Ep σ ((Jz σ (.v (.lis ts)) j).map RV.v)).bind fun a σ=>Ep σ ((Ol σ a (Aa "at")).map RV.v)).bind fun a σ=>B1.ok [a] σ).bind fun as σ=>B1.ok (RV.v w::as) σ)=_
  rw[e4]
  show((((Ep σ ((if ts.length≤Cf then(if 0≤min i ((ts.length:Int) - 1) then ts[(min i ((ts.length:Int) - 1)).toNat]? else none) else none).map RV.v)).bind fun a σ=>Ep σ ((Ol σ a (Aa "at")).map RV.v)).bind fun a σ=>B1.ok [a] σ).bind fun as σ=>B1.ok (RV.v w::as) σ)=_
  rw[if_pos hc.2.2,if_pos (show 0≤min i ((ts.length:Int) - 1) from Int.le_min.mpr ⟨hc.1,Int.sub_nonneg.mpr (Be.mpr hp)⟩)]
  refine L8 ht fun m hm hk=>?_
  rw[hm]
  cases m with
  | tok k v j=>
   obtain rfl:=Ab hk
   show((Ep σ ((if Cb (Aa "at") "kind" then some (MV.str k) else if Cb (Aa "at") "worth" then some (MV.str v) else if Cb (Aa "at") "at" then some (.tup [.int j,.int 12]) else none).map RV.v)).bind fun a σ=>B1.ok [a] σ).bind _=_
   rw[if_neg (by decide+kernel),if_neg (by decide+kernel),if_pos (by decide+kernel)];rfl
  | _=>exact nn hk
end
noncomputable def XE (K:Frag):Bool:=findIn K (.ref B3) "fault"==some (some (.ref Hf))&&typeIn K (.ref Hf)==some (.type "function")&&keepIn K (.ref Hf)
structure Od (K:Frag):Prop where
 exc:Rv K
 led:Zb K=true
 row:We K=true
 meth:XE K=true
theorem Br.is {G:Gx} {m:List Addr} {W:Wd} {α β:Type} {Rel:Wd→α→β→Prop} {Q:β→Bk→Prop} {E:Bq→Bk→Prop} {o:B1 α} {r:α} {σ:Bu} (e:o= .ok r σ) (H:∀ v W',W'.σ=σ→Go G m W W'→Rel W' r v→Q v W'.s):Br G m W Rel Q E o:=e▸H
section
variable {G:Gx} {A:Bm} {fr:List Env} {W:Wd} {F:Frag} {N:Nat} {T:Bq→Bk→Prop}
theorem Yy {w:Str} {n i:Int} {r:Nat} {ts:List MV} {ov wv:Bq} (k:Kf G F) (FK:Od F) (B:Bs G) (hC:Db (N+7) A fr) (hf:Eu fr W) (I:B6 G W) (hr:Cj W (.loc r) ov) (hw:VR W.F (.str w) wv) (hl:W.σ[r]?=some (.rdr ts i)) (hc:0≤i∧ts≠[]∧ts.length≤Cf) (ht:(ts[(min i (ts.length - 1)).toNat]?).bind GL=some n)
  (H:∀ v W',W'.σ=W.σ→Go G [] W W'→Rw W' n v→T v W'.s):codeAny (model prog G.w) A (.call (.ref Hf) ⟨[ov,wv],[]⟩) (CU T) W.s:=by
 refine Hu FK.row fun fd b ds hfn j=>?_
 have j1:=b2 j;have j2:=b2 j1.1;have j3:=b2 j2.1
 refine Jh j3.1 fun st rt eb h=>Lg (b2 h).2 fun eo rp e1 h1=>C2 h1 fun ec e2 h2=>Ee h2 fun f l kw cp e3 h3=>?_
 have h4:=b2 h3;have h5:=b2 h4.1;have h6:=b2 h5.1
 have eq:b=[st,.Return (some (.Call f l [] cp)) rp]:=by rw[eb,e1,e2,e3,Cc h6.1]
 clear h1 h2 h3 j
 obtain rfl:ds=[]:=List.isEmpty_iff.mp j1.2
 clear j1
 obtain⟨⟨o,ho,hd'⟩,ok,hcd,hbody,hdf⟩:=I6 (k.here.keeps I.stays) hfn
 have elen:(fd.params.args.map (·.arg)).length=2:=(Am ..).trans (beq_iff_eq.mp j3.2)
 refine Kw (C':=LH) (N':=N+6) (args:=[.loc r,.v (.str w)]) (dm:=[]) B ok hC hf I ho hd' hcd hbody hdf rfl ⟨_,_,rfl,hr,wv,_,rfl,hw,rfl⟩ (Au elen.symm) (Au elen) (Nat.zero_le _) fun K W2 eG eC eN ens eac esc efr hK eσ g hm S=>?_
 clear I
 subst eG
 rw[show(Gq fd).length=2 from beq_iff_eq.mp j2.2,elen] at S
 have S:At K W2 [.loc r,.v (.str w)]:=S
 rw[←ens,←eac,←esc] at h
 rw[←ens,←esc] at h4 h5
 have CO:F3 K.G K.C K.N:=eC.1▸EO
 have O:=Zz B k hK CO
 have ev:=IR (C:=K.C) (σ:=W2.σ) (w:=.str w) (eσ▸hl) hc ht
 rw[eq]
 refine wpAny_execs_cons (AG O hK (b2 h).1 S (.is ev.1 fun fl W3 e3 g3 hfl=>?_))
 obtain⟨S3,rfl⟩:=hfl
 refine wpAny_execs_cons (wpAny_Return_some ?_)
 rw[Kg h6.2]
 refine Bh (Jp hK B _ _ h5.2 S3 fun vg W4 e4 g4 hvg=>?_)
 rw[show vg= .ref B8 from hvg]
 have hb:=Eb (pos:=cp) (env:=K.env) h4.2
 have S4:=S3.go g4
 refine callWith_of (P:=fun h=>F.In h) (by rw[hb.1];rfl) (fun h X=>keeps_K FK.exc.keep h X) (Fz hb.1 (NR O hK B CO h4.2 S4 (.is ((congrArg (Tf K.C [.var 1,N0] _) (e4.trans e3)).trans ev.2) fun vs W5 e5 g5 hvs=>?_)))
 clear hvg
 obtain⟨v1,_,rfl,hv1,v2,_,rfl,hv2,rfl⟩:=hvs
 have S5:=S4.go g5
 refine⟨k.here.keeps S5.inv.stays,wpAny_call (codeAny_mono (Yz (N:=N) (w:=w) (n:=n) (T:=T) k.here FK.exc FK.led B (eN▸hK.call) S5.frs S5.inv hv1 hv2 fun v W6 e6 g6 fresh=>H v W6 (e6.trans (e5.trans eσ)) ⟨g6.inv,g.le.leave (g3.trans (g4.trans (g5.trans g6)).up).le hm⟩ fresh) fun r3 s3 q=>?_)⟩
 rcases r3 with e | (v | _ | _ | _)<;>first | exact q.elim | exact q
end
theorem FT {l:List MV} {i:Nat} {m:MV} (h:(Fu l 0)[i]?=some m):∃ x,l[i]?=some x∧m= .tup [.int i,x]:=by
 unfold Fu at h
 rw[List.getElem?_map,List.getElem?_zipIdx] at h
 cases e:l[i]? with
 | none=>rw[e] at h;exact nn h
 | some x=>rw[e] at h;exact⟨x,rfl,(Ab h).symm.trans (by rw[Nat.zero_add])⟩
theorem Se (l:List MV):(Fu l 0).length=l.length:=by unfold Fu;rw[Am,List.length_zipIdx]
theorem IM {G:Gx} {A:Bm} {W:Wd} {a e it:Addr} {o:Obj} {n:Nat} {l:List MV} {vs:List Bq} {elts:List Expr} {k:Nat} {p:Pos} (hh:A.handled=none) (hF:W.F a o) (hc:o.cls= .type "list") (hd:o.data= .seq vs.toArray n) (hv:Ds W.F l vs) (h1:e≠it) (h2:a≠e) (h3:a≠it):
  HC G A (.Tuple elts k p) e [e,it] W (Fu l 0) (fun i h=>(∃ old,IsEnum h e it i old)∧h.IsListIter it a i∧h.IsList a vs.toArray) [e,it,a]:=
 have T:=WalksT.enumerate (prog:=prog) (w:=G.w) hh e it a h1 h2 h3 vs.toArray
 have hl:(Fu l 0).length=vs.toArray.size:=(Se l).trans hv.size.symm
 ⟨fun {i m W1 Q E} hm I1 le pins st kk=>T.item i W1.s _ _ (hl▸(Ah.mp hm).1) st fun t vals h2 t2 hP hge hT hM hk=>⟨.ref t,rfl,T.go _ _ _ i t {W1.s with heap:=h2,toks:=t2} _ _ hM fun h3 st3 hk3=>by
  have ap:=T.apart _ _ _ hM
  have Tn:Hw G [e,it] W1 (W1.its [e,it] (G0 h3) h3 t2):=.pin I1 pins (fun Z Z c e=>Lk e) fun b o n x=>hk3 b o n (hk b o n x)
  obtain⟨oT,e1,c1,n1,d1⟩:=hT
  have hs:(W1.its [e,it] (G0 h3) h3 t2).S t=none:=(if_neg ap).trans (I1.none (Heap.get?_none_of_le hge))
  obtain⟨x,hx,rfl⟩:=FT hm
  obtain⟨tt,xv,hxv,rfl⟩:=hP
  have pn:∀ b∈[e,it],∃ o,h3.get? b=some o:=fun b hb=>(Ag.mp hb).elim (fun q=>st3.1.elim fun old z=>⟨_,q▸z⟩) fun q=>st3.2.1.elim fun oi z=>⟨oi,(Ae.mp q:b=it).symm▸z.1⟩
  exact kk (.ref t) ((W1.its [e,it] (G0 h3) h3 t2).say t oT h3 t2) ⟨Tn.inv.say (t:=t2) (fun Z Z z=>z) (hk3 t oT ap e1) hs,fun Z Z z=>.inl z,rfl,rfl,Tn.S,fun Z Z=>rfl⟩ (fun b hb=>(Yb.its (t:=t2) hb (pn b hb):Yb (W1.its [e,it] (G0 h3) h3 t2) b)) st3
   ⟨[.int i tt,xv],⟨t,oT,n1,rfl,.inr ⟨rfl,rfl⟩,c1,d1⟩,_,_,rfl,⟨tt,rfl⟩,xv,_,rfl,VR.up (fun Z Z z=>.inl (le _ _ z)) _ (Jt hv hxv hx),rfl⟩⟩,
  fun {W1 Q E} I1 pins st kk=>T.done W1.s _ _ (hl▸st) fun h2 t2 hk=>kk (W1.its [e,it] (fun Z=>none) h2 t2) (.pin I1 pins (fun Z Z c e=>nn e) hk),
  fun {i s Q E} st q=>T.self i s _ _ st q,fun st kk=>T.frame _ _ _ st kk,fun b hb=>(Ag.mp hb).elim (fun q=>.inl (q▸ .head _)) fun hb=>(Ag.mp hb).elim (fun q=>.inl (q▸ .tail _ (.head _))) fun q=>.inr (.inl ⟨o,(Ae.mp q:b=a).symm▸hF⟩)⟩
theorem rZ {α β:Type} {l:List α} {a b c:β} (h:l.length=[a,b,c].length):∃ x y z,l=[x,y,z]:=by
 cases l with
 | nil=>exact nomatch h
 | cons x l=>
  cases l with
  | nil=>exact nomatch h
  | cons y l=>exact mN (α:=α) (c:=c) (Nat.succ.inj (Nat.succ.inj h)) fun z e=>⟨x,y,z,e▸rfl⟩
theorem AM {X:EI} {t u v:Str} {pt pu pv q1 q2:Pos} {k1 k2:Nat} (hts:X.ts=[t,u,v]) (hcap:X.cap=[]) (hcs:X.c=[]) (hp:X.p=p3) (htg:X.tg= .Tuple [.Name t pt,.Tuple [.Name u pu,.Name v pv] k1 q1] k2 q2) (sc:Cu X.ts X.cap X.s) (src:HC X.K.G X.K.A X.tg X.I X.wr X.W0 X.l X.St X.fp) (kok:Ff X.Kc) (hg:∀ m σ,X.g m σ= .ok true σ) (hmc:X.mcond=none)
  (hf:∀ m σ,X.f m σ=(put p3 m [.v .none,.v .none,.v .none]).elim .no fun ρ'=>C0 X.K.C X.melt ρ' σ) (he:SE X.Kc X.melt) (te:El (X.ts++X.cap) (Xn X.s X.K.env.scope) X.melt X.elt=true) (tc:X.ifs=[]) (big:X.l.length≤Cf):ZB X:=
 have as {i:Nat} {y:Str} (h:X.ts[i]?=some y):Gu X.Kc.ns X.Kc.ac X.Kc.env.scope i y=true:=by
  show Gu (X.ts++X.cap) [] (Xn X.s X.K.env.scope) i y=true
  unfold Gu XW
  rw[sc.relLoc X.K.env.scope (List.mem_of_getElem? h),hcap,Aj,h]
  simp [opt]
 have ln {ρ:List RV} (S:ρ.length=X.ts.length):∃ x y z,ρ=[x,y,z]:=rZ (a:=t) (b:=u) (c:=v) (hts▸S)
 ⟨src,fun {W ρ ρ' m val Q E} S hp' hv q=>(ln (S.len.trans (by show(X.ts++X.cap).length=_;rw[hcap,Aj]))).elim fun x h=>h.elim fun y h=>h.elim fun z h=>by
   subst h
   rw[hp] at hp'
   rw[htg]
   exact UL (K:=X.Kc) kok (as (by rw[hts];rfl)) (as (by rw[hts];rfl)) (as (by rw[hts];rfl)) S hp' hv q,
  fun m ρ h=>h.elim fun xs e=>(ln e.1).elim fun x h=>h.elim fun y h=>h.elim fun z h=>by
   rw[e.2,hcs,Aj,hp,h]
   rcases nM m with h | ⟨a,b,c,_,h⟩
   · exact .inr fun σ=>⟨hg m σ,(hf m σ).trans (congrArg (fun o=>Option.elim o _ _) (h _ _ _))⟩
   · exact .inl ⟨_,h _ _ _,⟨_,hts▸rfl,(hcs▸Aj _).symm⟩,fun σ=>(hg m σ).trans (hmc▸rfl),fun σ=>(hf m σ).trans (congrArg (fun o=>Option.elim o _ _) (h _ _ _))⟩,
  he,te,(fun me e=>nn (hmc.symm.trans e)),by rw[hmc,tc];rfl,big⟩
section
variable {K:Kx}
theorem IH {me elt:ME} (hK:Ff K) (B:Bs K.G) (hm:SE K me) (he:qQ K elt):CW K (.compE me elt):=fun {ex W ρ m γ δ Rel Q E g P} ht S H k=>Fp ht fun x gs s pos e1 h1=>Qe h1 fun tg it ifs e2 h2=>
 have h3:=b2 h2;have h4:=b2 h3.1
 Fa h4.2 fun l1 k1 p1 e3 h5=>Jh h5 fun n1 q1 e4 h6=>B5 h6 fun t pt e5 h7=>Fa h7 fun l2 k2 p2 e6 h8=>Jh h8 fun n2 n3 e7 h9=>B5 h9 fun u pu e8 h10=>B5 h10 fun v pv e9 h11=>
 N5 h3.2 fun p l q e10 hk h12=>Dr h12 fun a e11 h13=>
 have sc:=Cu.of (b2 h11).1
 k x tg it ifs s pos (e1.trans (by rw[e2])) (fun v=>by rw[e10];rfl) (Hz (Ov (caps:=[]) (c:=[]) sc S rfl rfl)) sc.kind sc.names fun KK hKK=>by
  clear h3 h2 e2 h12 h5 h6 h7 h8 h9 h10
  subst e3;subst e4;subst e5;subst e6;subst e7;subst e8;subst e9;subst e10;subst e11
  obtain rfl:=Cc h4.1
  refine N1 hK B.enum S.inv hk rfl (by rw[Cg (b2 h13).2];rfl) (wpAny_items_cons (hm (b2 h13).1 S (Br.bind0 (Br.assoc H) fun r w W1 g1 hr H1=>wpAny_items_nil ?_)) (Cg (b2 h13).2))
  refine Br.sel H1 fun ml hi H2=>Br.sel H2 fun uu hu H3=>T8 (Br.assoc H3) fun tot τ hq H4=>?_
  have e12:r= .v (.lis ml):=by
   cases r with
   | v m=>cases m with
    | lis j=>exact congrArg (fun j=>RV.v (.lis j)) (Ab hi)
    | _=>exact nn hi
   | _=>exact nn hi
  clear hi H1 h4
  subst e12
  obtain⟨vs,⟨ad,o,n,rfl,hF,hc,hd⟩,hvs⟩:=hr
  have hg:=g1.inv.fh _ _ hF
  have hlt:=Heap.lt_size hg
  refine call_enumerate_list (s:=W1.s) ⟨o,hg,hc,n,hd⟩ fun h' hE hI hsz hkp=>wpAny_pyIter_enum (s:={W1.s with heap:=h'}) hE ?_
  have fr {b:Addr} (h:b∈[W1.s.heap.objs.size+1,W1.s.heap.objs.size]):W1.s.heap.get? b=none:=Heap.get?_none_of_le ((Ag.mp h).elim (fun q=>q▸Nat.le_succ _) fun q=>(Ae.mp q)▸Av _)
  have pn:∀ b∈[W1.s.heap.objs.size+1,W1.s.heap.objs.size],∃ o,h'.get? b=some o:=fun b hb=>(Ag.mp hb).elim (fun q=>⟨_,q▸hE⟩) fun q=>hI.elim fun oi z=>⟨oi,(Ae.mp q:b=W1.s.heap.objs.size).symm▸z.1⟩
  have Tn:Hw K.G [W1.s.heap.objs.size+1,W1.s.heap.objs.size] W1 (W1.its [W1.s.heap.objs.size+1,W1.s.heap.objs.size] (G0 h') h' W1.s.toks):=
   .its g1.inv (fun b hb=>⟨fun o f=>nn ((fr hb).symm.trans (g1.inv.fh _ _ f)),(fun d e=>nn ((g1.inv.none (fr hb)).symm.trans e)),fun c e=>Lk e⟩) fun b Z o e=>hkp b o e
  have hne {b:Addr} (q:ad=b) (h:b∈[W1.s.heap.objs.size+1,W1.s.heap.objs.size]):False:=nn ((fr h).symm.trans (q▸hg))
  have src:=IM (G:=K.G) (W:=W1.its [W1.s.heap.objs.size+1,W1.s.heap.objs.size] (G0 h') h' W1.s.toks) (elts:=[.Name t pt,.Tuple [.Name u pu,.Name v pv] k2 p2]) (k:=k1) (p:=p1) hK.call.calm hF hc hd hvs (Nat.succ_ne_self _) (fun q=>hne q (.head _)) fun q=>hne q (.tail _ (.head _))
  exact Vr (X:={K:=K,s:=s,C:=0,D:=0,ts:=[t,u,v],cap:=[],c:=[],tg:=.Tuple [.Name t pt,.Tuple [.Name u pu,.Name v pv] k2 p2] k1 p1,p:=p3,elt:=x,ifs:=[],melt:=elt,mcond:=none,l:=Fu ml 0,g:=yes,f:=_,I:=W1.s.heap.objs.size+1,wr:=[W1.s.heap.objs.size+1,W1.s.heap.objs.size],fp:=[W1.s.heap.objs.size+1,W1.s.heap.objs.size,ad],St:=_,W0:=W1.its [W1.s.heap.objs.size+1,W1.s.heap.objs.size] (G0 h') h' W1.s.toks,Wb:=W1,tot:=tot,τ:=τ}) (caps:=[])
   hK sc (S.go g1) rfl rfl ⟨Tn.inv,(Le.refl [] W1).turn (fun b hb=>g1.inv.none (fr hb)) Tn⟩ (fun b h=>Option.eq_none_iff_forall_ne_some.mpr fun o' e=>nn (h.symm.trans (hkp b o' e))) (fun b hb=>⟨g1.inv.none (fr hb),Yb.its hb (pn b hb)⟩)
   (fun C kok=>AM rfl rfl rfl rfl rfl sc src kok (fun Z Z=>rfl) rfl (fun Z Z=>rfl) (he _ _ _ kok) (b2 h11).2 rfl (Ad (Au (Se ml)) (Dq hu)))
   ⟨⟨_,hE⟩,hI,o,hkp _ _ hg,hc,n,hd⟩ hq src.fpk src.frame fun W3 f D C e3 g3 hf hC hv=>hKK W3 f tot D C (g1.trans g3) hf (g1.le.kd0 hC) hv (e3.symm▸H4)
end
theorem Br.el {G:Gx} {m:List Addr} {W:Wd} {α γ δ:Type} {Rel:Wd→γ→δ→Prop} {Q:δ→Bk→Prop} {E:Bq→Bk→Prop} {P:Prop} {o:Option α} {f:α→B1 γ} (H:Br G m W Rel Q E (o.elim .no f)) (k:∀ a,o=some a→Br G m W Rel Q E (f a)→P):P:=match o,H with
 | some a,H=>k a rfl H
 | none,H=>(H:False).elim
theorem HH {r:RV} {s:Str} (h:Oj r=some s):r= .v (.str s):=by
 cases r with
 | v m=>cases m with
  | str j=>exact congrArg (fun j=>RV.v (.str j)) (Ab h)
  | _=>exact nn h
 | _=>exact nn h
section
variable {K:Kx} {F:Frag}
theorem OE {N:Nat} (k:Kf K.G F) (FK:Od F) (B:Bs K.G) (hK:Ff K) (hN:K.N=N+7) {o e:ME} (ho:SE K o) (he:SE K e):SS K (.fault o e):=fun {st W ρ Q E} ht S H=>MB ht fun x0 y0 pos e1 h=>C2 (b2 h).2 fun x1 e2 h1=>Ee h1 fun a l kw q e3 h2=>Dr (b2 (b2 h2).1).2 fun x e4 h3=>D7 (b2 h2).2 fun t n ap e5 h4=>by
 have h5:=b2 h4;have h6:=b2 h5.1;have h7:=b2 h6.1
 clear ht h1 h4
 subst e1;subst e2;subst e3;subst e4;subst e5
 obtain rfl:=Mq (b2 h).1
 obtain rfl:=Cc (b2 (b2 h2).1).1
 clear h h2
 obtain rfl:n="fault":=of_decide_eq_true h7.1
 have m1:=b2 FK.meth;have m2:=b2 m1.1
 obtain⟨xd,hexc⟩:=FK.exc.obj
 have c:=jE.of k.cls
 have H:Br K.G K.mine W (GQ K) Q E ((C0 K.C o ρ W.σ).bind fun o σ=>(E5 σ o).elim .no fun Z=>(C0 K.C e ρ σ).bind fun e σ=>(E5 σ o).elim .no fun n=>(Oj e).elim .no fun Z=>.exc n σ):=H
 rw[arm_exec_Raise]
 show wpAny (model prog K.G.w) K.A (do standAt pos;raiseStmt K.env (some (do let v ←eval (.Call (.Attribute t "fault" ap) [x] [] q) K.env;standAt pos;pure v)) none) _ _ W.s
 refine Bh (wpAny_standAt (Xl (C:=B8) (by decide+kernel) hK.call.calm (Bh (wpAny_mono (Q:=fun v s₁=>∃ e t dx sl,v= .ref e∧s₁.heap.get? B8=some xd.o∧
   s₁.heap.get? e=some {cls:=.ref B8,dict:=dx,data:=.fields #[.ref t,.none,.none,.none,.bool false,.none],slots:=sl}∧E (.ref e) s₁) ?_ (fun v s₁ h₁=>Bh (wpAny_standAt (Bi h₁))) fun Z Z x=>x))))
 rw[arm_eval_Call,Gg h6.2]
 refine Bh (ho h7.2 S (Br.bind0 H fun r v W1 g1 hr H1=>Br.el H1 fun n0 hf0 H2=>?_))
 refine Pl hf0 fun rr ts i er hl hc ht0=>?_
 clear hf0 H1
 subst er
 have hb:=Eb (pos:=q) (env:=K.env) (l:=[e]) (es:=[x]) (ns:=K.ns) (sc:=K.env.scope) (by show(El K.ns K.env.scope e x&&F6 x&&true)=true;rw[(b2 h3).1,(b2 h3).2];rfl)
 have hform:methodCallForm ([x].length+([]:List Keyword).length) (backTo q (starEach [x] K.env)) (backToKw q (keywordEach [] K.env))=true:=by
  show(((backTo q (starEach [x] K.env)).all (!·.1)&&true)&&decide (1+0+0 < 30))=true
  rw[hb.2];rfl
 have hpos:methodCallPos true t K.env ap q=pure q:=by
  show(if(!true||ap.endLine==q.line)=true then pure q else _)=_
  rw[h5.2];rfl
 refine Bh (wpAny_standAt ?_)
 unfold methodCall
 rw[hform,hpos]
 unfold calleeOf
 rw[if_pos rfl]
 refine Bh (Bj ?_)
 have S1:=S.go g1
 obtain⟨y,p⟩:=Qj S1.inv hr hl
 refine p.v▸method_fn (k.at_ S1.inv) p.i c.rg c.rk (beq_iff_eq.mp m2.1) (beq_iff_eq.mp m2.2) (Sp p.k1 p.k2 p.k3 (by decide+kernel) (by decide+kernel) (by decide+kernel)) (p.v▸Bh (Bi ?_))
 refine callWith_of (P:=fun h=>F.In h) (by rw[hb.1];rfl) (fun h X=>keeps_K m1.2 h X) (Fz hb.1 (wpAny_items_cons (he (b2 h3).1 S1 (Br.bind0 (Br.go g1.up H2) fun r2 wv W2 g2 hw H3=>wpAny_items_nil (Br.el H3 fun n hf1 H4=>Br.el H4 fun w hs H5=>?_))) (Cg (b2 h3).2)))
 obtain rfl:=HH hs
 have S2:=S1.go g2
 refine Pl hf1 fun rr' ts' i' er' hl' hc' ht'=>?_
 obtain rfl:=RV.loc.inj er'
 refine⟨k.here.keeps S2.inv.stays,wpAny_call (codeAny_mono (Yy (N:=N) (T:=fun v s₁=>∃ e t dx sl,v= .ref e∧s₁.heap.get? B8=some xd.o∧s₁.heap.get? e=some {cls:=.ref B8,dict:=dx,data:=.fields #[.ref t,.none,.none,.none,.bool false,.none],slots:=sl}∧E (.ref e) s₁)
  k FK B (hN▸hK.call) S2.frs S2.inv (g2.v hr) hw hl' hc' ht' fun v W6 e6 g6 ⟨y6,t6,P6,hv6⟩=>⟨y6.a,t6,some y6.dx,y6.sl,P6.e,k.here.keeps g6.inv.stays _ _ hexc,hv6▸P6.o,P6.e▸H5 v W6 e6 (g2.trans g6).up (Rw.fly ⟨y6,t6,P6,hv6⟩)⟩) fun r3 s3 q=>?_)⟩
 clear er' hs H4 H3
 rcases r3 with e | (v | _ | _ | _)<;>first | exact q.elim | exact q
end
section
variable {K:Kx}
theorem At.off {W0 W:Wd} {ρ0 ρ:List RV} {C:Addr} {f:Str→Option Bq} {h:Heap} {t:Nat} (S0:At K W0 ρ0) (h0:∀ x,W0.S C=some x→x.kd=0) (S:At K W ρ) (hf:W.S C=some (.ns f)) (I:B6 K.G (W.off C h t)):At K (W.off C h t) ρ:=
 have ne {a:Addr} {c:D2} (e:W0.S a=some c) (k:c.kd≠0):a≠C:=fun q=>k (h0 c (q▸e))
 have up {a:Addr} {c:D2} (e:W.S a=some c) (n:a≠C):(W.off C h t).S a=some c:=(if_neg n).trans e
 have cl {a:Addr} {v:Option Bq} (e:W.S a=some (.cell v)):a≠C:=fun q=>nomatch Ab (hf.symm.trans ((congrArg W.S q).symm.trans e))
 ⟨I,fun e he=>(S0.frs e he).2.elim fun L h=>h.elim fun m h=>have q:=S.frs e he;q.2.elim fun L' h'=>h'.elim fun m' h'=>⟨q.1,L',m',h'.1,up h'.2 (Ab (h.1.symm.trans h'.1)▸ne h.2 (fun q=>nomatch q))⟩,S.len,
  S0.val.elim fun m h=>S.val.imp fun m' h'=>⟨up h'.1 (ne h.1 (fun q=>nomatch q)),fun k x r a b c=>(h'.2 k x r a b c).imp fun v q=>⟨q.1,q.2.imp id fun q=>⟨q.1,q.2.imp fun c q=>⟨q.1,q.2.imp (fun q=>⟨up q.1 (cl q.1),q.2⟩) id⟩⟩⟩⟩,
  fun x hx=>(S.cel x hx).imp fun c h=>h.imp fun v h=>⟨h.1,h.2.1,up h.2.2 (cl h.2.2)⟩,fun a ha=>(S0.own a ha).elim fun c h=>(S.own a ha).imp fun d h'=>⟨up h'.1 (ne h.1 h.2.1),h'.2⟩⟩
theorem WG {x:Str} {p q:Pos} {a tg iter:Expr} {ifs:List Expr} {s:Scope} {v:Expr} (hK:Ff K) (hv:v= .ListComp a [⟨tg,iter,ifs,0⟩] s q) {pos:Pos} (h:AN K.env.scope x p v=true):swapsWith v (some (.Name x p)) pos.line K.env=pure true:=by
 subst hv
 have h:(K.env.scope.names.lookup x==some .local&&p.line==q.line&& !(s.names.any fun(n,k)=>n==x&&(k== .local||k== .cell)))=true:=h
 have b1:(K.env.blockKind==ScopeKind.function)=true:=by unfold Env.blockKind;rw[hK.kind];rfl
 have b2:(K.env.kindOf x==some NameKind.local)=true:=(b2 (b2 h).1).1
 have b3:(p.line==(PySem.Expr.ListComp a [⟨tg,iter,ifs,0⟩] s q).pos.line)=true:=(Mine.b2 (Mine.b2 h).1).2
 unfold swapsWith
 simp only [b1,b2,b3,Hp (Mine.b2 h).2]
 rfl
theorem kW {me:ME} (hK:Ff K) (h:CW K me):CA K me:=fun {k x p v pos W ρ Q E} hx ht hu S H=>h (g:=fun a σ=>Ep σ ((F7 ρ k a).map fun ρ=>(Di.next,ρ))) ht S H fun a tg iter ifs s q e h1 h2 h3 h4 h5=>by
 have hsw:=WG hK e (pos:=pos) hu
 subst e
 rw[exec_Assign_Name_used _ _ _ _ hsw]
 refine Bh (wpAny_standAt (Bh ?_))
 show wpAny _ K.A (do let _ ←comprehension (.ListComp a [⟨tg,iter,ifs,0⟩] s q) s K.env _ (newList []) false (eval iter K.env) (some (assign (.Name x p) K.env))) _ _ W.s
 refine Bh (wpAny_mono (wpAny_comprehension_free (use:=some (assign (.Name x p) K.env)) (Q:=fun Z s'=>Q .next s') rfl h1 h2 h3 h4 (h5 (fun acc C=>compPost (model prog K.G.w) K.A E (some (assign (.Name x p) K.env)) (fun Z s'=>Q .next s') acc C) fun W3 f l D C g hf hC hv H3=>?_)) (fun Z s' hq=>Bi (Bi hq)) fun e s' q=>q)
 refine Br.optm H3 fun ρ' hp H4=>wpAny_assign_Name (Gi (r:=.v (.lis l)) hK (S.go g) hx hv fun W4 e4 g4 S4=>?_)
 have hm:C∉K.mine:=fun q=>(S.own C q).elim fun c h=>h.2.1 (hC c h.1)
 have h4C:=g4.le.keep C _ hf (fun q=>nomatch q) hm
 have L:=g.le.up.trans g4.le
 refine⟨f,S4.inv.ns h4C,fun h' hk=>?_⟩
 have I:=S4.inv.off (h:=h') (t:=W4.s.toks) h4C (fun q=>nomatch q) fun b o q e=>(hk.2 b q).trans e
 exact H4 .next (W4.off C h' W4.s.toks) e4 ⟨I,L.off hC⟩ ⟨(Ll hp).2▸S.off hC S4 h4C I,rfl⟩
end
section
variable {M:Model} {A:Bm} {E:Bq→Bk→Prop} {s:Bk} {name qual:Str} {params:Arguments} {body:Expr} {scope:Scope} {env:Env} {c P:Addr} {ps:Array Bq} {pos:Pos} {firstLine:Nat} {mg:Str→Option Bq}
 {q0:Str×Addr} {r0:List (Str×Addr)} {Q:Bq→Bk→Prop}
theorem KH (hcl:closureFor scope env=pure (q0::r0)) (hge0:env.globals=mainGlobals) (hg:s.heap.Ns mainGlobals mg) (hcode:env.code= .ref c) (C:CodeHd s.heap c P) (hP:s.heap.get? P=some (tabObj ps)) (ht:TriplesOk ps.toList)
  (hnf:codeAmong pos ps.toList=none) (hgP:mainGlobals≠P) (hb:s.heap.BuiltinsAt mg P)
  (h:∀ c' ctv h' tk,Heap.ExtBut P s.heap h'→s.heap.objs.size≤c'→c' < h'.objs.size→h'.CodeRec (.ref c') qual→(∃ o,h'.get? c'=some o∧o.cls= .type "code")→h'.get? P=some (tabObj (ps++ #[rawInt pos.line,rawInt pos.col,.ref c']))→
   Q (.ref h'.objs.size) {s with heap:=h'.push (kla_obj name qual params body scope (q0::r0) ((mg "__name__").getD .none) c' ctv),toks:=tk}):
  wpAny M A (makeFunction name qual params (.expr body) scope env [] [] [] pos firstLine) Q E s:=by
 rw[makeFunction_eq]
 simp only [List.zip_nil_right,List.filterMap_nil,List.isEmpty_nil,if_true,pure_bind]
 obtain⟨bm,ob,hbm,hne0,_,hneP,hbo,hcls,hdict,hdata⟩:=hb
 unfold makeTail
 rw[hcl,hge0]
 refine Bh (Bi ?_)
 simp only [List.isEmpty_cons,Bool.false_eq_true,if_false]
 refine Bh (wpAny_newTextTuple ?_)
 refine Bh (wpAny_functionCodeX hcode ((C.keeps fun b o e=>Bo _ e).code (Bo _ hP) ht) ((C.keeps fun b o e=>Bo _ e).tab (Bo _ hP)) hnf fun c' h' tk hx hge hlt Z hrec htb hc2=>?_)
 have hg':=(hg.push _).extBut hx hgP
 have hx':Heap.ExtBut P s.heap h':=fun b o hb' e=>hx b o hb' (Bo _ e)
 have hge':s.heap.objs.size≤c':=Ad (by rw[Heap.size_push];exact Nat.le_succ _) hge
 refine Bh (wpAny_builtinsFor hg' hbm hne0 (hx' _ _ hneP hbo) hcls hdict hdata ?_)
 refine Bh (wpAny_nsGet hg' ?_)
 refine Bh (Bi (wpAny_newObj_type (h c' _ h' tk hx' hge' hlt hrec ?_ htb.2) (by size_fits)))
 obtain⟨P',_,_,⟨⟨o,vs,e1,e2,_⟩,_⟩⟩:=hc2
 exact⟨o,e1,e2⟩
end
noncomputable abbrev Dw:Str:=Aa "inner"
noncomputable abbrev mI (p:Pos):Arguments:=⟨[],[⟨Dw,none,p⟩],none,[],[],none,[]⟩
theorem ZT:∀ {x:Arg},x.arg=Dw→x.annotation=none→x=⟨Dw,none,x.pos⟩
 | ⟨a,n,p⟩,h1,h2=>(congrArg (fun a=>Arg.mk a n p) h1).trans (congrArg (fun n=>Arg.mk Dw n p) h2)
theorem QL {l:List Arg}:∀ {a:Arguments},a.posonlyargs=[]→a.args=l→a.vararg=none→a.kwonlyargs=[]→a.kw_defaults=[]→a.kwarg=none→a.defaults=[]→a=⟨[],l,none,[],[],none,[]⟩
 | ⟨p,as,v,ko,kd,kw,df⟩,h1,h2,h3,h4,h5,h6,h7=>by rw[show p=[] from h1,show as=l from h2,show v=none from h3,show ko=[] from h4,show kd=[] from h5,show kw=none from h6,show df=[] from h7]
theorem Wv {P:Prop} {a:Arguments} {e:Expr} {sc:Scope} (h:KG a e sc=true) (k:∀ p fp yp dp q1 q2 q3 q4,a=mI p→e= .Call (.Name (Aa "read_sum") fp) [.Name Dw yp,.BinOp (.Name C1 dp) .Add (.Constant (.int 1) q1 q2) q3] [] q4→
  sc.names=[(Dw,NameKind.local),(C1,NameKind.free),(Aa "read_sum",NameKind.globalImplicit)]→sc.kind= .function→sc.isGenerator=false→sc.isCoroutine=false→P):P:=
 have h1:=b2 h;have h2:=b2 h1.1;have h3:=b2 h2.1;have h4:=b2 h3.1;have h5:=b2 h4.1;have h6:=b2 h5.1;have h7:=b2 h6.1;have h8:=b2 h7.1;have h9:=b2 h8.1;have h10:=b2 h9.1;have h11:=b2 h10.1
 Dr h11.2 fun x e1 hx=>Ee h5.2 fun f l kw q4 e2 g=>B5 (b2 (b2 g).1).1 fun f fp e3 g1=>Jh (b2 g).2 fun y b e4 g2=>B5 (b2 g2).1 fun y yp e5 g3=>Lf (b2 g2).2 fun d o n q3 e6 g4=>B5 (b2 (b2 g4).1).2 fun d dp e7 g5=>Ew (b2 g4).2 fun c q1 q2 e8 g6=>Jn g6 fun i e9 g7=>
  k x.pos fp yp dp q1 q2 q3 q4 (QL (Cc h11.1) (e1.trans (congrArg (fun y=>[y]) (ZT (Ch.mp (b2 hx).1) (Mq (b2 hx).2)))) (Mq h10.2) (Cc h9.2) (Cc h8.2) (Mq h7.2) (Cc h6.2))
   (by rw[e2,e3,Ch.mp g1,Cc (b2 (b2 g).1).2,e4,e5,Ch.mp g3,e6,show o= .Add from of_decide_eq_true (b2 (b2 g4).1).1,e7,Ch.mp g5,e8,e9,of_decide_eq_true g7];rfl)
   (beq_iff_eq.mp h4.2) (beq_iff_eq.mp h3.2) (Hp h2.2) (Hp h1.2)
section
variable {G:Gx} {W:Wd} {h:Heap} {t:Nat} {c:Option Addr} {c':Addr} {oc:Obj}
noncomputable abbrev Wd.code (W:Wd) (c':Addr) (oc:Obj) (h:Heap) (t:Nat):Wd:={F:=W.F.add c' oc,S:=Mine.up W.S F4 (.tab (some c')),bs:=W.bs,σ:=W.σ,s:={W.s with heap:=h,toks:=t}}
theorem Go.code (I:B6 G W) (hT:W.S F4=some (.tab c)) (k:C8 F4 W.s.heap h) (hc:h.get? c'=some oc) (hn:W.s.heap.get? c'=none) (ht:h.get? F4=some (tabObj #[rawInt 174,rawInt 36,.ref c'])) (hq:Km (W.F.add c' oc) c' Rp):
  Go G [] W (W.code c' oc h t):=
 have nT {b:Addr} {d:D2} (e:W.S b=some d) (n:d.isTab=false):b≠F4:=fun q=>nomatch (Ab (hT.symm.trans ((congrArg W.S q).symm.trans e))▸n:(D2.tab c).isTab=false)
 have fT {b:Addr} {o:Obj} (f:W.F b o):b≠F4:=fun q=>I.nof hT o (q▸f)
 have cT:c'≠F4:=fun q=>(I.sh _ _ hT).elim fun o x=>nn (hn.symm.trans ((congrArg W.s.heap.get? q).trans x.1))
 ⟨⟨fun a o f=>f.elim (fun f=>k a o (fT f) (I.fh a o f)) fun f=>by rw[f.1,f.2];exact hc,fun a o f=>f.elim (fun f=>(Dg (fT f)).trans (I.fs a o f)) fun f=>by rw[f.1];exact(Dg cT).trans (I.none hn),
  fun b d e=>if q:b=F4 then⟨_,(congrArg h.get? q).trans ht,Ab ((if_pos q).symm.trans e)▸rfl⟩ else(I.sh b d ((if_neg q).symm.trans e)).imp fun o x=>⟨k b o q x.1,x.2⟩,fun a o f=>.inl (I.old a o f),
  fun i mo q=>(I.sto i mo q).imp fun ab x=>x.imp fun d x=>⟨x.1,(Dg (nT x.2.1 x.2.2.con.2)).trans x.2.1,x.2.2.up B9.le_add⟩,I.len,I.inj,⟨some c',Dh (S:=W.S) (a:=F4),fun x e=>Ab e▸hq⟩⟩,
  ⟨fun Z Z f=>.inl f,⟨[],(Aj _).symm⟩,fun a d e n=>⟨d,(Dg fun q=>n (Ab (hT.symm.trans ((congrArg W.S q).symm.trans e))▸rfl)).trans e,rfl⟩,fun a d e n Z=>(Dg fun q=>n (Ab (hT.symm.trans ((congrArg W.S q).symm.trans e))▸rfl)).trans e,fun Z Z=>rfl⟩⟩
end
section
variable {K:Kx}
theorem gN (hK:Ff K) (B:Bs K.G) (hdp:K.dp=false) (k:Nat):SE K (.lam k):=fun {e W ρ Q E} ht S H=>Xh ht fun args body sc p e1 h=>by
 have h1:=b2 h
 have h2:=b2 h1.1
 have h3:=b2 h2.1
 have h4:=b2 h3.1
 have hk:K.env.scope.names.lookup C1=some .cell:=beq_iff_eq.mp h1.2
 have H:Br K.G [] W Cj Q E (((ρ[k]?).elim B1.no fun r=>(Hi r).elim B1.no fun d=>B1.ok (RV.v (.clo d)) W.σ).bind fun a σ=>.ok a σ):=by
  rw[Hk];exact H
 refine Br.sel H fun r hr H1=>Br.sel H1 fun d hd H2=>?_
 obtain rfl:=Hj hd
 obtain⟨m,hm,hv⟩:=S.val
 obtain⟨v,⟨tk,rfl⟩,q2⟩:=hv k C1 _ (Pz h2.2) hr (fun q=>nomatch q)
 obtain⟨_,cc,q3,q4⟩:=q2.resolve_left fun q=>nomatch (show some NameKind.cell=some .local from hk.symm.trans q.1)
 have hcell:Mm W.F cc (.int d tk):=q4.resolve_left fun q=>q.2.elim (fun e=>nomatch hdp.symm.trans e) fun e=>e rfl
 subst e1
 refine Wv h4.1 fun pp Z Z Z Z Z Z Z ea eb hsn hsk hsg hsc=>?_
 have hl:=h4.1
 obtain⟨hcode,hqual⟩:=hK.glob.2 hk
 have hcl:closureFor sc K.env=pure [(C1,cc)]:=by
  rw[Hz (fun x hx=>?_),hsn]
  ·
   show pure (Option.elim (K.env.cells.lookup C1) ([]:List (Str×Addr)) fun c=>(C1,c)::[])=(pure [(C1,cc)]:Sem _)
   rw[q3]
   rfl
  ·
   rw[hsn] at hx
   rcases Ag.mp hx with e | hx
   · cases e
   ·
    rcases Ag.mp hx with e | hx
    · cases e;exact Ba.mpr ⟨_,q3⟩
    · cases Ae.mp hx
 obtain⟨CH,mg,hmg,bm,ob,b1,b2,b3,b4,b5,b6,b7,b8⟩:=B.lam
 have hmg':=hmg.keeps S.inv.stays
 have CH':=CH.keeps S.inv.stays
 have hba:W.s.heap.BuiltinsAt mg F4:=⟨bm,ob,b1,b2,b3,b4,S.inv.stays _ _ b5,b6,b7,b8⟩
 have hlq:K.env.qual++Aa "<lambda>"=Rp:=by rw[hqual];decide+kernel
 obtain⟨tc,hT,htc⟩:=S.inv.tab
 obtain⟨oT,hoT,hTo⟩:=S.inv.sh _ _ hT
 have fin {W2:Wd} {h':Heap} {c':Addr} {ctv:Bq} {t':Nat} (g:Go K.G [] W W2) (e:W2.s.heap=h') (es:W2.σ=W.σ) (hq:Km W2.F c' Rp):Q (.ref h'.objs.size) {W2.s with heap:=h'.push (kla_obj "<lambda>" Rp args body sc [(C1,cc)] ((mg "__name__").getD .none) c' ctv),toks:=t'}:=by
  subst e
  exact H2 _ (W2.say W2.s.heap.objs.size _ (W2.s.heap.push (kla_obj "<lambda>" Rp args body sc [(C1,cc)] ((mg "__name__").getD .none) c' ctv)) t') es (g.trans (Go.say g.inv B4 (Bp _ rfl) g.inv.top))
   ⟨⟨_,_,cc,tk,args,body,sc,(mg "__name__").getD .none,c',ctv⟩,⟨rfl,.inr ⟨rfl,rfl⟩,rfl,rfl,hl,(hcell.up g.le.F).up B9.le_add,hq.up B9.le_add⟩⟩
 subst ea
 refine kla_eval rfl ?_
 rw[hlq]
 cases tc with
 | none=>
  obtain rfl:oT=tabObj #[]:=hTo
  refine KH hcl hK.glob.1 hmg' hcode CH' hoT trivial rfl (by decide) hba fun c' ctv h' tk' hx hge hlt hrec hcc htb=>?_
  obtain⟨c2,oc2,vs2,t2,e2,g1,g2,g3⟩:=hrec
  cases e2
  obtain⟨oc3,g4,g5⟩:=hcc
  rw[g1] at g4;cases g4
  rw[show p.line=174 from of_decide_eq_true (Mine.b2 h3.1).2] at htb
  rw[show p.col=36 from of_decide_eq_true h3.2] at htb
  exact fin (W2:=W.code c' oc2 h' W.s.toks) (Go.code (t:=W.s.toks) S.inv hT (fun b o n e=>hx b o n e) g1 (Heap.get?_none_of_le hge) htb ⟨oc2,vs2,t2,.inr ⟨rfl,rfl⟩,g5,g2,g3⟩) rfl rfl ⟨oc2,vs2,t2,.inr ⟨rfl,rfl⟩,g5,g2,g3⟩
 | some c'=>
  obtain rfl:oT=tabObj #[rawInt 174,rawInt 36,.ref c']:=hTo
  have hf:codeAmong p #[rawInt 174,rawInt 36,.ref c'].toList=some (.ref c'):=by
   show(if(174:Int)==p.line&&(36:Int)==p.col then some (Bq.ref c') else _)=_
   rw[show p.line=174 from of_decide_eq_true (Mine.b2 h3.1).2,show p.col=36 from of_decide_eq_true h3.2];rfl
  refine kla_makeFunctionHit hcl hK.glob.1 hmg' hcode CH' hoT trivial hf hba fun ctv h' tk' hk' hsz=>?_
  have g:Go K.G [] W (W.see h' W.s.toks):=Go.see S.inv hk'
  exact fin (W2:=W.see h' W.s.toks) g rfl rfl (htc c' rfl)
end
theorem X2 {P:Prop} {k:Str} {ks:List Str} {xs:List (Option Expr)} {vs:List Expr} (h:jU (k::ks) xs vs=true)
  (z:∀ k1 p1 k2 p2 xs' vs',xs=some (.Constant (.str k) k1 p1)::xs'→vs= .Constant .none k2 p2::vs'→jU ks xs' vs'=true→P):P:=by
 cases xs with
 | nil=>exact ff h
 | cons x xs=>cases x with
  | none=>exact ff h
  | some e=>cases vs with
   | nil=>exact ff h
   | cons v vs=>exact Ew (b2 (b2 h).1).1 fun c k1 p1 e1 h1=>Sa h1 fun x e2 h2=>Ew (b2 (b2 h).1).2 fun d k2 p2 e3 h3=>P9 h3 fun e4 Z=>z k1 p1 k2 p2 xs vs (by rw[e1,e2,of_decide_eq_true h2]) (by rw[e3,e4]) (b2 h).2
theorem GO {ks:List Str}:∀ {xs:List (Option Expr)} {vs:List Expr},jU ks xs vs=true→xs.all (·.isSome)=true∧xs.length=ks.length∧vs.length=ks.length:=by
 induction ks with
 | nil=>exact fun h=>Cc (b2 h).1▸Cc (b2 h).2▸⟨rfl,rfl,rfl⟩
 | cons k ks ih=>exact fun h=>X2 h fun Z Z Z Z xs' vs' e f h'=>e▸f▸have i:=ih h';⟨i.1,congrArg Nat.succ i.2.1,congrArg Nat.succ i.2.2⟩
noncomputable abbrev TQ (ks:List Str):List (Str×Bq):=ks.map fun k=>(k,.none)
theorem Yo {w:World} {env:Env} {pos:Pos} {A:Bm} {E:Bq→Bk→Prop} {ks:List Str}:∀ {xs:List (Option Expr)} {vs:List Expr} {s:Bk} {Q:List (Bq×Bq)→Bk→Prop},jU ks xs vs=true→
  (∀ r t,Carries (strKind prog w) r (TQ ks)→Q r {s with toks:=t})→wpAny (model prog w) A (evalPairs (pairTrees xs vs env pos)) Q E s:=by
 induction ks with
 | nil=>exact fun {xs vs s Q} h q=>Cc (b2 h).1▸Cc (b2 h).2▸pairTrees_nil_walk (q [] s.toks trivial)
 | cons k ks ih=>exact fun {xs vs s Q} h q=>X2 h fun Z Z Z Z xs' vs' e f h'=>e▸f▸pairTrees_cons_walk (wpAny_Constant_str (wpAny_Constant_none (ih h' fun r t hr=>q _ t ⟨strKind_is prog w _ _,rfl,hr⟩)))
theorem R3 (P:B9):∀ ks:List Str,Ni P (ks.map fun k=>(k,.none)) (TQ ks)
 | []=>rfl
 | k::l=>⟨_,_,rfl,rfl,R3 P l⟩
theorem FI (ks:List Str):(TQ ks).map (·.1)=ks:=(List.map_map ..).trans (List.map_id' ks)
theorem Y9 {h h1:Heap} {o:Obj} (k:Heap.SameBut h.objs.size (h.push o) h1):Hn h h1:=fun b x e=>(k.2 b fun q=>nn (Heap.get?_none_of_le (Au q.symm)▸e)).trans (Bo _ e)
section
variable {K:Kx}
theorem NS {ks:List Str}:SE K (.mdict ks):=fun {e W ρ Q E} ht S H=>Mv ht fun xs vs p e h=>
 have h1:=b2 (b2 (b2 h).1).1
 have hs:=GO h1.1
 e▸wpAny_Dict_walk (knd:=strKind prog K.G.w) hs.1 (hs.2.1.trans hs.2.2.symm) (fun e=>absurd (of_decide_eq_true (b2 (b2 h).1).2) (by rw[←hs.2.1,e];decide)) (hs.2.1▸of_decide_eq_true (b2 h).2) (Yo h1.1 fun r t hr=>⟨_,hr,.new _,fun h' hd hk=>by
  rw[merged_nil_of_nodup _ ((congrArg List.Nodup (FI ks)).mpr (of_decide_eq_true h1.2))] at hd
  exact(Heap.dictOf_iff.mp hd).elim fun o ho=>Br.new (c:=.dic (TQ ks)) S.inv (H:Br K.G [] W Cj Q E (.ok (.loc W.σ.length) (W.σ++[_]))) (Y9 hk) Ea ho.1 ho.2 ⟨_,rfl,rfl,R3 _ ks⟩⟩)
end
noncomputable def MN (e:Expr):Prop:=Ed e=true∧∀ env (whole:Sem Bq),isTrue e env whole=(do let v ←whole;standAt e.pos;holding [v] (truthy v))
structure Kv (K:Kx) (m:ME):Prop where
 se:SE K m
 st:ST K m
 ca:CA K m
structure PM (K:Kx) (F:Frag):Prop where
 bs:Bs K.G
 k:Kf K.G F
 fk:Od F
 co:F3 K.G K.C K.N
 dp:K.dp=false
 n:∃ N,K.N=N+7
 ok:Ff K
section
variable {K:Kx} {F:Frag} {m:ME}
theorem L9 (h:∀ {e ns sc},El ns sc m e=true→Ed e=true):CA K m:=fun Z ht hu Z Z=>Fp hu fun a g s p q Z=>ff (q▸h ht:Ed (.ListComp a g s p)=true)
theorem Kv.plain (h:SE K m) (hp:∀ {e ns sc},El ns sc m e=true→MN e):Kv K m:=⟨h,ST.of h fun ht w=>(hp ht).2 _ w,L9 fun ht=>(hp ht).1⟩
theorem Kv.comp (hK:Ff K) (h:CW K m) (hp:∀ {e ns sc},El ns sc m e=true→∀ env (whole:Sem Bq),isTrue e env whole=(do let v ←whole;standAt e.pos;holding [v] (truthy v))):Kv K m:=⟨YK h,ST.of (YK h) fun ht w=>hp ht _ w,kW hK h⟩
theorem U0:∀ {l:List ME},(∀ m∈l,Kv K m)→QE K l
 | [],_=>Jq
 | m::l,h=>Er (h m (.head _)).se (U0 fun x hx=>h x (.tail _ hx))
theorem Vc:∀ {l:List ME},(∀ m∈l,Kv K m)→ZL K l
 | [],_=>VT
 | m::l,h=>OV (h m (.head _)).se (Vc fun x hx=>h x (.tail _ hx))
theorem OO:∀ {l:List ME},(∀ m∈l,Kv K m)→PP K .And (EU K.C) l
 | [],_=>fun Z Z H=>(show False from H).elim
 | [m],h=>VO (h m (.head _)).st
 | m::n::l,h=>ON (h m (.head _)).st (OO fun x hx=>h x (.tail _ hx))
theorem OT:∀ {l:List ME},(∀ m∈l,Kv K m)→PP K .Or (EV K.C) l
 | [],_=>fun Z Z H=>(show False from H).elim
 | [m],h=>VQ (h m (.head _)).st
 | m::n::l,h=>OQ (h m (.head _)).st (OT fun x hx=>h x (.tail _ hx))
theorem NV:∀ {l:List ME},(∀ m∈l,Kv K m)→PO K .And (EU K.C) l
 | [],_=>fun Z Z H=>(show False from H).elim
 | [m],h=>VI (h m (.head _)).se
 | m::n::l,h=>NU (h m (.head _)).se (NV fun x hx=>h x (.tail _ hx))
theorem NY:∀ {l:List ME},(∀ m∈l,Kv K m)→PO K .Or (EV K.C) l
 | [],_=>fun Z Z H=>(show False from H).elim
 | [m],h=>VJ (h m (.head _)).se
 | m::n::l,h=>NW (h m (.head _)).se (NY fun x hx=>h x (.tail _ hx))
theorem YO:∀ {o:Option ME},(∀ m,o=some m→Kv K m)→SO K o
 | none,_=>VK
 | some m,h=>VL (h m rfl).se
theorem PM.ops (P:PM K F):AS K:=Zz P.bs P.k P.ok P.co
theorem PM.comp (P:PM K F) {s:Scope} {C:Addr} {ns:List Str} (h:Ff (K.comp s C ns)):PM (K.comp s C ns) F:=⟨P.bs,P.k,P.fk,P.co,P.dp,P.n,h⟩
end
section
variable {F:Frag}
theorem pI {e:Expr} (h:Ed e=true) (k:∀ env (whole:Sem Bq),isTrue e env whole=(do let v ←whole;standAt e.pos;holding [v] (truthy v))):MN e:=⟨h,k⟩
mutual
theorem Dc:∀(m:ME) (K:Kx),PM K F→Kv K m
 | .const c,K,P=>.plain (Lp c) fun h=>Ew h fun Z Z Z q Z=>q▸⟨rfl,fun Z Z=>rfl⟩
 | .var k,K,P=>.plain (Ih P.ok k) fun h=>B5 h fun Z Z q Z=>q▸⟨rfl,fun Z Z=>rfl⟩
 | .glob x c,K,P=>.plain (Jp P.ok P.bs x c) fun h=>B5 h fun Z Z q Z=>q▸⟨rfl,fun Z Z=>rfl⟩
 | .attr o n,K,P=>.plain (Lo P.ops (Dc o K P).se) fun h=>D7 h fun Z Z Z q Z=>q▸⟨rfl,fun Z Z=>rfl⟩
 | .call f args,K,P=>.plain (N9 P.ops P.ok P.co (Dc f K P).se (U0 (Iv args K P))) fun h=>Ee h fun Z Z Z Z q Z=>q▸⟨rfl,fun Z Z=>rfl⟩
 | .meth o n args,K,P=>.plain (VF P.ops (Dc o K P).se (U0 (Iv args K P))) fun h=>Ee h fun Z Z Z Z q Z=>q▸⟨rfl,fun Z Z=>rfl⟩
 | .bin op l r,K,P=>.plain (Z9 P.ops (Dc l K P).se (Dc r K P).se) fun h=>Lf h fun Z Z Z Z q Z=>q▸⟨rfl,fun Z Z=>rfl⟩
 | .cmp op l r,K,P=>⟨gK P.ops (Dc l K P).se (Dc r K P).se,hV P.ops (Dc l K P).se (Dc r K P).se,L9 (m:=.cmp op l r) fun h=>Qa h fun Z Z Z Z q Z=>q▸rfl⟩
 | .and l,K,P=>⟨gJ (NV (Iv l K P)),hU (OO (Iv l K P)),L9 (m:=.and l) fun h=>Gb h fun Z Z Z q Z=>q▸rfl⟩
 | .or l,K,P=>⟨oB (NY (Iv l K P)),oJ (OT (Iv l K P)),L9 (m:=.or l) fun h=>Gb h fun Z Z Z q Z=>q▸rfl⟩
 | .not e,K,P=>⟨gQ (Dc e K P).se,OL (Dc e K P).st,L9 (m:=.not e) fun h=>Li h fun Z Z Z q Z=>q▸rfl⟩
 | .neg e,K,P=>.plain (gP (Dc e K P).se) fun h=>Li h fun o Z Z q h=>q▸(of_decide_eq_true (b2 h).1:o= .USub)▸⟨rfl,fun Z Z=>rfl⟩
 | .ite c a b,K,P=>⟨gM (Dc c K P).st (Dc a K P).se (Dc b K P).se,hY (Dc c K P).st (Dc a K P).st (Dc b K P).st,L9 (m:=.ite c a b) fun h=>Uh h fun Z Z Z Z q Z=>q▸rfl⟩
 | .tup l,K,P=>.plain (gR (Vc (Iv l K P))) fun h=>Fa h fun Z Z Z q Z=>q▸⟨rfl,fun Z Z=>rfl⟩
 | .lis l,K,P=>.plain (gO (Vc (Iv l K P))) fun h=>Gc h fun Z Z q Z=>q▸⟨rfl,fun Z Z=>rfl⟩
 | .mlis l,K,P=>.plain (VG (Vc (Iv l K P))) fun h=>Gc h fun Z Z q Z=>q▸⟨rfl,fun Z Z=>rfl⟩
 | .mpen a b,K,P=>.plain (VH (Dc a K P).se (Dc b K P).se) fun h=>Gc h fun Z Z q Z=>q▸⟨rfl,fun Z Z=>rfl⟩
 | .mdict ks,K,P=>.plain NS fun h=>Mv h fun Z Z Z q Z=>q▸⟨rfl,fun Z Z=>rfl⟩
 | .sub o i,K,P=>.plain (NT P.ops (Dc o K P).se (Dc i K P).se) fun h=>Jc h fun Z Z Z q Z=>q▸⟨rfl,fun Z Z=>rfl⟩
 | .cut o lo hi,K,P=>.plain (gL P.ops (Dc o K P).se (YO (ZS lo K P)) (YO (ZS hi K P))) fun h=>Jc h fun Z Z Z q Z=>q▸⟨rfl,fun Z Z=>rfl⟩
 | .compR n elt cap,K,P=>.comp P.ok (IJ P.ok P.bs (Dc n K P).se fun Z Z Z kok=>(Dc elt _ (P.comp kok)).se) fun h=>Fp h fun Z Z Z Z q Z=>q▸fun Z Z=>rfl
 | .compL e cond elt cap,K,P=>.comp P.ok (II P.ok (Dc e K P).se (fun Z Z Z kok=>(Dc elt _ (P.comp kok)).se) fun m h Z Z Z kok=>(ZS cond _ (P.comp kok) m h).st) fun h=>Fp h fun Z Z Z Z q Z=>q▸fun Z Z=>rfl
 | .compE e elt,K,P=>.comp P.ok (IH P.ok P.bs (Dc e K P).se fun Z Z Z kok=>(Dc elt _ (P.comp kok)).se) fun h=>Fp h fun Z Z Z Z q Z=>q▸fun Z Z=>rfl
 | .lam k,K,P=>.plain (gN P.ok P.bs P.dp k) fun h=>Xh h fun Z Z Z Z q Z=>q▸⟨rfl,fun Z Z=>rfl⟩
theorem Iv:∀(l:List ME) (K:Kx),PM K F→∀ m,m∈l→Kv K m
 | [],_,_,_,h=>nomatch h
 | e::es,K,P,m,h=>(Ag.mp h).elim (fun q=>q▸Dc e K P) fun q=>Iv es K P m q
theorem ZS:∀(o:Option ME) (K:Kx),PM K F→∀ m,o=some m→Kv K m
 | none,_,_,_,h=>nomatch h
 | some e,K,P,m,h=>Ab h▸Dc e K P
end
theorem DF {K:Kx} (k:Kf K.G F):ZI K:=⟨fun I ho hi ha h q=>OA I ho hi ha h q,fun I hr hl hv q=>NZ k I hr hl hv q⟩
section
variable {K:Kx} {outer:List Env} (P:PM K F) (ho:K.fr=K.env::outer)
include P ho
mutual
theorem qX:∀ m:MS,SS K m
 | .assign p e=>GG P.ok (Dc e K P).se (Dc e K P).ca
 | .assignT ks es=>AF P.ok (U0 (Iv es K P))
 | .setAt o e=>OI (DF P.k) (Dc o K P).se (Dc e K P).se
 | .setItem o i e=>AH (DF P.k) (Dc o K P).se (Dc i K P).se (Dc e K P).se
 | .expr e=>VM P.ok (Dc e K P).se
 | .ite c a b=>OH (Dc c K P).st (M7 a) (M7 b)
 | .while c b=>OJ P.ok ho (Dc c K P).st (M7 b)
 | .forIn p e b=>gZ P.ok ho (Dc e K P).se (M7 b)
 | .forR k none hi b=>OF P.ok P.bs ho (Dc hi K P).se (M7 b)
 | .forR k (some lo) hi b=>OG P.ok P.bs ho (Dc lo K P).se (Dc hi K P).se (M7 b)
 | .ret e=>hJ (Dc e K P).se
 | .fault o e=>P.n.elim fun N h=>OE P.k P.fk P.bs P.ok h (Dc o K P).se (Dc e K P).se
 | .brk=>gY
 | .dead=>DS
theorem M7:∀ l:List MS,EK K l
 | []=>U7
 | s::ss=>Xu (qX s) (M7 ss)
end
end
end
noncomputable abbrev BC:ME:=.call (.glob (Aa "read_sum") (.val (.ref Hg))) [.var 0,.bin .Add (.var 1) (.const (.int 1))]
theorem aO {C:Call} {x:RV} {d:Int} {σ:Bu} (hx:x≠ .un):C0 C BC [x,.v (.int d)] σ=C (.val (.ref Hg)) [x,.v (.int (d+1))] σ:=by
 cases x with
 | un=>exact(hx rfl).elim
 | _=>rfl
theorem ZZ {fp yp dp q2 q3 q4:Pos} {q1:Nat}:∀ {sc:Scope},sc.names=[(Dw,NameKind.local),(C1,NameKind.free),(Aa "read_sum",NameKind.globalImplicit)]→
  El [Dw,C1] sc BC (.Call (.Name (Aa "read_sum") fp) [.Name Dw yp,.BinOp (.Name C1 dp) .Add (.Constant (.int 1) q1 q2) q3] [] q4)=true
 | ⟨_,_,_,_,_⟩,h=>by
  subst h
  kernel_rfl
theorem Br.leave {G:Gx} {m:List Addr} {W:Wd} {α β:Type} {Rel:Wd→α→β→Prop} {Q:β→Bk→Prop} {E E':Bq→Bk→Prop} {A:Bm} {env:Env} {outer:List Env} {M:Model} (hA:A.frames=some (env::outer)) (hf:Eu (env::outer) W):∀ {o:B1 α},Br G m W Rel Q E o→Br G m W Rel Q (fun e s=>wpAny M A (leaving env e) (fun Z s'=>E e s') E' s) o
 | .ok _ _,H=>H
 | .exc n _,H=>fun e W' q g r=>P1 (m:=m) hA g.inv (hf.le g.le) r fun W2 e2 g2 r2=>H e W2 (e2.trans q) (g.trans g2) r2.fly
 | .no,H=>H
section
variable {G:Gx} {A:Bm} {fr:List Env} {W:Wd} {F:Frag} {N:Nat} {C':Call} {Q E:Bq→Bk→Prop}
theorem HZ {x:RV} {v fv:Bq} {d:Int} (k:Kf G F) (B:Bs G) (CO:F3 G C' N) (hC:Db (N+1) A fr) (hf:Eu fr W) (I:B6 G W) (hx:Cj W x v) (hc:M9 W.F fv d) (H:Br G [] W Cj Q E (C' (.val (.ref Hg)) [x,.v (.int (d+1))] W.σ)):
  codeAny (model prog G.w) A (.call fv ⟨[v],[]⟩) (Vm Q E) W.s:=by
 obtain⟨y,p⟩:=hc
 refine Wv p.l fun p0 fp yp dp q1 q2 q3 q4 ea eb hnm hk hg hco=>?_
 obtain⟨o',vs,t',hp,_,hd',hv'⟩:=p.q
 have hcd:W.s.heap.CodeRec (.ref y.c') Rp:=⟨y.c',o',vs,t',rfl,I.fh _ _ hp,hd',hv'⟩
 have hd:=p.f
 have hl:=p.l
 rw[ea,eb] at hd
 rw[p.v]
 generalize hfd:kla_fn "<lambda>" Rp (mI p0) _ y.sc [("depth",y.c)] y.pm (.ref y.c') y.ct=fd at hd
 refine kla_callFunE hC.low (I.fh _ _ p.o) hd (by rw[←hfd];exact hco) (by rw[←hfd];exact hg) (by rw[←hfd]) (by rw[←hfd];exact hcd) ?_
 refine AV (fd:=fd) (xs:=[Dw]) (ds:=[]) (by rw[←hfd]) (by rw[←hfd]) (by rw[←hfd]) (by rw[←hfd]) (by rw[←hfd];rfl) (List.nodup_cons.mpr ⟨List.not_mem_nil,List.nodup_nil⟩) (.inl (by rw[←hfd];exact⟨rfl,rfl⟩)) (Av _) (Av _) (Nat.zero_le _) ?_
 have hcell:∀ z∈fd.scope.names,z.2≠ .cell:=by
  rw[←hfd];show ∀ z∈y.sc.names,_
  rw[hnm];decide+kernel
 refine wpAny_newFunctionEnv hcell (fun z hz=>?_) (fun h₀ hns hsb=>?_) (by rw[←hfd];exact hk)
 ·
  obtain rfl:=Ae.mp hz
  rw[←hfd];show y.sc.names.lookup _=_
  rw[hnm];rfl
 have nL:W.s.heap.get? W.s.heap.objs.size=none:=Ea
 obtain⟨L,hL⟩:∃ L,L=W.s.heap.objs.size:=⟨_,rfl⟩
 rw[←hL] at hns hsb nL⊢
 obtain⟨oL,es,ep,hoL,hdL⟩:=hns
 have g1:Go G [] W (W.lay L (.ns _) h₀ _):=Ga (t:=W.s.toks+1) (.refl I) nL (I.none nL) (fun b o n e=>(hsb.2 b n).trans (Bo _ e)) hoL ⟨es,ep,hdL⟩
 obtain⟨env,henv⟩:∃ env,env=newEnv fd.scope L fd.globals fd.closure (fd.qualname++".<locals>.") (some y.a) fd.code none fd.builtins:=⟨_,rfl⟩
 rw[←henv]
 have esc:env.scope=y.sc:=by rw[henv,←hfd];rfl
 have eloc:env.locals=L:=by rw[henv];rfl
 have ecel:env.cells=[(C1,y.c)]:=by rw[henv,←hfd];rfl
 obtain⟨oc,hpc,hcc⟩:=p.i
 have cL:y.c≠L:=fun q=>nn (nL.symm.trans (q▸I.fh _ _ hpc))
 have kind {z:Str} {kd:NameKind} (h:([(Dw,NameKind.local),(C1,NameKind.free),(Aa "read_sum",NameKind.globalImplicit)]:List (Str×NameKind)).lookup z=some kd):env.kindOf z=some kd:=by unfold Env.kindOf;rw[esc,hnm];exact h
 let K:Kx:=⟨G,C',N,A.deeper env,env::fr,env,[Dw,C1],[],[L],false⟩
 have hK:Ff K:=⟨hC.deeper,⟨by show env.globals=_;rw[henv,←hfd];rfl,fun q=>absurd ((kind (z:=C1) (kd:=.free) rfl).symm.trans q) (by decide)⟩,by show env.builtins=_;rw[henv,←hfd];rfl,by show env.scope.kind=_;rw[esc];exact hk,(show[Dw,C1].Nodup from by decide+kernel),eloc▸ .head _,
  fun z Z c hz Z hm=>(cL (by
   have:env.cells.lookup z=some c:=hz
   rw[ecel] at this
   have h2:=mem_of_lookup this
   rw[←Ae.mp hm,←(Prod.mk.inj (Ae.mp h2)).2])).elim,fun Z h=>nomatch h⟩
 have sL:(W.lay L (.ns fun x=>([Dw].zip ([v]++[])).reverse.lookup x) h₀ (W.s.toks+1)).S env.locals=some (.ns fun x=>([Dw].zip ([v]++[])).reverse.lookup x):=eloc▸Dh
 have hxu:x≠ .un:=fun e=>(e▸hx:Cj W .un v)
 have S:At K (W.lay L (.ns fun x=>([Dw].zip ([v]++[])).reverse.lookup x) h₀ (W.s.toks+1)) [x,.v (.int d)]:=
  ⟨g1.inv,fun e he=>(Ag.mp he).elim (fun q=>q▸⟨by rw[esc,hk];decide,L,_,by rw[henv];rfl,Dh⟩) (hf.le g1.le e),rfl,⟨_,sL,fun kk z r hz hr hu=>match kk,hz,hr with
   | 0,hz,hr=>Ab hz▸Ab hr▸⟨v,g1.v hx,.inl ⟨kind rfl,rfl⟩⟩
   | 1,hz,hr=>Ab hz▸Ab hr▸⟨.int d y.t,⟨_,rfl⟩,.inr ⟨.inr (kind rfl),y.c,by show env.cells.lookup _=_;rw[ecel];rfl,.inr ⟨oc,hpc,hcc⟩⟩⟩⟩,(fun Z h=>nomatch h),fun a ha=>⟨.ns fun x=>([Dw].zip ([v]++[])).reverse.lookup x,(Ae.mp ha:a=L).symm▸Dh,(fun q=>nomatch q),fun q=>nomatch q⟩⟩
 refine⟨B.nolimit.keeps g1.inv.stays,kla_codeExpr ?_⟩
 have O:=Zz (K:=K) B k hK CO
 have htr:El K.ns K.env.scope BC (.Call (.Name (Aa "read_sum") fp) [.Name Dw yp,.BinOp (.Name C1 dp) .Add (.Constant (.int 1) q1 q2) q3] [] q4)=true:=by
  show El [Dw,C1] env.scope BC _=true
  rw[esc]
  exact ZZ hnm
 exact N9 O hK CO (Jp hK B _ _) (Er (Ih hK 0) (Er (Z9 O (Ih hK 1) (Lp _)) Jq)) htr S (Br.leave (A:=A.deeper env) hK.call.frames S.frs (aO hxu▸Br.go g1 H))
end
section
variable {prog:Program} {w:World} {A:Bm} {E:Bq→Bk→Prop} {s:Bk} {K:Frag} {x C:Addr} {ox:Obj} {od:Option Obj} {name:Str} {expr:Bool} {Q:Bq→Bk→Prop}
theorem KZ {M:Model} {h:Heap} (X:K.In h) {C:Addr} {cd:ClassData} {base:Bq} (hc:clsIn K C=some cd) (hm:cd.mro.isEmpty=false) (hb:cd.mro.contains base=true):Looks M h (isSubtype (.ref C) base) true:=
 looks_mroIn X (by unfold mroIn;rw[hc,Option.bind_some,hm,hb];rfl)
theorem RL {v:Bq} {cd:ClassData} (X:K.In s.heap) (I:InstAt s.heap x ox C od) (hc:clsIn K C=some cd) (hm:cd.mro.isEmpty=false) (hb:cd.mro.contains (.type "BaseException")=true) (hga:findIn K (.ref C) "__getattribute__"=some (some (.builtin "BaseException.__getattribute__")))
  (hgk:findIn K (.ref C) "__getattr__"=some none) (hf:findObj K C od name=some (.value v)) (hh:handedIn v=true) (h:Q v {s with toks:=s.toks+1}):wpAny (model prog w) A (getAttr (.ref x) name expr) Q E s:=by
 obtain⟨hp,g,d,t,os⟩:=s
 dsimp only at X I
 have L0:=I.type (M:=model prog w)
 have L1:=looks_findIn (M:=model prog w) X hga
 have L2:=looks_findIn (M:=model prog w) X hgk
 have L3:=looks_find (M:=model prog w) X I hf
 have L4:Looks (model prog w) hp (isInstance (.ref x) (.type "BaseException")) true:=by
  unfold isInstance
  exact L0.andThen (KZ X hc hm hb)
 unfold getAttr getAttrBy
 refine Bh (wpAny_mkText (Bj (Bh (L0.at (Bh (L1.at ?_))))))
 dsimp only
 have hx2:(Bq.builtin "BaseException.__getattribute__"==Bq.builtin "object.__getattribute__")=false:=by decide+kernel
 have hx0:(expr&&onTheHeap (Bq.builtin "BaseException.__getattribute__"))=false:=by cases expr<;>rfl
 rw[hx2,Bool.and_false,if_neg (by decide)]
 unfold getAttrByItsOwn hookBefore
 rw[if_pos (show onTheHeap (.ref C)=true from rfl)]
 refine Bh (L2.at ?_)
 unfold callGetattribute
 rw[hx0,if_neg (by decide)]
 unfold boundAndCalled
 rw[F.attr_Exception.ga.bind]
 refine Bh (wpAny_attempt (Bj (Bh (Bi ?_))))
 refine wpAny_call (codeAny_call_builtin F.attr_Exception.ga.plain F.entry_bexc_ga ?_)
 have hk:builtinKind "BaseException.__getattribute__"=some .slot:=by decide+kernel
 have hsplit:splitId "BaseException.__getattribute__"=some ("BaseException","__getattribute__"):=by decide+kernel
 have ha:=F.args_bexc_ga (.ref x) (.str name t)
 simp only [checkBuiltinCall,hk,hsplit]
 refine Bh (L4.at ?_)
 have tail:wpAny (model prog w) A.in1 (Builtin.«object.__getattribute__» ⟨[.ref x,.str name t],[]⟩) (fun fin s'=>match fin with | .done f=>(match f with | .ret v=>wpAny (model prog w) A (handedOut v) Q E s' | _=>False) | .again c'=>False) (fun e s'=>False) ⟨hp,g,d,t+1,os⟩:=by
  refine Bh (Bi (Bh (Bi (Bh (L0.at (Bh (L3.at ?_)))))))
  refine Bi ?_
  dsimp only
  rw[handedOut_of hh]
  exact Bi h
 generalize Builtin.«object.__getattribute__» =b at tail⊢
 repeat (first | wp_step)
 refine wpAny_mono tail (fun fin s' q=>?_) fun Z Z q=>q.elim
 rcases fin with(_ | _ | _ | _) | _<;>first | exact q | exact q.elim
end
noncomputable def Po (K:Frag):Bool:=findIn K (.ref B8) "__getattribute__"==some (some (.builtin "BaseException.__getattribute__"))&&findIn K (.ref B8) "__getattr__"==some none&&hasDictIn K B8&&C3 K B8 "at"
section
variable {G:Gx} {A2:Bm} {W:Wd} {F:Frag}
theorem aR {e:Bq} {n:Int} {y:PZ} {Q:Bq→Bk→Prop} {E:Bq→Bk→Prop} {x:Bool} (X:F.In W.s.heap) (EA:Rv F) (GR:Po F=true) (I:B6 G W) (p:Sw W n e y) (h:∀ v,VR W.F (.tup [.int n,.int 12]) v→Q v {W.s with toks:=W.s.toks+1}):wpAny (model prog G.w) A2 (getAttr e "at" x) Q E W.s:=by
 obtain⟨e1,e2,hes,k1,k2,hv⟩:=p.x
 have g1:=b2 GR;have g2:=b2 g1.1;have g3:=b2 g2.1
 obtain⟨xd,hexc⟩:=EA.obj
 have I':InstAt W.s.heap y.a {cls:=.ref B8,dict:=some y.dx,data:=.fields y.vs,slots:=y.sl} B8 (some (dictOf [e1,e2] y.k)):=⟨p.o,rfl,rfl,hes▸I.fh _ _ p.d⟩
 have hl:getL "at" [e1,e2]=some (some e2.val):=Mj (I5 k1 (by decide+kernel) (Mi k2))
 have g4:(match findIn F (.ref B8) "at" with | some a=>noGet F a | none=>false)=true:=g1.2
 cases ha:findIn F (.ref B8) "at" with
 | none=>rw[ha] at g4;exact ff g4
 | some at_=>
  rw[ha] at g4
  rw[p.e]
  refine RL X I' (by unfold clsIn;rw[hexc]) rfl (by show(Bq.ref B8::Yq).contains _=true;decide+kernel) (beq_iff_eq.mp g3.1) (beq_iff_eq.mp g3.2) (findObj_own g2.2 ha g4 hl) ?_ (h _ hv)
  obtain⟨_,⟨b,o,n2,q,_⟩,_⟩:=hv
  rw[q]
  rfl
end
section
variable {K:Kx} {W:Wd} {F:Frag} {A2:Bm}
theorem Rq {ρ:List RV} {e:Bq} {n i:Int} {o2 ix:Str} {op2 ap ip q2 q3 q5 tp cp rp:Pos} {q1 q4 x1:Nat} {y:PZ} {Q:PySem.Flow→Bk→Prop} {E:Bq→Bk→Prop} (k:Kf K.G F) (EA:Rv F) (GR:Po F=true) (B:Bs K.G) (hK:Ff K) (hu:A2.units+200 < cLine) (S:At K W ρ)
  (h1:ρ[1]?=some (.v (.int i))) (h2:ρ[2]?=some (.v (.val e))) (t1:Hm K.ns K.env.scope 2 o2=true) (t2:Hm K.ns K.env.scope 1 ix=true) (p:Sw W n e y) (h:∀ W',W'.σ=W.σ→Go K.G [] W W'→Q (.ret (.bool (decide (n=i+1)))) W'.s):
  wpAny (model prog K.G.w) A2 (exec (.Return (some (.Compare (.Attribute (.Name o2 op2) "at" ap) [.Eq] [.Tuple [.BinOp (.Name ix ip) .Add (.Constant (.int 1) q1 q2) q3,.Constant (.int 12) q4 q5] x1 tp] cp)) rp) K.env) Q E W.s:=by
 refine wpAny_Return_some (wpAny_Compare1 ?_ rfl)
 rw[arm_eval_Attribute,Gg (show L7 (.Name o2 op2)=true from rfl)]
 refine Gl (A:=A2) (M:=model prog K.G.w) hK S t1 h2 (fun q=>nomatch q) fun ev hev hE=>?_
 obtain rfl:=(show ev=e from hev)
 have g0:Go K.G [] W (W.see W.s.heap (W.s.toks+1)):=Go.tok S.inv
 refine Bh (hE (Bh (wpAny_standAt (Bh (Bj (aR (k.at_ S.inv) EA GR S.inv p fun v hv=>Bh (wpAny_letTemporaryGo (Bi (wpAny_Tuple (wpAny_items_cons (wpAny_BinOp ?_) rfl))))))))))
 refine Gl (A:=A2) (M:=model prog K.G.w) (W:=W.see W.s.heap (W.s.toks+1)) hK (S.go g0) t2 h1 (fun q=>nomatch q) fun iv hiv hI=>hI (wpAny_Constant_int ?_)
 have g1:Go K.G [] W (W.see W.s.heap (W.s.toks+1+1)):=Go.tok S.inv
 refine HL (W:=W.see W.s.heap (W.s.toks+1+1)) (op:=.Add) (a:=.v (.int i)) (b:=.v (.int 1)) (m:=.int (i+1)) g1.inv hiv ⟨_,rfl⟩ rfl fun r W2 e2 g2 hr=>wpAny_items_cons (wpAny_Constant_int (wpAny_items_nil ⟨by show 2≤sizeLine;decide,?_⟩)) rfl
 have g3:Go K.G [] W2 (W2.say W2.s.heap.objs.size (Vf [r,.int 12 W2.s.toks]) (W2.s.heap.push (Vf [r,.int 12 W2.s.toks])) (W2.s.toks+1)):=Go.say g2.inv B4 (Bp _ rfl) g2.inv.top
 have hc:ER W2.σ .Eq (.v (.tup [.int n,.int 12])) (.v (.tup [.int (i+1),.int 12]))=some (decide (n=i+1)):=by
  show Ze _ _=_
  show some ((decide (n=i+1)&&true)&&true)=_
  rw[Bool.and_true,Bool.and_true]
 exact IC (W:=W2.say W2.s.heap.objs.size (Vf [r,.int 12 W2.s.toks]) (W2.s.heap.push (Vf [r,.int 12 W2.s.toks])) (W2.s.toks+1)) B hu g3.inv (g3.v (g2.v (r:=.v (.tup [.int n,.int 12])) hv)) (b:=.v (.tup [.int (i+1),.int 12])) ⟨_,⟨_,_,_,rfl,.inr ⟨rfl,rfl⟩,rfl,rfl⟩,_,_,rfl,VR.up B9.le_add _ hr,_,_,rfl,⟨_,rfl⟩,rfl⟩ hc fun b W3 e3 g4 hb=>(show b=Bq.bool (decide (n=i+1)) from hb)▸h W3 (e3.trans e2) (g1.trans (g2.trans (g3.trans g4)))
end
noncomputable abbrev ED:ME:=.call (.glob (Aa "_law_read") (.val (.ref Fi))) [.call (.glob (Aa "_law_reader") (.val (.ref Fw))) [.var 0]]
noncomputable def YF (h:ExceptHandler) (f:Option Expr→Option Str→List Stmt→Pos→Bool):Bool:=match h with
 | .ExceptHandler t n b p=>f t n b p
theorem LU {P:Prop}:∀ {h:ExceptHandler} {f:Option Expr→Option Str→List Stmt→Pos→Bool},YF h f=true→(∀ t n b p,h= .ExceptHandler t n b p→f t n b p=true→P)→P
 | .ExceptHandler t n b p,_,h,k=>k t n b p rfl h
noncomputable def eqB (ns:List Str) (sc:Scope) (e:Expr):Bool:=CQ e fun l ops rs Z=>(one ops fun o=>decide (o= .Eq))&&(Ie l fun o n Z=>decide (n="at")&&Dj o fun x Z=>Hm ns sc 2 x)&&
 one rs fun t=>Lh t fun l Z Z=>two l fun a b=>(Xf a fun x o c Z=>decide (o= .Add)&&Dj x (fun x Z=>Hm ns sc 1 x)&&Gz c fun c Z Z=>Mt c fun i=>decide (i=1))&&Gz b fun c Z Z=>Mt c fun i=>decide (i=12)
noncomputable def sP (ns:List Str) (sc:Scope) (b:List Stmt):Bool:=two b fun tr rt=>(MC tr fun b hs e g Z=>nil e&&nil g&&(one b fun s=>Xg s fun c Z=>El ns sc ED c&&Ed c)&&one hs fun h=>YF h fun t n b Z=>
  (opt t fun t=>Dj t (fun Z Z=>true)&&El ns sc (.glob (Aa "GrammarFault") (.val (.ref B8))) t)&&(opt n fun n=>XW ns 2 n&&sc.names.lookup n==some .local)&&one b fun r=>Sc r fun e Z=>opt e (eqB ns sc))&&
 Sc rt fun e Z=>opt e fun e=>El ns sc (.const (.bool false)) e
noncomputable def Z5 (K:Frag):Bool:=M4 K Fj fun fd b ds=>sP (Gq fd) fd.scope b&&fd.params.args.length==2&&(Gq fd).length==3&&ds.isEmpty
theorem aP {C:Call} {t:RV} {ρ:List RV} {σ:Bu} (ht:t≠ .un):C0 C ED (t::ρ) σ=(C (.val (.ref Fw)) [t] σ).bind fun r σ=>C (.val (.ref Fi)) [r] σ:=by
 have key:∀ {o:B1 RV},((o.bind fun r σ=>B1.ok [r] σ).bind fun as σ=>C (.val (.ref Fi)) as σ)=o.bind fun r σ=>C (.val (.ref Fi)) [r] σ:=fun {o}=>by cases o<;>rfl
 cases t with
 | un=>exact(ht rfl).elim
 | _=>exact key
section
variable {G:Gx} {A:Bm} {fr:List Env} {W:Wd} {F:Frag} {N:Nat} {C':Call} {Q E:Bq→Bk→Prop}
theorem aJ {P:Prop} {ns:List Str} {sc:Scope} {e:Expr} (h:eqB ns sc e=true) (k:∀ o2 ix op2 ap ip q1 q2 q3 q4 q5 x1 tp cp,e= .Compare (.Attribute (.Name o2 op2) "at" ap) [.Eq] [.Tuple [.BinOp (.Name ix ip) .Add (.Constant (.int 1) q1 q2) q3,.Constant (.int 12) q4 q5] x1 tp] cp→Hm ns sc 2 o2=true→Hm ns sc 1 ix=true→P):P:=
 Qa h fun l ops rs cp e1 h=>Dr (b2 (b2 h).1).1 fun o e2 h2=>D7 (b2 (b2 h).1).2 fun x n ap e3 h3=>B5 (b2 h3).2 fun o2 op2 e4 h4=>Dr (b2 h).2 fun t e5 h5=>Fa h5 fun l2 x1 tp e6 h6=>Jh h6 fun a b e7 h7=>Lf (b2 h7).1 fun x' o' c q3 e8 h8=>
 B5 (b2 (b2 h8).1).2 fun ix ip e9 h9=>Ew (b2 h8).2 fun c q1 q2 e10 h10=>Jn h10 fun i e11 h11=>Ew (b2 h7).2 fun c' q4 q5 e12 h12=>Jn h12 fun j e13 h13=>
 k o2 ix op2 ap ip q1 q2 q3 q4 q5 x1 tp cp (by rw[e1,e2,show o= .Eq from of_decide_eq_true h2,e3,e4,show n="at" from of_decide_eq_true (b2 h3).1,e5,e6,e7,e8,show o'= .Add from of_decide_eq_true (b2 (b2 h8).1).1,e9,e10,e11,of_decide_eq_true h11,e12,e13,of_decide_eq_true h13]) h4 h9
theorem Z6 {t:RV} {i:Int} {vals:List Bq} (k:Kf G F) (FK:Od F) (GR:Po F=true) (RR:Z5 F=true) (B:Bs G) (CO:F3 G C' (N+7)) (hC:Db (N+8) A fr) (hf:Eu fr W) (I:B6 G W) (hargs:Fy W [t,.v (.int i)] vals)
  (H:Br G [] W Cj Q E (NE i W.σ.length ((C' (.val (.ref Fw)) [t] W.σ).bind fun r σ=>C' (.val (.ref Fi)) [r] σ))):codeAny (model prog G.w) A (.call (.ref Fj) ⟨vals,[]⟩) (Vm Q E) W.s:=by
 refine Hu RR fun fd b ds hfn j=>?_
 have j1:=b2 j;have j2:=b2 j1.1;have j3:=b2 j2.1
 clear j
 obtain rfl:ds=[]:=List.isEmpty_iff.mp j1.2
 obtain⟨⟨o,ho,hd'⟩,ok,hcd,hbody,hdf⟩:=I6 (k.here.keeps I.stays) hfn
 have elen:(fd.params.args.map (·.arg)).length=2:=(Am ..).trans (beq_iff_eq.mp j3.2)
 have htu:t≠ .un:=fun q=>hargs.elim fun v h=>h.elim fun r h=>(q▸h.2.1:Cj W .un v)
 refine Kw (C':=C') (N':=N+7) (args:=[t,.v (.int i)]) (dm:=[]) B ok hC hf I ho hd' hcd hbody hdf rfl hargs (Au elen.symm) (Au elen) (Nat.zero_le _) fun K W2 eG eC eN ens eac esc efr hK eσ g hm S=>?_
 subst eG
 rw[show(Gq fd).length=3 from beq_iff_eq.mp j2.2,elen] at S
 have S:At K W2 [t,.v (.int i),.un]:=S
 have j4:=j3.1
 rw[←ens,←esc] at j4
 have P:PM K F:=⟨B,k,FK,eN▸eC.1▸CO,eC.2,⟨N,eN⟩,hK⟩
 rw[←aP (C:=C') (ρ:=[.v (.int i),.un]) htu,←eC.1,←eσ] at H
 have hA:K.A.frames=some (K.env::fr):=hK.call.frames.trans (congrArg some efr)
 have hu:K.A.units+200 < cLine:=Ay (A7 (A4 ..) 200) hK.call.units
 have fin {b:Bool} {σ1:Bu} {W':Wd} (g':Go K.G K.mine W2 W') (e:W'.σ=σ1) (H:Br K.G [] W Cj Q E (.ok (.v (.bool b)) (σ1.take W.σ.length))):Q (.bool b) W'.s:=
  R5 (r:=.v (.bool b)) ⟨g'.inv,g.le.leave g'.le hm⟩ I.len.symm rfl (e▸H)
 rw[eσ] at H
 refine Jh j4 fun tr rt eb h=>MD (b2 h).1 fun body hs el fi tp e1 h1=>Lg (b2 h).2 fun re rp e2 h2=>C2 h2 fun fe e3 h3=>?_
 have h4:=b2 h1;have h5:=b2 h4.1;have h6:=b2 h5.1
 refine Dr h5.2 fun s0 e4 h7=>Qb h7 fun c1 ep e5 h8=>Dr h4.2 fun hd e6 h9=>LU h9 fun ty nm hb hp e7 h10=>?_
 have h11:=b2 h10;have h12:=b2 h11.1
 refine C2 h12.1 fun gt e8 h13=>B5 (b2 h13).1 fun gn gp e9 Z=>C2 h12.2 fun odd e10 h14=>Dr h11.2 fun rs e11 h15=>Lg h15 fun ce crp e12 h16=>C2 h16 fun ee e13 h17=>aJ h17 fun o2 ix op2 ap ip q1 q2 q3 q4 q5 x1 tup cp e14 t1 t2=>?_
 have e:b=[.Try [.Expr c1 ep] [.ExceptHandler (some (.Name gn gp)) (some odd) [.Return (some (.Compare (.Attribute (.Name o2 op2) "at" ap) [.Eq] [.Tuple [.BinOp (.Name ix ip) .Add (.Constant (.int 1) q1 q2) q3,.Constant (.int 12) q4 q5] x1 tup] cp)) crp] hp] [] [] tp,.Return (some fe) rp]:=by
  rw[eb,e1,e2,e3,e4,e5,e6,e7,e8,e9,e10,e11,e12,e13,e14,Cc h6.1,Cc h6.2]
 rw[e]
 have hodd:K.env.kindOf odd=some .local:=beq_iff_eq.mp (b2 h14).2
 refine wpAny_execs_cons (wpAny_Try_except (wpAny_execs_cons (wpAny_Expr_any ((Dc ED K P).se (b2 h8).1 S ?_) (Mr hK.kind) (Jg (b2 h8).2))))
 rw[←eσ] at H
 cases hO:C0 K.C ED [t,.v (.int i),.un] W2.σ with
 | no=>rw[hO] at H;exact H.elim
 | ok r σ1=>
  rw[hO] at H
  refine fun v W3 e3 g3 hr=>wpAny_execs_nil (wpAny_execs_nil (wpAny_execs_cons (wpAny_Return_some (Lp _ h3 (S.go g3) fun v2 W4 e4 g4 hv=>?_))))
  exact(show v2= .bool false from hv)▸fin (g3.trans g4).up (e4.trans e3) (eσ▸H)
 | exc n σ1=>
  rw[hO] at H
  refine fun e W3 e3 g3 fly=>Ua (m:=[]) hA g3.inv (efr▸(S.go g3).frs) fly fun W4 e4 g4 fly4=>Jk (m:=[]) g4.inv fly4 fun W5 e5 g5 fly5=>?_
  have g35:=g3.trans (g4.trans g5)
  have S5:=S.go g35
  clear j4 hbody j3 j2 j1 hfn h h4 h1 h5 h6 h9 h11 h10 h15 h16 h17 h12 h7 h2
  obtain⟨y5,p5,_⟩:=id fly5
  have X5:=k.here.keeps S5.inv.stays
  obtain⟨xd,hexc⟩:=FK.exc.obj
  rw[p5.e]
  refine wpAny_handleBy_cons (codeAny_handlers_test ?_) (fun q=>nomatch q)
  have h18:(decide (Aa "GrammarFault"=gn)&&K.env.scope.names.lookup gn==some .globalImplicit&&SD (Aa "GrammarFault") (.val (.ref B8))&&decide (gn≠"__debug__"))=true:=(congrArg (El K.ns K.env.scope (.glob (Aa "GrammarFault") (.val (.ref B8)))) e9).symm.trans (b2 h13).2
  have h19:=b2 (b2 (b2 h18).1).1
  refine R7 (A:=K.A.mark (some (.ref y5.a))) (M:=model prog K.G.w) hK B S5.inv (beq_iff_eq.mp h19.2) (of_decide_eq_true h19.1▸(b2 (b2 h18).1).2) (of_decide_eq_true (b2 h18).2) fun vg hvg heg=>heg ?_
  rw[show vg= .ref B8 from hvg (fun Z Z=>True)]
  refine wpAny_excMatches_sub_self (X5 _ _ hexc) p5.o rfl (by decide+kernel) (codeAny_handlers_suite_as ?_)
  rw[←p5.e]
  refine Jk (m:=[]) S5.inv fly5 fun W6 e6 g6 fly6=>?_
  have S6:=S5.go g6
  clear heg hvg
  obtain⟨y6,p6,_⟩:=id fly6
  have am:y6.a∉K.mine:=fun q=>(S6.own _ q).elim fun c x=>x.2.2 (Ab (p6.s.symm.trans x.1)▸rfl)
  refine Gi (r:=.v (.val e)) hK S6 ⟨Pz (b2 h14).1,.inl hodd⟩ rfl fun W7 e7 g7 S7=>?_
  have s7:=g7.le.keep _ _ p6.s (fun q=>nomatch q) am
  obtain⟨o7,ho7,sl7,vs7,rfl⟩:=S7.inv.sh _ _ s7
  have p7:Sw W7 n e ⟨y6.a,y6.dx,y6.es,y6.k,sl7,vs7⟩:=⟨p6.e,s7,ho7,g7.le.F _ _ p6.d,p6.x.up g7.le.F⟩
  refine wpAny_execs_cons (Rq k FK.exc GR B hK hu S7 rfl rfl t1 t2 p7 fun W8 e8 g8=>?_)
  have S8:=S7.go g8
  obtain⟨f8,hf8,_⟩:=S8.val
  refine wpAny_nameGoes hodd (S8.inv.ns hf8) (by rw[hK.kind];rfl) fun h9 m9 hm9 hs9=>?_
  obtain⟨o9,es9,ep9,ho9,hd9⟩:=hm9
  have I9:B6 K.G (W8.lay K.env.locals (.ns m9) h9 (W8.s.toks+1)):=S8.inv.lay (fun b x n e=>(hs9.2 b n).trans e) ho9 ⟨es9,ep9,hd9⟩ (S8.inv.nof hf8) fun d q=>Ab (hf8.symm.trans q)▸fun q=>nomatch q
  have gm:Go K.G K.mine W2 W8:=g35.up.trans (g6.up.trans (g7.trans g8.up))
  obtain⟨f2,hf2,_⟩:=S.val
  exact fin (W':=W8.lay K.env.locals (.ns m9) h9 (W8.s.toks+1)) ⟨I9,gm.le.lay fun d q z=>⟨hK.loc,Ab (hf2.symm.trans q)▸rfl⟩⟩ (e8.trans (e7.trans (e6.trans (e5.trans (e4.trans e3))))) (eσ▸H)
end
structure QD (K:Frag):Prop where
 tab:∀ p∈VV,NJ K p=true∧keepIn K (.ref p.1)=true
 tok:Kl K C6 618 iT 5 2=true∧keepIn K (.ref C6)=true
 rdr:Kl K B3 444 fV 3 1=true∧keepIn K (.ref B3)=true
 zero:Vh K=true
 cls:BD K=true
 fk:Od K
 get:Po K=true
 ref:Z5 K=true∧keepIn K (.ref Fj)=true
theorem FE {a:Nat} {d:Bv} (h:J4 a=some d):(a,d)∈VV:=by
 unfold J4 at h
 obtain⟨p,hp,rfl⟩:=A9.mp h
 have h2:=beq_iff_eq.mp (List.find?_some (p:=fun p:Nat×Bv=>p.1==a) hp)
 exact h2▸List.mem_of_find?_eq_some hp
theorem Yl {G:Gx} {W:Wd} {v:Bq} {d:Int} (I:B6 G W) (x:M9 W.F v d):Ik G W v:=⟨.frame,.inl rfl,by
 intro A Q E s k q
 obtain⟨y,p⟩:=x
 unfold keeperOf
 rw[p.v]
 refine Bh (wpAny_load (k _ _ (I.fh _ _ p.o)) ?_)
 rw[p.f]
 exact Bi q⟩
theorem Yj {G:Gx} {F:Frag} (X:F.In G.hB) (R:QD F) (B:Bs G) (n:Nat):F3 G (Cm n) (n+7):=by
 induction n with
 | zero=>exact fun Z Z Z Z Z H=>(show False from H).elim
 | succ n CO=>
  intro f fv args vals W A fr Q E hC hf I ha hc H
  have k:Kf G F:=⟨X,R.cls⟩
  have XS:=X.keeps I.stays
  have call {f:Bq} (hk:keepIn F f=true) (h:codeAny (model prog G.w) A (.call f ⟨vals,[]⟩) (Vm Q E) W.s):Ik G W f∧wpAny (model prog G.w) A (PySem.call f vals) Q E W.s:=⟨keeps_K hk _ XS,wpAny_call h⟩
  have tabc:∀ a d,J4 a=some d→Br G [] W Cj Q E (Ef (Cm n) d args W.σ)→Ik G W (.ref a)∧wpAny (model prog G.w) A (PySem.call (.ref a) vals) Q E W.s:=fun a d hd H=>
   have r:=R.tab _ (FE hd)
   call r.2 (HS (N':=n+7) (C':=Cm n) X r.1 B hC hf I ha (fun {K} eG eC eN hK efr=>M7 (outer:=fr) ⟨eG▸B,eG▸k,R.fk,by rw[eG,eC.1,eN];exact CO,eC.2,⟨n,eN⟩,hK⟩ efr d.body) H)
  cases f with
  | val v=>
   cases v with
   | ref a=>
    obtain rfl:=(show fv= .ref a from hc)
    have H:Br G [] W Cj Q E (if a=C6 then Ep W.σ ((Ve args).map .v) else if a=B3 then(nG args cH).elim .no fun ts=>.ok (.loc W.σ.length) (W.σ++[.rdr ts 0])
     else if a=Fj then(jQ args fun t i=>(Hi i).map fun i=>(t,i)).elim .no fun p=>NE p.2 W.σ.length ((Cm n (.val (.ref Fw)) [p.1] W.σ).bind fun r σ=>Cm n (.val (.ref Fi)) [r] σ)
     else(J4 a).elim .no fun d=>Ef (Cm n) d args W.σ):=H
    refine Tw (T:=Br G [] W Cj Q E) H (fun q H=>?_) fun Z H=>Tw (T:=Br G [] W Cj Q E) H (fun q H=>?_) fun Z H=>Tw (T:=Br G [] W Cj Q E) H (fun q H=>?_) fun Z H=>Br.el H fun d hd H=>tabc a d hd H
    ·
     subst q
     exact H.optm fun m hm H=>call R.tok.2 (PB (N:=n+2) X R.tok.1 B hC hf I ha hm H)
    ·
     subst q
     refine Br.el H fun ts hts H=>MR hts fun x ex hx=>?_
     subst ex
     have e:x= .v (.lis ts):=by
      cases x with
      | v m=>cases m with
       | lis j=>exact congrArg (fun j=>RV.v (.lis j)) (Ab hx)
       | _=>exact nn hx
      | _=>exact nn hx
     subst e
     exact call R.rdr.2 (FZ (N:=n+2) X R.rdr.1 R.zero B hC hf I ha H)
    ·
     subst q
     refine Br.el H fun p hp H=>Us hp fun x y ex hx=>?_
     subst ex
     obtain⟨i,hi,rfl⟩:=A9.mp hx
     obtain rfl:=Hj hi
     exact call R.ref.2 (Z6 (N:=n) k R.fk R.get R.ref.1 B CO hC hf I ha H)
   | _=>exact hc.elim
  | str m=>
   clear call ha
   obtain⟨a,hm,rfl⟩:=hc
   have H:Br G [] W Cj Q E (((Gw m).bind J4).elim .no fun d=>Ef (Cm n) d args W.σ):=H
   rw[hm] at H
   exact Br.el H fun d hd H=>tabc a d hd H
  | clo d=>
   have H:Br G [] W Cj Q E ((nG args some).elim .no fun x=>Cm n (.val (.ref Hg)) [x,.v (.int (d+1))] W.σ):=H
   refine Br.el H fun x hx H=>MR hx fun y ey hy=>?_
   clear call hx tabc H
   subst ey
   obtain rfl:=Ab hy
   obtain⟨v,_,rfl,hv,rfl⟩:=ha
   exact⟨Yl I hc,wpAny_call (HZ (N:=n+7) k B CO hC hf I hv hc H)⟩
  | _=>exact hc.elim
noncomputable abbrev QB:String:=" ACCEPT ACCESS ADD ADVANCING AFTER ALL ALPHABETIC ALPHABETIC-LOWER ALPHABETIC-UPPER ALPHANUMERIC ALPHANUMERIC-EDITED ALSO ALTERNATE AND ANY ARE AREA AREAS ASCENDING ASSIGN AT AUTHOR BEFORE BINARY BLANK BLOCK BY CALL CHARACTER CHARACTERS CLOSE COMP COMP-3 COMPUTATIONAL COMPUTATIONAL-3 COMPUTE CONFIGURATION CONTAINS CONTENT CONTINUE CONVERTING COPY CORR CORRESPONDING COUNT DATA DATE-COMPILED DATE-WRITTEN DELETE DELIMITED DELIMITER DEPENDING DESCENDING DISPLAY DIVIDE DIVISION DOWN DUPLICATES DYNAMIC ELSE END END-ADD END-CALL END-COMPUTE END-DELETE END-DIVIDE END-EVALUATE END-IF END-MULTIPLY END-PERFORM END-READ END-RETURN END-REWRITE END-SEARCH END-START END-STRING END-SUBTRACT END-UNSTRING END-WRITE ENVIRONMENT EQUAL ERROR EVALUATE EXCEPTION EXIT EXTEND EXTERNAL FALSE FD FILE FILE-CONTROL FILLER FIRST FOR FROM GIVING GLOBAL GO GREATER HIGH-VALUE HIGH-VALUES I-O I-O-CONTROL IDENTIFICATION IF IN INDEX INDEXED INITIAL INITIALIZE INPUT INPUT-OUTPUT INSPECT INSTALLATION INTO INVALID IS JUST JUSTIFIED KEY LABEL LEADING LEFT LESS LINE LINES LINKAGE LOCK LOW-VALUE LOW-VALUES MERGE MODE MOVE MULTIPLY NATIVE NEGATIVE NEXT NO NOT NUMERIC NUMERIC-EDITED OBJECT-COMPUTER OCCURS OF OFF OMITTED ON OPEN OPTIONAL OR ORDER ORGANIZATION OTHER OUTPUT OVERFLOW PACKED-DECIMAL PERFORM PIC PICTURE POINTER POSITIVE PROCEDURE PROCEED PROGRAM PROGRAM-ID QUOTE QUOTES RANDOM READ RECORD RECORDS REDEFINES REFERENCE RELATIVE RELEASE REMAINDER RENAMES REPLACE REPLACING RETURN REWRITE RIGHT ROUNDED RUN SAME SD SEARCH SECTION SECURITY SELECT SENTENCE SEPARATE SEQUENTIAL SET SIGN SIZE SORT SORT-MERGE SOURCE-COMPUTER SPACE SPACES SPECIAL-NAMES STANDARD START STATUS STOP STRING SUBTRACT SYNC SYNCHRONIZED TALLYING TEST THAN THEN THROUGH THRU TIMES TO TRAILING TRUE UNSTRING UNTIL UP UPON USAGE USING VALUE VALUES VARYING WHEN WITH WORKING-STORAGE WRITE ZERO ZEROES ZEROS "
noncomputable abbrev J9:=PySem.Challenge.pw_pb0280_01
noncomputable abbrev mW:=PySem.W.Fast.tw8326940854005059898
theorem Zh: @noRoadLSs=mW:=PySem.W.Fast.te8326940854005059898
theorem pJ: @OpenLaw.wellSaid=PySem.W.Fast.tw9446332074065402090:=PySem.W.Fast.te9446332074065402090
theorem NI:(QB:String)=String.ofList (Nk.map Char.ofNat):=by rfl
theorem GC:(Nk.map Char.ofNat).map Char.toNat=Nk:=by decide+kernel
theorem HB:Aa QB=⟨Nk.toArray⟩:=by
 rw[Str.ofString_eq_toList,NI,String.toList_ofList,GC]
noncomputable abbrev CE:Look:={strict:=false,foot:=none,bare:=[]}
theorem Zi {lk:Look}:∀ {a b:List Stmt},noRoadLSs lk a=true→noRoadLSs lk b=true→noRoadLSs lk (a++b)=true
 | [],_,_,h=>h
 | s::a,b,h,k=>by
  have h:=Bool.and_eq_true_iff.mp (show(noRoadLS lk s&&noRoadLSs lk a)=true from h)
  exact Bool.and_eq_true_iff.mpr ⟨h.1,Zi h.2 k⟩
theorem nrA:mW CE (J9.main.body.take 66)=true:=by kernel_rfl
theorem nrB:mW CE (J9.main.body.drop 67)=true:=by kernel_rfl
theorem c1:roadStr ⟨Nk.toArray⟩=false:=by
 unfold roadStr
 simp only [List.any_toArray]
 decide+kernel
theorem c2:frameAttrs.contains (⟨Nk.toArray⟩:Str)=false:=by
 kernel_rfl
theorem c3:(⟨Nk.toArray⟩:Str).opensWith "__"=false:=by
 kernel_rfl
theorem c4:(["__dict__","__getstate__","__getattribute__","__reduce__","__reduce_ex__"]:List Str).contains (⟨Nk.toArray⟩:Str)=false:=by
 kernel_rfl
theorem c5:underscores (⟨Nk.toArray⟩:Str)=false:=by
 unfold underscores
 simp only [List.all_toArray]
 decide+kernel
theorem UY:CE.str ⟨Nk.toArray⟩=true:=by
 unfold Look.str Look.word attrL
 rw[c1,c2,c3,c5]
 rfl
theorem sE (x:Str) (k:Nat) (q a b:Pos) (hx:x=⟨Nk.toArray⟩):noRoadLSs CE [.Assign [.Name "RESERVED" q] (.Constant (.str x) k a) b]=true:=by
 have h:(CE.stores [.Name "RESERVED" q]&&noRoadLs CE [.Name "RESERVED" q])=true:=by kernel_rfl
 have h3:noRoadL CE (.Constant (.str x) k a)=true:=by rw[hx];exact UY
 show(((CE.stores [.Name "RESERVED" q]&&noRoadLs CE [.Name "RESERVED" q])&&noRoadL CE (.Constant (.str x) k a))&&noRoadLSs CE [])=true
 rw[h,h3];rfl
theorem Yi:J9.main.body=J9.main.body.take 66++((J9.main.body.drop 66).take 1++J9.main.body.drop 67):=by
 kernel_rfl
theorem dT {st:Bool} {bs:List Str} (h1:st=false) (h2:bs=[]):mW {strict:=st,foot:=none,bare:=bs} J9.main.body=true:=by
 subst h1 h2
 have a:noRoadLSs CE (J9.main.body.take 66)=true:=by rw[Zh];exact nrA
 have b:noRoadLSs CE (J9.main.body.drop 67)=true:=by rw[Zh];exact nrB
 have c:noRoadLSs CE ((J9.main.body.drop 66).take 1)=true:=sE _ _ _ _ _ HB
 rw[←Zh,Yi]
 exact Zi a (Zi c b)
set_option pp.maxSteps 100000 in
theorem nZ:PySem.Challenge.rw_pb0280_01.wellSaid=true:=by
  rw[pJ]
  unfold PySem.W.Fast.tw9446332074065402090 PySem.W.Fast.tw17960256430627541270 PySem.W.Fast.tw2436336058641802641 PySem.W.Fast.tw12908688711261696721
  repeat' (with_reducible refine look_both ?_ ?_)
  all_goals (first
    | (with_reducible show mW {strict:=_,foot:=none,bare:=_} _=true
       refine dT ?_ ?_
       · as_aux_lemma=>kernel_rfl
       · as_aux_lemma=>kernel_rfl)
    | (as_aux_lemma=>kernel_rfl))
noncomputable abbrev YR:=PySem.W.Fast.tw10156331382660048174
noncomputable abbrev lM:=PySem.W.Fast.tw11892475500146522536
noncomputable abbrev oW:=PySem.W.Fast.tw14364793385576792824
noncomputable abbrev okQ:=PySem.W.Fast.tw6613529449190102663
theorem OP: @stepT=YR:=PySem.W.Fast.te10156331382660048174
theorem RA: @denote=lM:=PySem.W.Fast.te11892475500146522536
theorem VW: @treeTable=oW:=PySem.W.Fast.te14364793385576792824
theorem eK: @stepOk=okQ:=PySem.W.Fast.te6613529449190102663
noncomputable def Lv (ok:Nat→Option Bq→Thread→Bool) (st:SharedT→Thread→Option (SharedT×Thread)) (n₀:Nat) (ann:Option Bq):Nat→SharedT→Thread→Option SharedT
 | 0,_,_=>none
 | n+1,s,t=>match through t with
  | true=>some s
  | false=>match ok n₀ ann t with
   | false=>none
   | true=>match st s t with
    | some (s',t')=>Lv ok st n₀ ann n s' t'
    | none=>none
noncomputable def HP (P:Params):BT:=(.node (boot_o_0 P) (.node (boot_o_1 P) (.node (boot_o_3 P) (.node (boot_o_7 P) .nil .nil) .nil) (.node (boot_o_5 P) (.node (boot_o_9 P) .nil .nil) .nil)) (.node (boot_o_2 P) (.node (boot_o_4 P) (.node (boot_o_8 P) .nil .nil) .nil) (.node (boot_o_6 P) (.node (boot_o_10 P) .nil .nil) .nil)))
noncomputable def Tu (s:SharedT):Frag:=(List.range s.n).filterMap fun a=>if a=F4 then none else(alive ((s.tree.get a).getD default)).map fun o=>(a,o)
noncomputable def Pm (h:Heap):Frag:=(List.range h.objs.size).filterMap fun a=>if a=F4 then none else(h.get? a).map fun o=>(a,o)
section
variable [DecidableEq Str]
noncomputable def NK (K:Frag):Bool:=VV.all fun p=>(NJ K p&&keepIn K (.ref p.1))
end
noncomputable def NL (K:Frag):Bool:=Kl K C6 618 iT 5 2&&keepIn K (.ref C6)&&Kl K B3 444 fV 3 1&&keepIn K (.ref B3)&&Vh K&&BD K&&IU K&&Zb K&&We K&&XE K&&Po K&&Z5 K&&keepIn K (.ref Fj)
noncomputable def ET (o:Obj):Option (Array Bl):=match o.data with
 | .dict es _=>some es
 | _=>none
noncomputable def aW (o:Obj):Option (Array Bq):=match o.data with
 | .fields vs=>some vs
 | _=>none
noncomputable def fJ (o:Obj):Bool:=match o.data with
 | .plain=>true
 | _=>false
noncomputable def AJ:Bq→Option Str
 | .str s _=>some s
 | _=>none
noncomputable def SL:Bq→Option Int
 | .int i _=>some i
 | _=>none
noncomputable def kP:Bq→Option Bool
 | .bool b=>some b
 | _=>none
noncomputable def gv (K:Frag) (a:Addr) (x:Str):Option Bq:=((K.lookup a).bind ET).bind fun es=>nsFind es x
noncomputable def dA (m:MV) (v:Bq):Bool:=match m with
 | .val u=>decide (v=u)
 | .str s=>decide (AJ v=some s)
 | .int i=>decide (SL v=some i)
 | .figs=>decide (v= .ref 132)
 | _=>false
noncomputable def LB (K:Frag):Bool:=K4.all fun p=>decide (p.1="RESERVED")||(gv K mainGlobals p.1).elim (opt (gv K builtinsNs p.1) (dA p.2)) (dA p.2)
noncomputable def ZV (K:Frag) (x:Str) (t:String):Bool:=(gv K mainGlobals x).isNone&&decide (gv K builtinsNs x=some (.type t))
noncomputable def WU (K:Frag):Bool:=opt (K.lookup 236) fun o=>decide (o.cls= .type "code")&&opt (aW o) fun vs=>(decide (vs[11]?=some (.ref F4))&&decide (vs.getD 11 .none= .ref F4))&&(((AJ (vs.getD 18 .none)).isSome&&(SL (vs.getD 7 .none)).isSome)&&((kP (vs.getD 9 .none)).isSome&&(SL (vs.getD 10 .none)).isSome))
noncomputable def blB (K:Frag):Bool:=opt (gv K mainGlobals "__builtins__") fun v=>Uk v fun bm=>(decide (bm≠builtinsNs)&&(decide (bm≠mainGlobals)&&decide (bm≠F4)))&&opt (K.lookup bm) fun o=>decide (o.cls= .type "module")&&(decide (o.dict=some builtinsNs)&&fJ o)
noncomputable def aU (es:List Bl) (ks:List (Str×Str)):Bool:=match es,ks with
 | [],[]=>true
 | e::es,k::ks=>(decide (AJ e.key=some k.1)&&decide (AJ e.val=some k.2))&&aU es ks
 | _,_=>false
noncomputable def Wf (K:Frag):Bool:=opt (K.lookup 132) fun o=>(decide (o.cls= .type "dict")&&(decide (o.dict=none)&&o.slots.isEmpty))&&opt (ET o) fun es=>aU es.toList D5
noncomputable def mJ (K:Frag):Bool:=decide (gv K mainGlobals "law"=some (.ref 818))
noncomputable def DI (K:Frag):Bool:=mJ K&&(LB K&&((ZV K "range" "range"&&ZV K "enumerate" "enumerate")&&(WU K&&(blB K&&Wf K))))
noncomputable def Y0 (K:Frag):Option (List Int):=((K.lookup 132).bind ET).map fun es=>es.toList.map (·.hash)
noncomputable def NG (K:Frag):Option Str:=(gv K mainGlobals "RESERVED").bind AJ
noncomputable def qv:Program:=view prog [100]
noncomputable def lo:List Str:=prog.boundNames.filter fun n=> !(n=="law")
noncomputable abbrev osQ:=PySem.W.Fast.tw4187177175401517315
noncomputable def oY (H0:Heap) (s:Bk):Bool:=staticsOk (importedModules prog.main.body) H0 s.heap&&namesBound prog s.heap&&gensDone s&&laidKept H0 s.heap
noncomputable def BL (K:Frag):=(Y0 K,NG K,DI K,NL K,@NK PySem.W.Fast.sDec K)
noncomputable def JE (K:Frag):=(Y0 K,NG K,DI K,NL K)
noncomputable def kY (s:SharedT):=@NK PySem.W.Fast.sDec (Tu s)
noncomputable def kZ (H0:Heap) (s:SharedT):=(s.abs.heap.get? F4,JE (Tu s),oY H0 s.abs,osQ qv lo (importedModules prog.main.body) (fun s=>recOk [] s) true s.abs)
noncomputable def XR (w:World):=(some (D5.map fun p=>hashStr w p.1),some (Aa QB),true,true,true)
noncomputable def lY (w:World):=(some (D5.map fun p=>hashStr w p.1),some (Aa QB),true,true)
noncomputable def lX (w:World):=(some (tabObj #[]),lY w,true,openGood qv lo)
noncomputable abbrev iU (w:World) (os:OsState):=Lv okQ (YR (lM oW) prog w) 11 (some (.ref 6)) 6000 ⟨HP w.params,11,{},Array.mk [],boot_drawn,boot_toks,os⟩ (topStub prog)
noncomputable abbrev ZJ (w:World):Prop:=(fun os=>(iU w os).map kY)=fun Z=>some true
noncomputable abbrev ZK (w:World):Prop:=(fun os=>(iU w os).map (kZ (boot_heap w.params)))=fun Z=>some (lX w)
theorem nU:∀ w:World,ZJ (w.withFollow "special-get-raises" true):=by
 intro w
 kernel_rfl
theorem nS:∀ w:World,ZJ (w.withFollow "special-get-raises" false):=by
 intro w
 kernel_rfl
theorem nW:∀ w:World,ZK (w.withFollow "special-get-raises" true):=by
 intro w
 kernel_rfl
theorem nV:∀ w:World,ZK (w.withFollow "special-get-raises" false):=by
 intro w
 kernel_rfl
theorem sT:∀ w:World,ZJ w:=byRow2 "special-get-raises" nS nU
theorem sU:∀ w:World,ZK w:=byRow2 "special-get-raises" nV nW
theorem Lw {p:Program} {w:World} {n₀:Nat} {ann:Option Bq}:∀(n:Nat) (s:SharedT) (t:Thread) (r:SharedT),Lv stepOk (stepT (denote treeTable) p w) n₀ ann n s t=some r→topRun treeTable p w n₀ ann n s.abs t=some r.abs
 | 0,_,_,_,h=>by simp [Lv] at h
 | n+1,s,t,r,h=>by
  unfold Lv at h
  unfold topRun
  cases ht:through t with
  | true=>rw[ht] at h;cases h;rfl
  | false=>
   rw[ht] at h
   cases hk:stepOk n₀ ann t with
   | false=>rw[hk] at h;cases h
   | true=>
    rw[hk] at h
    dsimp only at h⊢
    cases hs:stepT (denote treeTable) p w s t with
    | none=>rw[hs] at h;cases h
    | some x=>
     obtain⟨s',t'⟩:=x
     rw[hs] at h
     rw[stepT_spec hs]
     exact Lw n s' t' r h
theorem RZ (s:SharedT):Tu s=Pm s.abs.heap:=by
 unfold Tu Pm
 rw[show s.abs.heap.objs.size=s.n from absHeap_size ..]
 refine Wh fun a ha=>?_
 have ha:=List.mem_range.mp ha
 congr 1
 show _=((absHeap s.tree s.n s.life).get? a).map _
 unfold Heap.get?
 rw[absHeap_at,if_pos ha]
 generalize (s.tree.get a).getD default=o
 obtain⟨c,d,dt,sl⟩:=o
 cases dt<;>rfl
theorem HQ (P:Params):absHeap (HP P) 11 {}=boot_heap P:=by kernel_rfl
noncomputable abbrev Yf (s:Bk):=(s.heap.get? F4,BL (Pm s.heap))
noncomputable abbrev Ya (w:World):=(some (tabObj #[]),XR w)
theorem left:LeftO prog qv lo (fun s=>recOk [] s) Yf Ya 6000:=fun w=>by
 obtain⟨⟨h,gs,d,k,os⟩,e,e'⟩:=A9.mp (boot_open (p:=prog) (N:=6000) rfl rfl (fun s=>rfl) w)
 obtain⟨rfl,rfl,rfl,rfl⟩:h=boot_heap w.params∧gs=Array.mk []∧d=boot_drawn∧k=boot_toks:=by simpa using e'
 have ra:=congrFun (sT w) os
 have rb:=congrFun (sU w) os
 obtain⟨s,hs,hc⟩:=A9.mp rb
 obtain⟨s',hs',ha⟩:=A9.mp ra
 rw[hs] at hs'
 cases hs'
 unfold iU at hs
 rw[←eK,←VW,←RA,←OP] at hs
 have t:=Lw _ _ _ _ hs
 rw[show SharedT.abs ⟨HP w.params,11,{},Array.mk [],boot_drawn,boot_toks,os⟩=⟨boot_heap w.params,Array.mk [],boot_drawn,boot_toks,os⟩ by unfold SharedT.abs;dsimp only;rw[HQ]] at t
 unfold kZ at hc
 unfold lX at hc
 obtain⟨c1,c2⟩:=Prod.mk.inj hc
 obtain⟨c2,c3⟩:=Prod.mk.inj c2
 obtain⟨c3,c4⟩:=Prod.mk.inj c3
 have z:(topFrom treeTable prog w 6000 ⟨boot_heap w.params,Array.mk [],boot_drawn,boot_toks,os⟩)=some s.abs:=by
  unfold topFrom
  dsimp only
  rw[show((boot_heap w.params).isNs mainGlobals&&(Array.mk []:Array GenState).size==0)=true by kernel_rfl,show(boot_heap w.params).objs.size=11 by kernel_rfl,show(boot_heap w.params).nsMap mainGlobals "__annotations__"=some (.ref 6) by kernel_rfl,t]
  show(match oY (boot_heap w.params) s.abs with | true=>_ | false=>_)=_
  rw[c3]
 unfold openEnds
 rw[e]
 show(topFrom treeTable prog w 6000 _).map _=_
 rw[z]
 rw[show osQ=@openSeen from PySem.W.Fast.te4187177175401517315.symm] at c4
 refine congrArg some (Prod.ext c4 ?_)
 show(s.abs.heap.get? F4,BL (Pm s.abs.heap))=_
 rw[←RZ,c1]
 unfold kY at ha
 unfold BL
 rw[ha]
 unfold JE at c2
 obtain⟨d1,d2⟩:=Prod.mk.inj c2
 obtain⟨d2,d3⟩:=Prod.mk.inj d2
 obtain⟨d3,d4⟩:=Prod.mk.inj d3
 rw[d1,d2,d3,d4]
 rfl
theorem Ww {K:Frag} {a:Addr} {o:Obj} (h:K.lookup a=some o):(a,o)∈K:=match K,h with
 | (b,x)::r,h=>match e:a==b,(show(match a==b with | true=>some x | false=>r.lookup a)=some o from h) with
  | true,h=>Ab h▸beq_iff_eq.mp e▸ .head _
  | false,h=>.tail _ (Ww h)
theorem Wl {h:Heap} {a:Addr} {o:Obj} (e:(Pm h).lookup a=some o):h.get? a=some o∧a≠F4:=by
 obtain⟨b,_,q⟩:=List.mem_filterMap.mp (Ww e)
 by_cases ne:b=F4
 · rw[if_pos ne] at q;cases q
 ·
  rw[if_neg ne] at q
  obtain⟨x,hx,e2⟩:=A9.mp q
  cases e2
  exact⟨hx,ne⟩
noncomputable def Io (h:Heap):Heap:={h with objs:=h.objs.setIfInBounds F4 ⟨.none,none,.freed, #[]⟩}
theorem Fl {h:Heap} {a:Addr} (n:a≠F4):(Io h).get? a=h.get? a:=by
 unfold Io Heap.get?
 dsimp only
 rw[Array.getElem?_setIfInBounds_ne (Ne.symm n)]
theorem R6 {h:Heap}:(Io h).get? F4=none:=by
 unfold Io Heap.get?
 dsimp only
 rw[Array.getElem?_setIfInBounds_self]
 by_cases l:F4 < h.objs.size
 · rw[if_pos l]
 · rw[if_neg l]
section
variable {h:Heap} {K:Frag} {a:Addr} {m mg mb:Str→Option Bq} {x:Str} {v:Bq} {w:World} {P:Prop}
theorem RB {o:Obj} {es:Array Bl} (e:ET o=some es):∃ ep,o.data= .dict es ep:=by
 unfold ET at e
 split at e
 · next hd=>exact⟨_,Ab e▸hd⟩
 · cases e
theorem RW {o:Obj} {vs:Array Bq} (e:aW o=some vs):o.data= .fields vs:=by
 unfold aW at e
 split at e
 · next hd=>exact Ab e▸hd
 · cases e
theorem UO {o:Obj} (e:fJ o=true):o.data= .plain:=by
 unfold fJ at e
 split at e
 · next hd=>exact hd
 · cases e
theorem Lu {s:Str} (e:AJ v=some s):∃ t,v= .str s t:=by cases v<;>first | exact nn e | exact⟨_,congrArg (Bq.str · _) (Ab e)⟩
theorem Tv {s:Int} (e:SL v=some s):∃ t,v= .int s t:=by cases v<;>first | exact nn e | exact⟨_,congrArg (Bq.int · _) (Ab e)⟩
theorem QQ {s:Bool} (e:kP v=some s):v= .bool s:=by cases v<;>first | exact nn e | exact congrArg Bq.bool (Ab e)
theorem XT (X:K.In h) (g:h.Ns a m) {o:Obj} (ho:K.lookup a=some o):gv K a x=m x:=g.elim fun o' ⟨es,ep,h1,h2,_,h4⟩=>by
 have e:o=o':=Ab ((X _ _ ho).symm.trans h1)
 unfold gv ET
 rw[ho,e]
 dsimp only [Option.bind]
 rw[h2]
 exact h4 x
theorem R8 (X:K.In h) (g:h.Ns a m) (e:gv K a x=some v):m x=some v:=(Aq.mp e).elim fun Z q=>(Aq.mp q.1).elim fun Z q=>(XT X g q.1).symm.trans e
theorem BQ (X:K.In h) (g:h.Ns a m) (hl:(K.lookup a).isSome=true) (e:gv K a x=none):m x=none:=(Ba.mp hl).elim fun Z ho=>(XT X g ho).symm.trans e
theorem YD {P:B9}:∀ {t:MV},dA t v=true→VR P t v
 | .val _,e=>(show v=_ from of_decide_eq_true e)
 | .str _,e=>Lu (of_decide_eq_true e)
 | .int _,e=>Tv (of_decide_eq_true e)
 | .figs,e=>(show v=_ from of_decide_eq_true e)
 | .none,e | .bool _,e | .bytes _,e | .tup _,e | .lis _,e | .tok ..,e | .clo _,e=>ff e
theorem Ub (g:h.Ns a m) (n:a≠F4):(Io h).Ns a m:=g.elim fun o ⟨es,ep,h1,r⟩=>⟨o,es,ep,(Fl n).trans h1,r⟩
theorem HM (X:K.In h) (g:h.Ns mainGlobals mg) (b:h.Ns builtinsNs mb) (hl:(K.lookup mainGlobals).isSome=true) {t:String} (e:ZV K x t=true):mg x=none∧mb x=some (.type t):=
 ⟨BQ X g hl (Option.isNone_iff_eq_none.mp (b2 e).1),R8 X b (of_decide_eq_true (b2 e).2)⟩
theorem QV (X:K.In h) (e:WU K=true):CodeHd (Io h) 236 F4:=C2 e fun o ho e=>C2 (b2 e).2 fun vs hv e2=>
 have q1:=b2 (b2 e2).1;have q2:=b2 (b2 e2).2;have q3:=b2 q2.1;have q4:=b2 q2.2
 (Ba.mp q3.1).elim fun f hf=>(Lu hf).elim fun tf hf=>(Ba.mp q3.2).elim fun fl hl=>(Tv hl).elim fun tg hl=>(Ba.mp q4.1).elim fun inF hi=>(Ba.mp q4.2).elim fun tx ht=>(Tv ht).elim fun tt ht=>
  ⟨o,vs,f,tf,fl,tg,inF,tx,tt,(Fl (of_decide_eq_true rfl)).trans (X _ _ ho),of_decide_eq_true (b2 e).1,RW hv,of_decide_eq_true q1.1,of_decide_eq_true q1.2,hf,hl,QQ hi,ht,of_decide_eq_true rfl⟩
theorem kM (X:K.In h) (g:h.Ns mainGlobals mg) (e:blB K=true):(Io h).BuiltinsAt mg F4:=C2 e fun v hv e=>Sd e fun bm ev e=>
 have q1:=b2 (b2 e).1;have q2:=b2 q1.2
 C2 (b2 e).2 fun o ho e=>have q3:=b2 (b2 e).2
  ⟨bm,o,R8 X g (ev▸hv),of_decide_eq_true q1.1,of_decide_eq_true q2.1,of_decide_eq_true q2.2,(Fl (of_decide_eq_true q2.2)).trans (X _ _ ho),of_decide_eq_true (b2 e).1,of_decide_eq_true q3.1,UO q3.2⟩
noncomputable def JG (es:List Bl) (ks:List (Str×Str)):List (Str×Bq):=(es.zip ks).map fun x=>(x.2.1,x.1.val)
structure kA (w:World) (es:List Bl) (ks:List (Str×Str)):Prop where
 p:Pairs (strKind prog w) es (JG es ks)
 f:PyProof.V.FlatPairs PyData.str (JG es ks) (ks.map fun p=>(.str p.1,.str p.2))
 k:(JG es ks).map (·.1)=ks.map (·.1)
 a:∀ e∈es,∃ k,(strKind prog w).is k e.key=true∧e.hash=(strKind prog w).hash k
theorem iB {s:Str} (e:AJ v=some s):(strKind prog w).is s v=true:=(Lu e).elim fun t h=>h▸(beq_self_eq_true s:(s==s)=true)
theorem JH:∀ {es:List Bl} {ks:List (Str×Str)},aU es ks=true→es.map (·.hash)=ks.map (fun p=>hashStr w p.1)→kA w es ks
 | [],[],_,_=>⟨.nil,.nil,rfl,fun e h=>nomatch h⟩
 | [],_::_,h,_=>ff h
 | _::_,[],h,_=>ff h
 | e::es,k::ks,h,hh=>
  have q:=b2 (b2 h).1
  have i:=JH (b2 h).2 (List.cons.inj hh).2
  have is:=iB (w:=w) (of_decide_eq_true q.1)
  ⟨.cons is rfl i.p,.cons ((Lu (of_decide_eq_true q.2)).elim fun Z h=>h▸ .str _ _) i.f,congrArg (k.1:: ·) i.k,fun y hy=>(Ag.mp hy).elim (fun z=>z▸⟨k.1,is,(List.cons.inj hh).1⟩) (i.a y)⟩
theorem RP (X:K.In h) (e:Wf K=true) (e2:Y0 K=some (D5.map fun p=>hashStr w p.1)):StrTab prog w (Io h) 132 (D5.map fun p=>(.str p.1,.str p.2)):=C2 e fun o ho e=>C2 (b2 e).2 fun es hes e3=>(RB hes).elim fun ep hd=>
 have q:=b2 (b2 e).1;have q2:=b2 q.2
 have i:=JH (w:=w) e3 (Ab ((show some _=Y0 K by unfold Y0;rw[ho];dsimp only [Option.bind];rw[hes];rfl).trans e2))
 TabAt.ofObj (of_decide_eq_true rfl) ((Fl (of_decide_eq_true rfl)).trans (X _ _ ho)) ⟨es,ep,⟨of_decide_eq_true q.1,of_decide_eq_true q2.1,by simpa using q2.2⟩,hd,fun y hy=>i.a y (by simpa using hy),i.p,i.k▸(by decide)⟩ i.f
theorem SG:∀ p∈K4,p.1="RESERVED"→p.2= .str Sy:=by
 have q:(List.range K4.length).all (fun i=>Nat.beq i 48|| !decide ((K4[i]?.map (·.1))=some (Aa "RESERVED")))=true:=by decide+kernel
 intro p hp e
 obtain⟨i,hi⟩:=List.mem_iff_getElem?.mp hp
 have:=List.all_eq_true.mp q i (List.mem_range.mpr (Ah.mp hi).1)
 rw[hi,Option.map_some,e,decide_eq_true rfl,Bool.not_true,Bool.or_false] at this
 rw[Nat.eq_of_beq_eq_true this] at hi
 have r:K4[48]?=some (Aa "RESERVED",MV.str Sy):=rfl
 exact Ab (r.symm.trans hi)▸rfl
theorem LC (X:K.In h) (g:h.Ns mainGlobals mg) (b:h.Ns builtinsNs mb) (hl:(K.lookup mainGlobals).isSome=true) (e:LB K=true) (er:NG K=some Sy):
  ∀ p∈K4,∃ v,(mg p.1=some v∨(mg p.1=none∧mb p.1=some v))∧∀ P,VR P p.2 v:=fun p hp=>
 (Bool.or_eq_true_iff.mp (List.all_eq_true.mp e p hp)).elim (fun e1=>
  have e1:=of_decide_eq_true e1
  (Aq.mp er).elim fun v q=>(Lu q.2).elim fun t ht=>⟨v,.inl (e1▸R8 X g q.1),fun P=>SG p hp e1▸⟨t,ht⟩⟩) fun e1=>
  match hg:gv K mainGlobals p.1,e1 with
  | some v,e1=>⟨v,.inl (R8 X g hg),fun P=>YD e1⟩
  | none,e1=>C2 e1 fun v hv e1=>⟨v,.inr ⟨BQ X g hl hg,R8 X b hv⟩,fun P=>YD e1⟩
theorem UZ (e1: @NK PySem.W.Fast.sDec K=true) (e2:NL K=true):QD K:=by
 rw[show(PySem.W.Fast.sDec:DecidableEq Str)=(inferInstance:DecidableEq Str) from Subsingleton.elim _ _] at e1
 have q1:=b2 e2;have q2:=b2 q1.1;have q3:=b2 q2.1;have q4:=b2 q3.1;have q5:=b2 q4.1;have q6:=b2 q5.1;have q7:=b2 q6.1;have q8:=b2 q7.1;have q9:=b2 q8.1;have q10:=b2 q9.1;have q11:=b2 q10.1;have q12:=b2 q11.1
 exact⟨fun p hp=>b2 (List.all_eq_true.mp e1 p hp),q12,⟨q11.2,q10.2⟩,q9.2,q8.2,⟨EW q7.2,q6.2,q5.2,q4.2⟩,q3.2,⟨q2.2,q1.2⟩⟩
theorem bX (X:K.In h) (g:h.Ns mainGlobals mg) (e:mJ K=true):mg "law"=some (.ref 818)∧(K.lookup mainGlobals).isSome=true:=
 have e:=of_decide_eq_true e
 ⟨R8 X g e,(Aq.mp e).elim fun Z q=>(Aq.mp q.1).elim fun Z q=>q.1▸rfl⟩
theorem kR (X:K.In h) (g:h.Ns mainGlobals mg) (b:h.Ns builtinsNs mb) (nl:h.NoLimit) (er:NG K=some Sy) (e:DI K=true) (eh:Y0 K=some (D5.map fun p=>hashStr w p.1)):Bs ⟨w,Io h⟩∧mg "law"=some (.ref 818):=
 have q1:=b2 e;have q2:=b2 q1.2;have q3:=b2 q2.2;have q4:=b2 q3.1;have q5:=b2 q3.2;have q6:=b2 q5.2
 have l:=bX X g q1.1
 have gf:=Ub g (of_decide_eq_true rfl)
 ⟨⟨⟨mg,mb,gf,Ub b (of_decide_eq_true rfl),LC X g b l.2 q2.1 er,HM X g b l.2 q4.1,HM X g b l.2 q4.2⟩,nl.elim fun mc n=>⟨mc,Ub n.1 (of_decide_eq_true rfl),n.2⟩,R6,⟨QV X q5.1,mg,gf,kM X g q6.1⟩,RP X q6.2 eh⟩,l.1⟩
end
theorem bY {G:Gx} {K:Frag} (X:K.In G.hB) (R:QD K) (B0:Bs G) {σe:Bu} {W:Wd} {A:Bm} {ns:List Int} {vals:List Bq} (hd:A.depth+67 < 690) (hu:A.units+12*67+200 < cLine) (hf:A.frames=some []) (hh:A.handled=none) (I:B6 G W) (hs:W.σ=[]) (ha:Fy W [.v (.lis (ns.map .int))] vals)
  (hr:Z7 60 ns= .ok (.v (.bool true)) σe):wpAny (model prog G.w) A (PySem.call (.ref 818) vals) (fun v s'=>v= .bool true∧∃ W',s'=W'.s∧Go G [] W W') (fun Z Z=>False) W.s:=
 (Yj X R B0 60 (f:=.val (.ref 818)) ⟨hf,hd,hu,hh⟩ (fun Z h=>nomatch h) I ha rfl (by
  rw[hs,show Cm 60 (.val (.ref 818)) [.v (.lis (ns.map .int))] []=_ from hr]
  exact fun v W' Z g h=>⟨h,W',rfl,g⟩)).2
abbrev rwL:=PySem.Challenge.rw_pb0280_01
structure YP' (w:World) (h:Heap) (K:Frag):Prop where
 i:K.In h
 n:∀ a o,K.lookup a=some o→a≠F4
 r:NG K=some Sy
 b:DI K=true
 f:Y0 K=some (D5.map fun p=>hashStr w p.1)
 R:QD K
noncomputable def YP (w:World) (h:Heap):Prop:=h.get? F4=some (tabObj #[])∧∃ K:Frag,YP' w h K
theorem SM {P:B9} {vs:List Bq} {ns:List Int} (h:IntsAre vs ns):Ds P (ns.map .int) vs:=by
 induction h with
 | nil=>rfl
 | cons _ _ _ ih=>exact⟨_,_,rfl,⟨_,rfl⟩,ih⟩
noncomputable def mK (s:Bk):Wd:=⟨fun a o=>a≠F4∧s.heap.get? a=some o,fun a=>if a=F4 then some (.tab none) else none,[],[],s⟩
theorem KJ {w:World} {s:Bk} (y:s.heap.get? F4=some (tabObj #[])):B6 ⟨w,Io s.heap⟩ (mK s) where
 fh _ _ h:=h.2
 fs _ _ h:=if_neg h.1
 sh a c h:=by
  by_cases q:a=F4
  ·
   have h:(if a=F4 then some (D2.tab none) else none)=some c:=h
   rw[if_pos q] at h
   cases h
   exact⟨_,q▸y,rfl⟩
  · exact nomatch (if_neg q:(if a=F4 then some (D2.tab none) else none)=none).symm.trans h
 old a o h:=by
  by_cases q:a=F4
  · rw[q,R6] at h;cases h
  · exact⟨q,(Fl q).symm.trans h⟩
 sto i mo h:=nomatch h
 len:=rfl
 inj i j a b h:=nomatch h
 tab:=⟨none,(show(if F4=F4 then some (D2.tab none) else none)=_ from if_pos rfl),fun x h=>nomatch h⟩
theorem lF {h:Heap} (x:CodeHd (Io h) 236 F4):isCodeTable h F4:=by
 obtain⟨oc,cvs,f,tf,fl,tg,inF,tx,tt,c1,c2,c3,c4,_⟩:=x
 exact⟨236,oc,cvs,(Fl (of_decide_eq_true rfl)).symm.trans c1,c2,c3,c4⟩
theorem VY {G:Gx} {W:Wd} (I:B6 G W):W.s.heap.get? F4=some (tabObj #[])∨∃ c,W.s.heap.get? F4=some (tabObj #[rawInt 174,rawInt 36,.ref c]):=I.tab.elim fun c h=>(I.sh _ _ h.1).elim fun o q=>match c,q with
 | none,q=>.inl (q.1.trans (congrArg some q.2))
 | some c,q=>.inr ⟨c,q.1.trans (congrArg some q.2)⟩
set_option tactic.hygienic true in
theorem tM {d:DefRec} {kwd:List (Str×Expr)} (hd:d.name="law"):WalkO qv lo (fun Z Z=>True) YP rwL.row.toRowW d kwd fun f vs=>PySem.call f vs:=by
 intro w s₀ s₁ mg mb G Y fa o pm cd doc dV kV ho hdd hcd hD hmg hg args vals as hpre hlay hrd hwl hlo
 wrow_args hpre hlay hrd hwl hlo
 rename_i ns _ _ _ _ _ _ _ b vs _ hL ra w1 r0 hI hr hc _
 obtain⟨y1,K,y⟩:=Y
 obtain⟨B,hlaw⟩:=kR y.i G.T.g G.T.b G.T.nolimit y.r y.b y.f
 rw[hd,show(Aa "law")="law" from rfl,hlaw] at hmg
 cases hmg
 obtain⟨σe,hrun⟩:=Q.KL (ns:=ns) (by omega)
 have VA:Fy (mK s₁) [.v (.lis (ns.map .int))] [.ref b]:=by
  obtain⟨o,o1,o2,n,o3⟩:=hL
  refine⟨.ref b,[],rfl,⟨vs,⟨b,o,n,rfl,⟨fun q=>?_,o1⟩,o2,o3⟩,SM hI⟩,rfl⟩
  rw[q,y1] at o1
  cases o1
  cases o2
 refine wpAny_mono (bY (G:=⟨w,Io s₁.heap⟩) (fun a o e=>(Fl (y.n a o e)).trans (y.i a o e)) y.R B (A:=callerA) (by show 301+67 < 690;decide) (by show 4+12*67+200 < 9900;decide) rfl rfl (KJ y1) rfl VA hrun) (fun v s' q=>?_) fun ev s' q=>q.elim
 obtain⟨rfl,W',rfl,g⟩:=q
 have hr:∀ cls,rwL.row.claim.raises [ofPy (PyData.list (List.map PyData.int ns))] cls=false:=fun Z=>by kernel_rfl
 have hp:rwL.row.claim.post [ofPy (PyData.list (List.map PyData.int ns))] (.bool true) [ofPy (PyData.list (List.map PyData.int ns))]=true:=by kernel_rfl
 have keep:∀ a o,a≠F4→s₁.heap.get? a=some o→W'.s.heap.get? a=some o:=fun a o n e=>g.inv.fh a o (g.le.F a o ⟨n,e⟩)
 have te:=VY g.inv
 refine⟨.inl ⟨_,_,[],rfl,hr,ReadsW.bool true,hp,fun Z=>⟨List.nodup_nil,fun Z hm=>(nomatch hm)⟩⟩,⟨fun a o e=>?_,fun a o e=>?_⟩,(congrArg Bk.os (g.le.rest W'.s.heap W'.s.toks):),.of_eq ((congrArg Bk.gens (g.le.rest W'.s.heap W'.s.toks):).trans hg)⟩
 ·
  by_cases q:a=F4
  ·
   subst q
   rw[y1] at e
   cases e
   exact te.imp id fun⟨c',z⟩=>.inl ⟨lF B.lam.1,rfl, #[], #[rawInt 174,rawInt 36,.ref c'],rfl,by rw[Array.empty_append];exact z⟩
  · exact .inl (keep a o q e)
 ·
  by_cases q:a=F4
  ·
   subst q
   rcases te with z | ⟨c',z⟩<;>exact⟨_,z⟩
  · exact⟨o,keep a o q e⟩
theorem pL {w:World} {s:Bk} (e:Yf s=Ya w):YP w s.heap:=
 have e1:=Prod.mk.inj e
 have e2:=Prod.mk.inj (e1.2:BL (Pm s.heap)=XR w)
 have e3:=Prod.mk.inj e2.2
 have e4:=Prod.mk.inj e3.2
 have e5:=Prod.mk.inj e4.2
 ⟨e1.1,Pm s.heap,fun a o q=>(Wl q).1,fun a o q=>(Wl q).2,e3.1.trans (congrArg some HB),e4.1,e2.1,UZ e5.2 e5.1⟩
theorem PL {w:World} {h h':Heap} (y:YP w h) (k:∀ b o,h.get? b=some o→h'.get? b=some o):YP w h':=⟨k _ _ y.1,y.2.imp fun K y=>{y with i:=fun a o e=>k _ _ (y.i a o e)}⟩
theorem wit:RowW.promised rwL.row.toRowW:=by
 w_witness2
theorem mD:PySem.Challenge.rw_pb0280_01.Holds:=by
 refine holds_law nZ fun said'=>?_
 refine holds_open (q:=qv) (loose:=lo) (Xt:=fun s=>recOk [] s) (XP:=fun Z Z=>True) (Yf:=Yf) (Ya:=Ya) (YP:=YP) (N:=6000) left (fun w s e=>pL e) (fun w h h' y k=>PL y k) (fun Z Z=>trivial) (fun Z Z Z Z Z=>trivial) rfl rfl rfl (fun s e=>recFacts_of e) rfl said' (by decide+kernel) ⟨rfl,rfl,rfl,rfl,rfl,by decide+kernel⟩ wit (tM rfl)
end Mine
theorem PySem.Challenge.cw_pb0280_01_holds : PySem.Challenge.rw_pb0280_01.Holds :=
 Mine.mD
