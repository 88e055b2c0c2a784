import PyProof.Rows.All
import Wide.All
import OpenK.AllK
import Wide.FinOn
import PyProof.Cells
import KE.KNest
import Lean
import PySem.Challenge.RW_rh0092_01
set_option Elab.async false
set_option autoImplicit false
set_option linter.all false
set_option genSizeOf false
set_option genInjectivity false
set_option tactic.hygienic false
set_option maxRecDepth 100000
set_option maxHeartbeats 8000000
namespace Mine
abbrev aa:=@Nat.le_trans
abbrev ac:=@Nat.lt_of_le_of_lt
abbrev ae:=@congrArg
abbrev af:=@List.mem_cons_self
abbrev ag:=@List.mem_cons_of_mem
abbrev ah:=@Nat.le_add_right
abbrev ak:=@List.length_map
abbrev am:=@Nat.le_of_eq
abbrev ao:=@List.append_assoc
abbrev aq:=@List.append_nil
abbrev au:=@Nat.le_refl
abbrev aw:=@Nat.lt_trans
abbrev ay:=@List.length_append
abbrev aA:=@Option.some.inj
abbrev aB:=@Nat.le_succ_of_le
abbrev aC:=@Nat.le_add_left
abbrev aD:=@Nat.succ_le_succ
abbrev aF:=@List.mem_append_right
abbrev aG:=@Nat.add_le_add_right
abbrev aH:=@List.mem_append_left
abbrev aI:=@Nat.zero_le
abbrev aJ:=@Int.lt_of_lt_of_le
abbrev aK:=@if_neg
abbrev aL:=@if_pos
abbrev aM:=@Nat.le_succ
abbrev aN:=@List.map_append
abbrev aO:=@Nat.lt_of_lt_of_le
abbrev aP:=@Nat.add_le_add_left
abbrev aQ:=@Nat.add_assoc
abbrev aR:=@Nat.add_le_add
abbrev aS:=@Int.le_trans
abbrev aU:=@Nat.zero_add
abbrev aV:=@Nat.succ_pos
abbrev aW:=@Nat.le_of_lt
abbrev aX:=@List.perm_append_comm_assoc
abbrev aY:=@List.mem_of_getElem?
abbrev aZ:=@List.getElem?_map
abbrev a0:=@Nat.lt_of_succ_lt_succ
abbrev bc:=@Nat.le_max_left
abbrev bf:=@Int.natCast_nonneg
abbrev bg:=@of_decide_eq_true
abbrev bh:=@Nat.add_comm
abbrev bj:=@Int.le_refl
abbrev bk:=@List.mem_map_of_mem
abbrev bp:=@Nat.lt_add_of_pos_left
abbrev bq:=@Nat.lt_succ_self
abbrev bu:=@List.length_reverse
abbrev bv:=@List.prefix_append
abbrev bw:=@List.getElem?_append_left
abbrev bx:=@List.prefix_rfl
theorem aj.{u}{α:Type u}{a b:α}:a∈[b]→a=b:=List.mem_singleton.mp
theorem ap.{u}{α:Type u}{a b:α}{l:List α}:a∈b::l→a=b∨a∈l:=List.mem_cons.mp
theorem az.{u}{α:Type u}{l:List α}{i:Nat}{a:α}:l[i]?=some a→∃h:i<l.length,l[i]=a:=List.getElem?_eq_some_iff.mp
theorem aE.{u}{α:Type u}{a b:α}:a=b→a∈[b]:=List.mem_singleton.mpr
theorem aT.{u}{α:Type u}{a:α}{s t:List α}:a∈s++t→a∈s∨a∈t:=List.mem_append.mp
theorem ba{n m:Nat}:n<m→(n:Int)<m:=Int.ofNat_lt.mpr
theorem be.{u,v}{α:Type u}{β:Type v}{b:β}{f:α→β}{l:List α}:b∈l.map f→∃a,a∈l∧f a=b:=List.mem_map.mp
theorem bn{m n:Nat}:m≤n→(m:Int)≤n:=Int.ofNat_le.mpr
open PySem PySem.Calls PySem.W PyProof.Rows
noncomputable section
noncomputable abbrev cX:Nat:=16777216
noncomputable abbrev Sx:=List Nat
noncomputable abbrev sx (s:Sx):Str:=⟨⟨s⟩⟩
inductive AV where
 |none|bool (b:Bool)|int (i:Int)|str (s:Sx)|tup (vs:List AV)|loc (a:Addr)
set_option genCtorIdx false in
inductive bO where
 |list (vs:List AV)
 |dI (kvs:List (Int×AV))
 |dS (kvs:List (Sx×AV))
 |dT (kvs:List (List Int×AV))
 |dF (o:Obj) (kvs:List (Int×AV))
 |lF (items:Array Value) (n:Nat) (vs:List AV)
 |ns (fs:List (Sx×AV))
 |inst (C dx:Addr)
 |cell (v:Option AV)
 |raw (o:Obj)
noncomputable abbrev bH:=Addr→Option bO
noncomputable def bH.upd (σ:bH)(a:Addr)(o:bO):bH:=λ b=>if b=a then some o else σ b
noncomputable abbrev bB:=Nat→Option AV
noncomputable def bB.set (m:bB)(x:Nat)(v:AV):bB:=λ y=>match Nat.beq y x with|true=>some v|false=>m y
noncomputable def cJ:bB:=λ ω=>none
noncomputable def args:List AV→bB
 |[]=>cJ
 |v::r=>λ i=>match i with|0=>some v|i+1=>args r i
noncomputable abbrev SP:=bH→Prop
noncomputable abbrev bI:=AV→SP
noncomputable abbrev BP:=Bool→SP
def no:SP:=λ ω=>False
noncomputable def tq:Option AV→bI→SP
 |some v,Q=>Q v
 |none,_=>no
set_option genCtorIdx false in
inductive IE where
 |lv (x:Nat)|cv (x:Sx)|gi (i:Int)
 |int (i:Int)|str (s:Sx)|bol (b:Bool)|non
 |tup (es:List IE)|lst (es:List IE)
 |dI0|dS0|dT0|dI1 (k v:IE)|dS (ks:List Sx) (es:List IE)
 |attr (C:Addr) (e:IE) (x:Sx)
 |sub (e i:IE)|slf (e lo:IE)|slt (e hi:IE)
 |call (f:Addr) (es:List IE)
 |meth (C:Addr) (e:IE) (x:Sx) (f:Addr) (es:List IE)
 |clo (x:Nat) (es:List IE)
 |append (e a:IE)|pop (e:IE)|rev (e:IE)|get (e k d:IE)|setdef (e k:IE)|extRev (e a:IE)
 |len (e:IE)|abs (e:IE)|strI (e:IE)|sorted (e:IE)|tupOf (e:IE)|listOf (e:IE)|dictOf (e:IE)|isTup (e:IE)
 |listRev (e:IE)|listRange (e:IE)
 |add (a b:IE)|subt (a b:IE)|mod (a b:IE)|fdiv (a b:IE)
 |not (e:IE)|cmp (op:CmpOp) (a b:IE)|and (es:List IE)|or (es:List IE)|ife (c a b:IE)
 |lcR (el:IE) (e:IE)|lcL (el:IE) (e:IE)|dcL (val e:IE)
set_option genCtorIdx false in
inductive IS where
 |asg (x:Nat) (e:IE)|asgC (x:Sx) (e:IE)|unp (xs:List Nat) (e:IE)
 |setA (C:Addr) (e:IE) (x:Sx) (v:IE)|setI (e k v:IE)
 |augA (x:Nat) (e:IE)|augS (e k:IE) (neg:Bool) (v:IE)
 |ex (e:IE)|ife (c:IE) (a b:List IS)|whl (c:IE) (b:List IS)
 |fore (x:Nat) (e:IE) (b:List IS)|forR (x:Nat) (e:IE) (b:List IS)
 |ret (e:IE)|brk|cont|pass
 |asgLC (y:Nat) (el e:IE)
 |rais|defc (x:Nat)
mutual
noncomputable def AV.pl:AV→Bool
 |.none=>true|.int _=>true|.str _=>true|.tup vs=>AV.pls vs
 |.bool _=>false|.loc _=>false
noncomputable def AV.pls:List AV→Bool
 |[]=>true
 |v::r=>v.pl&&AV.pls r
end
mutual
noncomputable def AV.dep:AV→Nat
 |.tup vs=>AV.deps vs+1
 |.none=>0|.int _=>0|.str _=>0|.bool _=>0|.loc _=>0
noncomputable def AV.deps:List AV→Nat
 |[]=>0
 |v::r=>max v.dep (AV.deps r)
end
noncomputable def gA:List AV→Option (List Int)
 |[]=>some []
 |.int i::r=>(gA r).map (i::·)
 |_::_=>none
section
variable {κ:Type}[DecidableEq κ]
noncomputable def bM:List (κ×AV)→κ→Option AV
 |[],_=>none
 |(k',v)::r,k=>if k'=k then some v else bM r k
noncomputable def cn:List (κ×AV)→κ→AV→List (κ×AV)
 |[],k,v=>[(k,v)]
 |(k',v')::r,k,v=>if k'=k then (k',v)::r else (k',v')::cn r k v
end
noncomputable def p9:Sx→Sx→Bool
 |[],[]=>true
 |a::r,b::r'=>match Nat.beq a b with|true=>p9 r r'|false=>false
 |_,_=>false
noncomputable def wj (vs:List AV):Int→Option AV
 |.ofNat k=>vs[k]?
 |.negSucc k=>if k<vs.length then vs[vs.length - 1 - k]? else none
noncomputable def zA (x:Int):List Int→List Int
 |[]=>[x]
 |y::r=>if x≤y then x::y::r else y::zA x r
noncomputable def jI:List Int→List Int
 |[]=>[]
 |x::r=>zA x (jI r)
inductive qG:bO→AV→AV→Prop
 |list {vs:List AV} {k:Int} {v:AV}:wj vs k=some v→qG (.list vs) (.int k) v
 |dI {kvs:List (Int×AV)} {k:Int} {v:AV}:bM kvs k=some v→qG (.dI kvs) (.int k) v
 |dF {o:Obj} {kvs:List (Int×AV)} {k:Int} {v:AV}:bM kvs k=some v→qG (.dF o kvs) (.int k) v
 |dS {kvs:List (Sx×AV)} {k:Sx} {v:AV}:bM kvs k=some v→qG (.dS kvs) (.str k) v
inductive A9:bO→AV→Option AV→Prop
 |dI {kvs:List (Int×AV)} {k:Int}:A9 (.dI kvs) (.int k) (bM kvs k)
 |dS {kvs:List (Sx×AV)} {k:Sx}:A9 (.dS kvs) (.str k) (bM kvs k)
 |dT {kvs:List (List Int×AV)} {is:List AV} {ks:List Int}:gA is=some ks→A9 (.dT kvs) (.tup is) (bM kvs ks)
inductive yy:AV→AV→bO→bO→Prop
 |list {vs:List AV} {k:Nat} {v:AV}:k<vs.length→yy (.int k) v (.list vs) (.list (vs.set k v))
 |dI {kvs:List (Int×AV)} {k:Int} {v:AV}:kvs.length<cX→yy (.int k) v (.dI kvs) (.dI (cn kvs k v))
 |dS {kvs:List (Sx×AV)} {k:Sx} {v:AV}:kvs.length<cX→yy (.str k) v (.dS kvs) (.dS (cn kvs k v))
 |dT {kvs:List (List Int×AV)} {is:List AV} {ks:List Int} {v:AV}:gA is=some ks→kvs.length<cX→yy (.tup is) v (.dT kvs) (.dT (cn kvs ks v))
inductive DM:bO→Nat→Prop
 |list {vs:List AV}:DM (.list vs) vs.length
 |dI {kvs:List (Int×AV)}:DM (.dI kvs) kvs.length
inductive tB:bO→List AV→Prop
 |list {vs:List AV}:tB (.list vs) vs
 |dI {kvs:List (Int×AV)}:tB (.dI kvs) (kvs.map λ p=>.int p.1)
inductive sH:bO→List AV→Prop
 |list {vs:List AV}:sH (.list vs) vs
 |lF {it:Array Value} {n:Nat} {vs:List AV}:sH (.lF it n vs) vs
inductive vG:bO→Prop
 |dI {kvs:List (Int×AV)}:vG (.dI kvs)
 |dS {kvs:List (Sx×AV)}:vG (.dS kvs)
 |dT {kvs:List (List Int×AV)}:vG (.dT kvs)
@[irreducible] def dq (ob:bO)(Q:bI):SP:=λ σ=>∀ a,σ a=none→Q (.loc a) (σ.upd a ob)
@[irreducible] def g5 (p:Prop)(K:BP):SP:=λ σ=>(p→K true σ)∧(¬ p→K false σ)
@[irreducible] def Z7 (a:Addr)(P:bO→SP):SP:=λ σ=>∃ ob,σ a=some ob∧P ob σ
def fg (f:Addr→SP)(o:AV):SP:=match o with|.loc a=>f a|_=>no
def nM (f:Int→SP)(o:AV):SP:=match o with|.int i=>f i|_=>no
def uT (K:BP):BP:=λ b=>K (!b)
def FM (Q:bI):BP:=λ b=>Q (.bool b)
def yY (A B:SP):BP:=λ b=>match b with|true=>A|false=>B
@[irreducible] def AU (K:BP)(a:Addr):SP:=λ σ=>∃ vs,σ a=some (.list vs)∧K (!vs.isEmpty) σ
def vi (K:BP)(v:AV):SP:=match v with
 |.none=>K false
 |.bool b=>K b
 |.int i=>g5 (i≠0) K
 |.tup vs=>K (!vs.isEmpty)
 |.loc a=>AU K a
 |.str _=>no
@[irreducible] def F0 (K:BP)(x y:AV):SP:=λ σ=>x.pl=true∧y.pl=true∧min x.dep y.dep≤50∧g5 (x=y) K σ
@[irreducible] def Nz (K:BP)(a b:Addr):SP:=λ σ=>∃ xs ys,σ a=some (.list xs)∧σ b=some (.list ys)∧AV.pls xs=true∧AV.pls ys=true∧min (AV.deps xs) (AV.deps ys)≤50∧g5 (xs=ys) K σ
def Sv (K:BP)(x y:AV):SP:=match x with
 |.int i=>(match y with|.int j=>g5 (i=j) K|y=>F0 K (.int i) y)
 |.str s=>(match y with|.str t=>K (p9 s t)|y=>F0 K (.str s) y)
 |.loc a=>(match y with|.loc b=>Nz K a b|_=>no)
 |x=>F0 K x y
@[irreducible] def Ht (K:BP)(x:AV)(ys:List AV):SP:=λ σ=>x.pl=true∧AV.pls ys=true∧min x.dep (AV.deps ys)≤50∧g5 (x∈ys) K σ
@[irreducible] def DW (K:BP)(x:AV)(b:Addr):SP:=λ σ=>(∃ ys,σ b=some (.list ys)∧Ht K x ys σ)∨(∃ kvs i,σ b=some (.dI kvs)∧x=.int i∧g5 ((bM kvs i).isSome=true) K σ)
def Ui (K:BP)(x y:AV):SP:=match y with
 |.tup ys=>Ht K x ys
 |.loc b=>DW K x b
 |_=>no
def isQ (K:BP)(x y:AV):SP:=match y with
 |.none=>(match x with|.none=>K true|.loc _=>K false|_=>no)
 |_=>no
def s8 (f:Int→Int→SP)(x y:AV):SP:=match x with
 |.int i=>(match y with|.int j=>f i j|_=>no)
 |_=>no
noncomputable def Ir (op:CmpOp)(K:BP):AV→AV→SP:=match op with
 |.Eq=>Sv K
 |.NotEq=>Sv (uT K)
 |.In=>Ui K
 |.NotIn=>Ui (uT K)
 |.Lt=>s8 λ i j=>g5 (i<j) K
 |.LtE=>s8 λ i j=>g5 (i≤j) K
 |.Gt=>s8 λ i j=>g5 (j<i) K
 |.GtE=>s8 λ i j=>g5 (j≤i) K
 |.Is=>isQ K
 |_=>λ ω ω=>no
@[irreducible] def ow (Q:bI)(i:AV)(a:Addr):SP:=λ σ=>∃ ob v,σ a=some ob∧qG ob i v∧Q v σ
def Bo (Q:bI)(o i:AV):SP:=match o with
 |.tup vs=>nM (λ k=>tq (wj vs k) Q) i
 |.loc a=>ow Q i a
 |_=>no
@[irreducible] def yI (Q:bI)(k:Int)(a:Addr):SP:=λ σ=>∃ ob vs,σ a=some ob∧sH ob vs∧0≤k∧k<2 ^ 60∧dq (.list (vs.drop k.toNat)) Q σ
@[irreducible] def yJ (Q:bI)(k:Int)(a:Addr):SP:=λ σ=>∃ ob vs,σ a=some ob∧sH ob vs∧0≤k∧k<2 ^ 60∧dq (.list (vs.take k.toNat)) Q σ
@[irreducible] def putL (Q:SP)(v i:AV)(a:Addr):SP:=λ σ=>∃ ob ob',σ a=some ob∧yy i v ob ob'∧Q (σ.upd a ob')
@[irreducible] def attrL (C:Addr)(x:Sx)(Q:bI)(a:Addr):SP:=λ σ=>∃ dx fs v,σ a=some (.inst C dx)∧σ dx=some (.ns fs)∧bM fs x=some v∧Q v σ
@[irreducible] def rq (C:Addr)(x:Sx)(v:AV)(Q:SP)(a:Addr):SP:=λ σ=>∃ dx fs,σ a=some (.inst C dx)∧σ dx=some (.ns fs)∧fs.length<900∧Q (σ.upd dx (.ns (cn fs x v)))
@[irreducible] def uN (C:Addr)(x:Sx)(a:Addr)(P:SP):SP:=λ σ=>∃ dx fs,σ a=some (.inst C dx)∧σ dx=some (.ns fs)∧bM fs x=none∧P σ
@[irreducible] def zv (a:Addr)(P:SP):SP:=λ σ=>(∃ vs,σ a=some (.list vs))∧P σ
@[irreducible] def yU (a:Addr)(P:SP):SP:=λ σ=>(∃ ob,σ a=some ob∧vG ob)∧P σ
@[irreducible] def vw (Q:bI)(a:Addr)(v:AV):SP:=λ σ=>∃ vs,σ a=some (.list vs)∧vs.length<cX∧Q .none (σ.upd a (.list (vs++[v])))
@[irreducible] def vH (Q:bI)(a:Addr):SP:=λ σ=>∃ vs v,σ a=some (.list (vs++[v]))∧Q v (σ.upd a (.list vs))
@[irreducible] def wc (Q:bI)(a:Addr):SP:=λ σ=>∃ vs,σ a=some (.list vs)∧Q .none (σ.upd a (.list vs.reverse))
@[irreducible] def getL (Q:bI)(a:Addr)(i d:AV):SP:=λ σ=>∃ ob r,σ a=some ob∧A9 ob i r∧Q (r.getD d) σ
def fw (Q:bI)(a:Addr)(kvs:List (Int×AV))(k:Int):bI:=λ l σ=>match bM kvs k with
 |some v=>Q v σ
 |none=>Q l (σ.upd a (.dI (cn kvs k l)))
@[irreducible] def mZ (Q:bI)(a:Addr)(i:AV):SP:=λ σ=>∃ kvs k,σ a=some (.dI kvs)∧i=.int k∧kvs.length<cX∧dq (.list []) (fw Q a kvs k) σ
@[irreducible] def yM (Q:bI)(a:Addr)(t:AV):SP:=λ σ=>∃ vs ws,σ a=some (.list vs)∧t=.tup ws∧vs.length+ws.length<cX∧Q .none (σ.upd a (.list (vs++ws.reverse)))
@[irreducible] def lK (K:List AV→SP)(a:Addr):SP:=λ σ=>∃ ob vs,σ a=some ob∧tB ob vs∧K vs σ
def Ax (K:List AV→SP)(o:AV):SP:=match o with
 |.tup vs=>K vs
 |.loc a=>lK K a
 |_=>no
@[irreducible] def u5 (Q:bI)(a:Addr):SP:=λ σ=>∃ ob n,σ a=some ob∧DM ob n∧Q (.int n) σ
def Rc (Q:bI)(o:AV):SP:=match o with
 |.tup vs=>Q (.int vs.length)
 |.loc a=>u5 Q a
 |_=>no
@[irreducible] def tupL (Q:bI)(a:Addr):SP:=λ σ=>∃ vs,σ a=some (.list vs)∧Q (.tup vs) σ
def M3 (Q:bI)(o:AV):SP:=match o with
 |.tup vs=>Q (.tup vs)
 |.loc a=>tupL Q a
 |_=>no
@[irreducible] def rA (Q:bI)(a:Addr):SP:=λ σ=>∃ kvs,σ a=some (.dI kvs)∧dq (.dI kvs) Q σ
def zQ (Q:bI)(o:AV):SP:=match o with
 |.tup _=>Q (.bool true)
 |.int _=>Q (.bool false)
 |_=>no
@[irreducible] def qH (Q:bI)(a:Addr):SP:=λ σ=>∃ vs,σ a=some (.list vs)∧dq (.list vs.reverse) Q σ
noncomputable def jN (k:Nat):List AV:=(List.range k).map λ (i:Nat)=>AV.int (i:Int)
@[irreducible] def qR (Q:bI)(k:Int):SP:=λ σ=>0≤k∧k<cX∧dq (.list (jN k.toNat)) Q σ
@[irreducible] def qV (Q:bI)(a:Addr):SP:=λ σ=>∃ vs is,σ a=some (.list vs)∧gA vs=some is∧is.length<64∧dq (.list ((jI is).map .int)) Q σ
noncomputable def jR (i:Int):Sx:=(toString i).toList.map Char.toNat
@[irreducible] def y7 (Q:bI)(i:Int):SP:=λ σ=>0≤i∧i<1000000∧Q (.str (jR i)) σ
@[irreducible] def BE (Q:bI)(s t:Sx):SP:=λ σ=>s.length+t.length≤10000∧Q (.str (s++t)) σ
@[irreducible] def Az (Q:bI)(a b:Addr):SP:=λ σ=>∃ xs ys,σ a=some (.list xs)∧σ b=some (.list ys)∧xs.length+ys.length<cX∧dq (.list (xs++ys)) Q σ
def Eh (Q:bI)(x y:AV):SP:=match x with
 |.int i=>nM (λ j=>Q (.int (i+j))) y
 |.str s=>(match y with|.str t=>BE Q s t|_=>no)
 |.loc a=>fg (Az Q a) y
 |_=>no
@[irreducible] def uI (Q:bI)(a b:Addr):SP:=λ σ=>∃ xs ys,σ a=some (.list xs)∧σ b=some (.list ys)∧a≠b∧xs.length+ys.length<cX∧Q (.loc a) (σ.upd a (.list (xs++ys)))
def C6 (Q:bI)(x y:AV):SP:=match x with
 |.int i=>nM (λ j=>Q (.int (i+j))) y
 |.loc a=>fg (uI Q a) y
 |_=>no
@[irreducible] def wM (Q:bI)(i j:Int):SP:=λ σ=>0<j∧Q (.int (i%j)) σ
@[irreducible] def qg (Q:bI)(i j:Int):SP:=λ σ=>0<j∧j<1000000∧Q (.int (i/j)) σ
set_option genCtorIdx false in
inductive pO where
 |next|brk|cont|ret (v:AV)
noncomputable abbrev WE:=bB→bI→SP
noncomputable abbrev WT:=bB→BP→SP
noncomputable abbrev cm:=pO→bB→SP
noncomputable abbrev WS:=bB→cm→SP
structure En where
 J:Nat→Value→List AV→bH→bI→Prop
 n:Nat
 cs:List (Sx×Addr)
 df:(Addr→SP)→SP
def Sub (m m':bB):Prop:=∀ x v,m x=some v→m' x=some v
noncomputable abbrev JT:=Nat→Value→List AV→bH→bI→Prop
@[irreducible] def bR (J:JT)(n:Nat)(f:Addr)(Q:bI)(vs:List AV):SP:=λ σ=>J n (.ref f) vs σ Q
@[irreducible] def ut (J:JT)(n:Nat)(Q:bI)(f:Addr)(vs:List AV):SP:=λ σ=>(∃ o fd,σ f=some (.raw o)∧o.data=.func fd)∧J n (.ref f) vs σ Q
@[irreducible] def qP (Q:bI)(a:Addr):SP:=λ σ=>∃ v,σ a=some (.cell (some v))∧Q v σ
@[irreducible] def qN (v:AV)(Q:SP)(a:Addr):SP:=λ σ=>∃ v₀,σ a=some (.cell v₀)∧Q (σ.upd a (.cell (some v)))
noncomputable def zn:List (Sx×Addr)→Sx→Option Addr
 |[],_=>none
 |(y,a)::r,x=>match p9 y x with|true=>some a|false=>zn r x
noncomputable def yb (f:Addr→SP):Option Addr→SP
 |some a=>f a
 |none=>no
def lL (w:WE)(m:bB)(f:AV→bI):bI:=λ o=>w m (f o)
def W6 (w w':WE)(m:bB)(f:AV→AV→bI):bI:=λ o=>w m (lL w' m (f o))
noncomputable def XV (Q:bI):List AV→SP:=λ vs=>Q (.tup vs)
noncomputable def DR (Q:bI):List AV→SP:=λ vs=>dq (.list vs) Q
noncomputable def kDS (ks:List Sx)(Q:bI):List AV→SP:=λ vs=>dq (.dS (ks.zip vs)) Q
def VM (Q:bI)(k v:AV):SP:=nM (λ i=>dq (.dI [(i,v)]) Q) k
noncomputable def Go (v:AV)(Q:List AV→SP):List AV→SP:=λ vs=>Q (v::vs)
def Wq (w:bB→(List AV→SP)→SP)(m:bB)(Q:List AV→SP):bI:=λ v=>w m (Go v Q)
def Mi (w:bB→(List AV→SP)→SP)(C:Addr)(x:Sx)(m:bB)(q:List AV→SP):bI:=fg λ a=>uN C x a (w m (Go (.loc a) q))
def IC (w:bB→(List AV→SP)→SP)(m:bB)(q:Addr→List AV→SP):bI:=fg λ f=>w m (q f)
def Wy (w:WE)(m:bB)(Q:bI):bI:=fg λ a=>zv a (w m (vw Q a))
def Tx (w:WE)(m:bB)(Q:bI):bI:=fg λ a=>zv a (w m (yM Q a))
def Yo (w w':WE)(m:bB)(Q:bI):bI:=fg λ a=>yU a (w m (lL w' m (getL Q a)))
def YH (w:WE)(m:bB)(Q:bI):bI:=fg λ a=>yU a (w m (mZ Q a))
def VB (w:WE)(m:bB)(Q:bI):bI:=fg λ a=>w m (nM λ k=>yI Q k a)
def Vz (w:WE)(m:bB)(Q:bI):bI:=fg λ a=>w m (nM λ k=>yJ Q k a)
def Xw (w:WE)(m:bB)(Q:bI):bI:=λ v=>vi (yY (w m Q) (Q v)) v
def kOr (w:WE)(m:bB)(Q:bI):bI:=λ v=>vi (yY (Q v) (w m Q)) v
def Ha (I:List AV→SP)(vs:List AV):bI:=λ v=>I (vs++[v])
@[irreducible] def uL (w:WE)(Q:bI)(k:Int):SP:=λ σ=>0≤k∧k<1000∧∃ I:List AV→SP,I [] σ∧
 (∀ vs σ₁,(vs.length:Int)<k→I vs σ₁→w (cJ.set 1 (.int vs.length)) (Ha I vs) σ₁)∧(∀ vs σ₁,vs.length=k.toNat→I vs σ₁→dq (.list vs) Q σ₁)
def Dz (I:List AV→List AV→SP)(vs ws:List AV):bI:=λ v=>I (vs++[v]) ws
@[irreducible] def wx (w:WE)(Q:bI)(a:Addr):SP:=λ σ=>∃ us,σ a=some (.list us)∧us.length<1000∧∃ I:List AV→List AV→SP,I [] us σ∧
 (∀ vs u ws σ₁,I vs (u::ws) σ₁→σ₁ a=some (.list us)∧w (cJ.set 1 u) (Dz I vs ws) σ₁)∧(∀ vs σ₁,I vs [] σ₁→σ₁ a=some (.list us)∧dq (.list vs) Q σ₁)
def Ig (I:List (Int×AV)→List AV→SP)(kvs:List (Int×AV))(i:Int)(ws:List AV):bI:=λ v=>I (cn kvs i v) ws
@[irreducible] def Da (w:WE)(Q:bI)(a:Addr):SP:=λ σ=>∃ us,σ a=some (.list us)∧us.length<1000∧∃ I:List (Int×AV)→List AV→SP,I [] us σ∧
 (∀ kvs u ws σ₁,I kvs (u::ws) σ₁→σ₁ a=some (.list us)∧∃ i,u=.int i∧w (cJ.set 1 u) (Ig I kvs i ws) σ₁)∧(∀ kvs σ₁,I kvs [] σ₁→σ₁ a=some (.list us)∧dq (.dI kvs) Q σ₁)
noncomputable def vt (f:WE):WE×WT:=(f,λ m K=>f m (vi K))
section
variable (E:En)
mutual
noncomputable def cW:IE→WE×WT
 |.lv x=>vt λ m Q=>tq (m x) Q
 |.cv x=>vt λ m Q=>yb (qP Q) (zn E.cs x)
 |.gi i=>vt λ m Q=>Q (.int i)
 |.int i=>vt λ m Q=>Q (.int i)
 |.str s=>vt λ m Q=>Q (.str s)
 |.bol b=>vt λ m Q=>Q (.bool b)
 |.non=>vt λ m Q=>Q .none
 |.tup es=>vt λ m Q=>yX es m (XV Q)
 |.lst es=>vt λ m Q=>yX es m (DR Q)
 |.dI0=>vt λ m Q=>dq (.dI []) Q
 |.dS0=>vt λ m Q=>dq (.dS []) Q
 |.dT0=>vt λ m Q=>dq (.dT []) Q
 |.dI1 k v=>vt λ m Q=>(cW k).1 m (lL (cW v).1 m (VM Q))
 |.dS ks es=>vt λ m Q=>yX es m (kDS ks Q)
 |.attr C e x=>vt λ m Q=>(cW e).1 m (fg (attrL C x Q))
 |.sub e i=>vt λ m Q=>(cW e).1 m (lL (cW i).1 m (Bo Q))
 |.slf e lo=>vt λ m Q=>(cW e).1 m (VB (cW lo).1 m Q)
 |.slt e hi=>vt λ m Q=>(cW e).1 m (Vz (cW hi).1 m Q)
 |.call f es=>vt λ m Q=>yX es m (bR E.J E.n f Q)
 |.meth C e x f es=>vt λ m Q=>(cW e).1 m (Mi (yX es) C x m (bR E.J E.n f Q))
 |.clo x es=>vt λ m Q=>tq (m x) (IC (yX es) m (ut E.J E.n Q))
 |.append e a=>vt λ m Q=>(cW e).1 m (Wy (cW a).1 m Q)
 |.pop e=>vt λ m Q=>(cW e).1 m (fg (vH Q))
 |.rev e=>vt λ m Q=>(cW e).1 m (fg (wc Q))
 |.get e k d=>vt λ m Q=>(cW e).1 m (Yo (cW k).1 (cW d).1 m Q)
 |.setdef e k=>vt λ m Q=>(cW e).1 m (YH (cW k).1 m Q)
 |.extRev e a=>vt λ m Q=>(cW e).1 m (Tx (cW a).1 m Q)
 |.len e=>vt λ m Q=>(cW e).1 m (Rc Q)
 |.abs e=>vt λ m Q=>(cW e).1 m (nM λ i=>Q (.int i.natAbs))
 |.strI e=>vt λ m Q=>(cW e).1 m (nM (y7 Q))
 |.sorted e=>vt λ m Q=>(cW e).1 m (fg (qV Q))
 |.tupOf e=>vt λ m Q=>(cW e).1 m (M3 Q)
 |.listOf e=>vt λ m Q=>(cW e).1 m (Ax (DR Q))
 |.dictOf e=>vt λ m Q=>(cW e).1 m (fg (rA Q))
 |.isTup e=>vt λ m Q=>(cW e).1 m (zQ Q)
 |.listRev e=>vt λ m Q=>(cW e).1 m (fg (qH Q))
 |.listRange e=>vt λ m Q=>(cW e).1 m (nM (qR Q))
 |.add a b=>vt λ m Q=>(cW a).1 m (lL (cW b).1 m (Eh Q))
 |.subt a b=>vt λ m Q=>(cW a).1 m (lL (cW b).1 m (s8 λ i j=>Q (.int (i - j))))
 |.mod a b=>vt λ m Q=>(cW a).1 m (lL (cW b).1 m (s8 (wM Q)))
 |.fdiv a b=>vt λ m Q=>(cW a).1 m (lL (cW b).1 m (s8 (qg Q)))
 |.not e=>(λ m Q=>(cW e).2 m (uT (FM Q)),λ m K=>(cW e).2 m (uT K))
 |.cmp op a b=>(λ m Q=>(cW a).1 m (lL (cW b).1 m (Ir op (FM Q))),λ m K=>(cW a).1 m (lL (cW b).1 m (Ir op K)))
 |.and es=>(λ m Q=>Dl es m Q,λ m K=>Hi es m K)
 |.or es=>(λ m Q=>ID es m Q,λ m K=>Jt es m K)
 |.ife c a b=>(λ m Q=>(cW c).2 m (yY ((cW a).1 m Q) ((cW b).1 m Q)),λ m K=>no)
 |.lcR el e=>vt λ m Q=>(cW e).1 m (nM (uL (cW el).1 Q))
 |.lcL el e=>vt λ m Q=>(cW e).1 m (fg (wx (cW el).1 Q))
 |.dcL val e=>vt λ m Q=>(cW e).1 m (fg (Da (cW val).1 Q))
noncomputable def yX:List IE→bB→(List AV→SP)→SP
 |[],m,Q=>Q []
 |e::r,m,Q=>(cW e).1 m (Wq (yX r) m Q)
noncomputable def Dl:List IE→WE
 |[],m,Q=>no
 |[e],m,Q=>(cW e).1 m Q
 |e::e'::r,m,Q=>(cW e).1 m (Xw (Dl (e'::r)) m Q)
noncomputable def ID:List IE→WE
 |[],m,Q=>no
 |[e],m,Q=>(cW e).1 m Q
 |e::e'::r,m,Q=>(cW e).1 m (kOr (ID (e'::r)) m Q)
noncomputable def Hi:List IE→WT
 |[],m,K=>K true
 |e::r,m,K=>(cW e).2 m (yY (Hi r m K) (K false))
noncomputable def Jt:List IE→WT
 |[],m,K=>K false
 |e::r,m,K=>(cW e).2 m (yY (K true) (Jt r m K))
end
end
noncomputable abbrev wp (E:En)(e:IE):=(cW E e).1
noncomputable abbrev Z5 (E:En)(e:IE):=(cW E e).2
def kQ (w:WS)(S:cm):cm:=λ fl m=>match fl with|.next=>w m S|.brk=>S .brk m|.cont=>S .cont m|.ret v=>S (.ret v) m
def uG (x:Nat)(m:bB)(S:cm):bI:=λ v=>S .next (m.set x v)
def kEx (m:bB)(S:cm):bI:=λ v=>S .next m
def Yl (m:bB)(S:cm):bI:=λ v=>S (.ret v) m
noncomputable def lA:bB→List Nat→List AV→Option bB
 |m,x::xs,v::vs=>lA (m.set x v) xs vs
 |m,[],[]=>some m
 |_,_,_=>none
def Xu (xs:List Nat)(m:bB)(S:cm):bI:=λ v=>match v with
 |.tup vs=>(match lA m xs vs with|some m'=>S .next m'|none=>no)
 |_=>no
def OR (a:Option Addr)(m:bB)(S:cm):bI:=λ v=>yb (qN v (S .next m)) a
def kSA (C:Addr)(x:Sx)(X:SP)(v:AV):bI:=fg (rq C x v X)
def kSI (X:SP)(v o i:AV):SP:=fg (putL X v i) o
def NC (neg:Bool)(w:WE)(m:bB)(S:cm)(o i old:AV):SP:=w m λ d=>(match neg with|true=>s8 λ x y=>fg (putL (S .next m) (.int (x - y)) i) o|false=>s8 λ x y=>fg (putL (S .next m) (.int (x+y)) i) o) old d
def T8 (neg:Bool)(w:WE)(m:bB)(S:cm)(o i:AV):SP:=Bo (NC neg w m S o i) o i
def Th (I:Nat→bB→SP)(k:Nat)(S:cm):cm:=λ fl m=>match fl with
 |.next=>λ σ=>∃ k' m',k'<k∧Sub m' m∧I k' m' σ
 |.cont=>λ σ=>∃ k' m',k'<k∧Sub m' m∧I k' m' σ
 |.brk=>S .next m
 |.ret v=>S (.ret v) m
@[irreducible] def BB (w:WT)(b:WS)(m:bB)(S:cm):SP:=λ σ=>∃ I k m',Sub m' m∧I k m' σ∧∀ k m σ,I k m σ→w m (yY (b m (Th I k S)) (S .next m)) σ
def zJ (I:bB→SP)(S:cm):cm:=λ fl m=>match fl with
 |.next=>λ σ=>∃ m',Sub m' m∧I m' σ
 |.cont=>λ σ=>∃ m',Sub m' m∧I m' σ
 |.brk=>S .next m
 |.ret v=>S (.ret v) m
def EN (I:bB→SP):cm:=λ fl m=>match fl with
 |.next=>λ σ=>∃ m',Sub m' m∧I m' σ
 |.cont=>λ σ=>∃ m',Sub m' m∧I m' σ
 |.brk=>no
 |.ret v=>no
@[irreducible] def um (x:Nat)(b:WS)(m:bB)(S:cm)(us:List AV):SP:=λ σ=>∃ (I:List AV→bB→SP) (m':bB),Sub m' m∧I us m' σ∧
 (∀ u ws m σ,I (u::ws) m σ→b (m.set x u) (zJ (I ws) S) σ)∧(∀ m σ,I [] m σ→S .next m σ)
@[irreducible] def v7 (x:Nat)(b:WS)(m:bB)(S:cm)(a:Addr):SP:=λ σ=>
 (∃ us,σ a=some (.list us)∧∃ (I:List AV→bB→SP) (m':bB),Sub m' m∧I us m' σ∧
  (∀ u ws m σ,I (u::ws) m σ→σ a=some (.list us)∧b (m.set x u) (zJ (I ws) S) σ)∧(∀ m σ,I [] m σ→σ a=some (.list us)∧S .next m σ))∨
 (∃ kvs,σ a=some (.dI kvs)∧∀ ob,∃ (I:List AV→bB→SP) (m':bB),Sub m' m∧I (kvs.map λ p=>.int p.1) m' (σ.upd a (.dF ob kvs))∧
  (∀ u ws m σ,I (u::ws) m σ→σ a=some (.dF ob kvs)∧b (m.set x u) (EN (I ws)) σ)∧(∀ m σ,I [] m σ→σ a=some (.dF ob kvs)∧S .next m (σ.upd a (.dI kvs))))
def LQ (x:Nat)(b:WS)(m:bB)(S:cm):bI:=λ o=>match o with
 |.tup us=>um x b m S us
 |.loc a=>v7 x b m S a
 |_=>no
@[irreducible] def Av (x:Nat)(b:WS)(m:bB)(S:cm)(k:Int):SP:=λ σ=>0≤k∧k<cX∧∃ (I:Nat→bB→SP) (m':bB),Sub m' m∧I 0 m' σ∧
 (∀ (i:Nat) m σ,(i:Int)<k→I i m σ→b (m.set x (.int i)) (zJ (I (i+1)) S) σ)∧(∀ m σ,I k.toNat m σ→S .next m σ)
section
variable (E:En)
mutual
noncomputable def Sl:IS→WS
 |.asg x e,m,S=>(cW E e).1 m (uG x m S)
 |.asgC x e,m,S=>(cW E e).1 m (OR (zn E.cs x) m S)
 |.unp xs e,m,S=>(cW E e).1 m (Xu xs m S)
 |.setA C e x v,m,S=>(cW E v).1 m (lL (cW E e).1 m (kSA C x (S .next m)))
 |.setI e k v,m,S=>(cW E v).1 m (W6 (cW E e).1 (cW E k).1 m (kSI (S .next m)))
 |.augA x e,m,S=>tq (m x) (lL (cW E e).1 m (C6 (uG x m S)))
 |.augS e k neg v,m,S=>(cW E e).1 m (lL (cW E k).1 m (T8 neg (cW E v).1 m S))
 |.ex e,m,S=>(cW E e).1 m (kEx m S)
 |.ife c a b,m,S=>(cW E c).2 m (yY (cA a m S) (cA b m S))
 |.whl c b,m,S=>BB (cW E c).2 (cA b) m S
 |.fore x e b,m,S=>(cW E e).1 m (LQ x (cA b) m S)
 |.forR x e b,m,S=>(cW E e).1 m (nM (Av x (cA b) m S))
 |.ret e,m,S=>(cW E e).1 m (Yl m S)
 |.brk,m,S=>S .brk m
 |.cont,m,S=>S .cont m
 |.pass,m,S=>S .next m
 |.asgLC y el e,m,S=>(cW E e).1 m (fg (wx (cW E el).1 (uG y m S)))
 |.rais,m,S=>no
 |.defc x,m,S=>E.df λ g=>S .next (m.set x (.loc g))
noncomputable def cA:List IS→WS
 |[],m,S=>S .next m
 |s::r,m,S=>Sl s m (kQ (cA r) S)
end
end
def kL (Q:bI):cm:=λ fl ω=>match fl with|.ret v=>Q v|.next=>Q .none|_=>no
noncomputable abbrev fN (items:Array Value)(n:Nat):Obj:={ cls:=.type "tuple",data:=.seq items n }
noncomputable abbrev dJ (items:Array Value)(n:Nat):Obj:={ cls:=.type "list",data:=.seq items n }
def GX (x:Sx):Prop:=PyData.strOk (sx x)=true
theorem jz {a b:Sx}(h:sx a=sx b):a=b:=Array.mk.inj (Str.mk.inj h)
mutual
def bD (h:Heap):Value→AV→Prop
 |v,.none=>v=.none
 |v,.bool b=>v=.bool b
 |v,.int i=>∃ t,v=.int i t
 |v,.str x=>GX x∧∃ t,v=.str (sx x) t
 |v,.tup vs=>∃ a items n,v=.ref a∧h.get? a=some (fN items n)∧bY h items.toList vs∧vs.length≤cX
 |v,.loc a=>v=.ref a
def bY (h:Heap):List Value→List AV→Prop
 |ws,[]=>ws=[]
 |ws,a::r=>∃ w ws',ws=w::ws'∧bD h w a∧bY h ws' r
end
theorem bY.cons {h:Heap}{w:Value}{a:AV}{ws:List Value}{as:List AV}(x:bD h w a)(y:bY h ws as):bY h (w::ws) (a::as):=⟨w,ws,rfl,x,y⟩
theorem bD.mkI {h:Heap}(i:Int)(t:Tok):bD h (.int i t) (.int i):=⟨t,rfl⟩
theorem bD.mkL {h:Heap}(a:Addr):bD h (.ref a) (.loc a):=rfl
theorem bD.mkN {h:Heap}:bD h .none .none:=rfl
theorem bD.mkB {h:Heap}(b:Bool):bD h (.bool b) (.bool b):=rfl
theorem bY.nil {h:Heap}:bY h [] []:=rfl
theorem bD.mkT {h:Heap}{a:Addr}{items:Array Value}{n:Nat}{vs:List AV}(e:h.get? a=some (fN items n))(r:bY h items.toList vs)(z:vs.length≤cX):bD h (.ref a) (.tup vs):=⟨a,items,n,rfl,e,r,z⟩
theorem bD.mkS {h:Heap}{x:Sx}(o:GX x)(t:Tok):bD h (.str (sx x) t) (.str x):=⟨o,t,rfl⟩
def cP (h h':Heap):Prop:=∀ a items n,h.get? a=some (fN items n)→h'.get? a=some (fN items n)
theorem cP.refl (h:Heap):cP h h:=λ ω ω ω e=>e
theorem cP.trans {h h' h'':Heap}(x:cP h h')(y:cP h' h''):cP h h'':=λ a i n e=>y a i n (x a i n e)
section
variable {h h':Heap}(k:cP h h')
include k
mutual
theorem bD.mono:∀ {v:Value} (a:AV),bD h v a→bD h' v a
 |_,.none,x=>x
 |_,.bool _,x=>x
 |_,.int _,x=>x
 |_,.str _,x=>x
 |_,.tup vs,⟨a,items,n,e,e2,r,z⟩=>⟨a,items,n,e,k _ _ _ e2,bY.mono vs r,z⟩
 |_,.loc _,x=>x
theorem bY.mono:∀ {vs:List Value} (as:List AV),bY h vs as→bY h' vs as
 |_,[],x=>x
 |_,a::r,⟨w,ws,e,x,y⟩=>⟨w,ws,e,bD.mono a x,bY.mono r y⟩
end
end
section
variable {h h':Heap}
theorem bD.up {v:Value}{a:AV}(x:bD h v a)(k:cP h h'):bD h' v a:=bD.mono k a x
theorem bY.up {v:List Value}{a:List AV}(x:bY h v a)(k:cP h h'):bY h' v a:=bY.mono k a x
def CJ (h:Heap):Option Value→Option AV→Prop
 |v,none=>v=none
 |v,some a=>∃ w,v=some w∧bD h w a
theorem bY.length {as:List AV}:∀ {vs:List Value},bY h vs as→vs.length=as.length:=by
 induction as with
 |nil=>exact λ e=>ae List.length e
 |cons a r ih=>rintro _ ⟨_,_,e,_,y⟩;exact (ae List.length e).trans (ae (·+1) (ih y))
theorem bY.get {a:AV}{as:List AV}:∀ {vs:List Value} {i:Nat},bY h vs as→as[i]? =some a→∃ v,vs[i]? =some v∧bD h v a:=by
 induction as with
 |nil=>exact λ ω e=>nomatch e
 |cons b r ih=>
  rintro _ i ⟨w,ws,rfl,x,y⟩ e
  rcases i with _|i
  ·exact⟨w,rfl,aA e▸x⟩
  ·exact ih (i:=i) y e
theorem bY.nget {as:List AV}{vs:List Value}{i:Nat}(x:bY h vs as)(e:as[i]? =none):vs[i]? =none:=List.getElem?_eq_none_iff.mpr (x.length▸List.getElem?_eq_none_iff.mp e)
theorem bY.append {bs:List AV}{ws:List Value}{as:List AV}(y:bY h ws bs):∀ {vs:List Value},bY h vs as→bY h (vs++ws) (as++bs):=by
 induction as with
 |nil=>exact λ e=>by cases e;exact y
 |cons a r ih=>rintro _ ⟨w,ws',rfl,x,z⟩;exact .cons x (ih z)
theorem bY.reverse {as:List AV}:∀ {vs:List Value},bY h vs as→bY h vs.reverse as.reverse:=by
 induction as with
 |nil=>exact λ e=>by cases e;exact rfl
 |cons a r ih=>
  rintro _ ⟨w,ws',rfl,x,z⟩
  rw[List.reverse_cons,List.reverse_cons];exact bY.append (bs:=[a]) (ws:=[w]) (.cons x rfl) (ih z)
theorem bY.take {as:List AV}:∀ (n:Nat) {vs:List Value},bY h vs as→bY h (vs.take n) (as.take n):=by
 induction as with
 |nil=>exact λ n ω e=>by cases e;rw[List.take_nil,List.take_nil];exact rfl
 |cons a r ih=>
  rintro n _ ⟨w,ws',rfl,x,z⟩
  cases n with
  |zero=>exact rfl
  |succ n=>exact .cons x (ih n z)
theorem bY.drop {as:List AV}:∀ (n:Nat) {vs:List Value},bY h vs as→bY h (vs.drop n) (as.drop n):=by
 induction as with
 |nil=>exact λ n ω e=>by cases e;rw[List.drop_nil,List.drop_nil];exact rfl
 |cons a r ih=>
  rintro n _ ⟨w,ws',rfl,x,z⟩
  cases n with
  |zero=>exact .cons x z
  |succ n=>exact ih n z
theorem bY.set {v:Value}{b:AV}(ra:bD h v b){as:List AV}:∀ (n:Nat) {vs:List Value},bY h vs as→bY h (vs.set n v) (as.set n b):=by
 induction as with
 |nil=>exact λ n ω e=>by cases e;exact rfl
 |cons a r ih=>
  rintro n _ ⟨w,ws',rfl,x,z⟩
  cases n with
  |zero=>exact .cons ra z
  |succ n=>exact .cons x (ih n z)
def d9 {κ:Type}(h:Heap):List (κ×Value)→List (κ×AV)→Prop
 |cs,[]=>cs=[]
 |cs,(k,a)::r=>∃ v cs',cs=(k,v)::cs'∧bD h v a∧d9 h cs' r
section
variable {κ:Type}[DecidableEq κ]
theorem d9.cons {k:κ}{v:Value}{a:AV}{cs:List (κ×Value)}{as:List (κ×AV)}(x:bD h v a)(y:d9 h cs as):d9 h ((k,v)::cs) ((k,a)::as):=⟨v,cs,rfl,x,y⟩
theorem d9.up {as:List (κ×AV)}(t:cP h h'):∀ {cs:List (κ×Value)},d9 h cs as→d9 h' cs as:=by
 induction as with
 |nil=>exact λ e=>e
 |cons p r ih=>rintro _ ⟨v,cs,e,x,y⟩;exact⟨v,cs,e,x.up t,ih y⟩
theorem d9.keys {as:List (κ×AV)}:∀ {cs:List (κ×Value)},d9 h cs as→cs.map (·.1)=as.map (·.1):=by
 induction as with
 |nil=>exact λ e=>by cases e;rfl
 |cons p r ih=>rintro _ ⟨v,cs,rfl,x,y⟩;exact ae (p.1::·) (ih y)
theorem d9.length {as:List (κ×AV)}{cs:List (κ×Value)}(r:d9 h cs as):cs.length=as.length:=(ak (·.1)).symm.trans ((ae List.length r.keys).trans (ak _))
theorem pz {k j:κ}{v:Value}{r:List (κ×Value)}(e:k=j):valueAt ((k,v)::r) j=some v:=by
 unfold valueAt;rw[List.find?_cons,decide_eq_true e];rfl
theorem qa {k j:κ}{v:Value}{r:List (κ×Value)}(e:¬ k=j):valueAt ((k,v)::r) j=valueAt r j:=by
 unfold valueAt;rw[List.find?_cons,decide_eq_false e]
theorem ww {k j:κ}{v:AV}{r:List (κ×AV)}(h:k=j):bM ((k,v)::r) j=some v:=aL h
theorem v8 {k j:κ}{v:AV}{r:List (κ×AV)}(h:¬ k=j):bM ((k,v)::r) j=bM r j:=aK h
theorem wh {k j:κ}{v w:AV}{r:List (κ×AV)}(h:k=j):cn ((k,v)::r) j w=(k,w)::r:=aL h
theorem sX {k j:κ}{v w:AV}{r:List (κ×AV)}(h:¬ k=j):cn ((k,v)::r) j w=(k,v)::cn r j w:=aK h
theorem d9.at {k:κ}{as:List (κ×AV)}:∀ {cs:List (κ×Value)},d9 h cs as→CJ h (valueAt cs k) (bM as k):=by
 induction as with
 |nil=>exact λ e=>by cases e;exact rfl
 |cons p r ih=>
  rintro _ ⟨v,cs,rfl,x,y⟩
  by_cases q:p.1=k
  ·rw[pz q,ww q];exact⟨v,rfl,x⟩
  ·rw[qa q,v8 q];exact ih y
theorem qM {k:κ}{v v₀:Value}{r:List (κ×Value)}(hn:k∉r.map (·.1)):stored ((k,v₀)::r) k v=(k,v)::r:=by
 unfold stored;rw[List.any_cons,decide_eq_true rfl,Bool.true_or,aL rfl,List.map_cons,aL rfl,map_store_of_not_mem r k v hn]
theorem ry {k k₁:κ}{v v₀:Value}{r:List (κ×Value)}(hk:¬ k₁=k):stored ((k₁,v₀)::r) k v=(k₁,v₀)::stored r k v:=by
 unfold stored;rw[List.any_cons,decide_eq_false hk,Bool.false_or,List.map_cons,aK hk]
 split<;>rfl
theorem d9.put {k:κ}{v:Value}{a:AV}(ha:bD h v a){as:List (κ×AV)}:∀ {cs:List (κ×Value)},(cs.map (·.1)).Nodup→d9 h cs as→d9 h (stored cs k v) (cn as k a):=by
 induction as with
 |nil=>exact λ ω e=>by cases e;exact .cons ha rfl
 |cons p r ih=>
  rintro _ hn ⟨v,cs,rfl,x,y⟩
  have hn':=List.nodup_cons.mp hn
  by_cases q:p.1=k
  ·rw[wh q];subst q;rw[qM hn'.1];exact .cons ha y
  ·rw[sX q,ry q];exact .cons x (ih hn'.2 y)
theorem d9.append {k:κ}{v:Value}{a:AV}(ha:bD h v a){as:List (κ×AV)}:∀ {cs:List (κ×Value)},d9 h cs as→d9 h (cs++[(k,v)]) (as++[(k,a)]):=by
 induction as with
 |nil=>exact λ e=>by cases e;exact .cons ha rfl
 |cons p r ih=>rintro _ ⟨v,cs,rfl,x,y⟩;exact .cons x (ih y)
theorem fZ (k:κ)(a:AV)(as:List (κ×AV)):(cn as k a).length≤as.length+1:=by
 induction as with
 |nil=>exact au _
 |cons p r ih=>
  by_cases q:p.1=k
  ·rw[wh q];exact aM _
  ·rw[sX q];exact aD ih
end
noncomputable def rT (p:Sx×AV):Str×AV:=(sx p.1,p.2)
theorem uR (k:Sx)(as:List (Sx×AV)):bM (as.map rT) (sx k)=bM as k:=by
 induction as with
 |nil=>rfl
 |cons p r ih=>
  by_cases q:p.1=k
  ·exact (aL (ae sx q)).trans (aL q:bM (p::r) k=_).symm
  ·exact (aK λ z=>q (jz z)).trans (ih.trans (aK q:bM (p::r) k=_).symm)
theorem zP (k:Sx)(a:AV)(as:List (Sx×AV)):cn (as.map rT) (sx k) a=(cn as k a).map rT:=by
 induction as with
 |nil=>rfl
 |cons p r ih=>
  by_cases q:p.1=k
  ·exact (aL (ae sx q)).trans (ae (List.map rT) (aL q:cn (p::r) k a=(p.1,a)::r)).symm
  ·exact (aK λ z=>q (jz z)).trans ((ae (rT p::·) ih).trans (ae (List.map rT) (aK q:cn (p::r) k a=p::cn r k a)).symm)
noncomputable def u6 (p:List Int×Addr×Value):List Int×Value:=(p.1,p.2.2)
theorem FS (k:List Int)(cs:List (List Int×Addr×Value)):(atKey cs k).map (·.2)=valueAt (cs.map u6) k:=by
 induction cs with
 |nil=>rfl
 |cons p r ih=>
  by_cases q:p.1=k
  ·refine Eq.trans ?_ (pz q).symm;unfold atKey;rw[List.find?_cons,decide_eq_true q];rfl
  ·refine Eq.trans ?_ (ih.trans (qa q).symm);unfold atKey;rw[List.find?_cons,decide_eq_false q]
theorem AK {k:List Int}{p:List Int×Addr×Value}{r:List (List Int×Addr×Value)}(q:¬ p.1=k):atKey (p::r) k=atKey r k:=by unfold atKey;rw[List.find?_cons,decide_eq_false q]
theorem AM {k:List Int}{x:Addr}{v:Value}{cs:List (List Int×Addr×Value)}:(cs.map (·.1)).Nodup→(storedH cs k x v).map u6=stored (cs.map u6) k v:=by
 induction cs with
 |nil=>exact λ ω=>rfl
 |cons p r ih=>
  intro hn;have hn':=List.nodup_cons.mp hn;have hm:(r.map u6).map (·.1)=r.map (·.1):=List.map_map ..
  by_cases q:p.1=k
  ·subst q;refine Eq.trans ?_ (qM (hm▸hn'.1)).symm;unfold storedH;rw[show atKey (p::r) p.1=some p.2 by unfold atKey;rw[List.find?_cons,decide_eq_true rfl];rfl,aL (c:=(some p.2).isSome=true) rfl,List.map_cons,map_putAt_of_not_mem r p.1 v hn'.1];unfold putAt;rw[aL rfl];rfl
  ·refine Eq.trans ?_ ((ae (u6 p::·) (ih hn'.2)).trans (ry q).symm);unfold storedH;rw[AK q]
   split
   ·rw[List.map_cons];unfold putAt;rw[aK q];rfl
   ·rfl
def ou (h:Heap):List DictEntry→List (Sx×AV)→Prop
 |es,[]=>es=[]
 |es,(k,a)::r=>∃ e es',es=e::es'∧(∃ t,e.key=.str (sx k) t)∧bD h e.val a∧ou h es' r
theorem ou.up {as:List (Sx×AV)}(t:cP h h'):∀ {es:List DictEntry},ou h es as→ou h' es as:=by
 induction as with
 |nil=>exact λ e=>e
 |cons p r ih=>rintro _ ⟨v,cs,e,q,x,y⟩;exact⟨v,cs,e,q,x.up t,ih y⟩
theorem ou.length {as:List (Sx×AV)}:∀ {es:List DictEntry},ou h es as→es.length=as.length:=by
 induction as with
 |nil=>exact λ e=>by cases e;rfl
 |cons p r ih=>rintro _ ⟨v,cs,rfl,_,_,y⟩;exact ae (·+1) (ih y)
end
def d4 (o:Obj):Prop:=o.cls=.type "tuple"∧∃ items n,o.data=.seq items n
theorem lw {o:Obj}(h:o.cls≠.type "tuple"):¬ d4 o:=λ x=>h x.1
theorem Ap:(Value.type "list")≠.type "tuple":=by decide
theorem f7 {x:Array Value}{n:Nat}:¬ d4 (dJ x n):=lw Ap
section
variable (prog:Program)(w:World)
def de (h:Heap)(a:Addr):bO→Prop
 |.list vs=>∃ items n,h.get? a=some (dJ items n)∧bY h items.toList vs∧vs.length≤cX
 |.dI kvs=>∃ cs,h.DictOf (intKind prog w) a cs∧d9 h cs kvs∧kvs.length≤cX
 |.dS kvs=>∃ cs,h.DictOf (strKind prog w) a cs∧d9 h cs (kvs.map rT)∧kvs.length≤cX
 |.dT kvs=>∃ cs,h.DictOfH (tupleKind (intKind prog w)) a cs∧d9 h (cs.map u6) kvs∧kvs.length≤cX
 |.dF o kvs=>h.get? a=some o∧∃ cs,o.IsDictOf (intKind prog w) cs∧d9 h cs kvs∧kvs.length≤cX
 |.lF items n vs=>h.get? a=some (dJ items n)∧bY h items.toList vs∧vs.length≤cX
 |.ns fs=>∃ es n,h.get? a=some (dictOf es n)∧ou h es fs
 |.inst C dx=>h.get? a=some (instObj C dx)
 |.cell v=>∃ o cv,h.get? a=some o∧o.data=.cell cv∧CJ h cv v
 |.raw o=>h.get? a=some o∧¬ d4 o
variable {prog w}{h h':Heap}{a:Addr}
theorem dt {o:Obj}{es:Array DictEntry}{ep:Nat}(h:o.data=.dict es ep):¬ d4 o:=λ⟨_,_,_,z⟩=>nomatch h.symm.trans z
theorem de.obj {ob:bO}(x:de prog w h a ob):∃ o,h.get? a=some o∧¬ d4 o:=by
 rcases ob with vs|kvs|kvs|kvs|⟨o,kvs⟩|⟨items,n,vs⟩|fs|⟨C,dx⟩|v|o
 ·obtain⟨items,n,e,_⟩:=x;exact⟨_,e,f7⟩
 ·obtain⟨cs,⟨o,es,ep,e,_,hd,_⟩,_⟩:=x;exact⟨o,e,dt hd⟩
 ·obtain⟨cs,⟨o,es,ep,e,_,hd,_⟩,_⟩:=x;exact⟨o,e,dt hd⟩
 ·obtain⟨cs,⟨o,es,ep,e,_,hd,_⟩,_⟩:=x;exact⟨o,e,dt hd⟩
 ·obtain⟨e,cs,⟨es,ep,_,hd,_⟩,_⟩:=x;exact⟨o,e,dt hd⟩
 ·exact⟨_,x.1,f7⟩
 ·obtain⟨es,n,e,_⟩:=x;exact⟨_,e,dt rfl⟩
 ·exact⟨_,x,λ⟨_,_,_,z⟩=>nomatch z⟩
 ·obtain⟨o,cv,e,hd,_⟩:=x;exact⟨o,e,λ⟨_,it,n,q⟩=>nomatch hd.symm.trans q⟩
 ·exact⟨o,x⟩
theorem ox {ks:List Int}(k:∀ b o,h.get? b=some o→d4 o→h'.get? b=some o)
  (x:IsTupleKey (intKind prog w) h ks a):IsTupleKey (intKind prog w) h' ks a:=
 by obtain⟨o,items,n,e,hc,hd,r⟩:=x;exact⟨o,items,n,k a o e ⟨hc,items,n,hd⟩,hc,hd,r⟩
theorem de.mono {ob:bO}(k:∀ b o,h.get? b=some o→(b=a∨d4 o)→h'.get? b=some o)
  (x:de prog w h a ob):de prog w h' a ob:=by
 have kt:cP h h':=λ b items n e=>k b _ e (.inr ⟨rfl,items,n,rfl⟩);rcases ob with vs|kvs|kvs|kvs|⟨o,kvs⟩|⟨items,n,vs⟩|fs|⟨C,dx⟩|v|o
 ·obtain⟨items,n,e,r,z⟩:=x;exact⟨items,n,k _ _ e (.inl rfl),r.up kt,z⟩
 ·obtain⟨cs,⟨o,es,ep,e,q⟩,r,z⟩:=x;exact⟨cs,⟨o,es,ep,k _ _ e (.inl rfl),q⟩,r.up kt,z⟩
 ·obtain⟨cs,⟨o,es,ep,e,q⟩,r,z⟩:=x;exact⟨cs,⟨o,es,ep,k _ _ e (.inl rfl),q⟩,r.up kt,z⟩
 ·obtain⟨cs,⟨o,es,ep,e,q1,q2,q3,q4,q5⟩,r,z⟩:=x;exact⟨cs,⟨o,es,ep,k _ _ e (.inl rfl),q1,q2,q3,λ y hy=>ox (λ b o e hc=>k b o e (.inr hc)) (q4 y hy),q5⟩,r.up kt,z⟩
 ·obtain⟨e,cs,q,r,z⟩:=x;exact⟨k _ _ e (.inl rfl),cs,q,r.up kt,z⟩
 ·exact⟨k _ _ x.1 (.inl rfl),x.2.1.up kt,x.2.2⟩
 ·obtain⟨es,n,e,r⟩:=x;exact⟨es,n,k _ _ e (.inl rfl),r.up kt⟩
 ·exact k _ _ x (.inl rfl)
 ·obtain⟨o,cv,e,hd,r⟩:=x;refine⟨o,cv,k _ _ e (.inl rfl),hd,?_⟩;rcases v with _|v
  ·exact r
  ·obtain⟨u,e,r⟩:=r;exact⟨u,e,r.up kt⟩
 ·exact⟨k _ _ x.1 (.inl rfl),x.2⟩
end
structure dg (prog:Program)(w:World)(H:Heap)(σ:bH)(h:Heap):Prop where
 base:∀ b o,H.get? b=some o→h.get? b=some o
 objs:∀ a ob,σ a=some ob→H.get? a=none∧de prog w h a ob
structure cq (X:Addr→Prop)(σ:bH)(h:Heap)(σ':bH)(h':Heap):Prop where
 keep:∀ b o,h.get? b=some o→σ b=none→¬ X b→h'.get? b=some o
 fresh:∀ b,h.get? b≠none→σ b=none→σ' b=none
 alive:∀ b,h'.get? b=none→h.get? b=none
theorem RA {σ:bH}{a:Addr}{o:bO}:(σ.upd a o) a=some o:=aL rfl
theorem fB {σ:bH}{a b:Addr}{o:bO}(h:b≠a):(σ.upd a o) b=σ b:=aK h
section
variable {prog:Program}{w:World}{H:Heap}{σ σ' σ'':bH}{h h' h'':Heap}{X:Addr→Prop}{a:Addr}{ob ob':bO}
theorem cz {α:Type}{x:Option α}{y:α}(h:x=none)(e:x=some y):False:=nomatch h.symm.trans e
theorem jq {o:Obj}(e:h.get? a=some o):h.get? a≠none:=λ z=>nomatch e.symm.trans z
theorem cq.refl:cq X σ h σ h:=⟨λ ω ω e ω ω=>e,λ ω ω e=>e,λ ω e=>e⟩
theorem cq.trans (s:cq X σ h σ' h')(t:cq X σ' h' σ'' h''):cq X σ h σ'' h'':=
 ⟨λ b o e hn hx=>t.keep b o (s.keep b o e hn hx) (s.fresh b (jq e) hn) hx,λ b e hn=>t.fresh b (λ z=>e (s.alive b z)) (s.fresh b e hn),λ b e=>s.alive b (t.alive b e)⟩
theorem cq.weaken {Y:Addr→Prop}(hxy:∀ b,X b→Y b)(s:cq X σ h σ' h'):cq Y σ h σ' h':=⟨λ b o e hn hy=>s.keep b o e hn λ hx=>hy (hxy b hx),s.fresh,s.alive⟩
theorem dg.notTup (G:dg prog w H σ h){o:Obj}(e:h.get? a=some o)(hc:d4 o):σ a=none:=by
 cases q:σ a with
 |none=>rfl
 |some ob=>obtain⟨o',e',hc'⟩:=(G.objs a ob q).2.obj;exact absurd hc (aA (e.symm.trans e')▸hc')
def Gw (X:Addr→Prop)(h:Heap):Prop:=∀ a o,X a→h.get? a=some o→¬ d4 o
theorem nW:Gw (λ ω=>False) h:=λ ω ω x=>x.elim
theorem cq.tupLe (G:dg prog w H σ h)(hX:Gw X h)(s:cq X σ h σ' h'):cP h h':=
 λ a items n e=>s.keep a _ e (G.notTup e ⟨rfl,items,n,rfl⟩) λ x=>hX a _ x e ⟨rfl,items,n,rfl⟩
theorem dg.live (G:dg prog w H σ h)(e:σ a=some ob):h.get? a≠none:=by obtain⟨o,x,_⟩:=(G.objs a ob e).2.obj;exact jq x
theorem dg.fresh (G:dg prog w H σ h)(e:h.get? a=none):σ a=none:=by
 cases q:σ a with
 |none=>rfl
 |some ob=>exact absurd e (G.live q)
theorem dg.freshH (G:dg prog w H σ h)(e:h.get? a=none):H.get? a=none:=by
 cases q:H.get? a with
 |none=>rfl
 |some o=>exact nomatch e.symm.trans (G.base a o q)
theorem dK {n:Nat}(hn:h.objs.size≤n):h.get? n=none:=by
 cases q:h.get? n with
 |none=>rfl
 |some o=>exact absurd (Heap.lt_size q) (Nat.not_lt.mpr hn)
theorem cu (h:Heap):h.get? h.objs.size=none:=dK (au _)
def kg (h h':Heap):Prop:=∀ b o,h.get? b=some o→h'.get? b=some o
theorem kg.push (o:Obj):kg h (h.push o):=λ b o' e=>Heap.get?_push_of_some _ e
theorem kg.trans (x:kg h h')(y:kg h' h''):kg h h'':=λ b o e=>y b o (x b o e)
theorem kg.tup (x:kg h h'):cP h h':=λ a i n e=>x a _ e
theorem kg.alive (x:kg h h')(b:Addr)(e:h'.get? b=none):h.get? b=none:=by
 cases q:h.get? b with
 |none=>rfl
 |some o=>exact nomatch e.symm.trans (x b o q)
theorem dg.ext (G:dg prog w H σ h)(x:kg h h'):dg prog w H σ h':=⟨λ b o e=>x b o (G.base b o e),λ b ob e=>⟨(G.objs b ob e).1,(G.objs b ob e).2.mono λ b o e ω=>x b o e⟩⟩
theorem cq.ext (x:kg h h'):cq X σ h σ h':=⟨λ b o e ω ω=>x b o e,λ b ω e=>e,x.alive⟩
theorem nj {b:Addr}(e:(σ.upd a ob) b=some ob'):(b=a∧ob=ob')∨(b≠a∧σ b=some ob'):=by
 by_cases q:b=a
 ·exact .inl ⟨q,aA ((aL q).symm.trans e)⟩
 ·exact .inr ⟨q,(aK q).symm.trans e⟩
theorem dg.own (G:dg prog w H σ h)(hH:H.get? a=none)(hob:de prog w h a ob):dg prog w H (σ.upd a ob) h:=
 ⟨G.base,λ b ob' e=>(nj e).elim (λ⟨q,z⟩=>q▸z▸⟨hH,hob⟩) λ⟨_,z⟩=>G.objs b ob' z⟩
theorem cq.own (S:cq X σ h σ' h')(hf:h.get? a=none):cq X σ h (σ'.upd a ob) h':=
 ⟨S.keep,λ b e hn=>(fB λ q:b=a=>e (ae h.get? q▸hf)).trans (S.fresh b e hn),S.alive⟩
theorem dg.turn (G:dg prog w H σ h)(e:σ a=some ob)(hk:∀ b o,b≠a→h.get? b=some o→h'.get? b=some o)(hob:de prog w h' a ob'):dg prog w H (σ.upd a ob') h':=by
 obtain⟨o',z',hc'⟩:=(G.objs a ob e).2.obj;refine⟨λ b o x=>?_,λ b ob₁ x=>?_⟩
 ·exact hk b o (λ q=>cz (G.objs a ob e).1 (ae H.get? q▸x)) (G.base b o x)
 ·rcases nj x with⟨q,z⟩|⟨q,z⟩
  ·exact q▸z▸⟨(G.objs a ob e).1,hob⟩
  ·refine⟨(G.objs b ob₁ z).1,(G.objs b ob₁ z).2.mono λ c o y hc=>hk c o (λ p=>?_) y⟩;subst p;exact hc.elim (λ p=>q p.symm) λ p=>hc' (aA (y.symm.trans z')▸p)
theorem cq.turn (e:σ a=some ob)(hk:∀ b o,b≠a→h.get? b=some o→h'.get? b=some o)(hob:de prog w h' a ob'):cq X σ h (σ.upd a ob') h':=by
 have ne:∀ {b},σ b=none→b≠a:=λ hn q=>nomatch (q▸hn).symm.trans e;refine⟨λ b o x hn ω=>hk b o (ne hn) x,λ b ω hn=>(fB (ne hn)).trans hn,λ b x=>?_⟩
 by_cases q:b=a
 ·obtain⟨o',z,_⟩:=hob.obj;exact (cz (ae h'.get? q▸x) z).elim
 ·cases z:h.get? b with
  |none=>rfl
  |some o=>exact (cz x (hk b o q z)).elim
theorem dg.upd (G:dg prog w H σ h)(e:σ a=some ob)(hk:∀ b,b≠a→h'.get? b=h.get? b)(hob:de prog w h' a ob'):dg prog w H (σ.upd a ob') h':=G.turn e (λ b o q x=>(hk b q).trans x) hob
theorem cq.upd (e:σ a=some ob)(hk:∀ b,b≠a→h'.get? b=h.get? b)(hob:de prog w h' a ob'):cq X σ h (σ.upd a ob') h':=.turn e (λ b o q x=>(hk b q).trans x) hob
end
structure f4 (n:Nat)(A:Around):Prop where
 hd:A.handled=none
 dep:A.depth+2*n<1000
 un:A.units+40*n+200<9900
structure xB (k n:Nat)(A:Around):Prop where
 hd:A.handled=none
 dep:A.depth+k+2*n<1000
 un:A.units+20*k+40*n+200<9900
theorem ro1 {a n:Nat}(h:a+40*n+200<9900):a+65<9900:=by lia
theorem ro2 {a n:Nat}(h:a+2*n<1000):a<1000:=ac (ah ..) h
theorem ro3 {a k n:Nat}(h:a+k+2*n<1000):a+2*n<1000:=by lia
theorem ro4 {a k n:Nat}(h:a+20*k+40*n+200<9900):a+40*n+200<9900:=by lia
theorem f4.units64 {n:Nat}{A:Around}(r:f4 n A):A.units+65<cLine:=ro1 r.un
theorem f4.units1 {n:Nat}{A:Around}(r:f4 n A):A.units+1<cLine:=ac (aP (show 1≤65 by decide) _) r.units64
theorem f4.room {n:Nat}{A:Around}(r:f4 n A):A.depth<recursionLimit:=ro2 r.dep
theorem xB.room {k n:Nat}{A:Around}(r:xB k n A):f4 n A:=⟨r.hd,ro3 r.dep,ro4 r.un⟩
def gw (s s':Shared):Prop:=∃ h tk,s'={ s with heap:=h,toks:=tk }
theorem gw.refl (s:Shared):gw s s:=⟨s.heap,s.toks,rfl⟩
theorem gw.trans {s s' s'':Shared}(x:gw s s')(y:gw s' s''):gw s s'':=by
 obtain⟨h,t,rfl⟩:=x;obtain⟨h',t',rfl⟩:=y;exact⟨h',t',rfl⟩
structure Cx where
 prog:Program
 w:World
 H:Heap
 K:Frag
 mg:Str→Option Value
 mb:Str→Option Value
 X:K.In H
 g:H.Ns mainGlobals mg
 b:H.Ns builtinsNs mb
 bi:∀ x:Str,x≠"__name__"→mb x=bootBuiltins x
 nolim:H.NoLimit
 sm:∃ o,H.get? sysModules=some o
 dig:∃ mc,H.Ns cStatics mc∧mc "sys.int_max_str_digits"=none
abbrev Cx.good (c:Cx)(σ:bH)(h:Heap):Prop:=dg c.prog c.w c.H σ h
noncomputable abbrev Cx.M (c:Cx):Model:=model c.prog c.w
noncomputable abbrev uw (α β:Type):=Heap→α→β→Prop
structure Res {α β:Type}(c:Cx)(X:Addr→Prop)(R:uw α β)(σ:bH)(s:Shared)(Q:β→SP)(v:α)(s':Shared)(b:β)(σ':bH):Prop where
 q:Q b σ'
 r:R s'.heap v b
 g:c.good σ' s'.heap
 st:cq X σ s.heap σ' s'.heap
 t:gw s s'
def Cx.Res {α β:Type}(c:Cx)(X:Addr→Prop)(R:uw α β)(σ:bH)(s:Shared)(Q:β→SP)(v:α)(s':Shared):Prop:=∃ b σ',Mine.Res c X R σ s Q v s' b σ'
def cN:Addr→Prop:=λ ω=>False
def gy:Value→Shared→Prop:=λ ω ω=>False
def Cx.J {α β:Type}(c:Cx)(A:Around)(X:Addr→Prop)(R:uw α β)(t:Sem α)(σ:bH)(s:Shared)(Q:β→SP):Prop:=wpAny c.M A t (c.Res X R σ s Q) gy s
section
variable {c:Cx}{α β γ δ:Type}{A:Around}{X:Addr→Prop}{R:uw α β}{R':uw γ δ}{σ σ₁:bH}{s s₁:Shared}{Q:β→SP}{v:α}{b:β}
theorem cq.tl {σ':bH}{h':Heap}(S:cq cN σ s.heap σ' h')(G:c.good σ s.heap):cP s.heap h':=S.tupLe G nW
theorem Cx.Res.shift {Q:δ→SP}{v:γ}{s₂:Shared}(S:cq X σ s.heap σ₁ s₁.heap)(T:gw s s₁)(h:c.Res X R' σ₁ s₁ Q v s₂):c.Res X R' σ s Q v s₂:=by
 obtain⟨b,σ',h⟩:=h;exact⟨b,σ',h.q,h.r,h.g,S.trans h.st,T.trans h.t⟩
theorem J.mono {t:Sem α}{P:β→SP}(h:c.J A X R t σ s P)(k:∀ b σ',P b σ'→Q b σ'):c.J A X R t σ s Q:=
 wpAny_mono h (λ ω ω h=>by obtain⟨b,σ',h⟩:=h;exact⟨b,σ',k b σ' h.q,h.r,h.g,h.st,h.t⟩) λ ω ω z=>z
theorem J.shift {t:Sem α}(S:cq X σ s.heap σ₁ s₁.heap)(T:gw s s₁)(h:c.J A X R t σ₁ s₁ Q):wpAny c.M A t (c.Res X R σ s Q) gy s₁:=wpAny_mono h (λ ω ω z=>z.shift S T) λ ω ω z=>z
theorem J.shift' {R':uw γ δ}{Q:δ→SP}{t:Sem γ}{s₂:Shared}(S:cq X σ s.heap σ₁ s₁.heap)(T:gw s s₁)(h:wpAny c.M A t (c.Res X R' σ₁ s₁ Q) gy s₂):wpAny c.M A t (c.Res X R' σ s Q) gy s₂:=wpAny_mono h (λ ω ω z=>z.shift S T) λ ω ω z=>z
theorem J.holding {vs:List Value}{t:Sem α}(h:c.J A X R t σ s Q):c.J A X R (holding vs t) σ s Q:=wpAny_holding h
theorem J.stand {t:Sem α}{pos:Pos}(h:c.J A X R t σ s Q):c.J A X R (standAt pos>>=λ ω=>t) σ s Q:=wpAny_bind (wpAny_standAt h)
theorem J.operate {X:Addr→Prop}{R:uw Value β}{vs:List Value}{t:Sem Value}(h:c.J A X R t σ s Q):c.J A X R (operate vs t) σ s Q:=wpAny_operating h
theorem o8 {σ':bH}{h':Heap}{tk:Nat}(q:Q b σ')(r:R h' v b)(g:c.good σ' h')(S:cq X σ s.heap σ' h'):c.Res X R σ s Q v { s with heap:=h',toks:=tk }:=⟨b,σ',q,r,g,S,⟨h',tk,rfl⟩⟩
theorem bN (tk:Nat)(G:c.good σ s.heap)(r:R s.heap v b)(q:Q b σ):c.Res X R σ s Q v { s with toks:=tk }:=o8 q r G .refl
theorem w4 {h':Heap}(tk:Nat)(G:c.good σ s.heap)(x:kg s.heap h')(r:R h' v b)(q:Q b σ):c.Res X R σ s Q v { s with heap:=h',toks:=tk }:=o8 q r (G.ext x) (.ext x)
end
noncomputable abbrev qb:uw Bool Bool:=λ ω v b=>v=b
noncomputable abbrev n6:uw Value Bool:=λ ω v b=>v=.bool b
noncomputable abbrev Ce:uw Unit Unit:=λ ω ω ω=>True
noncomputable abbrev kU (X:SP):Unit→SP:=λ ω=>X
theorem yn {ob:bO}{Q:bI}{σ:bH}(h:dq ob Q σ):∀ a,σ a=none→Q (.loc a) (σ.upd a ob):=by unfold dq at h;exact h
section
variable {c:Cx}{A:Around}{σ σ₀:bH}{s s₀:Shared}{X:Addr→Prop}{Q:bI}
theorem dU {h':Heap}{a:Addr}{ob:bO}(tk:Nat)(G:c.good σ s.heap)(x:kg s.heap h')(hn:s.heap.get? a=none)(hob:de c.prog c.w h' a ob)(q:dq ob Q σ):c.Res X bD σ s Q (.ref a) { s with heap:=h',toks:=tk }:=
 o8 (b:=.loc a) (yn q a (G.fresh hn)) (.mkL a) ((G.ext x).own (G.freshH hn) hob) ((cq.ext x).own hn)
theorem xr {D:Addr}{ob:bO}(G:c.good σ s.heap)(S:cq cN σ₀ s₀.heap σ s.heap)(T:gw s₀ s)(hn:σ D=none)(hH:c.H.get? D=none)(hf:s₀.heap.get? D=none)(hob:de c.prog c.w s.heap D ob)(q:dq ob Q σ):c.Res cN bD σ₀ s₀ Q (.ref D) s:=
 ⟨.loc D,_,yn q D hn,.mkL D,G.own hH hob,S.own hf,T⟩
theorem dw:cX=sizeLine:=by rw[sizeLine_eq]
theorem n4 {vs:List Value}(hz:vs.length≤cX):sizeOk (.seq vs.toArray):=by
 show vs.toArray.size≤sizeLine;rw[List.size_toArray,←dw];exact hz
theorem qE {vs:List Value}{as:List AV}(G:c.good σ s.heap)(r:bY s.heap vs as)(hz:as.length≤cX)(q:dq (.list as) Q σ):c.J A X bD (newList vs) σ s Q:=
 wpAny_newObj_type (dU s.toks G (.push _) (ob:=.list as) (cu _) ⟨vs.toArray,0,Heap.get?_push_size _ rfl,r.up (kg.push _).tup,hz⟩ q) (n4 (r.length▸hz))
theorem vF {vs:List Value}{as:List AV}(G:c.good σ s.heap)(r:bY s.heap vs as)(hz:as.length≤cX)(q:Q (.tup as) σ):c.J A X bD (newTuple vs) σ s Q:=
 wpAny_newObj_type (w4 s.toks G (.push _) (.mkT (items:=vs.toArray) (n:=0) (Heap.get?_push_size _ rfl) (r.up (kg.push _).tup) hz) q) (n4 (r.length▸hz))
end
def OT (ns:List (Str×NameKind))(L:Addr)(m:bB)(h:Heap):Prop:=∃ mc,h.Ns L mc∧∀ x av,m x=some av→∃ p v,ns[x]? =some p∧mc p.1=some v∧bD h v av
structure fU (c:Cx)(ns:List (Str×NameKind))(L:Addr)(m:bB)(σ:bH)(h:Heap):Prop where
 ns:OT ns L m h
 own:σ L=none
 new:c.H.get? L=none
structure By (c:Cx)(env:Env)(cs:List (Sx×Addr))(ns:List (Str×NameKind)):Prop where
 kind:env.scope.kind=.function
 globals:env.globals=mainGlobals
 builtins:env.builtins=builtinsNs
 cells:∀ x a,zn cs x=some a→(ns.lookup (sx x)=some .cell∨ns.lookup (sx x)=some .free)→env.cells.lookup (sx x)=some a
 has:∀ x,(ns.lookup x=some .cell∨ns.lookup x=some .free)→∃ a,env.cells.lookup x=some a
 names:env.scope.names=ns
 nd:(ns.map (·.1)).Nodup
 ndb:∀ p∈ns,(p.1==("__debug__":Str))=false∧(p.1==("__classdict__":Str))=false
section
variable {c:Cx}{ns:List (Str×NameKind)}{L:Addr}{m:bB}{σ σ':bH}{h h':Heap}
theorem xS {mc:Str→Option Value}(n:h.Ns L mc):∃ o,h.get? L=some o∧¬ d4 o:=by obtain⟨o,es,ep,ho,hd,_⟩:=n;exact⟨o,ho,dt hd⟩
theorem fU.at (F:fU c ns L m σ h):∃ o,h.get? L=some o∧¬ d4 o:=by obtain⟨mc,hn,_⟩:=F.ns;exact xS hn
theorem OT.ext (F:OT ns L m h)(k:∀ o,h.get? L=some o→h'.get? L=some o)(tl:cP h h'):OT ns L m h':=by
 obtain⟨mc,⟨o,es,ep,ho,q⟩,hr⟩:=F;refine⟨mc,⟨o,es,ep,k _ ho,q⟩,λ x av e=>?_⟩;obtain⟨p,v,e1,e2,e3⟩:=hr x av e;exact⟨p,v,e1,e2,e3.up tl⟩
theorem fU.step (F:fU c ns L m σ h)(G:c.good σ h)(S:cq cN σ h σ' h'):fU c ns L m σ' h':=by
 obtain⟨o,ho,_⟩:=F.at;exact⟨F.ns.ext (λ o e=>S.keep _ _ e F.own id) (S.tupLe G nW),S.fresh L (jq ho) F.own,F.new⟩
end
def fC (c:Cx)(n:Nat)(f:Value)(vs:List AV)(σ:bH)(Q:bI):Prop:=
 ∀ A s args,f4 n A→c.good σ s.heap→bY s.heap args vs→c.J A cN bD (call f args []) σ s Q
mutual
noncomputable def jn:AV→PyData
 |.none=>.none
 |.int i=>.int i
 |.str s=>.str (sx s)
 |.tup vs=>.tuple (jC vs)
 |.bool _=>.none|.loc _=>.none
noncomputable def jC:List AV→List PyData
 |[]=>[]
 |v::r=>jn v::jC r
end
theorem bz {a b:Bool}(h:(a&&b)=true):a=true:=(Bool.and_eq_true_iff.mp h).1
theorem bA {a b:Bool}(h:(a&&b)=true):b=true:=(Bool.and_eq_true_iff.mp h).2
theorem nU {a b:Bool}(h:a=true)(h':b=true):(a&&b)=true:=Bool.and_eq_true_iff.mpr ⟨h,h'⟩
structure RdP (h:Heap)(v:Value)(d:PyData)(n:Nat):Prop where
 r:∃ as,Reads h v d as
 l:d.canLay0=true
 d:d.depth=n
structure RdL (h:Heap)(vs:List Value)(ds:List PyData)(n:Nat):Prop where
 r:∃ bs,ReadsAll h vs ds bs
 l:PyData.canLayAll0 ds=true
 d:PyData.depthAll ds=n
mutual
theorem ma {h:Heap}:∀ (a:AV) {v:Value},bD h v a→a.pl=true→RdP h v (jn a) a.dep
 |.none,_,x,_=>by obtain rfl:_=Value.none:=x;exact⟨⟨_,.none⟩,rfl,rfl⟩
 |.int i,_,x,_=>by obtain⟨t,rfl⟩:=x;exact⟨⟨_,.int i t⟩,rfl,rfl⟩
 |.str s,_,x,_=>by obtain⟨o,t,rfl⟩:=x;exact⟨⟨_,.str _ t⟩,o,rfl⟩
 |.tup vs,_,x,p=>by
  obtain⟨a,items,n,rfl,e,r,_⟩:=x;have R:=g4 vs r p;obtain⟨bs,q⟩:=R.r;exact⟨⟨_,.tuple e rfl rfl q⟩,R.l,ae (·+1) R.d⟩
 |.bool _,_,_,p=>nomatch p
 |.loc _,_,_,p=>nomatch p
theorem g4 {h:Heap}:∀ (as:List AV) {vs:List Value},bY h vs as→AV.pls as=true→RdL h vs (jC as) (AV.deps as)
 |[],_,x,_=>by obtain rfl:_=[]:=x;exact⟨⟨_,.nil⟩,rfl,rfl⟩
 |a::r,_,x,p=>by
  obtain⟨w,ws,rfl,x,y⟩:=x;have A:=ma a x (bz p);have B:=g4 r y (bA p);obtain⟨as,q⟩:=A.r;obtain⟨bs,q'⟩:=B.r;exact⟨⟨_,.cons q q'⟩,nU A.l B.l,congr (ae max A.d) B.d⟩
end
theorem Ea (xs ys:List PyData):PyData.eqv (.list xs) (.list ys)=PyData.eqvAll xs ys:=by rw[PyData.eqv]
theorem H6 {xs ys:List PyData}:PyData.eqv (.tuple xs) (.tuple ys)=PyData.eqvAll xs ys:=by rw[PyData.eqv]
theorem AV.int.injEq' {i j:Int}:(AV.int i=AV.int j)=(i=j):=propext ⟨λ h=>by injection h,ae _⟩
theorem Au {a b:Nat}(h:min a b≤50):min (a+1) (b+1)≤51:=by lia
mutual
theorem p1:∀ a b:AV,a.pl=true→b.pl=true→(PyData.eqv (jn a) (jn b)=true↔a=b)
 |.none,b,_,q=>by rcases b with _|_|_|_|_|_<;>first|(cases q;done)|simp[jn,PyData.eqv]
 |.int _,b,_,q=>by rcases b with _|_|_|_|_|_<;>first|(cases q;done)|simp[jn,PyData.eqv,AV.int.injEq']
 |.str _,b,_,q=>by rcases b with _|_|_|s|_|_<;>first|(cases q;done)|(rw[jn,jn,PyData.eqv,decide_eq_true_iff];exact⟨λ h=>ae _ (jz h),λ h=>by cases h;rfl⟩)|(rw[jn,jn,PyData.eqv,beq_iff_eq];exact⟨λ h=>ae _ (jz h),λ h=>by cases h;rfl⟩)|simp[jn,PyData.eqv]
 |.tup xs,b,p,q=>by
  rcases b with _|_|_|_|ys|_
  ·simp[jn,PyData.eqv]
  ·exact nomatch q
  ·simp[jn,PyData.eqv]
  ·simp[jn,PyData.eqv]
  ·rw[jn,jn,H6,nG xs ys p q];exact⟨ae _,λ h=>by cases h;rfl⟩
  ·exact nomatch q
 |.bool _,_,p,_=>nomatch p
 |.loc _,_,p,_=>nomatch p
theorem nG:∀ as bs:List AV,AV.pls as=true→AV.pls bs=true→(PyData.eqvAll (jC as) (jC bs)=true↔as=bs)
 |[],[],_,_=>⟨λ ω=>rfl,λ ω=>rfl⟩
 |[],_::_,_,_=>⟨nofun,nofun⟩
 |_::_,[],_,_=>⟨nofun,nofun⟩
 |a::r,b::q,p,p'=>by
  rw[jC,jC,PyData.eqvAll,Bool.and_eq_true,p1 a b (bz p) (bz p'),nG r q (bA p) (bA p'),List.cons.injEq]
end
theorem qY (a:AV)(pa:a.pl=true)(ys:List AV):AV.pls ys=true→(((jC ys).any λ y=>PyData.eqv y (jn a))=true↔a∈ys):=by
 induction ys with
 |nil=>exact λ ω=>⟨nofun,nofun⟩
 |cons y r ih=>
  intro p;rw[jC,List.any_cons,Bool.or_eq_true,p1 y a (bz p) pa,ih (bA p),List.mem_cons];exact or_congr_left ⟨Eq.symm,Eq.symm⟩
theorem mE:∀ {s t:Sx},p9 s t=true↔s=t:=by
 intro s
 induction s with
 |nil=>intro t;cases t with|nil=>exact⟨λ ω=>rfl,λ ω=>rfl⟩|cons _ _=>exact⟨nofun,nofun⟩
 |cons a r ih=>
  intro t;cases t with
  |nil=>exact⟨nofun,nofun⟩
  |cons b q=>
   show (match Nat.beq a b with|true=>p9 r q|false=>false)=true↔_;cases e:Nat.beq a b with
   |true=>rw[Nat.eq_of_beq_eq_true e,List.cons.injEq];exact ih.trans ⟨λ h=>⟨rfl,h⟩,λ h=>h.2⟩
   |false=>exact⟨nofun,λ h=>absurd ((List.cons.inj h).1) (Nat.ne_of_beq_eq_false e)⟩
section
variable {σ:bH}{K:BP}{x y:AV}{a b:Addr}{ys:List AV}
theorem pf {p:Prop}(h:g5 p K σ):∃ b,(b=true↔p)∧K b σ:=by
 unfold g5 at h
 by_cases q:p
 ·exact⟨true,⟨λ ω=>q,λ ω=>rfl⟩,h.1 q⟩
 ·exact⟨false,⟨nofun,λ z=>absurd z q⟩,h.2 q⟩
structure ZR (σ:bH)(K:BP)(x y:AV)(b:Bool):Prop where
 i:b=true↔x=y
 px:x.pl=true
 py:y.pl=true
 d:min x.dep y.dep≤50
 q:K b σ
theorem Qf (h:F0 K x y σ):∃ b,ZR σ K x y b:=by
 unfold F0 at h;obtain⟨h1,h2,h3,h4⟩:=h;obtain⟨b,i,q⟩:=pf h4;exact⟨b,i,h1,h2,h3,q⟩
structure ZV (σ:bH)(K:BP)(a b:Addr)(xs ys:List AV)(t:Bool):Prop where
 ex:σ a=some (.list xs)
 ey:σ b=some (.list ys)
 i:t=true↔xs=ys
 px:AV.pls xs=true
 py:AV.pls ys=true
 d:min (AV.deps xs) (AV.deps ys)≤50
 q:K t σ
theorem Py (h:Nz K a b σ):∃ xs ys t,ZV σ K a b xs ys t:=by
 unfold Nz at h;obtain⟨xs,ys,e1,e2,h1,h2,h3,h4⟩:=h;obtain⟨b,i,q⟩:=pf h4;exact⟨xs,ys,b,e1,e2,i,h1,h2,h3,q⟩
inductive Sg (σ:bH)(K:BP):AV→AV→Prop
 |d {x y:AV} {b:Bool}:ZR σ K x y b→Sg σ K x y
 |l {a b:Addr} {xs ys:List AV} {t:Bool}:ZV σ K a b xs ys t→Sg σ K (.loc a) (.loc b)
theorem XC (h:Sv K x y σ):Sg σ K x y:=by
 have T:F0 K x y σ→Sg σ K x y:=λ h=>by obtain⟨b,h⟩:=Qf h;exact .d h
 rcases x with _|_|i|s|vs|a
 ·exact T h
 ·exact T h
 ·rcases y with _|_|j|_|_|_
  ·exact T h
  ·exact T h
  ·obtain⟨b,i,q⟩:=pf h;exact .d ⟨i.trans ⟨ae _,λ h=>by injection h⟩,rfl,rfl,aI _,q⟩
  ·exact T h
  ·exact T h
  ·exact T h
 ·rcases y with _|_|_|t|_|_
  ·exact T h
  ·exact T h
  ·exact T h
  ·exact .d ⟨mE.trans ⟨ae _,λ h=>by injection h⟩,rfl,rfl,aI _,h⟩
  ·exact T h
  ·exact T h
 ·exact T h
 ·rcases y with _|_|_|_|_|b
  ·exact h.elim
  ·exact h.elim
  ·exact h.elim
  ·exact h.elim
  ·exact h.elim
  ·obtain⟨xs,ys,t,h⟩:=Py h;exact .l h
structure Zv (σ:bH)(K:BP)(x:AV)(ys:List AV)(t:Bool):Prop where
 i:t=true↔x∈ys
 px:x.pl=true
 py:AV.pls ys=true
 d:min x.dep (AV.deps ys)≤50
 q:K t σ
theorem GW (h:Ht K x ys σ):∃ t,Zv σ K x ys t:=by
 unfold Ht at h;obtain⟨h1,h2,h3,h4⟩:=h;obtain⟨b,i,q⟩:=pf h4;exact⟨b,i,h1,h2,h3,q⟩
inductive Wi (σ:bH)(K:BP)(b:Addr):AV→Prop
 |l {x:AV} {ys:List AV} {t:Bool}:σ b=some (.list ys)→Zv σ K x ys t→Wi σ K b x
 |d {kvs:List (Int×AV)} {i:Int} {t:Bool}:σ b=some (.dI kvs)→(t=true↔(bM kvs i).isSome=true)→K t σ→Wi σ K b (.int i)
theorem P5 (h:DW K x b σ):Wi σ K b x:=by
 unfold DW at h;rcases h with⟨ys,e,h⟩|⟨kvs,i,e,rfl,h⟩
 ·obtain⟨t,h⟩:=GW h;exact .l e h
 ·obtain⟨t,i,q⟩:=pf h;exact .d e i q
end
theorem eu {a b:Bool}{p:Prop}(h:a=true↔p)(h':b=true↔p):a=b:=Bool.eq_iff_iff.mpr (h.trans h'.symm)
noncomputable def LI:Bool→CmpOp|false=>.Eq|true=>.NotEq
noncomputable def XU:Bool→CmpOp|false=>.In|true=>.NotIn
noncomputable def kX:Bool→BP→BP|false,K=>K|true,K=>uT K
section
variable {c:Cx}{A:Around}{n:Nat}{σ:bH}{s:Shared}{X:Addr→Prop}{K:BP}{a b:Value}{x y:AV}{neg:Bool}
theorem iB {b:Bool}(tk:Nat)(G:c.good σ s.heap)(q:K b σ):c.Res X n6 σ s K (.bool b) { s with toks:=tk }:=bN tk G rfl q
theorem fE (G:c.good σ s.heap){a:Addr}{ob:bO}(e:σ a=some ob):(a==sysModules)=false:=beq_eq_false_iff_ne.mpr λ q=>by
 obtain⟨o,z⟩:=c.sm;exact cz (G.objs a ob e).1 (q▸z)
structure yw (h:Heap)(a:Addr)(vs:List AV)(ws:List Value)(n:Nat):Prop where
 at_:IsL h a ws.toArray n
 r:bY h ws vs
 z:ws.length≤sizeLine
theorem QF {h:Heap}{a:Addr}{items:Array Value}{n:Nat}{vs:List AV}(e:h.get? a=some (dJ items n))(r:bY h items.toList vs)(z:vs.length≤cX):yw h a vs items.toList n:=⟨e,r,r.length▸dw▸z⟩
theorem dg.list (G:c.good σ s.heap){a:Addr}{vs:List AV}(e:σ a=some (.list vs)):∃ ws n,yw s.heap a vs ws n:=by
 obtain⟨items,n,e,r,z⟩:=(G.objs a _ e).2;exact⟨_,n,QF e r z⟩
theorem rO {a:Addr}{vs:List AV}(G:c.good σ s.heap)(e:σ a=some (.list vs))(p:AV.pls vs=true):∃ as,Reads s.heap (.ref a) (.list (jC vs)) as:=by
 obtain⟨ws,k,L⟩:=G.list e;obtain⟨bs,q⟩:=(g4 vs L.r p).r;exact⟨_,.list L.at_ rfl rfl q⟩
theorem Gs {a d:Nat}(h:a+65<cLine)(hd:d≤50):a+1+d<cLine:=ac (aa (am (aQ ..)) (aP (aa (aP hd 1) (by decide)) a)) h
theorem B5 {a d:Nat}(h:a+65<cLine)(hd:d≤51):a+d<cLine:=ac (aP (aa hd (by decide)) a) h
theorem Bk {da db:PyData}{as bs:List Addr}(ra:Reads s.heap a da as)(rb:Reads s.heap b db bs)(ha:da.canLay0=true)(hb:db.canLay0=true)(hu:A.units+min da.depth db.depth<cLine)(G:c.good σ s.heap)(h:kX neg K (PyData.eqv da db) σ):c.J A X n6 (compareOp (LI neg) a b) σ s K:=by
 cases neg with
 |false=>exact SeqAt.compareEq_reads ra rb ha hb hu (iB s.toks G h)
 |true=>exact SeqAt.compareNe_reads ra rb ha hb hu (iB s.toks G h)
theorem NQ (R:f4 n A)(G:c.good σ s.heap)(ra:bD s.heap a x)(rb:bD s.heap b y)(h:Sv (kX neg K) x y σ):c.J A X n6 (compareOp (LI neg) a b) σ s K:=by
 rcases XC h with h1|h1
 ·have r1:=ma _ ra h1.px;have r2:=ma _ rb h1.py;obtain⟨as,q1⟩:=r1.r;obtain⟨bs,q2⟩:=r2.r;refine Bk q1 q2 r1.l r2.l (B5 R.units64 ?_) G (eu h1.i (p1 _ _ h1.px h1.py)▸h1.q);rw[r1.d,r2.d];exact aB h1.d
 ·obtain⟨as,q1⟩:=rO G h1.ex h1.px;obtain⟨bs,q2⟩:=rO G h1.ey h1.py;obtain rfl:a=_:=ra;obtain rfl:b=_:=rb;obtain⟨_,_,L1⟩:=G.list h1.ex;obtain⟨_,_,L2⟩:=G.list h1.ey;have R1:=g4 _ L1.r h1.px;have R2:=g4 _ L2.r h1.py;refine Bk q1 q2 R1.l R2.l (B5 R.units64 ?_) G ((Ea ..).trans (eu h1.i (nG _ _ h1.px h1.py)).symm▸h1.q);show min (PyData.depthAll _+1) (PyData.depthAll _+1)≤51;rw[R1.d,R2.d];exact Au h1.d
theorem Rp (R:f4 n A)(G:c.good σ s.heap)(ra:bD s.heap a x)(rb:bD s.heap b y)(h:Ui (kX neg K) x y σ):c.J A X n6 (compareOp (XU neg) a b) σ s K:=by
 rcases y with _|_|_|_|ys|l
 ·exact h.elim
 ·exact h.elim
 ·exact h.elim
 ·exact h.elim
 ·obtain⟨t,h1⟩:=GW h;obtain⟨i,items,k,rfl,e,r,_⟩:=rb;have r1:=ma _ ra h1.px;have r2:=g4 _ r h1.py;obtain⟨as,q1⟩:=r1.r;obtain⟨bs,q2⟩:=r2.r;have hu:A.units+1+min (PyData.depthAll (jC ys)) (jn x).depth<cLine:=Gs R.units64 (by rw[r1.d,r2.d,Nat.min_comm];exact h1.d);have hq:=eu h1.i (qY x h1.px ys h1.py)▸h1.q;cases neg with
  |false=>exact SeqAt.in_tuple_reads (.tuple e rfl rfl q2) q1 r2.l r1.l hu (iB s.toks G hq)
  |true=>exact SeqAt.notIn_tuple_reads (.tuple e rfl rfl q2) q1 r2.l r1.l hu (iB s.toks G hq)
 ·obtain rfl:b=_:=rb;rcases P5 h with @⟨_,ys,_,e,h1⟩|@⟨kvs,i',_,e,i,q⟩
  ·obtain⟨_,_,L⟩:=G.list e;have r1:=ma _ ra h1.px;have r2:=g4 _ L.r h1.py;obtain⟨as,q1⟩:=r1.r;obtain⟨bs,q2⟩:=rO G e h1.py;have hu:A.units+1+min (PyData.depthAll (jC ys)) (jn x).depth<cLine:=Gs R.units64 (by rw[r1.d,r2.d,Nat.min_comm];exact h1.d);have hq:=eu h1.i (qY x h1.px ys h1.py)▸h1.q;cases neg with
   |false=>exact SeqAt.in_list_reads q2 q1 r2.l r1.l hu (iB s.toks G hq)
   |true=>exact SeqAt.notIn_list_reads q2 q1 r2.l r1.l hu (iB s.toks G hq)
  ·obtain⟨t,rfl⟩:=ra;obtain⟨cs,d,r,_⟩:=(G.objs l _ e).2;have hr:=r.at (k:=i');have hk:(intKind c.prog c.w).is i' (.int i' t)=true:=decide_eq_true rfl;have hb:(valueAt cs i').isSome=(bM kvs i').isSome:=by
    cases e:bM kvs i' with
    |none=>rw[e]at hr;exact ae _ hr
    |some v=>rw[e]at hr;obtain⟨u,hu,_⟩:=hr;exact ae Option.isSome hu
   have hq:=(hb.trans (eu i Iff.rfl).symm)▸q;cases neg with
   |false=>exact wpAny_in_of hk (fE G e) d.mapOf (iB _ G hq)
   |true=>exact wpAny_notIn_of hk (fE G e) d.mapOf (iB _ G hq)
theorem Pv {f:Int→Int→SP}(h:s8 f x y σ):∃ i j,x=.int i∧y=.int j∧f i j σ:=by
 rcases x with _|_|i|_|_|_
 ·exact h.elim
 ·exact h.elim
 ·rcases y with _|_|j|_|_|_
  ·exact h.elim
  ·exact h.elim
  ·exact⟨i,j,rfl,rfl,h⟩
  ·exact h.elim
  ·exact h.elim
  ·exact h.elim
 ·exact h.elim
 ·exact h.elim
 ·exact h.elim
theorem FG {p:Int→Int→Prop}{op:CmpOp}(ra:bD s.heap a x)(rb:bD s.heap b y)(h:s8 (λ i j=>g5 (p i j) K) x y σ)
  (k:∀ i j t u r,(r=true↔p i j)→K r σ→c.J A X n6 (compareOp op (.int i t) (.int j u)) σ s K):c.J A X n6 (compareOp op a b) σ s K:=by
 obtain⟨i,j,rfl,rfl,h⟩:=Pv h;obtain⟨t,rfl⟩:=ra;obtain⟨u,rfl⟩:=rb;obtain⟨r,hr,q⟩:=pf h;exact k i j t u r hr q
theorem Gy {op:CmpOp}(R:f4 n A)(G:c.good σ s.heap)(ra:bD s.heap a x)(rb:bD s.heap b y)(h:Ir op K x y σ):c.J A X n6 (compareOp op a b) σ s K:=by
 rcases op with _|_|_|_|_|_|_|_|_|_
 ·exact NQ (neg:=false) R G ra rb h
 ·exact NQ (neg:=true) R G ra rb h
 ·exact FG ra rb h λ i j t u r hr q=>PyProof.Rows.lt_int (iB s.toks G (eu hr decide_eq_true_iff▸q))
 ·exact FG ra rb h λ i j t u r hr q=>PyProof.Rows.le_int (iB s.toks G (eu hr decide_eq_true_iff▸q))
 ·exact FG ra rb h λ i j t u r hr q=>PyProof.Rows.gt_int (iB s.toks G (eu hr decide_eq_true_iff▸q))
 ·exact FG ra rb h λ i j t u r hr q=>PyProof.Rows.ge_int (iB s.toks G (eu hr decide_eq_true_iff▸q))
 ·rcases y with _|_|_|_|_|_
  ·obtain rfl:b=_:=rb;rcases x with _|_|_|_|_|l
   ·obtain rfl:a=_:=ra;exact is_none_none (iB s.toks G h)
   ·exact h.elim
   ·exact h.elim
   ·exact h.elim
   ·exact h.elim
   ·obtain rfl:a=_:=ra;exact is_ref_none (iB s.toks G h)
  ·exact h.elim
  ·exact h.elim
  ·exact h.elim
  ·exact h.elim
  ·exact h.elim
 ·exact h.elim
 ·exact Rp (neg:=false) R G ra rb h
 ·exact Rp (neg:=true) R G ra rb h
end
noncomputable def g6:Expr→Bool
 |.Slice _ _ _ _=>false
 |_=>true
theorem pV {sl:Expr}(h:g6 sl=true)(o i:Value):subscripted sl false o i=operate [o,i] (getItem o i):=by
 cases sl<;>first|rfl|cases h
theorem Hh:(cX:Int)<2 ^ 63:=by decide
theorem Ej {n:Nat}(h:n≤sizeLine):(n:Int)<2 ^ 63:=Int.lt_of_le_of_lt (bn (dw▸h)) Hh
theorem bD.tupL {h:Heap}{v:Value}{vs:List AV}(x:bD h v (.tup vs)):∃ a ws n,v=.ref a∧h.get? a=some (fN ws n)∧bY h ws.toList vs∧ws.size=vs.length∧ws.size≤sizeLine:=by
 obtain⟨a,items,n,rfl,e,r,z⟩:=x;have hl:items.size=vs.length:=Array.length_toList.symm.trans r.length;exact⟨a,items,n,rfl,e,r,hl,hl▸dw▸z⟩
structure VS (k:Int)(n j:Nat):Prop where
 s:seqIndex? k n=some j
 lo: -(n:Int)≤k
 hi:k<n
theorem sqN {k n:Nat}(h:k<n):VS (k:Nat) n k:=by
 refine⟨?_,aS (Int.neg_nonpos_of_nonneg (bf n)) (bf k),ba h⟩;unfold seqIndex?
 simp[h];lia
theorem sqM {k n:Nat}(h:k<n):VS (.negSucc k) n (n - 1 - k):=by
 refine⟨?_,Int.neg_le_neg (bn h),aJ (Int.negSucc_lt_zero k) (bf n)⟩;unfold seqIndex?;simp only[show (Int.negSucc k<0)from Int.negSucc_lt_zero k,if_true];rw[aL (by simp;lia)]
 congr 1;lia
theorem xd {vs:List AV}{k:Int}{x:AV}(h:wj vs k=some x):∃ j,VS k vs.length j∧vs[j]? =some x:=by
 rcases k with k|k
 ·exact⟨k,sqN (az h).1,h⟩
 ·by_cases q:k<vs.length
  ·exact⟨_,sqM q,(aL q).symm.trans h⟩
  ·exact nomatch (aK q).symm.trans h
section
variable {σ:bH}{Q:bI}{i o:AV}{a:Addr}
theorem j4 {f:Int→SP}(h:nM f o σ):∃ k,o=.int k∧f k σ:=by
 rcases o with _|_|k|_|_|_
 ·exact h.elim
 ·exact h.elim
 ·exact⟨k,rfl,h⟩
 ·exact h.elim
 ·exact h.elim
 ·exact h.elim
theorem eS {f:Addr→SP}(h:fg f o σ):∃ k,o=.loc k∧f k σ:=by
 rcases o with _|_|_|_|_|k
 ·exact h.elim
 ·exact h.elim
 ·exact h.elim
 ·exact h.elim
 ·exact h.elim
 ·exact⟨k,rfl,h⟩
theorem xN {x:Option AV}(h:tq x Q σ):∃ v,x=some v∧Q v σ:=by
 cases x with
 |none=>exact h.elim
 |some v=>exact⟨v,rfl,h⟩
theorem Kd (h:ow Q i a σ):∃ ob v,σ a=some ob∧qG ob i v∧Q v σ:=by unfold ow at h;exact h
theorem HU {X:SP}{v:AV}(h:putL X v i a σ):∃ ob ob',σ a=some ob∧yy i v ob ob'∧X (σ.upd a ob'):=by unfold putL at h;exact h
end
theorem d9.hit {κ:Type}[DecidableEq κ]{h:Heap}{cs:List (κ×Value)}{kvs:List (κ×AV)}{k:κ}{v:AV}(r:d9 h cs kvs)(e:bM kvs k=some v):∃ u,valueAt cs k=some u∧bD h u v:=by have:=r.at (k:=k);rw[e]at this;exact this
theorem d9.miss {κ:Type}[DecidableEq κ]{h:Heap}{cs:List (κ×Value)}{kvs:List (κ×AV)}{k:κ}(r:d9 h cs kvs)(e:bM kvs k=none):valueAt cs k=none:=by have:=r.at (k:=k);rw[e]at this;exact this
section
variable {c:Cx}{A:Around}{n:Nat}{σ:bH}{s:Shared}{X:Addr→Prop}{Q:bI}
theorem kI (c:Cx)(k:Int)(t:Tok):(intKind c.prog c.w).is k (.int k t)=true:=decide_eq_true rfl
theorem kS (c:Cx)(k:Str)(t:Tok):(PySem.strKind c.prog c.w).is k (.str k t)=true:=by simp[PySem.strKind,Value.isStrOf]
def Pt (c:Cx)(A:Around)(X:Addr→Prop)(σ:bH)(s:Shared)(Q:bI)(o i:Value):Prop:=∃ T id,s.TypeIs o T∧typeLookup (.type T) "__getitem__"=pure (some (.builtin id))∧c.J A X bD (getItem o i) σ s Q
theorem sU {κ:Type}[DecidableEq κ]{knd:PySem.KeyKind c.prog c.w κ}{d:Addr}{cs:List (κ×Value)}{kvs:List (κ×AV)}{k:κ}{i:Value}{v:AV}(G:c.good σ s.heap)(hk:knd.is k i=true)(D:s.heap.DictOf knd d cs)(r:d9 s.heap cs kvs)(e:bM kvs k=some v)(q:Q v σ):Pt c A X σ s Q (.ref d) i:=by
 obtain⟨u,hu,ru⟩:=r.hit e;exact⟨_,_,D.mapOf.typeIs,slot_dict_getitem.lookup,wpAny_getItem_of hk D.mapOf hu (bN (s.toks+1) G ru q)⟩
theorem FU {n:Nat}{k:Int}(h:n≤sizeLine)(hk: -(n:Int)≤k): -(2 ^ 63)≤k:=aS (Int.neg_le_neg (Int.le_of_lt (Ej h))) hk
set_option tactic.hygienic true in
theorem nS {o i:Value}{x y:AV}(G:c.good σ s.heap)(ro:bD s.heap o x)(ri:bD s.heap i y)(h:Bo Q x y σ):Pt c A X σ s Q o i:=by
 rcases x with _|_|_|_|vs|l
 ·exact h.elim
 ·exact h.elim
 ·exact h.elim
 ·exact h.elim
 ·obtain⟨k,rfl,h⟩:=j4 h;obtain⟨v,hv,q⟩:=xN h;obtain⟨a,ws,n,rfl,e,r,hl,hz⟩:=ro.tupL;obtain⟨j,S,hj⟩:=xd hv;obtain⟨u,hu,ru⟩:=r.get hj;obtain⟨t,rfl⟩:=ri;rw[←hl]at S;have ht:IsTup s.heap a ws:=⟨_,e,rfl,_,rfl⟩;exact⟨_,_,ht.typeIs,slot_tuple_getitem.lookup,getItem_tuple ht (FU hz S.lo) (Int.lt_trans S.hi (Ej hz)) (j:=j) S.s (Array.getElem?_toList.symm.trans hu) (bN s.toks G ru q)⟩
 ·obtain rfl:o=_:=ro;obtain⟨ob,v,e,hI,q⟩:=Kd h;rcases hI with hv|hv|hv|hv
  ·obtain⟨ws,n,L⟩:=G.list e;obtain⟨t,rfl⟩:=ri;rename_i vs k;have hl:=L.r.length;refine⟨_,_,L.at_.isList.typeIs,slot_list_getitem.lookup,?_⟩;rcases k with k|k
   ·obtain⟨u,hu,ru⟩:=L.r.get hv;refine wpAny_getItem_list (x:=u) L.at_.isList (bf k) (aJ (ba (az hu).1) (Int.le_of_lt (Ej L.z))) ?_ (bN s.toks G ru q);exact List.getElem?_toArray.trans hu
   ·obtain⟨j,S,hj⟩:=xd hv;obtain⟨u,hu,ru⟩:=L.r.get hj;rw[←hl]at S;have hs:j=(Int.negSucc k+(ws.toArray.size:Int)).toNat:=by
     have:=S.s;unfold seqIndex? at this;simp only[show (Int.negSucc k<0)from Int.negSucc_lt_zero k,if_true]at this
     split at this
     ·cases this;rw[List.size_toArray];try rfl
     ·cases this
    refine wpAny_getItem_list_neg (x:=u) L.at_.isList (Int.negSucc_lt_zero k) (by rw[List.size_toArray];exact S.lo) (FU L.z S.lo) ?_ (bN s.toks G ru q);exact List.getElem?_toArray.trans (hs▸hu)
  ·obtain⟨t,rfl⟩:=ri;obtain⟨cs,d,r,z⟩:=(G.objs _ _ e).2;exact sU G (kI ..) d r hv q
  ·obtain⟨t,rfl⟩:=ri;obtain⟨he,cs,d,r,z⟩:=(G.objs _ _ e).2;exact sU G (kI ..) (Heap.dictOf_iff.mpr ⟨_,he,d⟩) r hv q
  ·obtain⟨_,t,rfl⟩:=ri;obtain⟨cs,d,r,z⟩:=(G.objs _ _ e).2;exact sU G (kS ..) d r ((uR ..).trans hv) q
theorem PD {value slice:Expr}{o i:Value}{x y:AV}(hs:g6 slice=true)(G:c.good σ s.heap)(ro:bD s.heap o x)(ri:bD s.heap i y)(h:Bo Q x y σ):c.J A X bD (subscriptTail value slice o i) σ s Q:=by
 obtain⟨T,id,hT,hl,hg⟩:=nS (A:=A) (X:=X) G ro ri h;exact tail_any hT hl hg (pV hs o i)
theorem yB {o i:Value}{x y:AV}(G:c.good σ s.heap)(ro:bD s.heap o x)(ri:bD s.heap i y)(h:Bo Q x y σ):c.J A X bD (getItem o i) σ s Q:=by
 obtain⟨T,id,hT,hl,hg⟩:=nS (A:=A) (X:=X) G ro ri h;exact hg
theorem pG {h:Heap}{l:Addr}{items:Array Value}{k:Nat}(hL:IsL h l items k)(f:Obj→Obj):cP h (h.update l f):=λ a it m e=>
 (Heap.get?_update_other h f λ q:l=a=>Ap (ae Obj.cls (aA ((id hL:h.get? l=_).symm.trans ((ae h.get? q).trans e))))).trans e
theorem mH {α β:Type}{R:uw α β}{l:Addr}{ob ob':bO}{h':Heap}(tk:Nat){Q:β→SP}{v:α}{b:β}(G:c.good σ s.heap)(e:σ l=some ob)(hk:∀ b,b≠l→h'.get? b=s.heap.get? b)(hob:de c.prog c.w h' l ob')(rv:R h' v b)(q:Q b (σ.upd l ob')):c.Res X R σ s Q v { s with heap:=h',toks:=tk }:=
 o8 q rv (G.upd e hk hob) (.upd e hk hob)
theorem f8 {α β:Type}{R:uw α β}{l:Addr}{vs vs':List AV}{ws:List Value}{k:Nat}(tk:Nat){f:Array Value→Array Value}{Q:β→SP}{v:α}{b:β}(G:c.good σ s.heap)(e:σ l=some (.list vs))(L:yw s.heap l vs ws k)(r:bY s.heap (f ws.toArray).toList vs')(hz:vs'.length≤cX)
  (rv:R (s.heap.update l (Obj.mapSeq f)) v b) (q:Q b (σ.upd l (.list vs'))):c.Res X R σ s Q v { s with heap:=s.heap.update l (Obj.mapSeq f),toks:=tk }:=
 mH (ob':=.list vs') tk G e (λ b hb=>Heap.get?_update_other _ _ (Ne.symm hb)) ⟨_,_,L.at_.update f,r.up (pG L.at_ _),hz⟩ rv q
theorem kY {prog:Program}{w:World}{E:Value→Shared→Prop}{l:Addr}{items:Array Value}{n:Nat}{k:Int}{t:Tok}{v:Value}{Q:Unit→Shared→Prop}(hL:IsL s.heap l items n)
  (h0:0≤k) (hfit:k<2 ^ 63) (hn:k.toNat<items.size) (hQ:Q () { s with heap:=s.heap.update l (Obj.mapSeq (·.setIfInBounds k.toNat v)) }):
  wpAny (model prog w) A (setItem (.ref l) (.int k t) v) Q E s:=by
 have hl:=hL.isList;unfold setItem
 try with_reducible refine wpAny_holding ?_
 first|with_reducible refine wpAny_bind (wpAny_pure ?_)|skip
 refine wpAny_bind (wpAny_sequenceKey hl.typeIs (by decide) ?_);refine wpAny_bind (wpAny_callSpecial?_slot (name:=Str.ofString "__setitem__") hl.typeIs slot_list_setitem
  (wpAny_call_entry slot_list_setitem hl.typeIs entry_list_setitem ?_ (args_list_setitem _ _ _)))
 show wpAny _ _ (Builtin.List.listSubscript? (.int k t)>>=_) _ _ s;refine wpAny_bind (wpAny_listSubscript_int (fitsIndex_of h0 hfit) ?_);clear hfit;obtain⟨j,rfl⟩:=Int.eq_ofNat_of_zero_le h0;have hj:j<items.size:=hn;have hx':items[j]? =some items[j]:=Array.getElem?_eq_getElem hj;show wpAny _ _ ((seqItemAt l j>>=λ r=>pure (r.map (j,·)))>>=_) _ _ s;refine wpAny_bind (wpAny_bind (wpAny_seqItemAt hL rfl (wpAny_pure ?_)));rw[hx'];show wpAny _ _ (setSeqItemAt l j v>>=_) _ _ s;refine wpAny_bind (wpAny_setSeqItemAt hL rfl ?_);exact wpAny_pure ⟨.none,rfl,wpAny_pure hQ⟩
theorem mr {h h':Heap}{d:Addr}{o:Obj}(e:h.get? d=some o)(hc:¬ d4 o)(sb:Heap.SameBut d h h'):cP h h':=λ a items m ea=>
 (sb.2 a λ q=>hc (aA ((q▸e).symm.trans ea)▸⟨rfl,items,m,rfl⟩)).trans ea
theorem xe {κ:Type}[DecidableEq κ]{h:Heap}{knd:PySem.KeyKind c.prog c.w κ}{a:Addr}{cs:List (κ×Value)}(d:h.DictOf knd a cs):(cs.map (·.1)).Nodup:=by obtain⟨_,_,_,_,_,_,_,_,n⟩:=d;exact n
theorem ur {κ:Type}[DecidableEq κ]{h:Heap}{knd:HeapKind c.prog c.w κ}{a:Addr}{cs:List (κ×Addr×Value)}(d:h.DictOfH knd a cs):(cs.map (·.1)).Nodup:=by obtain⟨_,_,_,_,_,_,_,_,n⟩:=d;exact n
theorem tP {a b:Nat}(h:a=b)(z:b<cX):a≤sizeLine:=h▸dw▸aW z
theorem zd {h:Heap}{as:List AV}:∀ {vs:List Value} {ks:List Int},bY h vs as→gA as=some ks→ItemsAre (intKind c.prog c.w) ks vs:=by
 induction as with
 |nil=>intro vs ks r e;cases e;obtain rfl:vs=[]:=r;exact .nil
 |cons a r ih=>
  rintro _ ks ⟨w,ws,rfl,x,y⟩ e
  rcases a with _|_|i|_|_|_
  ·cases e
  ·cases e
  ·obtain⟨ks',e',rfl⟩:=Option.map_eq_some_iff.mp e;obtain⟨t,rfl⟩:=x;exact .cons (kI c i t) (ih y e')
  ·cases e
  ·cases e
  ·cases e
theorem uf {ks:List Int}{is:List AV}{v:Value}(r:bD s.heap v (.tup is))(e:gA is=some ks):∃ a,v=.ref a∧(tupleKind (intKind c.prog c.w)).is s.heap ks a:=by
 obtain⟨a,ws,m,rfl,et,rt,_⟩:=r.tupL;exact⟨a,rfl,_,ws,m,et,rfl,rfl,zd rt e⟩
theorem Hb (R:f4 n A):A.in1.units<cLine:=R.units1
theorem xT {κ:Type}[DecidableEq κ]{knd:PySem.KeyKind c.prog c.w κ}{d:Addr}{cs:List (κ×Value)}{kvs:List (κ×AV)}{k:κ}{i v:Value}{z:AV}{ob ob':bO}{P:SP}(G:c.good σ s.heap)(hk:knd.is k i=true)(D:s.heap.DictOf knd d cs)(r:d9 s.heap cs kvs)(e:σ d=some ob)(rv:bD s.heap v z)(hz:kvs.length<cX)
  (hob:∀ h' cs',h'.DictOf knd d cs'→d9 h' cs' (cn kvs k z)→de c.prog c.w h' d ob') (q:P (σ.upd d ob')):c.J A X Ce (setItem (.ref d) i v) σ s (kU P):=by
 obtain⟨o,ho,hoc⟩:=(G.objs _ _ e).2.obj;refine wpAny_setItem_pairs hk D (λ h' d' sb=>?_) (tP r.length hz);have tl:=mr ho hoc sb;exact mH (b:=()) (s.toks+1) G e sb.2 (hob h' _ d' (d9.put (rv.up tl) (xe D) (r.up tl))) trivial q
theorem qX {P:SP}{o i v:Value}{x y z:AV}(R:f4 n A)(G:c.good σ s.heap)(ro:bD s.heap o x)(ri:bD s.heap i y)(rv:bD s.heap v z)(h:fg (putL P z y) x σ):c.J A X Ce (setItem o i v) σ s (kU P):=by
 obtain⟨l,rfl,h⟩:=eS h;obtain rfl:o=_:=ro;obtain⟨ob,ob',e,hP,q⟩:=HU h;rcases hP with hk|hz|hz|⟨hi,hz⟩
 ·obtain⟨ws,m,L⟩:=G.list e;obtain⟨t,rfl⟩:=ri;have hj:=L.r.length▸hk;refine kY L.at_ (bf _) (aJ (ba hj) (Int.le_of_lt (Ej L.z))) hj (f8 (b:=()) s.toks G e L ?_ ?_ trivial q)
  ·rw[Array.toList_setIfInBounds];exact bY.set rv _ L.r
  ·rw[List.length_set,←L.r.length,dw];exact L.z
 ·obtain⟨t,rfl⟩:=ri;obtain⟨cs,d,r,_⟩:=(G.objs _ _ e).2;exact xT (ob':=.dI _) G (kI ..) d r e rv hz (λ h' cs' d' r'=>⟨cs',d',r',aa (fZ ..) hz⟩) q
 ·obtain⟨_,t,rfl⟩:=ri;obtain⟨cs,d,r,_⟩:=(G.objs _ _ e).2;exact xT (ob':=.dS _) G (kS ..) d r e rv ((ak rT).symm▸hz) (λ h' cs' d' r'=>⟨cs',d',zP ..▸r',aa (fZ ..) hz⟩) q
 ·obtain⟨a,rfl,hk⟩:=uf (c:=c) ri hi;obtain⟨cs,d,r,_⟩:=(G.objs _ _ e).2;obtain⟨o,ho,hoc⟩:=(G.objs _ _ e).2.obj;refine wpAny_setItem_heap (Hb R) hk d (λ h' d' sb=>?_) (tP ((ak u6).symm.trans r.length) hz);have tl:=mr ho hoc sb;refine mH (R:=Ce) (b:=()) (Q:=kU P) (ob':=.dT _) _ G e sb.2 ⟨_,d',?_,aa (fZ ..) hz⟩ trivial q;rw[AM (ur d)];exact d9.put (rv.up tl) (Eq.mpr (ae List.Nodup (List.map_map ..:(cs.map u6).map (·.1)=cs.map (·.1))) (ur d)) (r.up tl)
end
theorem Lj:Manifest.owners.lookup (String.ofList ['d','e','s','r','e','v','e','r'].reverse)=some Manifest.sig_reversed:=by kernel_rfl
theorem fA:Slot "reversed" "__next__" "reversed.__next__":=
 .of (owner:="reversed") (n:="__next__") (by rw[typeLookup_type,builtinLookup_eq_fast];kernel_rfl) (by decide+kernel) (by decide+kernel) (by decide+kernel)
  (by first|exact .inl (by decide+kernel)|exact .inr (by decide+kernel)) (by rw[isSubtype_type];kernel_rfl)
theorem lh:entryFor table "reversed.__next__"=some Builtin.«reversed.__next__»:=entryFor_of_tree (by kernel_rfl)
theorem mv (a:Value):argsOk "reversed.__next__" ⟨[a],[]⟩:=by
 unfold argsOk;kernel_rfl
theorem mJ:Slot "reversed" "__iter__" "reversed.__iter__":=
 .of (owner:="reversed") (n:="__iter__") (by rw[typeLookup_type,builtinLookup_eq_fast];kernel_rfl) (by decide+kernel) (by decide+kernel) (by decide+kernel)
  (by first|exact .inl (by decide+kernel)|exact .inr (by decide+kernel)) (by rw[isSubtype_type];kernel_rfl)
theorem qn:entryFor table "reversed.__iter__"=some Builtin.«dict_keyiterator.__iter__»:=
 entryFor_alias (id':="dict_keyiterator.__iter__") (by kernel_rfl) (by first|rfl|decide+kernel|(unfold String.splitOn;simp+decide [String.splitOnAux])) (by decide+kernel) (by kernel_rfl)
theorem sC (a:Value):argsOk "reversed.__iter__" ⟨[a],[]⟩:=by unfold argsOk;kernel_rfl
theorem ji:Slot "reversed" "__length_hint__" "reversed.__length_hint__":=
 .of (owner:="reversed") (n:="__length_hint__") (by rw[typeLookup_type,builtinLookup_eq_fast];kernel_rfl) (by decide+kernel) (by decide+kernel) (by decide+kernel)
  (by first|exact .inl (by decide+kernel)|exact .inr (by decide+kernel)) (by rw[isSubtype_type];kernel_rfl)
theorem qy:entryFor table "reversed.__length_hint__"=some Builtin.«reversed.__length_hint__»:=entryFor_of_tree (by kernel_rfl)
theorem tv (a:Value):argsOk "reversed.__length_hint__" ⟨[a],[]⟩:=by unfold argsOk;kernel_rfl
theorem sJ:Slot "reversed" "__init__" "object.__init__":=
 .of (owner:="object") (n:="__init__") (by rw[typeLookup_type,builtinLookup_eq_fast];kernel_rfl) (by decide+kernel) (by decide+kernel) (by decide+kernel)
  (by first|exact .inl (by decide+kernel)|exact .inr (by decide+kernel)) (by rw[isSubtype_type];kernel_rfl)
theorem yG:typeLookup (.type "reversed") "__len__"=pure none:=by rw[typeLookup_type,builtinLookup_eq_fast];kernel_rfl
theorem qr:typeLookup (.type "tuple") "__reversed__"=pure none:=by rw[typeLookup_type,builtinLookup_eq_fast];kernel_rfl
theorem zC:TypeCalled "reversed" "reversed.__new__" "object.__init__":=
 ⟨by decide+kernel,F.create_reversed,⟨_,_,F.mro_reversed⟩,F.made_reversed,F.plain_reversed_new,F.sub_reversed_self,sJ⟩
noncomputable def FW (t:Addr)(i:Int):Obj:={ cls:=.type "reversed",data:=.fields #[.ref t,rawInt i] }
section
variable {prog:Program}{w:World}{A:Around}{E:Value→Shared→Prop}{s:Shared}
theorem z4 {t:Addr}{items:Array Value}{n:Nat}{Q:Value→Shared→Prop}(ht:s.heap.get? t=some (fN items n))(hz:items.size≤cX)
  (h:∀ u tk,Q (.int items.size u) { s with toks:=tk }):wpAny (model prog w) A (call (.builtin "len") [.ref t]) Q E s:=by
 have hL:IsT s.heap t items n:=ht;have e:cX=16777216:=rfl;exact P.len_tuple hL (by lia) (h _ _)
theorem r9 {t:Addr}{items:Array Value}{n:Nat}(hz:items.size≤cX):
  Meets (Builtin.«reversed.__new__» ⟨[.type "reversed",.ref t],[]⟩) (λ ω R s=>s.heap.get? t=some (fN items n)∧
   ∀ tk,R (.ok (.ret (.ref s.heap.objs.size))) { s with heap:=s.heap.push (FW t ((items.size:Int) - 1)),toks:=tk }):=
 .of_wp λ prog w A R s h=>by
  obtain⟨ht,h⟩:=h;have hT:s.TypeIs (.ref t) "tuple":=⟨_,ht,rfl⟩;unfold Builtin.«reversed.__new__»;refine wpAny_bind (wpAny_of_eq (newClass_reversed _) ?_)
  try dsimp only
  refine wpAny_bind (wpAny_of_eq (a:=()) (by first|rfl|kernel_rfl) ?_);refine wpAny_bind (wpAny_of_eq (a:=()) (by first|rfl|kernel_rfl) ?_)
  try dsimp only
  refine wpAny_bind (wpAny_specialOf hT qr ?_)
  try dsimp only
  have hg:=slot_tuple_getitem.lookup;have hs:isSubtype (.type "tuple") (.type "dict")=pure false:=by rw[isSubtype_type];kernel_rfl
  wp_walk using z4 ht hz
  intro u tk
  wp_walk
  exact⟨_,rfl,h _⟩
theorem FJ {t:Addr}{items:Array Value}{n:Nat}{Q:Value→Shared→Prop}(ht:s.heap.get? t=some (fN items n))(hz:items.size≤cX)
  (h:∀ tk,Q (.ref s.heap.objs.size) { s with heap:=s.heap.push (FW t ((items.size:Int) - 1)),toks:=tk }):
  wpAny (model prog w) A (call (.type "reversed") [.ref t]) Q E s:=
 callType_new zC (by decide) (F.typeCall_reversed_1 _) (F.newCall_reversed_1 _) (λ obj=>F.args_object_init_2 obj _) F.entry_reversed_new (r9 hz)
  ⟨ht,λ tk=>⟨⟨_,Heap.get?_push_size _ rfl,rfl⟩,h tk⟩⟩
def mY (h:Heap)(a t:Addr)(i:Int):Prop:=∃ o,h.get? a=some o∧o.cls=.type "reversed"∧o.data=.fields #[.ref t,rawInt i]
theorem mY.typeIs {a t:Addr}{i:Int}(x:mY s.heap a t i):s.TypeIs (.ref a) "reversed":=let ⟨o,ho,hc,_⟩:=x;⟨o,ho,hc⟩
theorem mY.at {h h':Heap}{a t:Addr}{i:Int}(x:mY h a t i)(e:∀ o,h.get? a=some o→h'.get? a=some o):mY h' a t i:=let ⟨o,ho,r⟩:=x;⟨o,e _ ho,r⟩
theorem mY.upd {h:Heap}{a t:Addr}{i:Int}(x:mY h a t i)(v:Value)(k:Nat)(hk:k<2):∃ o,(h.update a (Obj.mapFields (·.setIfInBounds k v))).get? a=some o∧o.cls=.type "reversed"∧o.data=.fields (#[.ref t,rawInt i].setIfInBounds k v):=by
 obtain⟨o,ho,hc,hd⟩:=x;exact⟨_,Heap.get?_update_self _ ho (Obj.isFreed_of_fields (Obj.data_mapFields hd _)),(Obj.cls_mapFields ..).trans hc,by rw[Obj.data_mapFields hd]⟩
theorem Eb {a t:Addr}{i:Nat}{items:Array Value}{n:Nat}{x:Value}{Q:Option Value→Shared→Prop}(hit:mY s.heap a t (i:Int))(ht:s.heap.get? t=some (fN items n))(hz:items.size≤cX)(hx:items[i]? =some x)
  (hQ:∀ h' tk,mY h' a t ((i:Int) - 1)→Heap.SameBut a s.heap h'→Q (some x) { s with heap:=h',toks:=tk }):wpAny (model prog w) A (pyNext (.ref a)) Q E s:=by
 obtain⟨o,ho,hc,hd⟩:=id hit;have hg:=slot_tuple_getitem.lookup;have hT:s.TypeIs (.ref t) "tuple":=⟨_,ht,rfl⟩;have hi:i<items.size:=(Array.getElem?_eq_some_iff.mp hx).1;have e:cX=16777216:=rfl;unfold pyNext;refine wpAny_bind (wpAny_attempt (wpAny_callSpecial?_slot (name:=Str.ofString "__next__") hit.typeIs fA
  (wpAny_call_entry fA hit.typeIs lh ?_ (mv _))))
 unfold Builtin.«reversed.__next__»;refine wpAny_bind (wpAny_of_eq (a:=(Value.ref a,[])) rfl ?_)
 try dsimp only
 refine wpAny_bind (wpAny_field ho hd (x:=.ref t) rfl ?_);refine wpAny_bind (wpAny_field ho hd (x:=rawInt (i:Int)) rfl ?_);show wpAny _ _ (if (i:Int)<0 then _ else _) _ _ s;rw[aK (by lia)];refine wpAny_bind (wpAny_specialOf hT hg ?_)
 try dsimp only
 refine wpAny_ite_split (λ h=>absurd h (by decide)) λ ω=>?_;refine wpAny_bind (wpAny_mkInt ?_);refine wpAny_bind (wpAny_attempt ?_);refine getItem_tuple (k:=(i:Int)) (items:=items) ⟨_,ht,rfl,_,rfl⟩ (by lia) (by lia) (j:=i) ?_ hx ?_
 ·unfold seqIndex?
  simp[hi]
  lia
 ·dsimp only;refine wpAny_bind (wpAny_field (s:={ s with toks:=s.toks+1 }) ho hd (x:=rawInt (i:Int)) rfl ?_);refine wpAny_bind (wpAny_setField (s:={ s with toks:=s.toks+1 }) ho hd (by simp) ?_);exact wpAny_pure ⟨x,rfl,wpAny_pure (hQ _ _ (by obtain⟨o',h1,h2,h3⟩:=hit.upd (rawInt ((i:Int) - 1)) 1 (by decide);exact⟨o',h1,h2,by rw[h3];simp⟩) (Heap.SameBut.update ..))⟩
theorem I7 {a t:Addr}{Q:Option Value→Shared→Prop}(hh:A.handled=none)(hit:mY s.heap a t (-1))
  (hQ:∀ h' tk,Heap.ExtBut a s.heap h'→Q none { s with heap:=h',toks:=tk }):wpAny (model prog w) A (pyNext (.ref a)) Q E s:=by
 obtain⟨o,ho,hc,hd⟩:=id hit;unfold pyNext;refine wpAny_bind (wpAny_attempt (wpAny_callSpecial?_slot (name:=Str.ofString "__next__") hit.typeIs fA
  (wpAny_call_entry fA hit.typeIs lh ?_ (mv _))))
 unfold Builtin.«reversed.__next__»;refine wpAny_bind (wpAny_of_eq (a:=(Value.ref a,[])) rfl ?_)
 try dsimp only
 refine wpAny_bind (wpAny_field ho hd (x:=.ref t) rfl ?_);refine wpAny_bind (wpAny_field ho hd (x:=rawInt (-1)) rfl ?_);show wpAny _ _ (if (-1:Int)<0 then _ else _) _ _ s;rw[aL (by decide)];refine wpAny_bind (wpAny_rule ?_);obtain⟨o1,h1,hc1,hd1⟩:=hit.upd (rawInt (-1)) 1 (by decide);refine wpAny_bind (wpAny_bind (m:=setField (.ref a) 1 (rawInt (-1))) (wpAny_setField ho hd (by simp) (wpAny_setField h1 hd1 (by simp) ?_)))
 try dsimp only
 refine wpAny_bind ?_;show wpAny _ _ (newExc (.type "StopIteration") []>>=_) _ _ _;refine wpAny_bind ?_;simp only[newExc,newTuple];refine wpAny_bind (wpAny_newObj_type ?_ (by size_fits));refine wpAny_bind (m:=firstArgMember _ _) (wpAny_of_eq (a:=Value.none) (by first|rfl|(simp only[firstArgMember];rfl)) ?_);refine wpAny_newObj_type ?_ (by size_fits);simp only[raiseNew];refine wpAny_bind (wpAny_handled ?_)
 first|rw[show A.in1.handled=none from hh]|rw[hh]
 refine wpAny_bind (wpAny_pure (wpAny_throw ?_));refine wpAny_bind (wpAny_isInstance (T:="StopIteration") (b:=true) ⟨_,Heap.get?_push_size _ rfl,rfl⟩ isSubtype_stop ?_);refine wpAny_pure (hQ _ _ ((Heap.ExtBut.push (Heap.ExtBut.push ?_ _) _)));exact λ b o hb e=>(Heap.get?_update_other _ _ (Ne.symm hb)).trans ((Heap.get?_update_other _ _ (Ne.symm hb)).trans e)
theorem E3 {a t:Addr}{i:Int}{Q:Value→Shared→Prop}(hit:mY s.heap a t i)(h:Q (.ref a) s):wpAny (model prog w) A (pyIter (.ref a)) Q E s:=by
 refine wpAny_pyIter_slot hit.typeIs mJ (wpAny_call_entry mJ hit.typeIs qn ?_ (sC _));show wpAny _ _ (ret (.ref a)) _ _ s;exact wpAny_pure ⟨_,rfl,"reversed",_,hit.typeIs,fA.lookup,h⟩
end
theorem C8 {prog:Program}{w:World}{A:Around}(hh:A.handled=none)(I t:Addr)(items:Array Value)(n:Nat)(hz:items.size≤cX)(hne:t≠I):
  Walks prog w A I [I,t] [I] items.size (λ i v=>items[items.size - 1 - i]? =some v) (λ i h=>i≤items.size∧mY h I t ((items.size:Int) - 1 - (i:Int))∧h.get? t=some (fN items n))where
 sub:=λ b hb=>by simp at hb;simp[hb]
 frame:=λ ω ω ω x hk=>⟨x.1,x.2.1.at λ o e=>hk I (by simp) o e,hk t (by simp) _ x.2.2⟩
 item:=λ i s Q E hi x hQ=>by
  have e:(items.size:Int) - 1 - (i:Int)=((items.size - 1 - i:Nat):Int):=by lia
  have hit:=x.2.1;rw[e]at hit;have hx:items[items.size - 1 - i]? =some (items[items.size - 1 - i]'(by lia)):=Array.getElem?_eq_getElem (by lia);refine Eb hit x.2.2 hz hx λ h' tk hit' hs'=>?_;have e2:((items.size - 1 - i:Nat):Int) - 1=(items.size:Int) - 1 - ((i+1:Nat):Int):=by lia
  rw[e2]at hit';exact hQ _ h' tk hx ⟨hi,hit',(hs'.2 t hne).trans x.2.2⟩ λ b o hb eo=>hs'.extBut b o (λ h=>hb (by simp[h])) eo
 done:=λ s Q E x hQ=>by
  have e:(items.size:Int) - 1 - (items.size:Int)= -1:=by lia
  have hit:=x.2.1;rw[e]at hit;exact I7 hh hit λ h' tk he'=>hQ h' tk λ b o hb eo=>he' b o (λ h=>hb (by simp[h])) eo
 self:=λ ω ω ω ω x hQ=>E3 x.2.1 hQ
theorem vm:typeLookup (.type "list_reverseiterator") "__len__"=pure none:=by rw[typeLookup_type,builtinLookup_eq_fast];kernel_rfl
theorem Bj:typeLookup (.type "list_reverseiterator") "__length_hint__"=pure (some (.builtin "list_reverseiterator.__length_hint__")):=by rw[typeLookup_type,builtinLookup_eq_fast];kernel_rfl
section
variable {prog:Program}{w:World}{A:Around}{E:Value→Shared→Prop}{s:Shared}
theorem uH {r:Addr}{Q:Bool→Shared→Prop}(hT:s.TypeIs (.ref r) "list_reverseiterator")(h:Q false s):wpAny (model prog w) A (Builtin.List.listLengthHint (.ref r)) Q E s:=by
 unfold Builtin.List.listLengthHint;refine wpAny_bind (wpAny_specialOf hT vm ?_);dsimp only;refine wpAny_ite_split (λ hab=>absurd hab (by decide)) (λ ω=>?_);refine wpAny_ite_split (λ hab=>absurd hab (by decide)) (λ ω=>?_);refine wpAny_bind (wpAny_specialOf hT Bj ?_);dsimp only;generalize Dt:("list_reverseiterator.__length_hint__":String)=id0;rw[show splitId id0=some ("list_reverseiterator","__length_hint__")from by subst Dt;decide+kernel];subst Dt;dsimp only;refine wpAny_bind (wpAny_isInstance (T:="list_reverseiterator") (b:=true) hT (by rw[isSubtype_type];kernel_rfl) ?_);refine wpAny_ite_split (λ hab=>absurd hab (by decide)) (λ ω=>?_);refine wpAny_ite_split (λ ω=>?_) (λ hab=>absurd (by decide+kernel) hab);refine wpAny_ite_split (λ hab=>absurd hab (by decide+kernel)) (λ ω=>?_);exact wpAny_pure h
theorem wF {r t:Addr}{items:Array Value}{n:Nat}{Q:Bool→Shared→Prop}(hit:mY s.heap r t ((items.size:Int) - 1))(ht:s.heap.get? t=some (fN items n))(hz:items.size≤cX)
  (h:∀ b tk,Q b { s with toks:=tk }):wpAny (model prog w) A (Builtin.List.listLengthHint (.ref r)) Q E s:=by
 have hT:=hit.typeIs;obtain⟨o,ho,hc,hd⟩:=id hit;have e:cX=16777216:=rfl;unfold Builtin.List.listLengthHint;refine wpAny_bind (wpAny_specialOf hT yG ?_);dsimp only;refine wpAny_ite_split (λ hab=>absurd hab (by decide)) (λ ω=>?_);refine wpAny_ite_split (λ hab=>absurd hab (by decide)) (λ ω=>?_);refine wpAny_bind (wpAny_specialOf hT ji.lookup ?_);dsimp only;generalize Dt:("reversed.__length_hint__":String)=id0;rw[show splitId id0=some ("reversed","__length_hint__")from by subst Dt;decide+kernel];subst Dt;dsimp only;refine wpAny_bind (wpAny_isInstance (T:="reversed") (b:=true) hT (by rw[isSubtype_type];kernel_rfl) ?_);refine wpAny_ite_split (λ hab=>absurd hab (by decide)) (λ ω=>?_);refine wpAny_ite_split (λ hab=>absurd hab (by decide+kernel)) (λ ω=>?_);refine wpAny_bind (wpAny_rule ?_);refine wpAny_bind (wpAny_of_eq (ji.bind _) ?_);dsimp only;refine wpAny_bind (wpAny_attempt ?_);refine wpAny_call_entry ji hT qy ?_ (tv _);unfold Builtin.«reversed.__length_hint__»;refine wpAny_bind (wpAny_of_eq (a:=Value.ref r) rfl ?_);refine wpAny_bind (wpAny_field ho hd (x:=.ref t) rfl ?_);refine wpAny_ite_split (λ hab=>absurd hab (by simp)) (λ ω=>?_);refine wpAny_bind (z4 ht hz λ u tk=>?_);refine wpAny_bind (wpAny_of_eq (a:=some (items.size:Int)) rfl ?_);dsimp only;refine wpAny_bind (wpAny_field (s:={ s with toks:=tk }) ho hd (x:=rawInt ((items.size:Int) - 1)) rfl ?_);show wpAny _ _ (if (items.size:Int)<(items.size:Int) - 1+1 then _ else _) _ _ _;rw[aK (by lia)];unfold retInt;refine wpAny_bind (wpAny_mkInt ?_);refine wpAny_pure ⟨_,rfl,?_⟩;dsimp only;refine wpAny_bind (wpAny_of_eq (a:=some ((items.size:Int) - 1+1)) rfl ?_);dsimp only;refine wpAny_ite_split (λ hab=>absurd hab ?_) (λ ω=>?_)
 ·simp only[Bool.not_eq_true'];rw[fitsIndex_of (by lia) (by lia)];decide
 refine wpAny_ite_split (λ hab=>absurd hab (by lia)) (λ ω=>?_);refine wpAny_ite_split (λ hab=>absurd hab ?_) (λ ω=>?_)
 ·simp only[Builtin.List.listTooLong,decide_eq_true_eq,sizeLine_eq]
  lia
 exact wpAny_pure (h _ _)
end
section
variable {prog:Program}{w:World}{A:Around}{E:Value→Shared→Prop}{s:Shared}
theorem vP {I:Addr}{fp wr:List Addr}{n m:Nat}{P P':Nat→Value→Prop}{St:Nat→Heap→Prop}(W:Walks prog w A I fp wr n P St)(hP:∀ j v,P j v→P' (m+j) v):
  Walks prog w A I fp wr (m+n) P' (λ i h=>m≤i∧St (i - m) h)where
 sub:=W.sub
 frame:=λ i h h' x hk=>⟨x.1,W.frame _ _ _ x.2 hk⟩
 item:=λ i s Q E hi x hQ=>W.item (i - m) s Q E (by lia) x.2 λ v h' tk hp hs hk=>hQ v h' tk (by have:=hP _ _ hp;rwa [Nat.add_sub_cancel' x.1]at this) ⟨by lia,by rwa [show i+1 - m=i - m+1 by lia]⟩ hk
 done:=λ s Q E x hQ=>W.done s Q E (by have:=x.2;rwa [Nat.add_sub_cancel_left]at this) hQ
 self:=λ i s Q E x hQ=>W.self _ s Q E x.2 hQ
theorem q8 {R:Result→Shared→Prop}{I d S:Addr}{T:String}{n:Nat}{P:Nat→Value→Prop}{St:Nat→Heap→Prop}{acc0:Array Value}{c₀:Nat}{res:Value}
  (W:Walks prog w A.in1 I [I,d] [I] n P St) (hT:s.TypeIs (.ref I) T) (nl:(Value.type T==Value.type "list")=false) (nt:(Value.type T==Value.type "tuple")=false)
  (hint:∀ (E:Value→Shared→Prop) (Q:Bool→Shared→Prop),(∀ b tk,Q b { s with toks:=tk })→wpAny (model prog w) A.in1 (Builtin.List.listLengthHint (.ref I)) Q E s)
  (hst:St 0 s.heap) (hSI:S≠I) (hSd:S≠d) (hS:s.heap.get? S=some (dJ acc0 c₀)) (hn:acc0.size+n≤sizeLine) (hn1:acc0.size+1≤sizeLine)
  (hR:∀ h' tk acc' c',(∀ b o,b≠S→b≠I→s.heap.get? b=some o→h'.get? b=some o)→h'.get? S=some (dJ acc' c')→acc'.size=acc0.size+n→(∀ j v,acc'[j]? =some v→(j<acc0.size→acc0[j]? =some v)∧(acc0.size≤j→P (j - acc0.size) v))→R (.ok (.ret res)) { s with heap:=h',toks:=tk }):
  wpAny (model prog w) A.in1 (Builtin.List.listExtendWith (.ref S) (.ref I) res)
   (λ fin s'=>match fin with|.done f=>R (.ok f) s'|.again c'=>c'.quiet=true∧codeAny (model prog w) A c' R s') (λ e s'=>R (.error e) s') s:=by
 have hSf:S∉[I,d]:=by simp only[List.mem_cons,List.not_mem_nil,or_false,not_or];exact⟨hSI,hSd⟩
 let P':Nat→Value→Prop:=λ j v=>(j<acc0.size→acc0[j]? =some v)∧(acc0.size≤j→P (j - acc0.size) v)
 have W':=vP (m:=acc0.size) (P':=P') W λ j v hp=>⟨λ q=>by lia,λ ω=>by rwa [Nat.add_sub_cancel_left]⟩;have key:∀ (h:Heap) (c₁ tk:Nat),St 0 h→(∀ b o,b≠S→s.heap.get? b=some o→h.get? b=some o)→
   h.get? S=some (dJ acc0 c₁)→codeAny (model prog w) A (.builtin "list.extend.loop" ⟨[.ref S,.ref I,res],[]⟩) R { s with heap:=h,toks:=tk }:=by
  intro h c₁ tk hst hk hS₁;refine codeAny_extend_loopS W'.toS hn S hSf res n acc0.size _ acc0 c₁ (by lia) (by lia) ⟨au _,by rwa [Nat.sub_self]⟩ hS₁ ⟨rfl,λ j v e=>⟨λ ω=>e,λ q=>absurd (Array.getElem?_eq_some_iff.mp e).1 (by lia)⟩⟩ λ s' acc' c' hm hS' hacc=>?_;rw[Moved.eq_with hm];refine hR s'.heap s'.toks acc' c' (λ b o hb hI e=>hm.heap b o (λ hmem=>?_) (hk b o hb e)) hS' hacc.1 hacc.2;rcases ap hmem with e'|hmem
  ·exact hb e'
  ·exact hI (aj hmem)
 unfold Builtin.List.listExtendWith;refine wpAny_bind (wpAny_typeOf (T:=T) hT ?_);have h1:Builtin.List.listSameRef (.ref S) (.ref I)=false:=by simp[Builtin.List.listSameRef,hSI]
 simp only[h1,nl,nt,Bool.or_false,Bool.false_eq_true,if_false];refine wpAny_bind (W.self 0 s _ _ hst ?_);refine wpAny_bind (wpAny_holding (hint _ _ λ b tk=>?_));refine wpAny_ite_split (λ ω=>?_) (λ ω=>wpAny_pure ⟨plainId_quiet PySem.F.plain_extend_loop _,key s.heap c₀ tk hst (λ b o ω e=>e) hS⟩);refine wpAny_bind (wpAny_rule ?_);refine wpAny_bind ?_;show wpAny _ _ (updateSeq S (·.push .none)>>=λ ω=>updateSeq S (·.pop)) _ _ _;refine wpAny_bind (wpAny_updateSeq hS rfl ?_ (by lia) (by show (acc0.push Value.none).size≤sizeLine+1;rw[Array.size_push];lia));have hS₂:=IsL.update (l:=S) hS (·.push Value.none);have hS₃:=hS₂.update (·.pop);rw[Array.pop_push]at hS₃;refine wpAny_updateSeq hS₂ rfl ?_ (by rw[Array.size_push];exact hn1) (by show ((acc0.push Value.none).pop).size≤sizeLine+1;rw[Array.pop_push];lia);refine wpAny_pure ⟨plainId_quiet PySem.F.plain_extend_loop _,key _ _ _ ?_ (λ b o hb e=>?_) hS₃⟩
 ·refine W.frame 0 _ _ hst λ b hb o e=>?_;have hbS:b≠S:=λ h=>hSf (h▸hb);exact (Heap.get?_update_other _ _ (Ne.symm hbS)).trans ((Heap.get?_update_other _ _ (Ne.symm hbS)).trans e)
 ·exact (Heap.get?_update_other _ _ (Ne.symm hb)).trans ((Heap.get?_update_other _ _ (Ne.symm hb)).trans e)
theorem xp {acc0 items acc':Array Value}(hs:acc'.size=acc0.size+items.size)(h:∀ j v,acc'[j]? =some v→(j<acc0.size→acc0[j]? =some v)∧(acc0.size≤j→items[items.size - 1 - (j - acc0.size)]? =some v)):
  acc'.toList=acc0.toList++items.toList.reverse:=by
 refine List.ext_getElem? λ j=>?_;rw[Array.getElem?_toList]
 by_cases hj:j<acc'.size
 ·have e:acc'[j]? =some acc'[j]:=Array.getElem?_eq_getElem hj;obtain⟨h1,h2⟩:=h j _ e;rw[e]
  by_cases hk:j<acc0.size
  ·rw[bw (by simpa using hk),Array.getElem?_toList,h1 hk]
  ·rw[List.getElem?_append_right (by simpa using hk),List.getElem?_reverse (by simp;lia),Array.length_toList,Array.length_toList,Array.getElem?_toList,h2 (by lia)]
 ·rw[Array.getElem?_eq_none (by lia),List.getElem?_eq_none (by simp;lia)]
theorem oq {t I l:Addr}{items acc0:Array Value}{n c₀:Nat}{Q:Value→Shared→Prop}(hh:A.handled=none)(hI:mY s.heap I t ((items.size:Int) - 1))(ht:s.heap.get? t=some (fN items n))(hz:acc0.size+items.size<sizeLine)
  (hl:s.heap.get? l=some (dJ acc0 c₀)) (hlI:l≠I) (htI:t≠I)
  (h:∀ h' tk acc' c',(∀ b o,b≠l→b≠I→s.heap.get? b=some o→h'.get? b=some o)→h'.get? l=some (dJ acc' c')→acc'.toList=acc0.toList++items.toList.reverse→Q .none { s with heap:=h',toks:=tk }):
  wpAny (model prog w) A (call (.builtin "list.extend") [.ref l,.ref I]) Q E s:=by
 have hlt:l≠t:=λ e=>by rw[e,ht]at hl;simp at hl
 have e:cX=sizeLine:=dw;have hT:s.TypeIs (.ref l) "list":=⟨_,hl,rfl⟩;refine wpAny_call (codeAny_call_builtin F.slot_list_extend.plain F.entry_list_extend (F.slot_list_extend.check _ _ _ _ _ _ _ _ hT (F.args_list_extend_2 _ _) ?_));show wpAny _ A.in1 (Builtin.List.listExtendWith (.ref l) (.ref I) .none) _ _ s;refine q8 (A:=A) (R:=wants Q E) (C8 (A:=A.in1) hh I t items n (by rw[e];lia) htI) (T:="reversed") hI.typeIs (by decide) (by decide) (λ E Q hq=>wF hI ht (by rw[e];lia) hq) ⟨aI _,by simpa using hI,ht⟩ hlI hlt hl (by lia) (by lia) λ h' tk acc' c' hk hS hs hv=>?_;exact h h' tk acc' c' hk hS (xp hs hv)
theorem u2 {l I:Addr}{items:Array Value}{Q:Value→Shared→Prop}(hh:A.handled=none)(hI:s.heap.IsRevIter I l ((items.size:Int) - 1))(hl:s.heap.IsList l items)(hz:items.size≤sizeLine)(hlI:l≠I)
  (h:∀ h' tk acc' c',(∀ b o,b≠I→s.heap.get? b=some o→h'.get? b=some o)→h'.get? s.heap.objs.size=some (dJ acc' c')→acc'.toList=items.toList.reverse→Q (.ref s.heap.objs.size) { s with heap:=h',toks:=tk }):
  wpAny (model prog w) A (call (.type "list") [.ref I]) Q E s:=by
 refine callType_codes (Q₁:=λ obj s₁=>obj=.ref s.heap.objs.size∧s₁={ s with heap:=s.heap.push { cls:=.type "list",data:=.seq #[] } }) F.called_list (F.typeCall_list_1 _) F.entry_list_init
  (code_list_new _ ⟨rfl,rfl⟩) λ obj s₁ h₁=>?_
 obtain⟨rfl,rfl⟩:=h₁;have hS:(s.heap.push { cls:=.type "list",data:=.seq #[] }).get? s.heap.objs.size=some { cls:=.type "list",data:=.seq #[] }:=Heap.get?_push_size _ rfl;refine⟨⟨_,hS,rfl⟩,F.args_list_init_2 _ _,?_⟩;have hI1:(s.heap.push { cls:=.type "list",data:=.seq #[] }).IsRevIter I l ((items.size:Int) - 1):=hI.at λ o e=>Heap.get?_push_of_some _ e;have hl1:(s.heap.push { cls:=.type "list",data:=.seq #[] }).IsList l items:=hl.at λ o e=>Heap.get?_push_of_some _ e;obtain⟨oI,hoI,_⟩:=id hI;obtain⟨ol,hol,_⟩:=id hl;have hSI:s.heap.objs.size≠I:=Nat.ne_of_gt (Heap.lt_size hoI);have hSl:s.heap.objs.size≠l:=Nat.ne_of_gt (Heap.lt_size hol);show wpAny _ _ (do let old←Builtin.List.listItems (.ref s.heap.objs.size);Builtin.List.listUpdate (.ref s.heap.objs.size) (λ ω=>#[]);letGo old.toList.reverse;Builtin.List.listExtendWith (.ref s.heap.objs.size) (.ref I) .none) _ _ _;refine wpAny_bind ?_;unfold Builtin.List.listItems;refine wpAny_bind (wpAny_seqItems hS rfl (wpAny_pure ?_));show wpAny _ _ (updateSeq s.heap.objs.size (λ ω=>#[])>>=λ ω=>letGo (#[]:Array Value).toList.reverse>>=λ ω=>Builtin.List.listExtendWith (.ref s.heap.objs.size) (.ref I) .none) _ _ _;refine wpAny_bind (wpAny_updateSeq hS rfl ?_);have hS₂:=IsL.update (l:=s.heap.objs.size) hS (λ ω=>(#[]:Array Value));have oth:∀ b o,b≠s.heap.objs.size→(s.heap.push { cls:=.type "list",data:=.seq #[] }).get? b=some o→((s.heap.push { cls:=.type "list",data:=.seq #[] }).update s.heap.objs.size (Obj.mapSeq (λ ω=>(#[]:Array Value)))).get? b=some o:=
  λ b o hb e=>(Heap.get?_update_other _ _ (Ne.symm hb)).trans e
 refine wpAny_bind (wpAny_letGo ?_);have hI2:=hI1.at λ o e=>oth I o (Ne.symm hSI) e;refine q8 (A:=A.in1) (W:=Walks.listRev (A:=A.in1.in1) hh I l hlI items) (T:="list_reverseiterator") hI2.typeIs (by decide) (by decide) (λ E Q hq=>uH hI2.typeIs (hq _ _))
  ⟨aI _,by simpa using hI2,hl1.at λ o e=>oth l o (Ne.symm hSl) e⟩ hSI hSl hS₂ (by simpa using hz) (by rw[sizeLine_eq];decide) λ h' tk acc' c' hk hS hs hv=>?_
 refine⟨rfl,h h' tk acc' c' (λ b o hb e=>hk b o (Nat.ne_of_lt (Heap.lt_size e)) hb (oth b o (Nat.ne_of_lt (Heap.lt_size e)) (Heap.get?_push_of_some _ e))) hS ?_⟩
 simpa using xp hs hv
end
section
variable {prog:Program}{w:World}{K:Type}[DecidableEq K]{knd:PySem.KeyKind prog w K}{A:Around}{E:Value→Shared→Prop}{s:Shared}
theorem sY {d:Addr}{kvs:List (K×Value)}{k:K}{key dflt:Value}{Q:Value→Shared→Prop}(hkey:knd.is k key=true)(hm:s.heap.DictOf knd d kvs)
  (hthere:∀ v,valueAt kvs k=some v→Q v { s with toks:=s.toks+1 })
  (hnew:valueAt kvs k=none→∀ h',h'.DictOf knd d (kvs++[(k,dflt)])→Heap.SameBut d s.heap h'→Q dflt { s with heap:=h',toks:=s.toks+1 })
  (hsz:kvs.length≤sizeLine):
  wpAny (model prog w) A (dictSetDefault d key dflt) Q E s:=by
 have hf:=hm.mapOf;obtain⟨o,es,ep,ho,hc,hd,hk,hp,hn⟩:=hm;obtain⟨o2,es2,ep2,ho2,hc2,hd2,hk2,hf2⟩:=hf;rw[ho]at ho2;cases ho2;rw[hd]at hd2;cases hd2;have hes:es.size≤sizeLine:=by
  have e1:=hp.length;have e2:es.toList.length=es.size:=by simp
  lia
 unfold dictSetDefault
 try with_reducible refine wpAny_holding ?_
 refine wpAny_bind (knd.pyHash hkey ?_);refine wpAny_bind (wpAny_dictFind_of (s:={ s with toks:=s.toks+1 }) hkey ho hd hk ?_);have hidx:(es.findIdx? λ e=>knd.is k e.key)=kvs.findIdx? λ kv=>decide (kv.1=k):=by
  rw[←hp.findIdx k];obtain⟨l⟩:=es;simp
 cases hi:es.findIdx? λ e=>knd.is k e.key with
 |some i=>
  have hfk:valueAt kvs k=(es[i]?).map (·.val):=by rw[←hf2 k,findBy_of_findIdx?,hi]
  refine wpAny_bind (wpAny_dictEntries (s:={ s with toks:=s.toks+1 }) ho hd ?_);cases he:es[i]? with
  |none=>
   exfalso
   have hlt:i<es.size:=(Array.findIdx?_eq_some_iff_findIdx_eq.mp hi).1;rw[Array.getElem?_eq_getElem hlt]at he;exact nomatch he
  |some e=>
   rw[he]at hfk;exact wpAny_bind (wpAny_rule (wpAny_pure (hthere e.val hfk)))
 |none=>
  have hfk:valueAt kvs k=none:=by rw[←hf2 k,findBy_of_findIdx?,hi]
  have hnot:k∉kvs.map (·.1):=not_mem_of_findIdx_none (hidx▸hi);refine wpAny_bind (wpAny_rule (wpAny_bind (wpAny_updateDictKeys (hz:=hes) (s:={ s with toks:=s.toks+1 }) ho hd (wpAny_pure (hnew hfk _ ⟨_,_,ep+1,Heap.get?_update_self _ ho (Obj.isFreed_of_dict (Obj.data_mapDictKeys hd _)),
   hc.mapDictKeys _,Obj.data_mapDictKeys hd _,hk.push hkey _,?_,?_⟩ (Heap.SameBut.update ..))))))
  ·have:=hp.append hkey (knd.hash k) dflt;obtain⟨l⟩:=es
   simpa using this
  ·rw[aN,List.nodup_append];refine⟨hn,by simp,?_⟩;intro a ha b hb;simp only[List.map_cons,List.map_nil,List.mem_singleton]at hb;subst hb;exact λ e=>hnot (e▸ha)
theorem ip {d:Addr}{kvs:List (K×Value)}{k:K}{key dflt:Value}{Q:Value→Shared→Prop}(hkey:knd.is k key=true)(hm:s.heap.DictOf knd d kvs)(hd:(d==sysModules)=false)
  (hthere:∀ v,valueAt kvs k=some v→Q v { s with toks:=s.toks+1 })
  (hnew:valueAt kvs k=none→∀ h',h'.DictOf knd d (kvs++[(k,dflt)])→Heap.SameBut d s.heap h'→Q dflt { s with heap:=h',toks:=s.toks+1 })
  (hsz:kvs.length≤sizeLine):
  wpAny (model prog w) A (call (.builtin "dict.setdefault") [.ref d,key,dflt]) Q E s:=by
 refine wpAny_call_entry F.slot_dict_setdefault hm.typeIs F.entry_dict_setdefault ?_ (F.args_dict_setdefault_3 _ _ _);unfold Builtin.«dict.setdefault»;refine wpAny_bind ?_;unfold Builtin.Dict.keyAndDefault;refine wpAny_bind (wpAny_notOrdered_dict hm.typeIs ?_);show wpAny _ _ (pure (d,key,some dflt)) _ _ s;refine wpAny_pure ?_;show wpAny _ _ (if (d==sysModules)=true then _ else (dictSetDefault d key dflt>>=_)) _ _ s;rw[aK (by rw[hd];exact Bool.false_ne_true)];exact wpAny_bind (sY hkey hm (λ v hv=>wpAny_pure ⟨v,rfl,hthere v hv⟩) (λ hn h' hm' hs'=>wpAny_pure ⟨dflt,rfl,hnew hn h' hm' hs'⟩) hsz)
end
section
variable {σ:bH}{Q:bI}{X:SP}{a b:Addr}{v i d t o:AV}
theorem MK (h:vw Q a v σ):∃ vs,σ a=some (.list vs)∧vs.length<cX∧Q .none (σ.upd a (.list (vs++[v]))):=by unfold vw at h;exact h
theorem GK (h:vH Q a σ):∃ vs v,σ a=some (.list (vs++[v]))∧Q v (σ.upd a (.list vs)):=by unfold vH at h;exact h
theorem GO (h:wc Q a σ):∃ vs,σ a=some (.list vs)∧Q .none (σ.upd a (.list vs.reverse)):=by unfold wc at h;exact h
theorem QR (h:getL Q a i d σ):∃ ob r,σ a=some ob∧A9 ob i r∧Q (r.getD d) σ:=by unfold getL at h;exact h
theorem My (h:mZ Q a i σ):∃ kvs k,σ a=some (.dI kvs)∧i=.int k∧kvs.length<cX∧dq (.list []) (fw Q a kvs k) σ:=by unfold mZ at h;exact h
theorem Ov (h:yM Q a t σ):∃ vs ws,σ a=some (.list vs)∧t=.tup ws∧vs.length+ws.length<cX∧Q .none (σ.upd a (.list (vs++ws.reverse))):=by unfold yM at h;exact h
theorem E5 {K:List AV→SP}(h:lK K a σ):∃ ob vs,σ a=some ob∧tB ob vs∧K vs σ:=by unfold lK at h;exact h
theorem N9 (h:u5 Q a σ):∃ ob n,σ a=some ob∧DM ob n∧Q (.int n) σ:=by unfold u5 at h;exact h
theorem ON (h:tupL Q a σ):∃ vs,σ a=some (.list vs)∧Q (.tup vs) σ:=by unfold tupL at h;exact h
theorem JO (h:rA Q a σ):∃ kvs,σ a=some (.dI kvs)∧dq (.dI kvs) Q σ:=by unfold rA at h;exact h
theorem HJ (h:qH Q a σ):∃ vs,σ a=some (.list vs)∧dq (.list vs.reverse) Q σ:=by unfold qH at h;exact h
theorem Ic {k:Int}(h:qR Q k σ):0≤k∧k<cX∧dq (.list (jN k.toNat)) Q σ:=by unfold qR at h;exact h
theorem IB (h:qV Q a σ):∃ vs is,σ a=some (.list vs)∧gA vs=some is∧is.length<64∧dq (.list ((jI is).map .int)) Q σ:=by unfold qV at h;exact h
theorem On {i:Int}(h:y7 Q i σ):0≤i∧i<1000000∧Q (.str (jR i)) σ:=by unfold y7 at h;exact h
end
section
variable {c:Cx}{A:Around}{n:Nat}{σ:bH}{s:Shared}{X:Addr→Prop}{Q:bI}{a:Addr}{v w:Value}{va wa:AV}
theorem SW {h:Heap}{vs:List AV}{ws:List Value}{n:Nat}(L:yw h a vs ws n):ws.toArray.size≤sizeLine:=L.z
theorem Aw (G:c.good σ s.heap)(rv:bD s.heap v va)(h:vw Q a va σ):c.J A X bD (call (.builtin "list.append") [.ref a,v]) σ s Q:=by
 obtain⟨vs,e,hz,q⟩:=MK h;obtain⟨ws,m,L⟩:=G.list e;refine call_meets F.slot_list_append ⟨_,L.at_,rfl⟩ F.entry_list_append (F.args_list_append_2 _ _) (list_append a ws.toArray m v L.z) ⟨L.at_,f8 s.toks G e L ?_ ?_ .mkN q⟩
 ·exact (Array.toList_push ..).symm▸bY.append (.cons rv .nil) L.r
 ·rw[ay];exact hz
theorem Q6 (G:c.good σ s.heap)(h:vH Q a σ):c.J A X bD (call (.builtin "list.pop") [.ref a]) σ s Q:=by
 obtain⟨ini,v,e,q⟩:=GK h;obtain⟨ws,m,L⟩:=G.list e;have hlen:ws.length=ini.length+1:=L.r.length.trans ay;obtain⟨u,hu,ru⟩:=L.r.get (i:=ini.length) (a:=v) List.getElem?_concat_length;have hs:ws.toArray.size - 1=ini.length:=ae (· - 1) hlen;refine call_meets F.slot_list_pop ⟨_,L.at_,rfl⟩ F.entry_list_pop (F.args_list_pop_1 _) (MeetsSeq.list_pop_last a ws.toArray m u (hs▸List.getElem?_toArray.trans hu) L.z) ⟨L.at_,f8 (vs':=ini) s.toks G e L ?_ ?_ (ru.up (pG L.at_ _)) q⟩
 ·have h1:(ws.toArray.eraseIdxIfInBounds (ws.toArray.size - 1)).toList=ws.take ini.length:=by
   simp[hlen,List.eraseIdx_eq_take_drop_succ]
  rw[h1];have h2:=L.r.take ini.length;rw[List.take_left]at h2;exact h2
 ·exact dw▸aa (aM _) (aa (am hlen.symm) L.z)
theorem Rw (G:c.good σ s.heap)(h:wc Q a σ):c.J A X bD (call (.builtin "list.reverse") [.ref a]) σ s Q:=by
 obtain⟨vs,e,q⟩:=GO h;obtain⟨ws,m,L⟩:=G.list e;refine call_meets F.slot_list_reverse ⟨_,L.at_,rfl⟩ F.entry_list_reverse (F.args_list_reverse_1 _) (AutoSeq1.list_reverse_list_0 a ws.toArray m L.z) ⟨L.at_,f8 s.toks G e L ?_ ?_ .mkN q⟩
 ·exact (Array.toList_reverse ..).symm▸L.r.reverse
 ·rw[bu,←L.r.length,dw];exact L.z
theorem pI {h:Heap}{u:Option Value}{r:Option AV}{d:Value}{da:AV}(x:CJ h u r)(rd:bD h d da):bD h (u.getD d) (r.getD da):=by
 cases r with
 |none=>obtain rfl:u=none:=x;exact rd
 |some v=>obtain⟨w,rfl,x⟩:=x;exact x
theorem R7 (R:f4 n A)(G:c.good σ s.heap)(rv:bD s.heap v va)(rw_:bD s.heap w wa)(h:getL Q a va wa σ):c.J A X bD (call (.builtin "dict.get") [.ref a,v,w]) σ s Q:=by
 obtain⟨ob,r,e,hG,q⟩:=QR h;rcases hG with _|_|hi
 ·obtain⟨t,rfl⟩:=rv;obtain⟨cs,d,r,_⟩:=(G.objs _ _ e).2;exact call_meetsIn F.slot_dict_get d.mapOf.typeIs F.entry_dict_get (F.args_dict_get_3 _ _ _) (meets_dict_get_default _ _ (kI c _ t) (fE G e) w) ⟨_,d.mapOf,bN (s.toks+1) G (pI r.at rw_) q⟩
 ·obtain⟨_,t,rfl⟩:=rv;obtain⟨cs,d,r,_⟩:=(G.objs _ _ e).2;refine call_meetsIn F.slot_dict_get d.mapOf.typeIs F.entry_dict_get (F.args_dict_get_3 _ _ _) (meets_dict_get_default _ _ (kS c _ t) (fE G e) w) ⟨_,d.mapOf,bN (s.toks+1) G (pI ?_ rw_) q⟩;rw[←uR];exact r.at
 ·obtain⟨b,rfl,hk⟩:=uf (c:=c) rv hi;obtain⟨cs,d,r,_⟩:=(G.objs _ _ e).2;refine call_meetsIn F.slot_dict_get d.typeIs F.entry_dict_get (F.args_dict_get_3 _ _ _) (meetsH_dict_get_default (tupleKind (intKind c.prog c.w)) _ _ (fE G e) w) ⟨Hb R,_,cs,hk,d,bN _ G (pI ?_ rw_) q⟩;rw[FS];exact r.at
theorem zp {κ:Type}[DecidableEq κ](k:κ)(a:AV){as:List (κ×AV)}:bM as k=none→cn as k a=as++[(k,a)]:=by
 induction as with
 |nil=>exact λ ω=>rfl
 |cons p r ih=>
  intro h
  by_cases q:p.1=k
  ·exact nomatch (ww q).symm.trans h
  ·exact (sX q).trans (ae (p::·) (ih ((v8 q).symm.trans h)))
theorem AX {k:Int}{kvs:List (Int×AV)}(G:c.good σ s.heap)(e:σ a=some (.dI kvs))(rk:bD s.heap v (.int k))(rl:bD s.heap w wa)(hz:kvs.length<cX)(h:fw Q a kvs k wa σ):c.J A X bD (call (.builtin "dict.setdefault") [.ref a,v,w]) σ s Q:=by
 obtain⟨cs,d,r,z⟩:=(G.objs _ _ e).2;obtain⟨o,ho,hoc⟩:=(G.objs _ _ e).2.obj;obtain⟨t,rfl⟩:=rk;unfold fw at h;have hr:=r.at (k:=k);cases hg:bM kvs k with
 |some u=>
  rw[hg]at h hr;obtain⟨x,hx,rx⟩:=hr;exact ip (kI c k t) d (fE G e) (λ v hv=>bN (s.toks+1) G (aA (hx.symm.trans hv)▸rx) h) (λ hn=>nomatch hx.symm.trans hn) (tP r.length hz)
 |none=>
  rw[hg]at h hr;refine ip (kI c k t) d (fE G e) (λ v hv=>nomatch hv.symm.trans hr) (λ hn h' d' sb=>?_) (tP r.length hz);have tl:=mr ho hoc sb;exact mH (ob':=.dI (cn kvs k wa)) (s.toks+1) G e sb.2 ⟨_,d',(zp k wa hg).symm▸(r.up tl).append (rl.up tl),aa (fZ ..) hz⟩ (rl.up tl) h
theorem OU (G:c.good σ s.heap)(ro:bD s.heap v va)(h:Rc Q va σ):c.J A X bD (call (.builtin "len") [v]) σ s Q:=by
 rcases va with _|_|_|_|vs|l
 ·exact h.elim
 ·exact h.elim
 ·exact h.elim
 ·exact h.elim
 ·obtain⟨a,ws,m,rfl,e,r,hl,hz⟩:=ro.tupL;exact P.len_tuple (n:=m) e (Int.not_le.mpr (Ej hz)) (bN (Q:=Q) (b:=.int (vs.length:Nat)) (s.toks+1+1) G (hl▸.mkI _ _) h)
 ·obtain rfl:v=_:=ro;obtain⟨ob,n,e,hL,q⟩:=N9 h;rcases hL with _|_
  ·obtain⟨ws,m,L⟩:=G.list e;exact Calls.call_len_list L.at_.isList (Ej L.z) (bN (s.toks+1+1) G (L.r.length▸.mkI _ _) q)
  ·obtain⟨cs,d,r,z⟩:=(G.objs _ _ e).2;exact call_len_dict (fE G e) d (Ej (r.length▸dw▸z)) (bN (s.toks+1+1) G (r.length▸.mkI _ _) q)
theorem RC {i:Int}(G:c.good σ s.heap)(ro:bD s.heap v (.int i))(h:Q (.int i.natAbs) σ):c.J A X bD (call (.builtin "abs") [v]) σ s Q:=by
 obtain⟨t,rfl⟩:=ro;refine call_abs_int λ u tk=>?_;have e:(if i<0 then -i else i)=(i.natAbs:Int):=by split<;>omega
 rw[e];exact bN tk G (.mkI _ _) h
theorem Jr {l:List Char}:GX (l.map Char.toNat):=by
 unfold GX PyData.strOk;simp only[List.all_toArray,List.all_map,List.all_eq_true];intro ch _;have:=ch.valid;simp only[UInt32.isValidChar,Nat.isValidChar]at this;have h2:ch.toNat=ch.val.toNat:=rfl;simp only[Function.comp,decide_eq_true_eq,h2]
 omega
theorem MN {i:Int}(G:c.good σ s.heap)(ro:bD s.heap v (.int i))(h:y7 Q i σ):c.J A X bD (call (.type "str") [v]) σ s Q:=by
 obtain⟨t,rfl⟩:=ro;obtain⟨h0,h1,q⟩:=On h;have e:Str.ofString (toString i)=sx (jR i):=(Str.ofString_eq_toList _).trans rfl;refine P.str_of_int ?_ (bN (s.toks+1) G (e▸.mkS Jr _) q);have:i.natAbs<2 ^ 20:=by omega
 by_cases hz:i.natAbs=0
 ·rw[hz];decide
 ·exact aw ((Nat.log2_lt hz).mpr this) (by decide)
theorem Fu {h:Heap}{as:List AV}:∀ {vs:List Value} {is:List Int},bY h vs as→gA as=some is→IntsAre vs is:=by
 induction as with
 |nil=>intro vs is r e;cases e;obtain rfl:vs=[]:=r;exact .nil
 |cons a r ih=>
  rintro _ is ⟨w,ws,rfl,x,y⟩ e
  rcases a with _|_|i|_|_|_
  ·cases e
  ·cases e
  ·obtain⟨ks',e',rfl⟩:=Option.map_eq_some_iff.mp e;obtain⟨t,rfl⟩:=x;exact .cons i t (ih y e')
  ·cases e
  ·cases e
  ·cases e
theorem Aj {h:Heap}{vs:List Value}{is:List Int}(x:IntsAre vs is):bY h vs (is.map .int):=by
 induction x with
 |nil=>exact rfl
 |cons n t r ih=>exact .cons (.mkI n t) ih
theorem qZ (x:Int)(l:List Int):(zA x l).Perm (x::l):=by
 induction l with
 |nil=>exact .refl _
 |cons y r ih=>
  unfold zA
  split
  ·exact .refl _
  ·exact (ih.cons y).trans (.swap x y r)
set_option tactic.hygienic true in
theorem uX {x:Int}{l:List Int}:l.Pairwise (·≤·)→(zA x l).Pairwise (·≤·):=by
 induction l with
 |nil=>exact λ ω=>List.pairwise_singleton ..
 |cons y r ih=>
  intro h;have h':=List.pairwise_cons.mp h;unfold zA
  split
  ·rename_i q;exact List.pairwise_cons.mpr ⟨λ z hz=>(ap hz).elim (λ e=>e▸q) λ hz=>aS q (h'.1 z hz),h⟩
  ·rename_i q;exact List.pairwise_cons.mpr ⟨λ z hz=>(ap ((qZ x r).mem_iff.mp hz)).elim (λ e=>e▸Int.le_of_lt (Int.not_le.mp q)) (h'.1 z),ih h'.2⟩
theorem jh (l:List Int):(jI l).Perm l:=by
 induction l with
 |nil=>exact .refl _
 |cons x r ih=>exact (qZ x _).trans (ih.cons x)
theorem jm (l:List Int):(jI l).Pairwise (·≤·):=by
 induction l with
 |nil=>exact .nil
 |cons x r ih=>exact uX ih
theorem Cg (G:c.good σ s.heap)(h:qV Q a σ):c.J A X bD (call (.builtin "sorted") [.ref a]) σ s Q:=by
 obtain⟨vs,is,e,hi,h64,q⟩:=IB h;obtain⟨ws,m,L⟩:=G.list e;have hI:=Fu L.r hi;refine sorted_ints L.at_.isList hI ((IntsAre.length hI).symm▸h64) λ out ns' a1 a2 a3=>?_;obtain rfl:ns'=jI is:=lks_uniq (a2.trans (jh is).symm) a3 (jm is);obtain⟨e1,he⟩:=sortedAll_at s.heap ws out;refine dU (ob:=.list ((jI is).map .int)) s.toks G (λ ω ω=>sortedAll_old) (dK (aM _)) ⟨out,e1,he,Aj a1,?_⟩ q;rw[ak,(jh is).length_eq];exact aW (aw h64 (by decide))
theorem EO (G:c.good σ s.heap)(ro:bD s.heap v va)(h:M3 Q va σ):c.J A X bD (call (.type "tuple") [v]) σ s Q:=by
 rcases va with _|_|_|_|vs|l
 ·exact h.elim
 ·exact h.elim
 ·exact h.elim
 ·exact h.elim
 ·obtain⟨a,ws,m,rfl,e,r,hl,hz⟩:=ro.tupL;exact call_tuple_same (items:=ws) ⟨_,e,rfl,_,rfl⟩ (bN s.toks G ro h)
 ·obtain rfl:v=_:=ro;obtain⟨vs,e,q⟩:=ON h;obtain⟨ws,m,L⟩:=G.list e;refine call_tuple_list L.at_.isList (λ h' hk=>?_) L.z;have x:kg s.heap (h'.push { cls:=.type "tuple",data:=.seq ws.toArray }):=λ b o e=>Heap.get?_push_of_some _ (hk b o e);exact w4 s.toks G x (.mkT (items:=ws.toArray) (n:=0) (Heap.get?_push_size _ rfl) (L.r.up x.tup) (L.r.length▸dw▸L.z)) q
theorem vv {h:Heap}{kvs:List (Int×AV)}:∀ {cs:List (Int×Value)} {i:Nat} {k:Int} {x:Value},d9 h cs kvs→cs[i]? =some (k,x)→∃ a,kvs[i]? =some (k,a):=by
 induction kvs with
 |nil=>intro cs i k x r e;obtain rfl:cs=[]:=r;cases e
 |cons p r ih=>
  rintro _ i k x ⟨v,cs,rfl,_,y⟩ e
  rcases i with _|i
  ·cases aA e;exact⟨p.2,rfl⟩
  ·exact ih (i:=i) y e
theorem o6 {h:Heap}{vs:List AV}:∀ {ws:List Value},ws.length=vs.length→(∀ (j:Nat) (v:Value),ws[j]? =some v→∃ a,vs[j]? =some a∧bD h v a)→bY h ws vs:=by
 induction vs with
 |nil=>exact λ hl ω=>List.eq_nil_of_length_eq_zero hl
 |cons a vs ih=>
  intro ws hl hh;rcases ws with _|⟨v,ws⟩
  ·cases hl
  ·obtain⟨a',e,r⟩:=hh 0 v rfl;cases aA e;exact .cons r (ih (Nat.succ.inj hl) λ j u hu=>hh (j+1) u hu)
theorem yp {h':Heap}{vs:List AV}{ws:List Value}{k:Nat}(G:c.good σ s.heap)(r:bY s.heap ws vs)(z:ws.length≤sizeLine)(x:kg s.heap h')(hS:h'.get? s.heap.objs.size=some (dJ ws.toArray k))(q:dq (.list vs) Q σ):c.Res X bD σ s Q (.ref s.heap.objs.size) { s with heap:=h' }:=
 dU (ob:=.list vs) s.toks G x (cu _) ⟨_,k,hS,r.up x.tup,r.length▸dw▸z⟩ q
set_option tactic.hygienic true in
theorem Jm (R:f4 n A)(G:c.good σ s.heap)(ro:bD s.heap v va)(h:Ax (DR Q) va σ):c.J A X bD (call (.type "list") [v]) σ s Q:=by
 rcases va with _|_|_|_|vs|l
 ·exact h.elim
 ·exact h.elim
 ·exact h.elim
 ·exact h.elim
 ·obtain⟨a,ws,m,rfl,e,r,hl,hz⟩:=ro.tupL;exact call_list_seq a (.inr rfl) e rfl rfl (λ h' c' hk hS=>yp G r hz hk hS h) hz
 ·obtain rfl:v=_:=ro;obtain⟨ob,vs,e,hI,q⟩:=E5 h;rcases hI with _|_
  ·obtain⟨ws,m,L⟩:=G.list e;exact call_list_seq _ (.inl rfl) L.at_ rfl rfl (λ h' c' hk hS=>yp G L.r L.z hk hS q) L.z
  ·obtain⟨cs,d,r,z⟩:=(G.objs _ _ e).2;obtain⟨ep,hat⟩:=d.dictAt;rename_i kvs;refine kdl_call (kdl_dict (knd:=intKind c.prog c.w) (kvs:=cs) (ep:=ep) (fE G e)) R.hd hat (r.length▸dw▸z) λ h' tk acc' c' hk hS hv=>?_;refine dU (ob:=.list (kvs.map λ p=>.int p.1)) tk G hk (cu _) ⟨_,_,hS,o6 (Array.length_toList.trans (hv.1.trans (r.length.trans (ak _).symm))) λ j u hu=>?_,(ak (λ p:Int×AV=>AV.int p.1)).symm▸z⟩ (id q:dq _ Q σ);obtain⟨k,x,hx,hi⟩:=hv.2 j u (Array.getElem?_toList.symm.trans hu);obtain⟨a,ha⟩:=vv r hx;obtain⟨t,rfl⟩:=Value.isInt_shape hi;exact⟨.int k,List.getElem?_map.trans (ae (Option.map _) ha),.mkI k t⟩
theorem Il (G:c.good σ s.heap)(h:rA Q a σ):c.J A X bD (call (.type "dict") [.ref a]) σ s Q:=by
 obtain⟨kvs,e,q⟩:=JO h;obtain⟨cs,d,r,z⟩:=(G.objs _ _ e).2;refine kt_call_dict (fE G e) d (r.length▸dw▸z) λ h' hd sb=>?_;have x:kg s.heap h':=λ b o e=>(sb.2 b (Nat.ne_of_lt (Heap.lt_size e))).trans (Heap.get?_push_of_some _ e);exact dU (ob:=.dI kvs) s.toks G x (cu _) ⟨_,hd,r.up x.tup,z⟩ q
theorem Fj (G:c.good σ s.heap)(ro:bD s.heap v va)(h:zQ Q va σ):c.J A X bD (call (.builtin "isinstance") [v,.type "tuple"]) σ s Q:=by
 rcases va with _|_|i|_|vs|l
 ·exact h.elim
 ·exact h.elim
 ·obtain⟨t,rfl⟩:=ro;exact IsiPair.int_tuple (bN _ G (.mkB _) h)
 ·exact h.elim
 ·obtain⟨a,ws,m,rfl,e,r,hl,hz⟩:=ro.tupL;exact IsiPair.tuple_tuple e rfl (bN s.toks G (.mkB _) h)
 ·exact h.elim
theorem xC {n j:Nat}(h:j<n):(jN n)[j]? =some (.int (j:Nat)):=by
 unfold jN;rw[aZ,List.getElem?_range h];rfl
theorem io (n:Nat):(jN n).length=n:=(ak _).trans List.length_range
theorem ud (k:Nat):Builtin.Range.rangeSize 0 (k:Int) 1=k:=by rw[rangeSize_one];split<;>omega
theorem oB {k:Nat}(h:k<cX): -(2 ^ 62)≤(k:Int)∧(k:Int)<2 ^ 62:=⟨aS (by decide) (bf k),Int.lt_trans (ba h) (by decide)⟩
theorem u0 {k:Int}{t:Tok}(R:f4 n A)(G:c.good σ s.heap)(h:qR Q k σ):wpAny c.M A (call (.type "range") [.int k t]) (λ r s'=>c.K.In s'.heap∧wpAny c.M A (call (.type "list") [r]) (c.Res X bD σ s Q) gy s') gy s:=by
 obtain⟨h0,h1,q⟩:=Ic h;obtain⟨k,rfl⟩:=Int.eq_ofNat_of_zero_le h0;have h1:=Int.ofNat_lt.mp h1;refine call_range_1 ⟨?_,?_⟩
 ·show c.K.In (s.heap.push _);exact c.X.keeps (G.ext (.push _)).base
 have hr:=IsRange.new s.heap 0 k 1 s.toks t (s.toks+1);refine call_list_range (n:=k) R.hd hr (small_one (by decide) (by decide) (oB h1).1 (oB h1).2) (ud k) (aW h1) λ h' tk acc' c' hkp hS hv=>?_;refine dU (ob:=.list (jN k)) tk G (λ b o e=>hkp b o (Heap.get?_push_of_some _ e)) (dK (by rw[Heap.size_push];exact aM _)) ⟨_,_,hS,o6 (Array.length_toList.trans (hv.1.trans (io k).symm)) λ j u hu=>?_,(io k).symm▸aW h1⟩ q;obtain⟨t',rfl⟩:=hv.2 j u (Array.getElem?_toList.symm.trans hu);have hj:j<k:=hv.1▸Array.length_toList▸(az hu).1;exact⟨.int j,xC hj,by simpa using bD.mkI (h:=h') (j:Int) t'⟩
theorem yF (R:f4 n A)(G:c.good σ s.heap)(h:qH Q a σ):wpAny c.M A (call (.type "reversed") [.ref a]) (λ r s'=>c.K.In s'.heap∧wpAny c.M A (call (.type "list") [r]) (c.Res X bD σ s Q) gy s') gy s:=by
 obtain⟨vs,e,q⟩:=HJ h;obtain⟨ws,m,L⟩:=G.list e;refine call_reversed_list L.at_.isList ⟨?_,?_⟩
 ·show c.K.In (s.heap.push _);exact c.X.keeps (G.ext (.push _)).base
 have hlt:a≠s.heap.objs.size:=Nat.ne_of_lt (Heap.lt_size L.at_);refine u2 (items:=ws.toArray) R.hd ⟨_,Heap.get?_push_size _ rfl,rfl,rfl⟩ (IsL.isList (Heap.get?_push_of_some _ L.at_)) L.z hlt λ h' tk acc' c' hkp hS hv=>?_;have x:kg s.heap h':=λ b o e=>hkp b o (Nat.ne_of_lt (Heap.lt_size e)) (Heap.get?_push_of_some _ e);exact dU (ob:=.list vs.reverse) tk G x (dK (by rw[Heap.size_push];exact aM _)) ⟨_,_,hS,hv▸L.r.reverse.up x.tup,by rw[bu,←L.r.length,dw];exact L.z⟩ q
theorem Bu (R:f4 n A)(G:c.good σ s.heap)(rv:bD s.heap v va)(h:yM Q a va σ):wpAny c.M A (call (.type "reversed") [v]) (λ r s'=>wpAny c.M A (call (.builtin "list.extend") [.ref a,r]) (c.Res X bD σ s Q) gy s') gy s:=by
 obtain⟨vs,us,e,rfl,hz,q⟩:=Ov h;obtain⟨t,us',m,rfl,et,r,hlu,hzu⟩:=rv.tupL;obtain⟨ws,m',L⟩:=G.list e;have hlw:=L.r.length;refine FJ et (dw▸hzu) λ UZ=>?_;refine oq (n:=m) (c₀:=m') (acc0:=ws.toArray) (items:=us') R.hd ⟨_,Heap.get?_push_size _ rfl,rfl,rfl⟩ (Heap.get?_push_of_some _ et) (by rw[List.size_toArray,hlw,hlu,←dw];exact hz) (Heap.get?_push_of_some _ L.at_) (Nat.ne_of_lt (Heap.lt_size L.at_)) (Nat.ne_of_lt (Heap.lt_size et)) λ h' tk acc' c' hkp hS hv=>?_;have hk1:∀ b o,b≠a→s.heap.get? b=some o→h'.get? b=some o:=λ b o hb e=>hkp b o hb (Nat.ne_of_lt (Heap.lt_size e)) (Heap.get?_push_of_some _ e);have tl:cP s.heap h':=λ b items k e2=>hk1 b _ (λ q=>Ap (ae Obj.cls (aA ((id L.at_:s.heap.get? a=_).symm.trans ((ae s.heap.get? q).symm.trans e2))))) e2;have hob:de c.prog c.w h' a (.list (vs++us.reverse)):=⟨acc',c',hS,hv▸bY.append (r.reverse.up tl) (L.r.up tl),by rw[ay,bu];exact aW hz⟩;refine o8 (b:=.none) q .mkN ⟨λ b o x=>hk1 b o (λ q=>cz (G.objs a _ e).1 (q▸x)) (G.base b o x),λ b ob x=>?_⟩ ⟨λ b o x hn ω=>hk1 b o (λ q=>cz (q▸hn) e) x,λ b ω hn=>(fB λ q=>cz (q▸hn) e).trans hn,λ b x=>?_⟩
 ·rcases nj x with⟨q,z⟩|⟨q,z⟩
  ·exact q▸z▸⟨(G.objs a _ e).1,hob⟩
  ·refine⟨(G.objs b ob z).1,(G.objs b ob z).2.mono λ d o y hc=>hk1 d o (λ q'=>?_) y⟩;subst q';exact hc.elim (λ p=>q p.symm) λ p=>f7 (aA ((id L.at_:s.heap.get? d=_).symm.trans y)▸p)
 ·by_cases q:b=a
  ·exact (cz (q▸x) hS).elim
  ·cases y:s.heap.get? b with
   |none=>rfl
   |some o=>exact (cz x (hk1 b o q y)).elim
end
section
variable {σ:bH}{Q:bI}{X:SP}{K:BP}{a b:Addr}{v:AV}{C:Addr}{x:Sx}
theorem PN (h:AU K a σ):∃ vs,σ a=some (.list vs)∧K (!vs.isEmpty) σ:=by unfold AU at h;exact h
theorem Je (h:Az Q a b σ):∃ xs ys,σ a=some (.list xs)∧σ b=some (.list ys)∧xs.length+ys.length<cX∧dq (.list (xs++ys)) Q σ:=by unfold Az at h;exact h
theorem FA (h:uI Q a b σ):∃ xs ys,σ a=some (.list xs)∧σ b=some (.list ys)∧a≠b∧xs.length+ys.length<cX∧Q (.loc a) (σ.upd a (.list (xs++ys))):=by unfold uI at h;exact h
theorem IY {s t:Sx}(h:BE Q s t σ):s.length+t.length≤10000∧Q (.str (s++t)) σ:=by unfold BE at h;exact h
theorem O5 {i j:Int}(h:wM Q i j σ):0<j∧Q (.int (i%j)) σ:=by unfold wM at h;exact h
theorem IJ {i j:Int}(h:qg Q i j σ):0<j∧j<1000000∧Q (.int (i/j)) σ:=by unfold qg at h;exact h
theorem Qr {k:Int}(h:yI Q k a σ):∃ ob vs,σ a=some ob∧sH ob vs∧0≤k∧k<2 ^ 60∧dq (.list (vs.drop k.toNat)) Q σ:=by unfold yI at h;exact h
theorem Rm {k:Int}(h:yJ Q k a σ):∃ ob vs,σ a=some ob∧sH ob vs∧0≤k∧k<2 ^ 60∧dq (.list (vs.take k.toNat)) Q σ:=by unfold yJ at h;exact h
theorem Ij (h:attrL C x Q a σ):∃ dx fs v,σ a=some (.inst C dx)∧σ dx=some (.ns fs)∧bM fs x=some v∧Q v σ:=by unfold attrL at h;exact h
theorem Kb (h:rq C x v X a σ):∃ dx fs,σ a=some (.inst C dx)∧σ dx=some (.ns fs)∧fs.length<900∧X (σ.upd dx (.ns (cn fs x v))):=by unfold rq at h;exact h
theorem Kc (h:uN C x a X σ):∃ dx fs,σ a=some (.inst C dx)∧σ dx=some (.ns fs)∧bM fs x=none∧X σ:=by unfold uN at h;exact h
theorem G7 (h:zv a X σ):(∃ vs,σ a=some (.list vs))∧X σ:=by unfold zv at h;exact h
theorem G4 (h:yU a X σ):(∃ ob,σ a=some ob∧vG ob)∧X σ:=by unfold yU at h;exact h
theorem Hk (h:qP Q a σ):∃ v,σ a=some (.cell (some v))∧Q v σ:=by unfold qP at h;exact h
theorem JG (h:qN v X a σ):∃ v₀,σ a=some (.cell v₀)∧X (σ.upd a (.cell (some v))):=by unfold qN at h;exact h
end
section
variable {c:Cx}{A:Around}{n:Nat}{σ:bH}{s:Shared}{X:Addr→Prop}{Q:bI}{K:BP}{a b:Value}{x y:AV}
theorem C1 {α β:Type}{l:List α}{m:List β}(h:l.length=m.length):(!l.isEmpty)= !m.isEmpty:=by
 cases l with
 |nil=>cases m with|nil=>rfl|cons=>cases h
 |cons=>cases m with|nil=>cases h|cons=>rfl
theorem tO {b:Bool}(tk:Nat)(G:c.good σ s.heap)(q:K b σ):c.Res X qb σ s K b { s with toks:=tk }:=bN tk G rfl q
theorem mD (G:c.good σ s.heap)(ro:bD s.heap a x)(h:vi K x σ):c.J A X qb (truthy a) σ s K:=by
 rcases x with _|b|i|_|vs|l
 ·obtain rfl:a=_:=ro;exact truthy_none (tO s.toks G h)
 ·obtain rfl:a=_:=ro;exact wpAny_truthy_bool (tO s.toks G h)
 ·obtain⟨t,rfl⟩:=ro;obtain⟨r,hr,q⟩:=pf h;exact PyProof.Rows.truthy_int (tO s.toks G (eu hr bne_iff_ne▸q))
 ·exact h.elim
 ·obtain⟨a,ws,m,rfl,e,r,hl,hz⟩:=ro.tupL;exact truthy_tuple (items:=ws) ⟨_,e,rfl,_,rfl⟩ (Ej hz) (tO (s.toks+1+1) G (by rw[←Array.isEmpty_toList,C1 r.length];exact h))
 ·obtain rfl:a=_:=ro;obtain⟨vs,e,q⟩:=PN h;obtain⟨ws,m,L⟩:=G.list e;exact wpAny_truthy_list L.at_.isList (Ej L.z) (tO (s.toks+1+1) G (by rw[List.isEmpty_toArray,C1 L.r.length];exact q))
theorem Jw (s t:Sx):sx s++sx t=sx (s++t):=by show Str.mk _=_;simp
theorem Cd (s:Sx):(sx s).length=s.length:=List.size_toArray ..
theorem Ef {s t:Sx}(h:GX s)(h':GX t):GX (s++t):=by
 unfold GX PyData.strOk at*;simp only[List.all_toArray,List.all_append,Bool.and_eq_true]at*;exact⟨h,h'⟩
theorem Jl {a b:Nat}(h:a+b≤10000):a+b≤sizeLine:=dw▸aa h (by decide)
theorem OM (G:c.good σ s.heap)(ra:bD s.heap a x)(rb:bD s.heap b y)(h:Eh Q x y σ):c.J A X bD (binaryOp .Add a b) σ s Q:=by
 rcases x with _|_|i|p|_|l
 ·exact h.elim
 ·exact h.elim
 ·obtain⟨j,rfl,h⟩:=j4 h;obtain⟨t,rfl⟩:=ra;obtain⟨u,rfl⟩:=rb;exact PyProof.Rows.add_int (bN (s.toks+1) G (.mkI _ _) h)
 ·rcases y with _|_|_|q|_|_
  ·exact h.elim
  ·exact h.elim
  ·exact h.elim
  ·obtain⟨o,t,rfl⟩:=ra;obtain⟨o',u,rfl⟩:=rb;obtain⟨hz,h⟩:=IY h;exact PyProof.Rows.add_str (λ t' tk=>Jw p q▸bN tk G (.mkS (Ef o o') _) h) (by rw[Cd,Cd];exact Jl hz)
  ·exact h.elim
  ·exact h.elim
 ·exact h.elim
 ·obtain⟨k,rfl,h⟩:=eS h;obtain rfl:a=_:=ra;obtain rfl:b=_:=rb;obtain⟨xs,ys,e1,e2,hz,q⟩:=Je h;obtain⟨ws,m,L⟩:=G.list e1;obtain⟨us,m',L'⟩:=G.list e2;refine P.add_list L.at_ L'.at_ (dU (ob:=.list (xs++ys)) s.toks G (.push _) (cu _) ⟨_,0,Heap.get?_push_size _ rfl,?_,by rw[ay];exact aW hz⟩ q) (by rw[List.size_toArray,List.size_toArray,L.r.length,L'.r.length,←dw];exact aW hz);exact (List.append_toArray ..).symm▸(bY.append L'.r L.r).up (kg.push _).tup
theorem mj:fillsInplaceSlot (.type "list") "add" true=pure false:=by
 unfold fillsInplaceSlot;show (typeLookup (.type "list") (dunderI "add")>>=λ fi=>pure (fi.isSome&& !isSeqSlot fi))=pure false;rw[F.slot_list_iadd.lookup];rfl
theorem lQ:seqSlot? (.type "list") (dunderI "add")=pure (some (.builtin "list.__iadd__")):=PySem.seqSlot_of F.slot_list_iadd.lookup (by decide+kernel)
theorem wJ {prog:Program}{w:World}{E:Value→Shared→Prop}{l k:Addr}{xs ys:Array Value}{m m':Nat}{Q:Value→Shared→Prop}(h1:IsL s.heap l xs m)(h2:IsL s.heap k ys m')(hne:l≠k)(hz:xs.size+ys.size<sizeLine)
  (h:Q (.ref l) { s with heap:=s.heap.update l (Obj.mapSeq λ zs=>zs++ys) }):wpAny (model prog w) A (inplaceOp .Add (.ref l) (.ref k)) Q E s:=by
 have hT1:s.TypeIs (.ref l) "list":=⟨_,h1,rfl⟩;have hT2:s.TypeIs (.ref k) "list":=⟨_,h2,rfl⟩;unfold inplaceOp;refine wpAny_holding ?_;refine wpAny_bind (wpAny_typeOf hT1 (wpAny_bind (wpAny_of_eq mj ?_)));show wpAny _ A (if false=true then _ else _) Q E s;rw[aK Bool.false_ne_true];refine wpAny_bind (wpAny_binaryOp1_none (nm:="add") hT1 hT2 noFill_list_add ?_);refine wpAny_bind (wpAny_of_eq lQ ?_);refine wpAny_bind (wpAny_rule ?_);refine wpAny_call_entry F.slot_list_iadd hT1 F.entry_list_iadd ?_ (F.args_list_iadd_2 _ _);show wpAny _ _ (Builtin.List.listExtendWith (.ref l) (.ref k) (.ref l)) _ _ s;unfold Builtin.List.listExtendWith;refine wpAny_bind (wpAny_typeOf hT2 ?_);rw[aL (by simp)];unfold Builtin.List.listItems;refine wpAny_bind (wpAny_bind (wpAny_seqItems h2 rfl (wpAny_pure ?_)));refine wpAny_bind (wpAny_bind (wpAny_seqItems h1 rfl (wpAny_pure ?_)));refine wpAny_ite_split (λ hab=>absurd hab ?_) (λ ω=>?_)
 ·simp only[Builtin.List.listTooLong,Bool.and_eq_true,decide_eq_true_eq,not_and];intro _;exact Nat.not_lt.mpr (aW hz)
 show wpAny _ _ (updateSeq l (·++ys)>>=λ ω=>_) _ _ s;refine wpAny_bind (wpAny_updateSeq h1 rfl ?_ (by omega) (by show (xs++ys).size≤sizeLine+1;rw[Array.size_append];exact aB (aW hz)));exact wpAny_pure ⟨_,rfl,h⟩
theorem Cv (G:c.good σ s.heap)(ra:bD s.heap a x)(rb:bD s.heap b y)(h:C6 Q x y σ):c.J A X bD (inplaceOp .Add a b) σ s Q:=by
 rcases x with _|_|i|_|_|l
 ·exact h.elim
 ·exact h.elim
 ·obtain⟨j,rfl,h⟩:=j4 h;obtain⟨t,rfl⟩:=ra;obtain⟨u,rfl⟩:=rb;exact PyProof.Rows.iadd_int (bN (s.toks+1) G (.mkI _ _) h)
 ·exact h.elim
 ·exact h.elim
 ·obtain⟨k,rfl,h⟩:=eS h;obtain rfl:a=_:=ra;obtain rfl:b=_:=rb;obtain⟨xs,ys,e1,e2,hne,hz,q⟩:=FA h;obtain⟨ws,m,L⟩:=G.list e1;obtain⟨us,m',L'⟩:=G.list e2;refine wJ L.at_ L'.at_ hne (by rw[List.size_toArray,List.size_toArray,L.r.length,L'.r.length,←dw];exact hz) (f8 s.toks G e1 L ?_ ?_ (.mkL _) q)
  ·exact (List.append_toArray ..).symm▸bY.append L'.r L.r
  ·rw[ay];exact aW hz
theorem uu {f:Int→Int→SP}{t:Value→Value→Sem Value}(ra:bD s.heap a x)(rb:bD s.heap b y)(h:s8 f x y σ)(k:∀ i j t1 t2,f i j σ→c.J A X bD (t (.int i t1) (.int j t2)) σ s Q):c.J A X bD (t a b) σ s Q:=by
 obtain⟨i,j,rfl,rfl,h⟩:=Pv h;obtain⟨t1,rfl⟩:=ra;obtain⟨t2,rfl⟩:=rb;exact k i j t1 t2 h
theorem HS (G:c.good σ s.heap)(ra:bD s.heap a x)(rb:bD s.heap b y)(h:s8 (λ i j=>Q (.int (i - j))) x y σ):c.J A X bD (binaryOp .Sub a b) σ s Q:=
 uu (t:=binaryOp .Sub) ra rb h λ i j t1 t2 q=>PyProof.Rows.sub_int (bN (s.toks+1) G (.mkI _ _) q)
theorem HH (G:c.good σ s.heap)(ra:bD s.heap a x)(rb:bD s.heap b y)(h:s8 (λ i j=>Q (.int (i - j))) x y σ):c.J A X bD (inplaceOp .Sub a b) σ s Q:=
 uu (t:=inplaceOp .Sub) ra rb h λ i j t1 t2 q=>PyProof.Rows.isub_int (bN (s.toks+1) G (.mkI _ _) q)
theorem Ra (G:c.good σ s.heap)(ra:bD s.heap a x)(rb:bD s.heap b y)(h:s8 (wM Q) x y σ):c.J A X bD (binaryOp .Mod a b) σ s Q:=
 uu (t:=binaryOp .Mod) ra rb h λ i j t1 t2 q=>by
  obtain⟨h0,q⟩:=O5 q;exact PyProof.Rows.mod_int (Int.ne_of_gt h0) (Int.fmod_eq_emod_of_nonneg _ (Int.le_of_lt h0)▸bN (s.toks+1) G (.mkI _ _) q)
theorem Q1 {j:Int}(h0:0<j)(h:j<1000000):j.natAbs<10 ^ 6:=by omega
theorem Io (G:c.good σ s.heap)(ra:bD s.heap a x)(rb:bD s.heap b y)(h:s8 (qg Q) x y σ):c.J A X bD (binaryOp .FloorDiv a b) σ s Q:=
 uu (t:=binaryOp .FloorDiv) ra rb h λ i j t1 t2 q=>by
  obtain⟨h0,h1,q⟩:=IJ q;exact PyProof.Rows.floordiv_int (Int.ne_of_gt h0) (Int.fdiv_eq_ediv_of_nonneg _ (Int.le_of_lt h0)▸bN (s.toks+1) G (.mkI _ _) q) (.inl (PyProof.noPylong_small (by omega)))
theorem CD {y:Int}(h:0≤y)(n:Nat):max 0 (min y n)=((min y.toNat n:Nat):Int):=by
 obtain⟨k,rfl⟩:=Int.eq_ofNat_of_zero_le h;show max 0 (min (k:Int) n)=((min k n:Nat):Int);rcases Nat.le_total k n with q|q
 ·rw[Int.min_eq_left (bn q),Nat.min_eq_left q,Int.max_eq_right (bf k)]
 ·rw[Int.min_eq_right (bn q),Nat.min_eq_right q,Int.max_eq_right (bf n)]
theorem vL (items:Array Value){y:Int}(h:0≤y):(slicePick items none (some y) none).toList=items.toList.take y.toNat:=by
 have e:sliceBounds none (some y) none items.size=(((0:Nat):Int),((min y.toNat items.size:Nat):Int),1):=by
  simp only[sliceBounds,Option.getD_none,show (1:Int)>0 by decide,if_true,aK (Int.not_lt.mpr h)]
  congr 1
  congr 1
  exact CD h _
 rw[kmk_pick_nat _ e];show (items.toList.drop 0).take (min y.toNat items.size - 0)=_;rw[List.drop_zero,Nat.sub_zero,←Array.length_toList,kmk_take_min]
theorem vD (items:Array Value){y:Int}(h:0≤y):(slicePick items (some y) none none).toList=items.toList.drop y.toNat:=by
 have e:sliceBounds (some y) none none items.size=(((min y.toNat items.size:Nat):Int),((items.size:Nat):Int),1):=by
  simp only[sliceBounds,Option.getD_none,show (1:Int)>0 by decide,if_true,aK (Int.not_lt.mpr h)]
  congr 1
  exact CD h _
 rw[kmk_pick_nat _ e];show (items.toList.drop (min y.toNat items.size)).take (items.size - min y.toNat items.size)=_;rw[←Array.length_toList,kmk_drop_min,List.take_of_length_le];rw[List.length_drop]
 omega
theorem dg.lst (G:c.good σ s.heap){a:Addr}{ob:bO}{vs:List AV}(e:σ a=some ob)(h:sH ob vs):∃ ws m,yw s.heap a vs ws m:=by
 rcases h with _|_
 ·exact G.list e
 ·obtain⟨e1,r,z⟩:=(G.objs _ _ e).2;exact⟨_,_,QF e1 r z⟩
structure Ib (c:Cx)(X:Addr→Prop)(σ:bH)(s:Shared)(Q:bI)(ll:Addr)(vl vu:Value)(lo hi:Option Int)(items:Array Value):Prop where
 l:s.heap.IsList ll items
 z:items.size≤sizeLine
 r:c.Res X bD σ s Q (.ref (s.heap.objs.size+1)) { s with heap:=(s.heap.push { cls:=.type "slice",data:=.fields #[vl,vu,.none] }).push { cls:=.type "list",data:=.seq (slicePick items lo hi none) } }
theorem Ai {ll:Addr}{vs ys:List AV}{ws:List Value}{m:Nat}{vl vu:Value}{lo hi:Option Int}(G:c.good σ s.heap)(L:yw s.heap ll vs ws m)(h:bY s.heap (slicePick ws.toArray lo hi none).toList ys)(hz:ys.length≤vs.length)(q:dq (.list ys) Q σ):Ib c X σ s Q ll vl vu lo hi ws.toArray:=by
 refine⟨L.at_.isList,L.z,dU (ob:=.list ys) s.toks G ((kg.push _).trans (.push _)) (dK (aM _)) ⟨_,0,?_,h.up ((kg.push _).trans (.push _)).tup,aa hz (L.r.length▸dw▸L.z)⟩ q⟩;have:=Heap.get?_push_size (s.heap.push { cls:=.type "slice",data:=.fields #[vl,vu,.none] }) (o:=dJ (slicePick ws.toArray lo hi none) 0) rfl;rw[Heap.size_push]at this;exact this
theorem Pc {ll:Addr}{k:Int}{vl vu:Value}(G:c.good σ s.heap)(h:yI Q k ll σ):∃ items,Ib c X σ s Q ll vl vu (some k) none items:=by
 obtain⟨ob,vs,e,hl,h0,h1,q⟩:=Qr h;obtain⟨ws,m,L⟩:=G.lst e hl;exact⟨_,Ai G L (vD _ h0▸L.r.drop k.toNat) (List.length_drop▸Nat.sub_le ..) q⟩
theorem Oq {ll:Addr}{k:Int}{vl vu:Value}(G:c.good σ s.heap)(h:yJ Q k ll σ):∃ items,Ib c X σ s Q ll vl vu none (some k) items:=by
 obtain⟨ob,vs,e,hl,h0,h1,q⟩:=Rm h;obtain⟨ws,m,L⟩:=G.lst e hl;exact⟨_,Ai G L (vL _ h0▸L.r.take k.toNat) (List.length_take_le' ..) q⟩
end
structure rE (c:Cx)(C:Addr):Prop where
 get:plainGet c.K C ""=true
 dict:hasDictIn c.K C=true
 set:findIn c.K (.ref C) "__setattr__"=some (some (.builtin "object.__setattr__"))
 over:plainOver c.K C=true
theorem su {h:Heap}{v:Value}{a:AV}(r:bD h v a):handedIn v=true:=by
 rcases a with _|_|_|_|_|_
 ·obtain rfl:v=_:=r;rfl
 ·obtain rfl:v=_:=r;rfl
 ·obtain⟨t,rfl⟩:=r;rfl
 ·obtain⟨_,t,rfl⟩:=r;rfl
 ·obtain⟨_,_,_,rfl,_⟩:=r;rfl
 ·obtain rfl:v=_:=r;rfl
theorem vq {e:DictEntry}{k x:Sx}{t:Tok}(h:e.key=.str (sx k) t):e.key.isStr (sx x)=decide (k=x):=by
 rw[h];simp only[Value.isStr];exact eu beq_iff_eq (decide_eq_true_iff.trans ⟨ae sx,jz⟩)
theorem Bc {e:DictEntry}{k:Sx}{t:Tok}(h:e.key=.str (sx k) t):e.refKey=false:=by unfold DictEntry.refKey;rw[h]
theorem Jq {e:DictEntry}{es:List DictEntry}{k x:Sx}{t:Tok}(h:e.key=.str (sx k) t)(q:k=x):PySem.W.getL (sx x) (e::es)=some (some e.val):=by
 unfold PySem.W.getL;rw[List.find?_cons,vq h,decide_eq_true q]
theorem IM {e:DictEntry}{es:List DictEntry}{k x:Sx}{t:Tok}(h:e.key=.str (sx k) t)(q:¬ k=x):PySem.W.getL (sx x) (e::es)=PySem.W.getL (sx x) es:=by
 unfold PySem.W.getL;rw[List.find?_cons,vq h,decide_eq_false q,List.any_cons,Bc h,Bool.false_or]
theorem uY {h:Heap}{x:Sx}{fs:List (Sx×AV)}:∀ {es:List DictEntry},ou h es fs→∃ u,PySem.W.getL (sx x) es=some u∧CJ h u (bM fs x):=by
 induction fs with
 |nil=>intro es r;obtain rfl:es=[]:=r;exact⟨none,rfl,rfl⟩
 |cons p r ih=>
  rintro _ ⟨e,es,rfl,⟨t,hk⟩,b,c⟩
  by_cases q:p.1=x
  ·exact⟨_,Jq hk q,ww (v:=p.2) q▸⟨_,rfl,b⟩⟩
  ·obtain⟨u,e1,e2⟩:=ih c;exact⟨u,(IM hk q).trans e1,(v8 q).symm▸e2⟩
theorem CV {h:Heap}{x:Sx}{hsh:Int}{t:Tok}{u:Value}{a:AV}(ra:bD h u a){fs:List (Sx×AV)}:∀ {es:List DictEntry},ou h es fs→ou h (PySem.W.putL (sx x) hsh (.str (sx x) t) u es) (cn fs x a):=by
 induction fs with
 |nil=>intro es r;obtain rfl:es=[]:=r;exact⟨_,[],rfl,⟨t,rfl⟩,ra,rfl⟩
 |cons p r ih=>
  rintro _ ⟨e,es,rfl,⟨t',hk⟩,b,c⟩
  unfold PySem.W.putL;rw[vq hk]
  by_cases q:p.1=x
  ·rw[decide_eq_true q,aL rfl,wh q];exact⟨_,es,rfl,⟨t',hk⟩,ra,c⟩
  ·rw[decide_eq_false q,aK Bool.false_ne_true,sX q];exact⟨e,_,rfl,⟨t',hk⟩,b,ih c⟩
theorem vZ {h:Heap}{fs:List (Sx×AV)}:∀ {es:List DictEntry},ou h es fs→es.any (·.refKey)=false:=by
 induction fs with
 |nil=>intro es r;obtain rfl:es=[]:=r;rfl
 |cons p r ih=>rintro _ ⟨e,es,rfl,⟨t',hk⟩,b,c⟩;rw[List.any_cons,Bc hk,ih c];rfl
theorem uD (name:Str)(hsh:Int)(key v:Value)(es:List DictEntry):(PySem.W.putL name hsh key v es).length≤es.length+1:=by
 induction es with
 |nil=>exact au _
 |cons e r ih=>
  unfold PySem.W.putL
  split
  ·exact aM _
  ·exact aD ih
section
variable {c:Cx}{A:Around}{n:Nat}{σ:bH}{s:Shared}{X:Addr→Prop}{Q:bI}
theorem dg.inH (G:c.good σ s.heap):c.K.In s.heap:=c.X.keeps G.base
structure Lf (h:Heap)(a C dx:Addr)(fs:List (Sx×AV))(es:List DictEntry)(k:Nat):Prop where
 d:h.get? dx=some (dictOf es k)
 r:ou h es fs
 i:InstAt h a (instObj C dx) C (some (dictOf es k))
theorem s7 (G:c.good σ s.heap){a C dx:Addr}{fs:List (Sx×AV)}(e1:σ a=some (.inst C dx))(e2:σ dx=some (.ns fs)):∃ es k,Lf s.heap a C dx fs es k:=by
 have h1:s.heap.get? a=some (instObj C dx):=(G.objs _ _ e1).2;obtain⟨es,k,h2,r⟩:=(G.objs _ _ e2).2;exact⟨es,k,h2,r,h1,rfl,rfl,h2⟩
theorem yP {C a:Addr}{x:Sx}{ex:Bool}(K:rE c C)(hx:findIn c.K (.ref C) (sx x)=some none)(G:c.good σ s.heap)(h:attrL C x Q a σ):c.J A X bD (getAttr (.ref a) (sx x) ex) σ s Q:=by
 obtain⟨dx,fs,v,e1,e2,hv,q⟩:=Ij h;obtain⟨es,k,I⟩:=s7 G e1 e2;obtain⟨u,hu,ru⟩:=uY (x:=x) I.r;rw[hv]at ru;obtain⟨w,rfl,ru⟩:=ru;exact get_value (dg.inH G) I.i (plainGet_of K.get).1 (findObj_own K.dict hx rfl (by rw[lookIn_dict];exact hu)) (su ru) (bN _ G ru q)
theorem tN {Q:Value×List Value→Shared→Prop}{C f:Addr}{x:Sx}{a dx:Addr}{fs:List (Sx×AV)}{pl:Sem Bool}(K:rE c C)(hx:findIn c.K (.ref C) (sx x)=some (some (.ref f)))(hf:isFn c.K (.ref f)=true)(G:c.good σ s.heap)
  (e1:σ a=some (.inst C dx)) (e2:σ dx=some (.ns fs)) (e3:bM fs x=none) (h:Q (.ref f,[.ref a]) s):wpAny c.M A (getMethod (.ref a) (sx x) pl) Q gy s:=by
 obtain⟨es,k,I⟩:=s7 G e1 e2;obtain⟨u,hu,ru⟩:=uY (x:=x) I.r;rw[e3]at ru;obtain rfl:u=none:=ru;exact method_fn (dg.inH G) I.i (plainGet_of K.get).1 (plainGet_of K.get).2 hx (beq_iff_eq.mp hf) (by show (lookIn (sx x) (dictOf es k)).map _=_;rw[lookIn_dict,hu];rfl) h
theorem yK {P:SP}{C a:Addr}{x:Sx}{v:Value}{va:AV}(K:rE c C)(hx:findIn c.K (.ref C) (sx x)=some none)(G:c.good σ s.heap)(rv:bD s.heap v va)(h:rq C x va P a σ):c.J A X Ce (setAttr (.ref a) (sx x) v) σ s (kU P):=by
 obtain⟨dx,fs,e1,e2,hz,q⟩:=Kb h;obtain⟨es,k,D,r,I⟩:=s7 G e1 e2;have hlen:=r.length;have X':=dg.inH G;obtain⟨hp,g,d,tk,os⟩:=s;dsimp only at G r rv D I X';refine set_plain X' I K.set ?_;have ht:takerIn c.K C (sx x)=some none:=by unfold takerIn;rw[hx];rfl
 refine osa_open X' I K.over ht λ b=>?_;obtain⟨cd,hc,hd'⟩:=any_some K.dict;have hk:∀ u tk b,b≠dx→(hp.update dx (Obj.putName (sx x) (PyData.keyHash c.w.params (sx x)) (.str (sx x) tk) u)).get? b=hp.get? b:=λ u tk b hb=>Heap.get?_update_other _ _ (Ne.symm hb);refine wpAny_bind (wpAny_pure (wpAny_bind (wpAny_bind (wpAny_loadPart I.at_ (wpAny_bind ((looks_clsIn X' hc).here ?_))))));rw[hd'];refine wpAny_pure (a:=some dx) (wpAny_bind (wpAny_pure (wpAny_bind ?_)));unfold nsSet;refine wpAny_bind (wpAny_bind (wpAny_askSetting (wpAny_pure (wpAny_bind (wpAny_mkText (wpAny_bind (wpAny_loadPart D ?_)))))));dsimp only;have cc:(!es.toArray.any (·.key.isStr (sx x))&&es.toArray.any (·.refKey))=false:=by
  rw[List.any_toArray,List.any_toArray,vZ r,Bool.and_false]
 rw[aRefKeyMayBeTheName_at,cc];refine wpAny_updatePart D ?_;have D':=Heap.get?_update_self (Obj.putName (sx x) (PyData.keyHash c.w.params (sx x)) (.str (sx x) (tk+1)) v) D (by rw[putName_dict];rfl);rw[putName_dict]at D';have hl2:=uD (sx x) (PyData.keyHash c.w.params (sx x)) (.str (sx x) (tk+1)) v es;refine wpAny_bind (wpAny_lookBehind D' (pastItsLine_dict (by rw[List.size_toArray,sizeLine_eq];omega)) ?_);have tl:cP hp (hp.update dx (Obj.putName (sx x) (PyData.keyHash c.w.params (sx x)) (.str (sx x) (tk+1)) v)):=λ b items m e=>by
  refine (hk v (tk+1) b λ q=>?_).trans e;subst q;exact absurd (ae Obj.cls (aA (D.symm.trans e))) (by decide:Value.type "dict"≠Value.type "tuple")
 have hob:de c.prog c.w (hp.update dx (Obj.putName (sx x) (PyData.keyHash c.w.params (sx x)) (.str (sx x) (tk+1)) v)) dx (.ns (cn fs x va)):=⟨_,_,D',CV (rv.up tl) (r.up tl)⟩;exact wpAny_pure (mH (s:=⟨hp,g,d,tk,os⟩) (b:=()) (Q:=kU P) (R:=Ce) _ G e2 (hk v (tk+1)) hob trivial q)
end
noncomputable abbrev Ns:=List (Str×NameKind)
set_option genCtorIdx false in
inductive PT where
 |nil
 |mk (p:Pos) (k:Nat) (nm:Str) (sc:Scope) (cs:List PT)
 |raw (s:Stmt)
noncomputable def ck:Pos:=⟨0,0,0,0⟩
noncomputable def ot:Str:=⟨#[]⟩
noncomputable def sG:Scope:=⟨.function,[],false,false,[]⟩
noncomputable def PT.p:PT→Pos|.mk p _ _ _ _=>p|.nil=>ck|.raw _=>ck
noncomputable def PT.k:PT→Nat|.mk _ k _ _ _=>k|.nil=>0|.raw _=>0
noncomputable def PT.nm:PT→Str|.mk _ _ x _ _=>x|.nil=>ot|.raw _=>ot
noncomputable def PT.sc:PT→Scope|.mk _ _ _ s _=>s|.nil=>sG|.raw _=>sG
noncomputable def PT.st:PT→Stmt|.raw s=>s|.nil=>.Pass ck|.mk .. =>.Pass ck
noncomputable def PT.c:PT→Nat→PT|.mk _ _ _ _ cs,i=>cs.getD i .nil|.nil,_=>.nil|.raw _,_=>.nil
noncomputable def cL (ns:Ns)(x:Nat):Str:=match ns[x]? with|some p=>p.1|none=>ot
noncomputable def jG (ns:Ns)(x:Nat)(k:NameKind):Bool:=match ns[x]? with|some p=>p.2==k|none=>false
structure q9 where
 gint:List (Str×Int)
 gfun:List (Str×Addr)
 built:List Str
 attrs:List (Addr×Sx)
 meths:List (Addr×Sx×Addr)
noncomputable def cT (ns:Ns)(l:Ns):Ns:=l.map λ p=>(p.1,if (p.2==.free&&ns.lookup p.1==some .cell)then .cell else p.2)
noncomputable def vJ (l:Ns):Bool:=decide (l.map (·.1)).Nodup&&l.all λ p=> !(p.1==("__debug__":Str))&& !(p.1==("__classdict__":Str))
noncomputable def oK (ns:Ns)(scope:Scope):Bool:=
 scope.kind==.function&&vJ scope.names&&scope.names.all λ p=>p.2 !=.cell&&(p.2 !=.free||ns.lookup p.1==some .cell||ns.lookup p.1==some .free)
noncomputable def r7:Expr→Bool
 |.Call (.Name _ _) [] [] _=>false
 |_=>true
noncomputable def eG:Expr→Bool
 |.Starred _ _=>false
 |_=>true
noncomputable def jZ:Expr→Bool
 |.Set _ _ _=>false
 |_=>true
noncomputable def notTup:Expr→Bool
 |.Tuple _ _ _=>false
 |_=>true
noncomputable def eE:Expr→Bool
 |.ListComp _ _ _ _=>false
 |.SetComp _ _ _ _=>false
 |.DictComp _ _ _ _ _=>false
 |_=>true
noncomputable def pX:Expr→Bool
 |.UnaryOp .Not _ _=>false
 |.BoolOp _ _ _=>false
 |.IfExp _ _ _ _=>false
 |.Compare _ _ _ _=>false
 |_=>true
noncomputable abbrev rC:=Str.ofString "len"
noncomputable abbrev rF:=Str.ofString "abs"
noncomputable abbrev qO:=Str.ofString "str"
noncomputable abbrev i4:=Str.ofString "sorted"
noncomputable abbrev eU:=Str.ofString "tuple"
noncomputable abbrev ff:=Str.ofString "list"
noncomputable abbrev nO:=Str.ofString "dict"
noncomputable abbrev cH:=Str.ofString "reversed"
noncomputable abbrev dD:=Str.ofString "range"
noncomputable abbrev dL:=Str.ofString "isinstance"
noncomputable def iX (x:Str)(pt:PT)(args:List Expr):Expr:=.Call (.Name x (pt.c 0).p) args [] pt.p
noncomputable def vN (y:Str)(o:Expr)(pt:PT)(args:List Expr):Expr:=.Call (.Attribute o y (pt.c 0).p) args [] pt.p
noncomputable def Z6 (pt:PT):Int→Expr
 |.ofNat n=>.Constant (.int n) pt.k pt.p
 |.negSucc n=>.UnaryOp .USub (.Constant (.int (n+1:Nat)) (pt.c 0).k (pt.c 0).p) pt.p
noncomputable def KE (pt:PT):List Sx→Nat→List (Option Expr)
 |[],_=>[]
 |s::r,i=>some (.Constant (.str (sx s)) (pt.c i).k (pt.c i).p)::KE pt r (i+1)
mutual
noncomputable def tr:IE→Ns→PT→Expr
 |.lv x,ns,pt=>.Name (cL ns x) pt.p
 |.cv x,ns,pt=>.Name (sx x) pt.p
 |.gi i,ns,pt=>.Name pt.nm pt.p
 |.int i,ns,pt=>Z6 pt i
 |.str s,ns,pt=>.Constant (.str (sx s)) pt.k pt.p
 |.bol b,ns,pt=>.Constant (.bool b) pt.k pt.p
 |.non,ns,pt=>.Constant .none pt.k pt.p
 |.tup es,ns,pt=>.Tuple (vg es ns pt 0) pt.k pt.p
 |.lst es,ns,pt=>.List (vg es ns pt 0) pt.p
 |.dI0,ns,pt=>.Dict [] [] pt.p
 |.dS0,ns,pt=>.Dict [] [] pt.p
 |.dT0,ns,pt=>.Dict [] [] pt.p
 |.dI1 k v,ns,pt=>.Dict [some (tr k ns (pt.c 0))] [tr v ns (pt.c 1)] pt.p
 |.dS ks es,ns,pt=>.Dict (KE pt ks 0) (vg es ns pt ks.length) pt.p
 |.attr C e x,ns,pt=>.Attribute (tr e ns (pt.c 0)) (sx x) pt.p
 |.sub e i,ns,pt=>.Subscript (tr e ns (pt.c 0)) (tr i ns (pt.c 1)) pt.p
 |.slf e lo,ns,pt=>.Subscript (tr e ns (pt.c 0)) (.Slice (some (tr lo ns ((pt.c 1).c 0))) none none (pt.c 1).p) pt.p
 |.slt e hi,ns,pt=>.Subscript (tr e ns (pt.c 0)) (.Slice none (some (tr hi ns ((pt.c 1).c 0))) none (pt.c 1).p) pt.p
 |.call f es,ns,pt=>.Call (.Name pt.nm (pt.c 0).p) (vg es ns pt 1) [] pt.p
 |.clo x es,ns,pt=>.Call (.Name (cL ns x) (pt.c 0).p) (vg es ns pt 1) [] pt.p
 |.meth C e x f es,ns,pt=>vN (sx x) (tr e ns ((pt.c 0).c 0)) pt (vg es ns pt 1)
 |.append e a,ns,pt=>vN (Str.ofString "append") (tr e ns ((pt.c 0).c 0)) pt [tr a ns (pt.c 1)]
 |.pop e,ns,pt=>vN (Str.ofString "pop") (tr e ns ((pt.c 0).c 0)) pt []
 |.rev e,ns,pt=>vN (Str.ofString "reverse") (tr e ns ((pt.c 0).c 0)) pt []
 |.get e k d,ns,pt=>vN (Str.ofString "get") (tr e ns ((pt.c 0).c 0)) pt [tr k ns (pt.c 1),tr d ns (pt.c 2)]
 |.setdef e k,ns,pt=>vN (Str.ofString "setdefault") (tr e ns ((pt.c 0).c 0)) pt [tr k ns (pt.c 1),.List [] (pt.c 2).p]
 |.extRev e a,ns,pt=>vN (Str.ofString "extend") (tr e ns ((pt.c 0).c 0)) pt [iX cH (pt.c 1) [tr a ns ((pt.c 1).c 1)]]
 |.len e,ns,pt=>iX rC pt [tr e ns (pt.c 1)]
 |.abs e,ns,pt=>iX rF pt [tr e ns (pt.c 1)]
 |.strI e,ns,pt=>iX qO pt [tr e ns (pt.c 1)]
 |.sorted e,ns,pt=>iX i4 pt [tr e ns (pt.c 1)]
 |.tupOf e,ns,pt=>iX eU pt [tr e ns (pt.c 1)]
 |.listOf e,ns,pt=>iX ff pt [tr e ns (pt.c 1)]
 |.dictOf e,ns,pt=>iX nO pt [tr e ns (pt.c 1)]
 |.isTup e,ns,pt=>iX dL pt [tr e ns (pt.c 1),.Name eU (pt.c 2).p]
 |.listRev e,ns,pt=>iX ff pt [iX cH (pt.c 1) [tr e ns ((pt.c 1).c 1)]]
 |.listRange e,ns,pt=>iX ff pt [iX dD (pt.c 1) [tr e ns ((pt.c 1).c 1)]]
 |.add a b,ns,pt=>.BinOp (tr a ns (pt.c 0)) .Add (tr b ns (pt.c 1)) pt.p
 |.subt a b,ns,pt=>.BinOp (tr a ns (pt.c 0)) .Sub (tr b ns (pt.c 1)) pt.p
 |.mod a b,ns,pt=>.BinOp (tr a ns (pt.c 0)) .Mod (tr b ns (pt.c 1)) pt.p
 |.fdiv a b,ns,pt=>.BinOp (tr a ns (pt.c 0)) .FloorDiv (tr b ns (pt.c 1)) pt.p
 |.not e,ns,pt=>.UnaryOp .Not (tr e ns (pt.c 0)) pt.p
 |.cmp op a b,ns,pt=>.Compare (tr a ns (pt.c 0)) [op] [tr b ns (pt.c 1)] pt.p
 |.and es,ns,pt=>.BoolOp .And (vg es ns pt 0) pt.p
 |.or es,ns,pt=>.BoolOp .Or (vg es ns pt 0) pt.p
 |.ife c a b,ns,pt=>.IfExp (tr c ns (pt.c 0)) (tr a ns (pt.c 1)) (tr b ns (pt.c 2)) pt.p
 |.lcR el e,ns,pt=>.ListComp (tr el (cT ns pt.sc.names) (pt.c 0)) [⟨.Name (cL (cT ns pt.sc.names) 1) (pt.c 1).p,iX dD (pt.c 2) [tr e ns ((pt.c 2).c 1)],[],0⟩] pt.sc pt.p
 |.lcL el e,ns,pt=>.ListComp (tr el (cT ns pt.sc.names) (pt.c 0)) [⟨.Name (cL (cT ns pt.sc.names) 1) (pt.c 1).p,tr e ns (pt.c 2),[],0⟩] pt.sc pt.p
 |.dcL val e,ns,pt=>.DictComp (.Name (cL (cT ns pt.sc.names) 1) (pt.c 0).p) (tr val (cT ns pt.sc.names) (pt.c 1)) [⟨.Name (cL (cT ns pt.sc.names) 1) (pt.c 2).p,tr e ns (pt.c 3),[],0⟩] pt.sc pt.p
noncomputable def vg:List IE→Ns→PT→Nat→List Expr
 |[],ns,pt,i=>[]
 |e::r,ns,pt,i=>tr e ns (pt.c i)::vg r ns pt (i+1)
end
theorem s6 (es:List IE):∀ (ns:Ns) (pt:PT) (i:Nat),(vg es ns pt i).length=es.length:=by
 induction es with
 |nil=>exact λ ω ω ω=>rfl
 |cons e r ih=>exact λ ns pt i=>ae (·+1) (ih ns pt (i+1))
noncomputable def AI (ns:Ns)(pt:PT):List Nat→Nat→List Expr
 |[],_=>[]
 |x::r,i=>.Name (cL ns x) (pt.c i).p::AI ns pt r (i+1)
noncomputable def Yg (b:Bool):Operator:=match b with|true=>.Sub|false=>.Add
section
variable (ds:Stmt)
mutual
noncomputable def Zl:IS→Ns→PT→Stmt
 |.asg x e,ns,pt=>.Assign [.Name (cL ns x) (pt.c 0).p] (tr e ns (pt.c 1)) pt.p
 |.asgC x e,ns,pt=>.Assign [.Name (sx x) (pt.c 0).p] (tr e ns (pt.c 1)) pt.p
 |.unp xs e,ns,pt=>.Assign [.Tuple (AI ns (pt.c 0) xs 0) (pt.c 0).k (pt.c 0).p] (tr e ns (pt.c 1)) pt.p
 |.setA C e x v,ns,pt=>.Assign [.Attribute (tr e ns ((pt.c 0).c 0)) (sx x) (pt.c 0).p] (tr v ns (pt.c 1)) pt.p
 |.setI e k v,ns,pt=>.Assign [.Subscript (tr e ns ((pt.c 0).c 0)) (tr k ns ((pt.c 0).c 1)) (pt.c 0).p] (tr v ns (pt.c 1)) pt.p
 |.augA x e,ns,pt=>.AugAssign (.Name (cL ns x) (pt.c 0).p) .Add (tr e ns (pt.c 1)) pt.p
 |.augS e k neg v,ns,pt=>.AugAssign (.Subscript (tr e ns ((pt.c 0).c 0)) (tr k ns ((pt.c 0).c 1)) (pt.c 0).p) (Yg neg) (tr v ns (pt.c 1)) pt.p
 |.ex e,ns,pt=>.Expr (tr e ns (pt.c 0)) pt.p
 |.ife c a b,ns,pt=>.If (tr c ns (pt.c 0)) (pr a ns (pt.c 1) 0) (pr b ns (pt.c 2) 0) pt.p
 |.whl c b,ns,pt=>.While (tr c ns (pt.c 0)) (pr b ns (pt.c 1) 0) [] pt.p
 |.fore x e b,ns,pt=>.For (.Name (cL ns x) (pt.c 0).p) (tr e ns (pt.c 1)) (pr b ns (pt.c 2) 0) [] pt.p
 |.forR x e b,ns,pt=>.For (.Name (cL ns x) (pt.c 0).p) (iX dD (pt.c 1) [tr e ns ((pt.c 1).c 1)]) (pr b ns (pt.c 2) 0) [] pt.p
 |.ret e,ns,pt=>.Return (match pt.k with|0=>some (tr e ns (pt.c 0))|_+1=>none) pt.p
 |.brk,ns,pt=>.Break pt.p
 |.cont,ns,pt=>.Continue pt.p
 |.pass,ns,pt=>.Pass pt.p
 |.asgLC y el e,ns,pt=>.Assign [.Name (cL ns y) (pt.c 0).p] (tr (.lcL el e) ns (pt.c 1)) pt.p
 |.rais,ns,pt=>pt.st
 |.defc x,ns,pt=>ds
noncomputable def pr:List IS→Ns→PT→Nat→List Stmt
 |[],ns,pt,i=>[]
 |s::r,ns,pt,i=>Zl s ns (pt.c i)::pr r ns pt (i+1)
end
end
section
variable (T:q9)
noncomputable def jS (ns:Ns)(x:Str)(a:Expr):Bool:=ns.lookup x==some .globalImplicit&&T.built.contains x&&eG a&& !(x==("__debug__":Str))
noncomputable def vO (o:Expr)(pt:PT)(args:List Expr):Bool:=(pt.c 0).p.endLine==pt.p.line&&r7 o&&args.all eG&&decide (args.length<20)
noncomputable def RQ (ns:Ns)(x:Str):Bool:=ns.lookup x==some .globalImplicit&& !(x==("__debug__":Str))
mutual
noncomputable def d8:IE→Ns→PT→Bool
 |.lv x,ns,pt=>jG ns x .local
 |.cv x,ns,pt=>ns.lookup (sx x)==some .cell||ns.lookup (sx x)==some .free
 |.gi i,ns,pt=>RQ ns pt.nm&&T.gint.contains (pt.nm,i)
 |.int i,ns,pt=>true
 |.str s,ns,pt=>PyData.strOk (sx s)
 |.bol b,ns,pt=>true
 |.non,ns,pt=>true
 |.tup es,ns,pt=>(vg es ns pt 0).all eG&&decide (es.length<100)&&qB es ns pt 0
 |.lst es,ns,pt=>(vg es ns pt 0).all eG&&decide (es.length<100)&&qB es ns pt 0
 |.dI0,ns,pt=>true
 |.dS0,ns,pt=>true
 |.dT0,ns,pt=>true
 |.dI1 k v,ns,pt=>d8 k ns (pt.c 0)&&d8 v ns (pt.c 1)
 |.dS ks es,ns,pt=>decide (ks.length=es.length)&&decide (0<ks.length)&&decide (ks.length<10)&&decide ks.Nodup&&qB es ns pt ks.length
 |.attr C e x,ns,pt=>T.attrs.contains (C,x)&&r7 (tr e ns (pt.c 0))&&d8 e ns (pt.c 0)
 |.sub e i,ns,pt=>g6 (tr i ns (pt.c 1))&&d8 e ns (pt.c 0)&&d8 i ns (pt.c 1)
 |.slf e lo,ns,pt=>d8 e ns (pt.c 0)&&d8 lo ns ((pt.c 1).c 0)
 |.slt e hi,ns,pt=>d8 e ns (pt.c 0)&&d8 hi ns ((pt.c 1).c 0)
 |.call f es,ns,pt=>RQ ns pt.nm&&T.gfun.contains (pt.nm,f)&&(vg es ns pt 1).all eG&&qB es ns pt 1
 |.clo x es,ns,pt=>jG ns x .local&&(vg es ns pt 1).all eG&&qB es ns pt 1
 |.meth C e x f es,ns,pt=>T.meths.contains (C,x,f)&&vO (tr e ns ((pt.c 0).c 0)) pt (vg es ns pt 1)&&d8 e ns ((pt.c 0).c 0)&&qB es ns pt 1
 |.append e a,ns,pt=>vO (tr e ns ((pt.c 0).c 0)) pt [tr a ns (pt.c 1)]&&d8 e ns ((pt.c 0).c 0)&&d8 a ns (pt.c 1)
 |.pop e,ns,pt=>vO (tr e ns ((pt.c 0).c 0)) pt []&&d8 e ns ((pt.c 0).c 0)
 |.rev e,ns,pt=>vO (tr e ns ((pt.c 0).c 0)) pt []&&d8 e ns ((pt.c 0).c 0)
 |.get e k d,ns,pt=>vO (tr e ns ((pt.c 0).c 0)) pt [tr k ns (pt.c 1),tr d ns (pt.c 2)]&&d8 e ns ((pt.c 0).c 0)&&d8 k ns (pt.c 1)&&d8 d ns (pt.c 2)
 |.setdef e k,ns,pt=>vO (tr e ns ((pt.c 0).c 0)) pt [tr k ns (pt.c 1),.List [] (pt.c 2).p]&&d8 e ns ((pt.c 0).c 0)&&d8 k ns (pt.c 1)
 |.extRev e a,ns,pt=>vO (tr e ns ((pt.c 0).c 0)) pt [iX cH (pt.c 1) [tr a ns ((pt.c 1).c 1)]]&&jS T ns cH (tr a ns ((pt.c 1).c 1))&&d8 e ns ((pt.c 0).c 0)&&d8 a ns ((pt.c 1).c 1)
 |.len e,ns,pt=>jS T ns rC (tr e ns (pt.c 1))&&d8 e ns (pt.c 1)
 |.abs e,ns,pt=>jS T ns rF (tr e ns (pt.c 1))&&d8 e ns (pt.c 1)
 |.strI e,ns,pt=>jS T ns qO (tr e ns (pt.c 1))&&d8 e ns (pt.c 1)
 |.sorted e,ns,pt=>jS T ns i4 (tr e ns (pt.c 1))&&d8 e ns (pt.c 1)
 |.tupOf e,ns,pt=>jS T ns eU (tr e ns (pt.c 1))&&d8 e ns (pt.c 1)
 |.listOf e,ns,pt=>jS T ns ff (tr e ns (pt.c 1))&&d8 e ns (pt.c 1)
 |.dictOf e,ns,pt=>jS T ns nO (tr e ns (pt.c 1))&&d8 e ns (pt.c 1)
 |.isTup e,ns,pt=>jS T ns dL (tr e ns (pt.c 1))&&jS T ns eU (tr e ns (pt.c 1))&&d8 e ns (pt.c 1)
 |.listRev e,ns,pt=>jS T ns ff (iX cH (pt.c 1) [tr e ns ((pt.c 1).c 1)])&&jS T ns cH (tr e ns ((pt.c 1).c 1))&&d8 e ns ((pt.c 1).c 1)
 |.listRange e,ns,pt=>jS T ns ff (iX dD (pt.c 1) [tr e ns ((pt.c 1).c 1)])&&jS T ns dD (tr e ns ((pt.c 1).c 1))&&d8 e ns ((pt.c 1).c 1)
 |.add a b,ns,pt=>d8 a ns (pt.c 0)&&d8 b ns (pt.c 1)
 |.subt a b,ns,pt=>d8 a ns (pt.c 0)&&d8 b ns (pt.c 1)
 |.mod a b,ns,pt=>d8 a ns (pt.c 0)&&d8 b ns (pt.c 1)
 |.fdiv a b,ns,pt=>d8 a ns (pt.c 0)&&d8 b ns (pt.c 1)
 |.not e,ns,pt=>pX (tr e ns (pt.c 0))&&d8 e ns (pt.c 0)
 |.cmp op a b,ns,pt=> !behindInMarks op (tr b ns (pt.c 1))&&d8 a ns (pt.c 0)&&d8 b ns (pt.c 1)
 |.and es,ns,pt=>qB es ns pt 0
 |.or es,ns,pt=>qB es ns pt 0
 |.ife c a b,ns,pt=>d8 c ns (pt.c 0)&&d8 a ns (pt.c 1)&&d8 b ns (pt.c 2)
 |.lcR el e,ns,pt=>oK ns pt.sc&&jG (cT ns pt.sc.names) 1 .local&&jS T ns dD (tr e ns ((pt.c 2).c 1))&&d8 e ns ((pt.c 2).c 1)&&d8 el (cT ns pt.sc.names) (pt.c 0)
 |.lcL el e,ns,pt=>oK ns pt.sc&&jG (cT ns pt.sc.names) 1 .local&&jZ (tr e ns (pt.c 2))&&d8 e ns (pt.c 2)&&d8 el (cT ns pt.sc.names) (pt.c 0)
 |.dcL val e,ns,pt=>oK ns pt.sc&&jG (cT ns pt.sc.names) 1 .local&&jZ (tr e ns (pt.c 3))&&d8 e ns (pt.c 3)&&d8 val (cT ns pt.sc.names) (pt.c 1)
noncomputable def qB:List IE→Ns→PT→Nat→Bool
 |[],ns,pt,i=>true
 |e::r,ns,pt,i=>d8 e ns (pt.c i)&&qB r ns pt (i+1)
end
noncomputable def BR:IE→Bool
 |.non=>true
 |_=>false
noncomputable def AE (y:Str)(py:Pos)(scope:Scope)(vp:Pos):Bool:=py.line==vp.line&& !(scope.names.any λ p=>p.1==y&&(p.2==.local||p.2==.cell))
section
variable (dx:Nat)
mutual
noncomputable def Zf:IS→Ns→PT→Bool
 |.asg x e,ns,pt=>jG ns x .local&&eE (tr e ns (pt.c 1))&&d8 T e ns (pt.c 1)
 |.asgC x e,ns,pt=>ns.lookup (sx x)==some .cell&&eE (tr e ns (pt.c 1))&&d8 T e ns (pt.c 1)
 |.unp xs e,ns,pt=>xs.all (λ x=>jG ns x .local)&&eE (tr e ns (pt.c 1))&&notTup (tr e ns (pt.c 1))&&d8 T e ns (pt.c 1)
 |.setA C e x v,ns,pt=>T.attrs.contains (C,x)&&eE (tr v ns (pt.c 1))&&d8 T v ns (pt.c 1)&&d8 T e ns ((pt.c 0).c 0)
 |.setI e k v,ns,pt=>eE (tr v ns (pt.c 1))&&d8 T v ns (pt.c 1)&&d8 T e ns ((pt.c 0).c 0)&&d8 T k ns ((pt.c 0).c 1)
 |.augA x e,ns,pt=>jG ns x .local&&d8 T e ns (pt.c 1)
 |.augS e k neg v,ns,pt=>g6 (tr k ns ((pt.c 0).c 1))&&d8 T e ns ((pt.c 0).c 0)&&d8 T k ns ((pt.c 0).c 1)&&d8 T v ns (pt.c 1)
 |.ex e,ns,pt=>eE (tr e ns (pt.c 0))&&d8 T e ns (pt.c 0)
 |.ife c a b,ns,pt=>d8 T c ns (pt.c 0)&&pg a ns (pt.c 1) 0&&pg b ns (pt.c 2) 0
 |.whl c b,ns,pt=>d8 T c ns (pt.c 0)&&pg b ns (pt.c 1) 0
 |.fore x e b,ns,pt=>jG ns x .local&&jZ (tr e ns (pt.c 1))&&d8 T e ns (pt.c 1)&&pg b ns (pt.c 2) 0
 |.forR x e b,ns,pt=>jG ns x .local&&jS T ns dD (tr e ns ((pt.c 1).c 1))&&d8 T e ns ((pt.c 1).c 1)&&pg b ns (pt.c 2) 0
 |.ret e,ns,pt=>(match pt.k with|0=>d8 T e ns (pt.c 0)|_+1=>BR e)
 |.brk,ns,pt=>true
 |.cont,ns,pt=>true
 |.pass,ns,pt=>true
 |.asgLC y el e,ns,pt=>jG ns y .local&&AE (cL ns y) (pt.c 0).p (pt.c 1).sc (pt.c 1).p&&d8 T (.lcL el e) ns (pt.c 1)
 |.rais,ns,pt=>true
 |.defc x,ns,pt=>jG ns x .local&&decide (x=dx)
noncomputable def pg:List IS→Ns→PT→Nat→Bool
 |[],ns,pt,i=>true
 |s::r,ns,pt,i=>Zf s ns (pt.c i)&&pg r ns pt (i+1)
end
end
end
noncomputable def nd (p:Pos)(cs:List PT):PT:=.mk p 0 ot sG cs
noncomputable def UY:Expr→Str
 |.Name x _=>x
 |_=>ot
noncomputable def ef:Nat→Expr→PT
 |0,_=>.nil
 |n+1,e=>match e with
  |.Name x p=>.mk p 0 x sG []
  |.Constant _ k p=>.mk p k ot sG []
  |.UnaryOp _ x p=>nd p [ef n x]
  |.BoolOp _ xs p=>nd p (xs.map (ef n))
  |.BinOp x _ y p=>nd p [ef n x,ef n y]
  |.IfExp x y z p=>nd p [ef n x,ef n y,ef n z]
  |.Dict ks vs p=>nd p (ks.filterMap (λ k=>k.map (ef n))++vs.map (ef n))
  |.Compare x _ ys p=>nd p (ef n x::ys.map (ef n))
  |.Call f as _ p=>.mk p 0 (UY f) sG (ef n f::as.map (ef n))
  |.Attribute v _ p=>nd p [ef n v]
  |.Subscript v s p=>nd p [ef n v,ef n s]
  |.Slice l u _ p=>nd p ([l,u].filterMap (λ k=>k.map (ef n)))
  |.List es p=>nd p (es.map (ef n))
  |.Tuple es k p=>.mk p k ot sG (es.map (ef n))
  |.ListComp e gs sc p=>.mk p 0 ot sc (ef n e::gs.flatMap λ g=>[ef n g.target,ef n g.iter])
  |.DictComp k v gs sc p=>.mk p 0 ot sc (ef n k::ef n v::gs.flatMap λ g=>[ef n g.target,ef n g.iter])
  |_=>.nil
noncomputable def AS:Nat→Stmt→PT
 |0,_=>.nil
 |n+1,s=>match s with
  |.Return v p=>(match v with|some v=>nd p [ef n v]|none=>.mk p 1 ot sG [])
  |.Assign ts v p=>nd p (ts.map (ef n)++[ef n v])
  |.AugAssign t _ v p=>nd p [ef n t,ef n v]
  |.For t i b _ p=>nd p [ef n t,ef n i,nd p (b.map (AS n))]
  |.While t b _ p=>nd p [ef n t,nd p (b.map (AS n))]
  |.If t a b p=>nd p [ef n t,nd p (a.map (AS n)),nd p (b.map (AS n))]
  |.Expr v p=>nd p [ef n v]
  |.Pass p=>nd p []
  |.Break p=>nd p []
  |.Continue p=>nd p []
  |s=>.raw s
noncomputable def j5 (l:List Stmt):PT:=nd ck (l.map (AS 40))
def Cx.glob (c:Cx)(x:Str)(v:Value):Prop:=c.mg x=some v∨(c.mg x=none∧c.mb x=some v)
structure cV (c:Cx)(T:q9):Prop where
 gint:∀ x i,T.gint.contains (x,i)=true→∃ t,c.glob x (.int i t)
 gfun:∀ x f,T.gfun.contains (x,f)=true→c.glob x (.ref f)∧keepIn c.K (.ref f)=true
 built:∀ x,T.built.contains x=true→∃ v,c.glob x v∧bootBuiltins x=some v
 attrs:∀ C x,T.attrs.contains (C,x)=true→rE c C∧findIn c.K (.ref C) (sx x)=some none
 meths:∀ C x f,T.meths.contains (C,x,f)=true→rE c C∧findIn c.K (.ref C) (sx x)=some (some (.ref f))∧isFn c.K (.ref f)=true∧keepIn c.K (.ref f)=true
def v9 (h:Heap):Flow→pO→Prop
 |fl,.next=>fl=.next
 |fl,.brk=>fl=.brk
 |fl,.cont=>fl=.cont
 |fl,.ret a=>∃ v,fl=.ret v∧bD h v a
structure k8 (ns:Ns)(L:Addr)(h:Heap)(fl:Flow)(b:pO×bB):Prop where
 n:OT ns L b.2 h
 f:v9 h fl b.1
noncomputable abbrev Dp (S:cm):pO×bB→SP:=λ b=>S b.1 b.2
abbrev JS (c:Cx)(A:Around)(ns:Ns)(L:Addr)(t:Sem Flow)(σ:bH)(s:Shared)(S:cm):Prop:=c.J A (·=L) (k8 ns L) t σ s (Dp S)
structure Ev (c:Cx)where
 k:Nat
 n:Nat
 A:Around
 env:Env
 cs:List (Sx×Addr)
 ns:Ns
 df:(Addr→SP)→SP
 ds:Stmt
 dx:Nat
 rm:xB k n A
 y:By c env cs ns
noncomputable abbrev Ev.E {c:Cx}(V:Ev c):En:=⟨fC c,V.n,V.cs,V.df⟩
noncomputable abbrev Ev.L {c:Cx}(V:Ev c):Addr:=V.env.locals
structure Ok {c:Cx}(V:Ev c)(m:bB)(σ:bH)(s:Shared):Prop where
 F:fU c V.ns V.L m σ s.heap
 G:c.good σ s.heap
def Ee {c:Cx}(V:Ev c):Prop:=∀ {m σ s S},jG V.ns V.dx .local=true→Ok V m σ s→V.df (λ g=>S .next (m.set V.dx (.loc g))) σ→JS c V.A V.ns V.L (exec V.ds V.env) σ s S
def SE {c:Cx}(V:Ev c)(ie:IE)(e:Expr):Prop:=∀ {m σ s Q},Ok V m σ s→(cW V.E ie).1 m Q σ→c.J V.A cN bD (eval e V.env) σ s Q
def ST {c:Cx}(V:Ev c)(ie:IE)(e:Expr):Prop:=∀ {m σ s K},Ok V m σ s→(cW V.E ie).2 m K σ→c.J V.A cN qb (isTrue e V.env (eval e V.env)) σ s K
structure SB {c:Cx}(V:Ev c)(ie:IE)(e:Expr):Prop where
 se:SE V ie e
 st:ST V ie e
 pl:pX e=true→∀ m K,(cW V.E ie).2 m K=(cW V.E ie).1 m (vi K)
def Kx {c:Cx}(V:Ev c)(ies:List IE)(es:List Expr):Prop:=∀ {m σ s Q},Ok V m σ s→yX V.E ies m Q σ→c.J V.A cN bY (spliced ((evalEach es V.env).map λ t=>(false,t))) σ s (λ bs σ=>bs.length=es.length∧Q bs σ)
section
variable {c:Cx}{V:Ev c}{m:bB}{σ σ₁:bH}{s s₁:Shared}{X:Addr→Prop}
theorem cq.toL {L:Addr}(S:cq cN σ s.heap σ₁ s₁.heap):cq (·=L) σ s.heap σ₁ s₁.heap:=S.weaken λ ω x=>x.elim
theorem Ok.step (O:Ok V m σ s)(G:c.good σ₁ s₁.heap)(S:cq cN σ s.heap σ₁ s₁.heap):Ok V m σ₁ s₁:=⟨O.F.step O.G S,G⟩
theorem gu (V:Ev c):f4 V.n V.A:=V.rm.room
theorem dz {α β:Type}{R:uw α β}{t:Sem α}{P:β→SP}{K:α→Shared→Prop}(O:Ok V m σ s)(h:c.J V.A cN R t σ s P)
  (k:∀ v b σ₁ s₁,P b σ₁→R s₁.heap v b→Ok V m σ₁ s₁→cq cN σ s.heap σ₁ s₁.heap→gw s s₁→K v s₁):wpAny c.M V.A t K gy s:=
 wpAny_mono h (λ v s₁ h=>by obtain⟨b,σ₁,h⟩:=h;exact k v b σ₁ s₁ h.q h.r (O.step h.g h.st) h.st h.t) λ ω ω z=>z
theorem J.bindF {α β γ δ:Type}{R:uw α β}{R':uw γ δ}{t:Sem α}{f:α→Sem γ}{P:β→SP}{Q:δ→SP}(O:Ok V m σ s)(h:c.J V.A cN R t σ s P)
  (k:∀ v b σ₁ s₁,P b σ₁→R s₁.heap v b→Ok V m σ₁ s₁→cP s.heap s₁.heap→c.J V.A cN R' (f v) σ₁ s₁ Q):c.J V.A cN R' (t>>=f) σ s Q:=
 wpAny_bind (dz O h λ v b σ₁ s₁ p r O1 S T=>J.shift S T (k v b σ₁ s₁ p r O1 (S.tl O.G)))
theorem Gc {ns:Ns}{x:Nat}{k:NameKind}(h:jG ns x k=true):∃ nm,ns[x]? =some (nm,k)∧cL ns x=nm:=by
 unfold jG at h;unfold cL;cases e:ns[x]? with
 |none=>rw[e]at h;cases h
 |some p=>rw[e]at h;obtain⟨nm,k'⟩:=p;exact⟨nm,ae (λ z=>some (nm,z)) (beq_iff_eq.mp h),rfl⟩
theorem dG {β:Type}{ns:List (Str×β)}(nd:(ns.map (·.1)).Nodup){p:Str×β}(h:p∈ns):ns.lookup p.1=some p.2:=by
 induction ns with
 |nil=>cases h
 |cons q r ih=>
  have nd':=List.nodup_cons.mp nd;rcases ap h with e|h
  ·subst e;rw[List.lookup_cons_self]
  ·rw[List.lookup_cons,beq_eq_false_iff_ne.mpr λ e:p.1=q.1=>nd'.1 (List.mem_map.mpr ⟨p,h,e⟩)];exact ih nd'.2 h
structure LkR {c:Cx}(V:Ev c)(x:Nat)(k:NameKind)(nm:Str):Prop where
 a:V.ns[x]? =some (nm,k)
 n:cL V.ns x=nm
 l:V.ns.lookup nm=some k
 k:V.env.kindOf nm=some k
 d:(nm==("__debug__":Str))=false
theorem mR (V:Ev c)(nm:Str):V.env.kindOf nm=V.ns.lookup nm:=by unfold Env.kindOf;rw[V.y.names]
theorem Dv {x:Nat}{k:NameKind}(h:jG V.ns x k=true):∃ nm,LkR V x k nm:=by
 obtain⟨nm,a,n⟩:=Gc h;have hm:=aY a;have l:=dG V.y.nd hm;exact⟨nm,a,n,l,(mR V nm).trans l,(V.y.ndb _ hm).1⟩
theorem Sw {x:Str}{k:NameKind}(h:V.ns.lookup x=some k):(x==("__debug__":Str))=false∧(x==("__classdict__":Str))=false:=V.y.ndb _ (PySem.mem_of_lookup h)
theorem JW {x:Nat}{p:Pos}(h:jG V.ns x .local=true):SE V (.lv x) (.Name (cL V.ns x) p):=λ {m σ s Q} O w=>by
 obtain⟨nm,l⟩:=Dv h;obtain⟨v,hv,q⟩:=xN w;obtain⟨mc,hn,hr⟩:=O.F.ns;obtain⟨p,u,e1,hu,ru⟩:=hr x v hv;obtain rfl:(nm,NameKind.local)=p:=aA (l.a.symm.trans e1);rw[l.n];exact wpAny_Name (wpAny_loadName_local V.y.kind l.k hn hu (bN s.toks O.G ru q)) l.d
theorem UH {x:Sx}{p:Pos}(h:(V.ns.lookup (sx x)==some .cell||V.ns.lookup (sx x)==some .free)=true):SE V (.cv x) (.Name (sx x) p):=λ {m σ s Q} O w=>by
 have hk:V.ns.lookup (sx x)=some .cell∨V.ns.lookup (sx x)=some .free:=(Bool.or_eq_true_iff.mp h).imp beq_iff_eq.mp beq_iff_eq.mp;have w:yb (qP Q) (zn V.cs x) σ:=w;cases e:zn V.cs x with
 |none=>rw[e]at w;exact w.elim
 |some a=>
  rw[e]at w;obtain⟨v,hv,q⟩:=Hk w;have hcc:=V.y.cells x a e hk;obtain⟨o,cv,ho,hd,r⟩:=(O.G.objs _ _ hv).2;obtain⟨u,rfl,ru⟩:=r;rcases hk with hk|hk
  ·exact wpAny_Name (wpAny_loadName_cell V.y.kind ((mR V _).trans hk) hcc ⟨o,ho,hd⟩ (bN s.toks O.G ru q)) (Sw hk).1
  ·exact wpAny_Name (wpAny_loadName_free V.y.kind ((mR V _).trans hk) hcc ⟨o,ho,hd⟩ (bN s.toks O.G ru q) (Sw hk).2) (Sw hk).1
theorem oH {a:Addr}{mc:Str→Option Value}(G:c.good σ s.heap)(h:c.H.Ns a mc):s.heap.Ns a mc:=by obtain⟨o,es,ep,ho,r⟩:=h;exact⟨o,es,ep,G.base _ _ ho,r⟩
theorem iZ {E:Value→Shared→Prop}{Q:Value→Shared→Prop}{x:Str}{v:Value}{p:Pos}(O:Ok V m σ s)(hk:RQ V.ns x=true)(hg:c.glob x v)(h:Q v s):wpAny c.M V.A (eval (.Name x p) V.env) Q E s:=by
 have hk:=beq_iff_eq.mp (bz hk);refine Name_function_global V.y.kind ((mR V _).trans hk) ?_ (Sw hk).1;have g1:s.heap.Ns V.env.globals c.mg:=V.y.globals▸oH O.G c.g;have g2:s.heap.Ns V.env.builtins c.mb:=V.y.builtins▸oH O.G c.b;rcases hg with hg|⟨h1,h2⟩
 ·exact loadGlobal_global g1 hg h
 ·exact loadGlobal_builtin g1 h1 g2 h2 h
theorem ta {K:Unit→Shared→Prop}{x:Nat}{v:Value}{a:AV}(O:Ok V m σ s)(hx:jG V.ns x .local=true)(rv:bD s.heap v a)
  (h:∀ s₁,Ok V (m.set x a) σ s₁→cq (·=V.L) σ s.heap σ s₁.heap→gw s s₁→K () s₁):wpAny c.M V.A (storeName V.env (cL V.ns x) v) K gy s:=by
 obtain⟨nm,l⟩:=Dv hx;rw[l.n];obtain⟨mc,hn,hr⟩:=O.F.ns;obtain⟨o,ho,hot⟩:=O.F.at;refine wpAny_storeName_local l.k hn (λ h' hn' sb=>?_) (by rw[V.y.kind];rfl);have hk:∀ b,b≠V.L→h'.get? b=s.heap.get? b:=sb.2;have tl:=mr ho hot sb;obtain⟨o',ho',_⟩:=xS hn';have bL:∀ b,h'.get? b=none→s.heap.get? b=none:=λ b e=>by
  by_cases q:b=V.L
  ·exact (cz ((ae h'.get? q).symm.trans e) ho').elim
  ·exact (hk b q).symm.trans e
 refine h { s with heap:=h',toks:=s.toks+1 } ⟨⟨⟨_,hn',λ y av e=>?_⟩,O.F.own,O.F.new⟩,⟨λ b o e=>(hk b λ q=>cz O.F.new (q▸e)).trans (O.G.base b o e),λ b ob e=>⟨(O.G.objs b ob e).1,(O.G.objs b ob e).2.mono λ d o z hc=>(hk d λ q=>?_).trans z⟩⟩⟩ ⟨λ b o e ω hx=>(hk b hx).trans e,λ ω ω e=>e,bL⟩ ⟨h',s.toks+1,rfl⟩
 ·have e:(match Nat.beq y x with|true=>some a|false=>m y)=some av:=e
  by_cases q:y=x
  ·subst q;rw[Nat.beq_refl]at e;cases e;exact⟨_,v,l.a,aL rfl,rv.up tl⟩
  ·rw[Bool.eq_false_iff.mpr λ z=>q (Nat.eq_of_beq_eq_true z)]at e;obtain⟨p,u,e1,hu,ru⟩:=hr y av e;refine⟨p,u,e1,(aK λ z=>q ?_).trans hu,ru.up tl⟩;have i1:y<V.ns.length:=(az e1).1;refine (List.getElem?_inj (l:=V.ns.map (·.1)) ((ak _).symm▸i1) V.y.nd).mp ?_;rw[aZ,aZ,e1,l.a];exact ae some z
 ·subst q;exact hc.elim (λ q=>cz O.F.own (q▸e)) λ q=>hot (aA (ho.symm.trans z)▸q)
end
set_option tactic.hygienic true in
theorem oJ {o:Expr}{x:Str}{env:Env}{w:Sem Value}(h:r7 o=true):attributeBase o x env w=w:=by
 cases o<;>first|rfl|skip
 rename_i f as ks p;cases f<;>first|rfl|skip
 rcases as with _|⟨a,as⟩
 ·rcases ks with _|⟨k,ks⟩
  ·cases h
  ·rfl
 ·rfl
theorem rH {e:Expr}{rest:List Expr}{env:Env}(h:eG e=true):starEach (e::rest) env=(false,eval e env)::starEach rest env:=by
 cases e<;>first|rfl|cases h
theorem Co {env:Env}{es:List Expr}:es.all eG=true→starEach es env=(evalEach es env).map λ t=>(false,t):=by
 induction es with
 |nil=>exact λ ω=>rfl
 |cons e r ih=>exact λ h=>(rH (bz h)).trans (ae (_::·) (ih (bA h)))
theorem D9 (pos:Pos)(es:List (Sem Value)):backTo pos (es.map λ t=>(false,t))=es.map λ t=>(false,t):=by
 unfold backTo;rw[List.map_map];rfl
theorem jj {env:Env}{es:List Expr}{pos:Pos}(h:es.all eG=true):backTo pos (starEach es env)=(evalEach es env).map λ t=>(false,t):=(ae (backTo pos) (Co h)).trans (D9 ..)
theorem zF (es:List Expr)(env:Env):(evalEach es env).length=es.length:=by
 induction es with
 |nil=>rfl
 |cons _ r ih=>exact ae (·+1) ih
theorem jY {M:Model}{A:Around}{s:Shared}{E:Value→Shared→Prop}{f:Value}{ts:List (Sem Value)}{Q:Args→Shared→Prop}(h:wpAny M A (spliced (ts.map λ t=>(false,t))) (λ vs s'=>Q ⟨vs,[]⟩ s') E s):
  wpAny M A (evalArgs f true (ts.map λ t=>(false,t)) []) Q E s:=by
 cases ts with
 |nil=>
  unfold evalArgs;show wpAny M A (spliced []>>=_) Q E s;refine wpAny_bind (wpAny_mono h (λ vs s' h'=>?_) λ ω ω x=>x);refine wpAny_bind (wpAny_pure ?_);refine wpAny_holding ?_;exact wpAny_bind (wpAny_pure (wpAny_pure h'))
 |cons x r=>exact evalArgs_plain h
theorem kF {ts:List (Sem Value)}:(ts.map λ t=>(false,t)).any (·.1)=false:=by
 induction ts with
 |nil=>rfl
 |cons x r ih=>exact ih
section
variable {c:Cx}{V:Ev c}{m:bB}{σ:bH}{s:Shared}{Q:bI}{T:q9}
def tw (V:Ev c)(s:Shared)(f:Value):Prop:=∀ (pos:Pos) (first:List Value) (ts:List (Sem Value)) (Q':Value→Shared→Prop),wpAny c.M V.A (evalArgs f true (ts.map λ t=>(false,t)) []) (λ a s₁=>c.K.In s₁.heap∧wpAny c.M V.A (call f (first++a.pos) a.kw) Q' gy s₁) gy s→wpAny c.M V.A (callWith pos f first (ts.map λ t=>(false,t)) []) Q' gy s
theorem jf (id:String):tw V s (.builtin id):=λ pos first ts Q' h=>callWith_builtin kF (wpAny_mono h (λ ω ω x=>x.2) λ ω ω x=>x)
theorem fm (T:String):tw V s (.type T):=λ pos first ts Q' h=>PySem.callWith_type kF (wpAny_mono h (λ ω ω x=>x.2) λ ω ω x=>x)
theorem C2 {f:Addr}(hk:keepIn c.K (.ref f)=true):tw V s (.ref f):=λ pos first ts Q' h=>callWith_of (P:=c.K.In) (by rw[kF];rfl) (keeps_K hk) h
theorem zi {f:Value}{first:List Value}{ts:List (Sem Value)}{P:List AV→SP}{pos:Pos}{K:Value→Shared→Prop}(O:Ok V m σ s)(hcw:tw V s f)(h:c.J V.A cN bY (spliced (ts.map λ t=>(false,t))) σ s P)
  (k:∀ vs bs σ₁ s₁,P bs σ₁→bY s₁.heap vs bs→Ok V m σ₁ s₁→cq cN σ s.heap σ₁ s₁.heap→gw s s₁→wpAny c.M V.A (call f (first++vs) []) K gy s₁):wpAny c.M V.A (callWith pos f first (ts.map λ t=>(false,t)) []) K gy s:=
 hcw pos first ts K (jY (dz O h λ vs bs σ₁ s₁ p r O1 S T=>⟨dg.inH O1.G,k vs bs σ₁ s₁ p r O1 S T⟩))
theorem v0 {f:Value}{first:List Value}{ts:List (Sem Value)}{P:List AV→SP}{pos:Pos}(O:Ok V m σ s)(hcw:tw V s f)(h:c.J V.A cN bY (spliced (ts.map λ t=>(false,t))) σ s P)
  (k:∀ vs bs σ₁ s₁,P bs σ₁→bY s₁.heap vs bs→Ok V m σ₁ s₁→cP s.heap s₁.heap→c.J V.A cN bD (call f (first++vs)) σ₁ s₁ Q):c.J V.A cN bD (callWith pos f first (ts.map λ t=>(false,t)) []) σ s Q:=
 zi O hcw h λ vs bs σ₁ s₁ p r O1 S T=>J.shift S T (k vs bs σ₁ s₁ p r O1 (S.tl O.G))
theorem l6 {Q:List AV→SP}(G:c.good σ s.heap)(h:Q [] σ):c.J V.A cN bY (spliced []) σ s Q:=spliced_nil (bN s.toks G .nil h)
theorem md {t:Sem Value}{ts:List (Sem Value)}{P:bI}{Q:List AV→SP}(O:Ok V m σ s)(h:c.J V.A cN bD t σ s P)
  (k:∀ b σ₁ s₁,P b σ₁→Ok V m σ₁ s₁→c.J V.A cN bY (spliced (ts.map λ t=>(false,t))) σ₁ s₁ λ bs=>Q (b::bs)):c.J V.A cN bY (spliced ((t::ts).map λ t=>(false,t))) σ s Q:=
 spliced_cons (dz O h λ v b σ₁ s₁ p r O1 S T=>dz O1 (k b σ₁ s₁ p O1) λ vs bs σ₂ s₂ q r2 O2 S2 T2=>⟨b::bs,σ₂,q,.cons (r.up (S2.tl O1.G)) r2,O2.G,S.trans S2,T.trans T2⟩)
theorem FT {e:Expr}{P:bI}(O:Ok V m σ s)(h:c.J V.A cN bD (eval e V.env) σ s P):c.J V.A cN bY (spliced ((evalEach [e] V.env).map λ t=>(false,t))) σ s λ bs σ=>∃ b,bs=[b]∧P b σ:=
 md O h λ b σ₁ s₁ p O1=>l6 O1.G ⟨b,rfl,p⟩
theorem xI {e e':Expr}{P:bI}{P':AV→bI}(O:Ok V m σ s)(h:c.J V.A cN bD (eval e V.env) σ s P)(h':∀ b σ₁ s₁,P b σ₁→Ok V m σ₁ s₁→c.J V.A cN bD (eval e' V.env) σ₁ s₁ (P' b)):
  c.J V.A cN bY (spliced ((evalEach [e,e'] V.env).map λ t=>(false,t))) σ s λ bs σ=>∃ b b',bs=[b,b']∧P' b b' σ:=
 md O h λ b σ₁ s₁ p O1=>md O1 (h' b σ₁ s₁ p O1) λ b' σ₂ s₂ p' O2=>l6 O2.G ⟨b,b',rfl,p'⟩
theorem xc {h:Heap}{vs:List Value}{b:AV}(r:bY h vs [b]):∃ v,vs=[v]∧bD h v b:=by obtain⟨v,ws,rfl,r,e⟩:=r;obtain rfl:ws=[]:=e;exact⟨v,rfl,r⟩
theorem xX {h:Heap}{vs:List Value}{b d:AV}(r:bY h vs [b,d]):∃ v w,vs=[v,w]∧bD h v b∧bD h w d:=by obtain⟨v,ws,rfl,r,e⟩:=r;obtain⟨w,rfl,r2⟩:=xc e;exact⟨v,w,rfl,r,r2⟩
theorem gN {x:Str}{a:Expr}{pt:PT}{v:Value}{K:Value→Shared→Prop}(hT:cV c T)(hb:jS T V.ns x a=true)(hx:bootBuiltins x=some v)(O:Ok V m σ s)(hcw:tw V s v)
  (h:wpAny c.M V.A (eval a V.env) (λ u s₁=>c.K.In s₁.heap∧wpAny c.M V.A (call v [u]) K gy s₁) gy s):wpAny c.M V.A (eval (iX x pt [a]) V.env) K gy s:=by
 obtain⟨w,hg,hw⟩:=hT.built x (bA (bz (bz hb)));obtain rfl:v=w:=aA (hx.symm.trans hw);show wpAny _ _ (do callWith pt.p (←eval (.Name x (pt.c 0).p) V.env) [] (backTo pt.p (starEach [a] V.env)) (backToKw pt.p (keywordEach [] V.env))) _ _ _;refine wpAny_bind (iZ O (nU (bz (bz (bz hb))) (bA hb)) hg ?_);rw[rH (bA (bz hb))];exact hcw _ [] [eval a V.env] _ (jY (spliced_cons (wpAny_mono h (λ u s₁ h₁=>spliced_nil h₁) λ ω ω x=>x)))
theorem jx {x:Str}{a:Expr}{pt:PT}{v:Value}{P:bI}(hT:cV c T)(hb:jS T V.ns x a=true)(hx:bootBuiltins x=some v)(hcw:∀ s,tw V s v)(O:Ok V m σ s)
  (h:c.J V.A cN bD (eval a V.env) σ s P) (k:∀ u b σ₁ s₁,P b σ₁→bD s₁.heap u b→c.good σ₁ s₁.heap→c.J V.A cN bD (call v [u]) σ₁ s₁ Q):c.J V.A cN bD (eval (iX x pt [a]) V.env) σ s Q:=
 gN hT hb hx O (hcw s) (dz O h λ u b σ₁ s₁ p r O1 S T=>⟨dg.inH O1.G,J.shift S T (k u b σ₁ s₁ p r O1.G)⟩)
theorem rg {x y:Str}{a:Expr}{pt pt':PT}{v w:Value}{P:bI}(hT:cV c T)(hb:jS T V.ns x (iX y pt' [a])=true)(hb':jS T V.ns y a=true)(hx:bootBuiltins x=some v)(hy:bootBuiltins y=some w)(hcw:∀ s,tw V s v)(hcw':∀ s,tw V s w)(O:Ok V m σ s)
  (h:c.J V.A cN bD (eval a V.env) σ s P) (k:∀ u b σ₁ s₁,P b σ₁→bD s₁.heap u b→c.good σ₁ s₁.heap→wpAny c.M V.A (call w [u]) (λ r s'=>c.K.In s'.heap∧wpAny c.M V.A (call v [r]) (c.Res cN bD σ₁ s₁ Q) gy s') gy s₁):c.J V.A cN bD (eval (iX x pt [iX y pt' [a]]) V.env) σ s Q:=
 gN hT hb hx O (hcw s) (gN hT hb' hy O (hcw' s) (dz O h λ u b σ₁ s₁ p r O1 S T=>⟨dg.inH O1.G,wpAny_mono (k u b σ₁ s₁ p r O1.G) (λ z s₂ h=>⟨h.1,J.shift' S T h.2⟩) λ ω ω z=>z⟩))
theorem ke {y:Str}{o:Expr}{args:List Expr}{pt:PT}{Ty id:String}{P:bI}{P2:AV→List AV→SP}(hm:vO o pt args=true)(pa:PlainAttrs Ty)(slot:PySem.Slot Ty y id)(hty:typeOf (.builtin id)=pure (.type "method_descriptor"))(O:Ok V m σ s)
  (h:c.J V.A cN bD (eval o V.env) σ s P)
  (ht:∀ b σ₁ s₁,P b σ₁→Ok V m σ₁ s₁→∃ a,b=.loc a∧(∃ ob,s₁.heap.get? a=some ob∧ob.cls=.type Ty∧ob.dict=none)∧c.J V.A cN bY (spliced ((evalEach args V.env).map λ t=>(false,t))) σ₁ s₁ (P2 b))
  (k:∀ a vs bs σ₂ s₂,P2 (.loc a) bs σ₂→bY s₂.heap vs bs→c.good σ₂ s₂.heap→c.J V.A cN bD (call (.builtin id) (.ref a::vs)) σ₂ s₂ Q):
  c.J V.A cN bD (eval (vN y o pt args) V.env) σ s Q:=by
 have hst:=jj (env:=V.env) (pos:=pt.p) (bA (bz hm));refine wpAny_Call_method (T:=Ty) (id:=id) (oJ (bA (bz (bz hm)))) ?_ (bz (bz (bz hm))) pa slot hty (dz O h λ u b σ₁ s₁ p r O1 S T=>?_)
 ·rw[hst];refine nU (nU ?_ rfl) ?_
  ·rw[List.all_map];exact List.all_eq_true.mpr λ ω ω=>rfl
  ·exact decide_eq_true (show args.length+0+0<30 from aw (bg (bA hm):args.length<20) (by decide))
 ·obtain⟨a,rfl,⟨ob,e1,e2,e3⟩,q2⟩:=ht b σ₁ s₁ p O1;obtain rfl:u=.ref a:=r;refine⟨⟨_,e1,e2⟩,λ a' q=>by cases q;exact⟨_,e1,e3⟩,?_⟩;rw[hst];exact J.shift S T (v0 (first:=[.ref a]) O1 (jf id) q2 λ vs bs σ₂ s₂ p2 r2 O2 ω=>k a vs bs σ₂ s₂ p2 r2 O2.G)
end
theorem QY:bootBuiltins rC=some (.builtin "len"):=by decide+kernel
theorem RZ:bootBuiltins rF=some (.builtin "abs"):=by decide+kernel
theorem Re:bootBuiltins qO=some (.type "str"):=by decide+kernel
theorem CK:bootBuiltins i4=some (.builtin "sorted"):=by decide+kernel
theorem xD:bootBuiltins eU=some (.type "tuple"):=by decide+kernel
theorem vY:bootBuiltins ff=some (.type "list"):=by decide+kernel
theorem JM:bootBuiltins nO=some (.type "dict"):=by decide+kernel
theorem pq:bootBuiltins cH=some (.type "reversed"):=by decide+kernel
theorem sR:bootBuiltins dD=some (.type "range"):=by decide+kernel
theorem tf:bootBuiltins dL=some (.builtin "isinstance"):=by decide+kernel
theorem J.bol {c:Cx}{A:Around}{σ:bH}{s:Shared}{X:Addr→Prop}{Q:bI}{t:Sem Value}(h:c.J A X n6 t σ s (FM Q)):c.J A X bD t σ s Q:=
 wpAny_mono h (λ ω ω h=>by obtain⟨b,σ',h⟩:=h;exact⟨.bool b,σ',h.q,h.r,h.g,h.st,h.t⟩) λ ω ω z=>z
set_option tactic.hygienic true in
theorem Fw {x:Expr}(h:pX x=true)(env:Env):isTrue x env (eval x env)=(do let v←eval x env;standAt x.pos;holding [v] (truthy v)):=by
 cases x<;>first|rfl|cases h|skip
 rename_i op x p;cases op<;>first|rfl|cases h
section
variable {c:Cx}{V:Ev c}{T:q9}
theorem B7 {β:Type}{R:uw Value β}{m:bB}{σ:bH}{s:Shared}{Q:β→SP}{t1 t2:Sem Value}{f:Value→Value→Sem Value}{pos:Pos}{P1:bI}{P2:AV→bI}(O:Ok V m σ s)(h1:c.J V.A cN bD t1 σ s P1)
  (h2:∀ b σ₁ s₁,P1 b σ₁→Ok V m σ₁ s₁→c.J V.A cN bD t2 σ₁ s₁ (P2 b))
  (h3:∀ u v a b σ₂ s₂,P2 a b σ₂→bD s₂.heap u a→bD s₂.heap v b→c.good σ₂ s₂.heap→c.J V.A cN R (f u v) σ₂ s₂ Q):
  c.J V.A cN R (do let u←t1;let v←holding [u] t2;standAt pos;f u v) σ s Q:=
 J.bindF O h1 λ u a σ₁ s₁ p r O1 ω=>J.bindF O1 (J.holding (h2 a σ₁ s₁ p O1)) λ v b σ₂ s₂ p2 r2 O2 T2=>J.stand (h3 u v a b σ₂ s₂ p2 (r.up T2) r2 O2.G)
theorem mkB {ie:IE}{e:Expr}(hp:pX e=true)(hw:∀ m K,(cW V.E ie).2 m K=(cW V.E ie).1 m (vi K))(h:SE V ie e):SB V ie e:=
 ⟨h,λ {m σ s K} O w=>isTrue_plain (dz O (h O (hw m K▸w)) λ v b σ₁ s₁ q r O1 S T=>J.shift S T (mD O1.G r q)) (Fw hp V.env),λ ω=>hw⟩
theorem Uf {i:Int}{nm:Str}{p:Pos}(hT:cV c T)(h:(RQ V.ns nm&&T.gint.contains (nm,i))=true):SE V (.gi i) (.Name nm p):=λ {m σ s Q} O w=>by
 obtain⟨t,hg⟩:=hT.gint _ _ (bA h);exact iZ O (bz h) hg (bN s.toks O.G (.mkI i t) w)
theorem Rf {i:Int}{pt:PT}:SE V (.int i) (Z6 pt i):=λ {m σ s Q} O w=>by
 rcases i with n|n
 ·exact wpAny_Constant_int (bN (s.toks+1) O.G (.mkI _ _) w)
 ·exact UnaryOp_ (wpAny_Constant_int (PyProof.Rows.neg_int (bN (s.toks+1+1) O.G (.mkI _ _) w)))
theorem PC {x:Sx}{k:Nat}{p:Pos}(h:PyData.strOk (sx x)=true):SE V (.str x) (.Constant (.str (sx x)) k p):=λ {m σ s Q} O w=>wpAny_Constant_str (bN (s.toks+1) O.G (.mkS h _) w)
theorem Lh {b:Bool}{k:Nat}{p:Pos}:SE V (.bol b) (.Constant (.bool b) k p):=λ {m σ s Q} O w=>wpAny_Constant_bool (bN s.toks O.G (.mkB b) w)
theorem QH {k:Nat}{p:Pos}:SE V .non (.Constant .none k p):=λ {m σ s Q} O w=>wpAny_Constant_none (bN s.toks O.G .mkN w)
theorem OH {es:List IE}{elts:List Expr}{x:Nat}{p:Pos}(ih:Kx V es elts)(h:(elts.all eG&&decide (es.length<100))=true)(hl:elts.length=es.length):SE V (.tup es) (.Tuple elts x p):=λ {m σ s Q} O w=>by
 rw[arm_eval_Tuple,jj (bz h)];refine J.stand (wpAny_bind (dz O (ih O w) λ vs bs σ₁ s₁ q r O1 S T=>J.shift S T (vF O1.G r ?_ q.2)));rw[q.1,hl];exact aW (aw (bg (bA h)) (by decide))
theorem L7 {es:List IE}{elts:List Expr}{p:Pos}(ih:Kx V es elts)(h:(elts.all eG&&decide (es.length<100))=true)(hl:elts.length=es.length):SE V (.lst es) (.List elts p):=λ {m σ s Q} O w=>by
 rw[arm_eval_List,jj (bz h)];refine J.stand (wpAny_bind (dz O (ih O w) λ vs bs σ₁ s₁ q r O1 S T=>J.shift S T (qE O1.G r ?_ q.2)));rw[q.1,hl];exact aW (aw (bg (bA h)) (by decide))
theorem HC {ob:bO}{m:bB}{σ:bH}{s:Shared}{Q:bI}{p:Pos}(O:Ok V m σ s)(hob:de c.prog c.w (s.heap.push { cls:=.type "dict",data:=.dict #[] }) s.heap.objs.size ob)(q:dq ob Q σ):c.J V.A cN bD (eval (.Dict [] [] p) V.env) σ s Q:=
 wpAny_Dict_empty (dU s.toks O.G (.push _) (cu _) hob q)
theorem Hy {C:Addr}{ie:IE}{v:Expr}{x:Sx}{p:Pos}(hT:cV c T)(ih:SE V ie v)(ha:T.attrs.contains (C,x)=true)(hb:r7 v=true):SE V (.attr C ie x) (.Attribute v (sx x) p):=λ {m σ s Q} O w=>by
 obtain⟨K,hx⟩:=hT.attrs _ _ ha;show c.J V.A cN bD (do
  let o←attributeBase v (sx x) V.env (eval v V.env)
  standAt p.atName
  let r←holding [o] (getAttr o (sx x) true)
  letTemporaryGo v o r
  pure r) σ s Q
 rw[oJ hb];refine J.bindF O (ih O w) λ o b σ₁ s₁ q r O1 ω=>J.stand ?_;obtain⟨a,rfl,q⟩:=eS q;obtain rfl:o=_:=r;refine J.bindF O1 (J.holding (yP K hx O1.G q)) λ v b σ₂ s₂ q r O2 T2=>?_;exact wpAny_bind (wpAny_letTemporaryGo (wpAny_pure (bN s₂.toks O2.G r q)))
theorem Q5 {ie ii:IE}{v sl:Expr}{p:Pos}(i1:SE V ie v)(i2:SE V ii sl)(hs:g6 sl=true):SE V (.sub ie ii) (.Subscript v sl p):=λ {m σ s Q} O w=>
 Subscript_ (dz O (i1 O w) λ o b σ₁ s₁ q r O1 S1 T1=>dz O1 (i2 O1 q) λ i b2 σ₂ s₂ q2 r2 O2 S2 T2=>J.shift (S1.trans S2) (T1.trans T2) (PD hs O2.G (r.up (S2.tl O1.G)) r2 q2))
theorem gh {prog:Program}{w:World}{A:Around}{s:Shared}{env:Env}{E:Value→Shared→Prop}{value:Expr}{lower upper:Option Expr}{p pos:Pos}{Q:Value→Shared→Prop}
  (h:wpAny (model prog w) A (eval value env) (λ o s₁=>wpAny (model prog w) A (evalPart lower env) (λ vl s₂=>wpAny (model prog w) A (evalPart upper env) (λ vu s₃=>
   ∃ l items lo hi,o=.ref l∧s₃.heap.IsList l items∧items.size≤sizeLine∧IsPart vl lo∧IsPart vu hi∧
    Q (.ref (s₃.heap.objs.size+1)) { s₃ with heap:=(s₃.heap.push { cls:=.type "slice",data:=.fields #[vl,vu,.none] }).push { cls:=.type "list",data:=.seq (slicePick items lo hi none) } }) E s₂) E s₁) E s):
  wpAny (model prog w) A (eval (.Subscript value (.Slice lower upper none p) pos) env) Q E s:=by
 refine Subscript_ (wpAny_mono h (λ o s₁ h₁=>wpAny_Slice (wpAny_mono h₁ (λ vl s₂ h₂=>wpAny_mono h₂ (λ vu s₃ h₃=>?_) λ ω ω e=>e) λ ω ω e=>e)) λ ω ω e=>e);obtain⟨l,items,lo,hi,rfl,hl,hsz,pl,pu,hQ⟩:=h₃;rw[evalPart_none];refine wpAny_pure (tail_any (ops:=[.ref s₃.heap.objs.size,.ref l]) (hl.push _).typeIs slot_list_getitem.lookup (wpAny_getItem_list_slice (hl.push _) (Heap.IsSliceOf.new ..) pl pu .none (by simp) ?_ hsz) rfl);rw[Heap.size_push];exact hQ
theorem QG {ie lo:IE}{v u:Expr}{p p':Pos}(i1:SE V ie v)(i2:SE V lo u):SE V (.slf ie lo) (.Subscript v (.Slice (some u) none none p) p'):=λ {m σ s Q} O w=>by
 refine gh (dz O (i1 O w) λ o b σ₁ s₁ q r O1 S1 T1=>?_);obtain⟨a,rfl,q⟩:=eS q;refine dz O1 (i2 O1 q) λ i b2 σ₂ s₂ q2 r2 O2 S2 T2=>?_;obtain⟨k,rfl,q2⟩:=j4 q2;obtain⟨t,rfl⟩:=r2;rw[evalPart_none];obtain⟨items,R⟩:=Pc (X:=cN) (vl:=.int k t) (vu:=.none) O2.G q2;exact wpAny_pure ⟨a,items,some k,none,r,R.l,R.z,.int _ _,.none,R.r.shift (S1.trans S2) (T1.trans T2)⟩
theorem Lg {ie hi:IE}{v u:Expr}{p p':Pos}(i1:SE V ie v)(i2:SE V hi u):SE V (.slt ie hi) (.Subscript v (.Slice none (some u) none p) p'):=λ {m σ s Q} O w=>by
 refine gh (dz O (i1 O w) λ o b σ₁ s₁ q r O1 S1 T1=>?_);obtain⟨a,rfl,q⟩:=eS q;rw[evalPart_none];refine wpAny_pure (dz O1 (i2 O1 q) λ i b2 σ₂ s₂ q2 r2 O2 S2 T2=>?_);obtain⟨k,rfl,q2⟩:=j4 q2;obtain⟨t,rfl⟩:=r2;obtain⟨items,R⟩:=Oq (X:=cN) (vl:=.none) (vu:=.int k t) O2.G q2;exact⟨a,items,none,some k,r,R.l,R.z,.none,.int _ _,R.r.shift (S1.trans S2) (T1.trans T2)⟩
theorem BL {f:Addr}{Q:bI}{vs:List AV}{σ:bH}{J:JT}{n:Nat}(h:bR J n f Q vs σ):J n (.ref f) vs σ Q:=by unfold bR at h;exact h
theorem NG {f:Addr}{Q:bI}{vs:List AV}{σ:bH}{J:JT}{n:Nat}(h:ut J n Q f vs σ):(∃ o fd,σ f=some (.raw o)∧o.data=.func fd)∧J n (.ref f) vs σ Q:=by unfold ut at h;exact h
theorem lr (x:Str)(p p':Pos)(args:List Expr):eval (.Call (.Name x p) args [] p') V.env=(do callWith p' (←eval (.Name x p) V.env) [] (backTo p' (starEach args V.env)) (backToKw p' (keywordEach [] V.env))):=rfl
theorem Kg {f:Addr}{es:List IE}{args:List Expr}{nm:Str}{p p':Pos}(hT:cV c T)(h:(RQ V.ns nm&&T.gfun.contains (nm,f)&&args.all eG)=true)(ih:Kx V es args):SE V (.call f es) (.Call (.Name nm p) args [] p'):=λ {m σ s Q} O w=>by
 obtain⟨hg,hk⟩:=hT.gfun _ _ (bA (bz h));rw[lr];refine wpAny_bind (iZ O (bz (bz h)) hg ?_);rw[jj (bA h)];exact v0 (first:=[]) O (C2 hk) (ih O w) λ vs bs σ₁ s₁ q r O1 ω=>BL q.2 V.A s₁ vs (gu V) O1.G r
theorem OI {x:Nat}{es:List IE}{args:List Expr}{p p':Pos}(h:(jG V.ns x .local&&args.all eG)=true)(ih:Kx V es args):SE V (.clo x es) (.Call (.Name (cL V.ns x) p) args [] p'):=λ {m σ s Q} O w=>by
 obtain⟨v,hv,w⟩:=xN (show tq (m x) (IC (yX V.E es) m (ut (fC c) V.n Q)) σ from w);rw[lr];refine J.bindF O (JW (bz h) (Q:=λ w σ'=>w=v∧IC (yX V.E es) m (ut (fC c) V.n Q) v σ') O (show tq (m x) _ σ by rw[hv];exact⟨rfl,w⟩)) λ u b σ₁ s₁ q r O1 ω=>?_;obtain⟨rfl,q⟩:=q;obtain⟨f,rfl,q⟩:=eS q;obtain rfl:u=_:=r;rw[jj (bA h)];refine callWith_of (P:=λ hh=>∃ o fd,hh.get? f=some o∧o.data=.func fd) (by rw[kF];rfl) (λ hh ⟨o,fd,ho,hd⟩=>⟨.frame,.inl rfl,?_⟩) (jY (dz O1 (ih O1 q) λ vs bs σ₂ s₂ q2 r2 O2 S T=>?_))
 ·unfold keeperOf;refine (Looks.ld (part:=none) ho).andThen ?_;rw[hd];exact .now
 ·obtain⟨⟨o,fd,e1,e2⟩,q2⟩:=NG q2.2;exact⟨⟨o,fd,(O2.G.objs _ _ e1).2.1,e2⟩,J.shift S T (q2 V.A s₂ vs (gu V) O2.G r2)⟩
theorem Hp {C:Addr}{ie:IE}{x:Sx}{f:Addr}{es:List IE}{o:Expr}{args:List Expr}{pt:PT}(hT:cV c T)(h2:T.meths.contains (C,x,f)=true)(hm:vO o pt args=true)(i1:SE V ie o)(ih:Kx V es args):SE V (.meth C ie x f es) (vN (sx x) o pt args):=λ {m σ s Q} O w=>by
 obtain⟨K,hx,hf,hk⟩:=hT.meths _ _ _ h2;show c.J V.A cN bD (eval (.Call (.Attribute o (sx x) (pt.c 0).p) args [] pt.p) V.env) σ s Q;have hst:=jj (env:=V.env) (pos:=pt.p) (bA (bz hm));rw[arm_eval_Call,oJ (bA (bz (bz hm))),hst];refine wpAny_bind (dz O (i1 O w) λ u b σ₁ s₁ q r O1 S1 T1=>?_);refine wpAny_bind (wpAny_standAt ?_);obtain⟨a,rfl,q⟩:=eS q;obtain rfl:u=_:=r;obtain⟨dx,fs,e1,e2,e3,q⟩:=Kc q;have hform:methodCallForm (args.length+([]:List Keyword).length) ((evalEach args V.env).map λ t=>(false,t)) (backToKw pt.p (keywordEach [] V.env))=true:=by
  refine nU (nU ?_ rfl) ?_
  ·rw[List.all_map];exact List.all_eq_true.mpr λ ω ω=>rfl
  ·exact decide_eq_true (show args.length+0+0<30 from aw (bg (bA hm):args.length<20) (by decide))
 have hpos:methodCallPos true o V.env (pt.c 0).p pt.p=pure pt.p:=by unfold methodCallPos;simp[bz (bz (bz hm))]
 unfold methodCall;rw[hform];refine wpAny_bind (wpAny_holding (tN K hx hf O1.G e1 e2 e3 ?_));refine wpAny_bind (wpAny_of_eq hpos ?_);exact J.shift S1 T1 (v0 (first:=[.ref a]) O1 (C2 hk) (ih O1 q) λ vs bs σ₂ s₂ q2 r2 O2 ω=>BL q2.2 V.A s₂ (.ref a::vs) (gu V) O2.G (.cons (.mkL a) r2))
theorem oG {m:bB}{σ:bH}{s:Shared}{a:Addr}{vs:List AV}(O:Ok V m σ s)(e:σ a=some (.list vs)):∃ ob,s.heap.get? a=some ob∧ob.cls=.type "list"∧ob.dict=none:=by
 obtain⟨ws,n,L⟩:=O.G.list e;exact⟨_,L.at_,rfl,rfl⟩
theorem xv {m:bB}{σ:bH}{s:Shared}{a:Addr}{ob:bO}(O:Ok V m σ s)(e:σ a=some ob)(d:vG ob):∃ ob,s.heap.get? a=some ob∧ob.cls=.type "dict"∧ob.dict=none:=by
 have h:=(O.G.objs _ _ e).2;rcases d with _|_|_
 ·obtain⟨cs,⟨o,es,ep,ho,hc,_⟩,_⟩:=h;exact⟨o,ho,hc.1,hc.2.1⟩
 ·obtain⟨cs,⟨o,es,ep,ho,hc,_⟩,_⟩:=h;exact⟨o,ho,hc.1,hc.2.1⟩
 ·obtain⟨cs,⟨o,es,ep,ho,hc,_⟩,_⟩:=h;exact⟨o,ho,hc.1,hc.2.1⟩
theorem Dg {e a:IE}{o b:Expr}{pt:PT}(hm:vO o pt [b]=true)(i1:SE V e o)(i2:SE V a b):SE V (.append e a) (vN (Str.ofString "append") o pt [b]):=λ {m σ s Q} O w=>by
 refine ke (P2:=λ b bs σ=>∃ v,bs=[v]∧∃ l,b=.loc l∧vw Q l v σ) hm PySem.F.plainAttrs_list PySem.F.slot_list_append PySem.F.type_list_append O (i1 O w) (λ b σ₁ s₁ p O1=>?_) λ a vs bs σ₂ s₂ p r2 G2=>?_
 ·obtain⟨l,rfl,p⟩:=eS p;obtain⟨⟨vs,e⟩,p⟩:=G7 p;exact⟨l,rfl,oG O1 e,J.mono (FT O1 (i2 O1 p)) λ bs σ' ⟨b,h1,h2⟩=>⟨b,h1,l,rfl,h2⟩⟩
 ·obtain⟨v,rfl,l,e,p⟩:=p;obtain⟨w,rfl,r3⟩:=xc r2;cases e;exact Aw G2 r3 p
theorem PJ {e:IE}{o:Expr}{pt:PT}(hm:vO o pt []=true)(i1:SE V e o):SE V (.pop e) (vN (Str.ofString "pop") o pt []):=λ {m σ s Q} O w=>by
 refine ke (P2:=λ b bs σ=>bs=[]∧fg (vH Q) b σ) hm PySem.F.plainAttrs_list PySem.F.slot_list_pop PySem.F.type_list_pop O (i1 O w) (λ b σ₁ s₁ p O1=>?_) λ a vs bs σ₂ s₂ p r2 G2=>?_
 ·obtain⟨l,rfl,p⟩:=eS p;obtain⟨vs,v,e,_⟩:=GK p;exact⟨l,rfl,oG O1 e,l6 O1.G ⟨rfl,p⟩⟩
 ·obtain⟨rfl,p⟩:=p;obtain rfl:vs=[]:=r2;exact Q6 G2 p
theorem Mb {e:IE}{o:Expr}{pt:PT}(hm:vO o pt []=true)(i1:SE V e o):SE V (.rev e) (vN (Str.ofString "reverse") o pt []):=λ {m σ s Q} O w=>by
 refine ke (P2:=λ b bs σ=>bs=[]∧fg (wc Q) b σ) hm PySem.F.plainAttrs_list PySem.F.slot_list_reverse PySem.F.type_list_reverse O (i1 O w) (λ b σ₁ s₁ p O1=>?_) λ a vs bs σ₂ s₂ p r2 G2=>?_
 ·obtain⟨l,rfl,p⟩:=eS p;obtain⟨vs,e,_⟩:=GO p;exact⟨l,rfl,oG O1 e,l6 O1.G ⟨rfl,p⟩⟩
 ·obtain⟨rfl,p⟩:=p;obtain rfl:vs=[]:=r2;exact Rw G2 p
theorem Rj {e i d:IE}{o a b:Expr}{pt:PT}(hm:vO o pt [a,b]=true)(i1:SE V e o)(i2:SE V i a)(i3:SE V d b):SE V (.get e i d) (vN (Str.ofString "get") o pt [a,b]):=λ {m σ s Q} O w=>by
 refine ke (P2:=λ o bs σ=>∃ x y,bs=[x,y]∧∃ l,o=.loc l∧getL Q l x y σ) hm PySem.F.plainAttrs_dict PySem.F.slot_dict_get PySem.F.type_dict_get O (i1 O w) (λ b σ₁ s₁ p O1=>?_) λ a vs bs σ₂ s₂ p r2 G2=>?_
 ·obtain⟨l,rfl,p⟩:=eS p;obtain⟨⟨ob,e,d⟩,p⟩:=G4 p;exact⟨l,rfl,xv O1 e d,J.mono (xI O1 (i2 O1 p) λ x σ₂ s₂ p2 O2=>i3 O2 p2) λ bs σ' ⟨x,y,h1,h2⟩=>⟨x,y,h1,l,rfl,h2⟩⟩
 ·obtain⟨x,y,rfl,l,e,p⟩:=p;obtain⟨u,v,rfl,r1,r2⟩:=xX r2;cases e;exact R7 (gu V) G2 r1 r2 p
theorem AW {e i:IE}{o a:Expr}{pt:PT}{pl:Pos}(hm:vO o pt [a,.List [] pl]=true)(i1:SE V e o)(i2:SE V i a):SE V (.setdef e i) (vN (Str.ofString "setdefault") o pt [a,.List [] pl]):=λ {m σ s Q} O w=>by
 refine ke (P2:=λ o bs σ=>∃ k l kvs x,bs=[.int k,x]∧o=.loc l∧σ l=some (.dI kvs)∧kvs.length<cX∧fw Q l kvs k x σ) hm PySem.F.plainAttrs_dict PySem.F.slot_dict_setdefault PySem.F.type_dict_setdefault O (i1 O w) (λ b σ₁ s₁ p O1=>?_) λ a vs bs σ₂ s₂ p r2 G2=>?_
 ·obtain⟨l,rfl,p⟩:=eS p;obtain⟨⟨ob,e,d⟩,p⟩:=G4 p;refine⟨l,rfl,xv O1 e d,J.mono (xI (P':=λ k x σ=>∃ j kvs,k=.int j∧σ l=some (.dI kvs)∧kvs.length<cX∧fw Q l kvs j x σ) O1 (i2 O1 p) λ x σ₂ s₂ p2 O2=>?_) λ bs σ' ⟨x,y,h1,j,kvs,h2,h3,h4,h5⟩=>⟨j,l,kvs,y,h2▸h1,rfl,h3,h4,h5⟩⟩;obtain⟨kvs,k,e,rfl,hz,p2⟩:=My p2;show c.J V.A cN bD (do standAt pl;newList (←spliced (backTo pl (starEach [] V.env)))) σ₂ s₂ _;refine J.stand (wpAny_bind (spliced_nil (qE O2.G .nil (aI _) ?_)));unfold dq;exact λ x hx=>⟨k,kvs,rfl,(fB λ q=>cz (q▸hx) e).trans e,hz,yn p2 x hx⟩
 ·obtain⟨k,l,kvs,x,rfl,e0,e,hz,p⟩:=p;obtain⟨u,v,rfl,r1,r2⟩:=xX r2;cases e0;exact AX G2 e r1 r2 hz p
theorem CM {e a:IE}{o b:Expr}{pt pt':PT}(hT:cV c T)(hm:vO o pt [iX cH pt' [b]]=true)(hb:jS T V.ns cH b=true)(i1:SE V e o)(i2:SE V a b):SE V (.extRev e a) (vN (Str.ofString "extend") o pt [iX cH pt' [b]]):=λ {m σ s Q} O w=>by
 have hst:=jj (env:=V.env) (pos:=pt.p) (bA (bz hm));refine wpAny_Call_method (T:="list") (id:="list.extend") (oJ (bA (bz (bz hm)))) ?_ (bz (bz (bz hm))) PySem.F.plainAttrs_list PySem.F.slot_list_extend PySem.F.type_list_extend (dz O (i1 O w) λ u ub σ₁ s₁ p ru O1 S1 T1=>?_)
 ·rw[hst];rfl
 ·obtain⟨l,rfl,p⟩:=eS p;obtain⟨⟨vs,e⟩,p⟩:=G7 p;obtain rfl:u=_:=ru;obtain⟨ob,e1,e2,e3⟩:=oG O1 e;refine⟨⟨_,e1,e2⟩,λ a' q=>by cases q;exact⟨_,e1,e3⟩,?_⟩;rw[hst];refine callWith_builtin rfl (evalArgs_plain (spliced_cons ?_));refine gN hT hb pq O1 (fm _) (dz O1 (i2 O1 p) λ v vb σ₂ s₂ p2 rv O2 S2 T2=>⟨dg.inH O2.G,?_⟩);refine wpAny_mono (Bu (X:=cN) (gu V) O2.G rv p2) (λ w s₃ h₃=>spliced_nil ?_) λ ω ω x=>x;exact wpAny_mono h₃ (λ ω ω z=>z.shift (S1.trans S2) (T1.trans T2)) λ ω ω x=>x
section
variable {e:IE}{a:Expr}{pt pt':PT}
theorem LA (hT:cV c T)(hb:jS T V.ns rC a=true)(ih:SE V e a):SE V (.len e) (iX rC pt [a]):=λ {m σ s Q} O w=>jx hT hb QY (λ ω=>jf _) O (ih O w) λ u b σ₁ s₁ p r G1=>OU G1 r p
theorem KK (hT:cV c T)(hb:jS T V.ns rF a=true)(ih:SE V e a):SE V (.abs e) (iX rF pt [a]):=λ {m σ s Q} O w=>jx hT hb RZ (λ ω=>jf _) O (ih O w) λ u b σ₁ s₁ p r G1=>by obtain⟨i,rfl,p⟩:=j4 p;exact RC G1 r p
theorem IL (hT:cV c T)(hb:jS T V.ns qO a=true)(ih:SE V e a):SE V (.strI e) (iX qO pt [a]):=λ {m σ s Q} O w=>jx hT hb Re (λ ω=>fm _) O (ih O w) λ u b σ₁ s₁ p r G1=>by obtain⟨i,rfl,p⟩:=j4 p;exact MN G1 r p
theorem Cn (hT:cV c T)(hb:jS T V.ns i4 a=true)(ih:SE V e a):SE V (.sorted e) (iX i4 pt [a]):=λ {m σ s Q} O w=>jx hT hb CK (λ ω=>jf _) O (ih O w) λ u b σ₁ s₁ p r G1=>by obtain⟨i,rfl,p⟩:=eS p;obtain rfl:u=_:=r;exact Cg G1 p
theorem Ex (hT:cV c T)(hb:jS T V.ns eU a=true)(ih:SE V e a):SE V (.tupOf e) (iX eU pt [a]):=λ {m σ s Q} O w=>jx hT hb xD (λ ω=>fm _) O (ih O w) λ u b σ₁ s₁ p r G1=>EO G1 r p
theorem Ad (hT:cV c T)(hb:jS T V.ns ff a=true)(ih:SE V e a):SE V (.listOf e) (iX ff pt [a]):=λ {m σ s Q} O w=>jx hT hb vY (λ ω=>fm _) O (ih O w) λ u b σ₁ s₁ p r G1=>Jm (gu V) G1 r p
theorem Bn (hT:cV c T)(hb:jS T V.ns nO a=true)(ih:SE V e a):SE V (.dictOf e) (iX nO pt [a]):=λ {m σ s Q} O w=>jx hT hb JM (λ ω=>fm _) O (ih O w) λ u b σ₁ s₁ p r G1=>by obtain⟨i,rfl,p⟩:=eS p;obtain rfl:u=_:=r;exact Il G1 p
theorem inK {m:Value→Shared→Prop}{A:Around}{t:Sem Value}{s:Shared}(h:wpAny c.M A t m gy s)(k:∀ v s',m v s'→c.K.In s'.heap):wpAny c.M A t (λ r s'=>c.K.In s'.heap∧m r s') gy s:=wpAny_mono h (λ v s' h=>⟨k v s' h,h⟩) λ ω ω z=>z
theorem EW {p:Pos}(hT:cV c T)(hb:(jS T V.ns dL a&&jS T V.ns eU a)=true)(ih:SE V e a):SE V (.isTup e) (iX dL pt [a,.Name eU p]):=λ {m σ s Q} O w=>by
 have h1:=bz hb;have h2:=bA hb;obtain⟨v1,hg1,hv1⟩:=hT.built _ (bA (bz (bz h1)));obtain⟨v2,hg2,hv2⟩:=hT.built _ (bA (bz (bz h2)));obtain rfl:_=v1:=aA (tf.symm.trans hv1);obtain rfl:_=v2:=aA (xD.symm.trans hv2);show c.J V.A cN bD (eval (.Call (.Name dL (pt.c 0).p) [a,.Name eU p] [] pt.p) V.env) σ s Q;rw[lr];refine wpAny_bind (iZ O (nU (bz (bz (bz h1))) (bA h1)) hg1 ?_);rw[rH (bA (bz h1))];show wpAny _ _ (callWith pt.p (.builtin "isinstance") [] [(false,eval a V.env),(false,eval (.Name eU p) V.env)] []) _ _ _;refine callWith_builtin rfl (evalArgs_plain (spliced_cons (dz O (ih O w) λ u ub σ₁ s₁ q r O1 S1 T1=>?_)));exact spliced_cons (iZ O1 (nU (bz (bz (bz h2))) (bA h2)) hg2 (spliced_nil (J.shift S1 T1 (Fj O1.G r q))))
end
theorem xQ {a b:IE}{x y:Expr}{op:Operator}{p:Pos}(K:bI→AV→AV→SP)(hop:∀ {σ s u v i j Q},c.good σ s.heap→bD s.heap u i→bD s.heap v j→K Q i j σ→c.J V.A cN bD (binaryOp op u v) σ s Q)(i1:SE V a x)(i2:SE V b y){m:bB}{σ:bH}{s:Shared}{Q:bI}(O:Ok V m σ s)(w:(cW V.E a).1 m (lL (cW V.E b).1 m (K Q)) σ):c.J V.A cN bD (eval (.BinOp x op y p) V.env) σ s Q:=
 B7 O (i1 O w) (λ i σ₁ s₁ p O1=>i2 O1 p) λ u v i j σ₂ s₂ p r1 r2 G2=>J.operate (hop G2 r1 r2 p)
theorem Rr {a b:IE}{x y:Expr}{op:CmpOp}{p:Pos}(hm:behindInMarks op y=false)(i1:SE V a x)(i2:SE V b y):SE V (.cmp op a b) (.Compare x [op] [y] p):=λ {m σ s Q} O w=>by
 rw[eval_Compare1,markedBehindIn_of_false hm];exact J.bol (B7 O (i1 O w) (λ i σ₁ s₁ p O1=>i2 O1 p) λ u v i j σ₂ s₂ p r1 r2 G2=>J.operate (Gy (gu V) G2 r1 r2 p))
theorem NJ {a b:IE}{x y:Expr}{op:CmpOp}{p:Pos}(hm:behindInMarks op y=false)(i1:SE V a x)(i2:SE V b y):ST V (.cmp op a b) (.Compare x [op] [y] p):=λ {m σ s K} O w=>by
 rw[isTrue_Compare1,markedBehindIn_of_false hm];refine J.bindF O (i1 O w) λ u i σ₁ s₁ p r O1 ω=>J.bindF O1 (J.holding (i2 O1 p)) λ v j σ₂ s₂ p2 r2 O2 T2=>J.stand ?_;refine J.bindF O2 (J.operate (Gy (gu V) O2.G (r.up T2) r2 p2)) λ w d σ₃ s₃ q r3 O3 ω=>J.holding ?_;obtain rfl:w=_:=r3;exact wpAny_truthy_bool (bN s₃.toks O3.G rfl q)
theorem Q7 {e:IE}{x:Expr}{p:Pos}(h:SB V e x)(hp:pX x=true):SE V (.not e) (.UnaryOp .Not x p):=λ {m σ s Q} O w=>by
 have w:(cW V.E e).2 m (uT (FM Q)) σ:=w;rw[h.pl hp]at w;refine UnaryOp_ (dz O (h.se O w) λ v b σ₁ s₁ q r O1 S1 T1=>not_of ?_);refine dz O1 (mD (X:=cN) O1.G r q) λ t b2 σ₂ s₂ q2 r2 O2 S2 T2=>?_;obtain rfl:t=b2:=r2;exact (bN s₂.toks O2.G (.mkB _) q2:c.Res cN bD σ₂ s₂ Q (.bool (!t)) _).shift (S1.trans S2) (T1.trans T2)
theorem LW {e:IE}{x:Expr}{p:Pos}(h:SB V e x):ST V (.not e) (.UnaryOp .Not x p):=λ {m σ s K} O w=>by
 refine isTrue_not (dz O (h.st O w) λ t b σ₁ s₁ q r O1 S1 T1=>?_);obtain rfl:t=b:=r;exact (bN (R:=qb) s₁.toks O1.G rfl q:c.Res cN qb σ₁ s₁ K (!t) _).shift S1 T1
theorem OL {ci a b:IE}{x y z:Expr}{p:Pos}(i0:ST V ci x)(i1:SE V a y)(i2:SE V b z):SE V (.ife ci a b) (.IfExp x y z p):=λ {m σ s Q} O w=>by
 refine IfExp_ (dz O (i0 O w) λ t b σ₁ s₁ q r O1 S1 T1=>?_);obtain rfl:t=b:=r;cases t with
 |true=>exact J.shift S1 T1 (i1 O1 q)
 |false=>exact J.shift S1 T1 (i2 O1 q)
def qo (V:Ev c):List IE→List Expr→Prop
 |[],es=>es=[]
 |i::is,es=>∃ e r,es=e::r∧SB V i e∧qo V is r
theorem qo.es {is:List IE}:∀ {es:List Expr},qo V is es→Kx V is es:=by
 induction is with
 |nil=>rintro es rfl m σ s Q O w;exact l6 O.G ⟨rfl,w⟩
 |cons i is ih=>
  rintro _ ⟨e,r,rfl,a,b⟩ m σ s Q O w
  exact md O (a.se O w) λ v σ₁ s₁ p O1=>J.mono (ih b O1 p) λ bs σ' q=>⟨ae (·+1) q.1,q.2⟩
theorem Qz {is:List IE}:∀ {es:List Expr} (p:Pos),qo V is es→∀ {m σ s Q},Ok V m σ s→Dl V.E is m Q σ→c.J V.A cN bD (eval (.BoolOp .And es p) V.env) σ s Q:=by
 induction is with
 |nil=>rintro _ p rfl m σ s Q O w;exact w.elim
 |cons i is ih=>
  rintro _ p ⟨e,r,rfl,a,b⟩ m σ s Q O w
  rcases is with _|⟨j,is⟩
  ·obtain rfl:r=[]:=b;exact BoolOp_one (a.se O w)
  ·have b':=b;obtain⟨y,r,rfl,_,_⟩:=b';refine BoolOp_and (dz O (a.se O w) λ v b' σ₁ s₁ q rv O1 S1 T1=>dz O1 (mD (X:=cN) O1.G rv q) λ t b2 σ₂ s₂ q2 r2 O2 S2 T2=>?_);obtain rfl:t=b2:=r2;cases t with
   |true=>exact J.shift (S1.trans S2) (T1.trans T2) (ih p b O2 q2)
   |false=>exact (bN s₂.toks O2.G (rv.up (S2.tl O1.G)) q2:c.Res cN bD σ₂ s₂ Q v _).shift (S1.trans S2) (T1.trans T2)
theorem Yu {is:List IE}:∀ {es:List Expr} (p:Pos),qo V is es→∀ {m σ s Q},Ok V m σ s→ID V.E is m Q σ→c.J V.A cN bD (eval (.BoolOp .Or es p) V.env) σ s Q:=by
 induction is with
 |nil=>rintro _ p rfl m σ s Q O w;exact w.elim
 |cons i is ih=>
  rintro _ p ⟨e,r,rfl,a,b⟩ m σ s Q O w
  rcases is with _|⟨j,is⟩
  ·obtain rfl:r=[]:=b;exact BoolOp_one (a.se O w)
  ·have b':=b;obtain⟨y,r,rfl,_,_⟩:=b';refine BoolOp_or (dz O (a.se O w) λ v b' σ₁ s₁ q rv O1 S1 T1=>dz O1 (mD (X:=cN) O1.G rv q) λ t b2 σ₂ s₂ q2 r2 O2 S2 T2=>?_);obtain rfl:t=b2:=r2;cases t with
   |false=>exact J.shift (S1.trans S2) (T1.trans T2) (ih p b O2 q2)
   |true=>exact (bN s₂.toks O2.G (rv.up (S2.tl O1.G)) q2:c.Res cN bD σ₂ s₂ Q v _).shift (S1.trans S2) (T1.trans T2)
theorem QU {whole:Sem Value}{is:List IE}:∀ {es:List Expr} (p:Pos),qo V is es→∀ {m σ s K},Ok V m σ s→Hi V.E is m K σ→c.J V.A cN qb (isTrue (.BoolOp .And es p) V.env whole) σ s K:=by
 induction is with
 |nil=>rintro _ p rfl m σ s K O w;exact isTrue_and_nil (bN s.toks O.G rfl w)
 |cons i is ih=>
  rintro _ p ⟨e,r,rfl,a,b⟩ m σ s K O w
  refine isTrue_and (dz O (a.st O w) λ t b' σ₁ s₁ q rv O1 S1 T1=>?_);obtain rfl:t=b':=rv;cases t with
  |true=>exact J.shift S1 T1 (ih p b O1 q)
  |false=>exact (bN (R:=qb) s₁.toks O1.G rfl q:c.Res cN qb σ₁ s₁ K false _).shift S1 T1
theorem U9 {whole:Sem Value}{is:List IE}:∀ {es:List Expr} (p:Pos),qo V is es→∀ {m σ s K},Ok V m σ s→Jt V.E is m K σ→c.J V.A cN qb (isTrue (.BoolOp .Or es p) V.env whole) σ s K:=by
 induction is with
 |nil=>rintro _ p rfl m σ s K O w;exact isTrue_or_nil (bN s.toks O.G rfl w)
 |cons i is ih=>
  rintro _ p ⟨e,r,rfl,a,b⟩ m σ s K O w
  refine isTrue_or (dz O (a.st O w) λ t b' σ₁ s₁ q rv O1 S1 T1=>?_);obtain rfl:t=b':=rv;cases t with
  |false=>exact J.shift S1 T1 (ih p b O1 q)
  |true=>exact (bN (R:=qb) s₁.toks O1.G rfl q:c.Res cN qb σ₁ s₁ K true _).shift S1 T1
end
section
variable {c:Cx}{σ σ₀:bH}{h h' h₀:Heap}{it:Addr}{X:Addr→Prop}
abbrev Ob (h:Heap)(it:Addr):Prop:=∃ o,h.get? it=some o∧¬ d4 o
theorem dg.quiet (G:c.good σ h)(q:Heap.ExtBut it h h')(hn:σ it=none)(hH:c.H.get? it=none)(ht:Ob h it):c.good σ h':=by
 obtain⟨oi,hoi,hot⟩:=ht;refine⟨λ b o e=>q b o (λ z=>cz hH (z▸e)) (G.base b o e),λ b ob e=>⟨(G.objs b ob e).1,(G.objs b ob e).2.mono λ d o z hc=>q d o (λ y=>?_) z⟩⟩;subst y;exact hc.elim (λ p=>cz hn (p▸e)) λ p=>hot (aA (z.symm.trans hoi)▸p)
theorem dW (q:Heap.ExtBut it h h')(ht:Ob h it):cP h h':=λ a items k e=>q a _ (λ z=>by
 subst z;obtain⟨oi,hoi,hot⟩:=ht;exact hot (aA (e.symm.trans hoi)▸⟨rfl,items,k,rfl⟩)) e
theorem cq.quiet (S:cq X σ₀ h₀ σ h)(q:Heap.ExtBut it h h')(hf:h₀.get? it=none):cq X σ₀ h₀ σ h':=by
 refine⟨λ b o e hb hx=>q b o (λ z=>cz hf (z▸e)) (S.keep b o e hb hx),S.fresh,λ b e=>?_⟩
 by_cases z:b=it
 ·exact z▸hf
 ·cases y:h.get? b with
  |none=>exact S.alive b y
  |some o=>exact (cz e (q b o z y)).elim
theorem FP {κ:Type}[DecidableEq κ]{knd:PySem.KeyKind c.prog c.w κ}{d:Addr}{kvs:List (κ×Value)}(x:h.DictOf knd d kvs):Ob h d:=by
 obtain⟨o,es,ep,ho,hc,hd,_⟩:=x;exact⟨o,ho,dt hd⟩
end
noncomputable abbrev sv:Obj:={ cls:=.type "dict",data:=.dict #[] }
section
variable {c:Cx}{V:Ev c}{m:bB}{σ σ₁:bH}{s s₁:Shared}{Q:bI}
structure Pl (c:Cx)(σ:bH)(s:Shared)(σ₁:bH)(s₁:Shared):Prop where
 n:σ₁ s.heap.objs.size=none
 d:∀ {κ:Type} [DecidableEq κ] (knd:PySem.KeyKind c.prog c.w κ),s₁.heap.DictOf knd s.heap.objs.size []
 ob:Ob s₁.heap s.heap.objs.size
 S:cq cN σ s.heap σ₁ s₁.heap
 T:gw s s₁
theorem FX (O:Ok V m σ s):Ok V m σ { s with heap:=s.heap.push sv }:=O.step (s₁:={ s with heap:=s.heap.push sv }) (O.G.ext (.push _)) (.ext (.push _))
theorem Nv (O:Ok V m σ s)(O1:Ok V m σ₁ s₁)(S:cq cN σ (s.heap.push sv) σ₁ s₁.heap)(T:gw { s with heap:=s.heap.push sv } s₁):Pl c σ s σ₁ s₁:=by
 have hn:=O.G.fresh (cu s.heap);have h0:(s.heap.push sv).get? s.heap.objs.size=some sv:=Heap.get?_push_size _ rfl;have h1:=S.keep _ _ h0 hn id;refine⟨S.fresh _ (jq h0) hn,λ knd=>⟨_,#[],0,h1,⟨rfl,rfl,rfl⟩,rfl,λ ω he=>by simp at he,Pairs.nil,List.nodup_nil⟩,⟨_,h1,dt rfl⟩,(cq.ext (.push _)).trans S,gw.trans ⟨_,s.toks,rfl⟩ T⟩
theorem tR {ob:bO}{h':Heap}(O:Ok V m σ s)(O1:Ok V m σ₁ s₁)(D:Pl c σ s σ₁ s₁)(sb:Heap.SameBut s.heap.objs.size s₁.heap h')(tk:Nat)(hob:de c.prog c.w h' s.heap.objs.size ob)(q:dq ob Q σ₁):c.Res cN bD σ s Q (.ref s.heap.objs.size) { s₁ with heap:=h',toks:=tk }:=
 have hf:=cu s.heap
 xr (s:={ s₁ with heap:=h',toks:=tk }) (O1.G.quiet sb.extBut D.n (O.G.freshH hf) D.ob) (D.S.quiet sb.extBut hf) (D.T.trans ⟨h',tk,rfl⟩) D.n (O.G.freshH hf) hf hob q
theorem Qc {a b:IE}{x y:Expr}{p:Pos}(i1:SE V a x)(i2:SE V b y):SE V (.dI1 a b) (.Dict [some x] [y] p):=λ {m σ s Q} O w=>by
 have O0:=FX O;refine wpAny_Dict_walk (knd:=intKind c.prog c.w) rfl rfl (by simp) (by simp) (pairTrees_cons_walk (dz O0 (i1 O0 w) λ u ub σ₁ s₁ q r O1 S1 T1=>dz O1 (i2 O1 q) λ v vb σ₂ s₂ q2 r2 O2 S2 T2=>pairTrees_nil_walk ?_));obtain⟨i,rfl,q2⟩:=j4 (show nM (λ i=>dq (.dI [(i,vb)]) Q) ub σ₂ from q2);obtain⟨t,rfl⟩:=r;have D:=Nv O O2 (S1.trans S2) (T1.trans T2);refine⟨[(i,v)],⟨kI c i t,rfl,trivial⟩,D.d _,λ h' hD' sb=>tR (ob:=.dI [(i,vb)]) O O2 D sb _ ⟨_,hD',.cons (r2.up (dW sb.extBut D.ob)) rfl,show 1≤cX by decide⟩ q2⟩
def pL (h:Heap):List Sx→List (Value×Value)→List AV→Prop
 |[],ps,as=>ps=[]∧as=[]
 |x::r,ps,as=>∃ t v ps' a as',ps=(.str (sx x) t,v)::ps'∧as=a::as'∧bD h v a∧pL h r ps' as'
theorem wm {p:Pos}{pt:PT}{ks:List Sx}:∀ (i:Nat) {es:List IE} {ys:List Expr} {σ:bH} {s:Shared} {Q:List AV→SP},qo V es ys→ks.length=es.length→Ok V m σ s→yX V.E es m Q σ→
  wpAny c.M V.A (evalPairs (pairTrees (KE pt ks i) ys V.env p)) (λ ps s'=>∃ as σ',Q as σ'∧pL s'.heap ks ps as∧Ok V m σ' s'∧cq cN σ s.heap σ' s'.heap∧gw s s') gy s:=by
 induction ks with
 |nil=>
  intro i es ys σ s Q h hl O w;obtain rfl:es=[]:=List.eq_nil_of_length_eq_zero hl.symm;obtain rfl:ys=[]:=h;exact pairTrees_nil_walk ⟨[],σ,w,⟨rfl,rfl⟩,O,.refl,.refl s⟩
 |cons x r ih=>
  intro i es ys σ s Q h hl O w;rcases es with _|⟨e,es⟩
  ·cases hl
  obtain⟨y,q,rfl,a,b⟩:=h;refine pairTrees_cons_walk (wpAny_Constant_str ?_);have O0:Ok V m σ { s with toks:=s.toks+1 }:=⟨O.F,O.G⟩;refine dz O0 (a.se O0 w) λ v vb σ₁ s₁ q1 r1 O1 S1 T1=>?_;refine wpAny_mono (ih (i+1) b (Nat.succ.inj hl) O1 q1) (λ ps s₂ h₂=>?_) λ ω ω z=>z;obtain⟨as,σ₂,q2,pa,O2,S2,T2⟩:=h₂;exact⟨vb::as,σ₂,q2,⟨_,v,ps,vb,as,rfl,rfl,r1.up (S2.tl O1.G),pa⟩,O2,S1.trans S2,gw.trans ⟨s.heap,s.toks+1,rfl⟩ (T1.trans T2)⟩
theorem wI {κ:Type}[DecidableEq κ]{more:List (κ×Value)}:∀ {acc:List (κ×Value)},((acc++more).map (·.1)).Nodup→PySem.merged acc more=acc++more:=by
 induction more with
 |nil=>exact λ ω=>(aq _).symm
 |cons p r ih=>
  intro acc h;have hs:stored acc p.1 p.2=acc++[p]:=by
   unfold stored;rw[aK];intro hm;obtain⟨kv,hkv,he⟩:=List.any_eq_true.mp hm;rw[aN,List.nodup_append]at h;exact h.2.2 kv.1 (bk hkv) p.1 (af ..) (bg he)
  have e:acc++p::r=(acc++[p])++r:=(ao acc [p] r).symm;show PySem.merged (stored acc p.1 p.2) r=_;rw[hs,ih (e▸h),e]
structure IK (c:Cx)(h:Heap)(ks:List Sx)(ps:List (Value×Value))(as:List AV)(cs:List (Str×Value)):Prop where
 c:Carries (PySem.strKind c.prog c.w) ps cs
 r:d9 h cs ((ks.zip as).map rT)
 k:cs.map (·.1)=ks.map sx
 l:as.length=ks.length
theorem zr {h:Heap}{ks:List Sx}:∀ {ps:List (Value×Value)} {as:List AV},pL h ks ps as→∃ cs,IK c h ks ps as cs:=by
 induction ks with
 |nil=>rintro ps as ⟨rfl,rfl⟩;exact⟨[],trivial,rfl,rfl,rfl⟩
 |cons x r ih=>
  rintro ps as ⟨t,v,ps,a,as,rfl,rfl,b,p⟩
  obtain⟨cs,R⟩:=ih p;exact⟨(sx x,v)::cs,⟨kS c _ t,rfl,R.c⟩,.cons b R.r,ae (_::·) R.k,ae (·+1) R.l⟩
theorem CP {l:List Sx}:l.Nodup→(l.map sx).Nodup:=by
 induction l with
 |nil=>exact λ ω=>.nil
 |cons x r ih=>
  intro h;have h':=List.nodup_cons.mp h;refine List.nodup_cons.mpr ⟨λ hm=>?_,ih h'.2⟩;obtain⟨y,hy,e⟩:=be hm;exact h'.1 (jz e▸hy)
theorem DA {pt:PT}(ks:List Sx):∀ i,(KE pt ks i).length=ks.length∧(KE pt ks i).all (·.isSome)=true:=by
 induction ks with
 |nil=>exact λ ω=>⟨rfl,rfl⟩
 |cons x r ih=>exact λ i=>⟨ae (·+1) (ih (i+1)).1,(ih (i+1)).2⟩
theorem TG {ks:List Sx}{es:List IE}{ys:List Expr}{pt:PT}{p:Pos}(ih:qo V es ys)(hy:ys.length=es.length)(h:(decide (ks.length=es.length)&&decide (0<ks.length)&&decide (ks.length<10)&&decide ks.Nodup)=true):SE V (.dS ks es) (.Dict (KE pt ks 0) ys p):=λ {m σ s Q} O w=>by
 have O0:=FX O;have h1:ks.length=es.length:=bg (bz (bz (bz h)));have h2:0<ks.length:=bg (bA (bz (bz h)));have h3:ks.length<10:=bg (bA (bz h));have K:=DA (pt:=pt) ks 0;refine wpAny_Dict_walk (knd:=PySem.strKind c.prog c.w) K.2 (K.1.trans (h1.trans hy.symm)) (λ q=>?_) ?_ ?_
 ·exact Nat.ne_of_gt h2 (K.1.symm.trans (ae List.length q))
 ·have:=K.1;omega
 refine wpAny_mono (wm (s:={ s with heap:=s.heap.push sv }) (p:=p) 0 ih h1 O0 w) (λ ps s₂ h₂=>?_) λ ω ω z=>z;obtain⟨as,σ₂,q2,pa,O2,S,T⟩:=h₂;obtain⟨cs,R⟩:=zr (c:=c) pa;have D:=Nv O O2 S T;refine⟨cs,R.c,D.d _,λ h' hD' sb=>?_⟩;rw[wI (acc:=[]) (show (cs.map (·.1)).Nodup from R.k▸CP (bg (bA h)))]at hD';refine tR (ob:=.dS (ks.zip as)) O O2 D sb _ ⟨_,hD',R.r.up (dW sb.extBut D.ob),?_⟩ q2;rw[List.length_zip];exact aa (Nat.min_le_left ..) (aW (aw h3 (by decide)))
end
theorem oQ {α:Type}{us ws:List α}{i:Nat}{u:α}(h:us.drop i=u::ws):us[i]? =some u:=by rw[←List.head?_drop,h];rfl
theorem drop_nil {α:Type}{us:List α}{i:Nat}(h:us.drop i=[]):us[i]? =none:=by rw[←List.head?_drop,h];rfl
theorem oW {α:Type}{us ws:List α}{i:Nat}{u:α}(h:us.drop i=u::ws):us.drop (i+1)=ws:=by rw[←List.tail_drop,h];rfl
theorem uK {α:Type}{us ws:List α}{i:Nat}{u:α}(h:us.drop i=u::ws):i<us.length:=(az (oQ h)).1
structure mW (c:Cx)(A:Around)(it:Addr)(us:List AV)(IA:Nat→Heap→Prop)(W:bH→Prop):Prop where
 his:∀ i h h',IA i h→(∀ o,h.get? it=some o→h'.get? it=some o)→cP h h'→IA i h'
 next:∀ i u σ s,us[i]? =some u→W σ→c.good σ s.heap→IA i s.heap→∀ (K:Option Value→Shared→Prop),(∀ v h' tk,bD s.heap v u→IA (i+1) h'→Heap.ExtBut it s.heap h'→K (some v) { s with heap:=h',toks:=tk })→wpAny c.M A (pyNext (.ref it)) K gy s
 stop:∀ i σ s,us[i]? =none→W σ→c.good σ s.heap→IA i s.heap→∀ (K:Option Value→Shared→Prop),(∀ h' tk,Heap.ExtBut it s.heap h'→K none { s with heap:=h',toks:=tk })→wpAny c.M A (pyNext (.ref it)) K gy s
theorem i9 {h:Heap}{it:Addr}{o:Obj}{vs:Array Value}(e:h.get? it=some o)(hd:o.data=.fields vs):Ob h it:=⟨o,e,λ⟨_,items,k,z⟩=>nomatch hd.symm.trans z⟩
section
variable {c:Cx}{A:Around}
theorem yt {ws:List Value}{i:Nat}{v:Option Value}(h:ws[i]? =v):ws.toArray[i]? =v:=List.getElem?_toArray.trans h
theorem kD {a it:Addr}{us:List AV}(hd:A.handled=none):mW c A it us (λ i h=>h.IsListIter it a i) (λ σ=>σ a=some (.list us))where
 his:=λ i h h' x hk tl=>x.at hk
 next:=λ i u σ s hu e G hIA K hK=>by
  obtain⟨ws,n,L⟩:=G.list e;obtain⟨v,hv,rv⟩:=L.r.get hu;exact wpAny_pyNext_list_item hIA L.at_.isList (yt hv) λ h' hit sb=>hK v h' s.toks rv hit sb.extBut
 stop:=λ i σ s hu e G hIA K hK=>by
  obtain⟨ws,n,L⟩:=G.list e;exact wpAny_pyNext_list_end hd hIA L.at_.isList (yt (L.r.nget hu)) λ h' q=>hK h' s.toks q
theorem uM {h:Heap}{it a:Addr}{i:Nat}(x:h.IsListIter it a i):Ob h it:=by obtain⟨o,ho,_,hd⟩:=x;exact i9 ho hd
def EM (t it:Addr)(us:List AV)(i:Nat)(h:Heap):Prop:=h.IsTupleIter it t i∧t≠it∧∃ ws n,h.get? t=some (fN ws n)∧bY h ws.toList us
theorem BU {h:Heap}{it a:Addr}{us:List AV}{i:Nat}(x:EM a it us i h):Ob h it:=by obtain⟨⟨o,ho,_,hd⟩,_⟩:=x;exact i9 ho hd
theorem AC {t it:Addr}{us:List AV}(hd:A.handled=none):mW c A it us (EM t it us) (λ ω=>True)where
 his:=λ i h h' x hk tl=>by
  obtain⟨x1,hne,ws,n,x2,x3⟩:=x;exact⟨x1.at hk,hne,ws,n,tl _ _ _ x2,x3.up tl⟩
 next:=λ i u σ s hu ω G hIA K hK=>by
  have hob:=BU hIA;obtain⟨x1,hne,ws,n,x2,x3⟩:=hIA;obtain⟨v,hv,rv⟩:=x3.get hu;exact wpAny_pyNext_tuple_item x1 ⟨_,x2,rfl,_,rfl⟩ (Array.getElem?_toList.symm.trans hv) λ h' hit sb=>hK v h' s.toks rv ⟨hit,hne,ws,n,(sb.2 t hne).trans x2,x3.up (dW sb.extBut hob)⟩ sb.extBut
 stop:=λ i σ s hu ω G hIA K hK=>by
  obtain⟨x1,hne,ws,n,x2,x3⟩:=hIA;exact wpAny_pyNext_tuple_end hd x1 ⟨_,x2,rfl,_,rfl⟩ (Array.getElem?_toList.symm.trans (x3.nget hu)) λ h' q=>hK h' s.toks q
theorem o7 {n i:Nat}{u:AV}(h:(jN n)[i]? =some u):i<n∧u=.int (i:Nat):=by
 have hl:=io n▸(az h).1;exact⟨hl,aA (h.symm.trans (xC hl))⟩
theorem Al {n i:Nat}(h:(jN n)[i]? =none):n≤i:=io n▸List.getElem?_eq_none_iff.mp h
theorem tQ {it:Addr}{n:Nat}(hd:A.handled=none):mW c A it (jN n) (λ i h=>IsRangeIter h it i ((n:Int) - i) 1) (λ ω=>True)where
 his:=λ i h h' x hk tl=>hk _ x
 next:=λ i u σ s hu ω G hIA K hK=>by
  obtain⟨g1,rfl⟩:=o7 hu;refine wpAny_pyNext_range_item hIA (by lia) λ h' hit sb=>hK _ h' (s.toks+1) (.mkI _ _) ?_ sb.extBut;have e1:((i+1:Nat):Int)=(i:Int)+1:=rfl;have e2:(n:Int) - ((i+1:Nat):Int)=(n:Int) - i - 1:=by lia
  show IsRangeIter h' _ ((i+1:Nat):Int) ((n:Int) - ((i+1:Nat):Int)) 1;rw[e2,e1];exact hit
 stop:=λ i σ s hu ω G hIA K hK=>wpAny_pyNext_range_end hd hIA (by have:=Al hu;lia) λ h' q=>hK h' s.toks q
theorem Gf {h:Heap}{it:Addr}{x y z:Int}(e:IsRangeIter h it x y z):Ob h it:=i9 e rfl
theorem CW {a it:Addr}{ob:Obj}{kvs:List (Int×AV)}{n ep:Nat}(hd:A.handled=none)(hk:∀ (h:Heap) (cs:List (Int×Value)),h.get? a=some ob→ob.IsDictOf (intKind c.prog c.w) cs→h.DictAt (intKind c.prog c.w) a cs ep):mW c A it (kvs.map λ p=>.int p.1) (λ i h=>h.IsKeyIter it a i kvs.length ep) (λ σ=>σ a=some (.dF ob kvs))where
 his:=λ i h h' x hk tl=>by obtain⟨o,ho,w⟩:=x;exact⟨o,hk o ho,w⟩
 next:=λ i u σ s hu e G hIA K hK=>by
  obtain⟨ho,cs,D,r,_⟩:=(G.objs _ _ e).2;rw[aZ,Option.map_eq_some_iff]at hu;obtain⟨p,hp,rfl⟩:=hu;have h1:(cs.map (·.1))[i]? =some p.1:=by rw[r.keys,aZ,hp];rfl
  rw[aZ,Option.map_eq_some_iff]at h1;obtain⟨kv,hc,hkv⟩:=h1;refine wpAny_pyNext_dict_item (k:=kv.1) (v:=kv.2) (r.length▸hIA) (hk _ _ ho D) hc λ key h' hkey hit sb=>?_;obtain⟨t,rfl⟩:=Value.isInt_shape hkey;exact hK _ h' s.toks (hkv▸.mkI _ t) (r.length▸hit) sb.extBut
 stop:=λ i σ s hu e G hIA K hK=>by
  obtain⟨ho,cs,D,r,_⟩:=(G.objs _ _ e).2;have hc:cs[i]? =none:=by
   rw[List.getElem?_eq_none_iff]at hu⊢;rw[ak]at hu;exact r.length▸hu
  exact wpAny_pyNext_dict_end hd (r.length▸hIA) (hk _ _ ho D) hc λ h' q=>hK h' s.toks q
theorem G9 {h:Heap}{it a:Addr}{i n ep:Nat}(x:h.IsKeyIter it a i n ep):Ob h it:=by obtain⟨o,ho,_,hd⟩:=x;exact i9 ho hd
end
theorem iG {c:Cx}{A:Around}{s:Shared}{E:Value→Shared→Prop}{α:Type}{t:Sem α}{K:α→Shared→Prop}(h:wpAny c.M A t K gy s):wpAny c.M A t K E s:=wpAny_mono h (λ ω ω z=>z) λ ω ω z=>z.elim
section
variable {c:Cx}{V:Ev c}{X:Addr→Prop}{m m':bB}{σ σ₀ σ':bH}{s s₀ s':Shared}{h h':Heap}{L a it:Addr}
structure rS (c:Cx)(s₀:Shared)(σ:bH)(h:Heap)(L a:Addr):Prop where
 f:s₀.heap.get? a=none
 H:c.H.get? a=none
 n:σ a=none
 ob:Ob h a
 l:a≠L
theorem rS.step (U:rS c s₀ σ h L a)(S:cq (·=L) σ h σ' h'):rS c s₀ σ' h' L a:=by
 obtain⟨o,ho,hot⟩:=U.ob;exact⟨U.f,U.H,S.fresh a (jq ho) U.n,⟨o,S.keep a o ho U.n U.l,hot⟩,U.l⟩
theorem rS.quiet (U:rS c s₀ σ h L a)(q:Heap.ExtBut it h h')(hne:a≠it):rS c s₀ σ h' L a:=by
 obtain⟨o,ho,hot⟩:=U.ob;exact⟨U.f,U.H,U.n,⟨o,q a o hne ho,hot⟩,U.l⟩
theorem fU.quiet {ns:Ns}(F:fU c ns L m σ h)(q:Heap.ExtBut it h h')(hl:it≠L)(ht:Ob h it):fU c ns L m σ h':=⟨F.ns.ext (λ o e=>q _ o (Ne.symm hl) e) (dW q ht),F.own,F.new⟩
structure Rn (V:Ev c)(X:Addr→Prop)(σ₀:bH)(s₀:Shared)(m:bB)(σ:bH)(s:Shared):Prop where
 O:Ok V m σ s
 S:cq X σ₀ s₀.heap σ s.heap
 T:gw s₀ s
theorem Rn.quiet (R:Rn V X σ₀ s₀ m σ s)(U:rS c s₀ σ s.heap V.L it)(q:Heap.ExtBut it s.heap h')(tk:Nat):Rn V X σ₀ s₀ m σ { s with heap:=h',toks:=tk }:=
 ⟨⟨R.O.F.quiet q U.l U.ob,R.O.G.quiet q U.n U.H U.ob⟩,R.S.quiet q U.f,R.T.trans ⟨h',tk,rfl⟩⟩
theorem x6 (O:Ok V m σ s)(S:cq (·=V.L) σ s.heap σ' h'):cP s.heap h':=S.tupLe O.G λ a o e z=>by
 obtain⟨o',ho,hot⟩:=O.F.at;exact aA (ho.symm.trans (e▸z))▸hot
abbrev Ab (V:Ev c)(X:Addr→Prop)(σ₀:bH)(s₀:Shared):Prop:=∀ {σ h σ' h'},cq X σ₀ s₀.heap σ h→cq (·=V.L) σ h σ' h'→cq X σ₀ s₀.heap σ' h'
theorem Vy:Ab V (·=V.L) σ₀ s₀:=λ S S'=>S.trans S'
theorem po (hf:s₀.heap.get? V.L=none):Ab V X σ₀ s₀:=λ {σ h σ' h'} S S'=>
 ⟨λ b o e hb hx=>S'.keep b o (S.keep b o e hb hx) (S.fresh b (jq e) hb) λ q:b=V.L=>cz hf (q▸e),λ b e hn=>S'.fresh b (λ z=>e (S.alive b z)) (S.fresh b e hn),λ b e=>S.alive b (S'.alive b e)⟩
structure Lp (c:Cx)(L:Addr)(s₀:Shared)(it:Addr)(IA:Nat→Heap→Prop)(i:Nat)(σ:bH)(h:Heap):Prop where
 o:rS c s₀ σ h L it
 a:IA i h
theorem Lp.step {us:List AV}{IA:Nat→Heap→Prop}{W:bH→Prop}{i:Nat}{A:Around}(I:mW c A it us IA W)(U:Lp c L s₀ it IA i σ h)(S:cq (·=L) σ h σ' h')(tl:cP h h'):Lp c L s₀ it IA i σ' h':=
 ⟨U.o.step S,I.his i h h' U.a (λ o e=>S.keep it o e U.o.n U.o.l) tl⟩
inductive zY (V:Ev c)(X:Addr→Prop)(σ₀:bH)(s₀:Shared)(m:bB)(σ:bH)(it:Addr)(us:List AV)(IA:Nat→Heap→Prop)(i:Nat)(h:Heap)(s':Shared):Option Value→Prop
 |stop:us.drop i=[]→Rn V X σ₀ s₀ m σ s'→Heap.ExtBut it h s'.heap→zY V X σ₀ s₀ m σ it us IA i h s' none
 |item {v:Value} {u:AV} {ws:List AV}:us.drop i=u::ws→bD s'.heap v u→Rn V X σ₀ s₀ m σ s'→Lp c V.L s₀ it IA (i+1) σ s'.heap→Heap.ExtBut it h s'.heap→cP h s'.heap→zY V X σ₀ s₀ m σ it us IA i h s' (some v)
theorem nA {us:List AV}{IA:Nat→Heap→Prop}{W:bH→Prop}{i:Nat}(I:mW c V.A it us IA W)(R:Rn V X σ₀ s₀ m σ s)(U:Lp c V.L s₀ it IA i σ s.heap)(hob:∀ h,IA (i+1) h→Ob h it)(hW:W σ):
  wpAny c.M V.A (pyNext (.ref it)) (λ r s'=>zY V X σ₀ s₀ m σ it us IA i s.heap s' r) gy s:=by
 cases e:us.drop i with
 |nil=>exact I.stop i σ s (drop_nil e) hW R.O.G U.a _ λ h' tk q=>.stop e (R.quiet U.o q tk) q
 |cons u ws=>
  refine I.next i u σ s (oQ e) hW R.O.G U.a _ λ v h' tk rv ia q=>?_
  have tl:=dW q U.o.ob;exact .item e (rv.up tl) (R.quiet U.o q tk) ⟨⟨U.o.f,U.o.H,U.o.n,hob _ ia,U.o.l⟩,ia⟩ q tl
theorem nL {us:List AV}{IA:Nat→Heap→Prop}{W:bH→Prop}{i x:Nat}{p:Pos}{v:Value}{u:AV}{K:Unit→Shared→Prop}{E:Value→Shared→Prop}(I:mW c V.A it us IA W)(ab:Ab V X σ₀ s₀)(hx:jG V.ns x .local=true)(R:Rn V X σ₀ s₀ m σ s)(U:Lp c V.L s₀ it IA i σ s.heap)(rv:bD s.heap v u)
  (k:∀ s',Rn V X σ₀ s₀ (m.set x u) σ s'→Lp c V.L s₀ it IA i σ s'.heap→cq (·=V.L) σ s.heap σ s'.heap→cP s.heap s'.heap→K () s'):wpAny c.M V.A (assign (.Name (cL V.ns x) p) V.env v) K E s:=
 iG (wpAny_assign_Name (ta R.O hx rv λ s' O S T=>k s' ⟨O,ab R.S S,R.T.trans T⟩ (U.step I S (x6 R.O S)) S (x6 R.O S)))
end
noncomputable def kT (cells:List (Str×Addr)):List (Str×NameKind)→List (Str×Addr)→List (Str×Addr)
 |[],acc=>acc
 |p::r,acc=>kT cells r (if p.2==.free then (p.1,(cells.lookup p.1).getD 0)::acc else acc)
theorem vz (env:Env)(l:List (Str×NameKind)):∀ (acc:List (Str×Addr)),(∀ p∈l,p.2=.free→(env.cells.lookup p.1).isSome=true)→
  (forIn l acc (λ (x:Str×NameKind) (r:List (Str×Addr))=>(match x with
   |(name,kind)=>if (kind==NameKind.free)=true then do let a←cellOf env name;pure (ForInStep.yield ((name,a)::r))else pure (ForInStep.yield r):Sem (ForInStep (List (Str×Addr))))))=pure (kT env.cells l acc):=by
 induction l with
 |nil=>exact λ ω ω=>rfl
 |cons p r ih=>
  intro acc h;rw[List.forIn_cons];have ih:=λ acc=>ih acc λ p hp=>h p (ag _ hp);obtain⟨n,k⟩:=p;unfold kT;cases hk:(k==NameKind.free)with
  |true=>
   obtain⟨a,ha⟩:=Option.isSome_iff_exists.mp (h (n,k) (af ..) (beq_iff_eq.mp hk));have hc:cellOf env n=pure a:=by unfold cellOf;rw[ha]
   simp only[hk,if_true,hc,pure_bind,ha,Option.getD_some];exact ih _
  |false=>
   simp only[hk,Bool.false_eq_true,if_false,pure_bind];exact ih _
theorem lc {scope:Scope}{env:Env}(h:∀ p∈scope.names,p.2=.free→(env.cells.lookup p.1).isSome=true):closureFor scope env=pure (kT env.cells scope.names []):=by
 have e:=vz env scope.names [] h;refine Eq.trans (b:=(forIn scope.names ([]:List (Str×Addr)) (λ (x:Str×NameKind) (r:List (Str×Addr))=>(match x with
   |(name,kind)=>if (kind==NameKind.free)=true then do let a←cellOf env name;pure (ForInStep.yield ((name,a)::r))else pure (ForInStep.yield r):Sem (ForInStep (List (Str×Addr)))))>>=λ r=>pure r)) rfl ?_
 rw[e];rfl
theorem lg {β:Type}{x:Str}{p:Str×β}{r:List (Str×β)}(h:¬ x=p.1):List.lookup x (p::r)=r.lookup x:=by rw[List.lookup_cons,beq_eq_false_iff_ne.mpr h]
theorem gC {β:Type}{x:Str}{p:Str×β}{r:List (Str×β)}(h:x=p.1):List.lookup x (p::r)=some p.2:=by rw[List.lookup_cons,beq_iff_eq.mpr h]
theorem oj {cells:List (Str×Addr)}{x:Str}{a:Addr}(ha:cells.lookup x=some a)(l:List (Str×NameKind)):∀ (acc:List (Str×Addr)),(l.lookup x=some .free∨acc.lookup x=some a)→(acc.lookup x=none∨acc.lookup x=some a)→(kT cells l acc).lookup x=some a:=by
 induction l with
 |nil=>exact λ acc h ω=>h.elim (λ h=>nomatch h) id
 |cons p r ih=>
  intro acc h h2;unfold kT
  by_cases hk:p.2=.free
  ·rw[aL (beq_iff_eq.mpr hk)]
   by_cases hx:x=p.1
   ·have e:List.lookup x ((p.1,(cells.lookup p.1).getD 0)::acc)=some a:=(gC (p:=(p.1,(cells.lookup p.1).getD 0)) hx).trans (by rw[←hx,ha];rfl);exact ih _ (.inr e) (.inr e)
   ·have e:List.lookup x ((p.1,(cells.lookup p.1).getD 0)::acc)=acc.lookup x:=lg (p:=(p.1,(cells.lookup p.1).getD 0)) hx;exact ih _ (h.imp (λ h=>(lg hx).symm.trans h) λ h=>e.trans h) (e.symm▸h2)
  ·rw[aK λ q=>hk (beq_iff_eq.mp q)];refine ih _ (h.imp (λ h=>?_) id) h2
   by_cases hx:x=p.1
   ·exact absurd (aA ((gC hx).symm.trans h)) hk
   ·exact (lg hx).symm.trans h
theorem ku {ns:Ns}{x:Str}{l:Ns}(hc:∀ p∈l,p.2≠.cell)(h:(cT ns l).lookup x=some .cell∨(cT ns l).lookup x=some .free):l.lookup x=some .free:=by
 induction l with
 |nil=>exact h.elim (λ h=>nomatch h) λ h=>nomatch h
 |cons p r ih=>
  have hk:=hc p (af ..)
  by_cases hx:x=p.1
  ·rw[gC hx];have e:(cT ns (p::r)).lookup x=some (if (p.2==.free&&ns.lookup p.1==some .cell)then .cell else p.2):=gC (p:=(p.1,_)) hx;rw[e]at h
   by_cases q:(p.2==.free&&ns.lookup p.1==some .cell)=true
   ·exact ae some (beq_iff_eq.mp (bz q))
   ·rw[aK q]at h;exact h.elim (λ h=>absurd (aA h) hk) id
  ·rw[lg hx];have e:(cT ns (p::r)).lookup x=(cT ns r).lookup x:=lg (p:=(p.1,_)) hx;exact ih (λ p hp=>hc p (ag _ hp)) (e▸h)
theorem Dd (ns l:Ns):(cT ns l).map (·.1)=l.map (·.1):=List.map_map ..
section
variable {c:Cx}{V:Ev c}{scope:Scope}
noncomputable def Ev.sub (V:Ev c)(env:Env)(ns:Ns)(y:By c env V.cs ns):Ev c:=⟨V.k,V.n,V.A,env,V.cs,ns,V.df,V.ds,V.dx,V.rm,y⟩
theorem qu:(relabel scope V.env).names=cT V.ns scope.names:=by
 unfold relabel cT Env.kindOf;rw[V.y.kind,V.y.names]
 simp
 intro a b _
 split<;>rfl
structure wC (V:Ev c)(scope:Scope):Prop where
 cl:closureFor scope V.env=pure (kT V.env.cells scope.names [])
 y:∀ C,By c (compEnvC scope (kT V.env.cells scope.names []) C V.env) V.cs (cT V.ns scope.names)
 kind:scope.kind=.function
 nc:∀ y∈scope.names,y.2≠.cell
 lo:∀ y∈scope.names,y.2=.local→scope.names.lookup y.1=some .local
theorem mM {l:Ns}(h:vJ l=true):(l.map (·.1)).Nodup:=bg (bz h)
theorem o5 {l:Ns}(h:vJ l=true):∀ p∈l,(p.1==("__debug__":Str))=false∧(p.1==("__classdict__":Str))=false:=λ p hp=>
 have e:=List.all_eq_true.mp (bA h) p hp
 ⟨Bool.not_eq_true' _▸bz e,Bool.not_eq_true' _▸bA e⟩
theorem mV (h:oK V.ns scope=true):wC V scope:=by
 have hn:=bA (bz h);have ha:=List.all_eq_true.mp (bA h);have hc:∀ y∈scope.names,y.2≠.cell:=λ y hy=>bne_iff_ne.mp (bz (ha y hy));have hf:∀ y∈scope.names,y.2=.free→V.ns.lookup y.1=some .cell∨V.ns.lookup y.1=some .free:=λ y hy e=>by
  have:=bA (ha y hy);rw[Bool.or_eq_true,Bool.or_eq_true,e]at this;rcases this with (h|h)|h
  ·cases h
  ·exact .inl (beq_iff_eq.mp h)
  ·exact .inr (beq_iff_eq.mp h)
 have hsome:∀ y∈scope.names,y.2=.free→∃ a,V.env.cells.lookup y.1=some a:=λ y hy e=>V.y.has y.1 (hf y hy e);have hk:scope.kind=.function:=beq_iff_eq.mp (bz (bz h));refine⟨lc λ p hp e=>Option.isSome_iff_exists.mpr (hsome p hp e),λ C=>⟨hk,V.y.globals,V.y.builtins,λ x a e hx=>?_,λ x hx=>?_,qu,Eq.mpr (ae List.Nodup (Dd V.ns scope.names)) (mM hn),λ p hp=>?_⟩,hk,hc,λ y hy e=>e▸dG (mM hn) hy⟩
 ·have hm:=PySem.mem_of_lookup (ku hc hx);exact oj (V.y.cells x a e (hf _ hm rfl)) _ _ (.inl (ku hc hx)) (.inl rfl)
 ·have hfree:=ku hc hx;obtain⟨a,ha⟩:=hsome _ (PySem.mem_of_lookup hfree) rfl;exact⟨a,oj ha _ _ (.inl hfree) (.inl rfl)⟩
 ·obtain⟨q,hq,e⟩:=be hp;exact e▸o5 hn q hq
end
theorem kM {it:Expr}{env:Env}(h:jZ it=true)(x:Value):foldedSetIterable it env x=pure x:=by
 cases it<;>first|rfl|cases h
def F9 (D:Addr)(vs:List AV)(h:Heap):Prop:=∃ items cnt,h.get? D=some (dJ items cnt)∧bY h items.toList vs
def Jg (c:Cx)(D:Addr)(kvs:List (Int×AV))(h:Heap):Prop:=∃ ds,h.DictOf (intKind c.prog c.w) D ds∧d9 h ds kvs
theorem F9.up {D:Addr}{vs:List AV}{h h':Heap}(x:F9 D vs h)(k:∀ o,h.get? D=some o→h'.get? D=some o)(tl:cP h h'):F9 D vs h':=by obtain⟨i,n,e,r⟩:=x;exact⟨i,n,k _ e,r.up tl⟩
theorem Jg.up {c:Cx}{D:Addr}{vs:List (Int×AV)}{h h':Heap}(x:Jg c D vs h)(k:∀ o,h.get? D=some o→h'.get? D=some o)(tl:cP h h'):Jg c D vs h':=by obtain⟨ds,e,r⟩:=x;exact⟨ds,e.at k,r.up tl⟩
section
variable {c:Cx}{V:Ev c}{m:bB}{σ σ₀:bH}{s s₀:Shared}{us:List AV}{it D:Addr}{IA:Nat→Heap→Prop}{W:bH→Prop}
theorem Ok.empty (O:Ok V m σ s):Ok V cJ σ s:=by obtain⟨mc,hn,_⟩:=O.F.ns;exact⟨⟨⟨mc,hn,nofun⟩,O.F.own,O.F.new⟩,O.G⟩
theorem Rn.next {σ':bH}{s':Shared}{m':bB}(R:Rn V cN σ₀ s₀ m σ s)(O:Ok V m' σ' s')(S:cq cN σ s.heap σ' s'.heap)(T:gw s s'):Rn V cN σ₀ s₀ m' σ' s':=⟨O,R.S.trans S,R.T.trans T⟩
structure CI {β:Type}(V:Ev c)(σ₀:bH)(s₀:Shared)(us:List AV)(it D:Addr)(IA:Nat→Heap→Prop)(P:β→Heap→Prop)(I:β→List AV→SP)(len:β→Nat→Prop)(j:Nat)(s:Shared)(i:Nat)(ws:List AV)(b:β)(σ:bH):Prop where
 d:us.drop i=ws
 j:j=ws.length
 l:i≤us.length
 z:len b i
 I:I b ws σ
 P:P b s.heap
 R:Rn V cN σ₀ s₀ cJ σ s
 U:Lp c V.L s₀ it IA i σ s.heap
 D:rS c s₀ σ s.heap V.L D
theorem CC {us:List AV}{i:Nat}(h:us.drop i=[])(hl:i≤us.length):i=us.length:=Nat.le_antisymm hl (List.drop_eq_nil_iff.mp h)
theorem Qy {us ws:List AV}{i:Nat}{u:AV}:(u::ws).length=ws.length+1:=rfl
theorem D8 {h:Heap}{w:Value}{items:Array Value}{cnt:Nat}(U:rS c s₀ σ h V.L D)(e:h.get? D=some (dJ items cnt)):Heap.ExtBut D h (h.update D (Obj.mapSeq λ y=>y.push w)):=λ b o hb e=>(Heap.get?_update_other _ _ (Ne.symm hb)).trans e
set_option tactic.hygienic true in
theorem y9 {R:Result→Shared→Prop}{el:IE}{elt iter:Expr}{scope:Scope}{pos p:Pos}(I:List AV→List AV→SP)
  (It:mW c V.A it us IA W) (hx:jG V.ns 1 .local=true) (ih:SE V el elt) (hob:∀ i h,IA i h→Ob h it) (hW:∀ vs ws σ,I vs ws σ→W σ)
  (hbody:∀ u ws vs σ,us.drop vs.length=u::ws→I vs (u::ws) σ→(cW V.E el).1 (cJ.set 1 u) (Dz I vs ws) σ)
  (hlen:us.length<1000) (hL:s₀.heap.get? V.L=none) (hne:it≠D)
  (hfin:∀ vs σ s,I vs [] σ→vs.length=us.length→F9 D vs s.heap→Rn V cN σ₀ s₀ cJ σ s→rS c s₀ σ s.heap V.L D→R (.ok .next) s)
  (h0:I [] us σ) (R0:Rn V cN σ₀ s₀ cJ σ s) (U0:Lp c V.L s₀ it IA 0 σ s.heap) (D0:rS c s₀ σ s.heap V.L D) (P0:F9 D [] s.heap):
  codeAny c.M V.A (.compLoop (.ListComp elt [⟨.Name (cL V.ns 1) p,iter,[],0⟩] scope pos) 0 (.ref it) (.ref D) V.env) R s:=by
 refine codeAny_compLoop_list (λ j s₁=>∃ i ws vs σ₁,CI V σ₀ s₀ us it D IA (F9 D) I (λ vs i=>vs.length=i) j s₁ i ws vs σ₁) ?_ us.length ⟨0,us,[],σ,rfl,rfl,aI _,rfl,h0,P0,R0,U0,D0⟩
 rintro j s₁ ⟨i,ws,vs,σ₁,C⟩
 refine iG (wpAny_mono (nA It C.R C.U (hob _) (hW _ _ _ C.I)) (λ r s₂ N=>?_) λ ω ω z=>z);rcases N with⟨hd,R2,q⟩|⟨hd,rv,R2,U2,q,tl⟩
 ·have e:ws=[]:=C.d.symm.trans hd;exact hfin vs σ₁ s₂ (e▸C.I) (C.z.trans (CC hd C.l)) (C.P.up (λ o e=>q D o (Ne.symm hne) e) (dW q C.U.o.ob)) R2 (C.D.quiet q (Ne.symm hne))
 ·rename_i v u ws';obtain rfl:ws=u::ws':=C.d.symm.trans hd;have D2:=C.D.quiet q (Ne.symm hne);have P2:=C.P.up (λ o e=>q D o (Ne.symm hne) e) tl;refine nL It (po hL) hx R2 U2 rv λ s₃ R3 U3 S3 tl3=>?_;have D3:=D2.step S3;have P3:=P2.up (λ o e=>S3.keep D o e D2.n D2.l) tl3;refine iG (dz R3.O (ih R3.O (hbody u ws' vs σ₁ (C.z▸hd) C.I)) λ w av σ₄ s₄ hI4 rw4 O4 S4 T4=>?_);have tl4:=S4.tl R3.O.G;have D4:=D3.step S4.toL;have U4:=U3.step It S4.toL tl4;obtain⟨items,cnt,e4,r4⟩:=P3.up (λ o e=>S4.keep D o e D3.n id) tl4;have hz:items.size≤sizeLine:=by
   have h1:items.size=vs.length:=Array.length_toList.symm.trans r4.length;rw[h1,C.z,sizeLine_eq];exact aa C.l (aW (aw hlen (by decide)))
  refine iG (call_meets PySem.F.slot_list_append ⟨_,e4,rfl⟩ PySem.F.entry_list_append (PySem.F.args_list_append_2 _ _) (list_append D items cnt w hz) ⟨e4,?_⟩);have q4:Heap.ExtBut D s₄.heap (s₄.heap.update D (Obj.mapSeq λ y=>y.push w)):=D8 D4 e4;have tl5:=dW q4 D4.ob;have e5:=IsL.update (l:=D) e4 (λ y=>y.push w);refine⟨ws'.length,C.j.symm▸bq ws'.length,i+1,ws',vs++[av],σ₄,oW hd,rfl,uK hd,List.length_append.trans (ae (·+1) C.z),hI4,⟨_,_,e5,?_⟩,(R3.next O4.empty S4 T4).quiet D4 q4 s₄.toks,⟨U4.o.quiet q4 hne,It.his _ _ _ U4.a (λ o e=>q4 it o hne e) tl5⟩,⟨D4.f,D4.H,D4.n,⟨_,e5,f7⟩,D4.l⟩⟩;have r5:=(bY.append (.cons rw4 .nil) r4).up tl5;rw[←Array.toList_push]at r5;exact r5
set_option tactic.hygienic true in
theorem yO {R:Result→Shared→Prop}{el:IE}{vx iter:Expr}{scope:Scope}{pos p p':Pos}(I:List (Int×AV)→List AV→SP)
  (It:mW c V.A it us IA W) (hx:jG V.ns 1 .local=true) (ih:SE V el vx) (hob:∀ i h,IA i h→Ob h it) (hW:∀ vs ws σ,I vs ws σ→W σ)
  (hbody:∀ kvs u ws σ,I kvs (u::ws) σ→∃ i,u=.int i∧(cW V.E el).1 (cJ.set 1 u) (Ig I kvs i ws) σ)
  (hlen:us.length<1000) (hL:s₀.heap.get? V.L=none) (hne:it≠D)
  (hfin:∀ vs σ s,I vs [] σ→vs.length≤us.length→Jg c D vs s.heap→Rn V cN σ₀ s₀ cJ σ s→rS c s₀ σ s.heap V.L D→R (.ok .next) s)
  (h0:I [] us σ) (R0:Rn V cN σ₀ s₀ cJ σ s) (U0:Lp c V.L s₀ it IA 0 σ s.heap) (D0:rS c s₀ σ s.heap V.L D) (P0:Jg c D [] s.heap):
  codeAny c.M V.A (.compLoop (.DictComp (.Name (cL V.ns 1) p') vx [⟨.Name (cL V.ns 1) p,iter,[],0⟩] scope pos) 0 (.ref it) (.ref D) V.env) R s:=by
 refine codeAny_compLoop_testsD (λ j s₁=>∃ i ws vs σ₁,CI V σ₀ s₀ us it D IA (Jg c D) I (λ vs i=>vs.length≤i) j s₁ i ws vs σ₁) ?_ us.length ⟨0,us,[],σ,rfl,rfl,aI _,au _,h0,P0,R0,U0,D0⟩
 rintro j s₁ ⟨i,ws,vs,σ₁,C⟩
 refine iG (wpAny_mono (nA It C.R C.U (hob _) (hW _ _ _ C.I)) (λ r s₂ N=>?_) λ ω ω z=>z);rcases N with⟨hd,R2,q⟩|⟨hd,rv,R2,U2,q,tl⟩
 ·have e:ws=[]:=C.d.symm.trans hd;exact hfin vs σ₁ s₂ (e▸C.I) (aa C.z C.l) (C.P.up (λ o e=>q D o (Ne.symm hne) e) (dW q C.U.o.ob)) R2 (C.D.quiet q (Ne.symm hne))
 ·rename_i v u ws';obtain rfl:ws=u::ws':=C.d.symm.trans hd;obtain⟨iu,rfl,hw⟩:=hbody vs u ws' σ₁ C.I;have D2:=C.D.quiet q (Ne.symm hne);have P2:=C.P.up (λ o e=>q D o (Ne.symm hne) e) tl;refine nL It (po hL) hx R2 U2 rv λ s₃ R3 U3 S3 tl3=>?_;have D3:=D2.step S3;have P3:=P2.up (λ o e=>S3.keep D o e D2.n D2.l) tl3;refine wpAny_pure ?_;rw[aL rfl];refine iG (dz R3.O (JW hx (Q:=λ w σ'=>w=.int iu∧σ'=σ₁) R3.O (show AV.int iu=AV.int iu∧σ₁=σ₁ from⟨rfl,rfl⟩)) λ kv kb σ₃ s₃' q3 rk O3 Sk Tk=>?_);obtain⟨rfl,rfl⟩:=q3;obtain⟨t,rfl⟩:=rk;refine iG (dz O3 (ih O3 hw) λ w av σ₄ s₄ hI4 rw4 O4 S4 T4=>?_);have SS:=Sk.trans S4;have tl4:=SS.tl R3.O.G;have D4:=D3.step SS.toL;have U4:=U3.step It SS.toL tl4;obtain⟨ds,e4,r4⟩:=P3.up (λ o e=>SS.keep D o e D3.n id) tl4;have hz:vs.length<16777216:=ac (aa C.z C.l) (aw hlen (by decide));refine iG (wpAny_dictSet_pairs (kI c iu t) e4 (λ h6 hD6 sb6=>?_) (tP r4.length hz));have q6:=sb6.extBut;have tl6:=dW q6 D4.ob;exact⟨ws'.length,C.j.symm▸bq ws'.length,i+1,ws',cn vs iu av,σ₄,oW hd,rfl,uK hd,aa (fZ ..) (aD C.z),hI4,⟨_,hD6,d9.put (rw4.up tl6) (xe e4) (r4.up tl6)⟩,(R3.next O4.empty SS (Tk.trans T4)).quiet D4 q6 _,⟨U4.o.quiet q6 hne,It.his _ _ _ U4.a (λ o e=>q6 it o hne e) tl6⟩,⟨D4.f,D4.H,D4.n,FP hD6,D4.l⟩⟩
end
section
variable {c:Cx}{V:Ev c}{X:Addr→Prop}{m:bB}{σ σ₀:bH}{s s₀:Shared}{it:Addr}{us:List AV}
theorem Rn.ext {h':Heap}(R:Rn V X σ₀ s₀ m σ s)(x:kg s.heap h')(tk:Nat):Rn V X σ₀ s₀ m σ { s with heap:=h',toks:=tk }:=
 ⟨R.O.step (R.O.G.ext x) (.ext x),R.S.trans (.ext x),R.T.trans ⟨h',tk,rfl⟩⟩
theorem Rn.out {h':Heap}(R:Rn V X σ₀ s₀ m σ s)(a:Addr)(hn:s.heap.get? a=none)(ob:Ob h' a):rS c s₀ σ h' V.L a:=by
 obtain⟨o,ho,_⟩:=R.O.F.at;exact⟨R.S.alive a hn,R.O.G.freshH hn,R.O.G.fresh hn,ob,λ q=>cz (q▸hn) ho⟩
abbrev ZT (it a:Addr)(i:Nat)(h:Heap):Prop:=h.IsListIter it a i
abbrev ItR (it:Addr)(n i:Nat)(h:Heap):Prop:=IsRangeIter h it i ((n:Int) - i) 1
theorem mU {a:Addr}{K:Value→Shared→Prop}(R:Rn V X σ₀ s₀ m σ s)(e:σ a=some (.list us))(k:∀ it s',Rn V X σ₀ s₀ m σ s'→Lp c V.L s₀ it (ZT it a) 0 σ s'.heap→K (.ref it) s'):wpAny c.M V.A (pyIter (.ref a)) K gy s:=by
 obtain⟨ws,n,L⟩:=R.O.G.list e;have h0:(s.heap.push { cls:=.type "list_iterator",data:=.fields #[.ref a,.int 0 0] }).IsListIter s.heap.objs.size a 0:=⟨_,Heap.get?_push_size _ rfl,rfl,rfl⟩;exact wpAny_pyIter_list L.at_.isList (k _ _ (R.ext (.push _) s.toks) ⟨R.out _ (cu _) (uM h0),h0⟩)
theorem Cz {v:Value}{K:Value→Shared→Prop}(R:Rn V X σ₀ s₀ m σ s)(r:bD s.heap v (.tup us))(k:∀ t it s',Rn V X σ₀ s₀ m σ s'→Lp c V.L s₀ it (EM t it us) 0 σ s'.heap→K (.ref it) s'):wpAny c.M V.A (pyIter v) K gy s:=by
 obtain⟨t,ws,n,rfl,et,rt,hl,hz⟩:=r.tupL;have h0:EM t s.heap.objs.size us 0 (s.heap.push { cls:=.type "tuple_iterator",data:=.fields #[.ref t,.int 0 0] }):=⟨⟨_,Heap.get?_push_size _ rfl,rfl,rfl⟩,Nat.ne_of_lt (Heap.lt_size et),ws,n,Heap.get?_push_of_some _ et,rt.up (kg.push _).tup⟩;exact wpAny_pyIter_tuple (items:=ws) ⟨_,et,rfl,_,rfl⟩ (k t _ _ (R.ext (.push _) s.toks) ⟨R.out _ (cu _) (BU h0),h0⟩)
theorem t9 {n:Nat}{t:Tok}{K:Value→Shared→Prop}(R:Rn V X σ₀ s₀ m σ s)(hn:n<cX)(k:∀ it s',Rn V X σ₀ s₀ m σ s'→Lp c V.L s₀ it (ItR it n) 0 σ s'.heap→K (.ref it) s'):wpAny c.M V.A (call (.type "range") [.int n t]) (λ r s'=>wpAny c.M V.A (pyIter r) K gy s') gy s:=by
 refine call_range_1 (wpAny_pyIter_range (IsRange.new s.heap 0 (n:Int) 1 s.toks t (s.toks+1)) (small_one (by decide) (by decide) (oB hn).1 (oB hn).2) ?_);rw[ud];have h0:=Heap.get?_push_size (s.heap.push { cls:=.type "range",data:=.fields #[.int 0 s.toks,.int n t,.int 1 (s.toks+1)] }) (o:={ cls:=.type "range_iterator",data:=.fields #[rawInt 0,rawInt (n:Int),rawInt 1] }) rfl;refine k _ _ (R.ext ((kg.push _).trans (.push _)) _) ⟨R.out _ (dK (by rw[Heap.size_push];exact aM _)) (i9 h0 rfl),?_⟩;show IsRangeIter _ _ ((0:Nat):Int) ((n:Int) - ((0:Nat):Int)) 1;rw[show (n:Int) - ((0:Nat):Int)=n from Int.sub_zero _];exact h0
theorem rc {W:bH→Prop}{IA:Nat→Heap→Prop}{scope:Scope}{o0:Obj}{K:Env→Shared→Prop}(hz:sizeOk o0.data)(C:wC V scope)(It:mW c V.A it us IA W)(R:Rn V cN σ₀ s₀ m σ s)(U:Lp c V.L s₀ it IA 0 σ s.heap)(hob:¬ d4 o0)(hf:o0.isFreed=false)
  (k:∀ h' tk,h'.get? s.heap.objs.size=some o0→Rn (V.sub _ _ (C.y (s.heap.objs.size+1))) cN σ₀ s₀ cJ σ { s with heap:=h',toks:=tk }→Lp c (s.heap.objs.size+1) s₀ it IA 0 σ h'→rS c s₀ σ h' (s.heap.objs.size+1) s.heap.objs.size→it≠s.heap.objs.size→s₀.heap.get? (s.heap.objs.size+1)=none→K (compEnvC scope (kT V.env.cells scope.names []) (s.heap.objs.size+1) V.env) { s with heap:=h',toks:=tk }):
  wpAny c.M V.A (newFunctionEnv scope V.env.globals (kT V.env.cells scope.names []) [] V.env.qual none .none (some V.env)) (λ cenv s₄=>K { cenv with scope:=relabel scope V.env } s₄) gy { s with heap:=s.heap.push o0 }:=by
 refine wpAny_newFunctionEnv C.nc (λ y hy=>nomatch hy) (λ h₁ hns hsb=>?_) C.kind;dsimp only at hns hsb;have hsz:(s.heap.push o0).objs.size=s.heap.objs.size+1:=Heap.size_push ..;rw[hsz]at hns hsb;have n0:=cu s.heap;have n1:s.heap.get? (s.heap.objs.size+1)=none:=dK (aM _);have old:kg s.heap h₁:=λ b o e=>hsb.extBut b o (Nat.ne_of_lt (Nat.lt_succ_of_lt (Heap.lt_size e))) (Heap.get?_push_of_some _ (Heap.get?_push_of_some _ e));have hD:h₁.get? s.heap.objs.size=some o0:=hsb.extBut _ _ (Nat.ne_of_lt (bq _)) (Heap.get?_push_of_some _ (Heap.get?_push_size _ hf));obtain⟨oi,hoi,_⟩:=U.o.ob;have hi:=Heap.lt_size hoi;have ob1:Ob h₁ it:=by obtain⟨o,ho,hot⟩:=U.o.ob;exact⟨o,old _ _ ho,hot⟩
 have G1:=R.O.G.ext old;have e:(newEnv scope (s.heap.push o0).objs.size V.env.globals (kT V.env.cells scope.names []) V.env.qual none .none (some V.env) 0).locals=s.heap.objs.size+1:=hsz;have F:fU c (cT V.ns scope.names) (s.heap.objs.size+1) cJ σ h₁:=⟨⟨_,hns,nofun⟩,R.O.G.fresh n1,R.O.G.freshH n1⟩;show K (compEnvC scope (kT V.env.cells scope.names []) (s.heap.push o0).objs.size V.env) _;rw[hsz];exact k h₁ _ hD ⟨⟨F,G1⟩,R.S.trans (.ext old),R.T.trans ⟨h₁,_,rfl⟩⟩ ⟨⟨U.o.f,U.o.H,U.o.n,ob1,Nat.ne_of_lt (Nat.lt_succ_of_lt hi)⟩,It.his 0 _ _ U.a (λ o e=>old it o e) old.tup⟩ ⟨R.S.alive _ n0,R.O.G.freshH n0,R.O.G.fresh n0,⟨_,hD,hob⟩,Nat.ne_of_lt (bq _)⟩ (Nat.ne_of_lt hi) (R.S.alive _ n1)
end
section
variable {c:Cx}{V V':Ev c}{m:bB}{σ σ₀:bH}{s s₀:Shared}{D:Addr}{ob:bO}{Q:bI}
theorem pP (R:Rn V' cN σ₀ s₀ cJ σ s)(hf:s₀.heap.get? V'.L=none)(U:rS c s₀ σ s.heap V'.L D)(hob:∀ h',(∀ o,s.heap.get? D=some o→h'.get? D=some o)→cP s.heap h'→de c.prog c.w h' D ob)(q:dq ob Q σ):
  ∃ m,s.heap.Ns V'.L m∧∀ h',Heap.SameBut V'.L s.heap h'→c.Res cN bD σ₀ s₀ Q (.ref D) { s with heap:=h' }:=by
 obtain⟨mc,hn,_⟩:=R.O.F.ns;have tob:=xS hn;exact⟨mc,hn,λ h' sb=>xr (s:={ s with heap:=h' }) (R.O.G.quiet sb.extBut R.O.F.own R.O.F.new tob) (R.S.quiet sb.extBut hf) (R.T.trans ⟨h',s.toks,rfl⟩) U.n U.H U.f (hob h' (λ o e=>(sb.2 D U.l).trans e) (dW sb.extBut tob)) q⟩
theorem DX {y:Nat}{py:Pos}{S:cm}(hy:jG V.ns y .local=true)(O0:Ok V m σ₀ s₀)(R:Rn V' cN σ₀ s₀ cJ σ s)(hf:s₀.heap.get? V'.L=none)(U:rS c s₀ σ s.heap V'.L D)(hob:de c.prog c.w s.heap D ob)(q:dq ob (uG y m S) σ):
  wpAny c.M V.A (assign (.Name (cL V.ns y) py) V.env (.ref D)) (λ ω s''=>∃ m,s''.heap.Ns V'.L m∧∀ h',Heap.SameBut V'.L s''.heap h'→c.Res (·=V.L) (k8 V.ns V.L) σ₀ s₀ (Dp S) .next { s'' with heap:=h' }) gy s:=by
 obtain⟨mc,hn,_⟩:=R.O.F.ns;obtain⟨oL,hoL,_⟩:=O0.F.at;have hLD:V.L≠D:=λ z=>cz U.f (z▸hoL);have hLC:V'.L≠V.L:=λ z=>cz (z▸hf) hoL;have F1:=O0.F.step O0.G R.S;have O1:Ok V m (σ.upd D ob) s:=⟨⟨F1.ns,(fB hLD).trans F1.own,F1.new⟩,R.O.G.own U.H hob⟩;refine wpAny_assign_Name (ta O1 hy (.mkL D) λ s₂ O2 S2 T2=>?_);have hC1:(σ.upd D ob) V'.L=none:=(fB (Ne.symm U.l)).trans R.O.F.own;obtain⟨o,es,ep,ho,hr⟩:=hn;have hC2:s₂.heap.Ns V'.L mc:=⟨o,es,ep,S2.keep _ o ho hC1 hLC,hr⟩;have tob:=xS hC2;refine⟨mc,hC2,λ h' sb=>⟨(.next,m.set y (.loc D)),σ.upd D ob,yn q D U.n,⟨(O2.F.quiet sb.extBut hLC tob).ns,rfl⟩,O2.G.quiet sb.extBut hC1 R.O.F.new tob,?_,R.T.trans (T2.trans ⟨h',s₂.toks,rfl⟩)⟩⟩;exact (((cq.toL (s:=s₀) (s₁:=s) R.S).own U.f).trans S2).quiet sb.extBut hf
theorem GH {w:WE}{a:Addr}{Q:bI}{σ:bH}(h:wx w Q a σ):∃ us,σ a=some (.list us)∧us.length<1000∧∃ I:List AV→List AV→SP,I [] us σ∧
 (∀ vs u ws σ₁,I vs (u::ws) σ₁→σ₁ a=some (.list us)∧w (cJ.set 1 u) (Dz I vs ws) σ₁)∧(∀ vs σ₁,I vs [] σ₁→σ₁ a=some (.list us)∧dq (.list vs) Q σ₁):=by unfold wx at h;exact h
theorem OS {w:WE}{a:Addr}{Q:bI}{σ:bH}(h:Da w Q a σ):∃ us,σ a=some (.list us)∧us.length<1000∧∃ I:List (Int×AV)→List AV→SP,I [] us σ∧
 (∀ kvs u ws σ₁,I kvs (u::ws) σ₁→σ₁ a=some (.list us)∧∃ i,u=.int i∧w (cJ.set 1 u) (Ig I kvs i ws) σ₁)∧(∀ kvs σ₁,I kvs [] σ₁→σ₁ a=some (.list us)∧dq (.dI kvs) Q σ₁):=by unfold Da at h;exact h
theorem Nd {w:WE}{k:Int}{Q:bI}{σ:bH}(h:uL w Q k σ):0≤k∧k<1000∧∃ I:List AV→SP,I [] σ∧
 (∀ vs σ₁,(vs.length:Int)<k→I vs σ₁→w (cJ.set 1 (.int vs.length)) (Ha I vs) σ₁)∧(∀ vs σ₁,vs.length=k.toNat→I vs σ₁→dq (.list vs) Q σ₁):=by unfold uL at h;exact h
end
section
variable {c:Cx}{V:Ev c}{T:q9}{el e:IE}{elt:Expr}{scope:Scope}{pos p p':Pos}
theorem oE {n:Nat}(h:n<1000):n≤cX:=aW (aw h (by decide))
theorem wK {D:Addr}{vs:List AV}{h:Heap}(x:F9 D vs h)(hz:vs.length≤cX)(h':Heap)(k:∀ o,h.get? D=some o→h'.get? D=some o)(tl:cP h h'):de c.prog c.w h' D (.list vs):=by obtain⟨i,n,e,r⟩:=x.up k tl;exact⟨i,n,e,r,hz⟩
theorem Kl {D:Addr}{vs:List (Int×AV)}{h:Heap}(x:Jg c D vs h)(hz:vs.length≤cX)(h':Heap)(k:∀ o,h.get? D=some o→h'.get? D=some o)(tl:cP h h'):de c.prog c.w h' D (.dI vs):=by obtain⟨ds,e,r⟩:=x.up k tl;exact⟨ds,e,r,hz⟩
theorem ZW {α:Prop}:α→True:=λ ω=>trivial
theorem p5 {m:bB}{σ σ₀:bH}{s s₀:Shared}{us:List AV}{it:Addr}{IA:Nat→Heap→Prop}{W:bH→Prop}{iter:Expr}{RR:Value→Addr→Result→Shared→Prop}(C:wC V scope)(hx:jG (cT V.ns scope.names) 1 .local=true)(ih:∀ V':Ev c,V'.ns=cT V.ns scope.names→V'.E=V.E→V'.A=V.A→SE V' el elt)
  (It:mW c V.A it us IA W) (I:List AV→List AV→SP) (hob:∀ i h,IA i h→Ob h it) (hself:∀ s (K:Value→Shared→Prop),IA 0 s.heap→K (.ref it) s→wpAny c.M V.A (pyIter (.ref it)) K gy s) (hW:∀ vs ws σ,I vs ws σ→W σ)
  (hbody:∀ u ws vs σ,us.drop vs.length=u::ws→I vs (u::ws) σ→(cW V.E el).1 (cJ.set 1 u) (Dz I vs ws) σ) (hlen:us.length<1000)
  (R:Rn V cN σ₀ s₀ m σ s) (U:Lp c V.L s₀ it IA 0 σ s.heap) (h0:I [] us σ)
  (hfin:∀ (V':Ev c) D vs σ s,I vs [] σ→vs.length=us.length→F9 D vs s.heap→Rn V' cN σ₀ s₀ cJ σ s→rS c s₀ σ s.heap V'.L D→s₀.heap.get? V'.L=none→RR (.ref D) V'.L (.ok .next) s):
  wpAny c.M V.A (newList []) (λ acc s₃=>wpAny c.M V.A (newFunctionEnv scope V.env.globals (kT V.env.cells scope.names []) [] V.env.qual none .none (some V.env)) (λ cenv s₄=>
   codeAny c.M V.A (.compStart (.ListComp elt [⟨.Name (cL (cT V.ns scope.names) 1) p,iter,[],0⟩] scope pos) 0 (.ref it) acc { cenv with scope:=relabel scope V.env }) (RR acc cenv.locals) s₄) gy s₃) gy s:=by
 refine wpAny_newObj_type (rc (K:=λ cenv s₄=>codeAny c.M V.A (.compStart (.ListComp elt [⟨.Name (cL (cT V.ns scope.names) 1) p,iter,[],0⟩] scope pos) 0 (.ref it) (.ref s.heap.objs.size) cenv) (RR (.ref s.heap.objs.size) cenv.locals) s₄) (by size_fits) C It R U (f7 (x:=#[]) (n:=0)) rfl λ h' tk hD R1 U1 UD hne hf=>?_);have loop:∀ s1,s1.heap=h'→Rn (V.sub _ _ (C.y (s.heap.objs.size+1))) cN σ₀ s₀ cJ σ s1→codeAny c.M V.A (.compLoop (.ListComp elt [⟨.Name (cL (cT V.ns scope.names) 1) p,iter,[],0⟩] scope pos) 0 (.ref it) (.ref s.heap.objs.size) (compEnvC scope (kT V.env.cells scope.names []) (s.heap.objs.size+1) V.env)) (RR (.ref s.heap.objs.size) (s.heap.objs.size+1)) s1:=λ s1 e r3=>by
  subst e;exact y9 (V:=V.sub _ _ (C.y (s.heap.objs.size+1))) I It hx (λ O w=>ih (V.sub _ _ (C.y (s.heap.objs.size+1))) rfl rfl rfl O w) hob hW hbody hlen hf hne (λ vs σ s h1 h2 h3 h4 h5=>hfin _ _ vs σ s h1 h2 h3 h4 h5 hf) h0 r3 U1 UD ⟨#[],0,hD,rfl⟩
 exact codeAny_compStart_list (loop _ rfl R1) (iG (hself _ _ U1.a (loop _ rfl R1)))
theorem LC {iter:Expr}(C:wC V scope)(hx:jG (cT V.ns scope.names) 1 .local=true)(hs:jZ iter=true)(i1:SE V e iter)(ih:∀ V':Ev c,V'.ns=cT V.ns scope.names→V'.E=V.E→V'.A=V.A→SE V' el elt):SE V (.lcL el e) (.ListComp elt [⟨.Name (cL (cT V.ns scope.names) 1) p,iter,[],0⟩] scope pos):=λ {m σ s Q} O w=>by
 rw[eval_ListComp];refine wpAny_comprehension_free (use:=none) rfl (kM hs) C.cl C.kind C.lo (dz O (i1 O w) λ u ub σ₁ s₁ q r O1 S1 T1=>?_);obtain⟨a,rfl,q⟩:=eS q;obtain rfl:u=_:=r;obtain⟨us,e1,hl,I,hI,hb,he⟩:=GH q;refine mU (X:=cN) (σ₀:=σ) (s₀:=s) ⟨O1,S1,T1⟩ e1 λ it s₂ R U=>?_;refine p5 (RR:=λ acc C=>compPost c.M V.A gy none (c.Res cN bD σ s Q) acc C) C hx ih (kD V.rm.hd) I (λ i h x=>uM x) (λ s K hia hK=>wpAny_pyIter_listiter hia hK) (λ vs ws σ z=>?_) (λ u ws vs σ ω z=>(hb vs u ws σ z).2) hl R U hI λ V' D vs σ' s' hI hv P R' UD hf=>?_
 ·rcases ws with _|⟨u,ws⟩
  ·exact (he vs σ z).1
  ·exact (hb vs u ws σ z).1
 ·exact pP R' hf UD (wK P (hv▸oE hl)) (he vs σ' hI).2
theorem Dy {y:Nat}{py:Pos}{iter:Expr}{S:cm}{m:bB}{σ:bH}{s:Shared}(hy:jG V.ns y .local=true)(hsw:AE (cL V.ns y) py scope pos=true)(C:wC V scope)(hx:jG (cT V.ns scope.names) 1 .local=true)(hs:jZ iter=true)(i1:SE V e iter)(ih:∀ V':Ev c,V'.ns=cT V.ns scope.names→V'.E=V.E→V'.A=V.A→SE V' el elt)(O:Ok V m σ s)
  (w:(cW V.E e).1 m (fg (wx (cW V.E el).1 (uG y m S))) σ):JS c V.A V.ns V.L (exec (.Assign [.Name (cL V.ns y) py] (.ListComp elt [⟨.Name (cL (cT V.ns scope.names) 1) p,iter,[],0⟩] scope pos) p') V.env) σ s S:=by
 have hsw':swapsWith (.ListComp elt [⟨.Name (cL (cT V.ns scope.names) 1) p,iter,[],0⟩] scope pos) (some (.Name (cL V.ns y) py)) p'.line V.env=pure true:=by
  obtain⟨nm,l⟩:=Dv hy;have hb:V.env.blockKind=.function:=by unfold Env.blockKind;rw[V.y.kind];rfl
  have h2:(!(scope.names.any λ (n,k)=>n==cL V.ns y&&(k==NameKind.local||k==NameKind.cell)))=true:=bA hsw;show (pure (V.env.blockKind==.function&&V.env.kindOf (cL V.ns y)==some .local&&py.line==pos.line&& !(scope.names.any λ (n,k)=>n==cL V.ns y&&(k==.local||k==.cell))):Sem Bool)=pure true;rw[hb,l.n,l.k,bz hsw,←l.n,h2];rfl
 rw[exec_Assign_Name_used _ _ _ _ hsw'];refine wpAny_bind (wpAny_standAt (wpAny_bind ?_));show wpAny _ V.A (do let _←comprehension (.ListComp elt [⟨.Name (cL (cT V.ns scope.names) 1) p,iter,[],0⟩] scope pos) scope V.env _ (newList []) false (eval iter V.env) (some (assign (.Name (cL V.ns y) py) V.env))) _ _ s;refine wpAny_bind (wpAny_mono (wpAny_comprehension_free (use:=some (assign (.Name (cL V.ns y) py) V.env)) (Q:=λ ω s'=>c.Res (·=V.L) (k8 V.ns V.L) σ s (Dp S) .next s') rfl (kM hs) C.cl C.kind C.lo (dz O (i1 O w) λ u ub σ₁ s₁ q r O1 S1 T1=>?_)) (λ ω s' hq=>wpAny_pure (wpAny_pure hq)) λ ω ω e=>e);obtain⟨a,rfl,q⟩:=eS q;obtain rfl:u=_:=r;obtain⟨us,e1,hl,I,hI,hb,he⟩:=GH q;refine mU (X:=cN) (σ₀:=σ) (s₀:=s) ⟨O1,S1,T1⟩ e1 λ it s₂ R U=>?_;refine p5 (RR:=λ acc C=>compPost c.M V.A gy (some (assign (.Name (cL V.ns y) py) V.env)) (λ ω s'=>c.Res (·=V.L) (k8 V.ns V.L) σ s (Dp S) .next s') acc C) C hx ih (kD V.rm.hd) I (λ i h x=>uM x) (λ s K hia hK=>wpAny_pyIter_listiter hia hK) (λ vs ws σ z=>?_) (λ u ws vs σ ω z=>(hb vs u ws σ z).2) hl R U hI λ V' D vs σ' s' hI hv P R' UD hf=>?_
 ·rcases ws with _|⟨u,ws⟩
  ·exact (he vs σ z).1
  ·exact (hb vs u ws σ z).1
 ·exact DX hy O R' hf UD (wK P (hv▸oE hl) _ (λ ω e=>e) (.refl _)) (he vs σ' hI).2
theorem QP {a:Expr}{pt:PT}(hT:cV c T)(C:wC V scope)(hx:jG (cT V.ns scope.names) 1 .local=true)(hb:jS T V.ns dD a=true)(i1:SE V e a)(ih:∀ V':Ev c,V'.ns=cT V.ns scope.names→V'.E=V.E→V'.A=V.A→SE V' el elt):SE V (.lcR el e) (.ListComp elt [⟨.Name (cL (cT V.ns scope.names) 1) p,iX dD pt [a],[],0⟩] scope pos):=λ {m σ s Q} O w=>by
 rw[eval_ListComp];refine wpAny_comprehension_free (use:=none) rfl (λ ω=>rfl) C.cl C.kind C.lo (gN hT hb sR O (fm _) (dz O (i1 O w) λ u ub σ₁ s₁ q r O1 S1 T1=>⟨dg.inH O1.G,?_⟩));obtain⟨k,rfl,q⟩:=j4 q;obtain⟨t,rfl⟩:=r;obtain⟨h0,h1,I,hI,hstep,hend⟩:=Nd q;obtain⟨n,rfl⟩:=Int.eq_ofNat_of_zero_le h0;have h1:=Int.ofNat_lt.mp h1;refine t9 (X:=cN) (σ₀:=σ) (s₀:=s) ⟨O1,S1,T1⟩ (aw h1 (by decide)) λ it s₂ R U=>?_;refine p5 (RR:=λ acc C=>compPost c.M V.A gy none (c.Res cN bD σ s Q) acc C) C hx ih (tQ V.rm.hd) (λ vs ws=>I vs) (λ i h x=>Gf x) (λ s K hia hK=>wpAny_pyIter_rangeiter hia hK) (λ ω ω ω ω=>trivial) (λ u ws vs σ hd z=>?_) ((io n).symm▸h1) R U hI λ V' D vs σ' s' hI hv P R' UD hf=>?_
 ·obtain⟨g1,rfl⟩:=o7 (oQ hd);exact hstep vs σ (ba g1) z
 ·have hv:=hv.trans (io n);exact pP R' hf UD (wK P (hv▸oE h1)) (hend vs σ' hv hI)
theorem K8 {iter vx:Expr}(C:wC V scope)(hx:jG (cT V.ns scope.names) 1 .local=true)(hs:jZ iter=true)(i1:SE V e iter)(ih:∀ V':Ev c,V'.ns=cT V.ns scope.names→V'.E=V.E→V'.A=V.A→SE V' el vx):SE V (.dcL el e) (.DictComp (.Name (cL (cT V.ns scope.names) 1) p') vx [⟨.Name (cL (cT V.ns scope.names) 1) p,iter,[],0⟩] scope pos):=λ {m σ s Q} O w=>by
 rw[arm_eval_DictComp];refine wpAny_comprehension_free (use:=none) rfl (kM hs) C.cl C.kind C.lo (dz O (i1 O w) λ u ub σ₁ s₁ q r O1 S1 T1=>?_);obtain⟨a,rfl,q⟩:=eS q;obtain rfl:u=_:=r;obtain⟨us,e1,hl,I,hI,hb,he⟩:=OS q;refine mU (X:=cN) (σ₀:=σ) (s₀:=s) ⟨O1,S1,T1⟩ e1 λ it s₂ R U=>?_;have It:mW c V.A it us (ZT it a) λ σ=>σ a=some (.list us):=kD V.rm.hd;refine wpAny_newObj_type (rc (K:=λ cenv s₄=>codeAny c.M V.A (.compStart (.DictComp (.Name (cL (cT V.ns scope.names) 1) p') vx [⟨.Name (cL (cT V.ns scope.names) 1) p,iter,[],0⟩] scope pos) 0 (.ref it) (.ref s₂.heap.objs.size) cenv) (compPost c.M V.A gy none (c.Res cN bD σ s Q) (.ref s₂.heap.objs.size) cenv.locals) s₄) (by size_fits) C It R U (dt (o:=sv) rfl) rfl λ h' tk hD R1 U1 UD hne hf=>?_);have loop:∀ s1,s1.heap=h'→Rn (V.sub _ _ (C.y (s₂.heap.objs.size+1))) cN σ s cJ σ₁ s1→codeAny c.M V.A (.compLoop (.DictComp (.Name (cL (cT V.ns scope.names) 1) p') vx [⟨.Name (cL (cT V.ns scope.names) 1) p,iter,[],0⟩] scope pos) 0 (.ref it) (.ref s₂.heap.objs.size) (compEnvC scope (kT V.env.cells scope.names []) (s₂.heap.objs.size+1) V.env)) (compPost c.M V.A gy none (c.Res cN bD σ s Q) (.ref s₂.heap.objs.size) (s₂.heap.objs.size+1)) s1:=λ s1 e r3=>by
  subst e;refine yO (V:=V.sub _ _ (C.y (s₂.heap.objs.size+1))) I It hx (λ O w=>ih (V.sub _ _ (C.y (s₂.heap.objs.size+1))) rfl rfl rfl O w) (λ i h x=>uM x) (λ vs ws σ z=>?_) (λ kvs u ws σ z=>(hb kvs u ws σ z).2) hl hf hne (λ vs σ' s' hI hv P R' UD=>?_) hI r3 U1 UD ⟨[],⟨_,#[],0,hD,⟨rfl,rfl,rfl⟩,rfl,λ ω he=>by simp at he,Pairs.nil,List.nodup_nil⟩,rfl⟩
  ·rcases ws with _|⟨u,ws⟩
   ·exact (he vs σ z).1
   ·exact (hb vs u ws σ z).1
  ·exact pP R' hf UD (Kl P (aa hv (oE hl))) (he vs σ' hI).2
 exact codeAny_compStart_dict (loop _ rfl R1) (iG (wpAny_pyIter_listiter U1.a (loop _ rfl R1)))
end
section
variable {c:Cx}{T:q9}
theorem GM {κ:Type}[DecidableEq κ]{h:Heap}(knd:PySem.KeyKind c.prog c.w κ):(h.push sv).DictOf knd h.objs.size []:=
 ⟨_,#[],0,Heap.get?_push_size _ rfl,⟨rfl,rfl,rfl⟩,rfl,λ ω he=>by simp at he,Pairs.nil,List.nodup_nil⟩
theorem yW {V:Ev c}{e:IE}{a:Expr}{pt pt':PT}(hT:cV c T)(hb:jS T V.ns ff (iX cH pt' [a])=true)(hb':jS T V.ns cH a=true)(ih:SE V e a):SE V (.listRev e) (iX ff pt [iX cH pt' [a]]):=λ {m σ s Q} O w=>rg hT hb hb' vY pq (λ ω=>fm _) (λ ω=>fm _) O (ih O w) λ u b σ₁ s₁ p r G1=>by obtain⟨i,rfl,p⟩:=eS p;obtain rfl:u=_:=r;exact yF (gu V) G1 p
theorem ug {V:Ev c}{e:IE}{a:Expr}{pt pt':PT}(hT:cV c T)(hb:jS T V.ns ff (iX dD pt' [a])=true)(hb':jS T V.ns dD a=true)(ih:SE V e a):SE V (.listRange e) (iX ff pt [iX dD pt' [a]]):=λ {m σ s Q} O w=>rg hT hb hb' vY sR (λ ω=>fm _) (λ ω=>fm _) O (ih O w) λ u b σ₁ s₁ p r G1=>by obtain⟨k,rfl,p⟩:=j4 p;obtain⟨t,rfl⟩:=r;exact u0 (gu V) G1 p
abbrev Jx (c:Cx)(T:q9)(ie:IE):Prop:=∀ (V:Ev c) (pt:PT),d8 T ie V.ns pt=true→SB V ie (tr ie V.ns pt)
abbrev Ls (c:Cx)(T:q9)(es:List IE):Prop:=∀ (V:Ev c) (pt:PT) (i:Nat),qB T es V.ns pt i=true→qo V es (vg es V.ns pt i)
theorem oC {V:Ev c}{scope:Scope}{el:IE}{pt:PT}(ih:Jx c T el)(h:d8 T el (cT V.ns scope.names) pt=true):∀ V':Ev c,V'.ns=cT V.ns scope.names→V'.E=V.E→V'.A=V.A→SE V' el (tr el (cT V.ns scope.names) pt):=λ V' e ω ω=>by
 rw[←e]at h⊢;exact (ih V' pt h).se
variable (hT:cV c T)
include hT
theorem iW (ie:IE):Jx c T ie:=
 IE.rec (motive_1:=Jx c T) (motive_2:=Ls c T)
  (lv:=λ x V pt h=>mkB rfl (λ ω ω=>rfl) (JW h))
  (cv:=λ x V pt h=>mkB rfl (λ ω ω=>rfl) (UH h))
  (gi:=λ i V pt h=>mkB rfl (λ ω ω=>rfl) (Uf hT h))
  (int:=λ i V pt h=>mkB (by cases i<;>rfl) (λ ω ω=>rfl) Rf)
  (str:=λ s V pt h=>mkB rfl (λ ω ω=>rfl) (PC h))
  (bol:=λ b V pt h=>mkB rfl (λ ω ω=>rfl) Lh)
  (non:=λ V pt h=>mkB rfl (λ ω ω=>rfl) QH)
  (tup:=λ es ih V pt h=>mkB rfl (λ ω ω=>rfl) (OH (ih V pt 0 (bA h)).es (bz h) (s6 _ _ _ _)))
  (lst:=λ es ih V pt h=>mkB rfl (λ ω ω=>rfl) (L7 (ih V pt 0 (bA h)).es (bz h) (s6 _ _ _ _)))
  (dI0:=λ V pt h=>mkB rfl (λ ω ω=>rfl) λ O w=>HC (ob:=.dI []) O ⟨[],GM _,rfl,aI _⟩ w)
  (dS0:=λ V pt h=>mkB rfl (λ ω ω=>rfl) λ O w=>HC (ob:=.dS []) O ⟨[],GM _,rfl,aI _⟩ w)
  (dT0:=λ V pt h=>mkB rfl (λ ω ω=>rfl) λ O w=>HC (ob:=.dT []) O ⟨[],⟨_,#[],0,Heap.get?_push_size _ rfl,⟨rfl,rfl,rfl⟩,rfl,rfl,⟨λ x (he:x∈[])=>absurd he List.not_mem_nil,List.nodup_nil⟩⟩,rfl,aI _⟩ w)
  (dI1:=λ k v ik iv V pt h=>mkB rfl (λ ω ω=>rfl) (Qc (ik V _ (bz h)).se (iv V _ (bA h)).se))
  (dS:=λ ks es ih V pt h=>mkB rfl (λ ω ω=>rfl) (TG (ih V pt _ (bA h)) (s6 _ _ _ _) (bz h)))
  (attr:=λ C e x ih V pt h=>mkB rfl (λ ω ω=>rfl) (Hy hT (ih V _ (bA h)).se (bz (bz h)) (bA (bz h))))
  (sub:=λ e i ie ii V pt h=>mkB rfl (λ ω ω=>rfl) (Q5 (ie V _ (bA (bz h))).se (ii V _ (bA h)).se (bz (bz h))))
  (slf:=λ e i ie ii V pt h=>mkB rfl (λ ω ω=>rfl) (QG (ie V _ (bz h)).se (ii V _ (bA h)).se))
  (slt:=λ e i ie ii V pt h=>mkB rfl (λ ω ω=>rfl) (Lg (ie V _ (bz h)).se (ii V _ (bA h)).se))
  (call:=λ f es ih V pt h=>mkB rfl (λ ω ω=>rfl) (Kg hT (bz h) (ih V _ _ (bA h)).es))
  (meth:=λ C e x f es ie ih V pt h=>mkB rfl (λ ω ω=>rfl) (Hp hT (bz (bz (bz h))) (bA (bz (bz h))) (ie V _ (bA (bz h))).se (ih V _ _ (bA h)).es))
  (clo:=λ x es ih V pt h=>mkB rfl (λ ω ω=>rfl) (OI (bz h) (ih V _ _ (bA h)).es))
  (append:=λ e a ie ia V pt h=>mkB rfl (λ ω ω=>rfl) (Dg (bz (bz h)) (ie V _ (bA (bz h))).se (ia V _ (bA h)).se))
  (pop:=λ e ie V pt h=>mkB rfl (λ ω ω=>rfl) (PJ (bz h) (ie V _ (bA h)).se))
  (rev:=λ e ie V pt h=>mkB rfl (λ ω ω=>rfl) (Mb (bz h) (ie V _ (bA h)).se))
  (get:=λ e k d ie ik id V pt h=>mkB rfl (λ ω ω=>rfl) (Rj (bz (bz (bz h))) (ie V _ (bA (bz (bz h)))).se (ik V _ (bA (bz h))).se (id V _ (bA h)).se))
  (setdef:=λ e k ie ik V pt h=>mkB rfl (λ ω ω=>rfl) (AW (bz (bz h)) (ie V _ (bA (bz h))).se (ik V _ (bA h)).se))
  (extRev:=λ e a ie ia V pt h=>mkB rfl (λ ω ω=>rfl) (CM hT (bz (bz (bz h))) (bA (bz (bz h))) (ie V _ (bA (bz h))).se (ia V _ (bA h)).se))
  (len:=λ e ie V pt h=>mkB rfl (λ ω ω=>rfl) (LA hT (bz h) (ie V _ (bA h)).se))
  (abs:=λ e ie V pt h=>mkB rfl (λ ω ω=>rfl) (KK hT (bz h) (ie V _ (bA h)).se))
  (strI:=λ e ie V pt h=>mkB rfl (λ ω ω=>rfl) (IL hT (bz h) (ie V _ (bA h)).se))
  (sorted:=λ e ie V pt h=>mkB rfl (λ ω ω=>rfl) (Cn hT (bz h) (ie V _ (bA h)).se))
  (tupOf:=λ e ie V pt h=>mkB rfl (λ ω ω=>rfl) (Ex hT (bz h) (ie V _ (bA h)).se))
  (listOf:=λ e ie V pt h=>mkB rfl (λ ω ω=>rfl) (Ad hT (bz h) (ie V _ (bA h)).se))
  (dictOf:=λ e ie V pt h=>mkB rfl (λ ω ω=>rfl) (Bn hT (bz h) (ie V _ (bA h)).se))
  (isTup:=λ e ie V pt h=>mkB rfl (λ ω ω=>rfl) (EW hT (bz h) (ie V _ (bA h)).se))
  (listRev:=λ e ie V pt h=>mkB rfl (λ ω ω=>rfl) (yW hT (bz (bz h)) (bA (bz h)) (ie V _ (bA h)).se))
  (listRange:=λ e ie V pt h=>mkB rfl (λ ω ω=>rfl) (ug hT (bz (bz h)) (bA (bz h)) (ie V _ (bA h)).se))
  (add:=λ a b ia ib V pt h=>mkB rfl (λ ω ω=>rfl) λ O w=>xQ Eh OM (ia V _ (bz h)).se (ib V _ (bA h)).se O w)
  (subt:=λ a b ia ib V pt h=>mkB rfl (λ ω ω=>rfl) λ O w=>xQ (λ Q=>s8 λ i j=>Q (.int (i - j))) HS (ia V _ (bz h)).se (ib V _ (bA h)).se O w)
  (mod:=λ a b ia ib V pt h=>mkB rfl (λ ω ω=>rfl) λ O w=>xQ (λ Q=>s8 (wM Q)) Ra (ia V _ (bz h)).se (ib V _ (bA h)).se O w)
  (fdiv:=λ a b ia ib V pt h=>mkB rfl (λ ω ω=>rfl) λ O w=>xQ (λ Q=>s8 (qg Q)) Io (ia V _ (bz h)).se (ib V _ (bA h)).se O w)
  (not:=λ e ie V pt h=>⟨Q7 (ie V _ (bA h)) (bz h),LW (ie V _ (bA h)),λ z=>nomatch z⟩)
  (cmp:=λ op a b ia ib V pt h=>have hm:=Bool.not_eq_true' _|>.mp (bz (bz h));⟨Rr hm (ia V _ (bA (bz h))).se (ib V _ (bA h)).se,NJ hm (ia V _ (bA (bz h))).se (ib V _ (bA h)).se,λ z=>nomatch z⟩)
  (and:=λ es ih V pt h=>have a:=ih V pt 0 h;⟨λ O w=>Qz _ a O w,λ O w=>QU _ a O w,λ z=>nomatch z⟩)
  (or:=λ es ih V pt h=>have a:=ih V pt 0 h;⟨λ O w=>Yu _ a O w,λ O w=>U9 _ a O w,λ z=>nomatch z⟩)
  (ife:=λ ci a b i0 i1 i2 V pt h=>⟨OL (i0 V _ (bz (bz h))).st (i1 V _ (bA (bz h))).se (i2 V _ (bA h)).se,λ O w=>w.elim,λ z=>nomatch z⟩)
  (lcR:=λ el e il ie V pt h=>mkB rfl (λ ω ω=>rfl) (QP hT (mV (bz (bz (bz (bz h))))) (bA (bz (bz (bz h)))) (bA (bz (bz h))) (ie V _ (bA (bz h))).se (oC il (bA h))))
  (lcL:=λ el e il ie V pt h=>mkB rfl (λ ω ω=>rfl) (LC (mV (bz (bz (bz (bz h))))) (bA (bz (bz (bz h)))) (bA (bz (bz h))) (ie V _ (bA (bz h))).se (oC il (bA h))))
  (dcL:=λ el e il ie V pt h=>mkB rfl (λ ω ω=>rfl) (K8 (mV (bz (bz (bz (bz h))))) (bA (bz (bz (bz h)))) (bA (bz (bz h))) (ie V _ (bA (bz h))).se (oC il (bA h))))
  (nil:=λ V pt i h=>rfl)
  (cons:=λ e r ie ir V pt i h=>⟨_,_,rfl,ie V _ (bz h),ir V _ _ (bA h)⟩)
  ie
end
def SS {c:Cx}(V:Ev c)(i:IS)(st:Stmt):Prop:=∀ {m σ s S},Ok V m σ s→Sl V.E i m S σ→JS c V.A V.ns V.L (exec st V.env) σ s S
def D5 {c:Cx}(V:Ev c)(is:List IS)(dA:List Stmt):Prop:=∀ {m σ s S},Ok V m σ s→cA V.E is m S σ→JS c V.A V.ns V.L (execs dA V.env) σ s S
section
variable {c:Cx}{V:Ev c}{T:q9}{X:Addr→Prop}{m m':bB}{σ σ₀ σ₁:bH}{s s₀ s₁:Shared}{S:cm}
theorem i5 {v:Expr}(h:eE v=true)(t:Option Expr)(l:Nat)(env:Env):swapsWith v t l env=pure false:=by
 cases v<;>first|rfl|cases h
theorem Rn.start (O:Ok V m σ s):Rn V (·=V.L) σ s m σ s:=⟨O,.refl,.refl s⟩
theorem gM {α β:Type}{R:uw α β}{t:Sem α}{P:β→SP}{K:α→Shared→Prop}(r:Rn V (·=V.L) σ₀ s₀ m σ s)(h:c.J V.A cN R t σ s P)
  (k:∀ v b σ₁ s₁,P b σ₁→R s₁.heap v b→Rn V (·=V.L) σ₀ s₀ m σ₁ s₁→cP s.heap s₁.heap→K v s₁):wpAny c.M V.A t K gy s:=
 dz r.O h λ v b σ₁ s₁ p rv O1 S1 T1=>k v b σ₁ s₁ p rv ⟨O1,r.S.trans (S1.weaken λ ω x=>x.elim),r.T.trans T1⟩ (S1.tl r.O.G)
theorem tA {K:Unit→Shared→Prop}{x:Nat}{v:Value}{a:AV}(r:Rn V (·=V.L) σ₀ s₀ m σ s)(hx:jG V.ns x .local=true)(rv:bD s.heap v a)(k:∀ s₁,Rn V (·=V.L) σ₀ s₀ (m.set x a) σ s₁→cP s.heap s₁.heap→K () s₁):wpAny c.M V.A (storeName V.env (cL V.ns x) v) K gy s:=
 ta r.O hx rv λ s₁ O S T=>k s₁ ⟨O,r.S.trans S,r.T.trans T⟩ (x6 r.O S)
theorem fin {fl:Flow}{a:pO}(r:Rn V (·=V.L) σ₀ s₀ m σ s)(h:v9 s.heap fl a)(q:S a m σ):c.Res (·=V.L) (k8 V.ns V.L) σ₀ s₀ (Dp S) fl s:=
 ⟨(a,m),σ,q,⟨r.O.F.ns,h⟩,r.O.G,r.S,r.T⟩
theorem tH (r:Rn V (·=V.L) σ₀ s₀ m σ s)(q:S .next m σ):c.Res (·=V.L) (k8 V.ns V.L) σ₀ s₀ (Dp S) .next s:=fin (a:=.next) r rfl q
theorem Ok.of {A:pO×bB}{fl:Flow}(O:Ok V m σ s)(h:Mine.Res c (·=V.L) (k8 V.ns V.L) σ s (Dp S) fl s₁ A σ₁):Ok V A.2 σ₁ s₁:=by
 obtain⟨o,ho,_⟩:=O.F.at;exact⟨⟨h.r.n,h.st.fresh _ (jq ho) O.F.own,O.F.new⟩,h.g⟩
theorem Mq {x:Nat}{e:IE}{v:Expr}{p p':Pos}(hx:jG V.ns x .local=true)(hc:eE v=true)(ih:SE V e v):SS V (.asg x e) (.Assign [.Name (cL V.ns x) p] v p'):=λ {m σ s S} O w=>
 wpAny_Assign_Name (gM (Rn.start O) (ih O w) λ u b σ₁ s₁ q r R ω=>tA R hx r λ s₂ R2 ω=>tH R2 q) (i5 hc _ _ _)
theorem Ka {x:Sx}{e:IE}{v:Expr}{p p':Pos}(hx:(V.ns.lookup (sx x)==some .cell)=true)(hc:eE v=true)(ih:SE V e v):SS V (.asgC x e) (.Assign [.Name (sx x) p] v p'):=λ {m σ s S} O w=>by
 have hx:=beq_iff_eq.mp hx;refine wpAny_Assign_Name (gM (Rn.start O) (ih O w) λ u b σ₁ s₁ q r R ω=>?_) (i5 hc _ _ _);have q:yb (qN b (S .next m)) (zn V.cs x) σ₁:=q;cases e:zn V.cs x with
 |none=>rw[e]at q;exact q.elim
 |some cc=>
  rw[e]at q;obtain⟨v₀,e1,q⟩:=JG q;obtain⟨o,cv,ho,hd,_⟩:=(R.O.G.objs _ _ e1).2;have hot:¬ d4 o:=λ⟨_,it,k,z⟩=>nomatch hd.symm.trans z;refine wpAny_storeName_cell (v₀:=cv) V.y.kind ((mR V _).trans hx) (V.y.cells _ _ e (.inl hx)) ⟨o,ho,hd⟩ λ h' hcell sb=>?_;obtain⟨o',ho',hd'⟩:=hcell;have hob:de c.prog c.w h' cc (.cell (some b)):=⟨o',some u,ho',hd',u,rfl,r.up (mr ho hot sb)⟩;have S2:∀ {Y},cq Y σ₁ s₁.heap _ h':=.upd e1 sb.2 hob;exact tH (s:={ s₁ with heap:=h' }) ⟨R.O.step (s₁:={ s₁ with heap:=h' }) (R.O.G.upd e1 sb.2 hob) S2,R.S.trans S2,R.T.trans ⟨h',s₁.toks,rfl⟩⟩ q
theorem Jy {C:Addr}{e v:IE}{x:Sx}{o val:Expr}{p p':Pos}(hT:cV c T)(ha:T.attrs.contains (C,x)=true)(hc:eE val=true)(i1:SE V v val)(i2:SE V e o):SS V (.setA C e x v) (.Assign [.Attribute o (sx x) p'] val p):=λ {m σ s S} O w=>by
 obtain⟨K,hx⟩:=hT.attrs _ _ ha;refine plainObj_wpAny_Assign_Attribute (gM (Rn.start O) (i1 O w) λ u ub σ₁ s₁ q r R1 ω=>gM R1 (i2 R1.O q) λ ov ob σ₂ s₂ q2 r2 R2 t2=>?_) (i5 hc _ _ _);obtain⟨a,rfl,q2⟩:=eS q2;obtain rfl:ov=_:=r2;exact gM R2 (yK (X:=cN) K hx R2.O.G (r.up t2) q2) λ ω ω σ₃ s₃ q3 ω R3 ω=>tH R3 q3
theorem HD {e i v:IE}{o ix val:Expr}{p p':Pos}(hc:eE val=true)(i1:SE V v val)(i2:SE V e o)(i3:SE V i ix):SS V (.setI e i v) (.Assign [.Subscript o ix p'] val p):=λ {m σ s S} O w=>
 wpAny_Assign_Subscript (gM (Rn.start O) (i1 O w) λ u ub σ₁ s₁ q r R1 ω=>gM R1 (i2 R1.O q) λ ov ob σ₂ s₂ q2 r2 R2 t2=>gM R2 (i3 R2.O q2) λ iv ib σ₃ s₃ q3 r3 R3 t3=>
  gM R3 (qX (X:=cN) (gu V) R3.O.G (r2.up t3) r3 ((r.up t2).up t3) q3) λ ω ω σ₄ s₄ q4 ω R4 ω=>tH R4 q4) (i5 hc _ _ _)
theorem Kf {x:Nat}{e:IE}{v:Expr}{p p':Pos}(hx:jG V.ns x .local=true)(ih:SE V e v):SS V (.augA x e) (.AugAssign (.Name (cL V.ns x) p) .Add v p'):=λ {m σ s S} O w=>by
 obtain⟨o,ho,w⟩:=xN w;have hn:c.J V.A cN bD (loadName V.env (cL V.ns x)) σ s λ b σ=>b=o∧(cW V.E e).1 m (C6 (uG x m S) o) σ:=by
  obtain⟨nm,l⟩:=Dv hx;obtain⟨mc,hn,hr⟩:=O.F.ns;obtain⟨p,u,e1,hu,ru⟩:=hr x o ho;obtain rfl:(nm,NameKind.local)=p:=aA (l.a.symm.trans e1);rw[l.n];exact wpAny_loadName_local V.y.kind l.k hn hu (bN s.toks O.G ru ⟨rfl,w⟩)
 refine wpAny_AugAssign_Name (gM (Rn.start O) hn λ u b σ₁ s₁ q r R1 ω=>gM R1 (ih R1.O q.2) λ w b2 σ₂ s₂ q2 r2 R2 t2=>gM R2 (Cv (X:=cN) R2.O.G ((q.1▸r).up t2) r2 q2) λ z zb σ₃ s₃ q3 r3 R3 ω=>tA R3 hx r3 λ s₄ R4 ω=>tH R4 q3)
theorem E9 {ix:Expr}(hs:g6 ix=true)(ov iv new:Value):augStore ix ov iv new=(do holding [new,ov,iv] (setItem ov iv new);release [new,ov,iv] [];pure .next):=by
 cases ix<;>first|rfl|cases hs
theorem Ip {e i v:IE}{neg:Bool}{o ix val:Expr}{p p':Pos}(hs:g6 ix=true)(i1:SE V e o)(i2:SE V i ix)(i3:SE V v val):SS V (.augS e i neg v) (.AugAssign (.Subscript o ix p') (Yg neg) val p):=λ {m σ s S} O w=>by
 refine wpAny_AugAssign_Subscript_any (gM (Rn.start O) (i1 O w) λ u ub σ₁ s₁ q r R1 ω=>gM R1 (i2 R1.O q) λ iv ib σ₂ s₂ q2 r2 R2 t2=>?_) (E9 hs);refine gM R2 (yB (X:=cN) R2.O.G (r.up t2) r2 q2) λ old oldb σ₃ s₃ q3 r3 R3 t3=>gM R3 (i3 R3.O q3) λ d db σ₄ s₄ q4 r4 R4 t4=>?_;have hJ:c.J V.A cN bD (inplaceOp (Yg neg) old d) σ₄ s₄ (λ r=>fg (putL (S .next m) r ib) ub):=by
  cases neg with
  |true=>exact HH R4.O.G (r3.up t4) r4 q4
  |false=>exact uu (t:=inplaceOp .Add) (r3.up t4) r4 q4 λ i j t1 t2 hf=>Cv R4.O.G (.mkI i t1) (.mkI j t2) hf
 refine gM R4 hJ λ z zb σ₅ s₅ q5 r5 R5 t5=>?_;exact gM R5 (qX (X:=cN) (gu V) R5.O.G ((((r.up t2).up t3).up t4).up t5) (((r2.up t3).up t4).up t5) r5 q5) λ ω ω σ₆ s₆ q6 ω R6 ω=>tH R6 q6
theorem XQ {e:IE}{v:Expr}{p:Pos}(hc:eE v=true)(ih:SE V e v):SS V (.ex e) (.Expr v p):=λ {m σ s S} O w=>by
 have hi:interactive V.env=false:=by unfold interactive;rw[V.y.kind];rfl
 have he:exec (.Expr v p) V.env=(do
  standAt p
  if interactive V.env then printExpr (eval v V.env)
  else if←swapsWith v none p.line V.env then do evalThenUse v V.env λ ω=>point;pure .next
  else do dropValue v p (←eval v V.env)):=rfl
 rw[he,hi,i5 hc];refine wpAny_bind (wpAny_standAt ?_);rw[aK nofun];refine wpAny_bind (wpAny_pure ?_);rw[aK nofun];exact wpAny_bind (gM (Rn.start O) (ih O w) λ u b σ₁ s₁ q r R ω=>wpAny_dropValue (tH R q))
theorem Ql {e:IE}{v:Expr}{p:Pos}(ih:SE V e v):SS V (.ret e) (.Return (some v) p):=λ {m σ s S} O w=>by
 have he:exec (.Return (some v) p) V.env=(do standAt p;return .ret (←eval v V.env)):=rfl;rw[he];exact wpAny_bind (wpAny_standAt (wpAny_bind (gM (Rn.start O) (ih O w) λ u b σ₁ s₁ q r R ω=>wpAny_pure (fin (a:=.ret b) R ⟨u,rfl,r⟩ q))))
theorem FE {t:Sem Flow}{p:Pos}{fl:Flow}{a:pO}(he:t=do standAt p;pure fl)(O:Ok V m σ s)(r:v9 s.heap fl a)(w:S a m σ):JS c V.A V.ns V.L t σ s S:=by
 rw[he];exact wpAny_bind (wpAny_standAt (wpAny_pure (fin (Rn.start O) r w)))
theorem Yb {ci:IE}{a b:List IS}{t:Expr}{sa sb:List Stmt}{p:Pos}(i0:ST V ci t)(i1:D5 V a sa)(i2:D5 V b sb):SS V (.ife ci a b) (.If t sa sb p):=λ {m σ s S} O w=>by
 refine wpAny_If (dz O (i0 O w) λ r rb σ₁ s₁ q rr O1 S1 T1=>?_);obtain rfl:r=rb:=rr;cases r with
 |true=>exact J.shift S1.toL T1 (i1 O1 q)
 |false=>exact J.shift S1.toL T1 (i2 O1 q)
theorem GA {i:IS}{r:List IS}{st:Stmt}{q:List Stmt}(i1:SS V i st)(i2:D5 V r q):D5 V (i::r) (st::q):=λ {m σ s S} O w=>by
 have he:execs (st::q) V.env=(do match←exec st V.env with|.next=>execs q V.env|f=>pure f):=rfl;rw[he];refine wpAny_bind (wpAny_mono (i1 O w) (λ fl s₁ h₁=>?_) λ ω ω x=>x);obtain⟨⟨a,m'⟩,σ₁,h₁⟩:=h₁;have O1:=O.of h₁;have z:=h₁.q;have hf:v9 s₁.heap fl a:=h₁.r.f;rcases a with _|_|_|v
 ·obtain rfl:fl=_:=hf;exact J.shift h₁.st h₁.t (i2 O1 z)
 ·obtain rfl:fl=_:=hf;exact wpAny_pure (fin (a:=.brk) ⟨O1,h₁.st,h₁.t⟩ rfl z)
 ·obtain rfl:fl=_:=hf;exact wpAny_pure (fin (a:=.cont) ⟨O1,h₁.st,h₁.t⟩ rfl z)
 ·obtain⟨u,rfl,ru⟩:=hf;exact wpAny_pure (fin (a:=.ret v) ⟨O1,h₁.st,h₁.t⟩ ⟨u,rfl,ru⟩ z)
theorem vj {K:Unit→Shared→Prop}{pt:PT}{m':bB}{xs:List Nat}:∀ {i:Nat} {ws:List Value} {vs:List AV} {m:bB} {s:Shared},(xs.all λ x=>jG V.ns x .local)=true→lA m xs vs=some m'→Rn V (·=V.L) σ₀ s₀ m σ s→bY s.heap ws vs→
  (∀ s₁,Rn V (·=V.L) σ₀ s₀ m' σ s₁→K () s₁)→wpAny c.M V.A (assignInOrder ((AI V.ns pt xs i).map λ e=>assign e V.env) ws) K gy s:=by
 induction xs with
 |nil=>
  intro i ws vs m s ht hs R r h;rcases vs with _|⟨v,vs⟩
  ·obtain rfl:ws=[]:=r;cases hs;exact wpAny_pure (h s R)
  ·cases hs
 |cons x xs ih=>
  intro i ws vs m s ht hs R r h;rcases vs with _|⟨v,vs⟩
  ·cases hs
  ·obtain⟨u,us,rfl,r1,r2⟩:=r;have ht:=Bool.and_eq_true_iff.mp ((List.all_cons).symm.trans ht);refine wpAny_bind (wpAny_holding (wpAny_assign_Name (tA R ht.1 r1 λ s₁ R1 t1=>ih ht.2 hs R1 (r2.up t1) h)))
theorem DG {m':bB}{xs:List Nat}:∀ {vs:List AV} {m:bB},lA m xs vs=some m'→vs.length=xs.length:=by
 induction xs with
 |nil=>intro vs m h;rcases vs with _|⟨v,vs⟩<;>first|rfl|cases h
 |cons x xs ih=>intro vs m h;rcases vs with _|⟨v,vs⟩<;>first|exact ae (·+1) (ih h)|cases h
theorem AA {pt:PT}{env:Env}{ns:Ns}(xs:List Nat):∀ i,(assignEach (AI ns pt xs i) env).length=xs.length:=by
 induction xs with
 |nil=>exact λ ω=>rfl
 |cons x xs ih=>exact λ i=>ae (·+1) (ih (i+1))
theorem yz {pt:PT}{env:Env}{ns:Ns}(xs:List Nat):∀ i,(assignEach (AI ns pt xs i) env).findIdx? (·.1)=none:=by
 induction xs with
 |nil=>exact λ ω=>rfl
 |cons x xs ih=>
   intro i;show List.findIdx? _ ((false,_)::assignEach (AI ns pt xs (i+1)) env)=none;rw[List.findIdx?_cons,ih (i+1)];rfl
theorem AY {pt:PT}{env:Env}{ns:Ns}(xs:List Nat):∀ i,(assignEach (AI ns pt xs i) env).map (·.2)=(AI ns pt xs i).map λ e=>assign e env:=by
 induction xs with
 |nil=>exact λ ω=>rfl
 |cons x xs ih=>exact λ i=>ae (_::·) (ih (i+1))
theorem PA {xs:List Nat}{e:IE}{kk:Nat}{v:Expr}{pt:PT}{p p':Pos}(hx:(xs.all λ x=>jG V.ns x .local)=true)(hc:eE v=true)(ht:notTup v=true)(ih:SE V e v):SS V (.unp xs e) (.Assign [.Tuple (AI V.ns pt xs 0) kk p'] v p):=λ {m σ s S} O w=>by
 have hw:swappedStores [.Tuple (AI V.ns pt xs 0) kk p'] v V.env=pure none:=by
  cases v<;>first|rfl|cases ht
 refine Assign_Tuple (gM (Rn.start O) (ih O w) λ u b σ₁ s₁ q r R1 ω=>?_) (i5 hc (some (.Tuple (AI V.ns pt xs 0) kk p')) p.line V.env:swapsWith v _ _ _=pure false) hw;rcases b with _|_|_|_|vs|_
 ·exact q.elim
 ·exact q.elim
 ·exact q.elim
 ·exact q.elim
 ·cases e:lA m xs vs with
  |none=>have q:(match lA m xs vs with|some m'=>S .next m'|none=>no) σ₁:=q;rw[e]at q;exact q.elim
  |some m'=>
   have q:(match lA m xs vs with|some m'=>S .next m'|none=>no) σ₁:=q;rw[e]at q;obtain⟨a,ws,j,rfl,et,rt,hlw,hz⟩:=r.tupL;refine wpAny_assign_Tuple (items:=ws) V.rm.hd ⟨_,et,rfl,_,rfl⟩ ((AA xs 0).trans ((DG e).symm.trans hlw.symm)) (yz xs 0) λ h' hk=>?_;have x:kg s₁.heap h':=λ b o e=>hk b o (Nat.ne_of_lt (Heap.lt_size e)) e;rw[AY];exact vj (s:={ s₁ with heap:=h' }) hx e ⟨R1.O.step (s₁:={ s₁ with heap:=h' }) (R1.O.G.ext x) (.ext x),R1.S.trans (.ext x),R1.T.trans ⟨h',s₁.toks,rfl⟩⟩ (rt.up x.tup) λ s₂ R2=>tH R2 q
 ·exact q.elim
end
section
variable {c:Cx}{V:Ev c}{T:q9}{m m':bB}{σ σ₀ σ₁:bH}{s s₀ s₁:Shared}{S:cm}
theorem Ok.sub (O:Ok V m σ s)(h:Sub m' m):Ok V m' σ s:=by
 obtain⟨mc,hn,hr⟩:=O.F.ns;exact⟨⟨⟨mc,hn,λ x av e=>hr x av (h x av e)⟩,O.F.own,O.F.new⟩,O.G⟩
theorem Rn.sub {X:Addr→Prop}(R:Rn V X σ₀ s₀ m σ s)(h:Sub m' m):Rn V X σ₀ s₀ m' σ s:=⟨R.O.sub h,R.S,R.T⟩
theorem LG {w:WT}{b:WS}(h:BB w b m S σ):∃ I k m',Sub m' m∧I k m' σ∧∀ k m σ,I k m σ→w m (yY (b m (Th I k S)) (S .next m)) σ:=by unfold BB at h;exact h
abbrev Y6 (V:Ev c)(S:cm)(σ₀:bH)(s₀:Shared):Flow→Shared→Prop:=c.Res (·=V.L) (k8 V.ns V.L) σ₀ s₀ (Dp S)
theorem Nn {ci:IE}{b:List IS}{t:Expr}{sb:List Stmt}{p:Pos}(i0:ST V ci t)(i1:D5 V b sb):SS V (.whl ci b) (.While t sb [] p):=λ {m σ s S} O w=>by
 obtain⟨I,j,m',hs,hI,step⟩:=LG w;refine wpAny_While (codeAny_whileLoop (λ j s₁=>∃ m₁ σ₁,I j m₁ σ₁∧Rn V (·=V.L) σ s m₁ σ₁ s₁) ?_ j ⟨m',σ,hI,(Rn.start O).sub hs⟩)
 rintro j s₁ ⟨m₁,σ₁,hI,R1⟩
 refine iG (gM R1 (i0 R1.O (step j m₁ σ₁ hI)) λ r rb σ₂ s₂ q rr R2 ω=>?_);obtain rfl:r=rb:=rr;cases r with
 |false=>exact (wpAny_pure (tH R2 q):wpAny _ _ (execs [] V.env) _ _ _)
 |true=>
  refine iG (wpAny_mono (i1 R2.O q) (λ fl s₃ h₃=>?_) λ ω ω z=>z);obtain⟨⟨a,m₃⟩,σ₃,h₃⟩:=h₃;have R3:Rn V (·=V.L) σ s m₃ σ₃ s₃:=⟨R2.O.of h₃,R2.S.trans h₃.st,R2.T.trans h₃.t⟩;have z:=h₃.q;have hf:v9 s₃.heap fl a:=h₃.r.f;rcases a with _|_|_|v
  ·obtain rfl:fl=_:=hf;obtain⟨k',m',hk,hs,hI'⟩:=z;exact⟨k',hk,m',σ₃,hI',R3.sub hs⟩
  ·obtain rfl:fl=_:=hf;exact tH R3 z
  ·obtain rfl:fl=_:=hf;obtain⟨k',m',hk,hs,hI'⟩:=z;exact⟨k',hk,m',σ₃,hI',R3.sub hs⟩
  ·obtain⟨u,rfl,ru⟩:=hf;exact fin (a:=.ret v) R3 ⟨u,rfl,ru⟩ z
structure FI (V:Ev c)(σ₀:bH)(s₀:Shared)(us:List AV)(it:Addr)(IA:Nat→Heap→Prop)(I:List AV→bB→SP)(j:Nat)(s:Shared)(i:Nat)(ws:List AV)(m:bB)(σ:bH):Prop where
 d:us.drop i=ws
 j:j=ws.length
 I:I ws m σ
 R:Rn V (·=V.L) σ₀ s₀ m σ s
 U:Lp c V.L s₀ it IA i σ s.heap
set_option tactic.hygienic true in
theorem mi {us:List AV}{it:Addr}{IA:Nat→Heap→Prop}{W:bH→Prop}{x:Nat}{p:Pos}{b:List IS}{sb:List Stmt}(It:mW c V.A it us IA W)(I:List AV→bB→SP)(S':cm)
  (hx:jG V.ns x .local=true) (ihb:D5 V b sb) (hob:∀ i h,IA i h→Ob h it) (hW:∀ ws m σ,I ws m σ→W σ)
  (hbody:∀ i u ws m σ,us.drop i=u::ws→I (u::ws) m σ→cA V.E b (m.set x u) (zJ (I ws) S') σ)
  (hret:∀ v m σ,S' (.ret v) m σ→S (.ret v) m σ) (hbrk:∀ m σ,S' .next m σ→S .next m σ)
  (hfin:∀ m σ s,I [] m σ→Rn V (·=V.L) σ₀ s₀ m σ s→Y6 V S σ₀ s₀ .next s)
  (h0:I us m σ) (R0:Rn V (·=V.L) σ₀ s₀ m σ s) (U0:Lp c V.L s₀ it IA 0 σ s.heap):
  codeAny c.M V.A (.forLoop (.Name (cL V.ns x) p) (.ref it) sb [] V.env) (λ r s'=>match r with|.ok f=>Y6 V S σ₀ s₀ f s'|.error e=>cameBackBy c.M V.A V.env gy e s') s:=by
 refine codeAny_forLoop (λ j s₁=>∃ i ws m₁ σ₁,FI V σ₀ s₀ us it IA I j s₁ i ws m₁ σ₁) ?_ us.length ⟨0,us,m,σ,rfl,rfl,h0,R0,U0⟩
 rintro j s₁ ⟨i,ws,m₁,σ₁,C⟩
 refine iG (wpAny_mono (nA It C.R C.U (hob _) (hW _ _ _ C.I)) (λ r s₂ N=>?_) λ ω ω z=>z);rcases N with⟨hd,R2,q⟩|⟨hd,rv,R2,U2,q,tl⟩
 ·have e:ws=[]:=C.d.symm.trans hd;exact (wpAny_pure (hfin m₁ σ₁ _ (e▸C.I) R2):wpAny _ _ (execs [] V.env) _ _ _)
 ·rename_i v u ws';obtain rfl:ws=u::ws':=C.d.symm.trans hd;refine nL It Vy hx R2 U2 rv λ s₃ R3 U3 S3 tl3=>iG (wpAny_mono (ihb R3.O (hbody i u ws' m₁ σ₁ hd C.I)) (λ fl s₄ h₄=>?_) λ ω ω z=>z);obtain⟨⟨a,m₄⟩,σ₄,h₄⟩:=h₄;have R4:Rn V (·=V.L) σ₀ s₀ m₄ σ₄ s₄:=⟨R3.O.of h₄,R3.S.trans h₄.st,R3.T.trans h₄.t⟩;have U4:=U3.step It h₄.st (x6 R3.O h₄.st);have z:=h₄.q;have hf:v9 s₄.heap fl a:=h₄.r.f;have go:∀ m',Sub m' m₄→I ws' m' σ₄→∃ j',j'<j∧∃ i ws m₁ σ₁,FI V σ₀ s₀ us it IA I j' s₄ i ws m₁ σ₁:=λ m' hs hI=>⟨ws'.length,C.j.symm▸bq ws'.length,i+1,ws',m',σ₄,oW hd,rfl,hI,R4.sub hs,U4⟩;rcases a with _|_|_|v
  ·obtain rfl:fl=_:=hf;obtain⟨m',hs,hI⟩:=z;exact go m' hs hI
  ·obtain rfl:fl=_:=hf;exact tH R4 (hbrk _ _ z)
  ·obtain rfl:fl=_:=hf;obtain⟨m',hs,hI⟩:=z;exact go m' hs hI
  ·obtain⟨u,rfl,ru⟩:=hf;exact fin (a:=.ret v) R4 ⟨u,rfl,ru⟩ (hret _ _ _ z)
theorem Rn.swap {X:Addr→Prop}{a:Addr}{ob ob':bO}(R:Rn V X σ₀ s₀ m σ s)(e:σ a=some ob)(hob:de c.prog c.w s.heap a ob'):Rn V X σ₀ s₀ m (σ.upd a ob') s:=
 ⟨R.O.step (R.O.G.upd e (λ ω ω=>rfl) hob) (.upd e (λ ω ω=>rfl) hob),R.S.trans (.upd e (λ ω ω=>rfl) hob),R.T⟩
theorem A8 {X:Addr→Prop}{a:Addr}{kvs:List (Int×AV)}{K:Value→Shared→Prop}(R:Rn V X σ₀ s₀ m σ s)(e:σ a=some (.dI kvs))
  (k:∀ ob it ep s',mW c V.A it (kvs.map λ p=>.int p.1) (λ i h=>h.IsKeyIter it a i kvs.length ep) (λ σ=>σ a=some (.dF ob kvs))→Rn V X σ₀ s₀ m (σ.upd a (.dF ob kvs)) s'→Lp c V.L s₀ it (λ i h=>h.IsKeyIter it a i kvs.length ep) 0 (σ.upd a (.dF ob kvs)) s'.heap→K (.ref it) s'):wpAny c.M V.A (pyIter (.ref a)) K gy s:=by
 obtain⟨cs,d,r,z⟩:=(R.O.G.objs _ _ e).2;obtain⟨ob,hob,hD⟩:=Heap.dictOf_iff.mp d;obtain⟨es,ep,hx1,hx2,hx3,hx4,hx5⟩:=id hD;refine wpAny_pyIter_dict (fE R.O.G e) (⟨ob,es,hob,hx1,hx2,hx3,hx4,hx5⟩:s.heap.DictAt (intKind c.prog c.w) a cs ep) ?_;have x:=kg.push (h:=s.heap) { cls:=.type "dict_keyiterator",data:=.fields #[.ref a,.int 0 0,.int cs.length 0,.int ep 0] };have h0:(s.heap.push { cls:=.type "dict_keyiterator",data:=.fields #[.ref a,.int 0 0,.int cs.length 0,.int ep 0] }).IsKeyIter s.heap.objs.size a 0 kvs.length ep:=r.length▸⟨_,Heap.get?_push_size _ rfl,rfl,rfl⟩;have U:=R.out _ (cu _) (G9 h0);have hob2:de c.prog c.w (s.heap.push { cls:=.type "dict_keyiterator",data:=.fields #[.ref a,.int 0 0,.int cs.length 0,.int ep 0] }) a (.dF ob kvs):=⟨x _ _ hob,cs,hD,r.up x.tup,z⟩;refine k ob _ ep _ (CW (n:=0) V.rm.hd λ h cs' e' D'=>?_) ((R.ext x s.toks).swap e hob2) ⟨⟨U.f,U.H,(fB λ q=>cz U.n (q▸e)).trans U.n,U.ob,U.l⟩,h0⟩;obtain⟨es',ep',y1,y2,y3,y4,y5⟩:=D';have q:=hx2.symm.trans y2;injection q with q1 q2
 subst q1 q2;exact⟨ob,es,e',y1,y2,y3,y4,y5⟩
theorem dg.thaw {a:Addr}{ob:Obj}{kvs:List (Int×AV)}(G:c.good σ s.heap)(e:σ a=some (.dF ob kvs)):de c.prog c.w s.heap a (.dI kvs):=by
 obtain⟨o1,cs2,d2,r2,z2⟩:=(G.objs _ _ e).2;exact⟨cs2,Heap.dictOf_iff.mpr ⟨ob,o1,d2⟩,r2,z2⟩
theorem Fr (I:bB→SP):EN I=zJ I λ ω ω=>no:=funext λ fl=>funext λ m=>by cases fl<;>rfl
theorem Jc {x:Nat}{b:WS}{us:List AV}(h:um x b m S us σ):∃ (I:List AV→bB→SP) (m':bB),Sub m' m∧I us m' σ∧
 (∀ u ws m σ,I (u::ws) m σ→b (m.set x u) (zJ (I ws) S) σ)∧(∀ m σ,I [] m σ→S .next m σ):=by unfold um at h;exact h
theorem HK {x:Nat}{b:WS}{a:Addr}(h:v7 x b m S a σ):(∃ us,σ a=some (.list us)∧∃ (I:List AV→bB→SP) (m':bB),Sub m' m∧I us m' σ∧
  (∀ u ws m σ,I (u::ws) m σ→σ a=some (.list us)∧b (m.set x u) (zJ (I ws) S) σ)∧(∀ m σ,I [] m σ→σ a=some (.list us)∧S .next m σ))∨
 (∃ kvs,σ a=some (.dI kvs)∧∀ ob,∃ (I:List AV→bB→SP) (m':bB),Sub m' m∧I (kvs.map λ p=>.int p.1) m' (σ.upd a (.dF ob kvs))∧
  (∀ u ws m σ,I (u::ws) m σ→σ a=some (.dF ob kvs)∧b (m.set x u) (EN (I ws)) σ)∧(∀ m σ,I [] m σ→σ a=some (.dF ob kvs)∧S .next m (σ.upd a (.dI kvs)))):=by unfold v7 at h;exact h
theorem I5 {x:Nat}{b:WS}{k:Int}(h:Av x b m S k σ):0≤k∧k<cX∧∃ (I:Nat→bB→SP) (m':bB),Sub m' m∧I 0 m' σ∧
 (∀ (i:Nat) m σ,(i:Int)<k→I i m σ→b (m.set x (.int i)) (zJ (I (i+1)) S) σ)∧(∀ m σ,I k.toNat m σ→S .next m σ):=by unfold Av at h;exact h
theorem Jz {x:Nat}{e:IE}{ie:Expr}{b:List IS}{sb:List Stmt}{p p':Pos}(hx:jG V.ns x .local=true)(hs:jZ ie=true)(ih:SE V e ie)(ihb:D5 V b sb):SS V (.fore x e b) (.For (.Name (cL V.ns x) p) ie sb [] p'):=λ {m σ s S} O w=>by
 refine wpAny_For (gM (Rn.start O) (ih O w) λ u ub σ₁ s₁ q r R ω=>?_) (kM hs);have q:LQ x (cA V.E b) m S ub σ₁:=q;rcases ub with _|_|_|_|us|a
 ·exact q.elim
 ·exact q.elim
 ·exact q.elim
 ·exact q.elim
 ·obtain⟨I,m',hs,hI,hb,he⟩:=Jc q;exact Cz R r λ t it s₂ R2 U=>mi (AC V.rm.hd) I S hx ihb (λ ω ω z=>BU z) (λ ω ω ω ω=>trivial) (λ i u ws m σ ω z=>hb u ws m σ z) (λ ω ω ω z=>z) (λ ω ω z=>z) (λ m σ s z R=>tH R (he m σ z)) hI (R2.sub hs) U
 ·obtain rfl:u=_:=r;rcases HK q with⟨us,e1,I,m',hs,hI,hb,he⟩|⟨kvs,e1,q⟩
  ·refine mU R e1 λ it s₂ R2 U=>mi (kD V.rm.hd) I S hx ihb (λ ω ω z=>uM z) (λ ws m σ z=>?_) (λ i u ws m σ ω z=>(hb u ws m σ z).2) (λ ω ω ω z=>z) (λ ω ω z=>z) (λ m σ s z R=>tH R (he m σ z).2) hI (R2.sub hs) U;rcases ws with _|⟨u,ws⟩
   ·exact (he m σ z).1
   ·exact (hb u ws m σ z).1
  ·refine A8 R e1 λ ob it ep s₂ It R2 U=>?_;obtain⟨I,m',hs,hI,hb,he⟩:=q ob;refine mi It I (λ ω ω=>no) hx ihb (λ ω ω z=>G9 z) (λ ws m σ z=>?_) (λ i u ws m σ ω z=>Fr (I ws)▸(hb u ws m σ z).2) (λ ω ω ω z=>z.elim) (λ ω ω z=>z.elim) (λ m σ s z R=>tH (R.swap (he m σ z).1 (R.O.G.thaw (he m σ z).1)) (he m σ z).2) hI (R2.sub hs) U;rcases ws with _|⟨u,ws⟩
   ·exact (he m σ z).1
   ·exact (hb u ws m σ z).1
theorem MT {n i l:Nat}(h:n - i=l):n - l=min i n:=by
 rcases Nat.le_total i n with q|q
 ·rw[Nat.min_eq_left q,←h,Nat.sub_sub_self q]
 ·rw[Nat.min_eq_right q,←h,Nat.sub_eq_zero_of_le q];rfl
theorem JN {x:Nat}{e:IE}{a:Expr}{b:List IS}{sb:List Stmt}{pt:PT}{p p':Pos}(hT:cV c T)(hx:jG V.ns x .local=true)(hb:jS T V.ns dD a=true)(ih:SE V e a)(ihb:D5 V b sb):SS V (.forR x e b) (.For (.Name (cL V.ns x) p) (iX dD pt [a]) sb [] p'):=λ {m σ s S} O w=>by
 refine wpAny_For (gN hT hb sR O (fm _) (gM (Rn.start O) (ih O w) λ u ub σ₁ s₁ q r R ω=>⟨dg.inH R.O.G,?_⟩)) (λ ω=>rfl);obtain⟨k,rfl,q⟩:=j4 q;obtain⟨t,rfl⟩:=r;obtain⟨h0,h1,I,m',hs,hI,hstep,hend⟩:=I5 q;obtain⟨n,rfl⟩:=Int.eq_ofNat_of_zero_le h0;have h1:=Int.ofNat_lt.mp h1;have eq:∀ {i:Nat} {ws:List AV},(jN n).drop i=ws→n - ws.length=min i n:=λ {i ws} h=>by
  have:=ae List.length h;rw[List.length_drop,io]at this;exact MT this
 refine t9 R h1 λ it s₂ R2 U=>mi (tQ V.rm.hd) (λ ws m=>I (n - ws.length) m) S hx ihb (λ ω ω z=>Gf z) (λ ω ω ω ω=>trivial) (λ i u ws m σ hd z=>?_) (λ ω ω ω z=>z) (λ ω ω z=>z) (λ m σ s z R=>tH R (hend m σ z)) ?_ (R2.sub hs) U
 ·obtain⟨g1,rfl⟩:=o7 (oQ hd);have z:I (n - (AV.int (i:Nat)::ws).length) m σ:=z;rw[eq hd,Nat.min_eq_left (aW g1)]at z;show cA V.E b (m.set x (.int (i:Nat))) (zJ (I (n - ws.length)) S) σ;rw[eq (oW hd),Nat.min_eq_left g1];exact hstep i m σ (ba g1) z
 ·show I (n - (jN n).length) m' _;rw[io,Nat.sub_self];exact hI
abbrev N2 (c:Cx)(T:q9)(i:IS):Prop:=∀ (V:Ev c) (pt:PT),Ee V→Zf T V.dx i V.ns pt=true→SS V i (Zl V.ds i V.ns pt)
abbrev GB (c:Cx)(T:q9)(is:List IS):Prop:=∀ (V:Ev c) (pt:PT) (i:Nat),Ee V→pg T V.dx is V.ns pt i=true→D5 V is (pr V.ds is V.ns pt i)
theorem I9 {e:IE}{p:Pos}(h:BR e=true):SS V (.ret e) (.Return none p):=λ {m σ s S} O w=>by
 cases e<;>first|exact FE (fl:=.ret .none) (a:=.ret .none) rfl O ⟨_,rfl,.mkN⟩ w|cases h
theorem X1 (hT:cV c T)(i:IS):N2 c T i:=
 IS.rec (motive_1:=N2 c T) (motive_2:=GB c T)
  (asg:=λ x e V pt ω h=>Mq (bz (bz h)) (bA (bz h)) (iW hT e V _ (bA h)).se)
  (asgC:=λ x e V pt ω h=>Ka (bz (bz h)) (bA (bz h)) (iW hT e V _ (bA h)).se)
  (unp:=λ xs e V pt ω h=>PA (bz (bz (bz h))) (bA (bz (bz h))) (bA (bz h)) (iW hT e V _ (bA h)).se)
  (setA:=λ C e x v V pt ω h=>Jy hT (bz (bz (bz h))) (bA (bz (bz h))) (iW hT v V _ (bA (bz h))).se (iW hT e V _ (bA h)).se)
  (setI:=λ e k v V pt ω h=>HD (bz (bz (bz h))) (iW hT v V _ (bA (bz (bz h)))).se (iW hT e V _ (bA (bz h))).se (iW hT k V _ (bA h)).se)
  (augA:=λ x e V pt ω h=>Kf (bz h) (iW hT e V _ (bA h)).se)
  (augS:=λ e k neg v V pt ω h=>Ip (bz (bz (bz h))) (iW hT e V _ (bA (bz (bz h)))).se (iW hT k V _ (bA (bz h))).se (iW hT v V _ (bA h)).se)
  (ex:=λ e V pt ω h=>XQ (bz h) (iW hT e V _ (bA h)).se)
  (ife:=λ ci a b ia ib V pt D h=>Yb (iW hT ci V _ (bz (bz h))).st (ia V _ _ D (bA (bz h))) (ib V _ _ D (bA h)))
  (whl:=λ ci b ib V pt D h=>Nn (iW hT ci V _ (bz h)).st (ib V _ _ D (bA h)))
  (fore:=λ x e b ib V pt D h=>Jz (bz (bz (bz h))) (bA (bz (bz h))) (iW hT e V _ (bA (bz h))).se (ib V _ _ D (bA h)))
  (forR:=λ x e b ib V pt D h=>JN hT (bz (bz (bz h))) (bA (bz (bz h))) (iW hT e V _ (bA (bz h))).se (ib V _ _ D (bA h)))
  (ret:=λ e V pt ω h=>by
   have h:(match pt.k with|0=>d8 T e V.ns (pt.c 0)|_+1=>BR e)=true:=h;show SS V (.ret e) (.Return (match pt.k with|0=>some (tr e V.ns (pt.c 0))|_+1=>none) pt.p);cases z:pt.k with
   |zero=>rw[z]at h;exact Ql (iW hT e V _ h).se
   |succ k=>rw[z]at h;exact I9 h)
  (brk:=λ V pt ω h=>λ O w=>FE (fl:=.brk) (a:=.brk) rfl O rfl w)
  (cont:=λ V pt ω h=>λ O w=>FE (fl:=.cont) (a:=.cont) rfl O rfl w)
  (pass:=λ V pt ω h=>λ O w=>FE (fl:=.next) (a:=.next) rfl O rfl w)
  (asgLC:=λ y el e V pt ω h=>have h2:=bA h;λ O w=>Dy (bz (bz h)) (bA (bz h)) (mV (bz (bz (bz (bz h2))))) (bA (bz (bz (bz h2)))) (bA (bz (bz h2))) (iW hT e V _ (bA (bz h2))).se (oC (iW hT el) (bA h2)) O w)
  (rais:=λ V pt ω h=>λ O w=>w.elim)
  (defc:=λ x V pt D h=>λ O w=>by obtain rfl:x=V.dx:=bg (bA h);exact D (bz h) O w)
  (nil:=λ V pt i ω h=>λ O w=>wpAny_pure (tH (Rn.start O) w))
  (cons:=λ i r ii ir V pt j D h=>GA (ii V _ D (bz h)) (ir V _ _ D (bA h)))
  i
theorem Bb (hT:cV c T)(is:List IS):GB c T is:=by
 induction is with
 |nil=>exact λ V pt i ω h=>λ O w=>wpAny_pure (tH (Rn.start O) w)
 |cons i r ih=>exact λ V pt j D h=>GA (X1 hT i V _ D (bz h)) (ih V _ _ D (bA h))
end
noncomputable abbrev bT:=Addr×bO
noncomputable def eH:List bT→Nat→Option bT
 |[],_=>none
 |x::r,i=>match i with|0=>some x|i+1=>eH r i
noncomputable def put:List bT→Nat→bO→List bT
 |[],_,_=>[]
 |x::r,i,o=>match i with|0=>(x.1,o)::r|i+1=>x::put r i o
def fH (σ:bH):List bT→Prop
 |[]=>True
 |x::r=>σ x.1=some x.2∧(∀ y∈r,y.1≠x.1)∧fH σ r
def At (l:List bT)(X:SP):Prop:=∀ σ,fH σ l→X σ
theorem Dc {σ:bH}{a:Addr}{o:bO}:(σ.upd a o) a=some o:=aL rfl
theorem A6 {σ:bH}{a b:Addr}{o:bO}(h:b≠a):(σ.upd a o) b=σ b:=aK h
theorem fH.mem {σ:bH}{x:bT}:∀ {l:List bT},fH σ l→x∈l→σ x.1=some x.2:=by
 intro l
 induction l with
 |nil=>exact λ ω h=>nomatch h
 |cons y r ih=>exact λ h hm=>(ap hm).elim (λ e=>e▸h.1) (ih h.2.2)
theorem mF {x:bT}:∀ {l:List bT} {i:Nat},eH l i=some x→x∈l:=by
 intro l
 induction l with
 |nil=>exact λ h=>nomatch h
 |cons y r ih=>exact λ {i}=>match i with|0=>λ h=>aA h▸af ..|i+1=>λ h=>ag _ (ih h)
theorem fH.get {σ:bH}{a:Addr}{o:bO}{l:List bT}{i:Nat}(h:fH σ l)(e:eH l i=some (a,o)):σ a=some o:=h.mem (mF e)
theorem fH.far {σ:bH}{a:Addr}{o:bO}:∀ {l:List bT},(∀ x∈l,x.1≠a)→fH σ l→fH (σ.upd a o) l:=by
 intro l
 induction l with
 |nil=>exact λ ω ω=>trivial
 |cons y r ih=>exact λ h ho=>⟨(A6 (h y (af ..))).trans ho.1,ho.2.1,ih (λ x hx=>h x (ag _ hx)) ho.2.2⟩
theorem Ey {o:bO}(p:Addr→Prop):∀ {l:List bT} {i:Nat},(∀ y∈l,p y.1)→∀ y∈put l i o,p y.1:=by
 intro l
 induction l with
 |nil=>exact λ h=>h
 |cons x r ih=>
  exact λ {i}=>match i with
  |0=>λ h y hy=>(ap hy).elim (λ e=>e▸h x (af ..)) λ z=>h y (ag _ z)
  |i+1=>λ h y hy=>(ap hy).elim (λ e=>e▸h x (af ..)) (ih (λ z hz=>h z (ag _ hz)) y)
theorem fH.put {σ:bH}{a:Addr}{o o':bO}:∀ {l:List bT} {i:Nat},fH σ l→eH l i=some (a,o)→fH (σ.upd a o') (put l i o'):=by
 intro l
 induction l with
 |nil=>exact λ ω h=>nomatch h
 |cons x r ih=>
  exact λ {i}=>match i with
  |0=>λ h e=>by cases aA e;exact⟨Dc,h.2.1,h.2.2.far h.2.1⟩
  |i+1=>λ h e=>⟨(A6 λ q=>h.2.1 _ (mF e) q.symm).trans h.1,Ey (·≠x.1) h.2.1,ih h.2.2 e⟩
theorem fH.fresh {σ:bH}{a:Addr}{l:List bT}(h:fH σ l)(ha:σ a=none):∀ y∈l,y.1≠a:=λ y hy q=>by have:=h.mem hy;rw[q,ha]at this;cases this
theorem fH.new {σ:bH}{a:Addr}{o:bO}{l:List bT}(h:fH σ l)(ha:σ a=none):fH (σ.upd a o) ((a,o)::l):=⟨Dc,h.fresh ha,h.far (h.fresh ha)⟩
noncomputable def cut:List bT→Nat→Option (bT×List bT)
 |[],_=>none
 |x::r,i=>match i with|0=>some (x,r)|i+1=>(match cut r i with|some (y,q)=>some (y,x::q)|none=>none)
noncomputable def pk:List Nat→List bT→List bT
 |[],l=>l
 |i::is,l=>match cut l i with|some (y,q)=>y::pk is q|none=>l
theorem CZ {y:bT}:∀ {l:List bT} {i:Nat} {q:List bT},cut l i=some (y,q)→(y::q).Perm l:=by
 intro l
 induction l with
 |nil=>exact λ h=>nomatch h
 |cons x r ih=>
  exact λ {i q}=>match i with
  |0=>λ h=>by cases aA h;exact .refl _
  |i+1=>λ h=>by
   rw[cut]at h
   revert h
   cases e:cut r i with
   |none=>exact nofun
   |some z=>intro h;cases aA h;exact (List.Perm.swap ..).trans ((ih e).cons x)
theorem Fq:∀ (is:List Nat) (l:List bT),(pk is l).Perm l:=by
 intro is
 induction is with
 |nil=>exact λ l=>.refl l
 |cons i is ih=>
  intro l;rw[pk];cases e:cut l i with
  |none=>exact .refl l
  |some z=>exact ((ih z.2).cons z.1).trans (CZ e)
theorem fH.perm {σ:bH}{l l':List bT}(h:l'.Perm l):fH σ l'↔fH σ l:=by
 induction h with
 |nil=>exact .rfl
 |cons x p ih=>exact⟨λ h=>⟨h.1,λ y hy=>h.2.1 y (p.mem_iff.mpr hy),ih.mp h.2.2⟩,λ h=>⟨h.1,λ y hy=>h.2.1 y (p.mem_iff.mp hy),ih.mpr h.2.2⟩⟩
 |swap x y l=>
  have f:∀ x y:bT,fH σ (x::y::l)→fH σ (y::x::l):=λ x y h=>⟨h.2.2.1,λ z hz=>(ap hz).elim (λ e=>e▸(h.2.1 y (af ..)).symm) (h.2.2.2.1 z),h.1,λ z hz=>h.2.1 z (ag _ hz),h.2.2.2.2⟩;exact⟨f y x,f x y⟩
 |trans _ _ a b=>exact a.trans b
theorem fH.app {σ:bH}{l r:List bT}:fH σ (l++r)→fH σ r:=by
 induction l with
 |nil=>exact id
 |cons x l ih=>exact λ h=>ih h.2.2
theorem fH.sub {σ:bH}{l l':List bT}(h:l'.Sublist l):fH σ l→fH σ l':=by
 induction h with
 |slnil=>exact id
 |cons x _ ih=>exact λ h=>ih h.2.2
 |cons_cons x s ih=>exact λ h=>⟨h.1,λ y hy=>h.2.1 y (s.subset hy),ih h.2.2⟩
noncomputable def rm:List Nat→List bT→List bT
 |[],l=>l
 |i::is,l=>rm is (l.eraseIdx i)
theorem Kn (is:List Nat):∀ l:List bT,(rm is l).Sublist l:=by
 induction is with
 |nil=>exact λ l=>.refl l
 |cons i is ih=>exact λ l=>(ih _).trans (List.eraseIdx_sublist l i)
section
variable {l:List bT}{a b dx C:Addr}{Q:bI}{K:BP}{v:AV}{x:Sx}{X:SP}
theorem At.pk (is:List Nat)(h:At (pk is l) X):At l X:=λ σ ho=>h σ ((fH.perm (Fq is l)).mpr ho)
theorem At.rm (is:List Nat)(h:At (rm is l) X):At l X:=λ σ ho=>h σ (ho.sub (Kn is l))
theorem At.drop {l':List bT}(h:At l X):At (l'++l) X:=λ σ ho=>h σ ho.app
theorem At.drop1 {e:bT}(h:At l X):At (e::l) X:=λ σ ho=>h σ ho.2.2
theorem At.drop2 {e e':bT}(h:At l X):At (e::e'::l) X:=λ σ ho=>h σ ho.2.2.2.2
theorem At.mid {e:bT}{l₁ l₂:List bT}(h:At (l₁++e::l₂) X):At (e::(l₁++l₂)) X:=λ σ ho=>h σ ((fH.perm List.perm_middle).mpr ho)
theorem At.snoc {e:bT}(h:At (l++[e]) X):At (e::l) X:=λ σ ho=>h σ ((fH.perm (List.perm_append_singleton e l)).mpr ho)
theorem At.bring {l₁ l₂ l₃:List bT}{e:bT}(h:At (l₁++(e::(l₂++l₃))) X):At (l₁++(l₂++e::l₃)) X:=λ σ ho=>h σ ((fH.perm (.append_left _ List.perm_middle.symm)).mpr ho)
theorem At.back {l₁ l₂ l₃:List bT}{e:bT}(h:At (l₁++(l₂++e::l₃)) X):At (l₁++(e::(l₂++l₃))) X:=λ σ ho=>h σ ((fH.perm (.append_left _ List.perm_middle)).mpr ho)
theorem At.dropR {l':List bT}(h:At l X):At (l++l') X:=λ σ ho=>h σ (ho.sub (List.sublist_append_left ..))
theorem At.dim {e:bT}{l₁ l₂:List bT}(h:At (e::(l₁++l₂)) X):At (l₁++e::l₂) X:=λ σ ho=>h σ ((fH.perm List.perm_middle).mp ho)
theorem At.perm {l':List bT}(p:l'.Perm l)(h:At l' X):At l X:=λ σ ho=>h σ ((fH.perm p).mpr ho)
theorem bJ {ob:bO}(h:∀ a,At ((a,ob)::l) (Q (.loc a))):At l (dq ob Q):=λ σ ho=>by unfold dq;exact λ a ha=>h a _ (ho.new ha)
theorem p3 {p:Prop}(h:p→At l (K true))(h':¬ p→At l (K false)):At l (g5 p K):=λ σ ho=>by unfold g5;exact⟨λ q=>h q σ ho,λ q=>h' q σ ho⟩
theorem bQ {p:Prop}(q:p)(h:At l (K true)):At l (g5 p K):=p3 (λ ω=>h) λ z=>absurd q z
theorem bP {p:Prop}(q:¬ p)(h:At l (K false)):At l (g5 p K):=p3 (λ z=>absurd z q) λ ω=>h
theorem hY {vs:List AV}{c:Bool}(i:Nat)(e:eH l i=some (a,.list vs))(ec:(!vs.isEmpty)=c)(h:At l (K c)):At l (AU K a):=λ σ ho=>by unfold AU;exact⟨vs,ho.get e,ec▸h σ ho⟩
theorem gH {y:AV}(h1:v.pl=true)(h2:y.pl=true)(h3:min v.dep y.dep≤50)(h:At l (g5 (v=y) K)):At l (F0 K v y):=λ σ ho=>by unfold F0;exact⟨h1,h2,h3,h σ ho⟩
theorem qL {xs ys:List AV}(i j:Nat)(e:eH l i=some (a,.list xs))(e':eH l j=some (b,.list ys))(h1:AV.pls xs=true)(h2:AV.pls ys=true)(h3:min (AV.deps xs) (AV.deps ys)≤50)(h:At l (g5 (xs=ys) K)):At l (Nz K a b):=λ σ ho=>by
 unfold Nz;exact⟨xs,ys,ho.get e,ho.get e',h1,h2,h3,h σ ho⟩
theorem dv {ys:List AV}(h1:v.pl=true)(h2:AV.pls ys=true)(h3:min v.dep (AV.deps ys)≤50)(h:At l (g5 (v∈ys) K)):At l (Ht K v ys):=λ σ ho=>by unfold Ht;exact⟨h1,h2,h3,h σ ho⟩
theorem fF {ys:List AV}(i:Nat)(e:eH l i=some (b,.list ys))(h:At l (Ht K v ys)):At l (DW K v b):=λ σ ho=>by unfold DW;exact .inl ⟨ys,ho.get e,h σ ho⟩
theorem lR {kvs:List (Int×AV)}{k:Int}(i:Nat)(e:eH l i=some (b,.dI kvs))(h:At l (g5 ((bM kvs k).isSome=true) K)):At l (DW K (.int k) b):=λ σ ho=>by unfold DW;exact .inr ⟨kvs,k,ho.get e,rfl,h σ ho⟩
theorem cZ {vs:List AV}{k:Int}(i:Nat)(e:eH l i=some (a,.list vs))(ev:wj vs k=some v)(h:At l (Q v)):At l (ow Q (.int k) a):=λ σ ho=>by unfold ow;exact⟨_,v,ho.get e,.list ev,h σ ho⟩
theorem iR {kvs:List (Int×AV)}{k:Int}(i:Nat)(e:eH l i=some (a,.dI kvs))(ev:bM kvs k=some v)(h:At l (Q v)):At l (ow Q (.int k) a):=λ σ ho=>by unfold ow;exact⟨_,v,ho.get e,.dI ev,h σ ho⟩
theorem J1 {o:Obj}{kvs:List (Int×AV)}{k:Int}(i:Nat)(e:eH l i=some (a,.dF o kvs))(ev:bM kvs k=some v)(h:At l (Q v)):At l (ow Q (.int k) a):=λ σ ho=>by unfold ow;exact⟨_,v,ho.get e,.dF ev,h σ ho⟩
theorem gv {kvs:List (Sx×AV)}{k:Sx}(i:Nat)(e:eH l i=some (a,.dS kvs))(ev:bM kvs k=some v)(h:At l (Q v)):At l (ow Q (.str k) a):=λ σ ho=>by unfold ow;exact⟨_,v,ho.get e,.dS ev,h σ ho⟩
theorem eR {o:Option AV}(e:o=some v)(h:At l (Q v)):At l (tq o Q):=by subst e;exact h
theorem iK {kvs:List (Int×AV)}{k:Int}(i:Nat)(e:eH l i=some (a,.dI kvs))(hl:kvs.length<cX)(h:At (put l i (.dI (cn kvs k v))) X):At l (putL X v (.int k) a):=λ σ ho=>by unfold putL;exact⟨_,_,ho.get e,.dI hl,h _ (ho.put e)⟩
theorem JL {vs:List AV}{k:Nat}(i:Nat)(e:eH l i=some (a,.list vs))(hl:k<vs.length)(h:At (put l i (.list (vs.set k v))) X):At l (putL X v (.int k) a):=λ σ ho=>by unfold putL;exact⟨_,_,ho.get e,.list hl,h _ (ho.put e)⟩
theorem CA {kvs:List (Sx×AV)}{k:Sx}(i:Nat)(e:eH l i=some (a,.dS kvs))(hl:kvs.length<cX)(h:At (put l i (.dS (cn kvs k v))) X):At l (putL X v (.str k) a):=λ σ ho=>by unfold putL;exact⟨_,_,ho.get e,.dS hl,h _ (ho.put e)⟩
theorem HA {kvs:List (List Int×AV)}{is:List AV}{ks:List Int}(i:Nat)(e:eH l i=some (a,.dT kvs))(ei:gA is=some ks)(hl:kvs.length<cX)(h:At (put l i (.dT (cn kvs ks v))) X):At l (putL X v (.tup is) a):=λ σ ho=>by unfold putL;exact⟨_,_,ho.get e,.dT ei hl,h _ (ho.put e)⟩
theorem bS {fs:List (Sx×AV)}(i j:Nat)(e:eH l i=some (a,.inst C dx))(e':eH l j=some (dx,.ns fs))(ev:bM fs x=some v)(h:At l (Q v)):At l (attrL C x Q a):=λ σ ho=>by unfold attrL;exact⟨dx,fs,v,ho.get e,ho.get e',ev,h σ ho⟩
theorem cQ {fs fs':List (Sx×AV)}(i j:Nat)(e:eH l i=some (a,.inst C dx))(e':eH l j=some (dx,.ns fs))(hl:fs.length<900)(ev:cn fs x v=fs')(h:At (put l j (.ns fs')) X):At l (rq C x v X a):=λ σ ho=>by unfold rq;exact⟨dx,fs,ho.get e,ho.get e',hl,ev▸h _ (ho.put e')⟩
theorem cj {fs:List (Sx×AV)}(i j:Nat)(e:eH l i=some (a,.inst C dx))(e':eH l j=some (dx,.ns fs))(ev:bM fs x=none)(h:At l X):At l (uN C x a X):=λ σ ho=>by unfold uN;exact⟨dx,fs,ho.get e,ho.get e',ev,h σ ho⟩
theorem bF {vs:List AV}(i:Nat)(e:eH l i=some (a,.list vs))(h:At l X):At l (zv a X):=λ σ ho=>by unfold zv;exact⟨⟨vs,ho.get e⟩,h σ ho⟩
theorem l8 {ob:bO}(i:Nat)(e:eH l i=some (a,ob))(d:vG ob)(h:At l X):At l (yU a X):=λ σ ho=>by unfold yU;exact⟨⟨ob,ho.get e,d⟩,h σ ho⟩
theorem bG {vs:List AV}(i:Nat)(e:eH l i=some (a,.list vs))(hl:vs.length<cX)(h:At (put l i (.list (vs++[v]))) (Q .none)):At l (vw Q a v):=λ σ ho=>by unfold vw;exact⟨vs,ho.get e,hl,h _ (ho.put e)⟩
theorem pD {vs:List AV}(i:Nat)(e:eH l i=some (a,.list (vs++[v])))(h:At (put l i (.list vs)) (Q v)):At l (vH Q a):=λ σ ho=>by unfold vH;exact⟨vs,v,ho.get e,h _ (ho.put e)⟩
theorem O7 {vs:List AV}(i:Nat)(e:eH l i=some (a,.list vs))(h:At (put l i (.list vs.reverse)) (Q .none)):At l (wc Q a):=λ σ ho=>by unfold wc;exact⟨vs,ho.get e,h _ (ho.put e)⟩
theorem pC {kvs:List (Int×AV)}{k:Int}{d:AV}(i:Nat)(e:eH l i=some (a,.dI kvs))(ev:(bM kvs k).getD d=v)(h:At l (Q v)):At l (getL Q a (.int k) d):=λ σ ho=>by unfold getL;exact⟨_,_,ho.get e,.dI,ev▸h σ ho⟩
theorem z9 {kvs:List (Sx×AV)}{k:Sx}{d:AV}(i:Nat)(e:eH l i=some (a,.dS kvs))(ev:(bM kvs k).getD d=v)(h:At l (Q v)):At l (getL Q a (.str k) d):=λ σ ho=>by unfold getL;exact⟨_,_,ho.get e,.dS,ev▸h σ ho⟩
theorem C0 {kvs:List (List Int×AV)}{is:List AV}{ks:List Int}{d:AV}(i:Nat)(e:eH l i=some (a,.dT kvs))(ei:gA is=some ks)(ev:(bM kvs ks).getD d=v)(h:At l (Q v)):At l (getL Q a (.tup is) d):=λ σ ho=>by unfold getL;exact⟨_,_,ho.get e,.dT ei,ev▸h σ ho⟩
theorem Ge {vs ws:List AV}(i:Nat)(e:eH l i=some (a,.list vs))(hl:vs.length+ws.length<cX)(h:At (put l i (.list (vs++ws.reverse))) (Q .none)):At l (yM Q a (.tup ws)):=λ σ ho=>by unfold yM;exact⟨vs,ws,ho.get e,rfl,hl,h _ (ho.put e)⟩
theorem Kp {K:List AV→SP}{vs:List AV}(i:Nat)(e:eH l i=some (a,.list vs))(h:At l (K vs)):At l (lK K a):=λ σ ho=>by unfold lK;exact⟨_,vs,ho.get e,.list,h σ ho⟩
theorem BQ {K:List AV→SP}{kvs:List (Int×AV)}(i:Nat)(e:eH l i=some (a,.dI kvs))(h:At l (K (kvs.map λ p=>.int p.1))):At l (lK K a):=λ σ ho=>by unfold lK;exact⟨_,_,ho.get e,.dI,h σ ho⟩
theorem fM {vs:List AV}{k:Nat}(i:Nat)(e:eH l i=some (a,.list vs))(en:vs.length=k)(h:At l (Q (.int k))):At l (u5 Q a):=λ σ ho=>by unfold u5;exact⟨_,_,ho.get e,.list,en▸h σ ho⟩
theorem wN {kvs:List (Int×AV)}(i:Nat)(e:eH l i=some (a,.dI kvs))(h:At l (Q (.int kvs.length))):At l (u5 Q a):=λ σ ho=>by unfold u5;exact⟨_,_,ho.get e,.dI,h σ ho⟩
theorem uz {vs:List AV}(i:Nat)(e:eH l i=some (a,.list vs))(h:At l (Q (.tup vs))):At l (tupL Q a):=λ σ ho=>by unfold tupL;exact⟨vs,ho.get e,h σ ho⟩
theorem HB {kvs:List (Int×AV)}(i:Nat)(e:eH l i=some (a,.dI kvs))(h:∀ b,At ((b,.dI kvs)::l) (Q (.loc b))):At l (rA Q a):=λ σ ho=>by unfold rA;exact⟨kvs,ho.get e,bJ h σ ho⟩
theorem Ii {vs:List AV}(i:Nat)(e:eH l i=some (a,.list vs))(h:∀ b,At ((b,.list vs.reverse)::l) (Q (.loc b))):At l (qH Q a):=λ σ ho=>by unfold qH;exact⟨vs,ho.get e,bJ h σ ho⟩
theorem Jj {k:Nat}(hk:k<cX)(h:∀ b,At ((b,.list (jN k))::l) (Q (.loc b))):At l (qR Q k):=λ σ ho=>by unfold qR;exact⟨bf k,ba hk,bJ h σ ho⟩
theorem BO {vs:List AV}{is:List Int}(i:Nat)(e:eH l i=some (a,.list vs))(ei:gA vs=some is)(hl:is.length<64)(h:∀ b,At ((b,.list ((jI is).map .int))::l) (Q (.loc b))):At l (qV Q a):=λ σ ho=>by unfold qV;exact⟨vs,is,ho.get e,ei,hl,bJ h σ ho⟩
theorem Gz {i:Int}(h0:0≤i)(h1:i<1000000)(h:At l (Q (.str (jR i)))):At l (y7 Q i):=λ σ ho=>by unfold y7;exact⟨h0,h1,h σ ho⟩
theorem zX {s t:Sx}(hl:s.length+t.length≤10000)(h:At l (Q (.str (s++t)))):At l (BE Q s t):=λ σ ho=>by unfold BE;exact⟨hl,h σ ho⟩
theorem ny {xs ys:List AV}(i j:Nat)(e:eH l i=some (a,.list xs))(e':eH l j=some (b,.list ys))(hl:xs.length+ys.length<cX)(h:∀ c,At ((c,.list (xs++ys))::l) (Q (.loc c))):At l (Az Q a b):=λ σ ho=>by unfold Az;exact⟨xs,ys,ho.get e,ho.get e',hl,bJ h σ ho⟩
theorem fH.ne {σ:bH}{i j:Nat}{o o':bO}:∀ {l:List bT} {i j:Nat},fH σ l→i≠j→eH l i=some (a,o)→eH l j=some (b,o')→a≠b:=by
 intro l
 induction l with
 |nil=>exact λ ω ω h=>nomatch h
 |cons x r ih=>
  exact λ {i j}=>match i,j with
  |0,0=>λ ω h=>absurd rfl h
  |0,j+1=>λ h ω e e'=>by cases aA e;exact (h.2.1 _ (mF e')).symm
  |i+1,0=>λ h ω e e'=>by cases aA e';exact h.2.1 _ (mF e)
  |i+1,j+1=>λ h hn e e'=>ih h.2.2 (λ q=>hn (ae _ q)) e e'
theorem xL {xs ys:List AV}(i j:Nat)(e:eH l i=some (a,.list xs))(e':eH l j=some (b,.list ys))(hn:i≠j)(hl:xs.length+ys.length<cX)(h:At (put l i (.list (xs++ys))) (Q (.loc a))):At l (uI Q a b):=λ σ ho=>by unfold uI;exact⟨xs,ys,ho.get e,ho.get e',fH.ne (i:=i) (j:=j) ho hn e e',hl,h _ (ho.put e)⟩
theorem Gm {i j:Int}(h0:0<j)(h:At l (Q (.int (i%j)))):At l (wM Q i j):=λ σ ho=>by unfold wM;exact⟨h0,h σ ho⟩
theorem HY {i j:Int}(h0:0<j)(h1:j<1000000)(h:At l (Q (.int (i/j)))):At l (qg Q i j):=λ σ ho=>by unfold qg;exact⟨h0,h1,h σ ho⟩
theorem Cf {vs:List AV}{k:Nat}(i:Nat)(e:eH l i=some (a,.list vs))(hk:k<2 ^ 60)(h:∀ b,At ((b,.list (vs.drop k))::l) (Q (.loc b))):At l (yI Q k a):=λ σ ho=>by
 unfold yI;exact⟨_,vs,ho.get e,.list,bf k,ba hk,bJ h σ ho⟩
theorem FV {ob:bO}{vs:List AV}{k:Nat}(i:Nat)(e:eH l i=some (a,ob))(hv:sH ob vs)(hk:k<2 ^ 60)(h:∀ b,At ((b,.list (vs.take k))::l) (Q (.loc b))):At l (yJ Q k a):=λ σ ho=>by
 unfold yJ;exact⟨_,vs,ho.get e,hv,bf k,ba hk,bJ h σ ho⟩
theorem dh (i:Nat)(e:eH l i=some (a,.cell (some v)))(h:At l (Q v)):At l (qP Q a):=λ σ ho=>by unfold qP;exact⟨v,ho.get e,h σ ho⟩
theorem rV {v₀:Option AV}(i:Nat)(e:eH l i=some (a,.cell v₀))(h:At (put l i (.cell (some v))) X):At l (qN v X a):=λ σ ho=>by unfold qN;exact⟨v₀,ho.get e,h _ (ho.put e)⟩
theorem Q4 {kvs:List (Int×AV)}{k:Int}(i:Nat)(e:eH l i=some (a,.dI kvs))(hl:kvs.length<cX)(h:∀ b,At ((b,.list [])::l) (fw Q a kvs k (.loc b))):At l (mZ Q a (.int k)):=λ σ ho=>by unfold mZ;exact⟨kvs,k,ho.get e,rfl,hl,bJ h σ ho⟩
theorem JQ {kvs:List (Int×AV)}{k:Int}{d:AV}(e:bM kvs k=some v)(h:At l (Q v)):At l (fw Q a kvs k d):=λ σ ho=>by unfold fw;rw[e];exact h σ ho
theorem Jb {kvs:List (Int×AV)}{k:Int}{d:AV}{o:bO}(i:Nat)(e':eH l i=some (a,o))(e:bM kvs k=none)(h:At (put l i (.dI (cn kvs k d))) (Q d)):At l (fw Q a kvs k d):=λ σ ho=>by unfold fw;rw[e];exact h _ (ho.put e')
noncomputable def mB (f:Int→AV):List Int→List (Int×AV)→List (Int×AV)
 |[],d=>d
 |k::r,d=>mB f r (cn d k (f k))
theorem Qa {w:WE}{f:Int→AV}{xs:List Int}(i:Nat)(e:eH l i=some (a,.list (xs.map .int)))(hz:xs.length<1000)(hv:∀ k∈xs,∀ K:bI,At l (K (f k))→At l (w (cJ.set 1 (.int k)) K))
  (h:∀ b,At ((b,.dI (mB f xs []))::l) (Q (.loc b))):At l (Da w Q a):=λ σ ho=>by
 unfold Da;refine⟨_,ho.get e,ac (am (ak _)) hz,λ kvs ws σ'=>fH σ' l∧∃ ys,ws=ys.map .int∧(∀ k∈ys,k∈xs)∧mB f ys kvs=mB f xs [],⟨ho,xs,rfl,λ ω h=>h,rfl⟩,?_,?_⟩
 ·rintro kvs u ws σ' ⟨ho,ys,e2,hs,hd⟩
  rcases ys with _|⟨y,ys⟩
  ·cases e2
  ·cases e2;exact⟨ho.get e,y,rfl,hv y (hs y (af ..)) _ (λ σ' ho=>⟨ho,ys,rfl,λ k hk=>hs k (ag _ hk),hd⟩) σ' ho⟩
 ·rintro kvs σ' ⟨ho,ys,e2,hs,hd⟩
  rcases ys with _|⟨y,ys⟩
  ·exact⟨ho.get e,bJ (ob:=.dI kvs) (Q:=Q) (λ b=>(show kvs=_ from hd)▸h b) σ' ho⟩
  ·cases e2
end
noncomputable def gK:List (Nat×AV)→bB
 |[]=>cJ
 |(x,v)::r=>(gK r).set x v
def mO (m:bB):List (Nat×AV)→Prop
 |[]=>True
 |(x,v)::r=>m x=some v∧mO m r
theorem fe {m:bB}{l:List (Nat×AV)}:mO m l→Sub (gK l) m:=by
 induction l with
 |nil=>exact λ ω x v h=>nomatch h
 |cons p r ih=>
  intro h x v e;unfold gK bB.set at e
  revert e
  cases q:Nat.beq x p.1 with
  |true=>intro e;rw[Nat.eq_of_beq_eq_true q,h.1];exact e
  |false=>exact ih h.2 x v
structure v5 (α:Type)where
 M:α→List (Nat×AV)
 L:α→List bT
 P:α→Prop
 μ:α→Nat
def RN {α:Type}(V:v5 α)(k:Nat)(m:bB):SP:=λ σ=>∃ x,m=gK (V.M x)∧k=V.μ x∧V.P x∧fH σ (V.L x)
@[irreducible] def lB {α:Type}(V:v5 α)(x:α)(S:cm):cm:=Th (RN V) (V.μ x) S
structure For (β α:Type)where
 f:β→AV
 M:α→List (Nat×AV)
 L:α→List bT
 P:List β→α→Prop
def rN {β α:Type}(V:For β α)(us:List AV)(m:bB):SP:=λ σ=>∃ ys x,us=ys.map V.f∧m=gK (V.M x)∧V.P ys x∧fH σ (V.L x)
@[irreducible] def jP {β α:Type}(V:For β α)(ys:List β)(S:cm):cm:=zJ (rN V (ys.map V.f)) S
structure zL (β α:Type)where
 M:α→List (Nat×AV)
 L:α→List bT
 P:List β→List β→α→Prop
def LT {β α:Type}(V:zL β α)(xs:List β)(i:Nat)(m:bB):SP:=λ σ=>∃ pre post x,pre++post=xs∧pre.length=i∧m=gK (V.M x)∧V.P pre post x∧fH σ (V.L x)
@[irreducible] def qh {β α:Type}(V:zL β α)(xs pre post:List β)(S:cm):cm:=zJ (LT V xs pre.length) S
section
variable {l:List bT}{S:cm}{m:bB}
theorem mN {α:Type}(V:v5 α)(x:α){w:WT}{b:WS}(hl:V.L x=l)(hm:mO m (V.M x))(hP:V.P x)
  (h:∀ x,V.P x→At (V.L x) (w (gK (V.M x)) (yY (b (gK (V.M x)) (lB V x S)) (S .next (gK (V.M x)))))):At l (BB w b m S):=λ σ ho=>by
 unfold BB;refine⟨RN V,V.μ x,gK (V.M x),fe hm,⟨x,rfl,rfl,hP,hl▸ho⟩,?_⟩
 rintro _ _ σ ⟨x,rfl,rfl,hP,ho⟩
 have:=h x hP σ ho;unfold lB at this;exact this
theorem d5 {α:Type}{V:v5 α}{x:α}(x':α)(hl:V.L x'=l)(hm:mO m (V.M x'))(hP:V.P x')(hk:V.μ x'<V.μ x):At l (lB V x S .next m):=λ σ ho=>by
 unfold lB;exact⟨V.μ x',gK (V.M x'),hk,fe hm,x',rfl,rfl,hP,hl▸ho⟩
theorem HW {α:Type}{V:v5 α}{x:α}(x':α)(hl:V.L x'=l)(hm:mO m (V.M x'))(hP:V.P x')(hk:V.μ x'<V.μ x):At l (lB V x S .cont m):=λ σ ho=>by
 unfold lB;exact⟨V.μ x',gK (V.M x'),hk,fe hm,x',rfl,rfl,hP,hl▸ho⟩
theorem BX {α:Type}{V:v5 α}{x:α}{v:AV}(h:At l (S (.ret v) m)):At l (lB V x S (.ret v) m):=by unfold lB;exact h
theorem Vw {α:Type}{V:v5 α}{x:α}(h:At l (S .next m)):At l (lB V x S .brk m):=by unfold lB;exact h
theorem u9 {β α:Type}{V:For β α}{i:Nat}{b:WS}{u:AV}{ws:List AV}{σ:bH}
  (h:∀ y ys x,V.P (y::ys) x→At (V.L x) (b ((gK (V.M x)).set i (V.f y)) (jP V ys S))) (I:rN V (u::ws) m σ):b (m.set i u) (zJ (rN V ws) S) σ:=by
 obtain⟨ys,x,e,rfl,hP,ho⟩:=I;cases ys with
 |nil=>cases e
 |cons y ys=>
  have:=h y ys x hP σ ho;unfold jP at this;cases e;exact this
theorem xK {β α:Type}{V:For β α}(h':∀ x,V.P [] x→At (V.L x) (S .next (gK (V.M x)))){σ:bH}(I:rN V [] m σ):S .next m σ:=by
 obtain⟨ys,x,e,rfl,hP,ho⟩:=I;cases ys with
 |nil=>exact h' x hP σ ho
 |cons=>cases e
theorem ly {β α:Type}(V:For β α)(ys:List β)(x:α){i:Nat}{b:WS}{us:List AV}(hl:V.L x=l)(hm:mO m (V.M x))(hu:us=ys.map V.f)(hP:V.P ys x)
  (h:∀ y ys x,V.P (y::ys) x→At (V.L x) (b ((gK (V.M x)).set i (V.f y)) (jP V ys S))) (h':∀ x,V.P [] x→At (V.L x) (S .next (gK (V.M x)))):At l (um i b m S us):=λ σ ho=>by
 unfold um;exact⟨rN V,gK (V.M x),fe hm,⟨ys,x,hu,rfl,hP,hl▸ho⟩,λ u ws m σ I=>u9 h I,λ m σ I=>xK h' I⟩
theorem fj {β α:Type}(V:For β α)(ys:List β)(x:α)(j:Nat){i:Nat}{b:WS}{us:List AV}{a:Addr}(hl:V.L x=l)(hm:mO m (V.M x))(hu:us=ys.map V.f)(hj:∀ x,eH (V.L x) j=some (a,.list us))(hP:V.P ys x)
  (h:∀ y ys x,V.P (y::ys) x→At (V.L x) (b ((gK (V.M x)).set i (V.f y)) (jP V ys S))) (h':∀ x,V.P [] x→At (V.L x) (S .next (gK (V.M x)))):At l (v7 i b m S a):=λ σ ho=>by
 unfold v7;have g:∀ ws m σ,rN V ws m σ→σ a=some (.list us):=λ ws m σ ⟨_,x,_,_,_,ho⟩=>ho.get (hj x);exact .inl ⟨us,(hl▸ho:fH σ (V.L x)).get (hj x),rN V,gK (V.M x),fe hm,⟨ys,x,hu,rfl,hP,hl▸ho⟩,λ u ws m σ I=>⟨g _ _ _ I,u9 h I⟩,λ m σ I=>⟨g _ _ _ I,xK h' I⟩⟩
theorem dp {β α:Type}{V:For β α}{ys:List β}(x:α)(hl:V.L x=l)(hm:mO m (V.M x))(hP:V.P ys x):At l (jP V ys S .next m):=λ σ ho=>by
 unfold jP;exact⟨gK (V.M x),fe hm,ys,x,rfl,rfl,hP,hl▸ho⟩
theorem UC {β α:Type}{V:For β α}{ys:List β}(x:α)(hl:V.L x=l)(hm:mO m (V.M x))(hP:V.P ys x):At l (jP V ys S .cont m):=λ σ ho=>by
 unfold jP;exact⟨gK (V.M x),fe hm,ys,x,rfl,rfl,hP,hl▸ho⟩
theorem J5 {β α:Type}{V:For β α}{ys:List β}(h:At l (S .next m)):At l (jP V ys S .brk m):=by unfold jP;exact h
theorem Wf {β α:Type}{V:For β α}{ys:List β}{v:AV}(h:At l (S (.ret v) m)):At l (jP V ys S (.ret v) m):=by unfold jP;exact h
theorem lI {β α:Type}(V:zL β α)(xs:List β)(x:α){i k:Nat}{b:WS}(hl:V.L x=l)(hm:mO m (V.M x))(hk:k=xs.length)(hz:k<cX)(hP:V.P [] xs x)
  (h:∀ pre y post x,pre++y::post=xs→V.P pre (y::post) x→At (V.L x) (b ((gK (V.M x)).set i (.int pre.length)) (qh V xs (pre++[y]) post S))) (h':∀ x,V.P xs [] x→At (V.L x) (S .next (gK (V.M x)))):At l (Av i b m S k):=λ σ ho=>by
 unfold Av;refine⟨bf k,ba hz,LT V xs,gK (V.M x),fe hm,⟨[],xs,x,rfl,rfl,rfl,hP,hl▸ho⟩,?_,?_⟩
 ·rintro j _ σ hj ⟨pre,post,x,e,rfl,rfl,hP,ho⟩
  have hj:=Int.ofNat_lt.mp hj;rcases post with _|⟨y,post⟩
  ·rw[aq]at e;rw[e,hk]at hj;exact absurd hj (Nat.lt_irrefl _)
  ·have:=h pre y post x e hP σ ho;unfold qh at this;rw[ay]at this;exact this
 ·rintro _ σ ⟨pre,post,x,e,e',rfl,hP,ho⟩
  rcases post with _|⟨y,post⟩
  ·rw[aq]at e;exact h' x (e▸hP) σ ho
  ·have:=ae List.length e;rw[ay,List.length_cons,e',Int.toNat_natCast,hk]at this;exact absurd this (Nat.ne_of_gt (Nat.lt_add_of_pos_right (aV _)))
theorem n5 {β α:Type}{V:zL β α}{xs pre post:List β}(x:α)(he:pre++post=xs)(hl:V.L x=l)(hm:mO m (V.M x))(hP:V.P pre post x):At l (qh V xs pre post S .next m):=λ σ ho=>by
 unfold qh;exact⟨gK (V.M x),fe hm,pre,post,x,he,rfl,rfl,hP,hl▸ho⟩
theorem Hg {β α:Type}{V:zL β α}{xs pre post:List β}(h:At l (S .next m)):At l (qh V xs pre post S .brk m):=by unfold qh;exact h
end
end
end Mine
namespace Mine
open PySem
noncomputable section
noncomputable abbrev s_e:Sx:=[91,93]
noncomputable abbrev N8:Sx:=[46]
noncomputable abbrev MJ:Sx:=[123,125]
noncomputable abbrev JC:Sx:=[45]
noncomputable abbrev LL:Sx:=[43]
noncomputable abbrev Tq:Sx:=[42]
noncomputable abbrev QL:Sx:=[47]
noncomputable abbrev RV:Sx:=[44]
noncomputable abbrev Yd:Sx:=[124]
noncomputable abbrev NH:Sx:=[59]
noncomputable abbrev GF:Sx:=[45,62]
noncomputable abbrev Hd:Sx:=[92,43]
noncomputable abbrev B4:Sx:=[58,45]
noncomputable abbrev Hc:Sx:=[63,45]
noncomputable abbrev GL:Sx:=[45,45,62]
noncomputable abbrev Gk:Sx:=[33]
noncomputable abbrev Bz:Sx:=[116,114,117,101]
noncomputable abbrev eO:Sx:=[102,97,105,108]
noncomputable abbrev xF:Sx:=[102,97,108,115,101]
noncomputable abbrev cG:Sx:=[99,97,108,108]
noncomputable abbrev FZ:Sx:=[61]
noncomputable abbrev G6:Sx:=[94]
noncomputable abbrev yj:Sx:=[101,114,114,111,114]
noncomputable abbrev Of:Sx:=[]
noncomputable abbrev qz:Sx:=[101,110,100,95,111,102,95,102,105,108,101]
noncomputable abbrev CN:Sx:=[115,121,115,116,101,109]
noncomputable abbrev Gi:Sx:=[36,86,65,82]
noncomputable abbrev wR:Sx:=[99,97,116,99,104]
noncomputable abbrev wY:Sx:=[116,104,114,111,119]
noncomputable abbrev kK:Sx:=[116,101,120,116,115]
noncomputable abbrev eB:Sx:=[97,116,111,109,95,110,117,109,98,101,114,115]
noncomputable abbrev fR:Sx:=[102,117,110,99,116,111,114,115]
noncomputable abbrev dm:Sx:=[102,117,110,99,116,111,114,95,110,117,109,98,101,114,115]
noncomputable abbrev nE:Sx:=[97,116,111,109]
noncomputable abbrev iJ:Sx:=[102,117,110,99]
noncomputable abbrev dc:Sx:=[102,117,110,99,116,111,114]
noncomputable abbrev qw:Sx:=[118]
noncomputable abbrev lb:Sx:=[97]
noncomputable abbrev jL:Sx:=[115]
noncomputable abbrev bX:Sx:=[110,117,109,98,101,114,115]
noncomputable abbrev eM:Sx:=[110,101,120,116]
noncomputable abbrev lH:Sx:=[97,114,103,115]
noncomputable abbrev cR:Sx:=[103,111,97,108,115]
noncomputable abbrev gJ:Sx:=[99,111,117,110,116]
noncomputable abbrev KB:Sx:=[105]
noncomputable abbrev iU:Sx:=[116,111,116,97,108,115]
noncomputable abbrev eF:Sx:=[108,101,118,101,108]
noncomputable abbrev gR:Sx:=[99,97,108,108,101,100]
noncomputable abbrev gO:Sx:=[115,121,109,98,111,108,115]
noncomputable abbrev ko:Sx:=[105,110,108,105,110,101]
noncomputable abbrev lP:Sx:=[102,114,101,115,104]
noncomputable abbrev dj:Sx:=[110,101,120,116,95,118,97,114,105,97,98,108,101]
noncomputable abbrev ju:Sx:=[119,111,114,107]
noncomputable abbrev uJ:Sx:=[99,108,97,117,115,101]
noncomputable abbrev iP:Sx:=[98,111,100,121]
noncomputable abbrev lM:Sx:=[103,111,97,108]
noncomputable abbrev uF:Sx:=[111,119,110]
noncomputable abbrev iV:Sx:=[99,117,116]
noncomputable abbrev u1:Sx:=[102,105,110,105,115,104]
noncomputable abbrev gX:Sx:=[110,101,119,95,118,97,114,105,97,98,108,101]
noncomputable abbrev oO:Sx:=[99,117,116,116,111]
noncomputable abbrev fS:Sx:=[108,101,118,101,108,95,118,97,114,105,97,98,108,101]
noncomputable abbrev dr:Sx:=[117,110,105,102,121]
noncomputable abbrev nZ:Sx:=[97,117,120,105,108,105,97,114,121]
noncomputable abbrev dY:Sx:=[98,117,105,108,116,105,110]
noncomputable abbrev pJ:Sx:=[36,97,117,120]
noncomputable abbrev pd:Sx:=[110,117,109,98,101,114]
noncomputable abbrev ph:Sx:=[110,101,103,97,116,105,111,110]
noncomputable abbrev lG:Sx:=[98,114,97,110,99,104,101,115]
noncomputable abbrev pU:Sx:=[109,97,114,107]
noncomputable abbrev jV:Sx:=[99,111,110,100,105,116,105,111,110]
noncomputable abbrev GE:Sx:=[114,117,110]
noncomputable abbrev s_q:Sx:=[113]
noncomputable abbrev Z8:Sx:=[103]
noncomputable abbrev gt:Sx:=[116,101,115,116]
noncomputable abbrev s_r:Sx:=[114]
noncomputable abbrev di:Sx:=[115,105,103,110,115]
noncomputable abbrev pe:Sx:=[104,101,114,101]
noncomputable abbrev mh:Sx:=[99,104,111,105,99,101]
noncomputable abbrev my:Sx:=[110,97,109,101,115]
noncomputable abbrev pB:Sx:=[98,114,97,110,99,104]
noncomputable abbrev rZ:Sx:=[104,97,110,100,115]
noncomputable abbrev tW:Sx:=[109,105,115,112,108,97,99,101,100]
noncomputable abbrev J9:Sx:=[108,97,116,101]
noncomputable abbrev Fl:Sx:=[101,97,114,108,121]
noncomputable abbrev jc:Sx:=[103,114,111,117,112,115]
noncomputable abbrev qx:Sx:=[109,105,115,110,117,109,98,101,114,101,100]
noncomputable abbrev jU:Sx:=[111,112,101,110]
noncomputable abbrev qv:Sx:=[99,97,108,108,101,100,32,116,119,105,99,101]
noncomputable abbrev r6:Sx:=[110,111,32,118,97,114,105,97,98,108,101]
noncomputable abbrev nJ:Sx:=[111,116,104,101,114,32,97,114,103,117,109,101,110,116,115]
noncomputable abbrev iE:Sx:=[99,111,105,110,115]
noncomputable abbrev gY:Sx:=[108,111,119,101,115,116]
noncomputable abbrev p4:Sx:=[104]
noncomputable abbrev Ah:Sx:=[116,101,120,116]
noncomputable abbrev Ag:Sx:=[110,97,109,101]
noncomputable def kz:List IS:=
 [.ret (.tup [.str s_e,.str N8,.str MJ,.str JC,.str LL,.str Tq,.str QL,.str RV,.str Yd,.str NH,.str GF,.str Hd,.str B4,.str Hc,.str GL,.str Gk,.str Bz,.str eO,.str xF,.str cG,.str FZ,.str G6,.str yj,.str Of,.str qz,.str CN,.str Gi,.str wR,.str wY])]
noncomputable def im:List IS:=
 [.ret (.tup [.tup [.str N8,.int 2],.tup [.str RV,.int 2],.tup [.str NH,.int 2],.tup [.str GF,.int 2],.tup [.str Hd,.int 1],.tup [.str B4,.int 2],.tup [.str B4,.int 1],.tup [.str Hc,.int 1],.tup [.str GL,.int 2],.tup [.str MJ,.int 1],.tup [.str FZ,.int 2],.tup [.str G6,.int 2],.tup [.str JC,.int 1],.tup [.str JC,.int 2],.tup [.str LL,.int 2],.tup [.str QL,.int 2],.tup [.str yj,.int 2],.tup [.str Gi,.int 1],.tup [.str wR,.int 3],.tup [.str wY,.int 1],.tup [.str Gk,.int 0],.tup [.str Bz,.int 0],.tup [.str eO,.int 0],.tup [.str xF,.int 0],.tup [.str cG,.int 1],.tup [.str cG,.int 2],.tup [.str cG,.int 3],.tup [.str cG,.int 4],.tup [.str cG,.int 5],.tup [.str cG,.int 6],.tup [.str cG,.int 7],.tup [.str cG,.int 8]])]
noncomputable def jA:List IS:=
 [.setA 154 (.lv 0) kK (.lst []),
 .setA 154 (.lv 0) eB .dS0,
 .setA 154 (.lv 0) fR (.lst []),
 .setA 154 (.lv 0) dm .dT0,
 .fore 1 (.call 60 [])
  [.ex (.meth 154 (.lv 0) nE 88 [.lv 1])],
 .fore 2 (.call 67 [])
  [.ex (.meth 154 (.lv 0) iJ 109 [.sub (.lv 2) (.int 0),.sub (.lv 2) (.int 1)])]]
noncomputable def jF:List IS:=
 [.asg 2 (.get (.attr 154 (.lv 0) eB) (.lv 1) (.int (-1))),
 .ife (.cmp .GtE (.lv 2) (.int 0))
  [.ret (.lv 2)]
  [],
 .asg 3 (.len (.attr 154 (.lv 0) kK)),
 .ex (.append (.attr 154 (.lv 0) kK) (.lv 1)),
 .setI (.attr 154 (.lv 0) eB) (.lv 1) (.lv 3),
 .ret (.lv 3)]
noncomputable def jM:List IS:=
 [.ret (.sub (.attr 154 (.lv 0) kK) (.lv 1))]
noncomputable def gU:List IS:=
 [.asg 3 (.tup [.lv 1,.lv 2]),
 .asg 4 (.get (.attr 154 (.lv 0) dm) (.lv 3) (.int (-1))),
 .ife (.cmp .GtE (.lv 4) (.int 0))
  [.ret (.lv 4)]
  [],
 .asg 5 (.len (.attr 154 (.lv 0) fR)),
 .ex (.append (.attr 154 (.lv 0) fR) (.lv 3)),
 .setI (.attr 154 (.lv 0) dm) (.lv 3) (.lv 5),
 .ret (.lv 5)]
noncomputable def jD:List IS:=
 [.ret (.meth 154 (.lv 0) dc 102 [.meth 154 (.lv 0) nE 88 [.lv 1],.lv 2])]
noncomputable def jH:List IS:=
 [.ret (.sub (.sub (.attr 154 (.lv 0) fR) (.lv 1)) (.int 0))]
noncomputable def Cs:List IS:=
 [.ret (.tup [.str qw,.lv 0])]
noncomputable def yg:List IS:=
 [.ret (.tup [.str lb,.lv 0])]
noncomputable def qS:List IS:=
 [.ret (.tup [.str jL,.lv 0,.tupOf (.lv 1)])]
noncomputable def kr:List IS:=
 [.ret (.or [.cmp .Eq (.sub (.lv 0) (.int 0)) (.str lb),.cmp .Eq (.sub (.lv 0) (.int 0)) (.str jL)])]
noncomputable def k9:List IS:=
 [.ife (.cmp .Eq (.sub (.lv 1) (.int 0)) (.str lb))
  [.ret (.meth 154 (.lv 0) dc 102 [.sub (.lv 1) (.int 1),.int 0])]
  [],
 .ret (.sub (.lv 1) (.int 1))]
noncomputable def mK:List IS:=
 [.ife (.cmp .Eq (.sub (.lv 0) (.int 0)) (.str jL))
  [.ret (.sub (.lv 0) (.int 2))]
  [],
 .ret (.tup [])]
noncomputable def mQ:List IS:=
 [.ret (.call 214 [.lst [.lv 0]])]
noncomputable def jJ:List IS:=
 [.asg 1 .dI0,
 .asg 2 (.lst []),
 .asg 3 (.listRev (.lv 0)),
 .whl (.lv 3)
  [.asg 4 (.pop (.lv 3)),
  .ife (.cmp .Eq (.sub (.lv 4) (.int 0)) (.str qw))
   [.ife (.cmp .NotIn (.sub (.lv 4) (.int 1)) (.lv 1))
    [.setI (.lv 1) (.sub (.lv 4) (.int 1)) (.bol true),
    .ex (.append (.lv 2) (.sub (.lv 4) (.int 1)))]
    []]
   [.ife (.cmp .Eq (.sub (.lv 4) (.int 0)) (.str jL))
    [.ex (.extRev (.lv 3) (.sub (.lv 4) (.int 2)))]
    []]],
 .ret (.lv 2)]
noncomputable def ky:List IS:=
 [.asg 1 .dI0,
 .asg 2 (.lst [.lv 0]),
 .whl (.lv 2)
  [.asg 3 (.pop (.lv 2)),
  .ife (.cmp .Eq (.sub (.lv 3) (.int 0)) (.str qw))
   [.setI (.lv 1) (.sub (.lv 3) (.int 1)) (.add (.get (.lv 1) (.sub (.lv 3) (.int 1)) (.int 0)) (.int 1))]
   [.ife (.cmp .Eq (.sub (.lv 3) (.int 0)) (.str jL))
    [.ex (.extRev (.lv 2) (.sub (.lv 3) (.int 2)))]
    []]],
 .ret (.lv 1)]
noncomputable def pF:List IS:=
 [.asg 3 (.lv 0),
 .ife (.cmp .Eq (.sub (.lv 3) (.int 0)) (.str qw))
  [.asg 3 (.clo 1 [.sub (.lv 3) (.int 1)]),
  .ife (.not (.lv 2))
   [.ret (.lv 3)]
   []]
  [],
 .ife (.cmp .NotEq (.sub (.lv 3) (.int 0)) (.str jL))
  [.ret (.lv 3)]
  [],
 .asg 4 (.lst [.tup [.lv 3,.lst []]]),
 .asg 5 (.lv 3),
 .whl (.lv 4)
  [.unp [6,7] (.sub (.lv 4) (.int (-1))),
  .asg 8 (.sub (.lv 6) (.int 2)),
  .ife (.cmp .Eq (.len (.lv 7)) (.len (.lv 8)))
   [.ex (.pop (.lv 4)),
   .asg 5 (.tup [.str jL,.sub (.lv 6) (.int 1),.tupOf (.lv 7)]),
   .ife (.lv 4)
    [.ex (.append (.sub (.sub (.lv 4) (.int (-1))) (.int 1)) (.lv 5))]
    []]
   [.asg 9 (.sub (.lv 8) (.len (.lv 7))),
   .ife (.cmp .Eq (.sub (.lv 9) (.int 0)) (.str qw))
    [.asg 9 (.clo 1 [.sub (.lv 9) (.int 1)]),
    .ife (.and [.lv 2,.cmp .Eq (.sub (.lv 9) (.int 0)) (.str jL)])
     [.ex (.append (.lv 4) (.tup [.lv 9,.lst []]))]
     [.ex (.append (.lv 7) (.lv 9))]]
    [.ife (.cmp .Eq (.sub (.lv 9) (.int 0)) (.str jL))
     [.ex (.append (.lv 4) (.tup [.lv 9,.lst []]))]
     [.ex (.append (.lv 7) (.lv 9))]]]],
 .ret (.lv 5)]
noncomputable def j8:List IS:=
 [.asgC bX (.ife (.cmp .Is (.lv 1) .non) .dI0 (.lv 1)),
 .defc 2,
 .ret (.tup [.call 228 [.lv 0,.lv 2,.bol false],.cv bX])]
noncomputable def dM:List IS:=
 [.ife (.cmp .NotIn (.lv 0) (.cv bX))
  [.setI (.cv bX) (.lv 0) (.len (.cv bX))]
  [],
 .ret (.tup [.str qw,.sub (.cv bX) (.lv 0)])]
noncomputable def k7:List IS:=
 [.setA 289 (.lv 0) eM (.lv 1)]
noncomputable def jK:List IS:=
 [.asg 1 (.attr 289 (.lv 0) eM),
 .setA 289 (.lv 0) eM (.add (.lv 1) (.int 1)),
 .ret (.lv 1)]
noncomputable def gr:List IS:=
 [.setA 310 (.lv 0) dc (.lv 1),
 .setA 310 (.lv 0) lH (.lv 2),
 .setA 310 (.lv 0) cR (.lv 3),
 .setA 310 (.lv 0) gJ (.lv 4)]
noncomputable def pw:List IS:=
 [.asg 1 (.lst [.lv 0]),
 .whl (.lv 1)
  [.asg 2 (.pop (.lv 1)),
  .ife (.cmp .Eq (.sub (.lv 2) (.int 0)) (.str KB))
   [.ret (.bol false)]
   [],
  .ife (.and [.cmp .Eq (.sub (.lv 2) (.int 0)) (.str jL),.cmp .In (.sub (.lv 2) (.int 1)) (.tup [.gi 1,.gi 2,.gi 3])])
   [.ex (.append (.lv 1) (.sub (.sub (.lv 2) (.int 2)) (.int 1))),
   .ex (.append (.lv 1) (.sub (.sub (.lv 2) (.int 2)) (.int 0)))]
   []],
 .ret (.bol true)]
noncomputable def jB:List IS:=
 [.asg 2 (.lv 1),
 .asg 3 (.call 172 [.gi 16]),
 .ife (.and [.cmp .Eq (.sub (.lv 1) (.int 0)) (.str jL),.cmp .Eq (.sub (.lv 1) (.int 1)) (.gi 5)])
  [.asg 2 (.sub (.sub (.lv 1) (.int 2)) (.int 0)),
  .asg 3 (.sub (.sub (.lv 1) (.int 2)) (.int 1))]
  [],
 .ife (.cmp .Eq (.sub (.lv 2) (.int 0)) (.str qw))
  [.rais]
  [],
 .ife (.not (.call 186 [.lv 2]))
  [.rais]
  [],
 .ife (.not (.call 321 [.lv 3]))
  [.rais]
  [],
 .ret (.tup [.lv 2,.lv 3])]
noncomputable def km:List IS:=
 [.asg 2 (.lst []),
 .whl (.and [.cmp .Eq (.sub (.lv 0) (.int 0)) (.str jL),.cmp .In (.sub (.lv 0) (.int 1)) (.lv 1)])
  [.ex (.append (.lv 2) (.sub (.sub (.lv 0) (.int 2)) (.int 0))),
  .asg 0 (.sub (.sub (.lv 0) (.int 2)) (.int 1))],
 .ex (.append (.lv 2) (.lv 0)),
 .ret (.lv 2)]
noncomputable def k5:List IS:=
 [.asg 1 (.lst []),
 .asg 2 (.lst [.lv 0]),
 .whl (.lv 2)
  [.asg 3 (.pop (.lv 2)),
  .ife (.and [.cmp .Eq (.sub (.lv 3) (.int 0)) (.str jL),.cmp .Eq (.sub (.lv 3) (.int 1)) (.gi 1)])
   [.ex (.append (.lv 2) (.sub (.sub (.lv 3) (.int 2)) (.int 1))),
   .ex (.append (.lv 2) (.sub (.sub (.lv 3) (.int 2)) (.int 0)))]
   [.ife (.and [.cmp .Eq (.sub (.lv 3) (.int 0)) (.str lb),.cmp .Eq (.sub (.lv 3) (.int 1)) (.gi 16)])
    [.cont]
    [.ex (.append (.lv 1) (.lv 3))]]],
 .ret (.lv 1)]
noncomputable def qe:List IS:=
 [.asg 1 (.lst [.lv 0]),
 .whl (.lv 1)
  [.asg 2 (.pop (.lv 1)),
  .ife (.cmp .Eq (.sub (.lv 2) (.int 0)) (.str lb))
   [.ife (.cmp .Eq (.sub (.lv 2) (.int 1)) (.gi 15))
    [.ret (.bol true)]
    []]
   [.ife (.cmp .Eq (.sub (.lv 2) (.int 0)) (.str jL))
    [.ife (.or [.cmp .Eq (.sub (.lv 2) (.int 1)) (.gi 1),.cmp .Eq (.sub (.lv 2) (.int 1)) (.gi 2)])
     [.ex (.append (.lv 1) (.sub (.sub (.lv 2) (.int 2)) (.int 0))),
     .ex (.append (.lv 1) (.sub (.sub (.lv 2) (.int 2)) (.int 1)))]
     [.ife (.cmp .Eq (.sub (.lv 2) (.int 1)) (.gi 3))
      [.ex (.append (.lv 1) (.sub (.sub (.lv 2) (.int 2)) (.int 1)))]
      []]]
    []]],
 .ret (.bol false)]
noncomputable def gD:List IS:=
 [.setA 366 (.lv 0) iU (.lv 1),
 .setA 366 (.lv 0) cR (.lst []),
 .setA 366 (.lv 0) eF (.int (-1)),
 .setA 366 (.lv 0) gR (.bol false)]
noncomputable def gZ:List IS:=
 [.setA 471 (.lv 0) gO (.lv 1),
 .setA 471 (.lv 0) ko (.lv 2),
 .setA 471 (.lv 0) lP (.lv 3),
 .setA 471 (.lv 0) dj (.lv 4),
 .setA 471 (.lv 0) ju (.lst [])]
noncomputable def eA:List IS:=
 [.asg 1 (.attr 471 (.lv 0) dj),
 .setA 471 (.lv 0) dj (.add (.lv 1) (.int 1)),
 .ret (.lv 1)]
noncomputable def hZ:List IS:=
 [.asg 1 (.lst []),
 .asg 2 (.int 0),
 .whl (.cmp .Lt (.lv 2) (.len (.attr 471 (.lv 0) ju)))
  [.unp [3,4,5] (.sub (.attr 471 (.lv 0) ju) (.lv 2)),
  .ex (.append (.lv 1) (.meth 471 (.lv 0) uJ 405 [.lv 3,.lv 4,.lv 5])),
  .augA 2 (.int 1)],
 .ret (.lv 1)]
noncomputable def gq:List IS:=
 [.asg 4 (.lst []),
 .fore 5 (.lv 3)
  [.ife (.cmp .Eq (.sub (.lv 5) (.int 0)) (.str iP))
   [.fore 6 (.call 342 [.sub (.lv 5) (.int 1)])
    [.ex (.append (.lv 4) (.tup [.str lM,.lv 6,.sub (.lv 5) (.int 2)]))]]
   [.ex (.append (.lv 4) (.lv 5))]],
 .asg 7 (.call 366 [.meth 471 (.lv 0) iU 412 [.lv 2,.lv 4]]),
 .fore 8 (.lv 4)
  [.ife (.cmp .Eq (.sub (.lv 8) (.int 0)) (.str lM))
   [.ex (.meth 471 (.lv 0) lM 433 [.lv 7,.sub (.lv 8) (.int 1),.sub (.lv 8) (.int 2)])]
   [.ife (.cmp .Eq (.sub (.lv 8) (.int 0)) (.str uF))
    [.ex (.meth 471 (.lv 0) iV 426 [.lv 7,.gi (-1)])]
    [.ex (.append (.attr 366 (.lv 7) cR) (.lv 8))]]],
 .asg 9 (.attr 366 (.lv 7) cR),
 .ife (.cmp .GtE (.attr 366 (.lv 7) eF) (.int 0))
  [.asg 9 (.add (.lst [.tup [.str eF,.attr 366 (.lv 7) eF]]) (.lv 9))]
  [],
 .ret (.meth 471 (.lv 0) u1 468 [.lv 1,.lv 2,.lv 9])]
noncomputable def f6:List IS:=
 [.asg 3 .dI0,
 .asg 4 (.listOf (.lv 1)),
 .fore 5 (.lv 2)
  [.ife (.cmp .Eq (.sub (.lv 5) (.int 0)) (.str lM))
   [.ex (.append (.lv 4) (.sub (.lv 5) (.int 1)))]
   []],
 .fore 6 (.lv 4)
  [.asg 7 (.call 221 [.lv 6]),
  .fore 8 (.lv 7)
   [.setI (.lv 3) (.lv 8) (.add (.get (.lv 3) (.lv 8) (.int 0)) (.sub (.lv 7) (.lv 8)))]],
 .ret (.lv 3)]
noncomputable def dP:List IS:=
 [.ife (.cmp .Lt (.attr 366 (.lv 1) eF) (.int 0))
  [.setA 366 (.lv 1) eF (.meth 471 (.lv 0) gX 391 [])]
  [],
 .ret (.attr 366 (.lv 1) eF)]
noncomputable def iy:List IS:=
 [.ife (.cmp .NotEq (.lv 2) (.gi (-1)))
  [.ex (.append (.attr 366 (.lv 1) cR) (.tup [.str oO,.lv 2]))]
  [.ife (.attr 366 (.lv 1) gR)
   [.ex (.append (.attr 366 (.lv 1) cR) (.tup [.str oO,.meth 471 (.lv 0) fS 419 [.lv 1]]))]
   [.ex (.append (.attr 366 (.lv 1) cR) (.tup [.str iV]))]]]
noncomputable def eY:List IS:=
 [.ife (.or [.cmp .Eq (.sub (.lv 2) (.int 0)) (.str qw),.cmp .Eq (.sub (.lv 2) (.int 0)) (.str KB)])
  [.ex (.append (.attr 366 (.lv 1) cR) (.tup [.str cG,.gi 24,.tup [.lv 2]])),
  .setA 366 (.lv 1) gR (.bol true),
  .ret .non]
  [],
 .asg 4 (.call 193 [.attr 471 (.lv 0) gO,.lv 2]),
 .asg 5 (.call 200 [.lv 2]),
 .ife (.cmp .Eq (.lv 4) (.gi 20))
  [.ex (.meth 471 (.lv 0) iV 426 [.lv 1,.lv 3])]
  [.ife (.or [.cmp .Eq (.lv 4) (.gi 22),.cmp .Eq (.lv 4) (.gi 23)])
   [.ex (.append (.attr 366 (.lv 1) cR) (.tup [.str eO]))]
   [.ife (.cmp .Eq (.lv 4) (.gi 10))
    [.ex (.append (.attr 366 (.lv 1) cR) (.tup [.str dr,.sub (.lv 5) (.int 0),.sub (.lv 5) (.int 1)]))]
    [.ife (.or [.cmp .Eq (.lv 4) (.gi 2),.cmp .Eq (.lv 4) (.gi 3),.cmp .Eq (.lv 4) (.gi 4)])
     [.ex (.meth 471 (.lv 0) nZ 440 [.lv 1,.lv 2,.lv 3])]
     [.ife (.cmp .In (.lv 4) (.attr 471 (.lv 0) ko))
      [.ex (.append (.attr 366 (.lv 1) cR) (.tup [.str dY,.lv 4,.lv 5]))]
      [.ex (.append (.attr 366 (.lv 1) cR) (.tup [.str cG,.lv 4,.lv 5])),
      .setA 366 (.lv 1) gR (.bol true)]]]]]]
noncomputable def cC:List IS:=
 [.asg 4 (.call 221 [.lv 2]),
 .asg 5 (.lst []),
 .fore 6 (.call 207 [.lv 2])
  [.ife (.cmp .Gt (.sub (.attr 366 (.lv 1) iU) (.lv 6)) (.sub (.lv 4) (.lv 6)))
   [.ex (.append (.lv 5) (.call 165 [.lv 6]))]
   []],
 .asg 7 (.gi (-1)),
 .ife (.and [.cmp .NotEq (.sub (.lv 2) (.int 1)) (.gi 4),.call 349 [.lv 2]])
  [.asg 7 (.lv 3),
  .ife (.cmp .Eq (.lv 3) (.gi (-1)))
   [.asg 7 (.meth 471 (.lv 0) fS 419 [.lv 1])]
   [],
  .ex (.append (.lv 5) (.call 165 [.lv 7]))]
  [],
 .asg 5 (.tupOf (.lv 5)),
 .asg 8 (.add (.str pJ) (.strI (.meth 289 (.attr 471 (.lv 0) lP) pd 286 []))),
 .asg 9 (.meth 154 (.attr 471 (.lv 0) gO) iJ 109 [.lv 8,.len (.lv 5)]),
 .ife (.cmp .Eq (.sub (.lv 2) (.int 1)) (.gi 4))
  [.asg 10 (.meth 471 (.lv 0) ph 461 [.sub (.sub (.lv 2) (.int 2)) (.int 0)])]
  [.asg 10 (.meth 471 (.lv 0) lG 454 [.lv 2,.lv 7])],
 .fore 11 (.lv 10)
  [.ex (.append (.attr 471 (.lv 0) ju) (.tup [.lv 9,.lv 5,.lv 11]))],
 .ex (.append (.attr 366 (.lv 1) cR) (.tup [.str cG,.lv 9,.lv 5])),
 .setA 366 (.lv 1) gR (.bol true)]
noncomputable def e9:List IS:=
 [.ife (.call 349 [.lv 1])
  [.asg 2 (.meth 471 (.lv 0) gX 391 []),
  .ret (.lst [.tup [.str pU,.lv 2],.tup [.str iP,.lv 1,.lv 2]])]
  [],
 .ret (.lst [.tup [.str iP,.lv 1,.gi (-1)]])]
noncomputable def fk:List IS:=
 [.asg 3 (.lst []),
 .fore 4 (.call 335 [.lv 1,.tup [.gi 2]])
  [.ife (.and [.cmp .Eq (.sub (.lv 4) (.int 0)) (.str jL),.cmp .Eq (.sub (.lv 4) (.int 1)) (.gi 3)])
   [.asg 5 (.meth 471 (.lv 0) jV 447 [.sub (.sub (.lv 4) (.int 2)) (.int 0)]),
   .ex (.append (.lv 5) (.tup [.str uF])),
   .ex (.append (.lv 5) (.tup [.str iP,.sub (.sub (.lv 4) (.int 2)) (.int 1),.lv 2]))]
   [.asg 5 (.lst [.tup [.str iP,.lv 4,.lv 2]])],
  .ex (.append (.lv 3) (.lv 5))],
 .ret (.lv 3)]
noncomputable def dN:List IS:=
 [.ife (.call 321 [.lv 1])
  [.asg 2 (.meth 471 (.lv 0) jV 447 [.lv 1])]
  [.asg 2 (.lst [.tup [.str iP,.call 179 [.gi 24,.tup [.lv 1]],.gi (-1)]])],
 .ex (.append (.lv 2) (.tup [.str uF])),
 .ex (.append (.lv 2) (.tup [.str eO])),
 .ret (.lst [.lv 2,.lst []])]
noncomputable def gf:List IS:=
 [.asg 4 .dI0,
 .unp [2,4] (.call 482 [.lv 2,.lv 4]),
 .asg 5 (.lst []),
 .fore 6 (.lv 3)
  [.asg 7 (.sub (.lv 6) (.int 0)),
  .ife (.or [.cmp .Eq (.lv 7) (.str cG),.cmp .Eq (.lv 7) (.str dY)])
   [.unp [8,4] (.call 482 [.sub (.lv 6) (.int 2),.lv 4]),
   .ex (.append (.lv 5) (.tup [.lv 7,.sub (.lv 6) (.int 1),.lv 8]))]
   [.ife (.cmp .Eq (.lv 7) (.str dr))
    [.unp [8,4] (.call 482 [.tup [.sub (.lv 6) (.int 1),.sub (.lv 6) (.int 2)],.lv 4]),
    .ex (.append (.lv 5) (.tup [.lv 7,.sub (.lv 8) (.int 0),.sub (.lv 8) (.int 1)]))]
    [.ife (.or [.cmp .Eq (.lv 7) (.str iV),.cmp .Eq (.lv 7) (.str eO)])
     [.ex (.append (.lv 5) (.lv 6))]
     [.ife (.cmp .NotIn (.sub (.lv 6) (.int 1)) (.lv 4))
      [.setI (.lv 4) (.sub (.lv 6) (.int 1)) (.len (.lv 4))]
      [],
     .ex (.append (.lv 5) (.tup [.lv 7,.sub (.lv 4) (.sub (.lv 6) (.int 1))]))]]]],
 .ret (.call 310 [.lv 1,.lv 2,.lv 5,.len (.lv 4)])]
noncomputable def jE:List IS:=
 [.asg 2 (.lst []),
 .fore 3 (.lv 0)
  [.unp [4,1] (.call 236 [.lv 3,.lv 1]),
  .ex (.append (.lv 2) (.lv 4))],
 .ret (.tup [.tupOf (.lv 2),.lv 1])]
noncomputable def mA:List IS:=
 [.unp [4,5] (.call 328 [.lv 0,.lv 2]),
 .asg 6 (.int (-1)),
 .fore 7 (.call 207 [.lv 2])
  [.ife (.cmp .Gt (.lv 7) (.lv 6))
   [.asg 6 (.lv 7)]
   []],
 .asg 8 (.call 471 [.lv 0,.lv 1,.lv 3,.add (.lv 6) (.int 1)]),
 .ex (.append (.attr 471 (.lv 8) ju) (.tup [.call 193 [.lv 0,.lv 4],.call 200 [.lv 4],.lst [.tup [.str iP,.lv 5,.gi (-1)]]])),
 .ret (.meth 471 (.lv 8) GE 398 [])]
noncomputable def mT:List IS:=
 [.asg 1 (.lst []),
 .fore 2 (.slt (.lv 0) (.int 60))
  [.asg 3 (.abs (.lv 2)),
  .forR 4 (.int 20)
   [.ex (.append (.lv 1) (.mod (.lv 3) (.int 1000))),
   .asg 3 (.fdiv (.lv 3) (.int 1000)),
   .ife (.cmp .Eq (.lv 3) (.int 0))
    [.brk]
    []],
  .ife (.cmp .Gt (.len (.lv 1)) (.int 90))
   [.brk]
   []],
 .ex (.rev (.lv 1)),
 .ret (.lv 1)]
noncomputable def od:List IS:=
 [.ret (.ife (.cmp .NotEq (.lv 0) (.lst [])) (.mod (.pop (.lv 0)) (.lv 1)) (.int 0))]
noncomputable def nQ:List IS:=
 [.asg 3 (.call 503 [.lv 0,.int 7]),
 .asg 4 (.tup [.str qw,.call 503 [.lv 0,.int 4]]),
 .ife (.cmp .Eq (.lv 3) (.int 0))
  [.ret (.tup [.str jL,.meth 154 (.lv 1) iJ 109 [.str s_q,.int 2],.tup [.lv 4,.tup [.str qw,.call 503 [.lv 0,.int 4]]]])]
  [],
 .ife (.cmp .Eq (.lv 3) (.int 1))
  [.ret (.tup [.str lb,.gi 15])]
  [],
 .ife (.cmp .Eq (.lv 3) (.int 2))
  [.ret (.tup [.str jL,.gi 10,.tup [.lv 4,.tup [.str jL,.meth 154 (.lv 1) iJ 109 [.str Z8,.int 1],.tup [.tup [.str qw,.call 503 [.lv 0,.int 4]]]]]])]
  [],
 .ife (.cmp .Eq (.lv 3) (.int 3))
  [.ret (.tup [.str jL,.meth 154 (.lv 1) iJ 109 [.str gt,.int 1],.tup [.lv 4]])]
  [],
 .ife (.cmp .Eq (.lv 3) (.int 4))
  [.ret (.lv 4)]
  [],
 .ife (.cmp .Eq (.lv 3) (.int 5))
  [.ret (.tup [.str lb,.sub (.lst [.gi 16,.gi 17,.gi 18]) (.call 503 [.lv 0,.int 3])])]
  [],
 .ret (.ife (.lv 2) (.tup [.str KB,.int 3]) (.tup [.str lb,.meth 154 (.lv 1) nE 88 [.str s_r]]))]
noncomputable def ij:List IS:=
 [.asg 5 (.ife (.and [.cmp .Gt (.lv 3) (.int 0),.cmp .Gt (.sub (.lv 2) (.int 0)) (.int 0)]) (.call 503 [.lv 0,.int 9]) (.int 8)),
 .ife (.cmp .Gt (.lv 5) (.int 4))
  [.ret (.call 510 [.lv 0,.lv 1,.lv 4])]
  [],
 .augS (.lv 2) (.int 0) true (.int 1),
 .asg 6 (.call 517 [.lv 0,.lv 1,.lv 2,.subt (.lv 3) (.int 1),.or [.lv 4,.cmp .Eq (.lv 5) (.int 0)]]),
 .ife (.cmp .Eq (.lv 5) (.int 0))
  [.ret (.tup [.str jL,.gi 4,.tup [.lv 6]])]
  [],
 .asg 7 (.call 517 [.lv 0,.lv 1,.lv 2,.subt (.lv 3) (.int 1),.lv 4]),
 .ife (.cmp .Lt (.lv 5) (.int 4))
  [.ret (.tup [.str jL,.sub (.lst [.gi 4,.gi 1,.gi 2,.gi 3]) (.lv 5),.tup [.lv 6,.lv 7]])]
  [],
 .ret (.tup [.str jL,.gi 2,.tup [.tup [.str jL,.gi 3,.tup [.lv 6,.lv 7]],.call 517 [.lv 0,.lv 1,.lv 2,.subt (.lv 3) (.int 1),.lv 4]]])]
noncomputable def lX:List IS:=
 [.ife (.cmp .Eq (.sub (.lv 0) (.int 0)) (.str qw))
  [.ife (.cmp .NotIn (.sub (.lv 0) (.int 1)) (.lv 1))
   [.setI (.lv 1) (.sub (.lv 0) (.int 1)) (.len (.lv 2))]
   [],
  .ex (.append (.lv 2) (.sub (.lv 1) (.sub (.lv 0) (.int 1))))]
  [.ife (.cmp .Eq (.sub (.lv 0) (.int 0)) (.str jL))
   [.ex (.append (.lv 2) (.tup [.sub (.lv 0) (.int 1),.len (.sub (.lv 0) (.int 2))])),
   .fore 3 (.sub (.lv 0) (.int 2))
    [.ex (.call 524 [.lv 3,.lv 1,.lv 2])]]
   [.ex (.append (.lv 2) (.lv 0))]]]
noncomputable def pR:List IS:=
 [.ife (.cmp .Eq (.sub (.lv 0) (.int 0)) (.str qw))
  [.ret (.lst [.sub (.lv 0) (.int 1)])]
  [],
 .asg 1 (.lst []),
 .fore 2 (.ife (.cmp .Eq (.sub (.lv 0) (.int 0)) (.str jL)) (.sub (.lv 0) (.int 2)) (.tup []))
  [.augA 1 (.call 531 [.lv 2])],
 .ret (.lv 1)]
noncomputable def kp:List IS:=
 [.ife (.and [.cmp .Eq (.sub (.lv 0) (.int 0)) (.str jL),.cmp .In (.sub (.lv 0) (.int 1)) (.lst [.gi 1,.gi 2,.gi 3])])
  [.ret (.and [.call 538 [.sub (.sub (.lv 0) (.int 2)) (.int 0)],.call 538 [.sub (.sub (.lv 0) (.int 2)) (.int 1)]])]
  [],
 .ret (.cmp .NotEq (.sub (.lv 0) (.int 0)) (.str KB))]
noncomputable def nV:List IS:=
 [.ife (.and [.cmp .Eq (.sub (.lv 0) (.int 0)) (.str jL),.cmp .Eq (.sub (.lv 0) (.int 1)) (.gi 1)])
  [.ret (.add (.call 545 [.sub (.sub (.lv 0) (.int 2)) (.int 0),.lv 1]) (.call 545 [.sub (.sub (.lv 0) (.int 2)) (.int 1),.lv 1]))]
  [],
 .ret (.ife (.cmp .Eq (.lv 0) (.tup [.str lb,.gi 16])) (.lst []) (.lst [.tup [.lv 0,.lv 1]]))]
noncomputable def gL:List IS:=
 [.asg 3 (.tup [.tup [.str lb,.gi 15],.lv 2]),
 .ife (.cmp .Eq (.sub (.lv 0) (.int 1)) (.gi 4))
  [.asg 4 (.sub (.sub (.lv 0) (.int 2)) (.int 0)),
  .ife (.not (.call 538 [.lv 4]))
   [.asg 4 (.tup [.str jL,.gi 24,.tup [.lv 4]])]
   [],
  .ret (.lst [.add (.call 545 [.lv 4,.tup [.str gt,.lv 2,.int 0]]) (.lst [.lv 3,.tup [.tup [.str lb,.gi 17],.lv 2]]),.lst []])]
  [],
 .asg 5 (.lst []),
 .whl (.and [.cmp .Eq (.sub (.lv 0) (.int 0)) (.str jL),.cmp .Eq (.sub (.lv 0) (.int 1)) (.gi 2)])
  [.ex (.append (.lv 5) (.sub (.sub (.lv 0) (.int 2)) (.int 0))),
  .asg 0 (.sub (.sub (.lv 0) (.int 2)) (.int 1))],
 .ex (.append (.lv 5) (.lv 0)),
 .asg 6 (.lst []),
 .forR 7 (.len (.lv 5))
  [.asg 8 (.sub (.lv 5) (.lv 7)),
  .ife (.and [.cmp .Eq (.sub (.lv 8) (.int 0)) (.str jL),.cmp .Eq (.sub (.lv 8) (.int 1)) (.gi 3)])
   [.asg 9 (.call 545 [.sub (.sub (.lv 8) (.int 2)) (.int 0),.tup [.str gt,.lv 2,.lv 7]]),
   .ex (.append (.lv 6) (.add (.add (.lv 9) (.lst [.lv 3])) (.call 545 [.sub (.sub (.lv 8) (.int 2)) (.int 1),.lv 1])))]
   [.ex (.append (.lv 6) (.call 545 [.lv 8,.lv 1]))]],
 .ret (.lv 6)]
noncomputable def nT:List IS:=
 [.asg 4 (.listOf (.lv 1)),
 .forR 5 (.len (.lv 0))
  [.unp [6,7] (.sub (.lv 0) (.lv 5)),
  .ife (.cmp .Eq (.lv 6) (.tup [.str lb,.gi 15]))
   [.ex (.append (.lv 2) (.tup [.str iV,.lv 7]))]
   [.ife (.cmp .In (.lv 6) (.lst [.tup [.str lb,.gi 17],.tup [.str lb,.gi 18]]))
    [.ex (.append (.lv 2) (.str eO))]
    [.ife (.and [.cmp .Eq (.sub (.lv 6) (.int 0)) (.str jL),.cmp .In (.sub (.lv 6) (.int 1)) (.lst [.gi 2,.gi 3,.gi 4])])
     [.asg 8 (.listOf (.lv 4)),
     .fore 9 (.add (.slt (.lv 0) (.lv 5)) (.slf (.lv 0) (.add (.lv 5) (.int 1))))
      [.augA 8 (.call 531 [.sub (.lv 9) (.int 0)])],
     .ex (.call 564 [.lv 6,.lv 7,.lv 8,.lv 1,.lv 2,.lv 3])]
     [.ife (.and [.cmp .Eq (.sub (.lv 6) (.int 0)) (.str jL),.cmp .Eq (.sub (.lv 6) (.int 1)) (.gi 10)])
      [.ex (.append (.lv 2) (.str dr)),
      .ex (.call 524 [.sub (.sub (.lv 6) (.int 2)) (.int 0),.lv 1,.lv 2]),
      .ex (.call 524 [.sub (.sub (.lv 6) (.int 2)) (.int 1),.lv 1,.lv 2])]
      [.ife (.cmp .Eq (.sub (.lv 6) (.int 0)) (.str lb))
       [.ex (.append (.lv 2) (.tup [.str cG,.meth 154 (.sub (.lv 3) (.str di)) dc 102 [.sub (.lv 6) (.int 1),.int 0]]))]
       [.ife (.cmp .Eq (.sub (.lv 6) (.int 0)) (.str qw))
        [.asg 6 (.tup [.str jL,.gi 24,.tup [.lv 6]])]
        [],
       .ex (.append (.lv 2) (.tup [.ife (.cmp .Eq (.sub (.lv 6) (.int 1)) (.sub (.lv 3) (.str gt))) (.str dY) (.str cG),.sub (.lv 6) (.int 1)])),
       .fore 10 (.sub (.lv 6) (.int 2))
        [.ex (.call 524 [.lv 10,.lv 1,.lv 2])]]]]]]]]
noncomputable def k4:List IS:=
 [.augS (.lv 5) (.str gJ) false (.int 1),
 .asg 6 (.call 552 [.lv 0,.lv 1,.tup [.str pe,.sub (.lv 5) (.str gJ)]]),
 .ex (.append (.lv 4) (.tup [.str mh,.len (.lv 6)])),
 .asg 7 (.lst []),
 .fore 8 (.call 531 [.lv 0])
  [.ife (.and [.cmp .In (.lv 8) (.lv 2),.cmp .NotIn (.lv 8) (.lv 7)])
   [.ex (.append (.lv 7) (.lv 8)),
   .ex (.call 524 [.tup [.str qw,.lv 8],.cv my,.lv 4])]
   []],
 .asg 9 (.len (.lv 4)),
 .forR 10 (.len (.lv 6))
  [.ex (.append (.lv 4) (.tup [.str pB,.lv 10])),
  .ex (.call 559 [.sub (.lv 6) (.lv 10),.dcL (.sub (.cv my) (.lv 1)) (.lv 7),.lv 4,.lv 5])],
 .ex (.append (.lv 4) (.tup [.str rZ,.ife (.cmp .In (.tup [.str iV,.lv 1]) (.slf (.lv 4) (.lv 9))) (.lv 1) .non]))]
noncomputable def n8:List IS:=
 [.asg 6 (.bol false),
 .forR 7 (.len (.attr 310 (.lv 0) cR))
  [.asg 8 (.sub (.attr 310 (.lv 0) cR) (.lv 7)),
  .asg 9 (.sub (.lv 8) (.int 0)),
  .ife (.or [.cmp .Eq (.lv 9) (.str eF),.cmp .Eq (.lv 9) (.str pU)])
   [.ife (.or [.cmp .In (.sub (.lv 8) (.int 1)) (.lv 1),.and [.cmp .Eq (.lv 9) (.str eF),.cmp .Gt (.lv 7) (.int 0)]])
    [.ex (.append (.lv 4) (.str tW))]
    [],
   .setI (.lv 1) (.sub (.lv 8) (.int 1)) (.ife (.cmp .Eq (.lv 9) (.str eF)) (.lv 2) (.tup [.str gt,.lv 2,.lv 3]))]
   [.ife (.cmp .Eq (.lv 9) (.str iV))
    [.ex (.append (.lv 4) (.tup [.str iV,.ife (.lv 6) (.str J9) (.lv 2)]))]
    [.ife (.cmp .Eq (.lv 9) (.str oO))
     [.asg 10 (.get (.lv 1) (.sub (.lv 8) (.int 1)) .non),
     .ex (.append (.lv 4) (.tup [.str iV,.ife (.and [.cmp .Eq (.lv 10) (.lv 2),.not (.lv 6)]) (.str Fl) (.lv 10)]))]
     [.ife (.cmp .Eq (.lv 9) (.str eO))
      [.ex (.append (.lv 4) (.str eO))]
      [.ife (.cmp .Eq (.lv 9) (.str dr))
       [.ex (.append (.lv 4) (.str dr)),
       .ex (.call 524 [.sub (.lv 8) (.int 1),.lv 1,.lv 4]),
       .ex (.call 524 [.sub (.lv 8) (.int 2),.lv 1,.lv 4])]
       [.ife (.and [.cmp .Eq (.lv 9) (.str cG),.cmp .In (.sub (.lv 8) (.int 1)) (.sub (.lv 5) (.str jc))])
        [.asg 6 (.bol true),
        .ex (.call 576 [.lv 8,.lv 1,.lv 4,.lv 5])]
        [.ex (.append (.lv 4) (.tup [.lv 9,.sub (.lv 8) (.int 1)])),
        .fore 11 (.sub (.lv 8) (.int 2))
         [.ex (.call 524 [.lv 11,.lv 1,.lv 4])],
        .asg 6 (.or [.lv 6,.cmp .Eq (.lv 9) (.str cG)])]]]]]]],
 .ife (.cmp .NotEq (.listOf (.lv 1)) (.listRange (.attr 310 (.lv 0) gJ)))
  [.ex (.append (.lv 4) (.str qx))]
  []]
noncomputable def n7:List IS:=
 [.ife (.cmp .In (.sub (.lv 0) (.int 1)) (.sub (.lv 3) (.str jU)))
  [.ex (.append (.lv 2) (.str qv)),
  .ret .non]
  [],
 .ex (.append (.sub (.lv 3) (.str jU)) (.sub (.lv 0) (.int 1))),
 .asg 4 (.tup [.str pe,.len (.sub (.lv 3) (.str jU))]),
 .asg 5 (.sub (.sub (.lv 3) (.str jc)) (.sub (.lv 0) (.int 1))),
 .ex (.append (.lv 2) (.tup [.str mh,.len (.lv 5)])),
 .asg 6 .non,
 .asg 7 .dI0,
 .forR 8 (.len (.sub (.lv 0) (.int 2)))
  [.asg 9 (.sub (.sub (.lv 0) (.int 2)) (.lv 8)),
  .ife (.cmp .NotEq (.sub (.lv 9) (.int 0)) (.str qw))
   [.ex (.append (.lv 2) (.str r6))]
   [.ife (.and [.cmp .Eq (.lv 8) (.subt (.len (.sub (.lv 0) (.int 2))) (.int 1)),.isTup (.get (.lv 1) (.sub (.lv 9) (.int 1)) (.int 0))])
    [.asg 6 (.sub (.lv 1) (.sub (.lv 9) (.int 1))),
    .setI (.lv 7) (.lv 8) (.lv 6)]
    [.ex (.call 524 [.lv 9,.lv 1,.lv 2]),
    .setI (.lv 7) (.lv 8) (.sub (.lv 1) (.sub (.lv 9) (.int 1)))]]],
 .forR 10 (.len (.lv 5))
  [.ex (.append (.lv 2) (.tup [.str pB,.lv 10])),
  .ife (.cmp .NotEq (.attr 310 (.sub (.lv 5) (.lv 10)) lH) (.tupOf (.lcR (.tup [.str qw,.lv 1]) (.len (.sub (.lv 0) (.int 2))))))
   [.ex (.append (.lv 2) (.str nJ))]
   [],
  .ex (.call 571 [.sub (.lv 5) (.lv 10),.dictOf (.lv 7),.lv 4,.lv 10,.lv 2,.lv 3])],
 .ex (.append (.lv 2) (.tup [.str rZ,.lv 6]))]
noncomputable def eN:List IS:=
 [.asgC iE (.call 496 [.lv 0]),
 .asgC di (.call 154 []),
 .asg 3 (.meth 154 (.cv di) iJ 109 [.str gt,.int 1]),
 .asgC gY (.call 503 [.cv iE,.int 5]),
 .asg 5 (.tupOf (.lcR (.tup [.str qw,.call 503 [.cv iE,.int 4]]) (.call 503 [.cv iE,.int 3]))),
 .asg 6 (.ife (.cmp .NotEq (.lv 5) (.tup [])) (.tup [.str jL,.meth 154 (.cv di) iJ 109 [.str p4,.len (.lv 5)],.lv 5]) (.tup [.str lb,.meth 154 (.cv di) nE 88 [.str p4]])),
 .asg 7 (.call 517 [.cv iE,.cv di,.lst [.int 7],.int 4,.bol false]),
 .asg 8 (.call 289 [.cv gY]),
 .asg 9 (.call 489 [.cv di,.dI1 (.lv 3) (.bol true),.tup [.str jL,.gi 5,.tup [.lv 6,.lv 7]],.lv 8]),
 .asg 10 (.lst []),
 .asg 11 .dI0,
 .fore 12 (.lv 5)
  [.ex (.call 524 [.lv 12,.lv 11,.lv 10])],
 .ex (.call 559 [.call 545 [.lv 7,.tup [.str pe,.int 0]],.lv 11,.lv 10,.dS [di,gt,gJ] [.cv di,.lv 3,.int 0]]),
 .asg 13 .dI0,
 .asg 14 (.lst []),
 .fore 15 (.slf (.lv 9) (.int 1))
  [.ife (.or [.cmp .Eq (.lv 14) (.lst []),.cmp .NotEq (.sub (.lv 14) (.int (-1))) (.attr 310 (.lv 15) dc)])
   [.ex (.append (.lv 14) (.attr 310 (.lv 15) dc))]
   [],
  .ex (.append (.setdef (.lv 13) (.attr 310 (.lv 15) dc)) (.lv 15))],
 .asgLC 16 (.meth 154 (.cv di) Ah 95 [.meth 154 (.cv di) Ag 116 [.lv 1]]) (.lv 14),
 .ife (.cmp .NotEq (.lv 16) (.lcR (.add (.str pJ) (.strI (.add (.cv gY) (.lv 1)))) (.len (.lv 14))))
  [.ret (.bol false)]
  [],
 .ife (.or [.cmp .NotEq (.attr 310 (.sub (.lv 9) (.int 0)) dc) (.meth 154 (.cv di) iJ 109 [.str p4,.len (.lv 5)]),.cmp .NotEq (.len (.attr 310 (.sub (.lv 9) (.int 0)) lH)) (.len (.lv 5))])
  [.ret (.bol false)]
  [],
 .asg 17 (.lst []),
 .asg 11 .dI0,
 .fore 12 (.attr 310 (.sub (.lv 9) (.int 0)) lH)
  [.ex (.call 524 [.lv 12,.lv 11,.lv 17])],
 .asg 18 (.dS [jc,jU] [.lv 13,.lst []]),
 .ex (.call 571 [.sub (.lv 9) (.int 0),.lv 11,.tup [.str pe,.int 0],.int 0,.lv 17,.lv 18]),
 .ret (.and [.cmp .Eq (.lv 17) (.lv 10),.cmp .Eq (.sorted (.sub (.lv 18) (.str jU))) (.sorted (.lv 14)),.cmp .Eq (.meth 289 (.lv 8) pd 286 []) (.add (.cv gY) (.len (.lv 14)))])]
end
end Mine
namespace Mine
open PySem PySem.Calls PySem.W PyProof.Rows
noncomputable section
noncomputable abbrev je (J:JT)(n:Nat):En:=⟨J,n,[],λ ω=>no⟩
def Yx (Q:bI)(a:Addr):bI:=λ v=>match v with|.none=>Q (.loc a)|_=>no
def cS (J:JT)(f k:Nat)(ir:List IS):Prop:=∀ n vs l Q,vs.length=k→At l (cA (je J n) ir (args vs) (kL Q))→At l (bR J (n+1) f Q vs)
def vM (J:JT)(C k:Nat)(ir:List IS):Prop:=∀ n vs l Q,vs.length+1=k→(∀ a dx,At ((a,.inst C dx)::(dx,.ns [])::l) (cA (je J n) ir (args (.loc a::vs)) (kL (Yx Q a))))→At l (bR J (n+2) C Q vs)
noncomputable def ye (d:Nat)(vs:List AV):bB:=λ i=>match Nat.beq i d with|true=>none|false=>args vs i
def Bi (J:JT)(f k d:Nat)(x:Sx)(ir:List IS):Prop:=∀ n vs v l Q,vs.length=k→vs[d]? =some v→(∀ a,At ((a,.cell (some v))::l) (cA ⟨J,n,[(x,a)],λ ω=>no⟩ ir (ye d vs) (kL Q)))→At l (bR J (n+1) f Q vs)
structure iL where
 st:List bT→Prop
 fn:List bT→Obj→Addr→Prop
def DfC (T:iL)(a:Addr)(df:(Addr→SP)→SP):Prop:=∀ k e l X,T.st e→(∀ g o e',T.st e'→T.fn e' o a→At ((g,.raw o)::(k++(e'++l))) (X g))→At (k++(e++l)) (df X)
structure I2 (J:JT)(T:iL):Prop where
 renumber:∀ n vs l Q,vs.length=2→(∀ a df,DfC T a df→At ((a,.cell none)::l) (cA ⟨J,n,[(bX,a)],df⟩ j8 (args vs) (kL Q)))→At l (bR J (n+1) 236 Q vs)
 change:∀ n a g o e vs l Q,T.fn e o a→(g,.raw o)∈l→(∀ x∈e,x∈l)→vs.length=1→At l (cA ⟨J,n,[(bX,a)],λ ω=>no⟩ dM (args vs) (kL Q))→At l (ut J (n+1) Q g vs)
structure eZ (J:JT):Prop where
 fixed_atoms:cS J 60 0 kz
 fixed_functors:cS J 67 0 im
 Symbols_init:vM J 154 1 jA
 Symbols_atom:cS J 88 2 jF
 Symbols_text:cS J 95 2 jM
 Symbols_functor:cS J 102 3 gU
 Symbols_func:cS J 109 3 jD
 Symbols_name:cS J 116 2 jH
 var:cS J 165 1 Cs
 atom:cS J 172 1 yg
 struct:cS J 179 2 qS
 is_callable:cS J 186 1 kr
 functor_in:cS J 193 2 k9
 arguments:cS J 200 1 mK
 variables:cS J 207 1 mQ
 variables_of:cS J 214 1 jJ
 occurrences:cS J 221 1 ky
 rebuild:cS J 228 3 pF
 Fresh_init:vM J 289 2 k7
 Fresh_number:cS J 286 1 jK
 KernelClause_init:vM J 310 5 gr
 is_body:cS J 321 1 pw
 split_clause:cS J 328 2 jB
 right_spine:cS J 335 2 km
 flat_goals:cS J 342 1 k5
 has_cut:cS J 349 1 qe
 ClauseState_init:vM J 366 2 gD
 Normaliser_init:vM J 471 5 gZ
 Normaliser_new_variable:cS J 391 1 eA
 Normaliser_run:cS J 398 1 hZ
 Normaliser_clause:cS J 405 4 gq
 Normaliser_totals:cS J 412 3 f6
 Normaliser_level_variable:cS J 419 2 dP
 Normaliser_cut:cS J 426 3 iy
 Normaliser_goal:cS J 433 4 eY
 Normaliser_auxiliary:cS J 440 4 cC
 Normaliser_condition:cS J 447 2 e9
 Normaliser_branches:cS J 454 3 fk
 Normaliser_negation:cS J 461 2 dN
 Normaliser_finish:cS J 468 4 gf
 renumber_all:cS J 482 2 jE
 normalise:cS J 489 4 mA
 law_coins:cS J 496 1 mT
 law_coin:cS J 503 2 od
 law_leaf:cS J 510 3 nQ
 law_body:cS J 517 5 ij
 law_spell:cS J 524 3 lX
 law_met:cS J 531 1 pR
 law_can_run:cS J 538 1 kp
 law_rows:cS J 545 2 nV
 law_split:cS J 552 3 gL
 law_told:cS J 559 4 nT
 law_choice:Bi J 564 6 3 my k4
 law_read:cS J 571 6 n8
 law_open:cS J 576 4 n7
theorem oV (vs:List AV):∀ i,args vs i=vs[i]? :=by
 induction vs with
 |nil=>exact λ ω=>rfl
 |cons v r ih=>exact λ i=>match i with|0=>rfl|i+1=>(ih i).trans List.getElem?_cons_succ.symm
noncomputable def x5 (fd:FuncData):List Stmt:=match fd.body with|.stmts b=>b|_=>[]
noncomputable def pn (ns:Ns)(k:Nat):List Str:=(ns.take k).map (·.1)
structure Fd (c:Cx)(fd:FuncData)(k:Nat):Prop where
 body:fd.body=.stmts (x5 fd)
 glob:fd.globals=mainGlobals
 blt:fd.builtins=builtinsNs
 kind:fd.scope.kind=.function
 co:fd.scope.isCoroutine=false
 gen:fd.scope.isGenerator=false
 ns:vJ fd.scope.names=true
 le:k≤fd.scope.names.length
 bind:∀ (s:Shared) (ws:List Value),c.K.In s.heap→ws.length=k→BindsTo s fd ⟨ws,[]⟩ ((pn fd.scope.names k).zip ws)
structure FH (T:q9)(fd:FuncData)(ds:Stmt)(dx:Nat)(ir:List IS):Prop where
 s:pr ds ir fd.scope.names (j5 (x5 fd)) 0=x5 fd
 ok:pg T dx ir fd.scope.names (j5 (x5 fd)) 0=true
section
variable {ns:Ns}{k i:Nat}{ws:List Value}{p:Str×NameKind}{v:Value}
theorem CX (hl:ws.length=k)(hi:ns[i]? =some p)(hv:ws[i]? =some v):(p.1,v)∈(pn ns k).zip ws:=by
 have h1:i<k:=hl▸(az hv).1;refine aY (i:=i) (List.getElem?_zip_eq_some.mpr ⟨?_,hv⟩);show ((ns.take k).map (·.1))[i]? =some p.1;rw[aZ,List.getElem?_take_of_lt h1,hi];rfl
theorem mw (hk:k≤ns.length)(hl:ws.length=k):((pn ns k).zip ws).map (·.1)=pn ns k:=by
 rw[List.map_fst_zip];show ((ns.take k).map (·.1)).length≤ws.length;rw[ak,List.length_take,hl];exact Nat.min_le_left ..
theorem mX (nd:(ns.map (·.1)).Nodup):(pn ns k).Nodup:=nd.sublist ((List.take_sublist k ns).map _)
theorem wo (nd:(ns.map (·.1)).Nodup)(hk:k≤ns.length)(hl:ws.length=k)(hi:ns[i]? =some p)(hv:ws[i]? =some v):((pn ns k).zip ws).lookup p.1=some v:=
 dG (p:=(p.1,v)) (by rw[mw hk hl];exact mX nd) (CX hl hi hv)
theorem vA (nd:(ns.map (·.1)).Nodup)(hk:k≤ns.length)(hl:ws.length=k)(hi:ns[i]? =some p)(hv:ws[i]? =some v):((pn ns k).zip ws).reverse.lookup p.1=some v:=
 dG (p:=(p.1,v)) (by rw[List.map_reverse,mw hk hl];exact ((List.reverse_perm _).nodup_iff.mpr (mX nd))) (List.mem_reverse.mpr (CX hl hi hv))
theorem rL {x:Str×Value}(h:x∈(pn ns k).zip ws):∃ p∈ns.take k,p.1=x.1:=by
 obtain⟨p,hp,e⟩:=be (List.of_mem_zip h).1;exact⟨p,hp,e⟩
theorem lJ (h:i<ns.length):∃ p,ns[i]? =some p:=⟨_,List.getElem?_eq_getElem h⟩
end
abbrev Bf (c:Cx)(σ:bH)(s:Shared)(Q:bI):Result→Shared→Prop:=λ r s'=>match r with
 |.ok (.ret v)=>c.Res cN bD σ s Q v s'
 |.ok _=>False
 |.error e=>gy e s'
section
variable {c:Cx}{n:Nat}{σ σ₀:bH}{s s₀ s':Shared}{T:q9}{A:Around}{Q:bI}
theorem sf {V:Ev c}{fl:Flow}(hL:s.heap.get? V.L=none)(S0:cq cN σ s.heap σ₀ s₀.heap)(T0:gw s s₀)(h:c.Res (·=V.L) (k8 V.ns V.L) σ₀ s₀ (Dp (kL Q)) fl s'):Bf c σ s Q (.ok (.ret (match (generalizing:=false) fl with|.ret v=>v|_=>.none))) s':=by
 obtain⟨⟨a,m⟩,σ₁,h⟩:=h;have S:=po (V:=V) hL S0 h.st;have q:=h.q;have hf:v9 s'.heap fl a:=h.r.f;rcases a with _|_|_|v
 ·obtain rfl:fl=_:=hf;exact⟨.none,σ₁,q,.mkN,h.g,S,T0.trans h.t⟩
 ·exact q.elim
 ·exact q.elim
 ·obtain⟨u,rfl,r⟩:=hf;exact⟨v,σ₁,q,r,h.g,S,T0.trans h.t⟩
theorem sg {env:Env}(R:f4 (n+1) A):xB 1 n (A.deeper env):=⟨R.hd,by have:=R.dep;simp only[Around.deeper];lia,by have:=R.un;simp only[Around.deeper];lia⟩
noncomputable def Kz (ns:Ns)(k:Nat):Bool:=ns.all (λ p=>p.2 !=.cell)&&(ns.take k).all λ p=>p.2==.local
theorem uU {f:Addr}{fd:FuncData}{o:Obj}{k:Nat}{cs:List (Sx×Addr)}{ir:List IS}{vs:List AV}{ws:List Value}(hT:cV c T)(Z:Fd c fd k)(hp:Kz fd.scope.names k=true)(X:FH T fd (.Pass ck) 0 ir)
  (ho:s.heap.get? f=some o) (hd:o.data=.func fd) (hcd:s.heap.CodeRec fd.code fd.qualname) (hc:∀ x a,zn cs x=some a→fd.closure.lookup (sx x)=some a) (hh:∀ x,fd.scope.names.lookup x=some .free→∃ a,fd.closure.lookup x=some a)
  (hl:vs.length=k) (R:f4 (n+1) A) (G:c.good σ s.heap) (ra:bY s.heap ws vs) (h:cA ⟨fC c,n,cs,λ ω=>no⟩ ir (args vs) (kL Q) σ):codeAny c.M A (.call (.ref f) ⟨ws,[]⟩) (Bf c σ s Q) s:=by
 have hlen:ws.length=k:=ra.length.trans hl;have nd:=mM Z.ns;have hloc:∀ p∈fd.scope.names.take k,p.2=.local:=λ p hp'=>beq_iff_eq.mp (List.all_eq_true.mp (bA hp) p hp');have nocell:∀ x∈fd.scope.names,x.2≠.cell:=λ x hx=>bne_iff_ne.mp (List.all_eq_true.mp (bz hp) x hx);refine codeAny_call_def (binds:=(pn fd.scope.names k).zip ws) R.room ho hd (c.nolim.keeps G.base) hcd Z.body (Z.bind s ws (dg.inH G) hlen) nocell (λ x hx=>?_) (λ h₀ hns hk=>?_) Z.co Z.gen Z.kind
 ·obtain⟨p,hp',e⟩:=rL hx;exact e▸hloc p hp'▸dG nd (List.mem_of_mem_take hp')
 ·have x:kg s.heap h₀:=hk
  let V:Ev c:=⟨1,n,A.deeper (callEnv fd s.heap.objs.size f),callEnv fd s.heap.objs.size f,cs,fd.scope.names,λ ω=>no,.Pass ck,0,sg R,⟨Z.kind,Z.glob,Z.blt,λ x a e ω=>hc x a e,λ x e=>e.elim (λ e=>(nocell _ (PySem.mem_of_lookup e) rfl).elim) (hh x),rfl,nd,o5 Z.ns⟩⟩
  have O:Ok V (args vs) σ { s with heap:=h₀,toks:=s.toks+((pn fd.scope.names k).zip ws).length }:=by
   refine⟨⟨⟨_,hns,λ i av e=>?_⟩,G.fresh (cu _),G.freshH (cu _)⟩,G.ext x⟩;have e:=(oV vs i).symm.trans e;obtain⟨v,hv,rv⟩:=ra.get e;obtain⟨p,hp'⟩:=lJ (aO (hlen▸(az hv).1:i<k) Z.le);exact⟨p,v,hp',vA nd Z.le hlen hp' hv,rv.up x.tup⟩
  have hr:JS c V.A V.ns V.L (execs (x5 fd) V.env) σ _ (kL Q):=X.s▸Bb hT ir V (j5 (x5 fd)) 0 (λ ω ω z=>z.elim) X.ok O h;exact wpAny_mono hr (λ fl s' h'=>sf (V:=V) (cu _) (.ext x) ⟨h₀,_,rfl⟩ h') λ ω ω z=>z.elim
structure GJ (c:Cx)(f:Addr)(fd:FuncData)(k:Nat):Prop where
 at_:∃ o,c.K.lookup f=some o∧o.data=.func fd
 code:codeIn c.K fd.code fd.qualname=true
 clo:fd.closure=[]
 Z:Fd c fd k
noncomputable def te (ns:Ns):Bool:=ns.all λ p=>p.2 !=.free
theorem CF {f:Addr}{fd:FuncData}{k:Nat}{ir:List IS}{vs:List AV}{ws:List Value}(hT:cV c T)(Z:GJ c f fd k)(hp:(Kz fd.scope.names k&&te fd.scope.names)=true)(X:FH T fd (.Pass ck) 0 ir)
  (hl:vs.length=k) (R:f4 (n+1) A) (G:c.good σ s.heap) (ra:bY s.heap ws vs) (h:cA (je (fC c) n) ir (args vs) (kL Q) σ):codeAny c.M A (.call (.ref f) ⟨ws,[]⟩) (Bf c σ s Q) s:=by
 obtain⟨o,ho,hd⟩:=Z.at_;exact uU (cs:=[]) hT Z.Z (bz hp) X (dg.inH G _ _ ho) hd (codeRec_of (dg.inH G) Z.code) (λ x a (e:(none:Option Addr)=some a)=>nomatch e) (λ x e=>(bne_iff_ne.mp (List.all_eq_true.mp (bA hp) _ (PySem.mem_of_lookup e)) rfl).elim) hl R G ra h
theorem sn {J:JT}{f:Addr}{vs:List AV}(h:J n (.ref f) vs σ Q):bR J n f Q vs σ:=by unfold bR;exact h
theorem Ub {f:Addr}{fd:FuncData}{k:Nat}{ir:List IS}(hT:cV c T)(Z:GJ c f fd k)(hp:(Kz fd.scope.names k&&te fd.scope.names)=true)(X:FH T fd (.Pass ck) 0 ir):cS (fC c) f k ir:=
 λ n vs l Q hl h σ ho=>sn λ A s ws R G ra=>wpAny_call (CF hT Z hp X hl R G ra (h σ ho))
theorem yE (C:Addr)(rest:List Value):(Code.builtin "type.__call__" ⟨.ref C::rest,[]⟩).weight=1:=by kernel_rfl
theorem z6 (C:Addr)(rest:List Value):(Code.builtin "type.__call__" ⟨.ref C::rest,[]⟩).cUnits≤10:=Nat.le_of_ble_eq_true rfl
theorem Fh {C:Addr}{rest:List Value}(R:f4 (n+2) A):f4 (n+1) (A.under (.builtin "type.__call__" ⟨.ref C::rest,[]⟩)):=by
 have w:=yE C rest;have u:=z6 C rest;refine⟨R.hd,?_,?_⟩
 ·have:=R.dep;simp only[Around.under,w];lia
 ·have:=R.un;simp only[Around.under];lia
theorem VE {C f:Addr}{fd:FuncData}{k:Nat}{ir:List IS}(hT:cV c T)(Z:GJ c f fd k)(hp:(Kz fd.scope.names k&&te fd.scope.names)=true)(X:FH T fd (.Pass ck) 0 ir)
  (hm:(makesIn c.K C&&findIn c.K (.ref C) "__init__"==some (some (.ref f))&&typeIn c.K (.ref f)==some (.type "function"))=true):vM (fC c) C k ir:=
 λ n vs l Q hl h σ ho=>sn λ A s ws R G ra=>by
  have I:=dg.inH G;obtain⟨hh,g,d,t,os⟩:=s;dsimp only at G ra I;refine wpAny_call (make_core (makes_of I (bz (bz hm))) (looks_findIn I (beq_iff_eq.mp (bA (bz hm)))) (λ self=>bind_fn I self (beq_iff_eq.mp (bA hm))) (.inl rfl) ?_);have hd0:(hh.push emptyDict).get? hh.objs.size=some emptyDict:=Heap.get?_push_size _ rfl;have hsz:(hh.push emptyDict).objs.size=hh.objs.size+1:=Heap.size_push ..;have n0:=cu hh;have n1:hh.get? (hh.objs.size+1)=none:=dK (aM _);have s0:=G.fresh n0;have s1:=G.fresh n1;have x:kg hh ((hh.push emptyDict).push (instObj C hh.objs.size)):=(kg.push _).trans (.push _);have e1:((hh.push emptyDict).push (instObj C hh.objs.size)).get? hh.objs.size=some emptyDict:=Heap.get?_push_of_some _ hd0;have e2:((hh.push emptyDict).push (instObj C hh.objs.size)).get? (hh.objs.size+1)=some (instObj C hh.objs.size):=hsz▸Heap.get?_push_size _ rfl;have G2:c.good ((σ.upd hh.objs.size (.ns [])).upd (hh.objs.size+1) (.inst C hh.objs.size)) ((hh.push emptyDict).push (instObj C hh.objs.size)):=
   dg.own (dg.own (G.ext x) (G.freshH n0) ⟨[],0,e1,rfl⟩) (G.freshH n1) e2
  have S2:cq cN σ hh ((σ.upd hh.objs.size (.ns [])).upd (hh.objs.size+1) (.inst C hh.objs.size)) ((hh.push emptyDict).push (instObj C hh.objs.size)):=((cq.ext x).own n0).own n1;have Ho:fH ((σ.upd hh.objs.size (.ns [])).upd (hh.objs.size+1) (.inst C hh.objs.size)) ((hh.objs.size+1,.inst C hh.objs.size)::(hh.objs.size,.ns [])::l):=(ho.new s0).new ((fB (Nat.succ_ne_self _)).trans s1);refine codeAny_mono (CF (s:=⟨(hh.push emptyDict).push (instObj C hh.objs.size),g,d,t,os⟩) (vs:=.loc (hh.objs.size+1)::vs) hT Z hp X hl (Fh R) G2 (.cons (.mkL _) (ra.up x.tup)) (h _ _ _ Ho)) λ r s' z=>?_;rcases r with e|(_|_|_|v)
  ·exact z.elim
  ·exact z.elim
  ·exact z.elim
  ·exact z.elim
  ·obtain⟨b,σ',z⟩:=z;have q:=z.q;have r:=z.r;rcases b with _|_|_|_|_|_
   ·obtain rfl:v=_:=r;exact⟨rfl,.loc (hh.objs.size+1),σ',q,.mkL _,z.g,S2.trans z.st,gw.trans ⟨_,t,rfl⟩ z.t⟩
   all_goals exact q.elim
end
theorem yf {bs:List (Str×Value)}{n:Str}(h:n∉bs.map (·.1)):bs.lookup n=none:=by
 cases q:bs.lookup n with
 |none=>rfl
 |some z=>exact (h (bk (f:=(·.1)) (PySem.mem_of_lookup q))).elim
theorem qJ {kf:Str→Option NameKind}{k:Str}(hk:kf k=some .local)(bs:List (Str×Value)):∀ (m:Str→Option Value),(bs.map (·.1)).Nodup→bindL kf bs m k=(bs.lookup k).or (m k):=by
 induction bs with
 |nil=>exact λ ω ω=>rfl
 |cons b r ih=>
  intro m h;have h':=List.nodup_cons.mp h;obtain⟨n,v⟩:=b;show bindL kf r _ k=_;rw[ih _ h'.2]
  by_cases e:k=n
  ·subst e;rw[yf h'.1,aL hk,gC (p:=(k,v)) rfl];exact aL rfl
  ·rw[lg (p:=(n,v)) e]
   split
   ·exact ae _ (aK e)
   ·rfl
theorem y6 {kf:Str→Option NameKind}{k:Str}(hk:kf k≠some .local)(bs:List (Str×Value)):∀ (m:Str→Option Value),(bs.map (·.1)).Nodup→bindC kf bs m k=(bs.lookup k).or (m k):=by
 induction bs with
 |nil=>exact λ ω ω=>rfl
 |cons b r ih=>
  intro m h;have h':=List.nodup_cons.mp h;obtain⟨n,v⟩:=b;show bindC kf r _ k=_;rw[ih _ h'.2]
  by_cases e:k=n
  ·subst e;rw[yf h'.1,aK hk,gC (p:=(k,v)) rfl];exact aL rfl
  ·rw[lg (p:=(n,v)) e]
   split
   ·rfl
   ·exact ae _ (aK e)
noncomputable def Kq (ns:Ns)(k d:Nat)(y:Sx):Bool:=(match ns[d]? with|some p=>p.1==sx y&&p.2==.cell|none=>false)&&ns.all (λ p=>p.2 !=.free&&(p.2 !=.cell||p.1==sx y))&&(ns.take k).all λ p=>p.2==.local||p.1==sx y
structure ClR (ns:Ns)(k d:Nat)(y:Sx):Prop where
 at_:ns[d]? =some (sx y,.cell)
 nofree:∀ p∈ns,p.2≠.free
 only:∀ p∈ns,p.2=.cell→p.1=sx y
 loc:∀ p∈ns.take k,p.2=.local∨p.1=sx y
theorem clR {ns:Ns}{k d:Nat}{y:Sx}(h:Kq ns k d y=true):ClR ns k d y:=by
 have h1:=bz (bz h);have h2:=List.all_eq_true.mp (bA (bz h));have h3:=List.all_eq_true.mp (bA h);refine⟨?_,λ p hp=>bne_iff_ne.mp (bz (h2 p hp)),λ p hp e=>?_,λ p hp=>(Bool.or_eq_true_iff.mp (h3 p hp)).imp beq_iff_eq.mp beq_iff_eq.mp⟩
 ·revert h1
  cases ns[d]? with
  |none=>exact nofun
  |some p=>exact λ h=>ae some (Prod.ext (beq_iff_eq.mp (bz h)) (beq_iff_eq.mp (bA h)))
 ·exact (Bool.or_eq_true_iff.mp (bA (h2 p hp))).elim (λ z=>(bne_iff_ne.mp z e).elim) beq_iff_eq.mp
theorem BV {ns:Ns}{i d:Nat}{p q:Str×NameKind}(nd:(ns.map (·.1)).Nodup)(h1:ns[i]? =some p)(h2:ns[d]? =some q)(e:p.1=q.1):i=d:=by
 have i1:i<ns.length:=(az h1).1;refine (List.getElem?_inj (l:=ns.map (·.1)) ((ak _).symm▸i1) nd).mp ?_;rw[aZ,aZ,h1,h2];exact ae some e
theorem rQ {y x:Sx}{a b:Addr}(h:zn [(y,a)] x=some b):x=y∧b=a:=by
 have h:(match p9 y x with|true=>some a|false=>zn [] x)=some b:=h;cases e:p9 y x with
 |true=>rw[e]at h;exact⟨(mE.mp e).symm,(aA h).symm⟩
 |false=>rw[e]at h;cases h
section
variable {c:Cx}{n:Nat}{σ:bH}{s:Shared}{T:q9}{A:Around}{Q:bI}
theorem qK {f:Addr}{fd:FuncData}{k d dx:Nat}{y:Sx}{ds:Stmt}{df:Addr→(Addr→SP)→SP}{ir:List IS}{vs:List AV}{ws:List Value}(hT:cV c T)(Z:GJ c f fd k)(hp:Kq fd.scope.names k d y=true)(hcf:∀ n,cellsFrom n fd.scope.names []=[(sx y,n)])(X:FH T fd ds dx ir)
  (hl:vs.length=k) (R:f4 (n+1) A) (G:c.good σ s.heap) (ra:bY s.heap ws vs)
  (hD:∀ a A' env rm yk,env=callEnvC fd s.heap.objs.size f→a=s.heap.objs.size+1→Ee (⟨1,n,A',env,[(y,a)],fd.scope.names,df a,ds,dx,rm,yk⟩:Ev c))
  (h:∀ a,σ a=none→cA ⟨fC c,n,[(y,a)],df a⟩ ir (ye d vs) (kL Q) (σ.upd a (.cell vs[d]?))):codeAny c.M A (.call (.ref f) ⟨ws,[]⟩) (Bf c σ s Q) s:=by
 obtain⟨o,ho,hd⟩:=Z.at_;have Y:=Z.Z;have C:=clR hp;have hlen:ws.length=k:=ra.length.trans hl;have nd:=mM Y.ns;have hcl:∀ n,(cellsFrom n fd.scope.names []).lookup (sx y)=some n:=λ n=>by rw[hcf n];exact gC (p:=(sx y,n)) rfl
 have hcell:fd.scope.names.lookup (sx y)=some .cell:=dG nd (aY C.at_);have hnd:(((pn fd.scope.names k).zip ws).map (·.1)).Nodup:=by rw[mw Y.le hlen];exact mX nd
 refine codeAny_call_function R.room (dg.inH G _ _ ho) hd Y.co Y.gen Y.body (codeRec_of (dg.inH G) Z.code) (Y.bind s ws (dg.inH G) hlen _ _ _ _ ?_);rw[Z.clo];refine wpAny_newFunctionEnv_cells Y.kind (λ x hx=>?_) λ env he s' x=>?_
 ·obtain⟨p,hp',e⟩:=rL hx;rw[←e];rcases C.loc p hp' with z|z
  ·exact .inl (z▸dG nd (List.mem_of_mem_take hp'))
  ·exact .inr ⟨z▸hcell,by rw[z,hcl];rfl⟩
 have he':env=callEnvC fd s.heap.objs.size f:=he;have hel:env.locals=s.heap.objs.size:=by rw[he'];rfl
 have hec:env.cells=[(sx y,s.heap.objs.size+1)]:=by rw[he'];exact hcf _
 have hen:env.scope=fd.scope:=by rw[he'];rfl
 have hkf:∀ z,env.kindOf z=fd.scope.names.lookup z:=λ z=>by unfold Env.kindOf;rw[hen]
 have n0:=cu s.heap;have n1:s.heap.get? (s.heap.objs.size+1)=none:=dK (aM _);have hk:kg s.heap s'.heap:=x.toInCall.keep;obtain⟨h₁,tk,rfl⟩:=x.toInCall.same;obtain⟨oc,hoc,hdc⟩:h₁.IsCell (s.heap.objs.size+1) (((pn fd.scope.names k).zip ws).lookup (sx y)):=by
  have:=x.cell (sx y) (s.heap.objs.size+1) (by rw[hec];exact gC (p:=(sx y,s.heap.objs.size+1)) rfl);rw[y6 (by rw[hkf,hcell];exact nofun) _ _ hnd,Option.or_none]at this;exact this
 have hrep:CJ h₁ (((pn fd.scope.names k).zip ws).lookup (sx y)) vs[d]? :=by
  cases e:vs[d]? with
  |some av=>
   obtain⟨v,hv,rv⟩:=ra.get e;exact⟨v,wo nd Y.le hlen C.at_ hv,rv.up hk.tup⟩
  |none=>
   cases q:((pn fd.scope.names k).zip ws).lookup (sx y)with
   |none=>rfl
   |some z=>
    obtain⟨p,hp',e2⟩:=rL (PySem.mem_of_lookup q);obtain⟨i,hi⟩:=List.getElem?_of_mem hp';have hik:i<k:=by
     have:=(az hi).1;rw[List.length_take]at this;exact aO this (Nat.min_le_left ..)
    rw[List.getElem?_take_of_lt hik]at hi;have:=BV nd hi C.at_ e2;rw[List.getElem?_eq_none_iff]at e
    omega
 have G1:c.good (σ.upd (s.heap.objs.size+1) (.cell vs[d]?)) h₁:=dg.own (G.ext hk) (G.freshH n1) ⟨oc,_,hoc,hdc,hrep⟩;have S1:cq cN σ s.heap (σ.upd (s.heap.objs.size+1) (.cell vs[d]?)) h₁:=(cq.ext hk).own n1;have yk:By c env [(y,s.heap.objs.size+1)] fd.scope.names:=by
  refine⟨by rw[hen];exact Y.kind,by rw[he'];exact Y.glob,by rw[he'];exact Y.blt,λ z a e ω=>?_,λ z e=>?_,by rw[hen],nd,o5 Y.ns⟩
  ·obtain⟨rfl,rfl⟩:=rQ e;rw[hec];exact gC (p:=(sx z,s.heap.objs.size+1)) rfl
  ·rcases e with e|e
   ·have:z=sx y:=C.only _ (PySem.mem_of_lookup e) rfl;rw[this,hec];exact⟨_,gC (p:=(sx y,s.heap.objs.size+1)) rfl⟩
   ·exact (C.nofree _ (PySem.mem_of_lookup e) rfl).elim
 let V:Ev c:=⟨1,n,A.deeper env,env,[(y,s.heap.objs.size+1)],fd.scope.names,df (s.heap.objs.size+1),ds,dx,sg R,yk⟩
 have O:Ok V (ye d vs) (σ.upd (s.heap.objs.size+1) (.cell vs[d]?)) { s with heap:=h₁,toks:=tk }:=by
  refine⟨⟨⟨_,x.toInCall.ns,λ i av e=>?_⟩,?_,?_⟩,G1⟩
  ·have e:(match Nat.beq i d with|true=>none|false=>args vs i)=some av:=e
   by_cases q:i=d
   ·rw[q,Nat.beq_refl]at e;cases e
   ·rw[Bool.eq_false_iff.mpr λ z=>q (Nat.eq_of_beq_eq_true z)]at e;have e:=(oV vs i).symm.trans e;obtain⟨v,hv,rv⟩:=ra.get e;have hik:i<k:=hlen▸(az hv).1;obtain⟨p,hp'⟩:=lJ (aO hik Y.le);have hloc:p.2=.local:=(C.loc p (aY ((List.getElem?_take_of_lt hik).trans hp'))).resolve_right λ z=>q (BV nd hp' C.at_ z);refine⟨p,v,hp',?_,rv.up hk.tup⟩;rw[qJ (by rw[hkf,←hloc];exact dG nd (aY hp')) _ _ hnd,wo nd Y.le hlen hp' hv];rfl
  ·show (σ.upd _ _) env.locals=none;rw[hel];exact (fB (Nat.ne_of_lt (bq _))).trans (G.fresh n0)
  ·show c.H.get? env.locals=none;rw[hel];exact G.freshH n0
 refine⟨(c.nolim.keeps G.base).keeps hk,codeAny_func ?_⟩;have hr:JS c V.A V.ns V.L (execs (x5 fd) V.env) _ { s with heap:=h₁,toks:=tk } (kL Q):=X.s▸Bb hT ir V (j5 (x5 fd)) 0 (hD _ _ env _ yk he' rfl) X.ok O (h _ (G.fresh n1));exact wpAny_mono hr (λ fl s' h'=>sf (V:=V) (show s.heap.get? env.locals=none from hel▸n0) S1 ⟨h₁,tk,rfl⟩ h') λ ω ω z=>z.elim
theorem N1 {f:Addr}{fd:FuncData}{k d:Nat}{y:Sx}{ir:List IS}(hT:cV c T)(Z:GJ c f fd k)(hp:Kq fd.scope.names k d y=true)(hcf:∀ n,cellsFrom n fd.scope.names []=[(sx y,n)])(X:FH T fd (.Pass ck) 0 ir):Bi (fC c) f k d y ir:=
 λ n vs v l Q hl hv h σ ho=>sn λ A s ws R G ra=>wpAny_call (qK (df:=λ ω ω=>no) hT Z hp hcf X hl R G ra (λ ω ω ω ω ω ω ω=>λ ω ω z=>z.elim) λ a ha=>hv▸h a _ (ho.new ha))
end
def tL (qual:Str)(oc:Obj):Prop:=∃ vs t,oc.data=.fields vs∧vs[1]? =some (.str qual t)
structure j9 where
 nm:Str
 qual:Str
 params:Arguments
 cbody:List Stmt
 cscope:Scope
 pos:Pos
noncomputable abbrev j9.fd (D:j9)(a:Addr)(doc pm:Value)(c':Addr)(ctv:Value):FuncData:=fnX D.nm D.qual D.params D.cbody D.cscope [(sx bX,a)] .none .none doc pm none (.ref c') ctv
noncomputable abbrev j9.ob (D:j9)(a:Addr)(doc pm:Value)(c':Addr)(ctv:Value):Obj:=fnMade D.nm D.qual D.params D.cbody D.cscope [(sx bX,a)] doc pm c' ctv
noncomputable abbrev j9.stm (D:j9):Stmt:=.FunctionDef D.nm D.params D.cbody [] none [] D.cscope none D.nm D.pos
noncomputable abbrev j9.tb (D:j9)(c':Addr):Obj:=tabObj #[rawInt D.pos.line,rawInt D.pos.col,.ref c']
noncomputable def RT (D:j9):iL where
 st e:=e=[(231,.raw (tabObj #[]))]∨∃ c' oc,e=[(231,.raw (D.tb c')),(c',.raw oc)]∧tL D.qual oc
 fn e o a:=∃ c' oc doc pm ctv,(c',.raw oc)∈e∧tL D.qual oc∧o=D.ob a doc pm c' ctv
theorem GD {D:j9}{a:Addr}{e:List bT}{c':Addr}{oc:Obj}{doc ctv:Value}(pm:Value)(hm:(c',.raw oc)∈e)(h:tL D.qual oc):(RT D).fn e (D.ob a doc pm c' ctv) a:=⟨c',oc,doc,pm,ctv,hm,h,rfl⟩
def Si (T:iL)(a:Addr)(X:Addr→SP):SP:=λ σ=>∃ k e l,T.st e∧fH σ (k++(e++l))∧∀ g o e',T.st e'→T.fn e' o a→At ((g,.raw o)::(k++(e'++l))) (X g)
theorem YL (T:iL)(a:Addr):DfC T a (Si T a):=λ k e l X he hX σ ho=>⟨k,e,l,he,ho,hX⟩
def BM (c:Cx):Prop:=∃ bm ob,c.mg "__builtins__"=some (.ref bm)∧bm≠builtinsNs∧bm≠mainGlobals∧c.H.get? bm=some ob∧ob.cls=.type "module"∧ob.dict=some builtinsNs∧ob.data=.plain
theorem pH {ps:Array Value}:¬ d4 (tabObj ps):=lw (show Value.none≠_ from nofun)
theorem uB {q:Str}{oc:Obj}(h:tL q oc):¬ d4 oc:=λ⟨_,it,k,z⟩=>by obtain⟨vs,t,hd,_⟩:=h;exact nomatch hd.symm.trans z
theorem rB {D:j9}{a:Addr}{doc pm:Value}{c':Addr}{ctv:Value}:¬ d4 (D.ob a doc pm c' ctv):=lw (by show (Value.type "function")≠_;decide)
section
variable {c:Cx}{n:Nat}{σ:bH}{s:Shared}{T:q9}{A:Around}{Q:bI}
structure Lx (c:Cx)(V:Ev c)(D:j9)(cc a:Addr):Prop where
 nm:cL V.ns V.dx=D.nm
 code:V.env.code=.ref cc
 C:CodeHd c.H cc 231
 bm:BM c
 cl:closureFor D.cscope V.env=pure [(sx bX,a)]
 d0:D.params.defaults=[]
 k0:D.params.kw_defaults=[]
 an:annTrees D.params none V.env=[]
 q:qualnameIn V.env D.nm D.nm=D.qual
theorem xJ {x:bT}{k l:List bT}:fH σ (k++(x::l))↔fH σ (x::(k++l)):=fH.perm List.perm_middle
theorem EA {V:Ev c}{D:j9}{cc a:Addr}(h:Lx c V D cc a)(hdf:V.df=Si (RT D) a)(hds:V.ds=D.stm):Ee V:=λ {m σ s S} hk O w=>by
 rw[hdf]at w;rw[hds];obtain⟨k,e,l,he,ho,hX⟩:=w;have C':CodeHd s.heap cc 231:=h.C.keeps O.G.base;obtain⟨bm,ob,b1,b2,b3,b4,b5,b6,b7⟩:=h.bm;have done:∀ (g:Addr) (σ':bH) (s':Shared),c.good σ' s'.heap→cq cN σ s.heap σ' s'.heap→gw s s'→S .next (m.set V.dx (.loc g)) σ'→wpAny c.M V.A (storeName V.env D.nm (.ref g)) (λ ω s''=>c.Res (·=V.L) (k8 V.ns V.L) σ s (Dp S) .next s'') gy s':=
  λ g σ' s' G' S' T' q=>h.nm▸tA (⟨O.step G' S',S'.toL,T'⟩:Rn V (·=V.L) σ s m σ' s') hk (.mkL g) λ s₂ R2 ω=>tH R2 q
 refine nestDef_K h.d0 h.k0 h.an ?_;rw[h.q];rcases he with rfl|⟨c',oc,rfl,hco⟩
 ·have ho:=xJ.mp ho;have e:σ 231=some (.raw (tabObj #[])):=ho.1;obtain⟨hPH,hP,_⟩:=O.G.objs _ _ e;refine makeFunction_K (mg:=c.mg) h.cl V.y.globals (oH O.G c.g) h.code C' hP trivial rfl (λ q=>by obtain⟨o,_,_,ho,_⟩:=c.g;exact cz hPH (q▸ho)) ⟨bm,ob,b1,b2,b3,λ q=>cz hPH (q▸b4),O.G.base _ _ b4,b5,b6,b7⟩ λ c' ctv doc h' tk hxt hge hlt hrec htb=>?_;obtain⟨c₂,oc,vs,t,e2,hoc,hd,hv⟩:=hrec;obtain rfl:c'=c₂:=by injection e2
  have hco:tL D.qual oc:=⟨vs,t,hd,hv⟩;have ncc:s.heap.get? c'=none:=dK hge;have nf:s.heap.get? h'.objs.size=none:=dK (aa hge (aW hlt));have hPs:231<s.heap.objs.size:=Heap.lt_size hP;have hcP:c'≠231:=Nat.ne_of_gt (aO hPs hge);have hfP:h'.objs.size≠231:=Nat.ne_of_gt (aO hPs (aa hge (aW hlt)));have hfc:h'.objs.size≠c':=Nat.ne_of_gt hlt;have keep:∀ b o,b≠231→s.heap.get? b=some o→(h'.push (D.ob a doc ((c.mg "__name__").getD .none) c' ctv)).get? b=some o:=λ b o hb e=>Heap.get?_push_of_some _ (hxt b o hb e);have ob1:de c.prog c.w (h'.push (D.ob a doc ((c.mg "__name__").getD .none) c' ctv)) 231 (.raw (D.tb c')):=⟨Heap.get?_push_of_some _ htb,pH⟩;have ob2:de c.prog c.w (h'.push (D.ob a doc ((c.mg "__name__").getD .none) c' ctv)) c' (.raw oc):=⟨Heap.get?_push_of_some _ hoc,uB hco⟩;have ob3:de c.prog c.w (h'.push (D.ob a doc ((c.mg "__name__").getD .none) c' ctv)) h'.objs.size (.raw (D.ob a doc ((c.mg "__name__").getD .none) c' ctv)):=⟨Heap.get?_push_size _ rfl,rB⟩;have G':=((O.G.turn e keep ob1).own (O.G.freshH ncc) ob2).own (O.G.freshH nf) ob3;have S':cq cN σ s.heap _ _:=((cq.turn e keep ob1).own (ob:=.raw oc) ncc).own (ob:=.raw (D.ob a doc ((c.mg "__name__").getD .none) c' ctv)) nf;have ho1:fH (σ.upd 231 (.raw (D.tb c'))) ((231,.raw (D.tb c'))::(k++l)):=⟨RA,ho.2.1,ho.2.2.far ho.2.1⟩;have ho2:=ho1.new (o:=.raw oc) ((fB hcP).trans (O.G.fresh ncc));have ho3:=ho2.new (o:=.raw (D.ob a doc ((c.mg "__name__").getD .none) c' ctv)) ((fB hfc).trans ((fB hfP).trans (O.G.fresh nf)));refine done _ _ _ G' S' ⟨_,tk,rfl⟩ (hX h'.objs.size (D.ob a doc ((c.mg "__name__").getD .none) c' ctv) [(231,.raw (D.tb c')),(c',.raw oc)] (.inr ⟨c',oc,rfl,hco⟩) (GD ((c.mg "__name__").getD .none) (.tail _ (.head _)) hco) _ ?_);refine (fH.perm ?_).mp ho3;exact .cons _ ((List.Perm.swap ..).trans ((List.Perm.cons _ List.perm_middle.symm).trans List.perm_middle.symm))
 ·have ho':=xJ.mp ho;have e:σ 231=some (.raw (D.tb c')):=ho'.1;obtain⟨hPH,hP,_⟩:=O.G.objs _ _ e;have hf:codeAmong D.pos (#[rawInt D.pos.line,rawInt D.pos.col,.ref c']:Array Value).toList=some (.ref c'):=by
   show codeAmong D.pos [rawInt D.pos.line,rawInt D.pos.col,.ref c']=_;unfold rawInt codeAmong
   simp
  refine makeFunction_hit (mg:=c.mg) h.cl V.y.globals (oH O.G c.g) h.code C' hP trivial hf ⟨bm,ob,b1,b2,b3,λ q=>cz hPH (q▸b4),O.G.base _ _ b4,b5,b6,b7⟩ λ ctv doc h' tk hk1 hsz=>?_;have nf:s.heap.get? h'.objs.size=none:=dK hsz;have x:kg s.heap (h'.push (D.ob a doc ((c.mg "__name__").getD .none) c' ctv)):=λ b o e=>Heap.get?_push_of_some _ (hk1 b o e);have ob3:de c.prog c.w (h'.push (D.ob a doc ((c.mg "__name__").getD .none) c' ctv)) h'.objs.size (.raw (D.ob a doc ((c.mg "__name__").getD .none) c' ctv)):=⟨Heap.get?_push_size _ rfl,rB⟩;exact done _ _ _ ((O.G.ext x).own (O.G.freshH nf) ob3) ((cq.ext x).own (ob:=.raw (D.ob a doc ((c.mg "__name__").getD .none) c' ctv)) nf) ⟨_,tk,rfl⟩ (hX h'.objs.size (D.ob a doc ((c.mg "__name__").getD .none) c' ctv) _ (.inr ⟨c',oc,rfl,hco⟩) (GD ((c.mg "__name__").getD .none) (.tail _ (.head _)) hco) _ (ho.new (O.G.fresh nf)))
end
structure GC (T:q9)(D:j9):Prop where
 kind:D.cscope.kind=.function
 co:D.cscope.isCoroutine=false
 gen:D.cscope.isGenerator=false
 ns:vJ D.cscope.names=true
 le:1≤D.cscope.names.length
 pl:Kz D.cscope.names 1=true
 free:∀ p∈D.cscope.names,p.2=.free→p.1=sx bX
 bind:∀ a doc pm c' ctv (v:Value),bindArgs (D.fd a doc pm c' ctv) ⟨[v],[]⟩=pure ((pn D.cscope.names 1).zip [v])
 s:pr (.Pass ck) dM D.cscope.names (j5 D.cbody) 0=D.cbody
 ok:pg T 0 dM D.cscope.names (j5 D.cbody) 0=true
structure Gu (D:j9)(fd:FuncData)(cc dx:Nat):Prop where
 nm:cL fd.scope.names dx=D.nm
 lk:jG fd.scope.names dx .local=true
 code:fd.code=.ref cc
 cl:∀ a,kT [(sx bX,a)] D.cscope.names []=[(sx bX,a)]
 d0:D.params.defaults=[]
 k0:D.params.kw_defaults=[]
 an:∀ env,annTrees D.params none env=[]
 q:(fd.qualname++".<locals>.")++D.nm=D.qual
section
variable {c:Cx}{T:q9}{D:j9}
theorem yS {vs:List AV}{d:Nat}(h:vs.length≤d):ye d vs=args vs:=funext λ i=>by
 show (match Nat.beq i d with|true=>none|false=>args vs i)=args vs i;cases e:Nat.beq i d with
 |true=>rw[Nat.eq_of_beq_eq_true e,oV,List.getElem?_eq_none_iff.mpr h]
 |false=>rfl
theorem Vn {fd:FuncData}{d dx cc:Nat}(hT:cV c T)(Z:GJ c 236 fd 2)(hp:Kq fd.scope.names 2 d bX=true)(hd:2≤d)(hcf:∀ n,cellsFrom n fd.scope.names []=[(sx bX,n)])(X:FH T fd D.stm dx j8)(Y:Gu D fd cc dx)(O:GC T D)(C:CodeHd c.H cc 231)(bm:BM c):I2 (fC c) (RT D)where
 renumber:=λ n vs l Q hl h σ ho=>sn λ A s ws R G ra=>wpAny_call (qK (df:=Si (RT D)) hT Z hp hcf X hl R G ra
  (λ a A' env rm yk he ha=>by
   refine EA (D:=D) (cc:=cc) (a:=a) ⟨Y.nm,by show env.code=_;rw[he];exact Y.code,C,bm,?_,Y.d0,Y.k0,Y.an env,?_⟩ rfl rfl
   ·have hec:env.cells=[(sx bX,a)]:=by rw[he,ha];exact hcf _
    show closureFor D.cscope env=_;rw[lc (λ p hp e=>by rw[O.free p hp e,hec,gC (p:=(sx bX,a)) rfl];rfl),hec,Y.cl a]
   ·have hk:env.kindOf D.nm=some .local:=by
     obtain⟨nm,a,e⟩:=Gc Y.lk;unfold Env.kindOf;rw[yk.names,←Y.nm,e];exact dG yk.nd (aY a)
    show qualnameIn env D.nm D.nm=_;unfold qualnameIn;rw[hk,aK (by decide),he];exact Y.q)
  λ a ha=>by
   have h1:=h a (Si (RT D) a) (YL (RT D) a);rw[yS (hl.symm▸hd),List.getElem?_eq_none_iff.mpr (hl.symm▸hd)];exact h1 _ (ho.new ha))
 change:=λ n a g o e vs l Q hf hg he hl h σ ho=>by
  obtain⟨c',oc,doc,pm,ctv,hm,hco,rfl⟩:=hf;have e1:=ho.mem hg;have e2:=ho.mem (he _ hm);unfold ut;refine⟨⟨_,D.fd a doc pm c' ctv,e1,rfl⟩,λ A s ws R G ra=>wpAny_call ?_⟩;obtain⟨_,hof,_⟩:=G.objs _ _ e1;obtain⟨_,hoc,_⟩:=G.objs _ _ e2;obtain⟨vs0,t0,hd0,hv0⟩:=hco;refine uU (fd:=D.fd a doc pm c' ctv) (cs:=[(bX,a)]) (ir:=dM) hT ⟨rfl,rfl,rfl,O.kind,O.co,O.gen,O.ns,O.le,λ s ws ω hl=>?_⟩ O.pl ⟨O.s,O.ok⟩ hof rfl ⟨c',oc,vs0,t0,rfl,hoc,hd0,hv0⟩ (λ x b e=>?_) (λ x e=>?_) hl R G ra (h σ ho)
  ·obtain⟨v,rfl⟩:=List.length_eq_one_iff.mp hl;exact BindsTo.of_eq (O.bind a doc pm c' ctv v)
  ·obtain⟨rfl,rfl⟩:=rQ e;exact gC (p:=(sx bX,b)) rfl
  ·exact⟨a,gC (p:=(sx bX,a)) (O.free _ (PySem.mem_of_lookup e) rfl)⟩
end
end
end Mine
namespace Mine.H
noncomputable section
open PySem PySem.W
noncomputable abbrev P0:Program:=PySem.Challenge.pw_rh0092_01
noncomputable def eH:List Stmt→Nat→Stmt
 |[],_=>.Pass ⟨0,0,0,0⟩
 |s::_,0=>s
 |_::r,n+1=>eH r n
noncomputable def stN:Stmt→Str
 |.FunctionDef n _ _ _ _ _ _ _ _ _=>n
 |_=>Str.ofString ""
noncomputable def stA:Stmt→Arguments
 |.FunctionDef _ a _ _ _ _ _ _ _ _=>a
 |_=>default
noncomputable def stB:Stmt→List Stmt
 |.FunctionDef _ _ b _ _ _ _ _ _ _=>b
 |.ClassDef _ _ _ b _ _ _ _ _ _ _=>b
 |_=>[]
noncomputable def stS:Stmt→Scope
 |.FunctionDef _ _ _ _ _ _ s _ _ _=>s
 |_=>default
noncomputable def st (i:Nat):Stmt:=eH P0.main.body i
noncomputable def ms (i j:Nat):Stmt:=eH (stB (st i)) j
noncomputable def fn (s:Stmt)(qual:Str)(globals:Addr)(closure:List (Str×Addr))(defaults kwdefaults doc pm:Value)(ann:Option Addr)(code ct:Value)(blt:Addr):FuncData:=
 ⟨stN s,qual,stA s,.stmts (stB s),stS s,globals,closure,defaults,kwdefaults,doc,pm,ann,code,ct,blt⟩
noncomputable abbrev N:Value:=.none
noncomputable abbrev B (b:Bool):Value:=.bool b
noncomputable abbrev I (i:Int)(t:Nat):Value:=.int i t
noncomputable abbrev S (x:String)(t:Nat):Value:=.str (Str.ofString x) t
noncomputable abbrev T (n:String):Value:=.type n
noncomputable abbrev U (n:String):Value:=.builtin n
noncomputable abbrev R (a:Nat):Value:=.ref a
noncomputable abbrev kh (p:Params)(x:Str):Int:=PyData.keyHash p x
noncomputable abbrev nd (o:Obj)(l r:BT):BT:=.node o l r
noncomputable abbrev e:BT:=.nil
noncomputable abbrev kv (p:Params)(x:String)(t:Nat)(v:Value):DictEntry:=⟨kh p (Str.ofString x),S x t,v⟩
noncomputable abbrev tp (l:Array Value):Obj:=⟨T "tuple",none,.seq l 0,#[]⟩
noncomputable abbrev tz:Obj:=tp #[]
noncomputable abbrev fz:Obj:=⟨N,none,.fields #[],#[]⟩
noncomputable abbrev cd (A:String)(a:Nat)(B':String)(b c l n j m x:Nat)(bb:Bool)(y:Nat)(v1 v2 v3 v4:Value)(t d:Nat):Obj:=⟨T "code",none,.fields #[S A a,S B' b,S "/claim/cut.py" c,I l 0,I n 0,I 0 0,I j 0,I m 0,R x,B bb,I 181 0,R y,v1,v2,v3,v4,I t 0,I l 0,S "/claim/cut.py" d],#[]⟩
noncomputable abbrev fo (s:Stmt)(q:String)(M:String)(m r:Nat):Obj:=⟨T "function",none,.func (fn s (Str.ofString q) 3 [] N N N (S M m) none (R r) N 0),#[]⟩
noncomputable abbrev fq (s:Stmt)(q:String):Obj:=⟨N,none,.func (fn s (Str.ofString q) 0 [] N N N N none N N 0),#[]⟩
def ZK:Obj:=cd "<module>" 182 "<module>" 183 184 1 0 0 0 11 false 12 N N N N 185 186
def Zc:Obj:=⟨T "frame",none,.plain,#[some (R 13),some (R 3),some (R 3),none,some (S "__main__" 164),none,some (R 0)]⟩
def o2 (p:Params):Obj:=⟨N,none,.dict #[kv p "type.__subclasses__.Exception.0" 212 (I 31 0),kv p "type.__subclasses__.Exception.n" 213 (I 1 0)] 2,#[]⟩
def Zy:Obj:=tp #[S "k" 190]
def o19:Obj:=fq (st 0) "_wall"
def ZQ:Obj:=cd "_wall" 187 "_wall" 188 189 1 1 0 3 15 true 16 N (R 17) (R 18) (R 19) 191 192
def Y9:Obj:=fo (st 0) "_wall" "__main__" 164 20
def ZM:Obj:=tp #[T "Exception"]
def o23:Obj:=⟨T "builtin_function_or_method",none,.fields #[U "type.__prepare__",T "type"],#[]⟩
def o24 (p:Params):Obj:=⟨T "dict",none,.dict #[kv p "__module__" 203 (S "clausemill.symbols" 194),kv p "__qualname__" 205 (S "ClausemillError" 204),kv p "__firstlineno__" 207 (I 5 206),kv p "__static_attributes__" 208 (R 29)] 4,#[]⟩
def o27:Obj:=cd "ClausemillError" 198 "ClausemillError" 199 200 5 0 0 0 25 false 26 N N N N 201 202
def o28:Obj:=⟨T "frame",none,.plain,#[some (R 27),some (R 3),some (R 24),none,some (S "clausemill.symbols" 194),none,some (R 0)]⟩
def o30 (p:Params):Obj:=⟨T "dict",none,.dict #[kv p "__module__" 203 (S "clausemill.symbols" 194),kv p "__firstlineno__" 207 (I 5 206),kv p "__static_attributes__" 208 (R 29),kv p "__weakref__" 210 (R 32),kv p "__doc__" 211 N] 3,#[]⟩
def Y3:Obj:=⟨T "type",none,.cls ⟨Str.ofString "ClausemillError",[T "Exception"],[R 31,T "Exception",T "BaseException",T "object"],30,Str.ofString "ClausemillError",true,[],[R 51],false,none,false⟩,#[some (R 22),none,some (S "ClausemillError" 196),some (S "ClausemillError" 204),some (U "Exception.__new__"),some (B true)]⟩
def Za:Obj:=⟨T "getset_descriptor",none,.fields #[S "__weakref__" 209,R 31,U "ExceptionGroup.__weakref__",N],#[]⟩
def o33:Obj:=⟨T "super",none,.fields #[R 31,R 31,R 31],#[]⟩
def o34:Obj:=⟨T "builtin_function_or_method",none,.fields #[U "object.__init_subclass__",R 31],#[]⟩
def Z1:Obj:=tp #[R 31]
def o36:Obj:=⟨T "builtin_function_or_method",none,.fields #[U "type.__prepare__",T "type"],#[]⟩
def o37 (p:Params):Obj:=⟨T "dict",none,.dict #[kv p "__module__" 223 (S "clausemill.symbols" 194),kv p "__qualname__" 225 (S "PrologError" 224),kv p "__firstlineno__" 227 (I 7 226),kv p "__init__" 235 (R 48),kv p "__static_attributes__" 237 (R 49)] 5,#[]⟩
def o39:Obj:=⟨N,none,.fields #[I 9 0,I 4 0,R 47],#[]⟩
def o40:Obj:=cd "PrologError" 218 "PrologError" 219 220 7 0 0 0 38 false 39 N N N N 221 222
def o41:Obj:=⟨T "frame",none,.plain,#[some (R 40),some (R 3),some (R 37),none,some (S "clausemill.symbols" 194),none,some (R 0)]⟩
def Zr:Obj:=tp #[S "self" 231,S "ball" 232]
def o46:Obj:=fq (ms 3 0) "PrologError.__init__"
def ZC:Obj:=cd "__init__" 228 "PrologError.__init__" 229 230 9 2 0 3 42 true 43 N (R 44) (R 45) (R 46) 233 234
def ZD:Obj:=fo (ms 3 0) "PrologError.__init__" "clausemill.symbols" 194 47
def ZB:Obj:=tp #[S "ball" 236]
def Zo (p:Params):Obj:=⟨T "dict",none,.dict #[kv p "__module__" 223 (S "clausemill.symbols" 194),kv p "__firstlineno__" 227 (I 7 226),kv p "__init__" 235 (R 48),kv p "__static_attributes__" 237 (R 49),kv p "__doc__" 238 N] 2,#[]⟩
def Zs:Obj:=⟨T "type",none,.cls ⟨Str.ofString "PrologError",[R 31],[R 51,R 31,T "Exception",T "BaseException",T "object"],50,Str.ofString "PrologError",true,[],[],false,none,false⟩,#[some (R 35),none,some (S "PrologError" 216),some (S "PrologError" 224),some (U "Exception.__new__"),some (B true)]⟩
def o52:Obj:=⟨T "super",none,.fields #[R 51,R 51,R 51],#[]⟩
def o53:Obj:=⟨T "builtin_function_or_method",none,.fields #[U "object.__init_subclass__",R 51],#[]⟩
def o58:Obj:=fq (st 20) "fixed_atoms"
def ZU:Obj:=cd "fixed_atoms" 273 "fixed_atoms" 274 275 27 0 0 3 54 true 55 N (R 56) (R 57) (R 58) 276 277
def o60:Obj:=fo (st 20) "fixed_atoms" "clausemill.symbols" 194 59
def o65:Obj:=fq (st 21) "fixed_functors"
def Y2:Obj:=cd "fixed_functors" 279 "fixed_functors" 280 281 29 0 0 3 61 true 62 N (R 63) (R 64) (R 65) 282 283
def Y5:Obj:=fo (st 21) "fixed_functors" "clausemill.symbols" 194 66
def o69:Obj:=⟨T "builtin_function_or_method",none,.fields #[U "type.__prepare__",T "type"],#[]⟩
def o70 (p:Params):Obj:=⟨T "dict",none,.dict #[kv p "__module__" 292 (S "clausemill.symbols" 194),kv p "__qualname__" 294 (S "Symbols" 293),kv p "__firstlineno__" 296 (I 31 295),kv p "__init__" 305 (R 81),kv p "atom" 315 (R 88),kv p "text" 323 (R 95),kv p "functor" 335 (R 102),kv p "func" 344 (R 109),kv p "name" 352 (R 116),kv p "arity" 360 (R 123),kv p "label" 368 (R 130),kv p "count" 375 (R 137),kv p "functor_count" 382 (R 144),kv p "known" 391 (R 151),kv p "__static_attributes__" 396 (R 152)] 15,#[]⟩
def o72:Obj:=⟨N,none,.fields #[I 33 0,I 4 0,R 80,I 43 0,I 4 0,R 87,I 52 0,I 4 0,R 94,I 55 0,I 4 0,R 101,I 65 0,I 4 0,R 108,I 68 0,I 4 0,R 115,I 71 0,I 4 0,R 122,I 74 0,I 4 0,R 129,I 77 0,I 4 0,R 136,I 80 0,I 4 0,R 143,I 83 0,I 4 0,R 150],#[]⟩
def o73:Obj:=cd "Symbols" 287 "Symbols" 288 289 31 0 0 0 71 false 72 N N N N 290 291
def o74:Obj:=⟨T "frame",none,.plain,#[some (R 73),some (R 3),some (R 70),none,some (S "clausemill.symbols" 194),none,some (R 0)]⟩
def Zm:Obj:=tp #[S "self" 300,S "text" 301,S "row" 302]
def o79:Obj:=fq (ms 22 0) "Symbols.__init__"
def Zx:Obj:=cd "__init__" 297 "Symbols.__init__" 298 299 33 1 0 3 75 true 76 N (R 77) (R 78) (R 79) 303 304
def ZN:Obj:=fo (ms 22 0) "Symbols.__init__" "clausemill.symbols" 194 80
def Ze:Obj:=tp #[S "self" 309,S "text" 310,S "found" 311,S "number" 312]
def o86:Obj:=fq (ms 22 1) "Symbols.atom"
def ZH:Obj:=cd "atom" 306 "Symbols.atom" 307 308 43 2 0 3 82 true 83 N (R 84) (R 85) (R 86) 313 314
def Zi:Obj:=fo (ms 22 1) "Symbols.atom" "clausemill.symbols" 194 87
def ZI:Obj:=tp #[S "self" 319,S "number" 320]
def o93:Obj:=fq (ms 22 2) "Symbols.text"
def ZX:Obj:=cd "text" 316 "Symbols.text" 317 318 52 2 0 3 89 true 90 N (R 91) (R 92) (R 93) 321 322
def ZL:Obj:=fo (ms 22 2) "Symbols.text" "clausemill.symbols" 194 94
def Z4:Obj:=tp #[S "self" 327,S "atom" 328,S "arity" 329,S "key" 330,S "found" 331,S "number" 332]
def Xo:Obj:=fq (ms 22 3) "Symbols.functor"
def MH:Obj:=cd "functor" 324 "Symbols.functor" 325 326 55 3 0 3 96 true 97 N (R 98) (R 99) (R 100) 333 334
def KO:Obj:=fo (ms 22 3) "Symbols.functor" "clausemill.symbols" 194 101
def No:Obj:=tp #[S "self" 339,S "text" 340,S "arity" 341]
def XX:Obj:=fq (ms 22 4) "Symbols.func"
def NB:Obj:=cd "func" 336 "Symbols.func" 337 338 65 3 0 3 103 true 104 N (R 105) (R 106) (R 107) 342 343
def KJ:Obj:=fo (ms 22 4) "Symbols.func" "clausemill.symbols" 194 108
def Ni:Obj:=tp #[S "self" 348,S "functor" 349]
def Xi:Obj:=fq (ms 22 5) "Symbols.name"
def Qw:Obj:=cd "name" 345 "Symbols.name" 346 347 68 2 0 3 110 true 111 N (R 112) (R 113) (R 114) 350 351
def MV:Obj:=fo (ms 22 5) "Symbols.name" "clausemill.symbols" 194 115
def RX:Obj:=tp #[S "self" 356,S "functor" 357]
def XM:Obj:=fq (ms 22 6) "Symbols.arity"
def Nc:Obj:=cd "arity" 353 "Symbols.arity" 354 355 71 2 0 3 117 true 118 N (R 119) (R 120) (R 121) 358 359
def Q2:Obj:=fo (ms 22 6) "Symbols.arity" "clausemill.symbols" 194 122
def Mu:Obj:=tp #[S "self" 364,S "functor" 365]
def UG:Obj:=fq (ms 22 7) "Symbols.label"
def L5:Obj:=cd "label" 361 "Symbols.label" 362 363 74 2 0 3 124 true 125 N (R 126) (R 127) (R 128) 366 367
def Ro:Obj:=fo (ms 22 7) "Symbols.label" "clausemill.symbols" 194 129
def Rt:Obj:=tp #[S "self" 372]
def VO:Obj:=fq (ms 22 8) "Symbols.count"
def Qs:Obj:=cd "count" 369 "Symbols.count" 370 371 77 1 0 3 131 true 132 N (R 133) (R 134) (R 135) 373 374
def Pr:Obj:=fo (ms 22 8) "Symbols.count" "clausemill.symbols" 194 136
def PU:Obj:=tp #[S "self" 379]
def Yy:Obj:=fq (ms 22 9) "Symbols.functor_count"
def Pp:Obj:=cd "functor_count" 376 "Symbols.functor_count" 377 378 80 1 0 3 138 true 139 N (R 140) (R 141) (R 142) 380 381
def M9:Obj:=fo (ms 22 9) "Symbols.functor_count" "clausemill.symbols" 194 143
def OC:Obj:=tp #[S "self" 386,S "text" 387,S "arity" 388]
def XH:Obj:=fq (ms 22 10) "Symbols.known"
def KW:Obj:=cd "known" 383 "Symbols.known" 384 385 83 3 0 3 145 true 146 N (R 147) (R 148) (R 149) 389 390
def QM:Obj:=fo (ms 22 10) "Symbols.known" "clausemill.symbols" 194 150
def Nk:Obj:=tp #[S "atom_numbers" 392,S "functor_numbers" 393,S "functors" 394,S "texts" 395]
def Q3 (p:Params):Obj:=⟨T "dict",none,.dict #[kv p "__module__" 292 (S "clausemill.symbols" 194),kv p "__firstlineno__" 296 (I 31 295),kv p "__init__" 305 (R 81),kv p "atom" 315 (R 88),kv p "text" 323 (R 95),kv p "functor" 335 (R 102),kv p "func" 344 (R 109),kv p "name" 352 (R 116),kv p "arity" 360 (R 123),kv p "label" 368 (R 130),kv p "count" 375 (R 137),kv p "functor_count" 382 (R 144),kv p "known" 391 (R 151),kv p "__static_attributes__" 396 (R 152),kv p "__dict__" 398 (R 155),kv p "__weakref__" 400 (R 156),kv p "__doc__" 401 N] 4,#[]⟩
def Lc:Obj:=⟨T "type",none,.cls ⟨Str.ofString "Symbols",[T "object"],[R 154,T "object"],153,Str.ofString "Symbols",true,[],[],false,none,false⟩,#[none,none,some (S "Symbols" 285),some (S "Symbols" 293),some (U "object.__new__"),some (B true)]⟩
def Qh:Obj:=⟨T "getset_descriptor",none,.fields #[S "__dict__" 397,R 154,U "function.__dict__",U "function.__dict__#set"],#[]⟩
def NP:Obj:=⟨T "getset_descriptor",none,.fields #[S "__weakref__" 399,R 154,U "ExceptionGroup.__weakref__",N],#[]⟩
def SZ:Obj:=⟨T "super",none,.fields #[R 154,R 154,R 154],#[]⟩
def TA:Obj:=⟨T "builtin_function_or_method",none,.fields #[U "object.__init_subclass__",R 154],#[]⟩
def Qo:Obj:=tp #[S "number" 409]
def WR:Obj:=fq (st 24) "var"
def O9:Obj:=cd "var" 406 "var" 407 408 86 1 0 3 159 true 160 N (R 161) (R 162) (R 163) 410 411
def OJ:Obj:=fo (st 24) "var" "clausemill.terms" 404 164
def QQ:Obj:=tp #[S "number" 416]
def Vp:Obj:=fq (st 25) "atom"
def NS:Obj:=cd "atom" 413 "atom" 414 415 88 1 0 3 166 true 167 N (R 168) (R 169) (R 170) 417 418
def Ru:Obj:=fo (st 25) "atom" "clausemill.terms" 404 171
def M7:Obj:=tp #[S "functor" 423,S "args" 424]
def T3:Obj:=fq (st 26) "struct"
def NA:Obj:=cd "struct" 420 "struct" 421 422 90 2 0 3 173 true 174 N (R 175) (R 176) (R 177) 425 426
def OF:Obj:=fo (st 26) "struct" "clausemill.terms" 404 178
def Lk:Obj:=tp #[S "term" 431]
def Yv:Obj:=fq (st 27) "is_callable"
def MC:Obj:=cd "is_callable" 428 "is_callable" 429 430 92 1 0 3 180 true 181 N (R 182) (R 183) (R 184) 432 433
def QC:Obj:=fo (st 27) "is_callable" "clausemill.terms" 404 185
def LB:Obj:=tp #[S "symbols" 438,S "term" 439]
def YN:Obj:=fq (st 28) "functor_in"
def M2:Obj:=cd "functor_in" 435 "functor_in" 436 437 94 2 0 3 187 true 188 N (R 189) (R 190) (R 191) 440 441
def Pw:Obj:=fo (st 28) "functor_in" "clausemill.terms" 404 192
def PX:Obj:=tp #[S "term" 446]
def Wb:Obj:=fq (st 29) "arguments"
def QK:Obj:=cd "arguments" 443 "arguments" 444 445 98 1 0 3 194 true 195 N (R 196) (R 197) (R 198) 447 448
def Pe:Obj:=fo (st 29) "arguments" "clausemill.terms" 404 199
def OQ:Obj:=tp #[S "term" 453]
def TR:Obj:=fq (st 30) "variables"
def PE:Obj:=cd "variables" 450 "variables" 451 452 102 1 0 3 201 true 202 N (R 203) (R 204) (R 205) 454 455
def Oz:Obj:=fo (st 30) "variables" "clausemill.terms" 404 206
def Oo:Obj:=tp #[S "terms" 460,S "seen" 461,S "result" 462,S "todo" 463,S "term" 464]
def Tj:Obj:=fq (st 31) "variables_of"
def Pu:Obj:=cd "variables_of" 457 "variables_of" 458 459 104 1 0 3 208 true 209 N (R 210) (R 211) (R 212) 465 466
def Qi:Obj:=fo (st 31) "variables_of" "clausemill.terms" 404 213
def Lo:Obj:=tp #[S "term" 471,S "counts" 472,S "todo" 473,S "part" 474]
def X0:Obj:=fq (st 32) "occurrences"
def Qn:Obj:=cd "occurrences" 468 "occurrences" 469 470 117 1 0 3 215 true 216 N (R 217) (R 218) (R 219) 475 476
def Sf:Obj:=fo (st 32) "occurrences" "clausemill.terms" 404 220
def Q0:Obj:=tp #[S "term" 481,S "change" 482,S "again" 483,S "first" 484,S "frames" 485,S "result" 486,S "whole" 487,S "done" 488,S "args" 489,S "part" 490]
def Yq:Obj:=fq (st 33) "rebuild"
def MM:Obj:=cd "rebuild" 478 "rebuild" 479 480 127 3 0 3 222 true 223 N (R 224) (R 225) (R 226) 491 492
def Ry:Obj:=fo (st 33) "rebuild" "clausemill.terms" 404 227
def o229 (p:Params):Obj:=tp #[N]
def Lv:Obj:=tp #[S "term" 497,S "table" 498,S "change" 499]
def RB:Obj:=tp #[S "numbers" 500]
def YI:Obj:=fq (st 34) "renumber"
def LD:Obj:=cd "renumber" 494 "renumber" 495 496 158 2 0 3 230 true 231 N (R 232) (R 233) (R 234) 501 502
def Nl:Obj:=⟨T "function",none,.func (fn (st 34) (Str.ofString "renumber") 3 [] (R 229) N N (S "clausemill.terms" 404) none (R 235) N 0),#[]⟩
def Rb:Obj:=tp #[S "formal" 507]
def YO:Obj:=fq (st 35) "system_error"
def Na:Obj:=cd "system_error" 504 "system_error" 505 506 166 1 0 3 237 true 238 N (R 239) (R 240) (R 241) 508 509
def OV:Obj:=fo (st 35) "system_error" "clausemill.terms" 404 242
def Li:Obj:=tp #[S "symbols" 514,S "name" 515,S "parts" 516,S "args" 517,S "part" 518]
def Ws:Obj:=fq (st 36) "formal_of"
def Mp:Obj:=cd "formal_of" 511 "formal_of" 512 513 168 3 0 3 244 true 245 N (R 246) (R 247) (R 248) 519 520
def KM:Obj:=fo (st 36) "formal_of" "clausemill.terms" 404 249
def P8:Obj:=tp #[S "symbols" 525]
def UR:Obj:=fq (st 37) "instantiation_error"
def QE:Obj:=cd "instantiation_error" 522 "instantiation_error" 523 524 173 1 0 3 251 true 252 N (R 253) (R 254) (R 255) 526 527
def R8:Obj:=fo (st 37) "instantiation_error" "clausemill.terms" 404 256
def KT:Obj:=tp #[S "symbols" 532,S "kind" 533,S "culprit" 534]
def Un:Obj:=fq (st 38) "type_error"
def Nb:Obj:=cd "type_error" 529 "type_error" 530 531 175 3 0 3 258 true 259 N (R 260) (R 261) (R 262) 535 536
def PP:Obj:=fo (st 38) "type_error" "clausemill.terms" 404 263
def W5:Obj:=⟨T "builtin_function_or_method",none,.fields #[U "type.__prepare__",T "type"],#[]⟩
def UX (p:Params):Obj:=⟨T "dict",none,.dict #[kv p "__module__" 547 (S "clausemill.kernel" 538),kv p "__qualname__" 549 (S "Fresh" 548),kv p "__firstlineno__" 551 (I 178 550),kv p "__init__" 560 (R 279),kv p "number" 568 (R 286),kv p "__static_attributes__" 570 (R 287)] 6,#[]⟩
def Yr:Obj:=⟨N,none,.fields #[I 180 0,I 4 0,R 278,I 183 0,I 4 0,R 285],#[]⟩
def Xx:Obj:=cd "Fresh" 542 "Fresh" 543 544 178 0 0 0 268 false 269 N N N N 545 546
def Xa:Obj:=⟨T "frame",none,.plain,#[some (R 270),some (R 3),some (R 267),none,some (S "clausemill.kernel" 538),none,some (R 0)]⟩
def o272 (p:Params):Obj:=tp #[I 0 552]
def K9:Obj:=tp #[S "self" 556,S "first" 557]
def VD:Obj:=fq (ms 40 0) "Fresh.__init__"
def Nh:Obj:=cd "__init__" 553 "Fresh.__init__" 554 555 180 2 0 3 273 true 274 N (R 275) (R 276) (R 277) 558 559
def LU:Obj:=⟨T "function",none,.func (fn (ms 40 0) (Str.ofString "Fresh.__init__") 3 [] (R 272) N N (S "clausemill.kernel" 538) none (R 278) N 0),#[]⟩
def Og:Obj:=tp #[S "self" 564,S "n" 565]
def Xn:Obj:=fq (ms 40 1) "Fresh.number"
def PF:Obj:=cd "number" 561 "Fresh.number" 562 563 183 1 0 3 280 true 281 N (R 282) (R 283) (R 284) 566 567
def Rd:Obj:=fo (ms 40 1) "Fresh.number" "clausemill.kernel" 538 285
def OO:Obj:=tp #[S "next" 569]
def M4 (p:Params):Obj:=⟨T "dict",none,.dict #[kv p "__module__" 547 (S "clausemill.kernel" 538),kv p "__firstlineno__" 551 (I 178 550),kv p "__init__" 560 (R 279),kv p "number" 568 (R 286),kv p "__static_attributes__" 570 (R 287),kv p "__dict__" 572 (R 290),kv p "__weakref__" 574 (R 291),kv p "__doc__" 575 N] 4,#[]⟩
def NO:Obj:=⟨T "type",none,.cls ⟨Str.ofString "Fresh",[T "object"],[R 289,T "object"],288,Str.ofString "Fresh",true,[],[],false,none,false⟩,#[none,none,some (S "Fresh" 540),some (S "Fresh" 548),some (U "object.__new__"),some (B true)]⟩
def Me:Obj:=⟨T "getset_descriptor",none,.fields #[S "__dict__" 571,R 289,U "function.__dict__",U "function.__dict__#set"],#[]⟩
def ME:Obj:=⟨T "getset_descriptor",none,.fields #[S "__weakref__" 573,R 289,U "ExceptionGroup.__weakref__",N],#[]⟩
def WP:Obj:=⟨T "super",none,.fields #[R 289,R 289,R 289],#[]⟩
def WZ:Obj:=⟨T "builtin_function_or_method",none,.fields #[U "object.__init_subclass__",R 289],#[]⟩
def XS:Obj:=⟨T "builtin_function_or_method",none,.fields #[U "type.__prepare__",T "type"],#[]⟩
def X4 (p:Params):Obj:=⟨T "dict",none,.dict #[kv p "__module__" 585 (S "clausemill.kernel" 538),kv p "__qualname__" 587 (S "KernelClause" 586),kv p "__firstlineno__" 589 (I 187 588),kv p "__init__" 600 (R 307),kv p "__static_attributes__" 605 (R 308)] 5,#[]⟩
def UT:Obj:=⟨N,none,.fields #[I 189 0,I 4 0,R 306],#[]⟩
def X9:Obj:=cd "KernelClause" 580 "KernelClause" 581 582 187 0 0 0 297 false 298 N N N N 583 584
def Uy:Obj:=⟨T "frame",none,.plain,#[some (R 299),some (R 3),some (R 296),none,some (S "clausemill.kernel" 538),none,some (R 0)]⟩
def MG:Obj:=tp #[S "self" 593,S "functor" 594,S "args" 595,S "goals" 596,S "count" 597]
def YM:Obj:=fq (ms 41 0) "KernelClause.__init__"
def RO:Obj:=cd "__init__" 590 "KernelClause.__init__" 591 592 189 5 0 3 301 true 302 N (R 303) (R 304) (R 305) 598 599
def LZ:Obj:=fo (ms 41 0) "KernelClause.__init__" "clausemill.kernel" 538 306
def LN:Obj:=tp #[S "args" 601,S "count" 602,S "functor" 603,S "goals" 604]
def Mn (p:Params):Obj:=⟨T "dict",none,.dict #[kv p "__module__" 585 (S "clausemill.kernel" 538),kv p "__firstlineno__" 589 (I 187 588),kv p "__init__" 600 (R 307),kv p "__static_attributes__" 605 (R 308),kv p "__dict__" 607 (R 311),kv p "__weakref__" 609 (R 312),kv p "__doc__" 610 N] 4,#[]⟩
def OE:Obj:=⟨T "type",none,.cls ⟨Str.ofString "KernelClause",[T "object"],[R 310,T "object"],309,Str.ofString "KernelClause",true,[],[],false,none,false⟩,#[none,none,some (S "KernelClause" 578),some (S "KernelClause" 586),some (U "object.__new__"),some (B true)]⟩
def LM:Obj:=⟨T "getset_descriptor",none,.fields #[S "__dict__" 606,R 310,U "function.__dict__",U "function.__dict__#set"],#[]⟩
def Pj:Obj:=⟨T "getset_descriptor",none,.fields #[S "__weakref__" 608,R 310,U "ExceptionGroup.__weakref__",N],#[]⟩
def XT:Obj:=⟨T "super",none,.fields #[R 310,R 310,R 310],#[]⟩
def UU:Obj:=⟨T "builtin_function_or_method",none,.fields #[U "object.__init_subclass__",R 310],#[]⟩
def MX:Obj:=tp #[S "term" 616,S "stack" 617,S "t" 618]
def Ue:Obj:=fq (st 42) "is_body"
def PK:Obj:=cd "is_body" 613 "is_body" 614 615 194 1 0 3 315 true 316 N (R 317) (R 318) (R 319) 619 620
def RK:Obj:=fo (st 42) "is_body" "clausemill.kernel" 538 320
def PQ:Obj:=tp #[S "symbols" 625,S "term" 626,S "head" 627,S "body" 628]
def Vu:Obj:=fq (st 43) "split_clause"
def PZ:Obj:=cd "split_clause" 622 "split_clause" 623 624 204 2 0 3 322 true 323 N (R 324) (R 325) (R 326) 629 630
def Lz:Obj:=fo (st 43) "split_clause" "clausemill.kernel" 538 327
def Pg:Obj:=tp #[S "term" 635,S "functors" 636,S "parts" 637]
def Ti:Obj:=fq (st 44) "right_spine"
def RG:Obj:=cd "right_spine" 632 "right_spine" 633 634 217 2 0 3 329 true 330 N (R 331) (R 332) (R 333) 638 639
def Mj:Obj:=fo (st 44) "right_spine" "clausemill.kernel" 538 334
def NW:Obj:=tp #[S "term" 649,S "goals" 650,S "stack" 651,S "t" 652]
def Wt:Obj:=fq (st 47) "flat_goals"
def Pf:Obj:=cd "flat_goals" 646 "flat_goals" 647 648 226 1 0 3 336 true 337 N (R 338) (R 339) (R 340) 653 654
def Sd:Obj:=fo (st 47) "flat_goals" "clausemill.normal" 641 341
def Ps:Obj:=tp #[S "term" 659,S "stack" 660,S "t" 661]
def Ua:Obj:=fq (st 48) "has_cut"
def QW:Obj:=cd "has_cut" 656 "has_cut" 657 658 239 1 0 3 343 true 344 N (R 345) (R 346) (R 347) 662 663
def Lq:Obj:=fo (st 48) "has_cut" "clausemill.normal" 641 348
def S8:Obj:=⟨T "builtin_function_or_method",none,.fields #[U "type.__prepare__",T "type"],#[]⟩
def Vq (p:Params):Obj:=⟨T "dict",none,.dict #[kv p "__module__" 672 (S "clausemill.normal" 641),kv p "__qualname__" 674 (S "ClauseState" 673),kv p "__firstlineno__" 676 (I 253 675),kv p "__init__" 684 (R 363),kv p "__static_attributes__" 689 (R 364)] 5,#[]⟩
def SM:Obj:=⟨N,none,.fields #[I 255 0,I 4 0,R 362],#[]⟩
def Yp:Obj:=cd "ClauseState" 667 "ClauseState" 668 669 253 0 0 0 353 false 354 N N N N 670 671
def WH:Obj:=⟨T "frame",none,.plain,#[some (R 355),some (R 3),some (R 352),none,some (S "clausemill.normal" 641),none,some (R 0)]⟩
def Ow:Obj:=tp #[S "self" 680,S "totals" 681]
def YV:Obj:=fq (ms 49 0) "ClauseState.__init__"
def Ri:Obj:=cd "__init__" 677 "ClauseState.__init__" 678 679 255 2 0 3 357 true 358 N (R 359) (R 360) (R 361) 682 683
def Mm:Obj:=fo (ms 49 0) "ClauseState.__init__" "clausemill.normal" 641 362
def LE:Obj:=tp #[S "called" 685,S "goals" 686,S "level" 687,S "totals" 688]
def PH (p:Params):Obj:=⟨T "dict",none,.dict #[kv p "__module__" 672 (S "clausemill.normal" 641),kv p "__firstlineno__" 676 (I 253 675),kv p "__init__" 684 (R 363),kv p "__static_attributes__" 689 (R 364),kv p "__dict__" 691 (R 367),kv p "__weakref__" 693 (R 368),kv p "__doc__" 694 N] 4,#[]⟩
def Ol:Obj:=⟨T "type",none,.cls ⟨Str.ofString "ClauseState",[T "object"],[R 366,T "object"],365,Str.ofString "ClauseState",true,[],[],false,none,false⟩,#[none,none,some (S "ClauseState" 665),some (S "ClauseState" 673),some (U "object.__new__"),some (B true)]⟩
def LP:Obj:=⟨T "getset_descriptor",none,.fields #[S "__dict__" 690,R 366,U "function.__dict__",U "function.__dict__#set"],#[]⟩
def Pn:Obj:=⟨T "getset_descriptor",none,.fields #[S "__weakref__" 692,R 366,U "ExceptionGroup.__weakref__",N],#[]⟩
def TP:Obj:=⟨T "super",none,.fields #[R 366,R 366,R 366],#[]⟩
def Xb:Obj:=⟨T "builtin_function_or_method",none,.fields #[U "object.__init_subclass__",R 366],#[]⟩
def XI:Obj:=⟨T "builtin_function_or_method",none,.fields #[U "type.__prepare__",T "type"],#[]⟩
def V3 (p:Params):Obj:=⟨T "dict",none,.dict #[kv p "__module__" 704 (S "clausemill.normal" 641),kv p "__qualname__" 706 (S "Normaliser" 705),kv p "__firstlineno__" 708 (I 260 707),kv p "__init__" 719 (R 384),kv p "new_variable" 727 (R 391),kv p "run" 739 (R 398),kv p "clause" 755 (R 405),kv p "totals" 770 (R 412),kv p "level_variable" 778 (R 419),kv p "cut" 787 (R 426),kv p "goal" 799 (R 433),kv p "auxiliary" 817 (R 440),kv p "condition" 826 (R 447),kv p "branches" 838 (R 454),kv p "negation" 847 (R 461),kv p "finish" 862 (R 468),kv p "__static_attributes__" 868 (R 469)] 17,#[]⟩
def VN:Obj:=⟨N,none,.fields #[I 262 0,I 4 0,R 383,I 269 0,I 4 0,R 390,I 274 0,I 4 0,R 397,I 283 0,I 4 0,R 404,I 304 0,I 4 0,R 411,I 316 0,I 4 0,R 418,I 321 0,I 4 0,R 425,I 329 0,I 4 0,R 432,I 350 0,I 4 0,R 439,I 374 0,I 4 0,R 446,I 380 0,I 4 0,R 453,I 392 0,I 4 0,R 460,I 401 0,I 4 0,R 467],#[]⟩
def Yk:Obj:=cd "Normaliser" 699 "Normaliser" 700 701 260 0 0 0 374 false 375 N N N N 702 703
def T7:Obj:=⟨T "frame",none,.plain,#[some (R 376),some (R 3),some (R 373),none,some (S "clausemill.normal" 641),none,some (R 0)]⟩
def RY:Obj:=tp #[S "self" 712,S "symbols" 713,S "inline" 714,S "fresh" 715,S "next_variable" 716]
def Ug:Obj:=fq (ms 50 0) "Normaliser.__init__"
def Oa:Obj:=cd "__init__" 709 "Normaliser.__init__" 710 711 262 5 0 3 378 true 379 N (R 380) (R 381) (R 382) 717 718
def OW:Obj:=fo (ms 50 0) "Normaliser.__init__" "clausemill.normal" 641 383
def OZ:Obj:=tp #[S "self" 723,S "k" 724]
def TZ:Obj:=fq (ms 50 1) "Normaliser.new_variable"
def Mc:Obj:=cd "new_variable" 720 "Normaliser.new_variable" 721 722 269 1 0 3 385 true 386 N (R 387) (R 388) (R 389) 725 726
def PV:Obj:=fo (ms 50 1) "Normaliser.new_variable" "clausemill.normal" 641 390
def Ny:Obj:=tp #[S "self" 731,S "kernels" 732,S "at" 733,S "functor" 734,S "args" 735,S "items" 736]
def S7:Obj:=fq (ms 50 2) "Normaliser.run"
def KN:Obj:=cd "run" 728 "Normaliser.run" 729 730 274 1 0 3 392 true 393 N (R 394) (R 395) (R 396) 737 738
def Mv:Obj:=fo (ms 50 2) "Normaliser.run" "clausemill.normal" 641 397
def QO:Obj:=tp #[S "self" 743,S "functor" 744,S "args" 745,S "items" 746,S "elements" 747,S "item" 748,S "goal" 749,S "state" 750,S "element" 751,S "goals" 752]
def UN:Obj:=fq (ms 50 3) "Normaliser.clause"
def NT:Obj:=cd "clause" 740 "Normaliser.clause" 741 742 283 4 0 3 399 true 400 N (R 401) (R 402) (R 403) 753 754
def Nx:Obj:=fo (ms 50 3) "Normaliser.clause" "clausemill.normal" 641 404
def Qk:Obj:=tp #[S "self" 759,S "args" 760,S "elements" 761,S "totals" 762,S "terms" 763,S "element" 764,S "term" 765,S "counts" 766,S "k" 767]
def XE:Obj:=fq (ms 50 4) "Normaliser.totals"
def Mr:Obj:=cd "totals" 756 "Normaliser.totals" 757 758 304 3 0 3 406 true 407 N (R 408) (R 409) (R 410) 768 769
def K4:Obj:=fo (ms 50 4) "Normaliser.totals" "clausemill.normal" 641 411
def Qx:Obj:=tp #[S "self" 774,S "state" 775]
def X6:Obj:=fq (ms 50 5) "Normaliser.level_variable"
def Oe:Obj:=cd "level_variable" 771 "Normaliser.level_variable" 772 773 316 2 0 3 413 true 414 N (R 415) (R 416) (R 417) 776 777
def La:Obj:=fo (ms 50 5) "Normaliser.level_variable" "clausemill.normal" 641 418
def N5:Obj:=tp #[S "self" 782,S "state" 783,S "target" 784]
def TQ:Obj:=fq (ms 50 6) "Normaliser.cut"
def K7:Obj:=cd "cut" 779 "Normaliser.cut" 780 781 321 3 0 3 420 true 421 N (R 422) (R 423) (R 424) 785 786
def PI:Obj:=fo (ms 50 6) "Normaliser.cut" "clausemill.normal" 641 425
def Qb:Obj:=tp #[S "self" 791,S "state" 792,S "term" 793,S "target" 794,S "f" 795,S "args" 796]
def VU:Obj:=fq (ms 50 7) "Normaliser.goal"
def Nf:Obj:=cd "goal" 788 "Normaliser.goal" 789 790 329 4 0 3 427 true 428 N (R 429) (R 430) (R 431) 797 798
def M8:Obj:=fo (ms 50 7) "Normaliser.goal" "clausemill.normal" 641 432
def Ph:Obj:=tp #[S "self" 803,S "state" 804,S "term" 805,S "target" 806,S "inner" 807,S "args" 808,S "k" 809,S "branch_target" 810,S "name" 811,S "f" 812,S "bodies" 813,S "items" 814]
def Ts:Obj:=fq (ms 50 8) "Normaliser.auxiliary"
def KZ:Obj:=cd "auxiliary" 800 "Normaliser.auxiliary" 801 802 350 4 0 3 434 true 435 N (R 436) (R 437) (R 438) 815 816
def Po:Obj:=fo (ms 50 8) "Normaliser.auxiliary" "clausemill.normal" 641 439
def LH:Obj:=tp #[S "self" 821,S "term" 822,S "k" 823]
def VY:Obj:=fq (ms 50 9) "Normaliser.condition"
def NK:Obj:=cd "condition" 818 "Normaliser.condition" 819 820 374 2 0 3 441 true 442 N (R 443) (R 444) (R 445) 824 825
def Rh:Obj:=fo (ms 50 9) "Normaliser.condition" "clausemill.normal" 641 446
def RL:Obj:=tp #[S "self" 830,S "term" 831,S "target" 832,S "bodies" 833,S "part" 834,S "items" 835]
def SO:Obj:=fq (ms 50 10) "Normaliser.branches"
def N6:Obj:=cd "branches" 827 "Normaliser.branches" 828 829 380 3 0 3 448 true 449 N (R 450) (R 451) (R 452) 836 837
def Od:Obj:=fo (ms 50 10) "Normaliser.branches" "clausemill.normal" 641 453
def Md:Obj:=tp #[S "self" 842,S "term" 843,S "items" 844]
def YG:Obj:=fq (ms 50 11) "Normaliser.negation"
def Mw:Obj:=cd "negation" 839 "Normaliser.negation" 840 841 392 2 0 3 455 true 456 N (R 457) (R 458) (R 459) 845 846
def Rk:Obj:=fo (ms 50 11) "Normaliser.negation" "clausemill.normal" 641 460
def Np:Obj:=tp #[S "self" 851,S "functor" 852,S "args" 853,S "goals" 854,S "table" 855,S "done" 856,S "goal" 857,S "kind" 858,S "terms" 859]
def Yz:Obj:=fq (ms 50 12) "Normaliser.finish"
def MO:Obj:=cd "finish" 848 "Normaliser.finish" 849 850 401 4 0 3 462 true 463 N (R 464) (R 465) (R 466) 860 861
def OK:Obj:=fo (ms 50 12) "Normaliser.finish" "clausemill.normal" 641 467
def Qv:Obj:=tp #[S "fresh" 863,S "inline" 864,S "next_variable" 865,S "symbols" 866,S "work" 867]
def Q8 (p:Params):Obj:=⟨T "dict",none,.dict #[kv p "__module__" 704 (S "clausemill.normal" 641),kv p "__firstlineno__" 708 (I 260 707),kv p "__init__" 719 (R 384),kv p "new_variable" 727 (R 391),kv p "run" 739 (R 398),kv p "clause" 755 (R 405),kv p "totals" 770 (R 412),kv p "level_variable" 778 (R 419),kv p "cut" 787 (R 426),kv p "goal" 799 (R 433),kv p "auxiliary" 817 (R 440),kv p "condition" 826 (R 447),kv p "branches" 838 (R 454),kv p "negation" 847 (R 461),kv p "finish" 862 (R 468),kv p "__static_attributes__" 868 (R 469),kv p "__dict__" 870 (R 472),kv p "__weakref__" 872 (R 473),kv p "__doc__" 873 N] 4,#[]⟩
def QS:Obj:=⟨T "type",none,.cls ⟨Str.ofString "Normaliser",[T "object"],[R 471,T "object"],470,Str.ofString "Normaliser",true,[],[],false,none,false⟩,#[none,none,some (S "Normaliser" 697),some (S "Normaliser" 705),some (U "object.__new__"),some (B true)]⟩
def KU:Obj:=⟨T "getset_descriptor",none,.fields #[S "__dict__" 869,R 471,U "function.__dict__",U "function.__dict__#set"],#[]⟩
def ML:Obj:=⟨T "getset_descriptor",none,.fields #[S "__weakref__" 871,R 471,U "ExceptionGroup.__weakref__",N],#[]⟩
def UL:Obj:=⟨T "super",none,.fields #[R 471,R 471,R 471],#[]⟩
def TB:Obj:=⟨T "builtin_function_or_method",none,.fields #[U "object.__init_subclass__",R 471],#[]⟩
def QZ:Obj:=tp #[S "terms" 879,S "table" 880,S "done" 881,S "term" 882,S "new" 883]
def YX:Obj:=fq (st 51) "renumber_all"
def N4:Obj:=cd "renumber_all" 876 "renumber_all" 877 878 420 2 0 3 476 true 477 N (R 478) (R 479) (R 480) 884 885
def Ly:Obj:=fo (st 51) "renumber_all" "clausemill.normal" 641 481
def M0:Obj:=tp #[S "symbols" 890,S "inline" 891,S "term" 892,S "fresh" 893,S "head" 894,S "body" 895,S "greatest" 896,S "k" 897,S "maker" 898]
def VZ:Obj:=fq (st 52) "normalise"
def L8:Obj:=cd "normalise" 887 "normalise" 888 889 426 4 0 3 483 true 484 N (R 485) (R 486) (R 487) 899 900
def QN:Obj:=fo (st 52) "normalise" "clausemill.normal" 641 488
def Mx:Obj:=tp #[S "script" 907,S "coins" 908,S "cell" 909,S "left" 910,S "lap" 911]
def Vf:Obj:=fq (st 54) "_law_coins"
def Rg:Obj:=cd "_law_coins" 904 "_law_coins" 905 906 436 1 0 3 490 true 491 N (R 492) (R 493) (R 494) 912 913
def Nt:Obj:=fo (st 54) "_law_coins" "law_rh0092_01" 902 495
def MA:Obj:=tp #[S "coins" 918,S "sides" 919]
def UK:Obj:=fq (st 55) "_law_coin"
def Pm:Obj:=cd "_law_coin" 915 "_law_coin" 916 917 449 2 0 3 497 true 498 N (R 499) (R 500) (R 501) 920 921
def Pa:Obj:=fo (st 55) "_law_coin" "law_rh0092_01" 902 502
def K3:Obj:=tp #[S "coins" 926,S "signs" 927,S "denied" 928,S "way" 929,S "first" 930]
def Tv:Obj:=fq (st 56) "_law_leaf"
def PW:Obj:=cd "_law_leaf" 923 "_law_leaf" 924 925 451 3 0 3 504 true 505 N (R 506) (R 507) (R 508) 931 932
def PY:Obj:=fo (st 56) "_law_leaf" "law_rh0092_01" 902 509
def Mf:Obj:=tp #[S "coins" 937,S "signs" 938,S "room" 939,S "deep" 940,S "denied" 941,S "way" 942,S "left" 943,S "right" 944]
def W1:Obj:=fq (st 57) "_law_body"
def NR:Obj:=cd "_law_body" 934 "_law_body" 935 936 467 5 0 3 511 true 512 N (R 513) (R 514) (R 515) 945 946
def PO:Obj:=fo (st 57) "_law_body" "law_rh0092_01" 902 516
def Nw:Obj:=tp #[S "term" 951,S "names" 952,S "line" 953,S "part" 954]
def Yw:Obj:=fq (st 58) "_law_spell"
def QA:Obj:=cd "_law_spell" 948 "_law_spell" 949 950 479 3 0 3 518 true 519 N (R 520) (R 521) (R 522) 955 956
def LR:Obj:=fo (st 58) "_law_spell" "law_rh0092_01" 902 523
def Se:Obj:=tp #[S "term" 961,S "found" 962,S "part" 963]
def Tf:Obj:=fq (st 59) "_law_met"
def Qg:Obj:=cd "_law_met" 958 "_law_met" 959 960 490 1 0 3 525 true 526 N (R 527) (R 528) (R 529) 964 965
def Pq:Obj:=fo (st 59) "_law_met" "law_rh0092_01" 902 530
def KI:Obj:=tp #[S "term" 970]
def VW:Obj:=fq (st 60) "_law_can_run"
def RU:Obj:=cd "_law_can_run" 967 "_law_can_run" 968 969 497 1 0 3 532 true 533 N (R 534) (R 535) (R 536) 971 972
def L9:Obj:=fo (st 60) "_law_can_run" "law_rh0092_01" 902 537
def MQ:Obj:=tp #[S "term" 977,S "barrier" 978]
def UB:Obj:=fq (st 61) "_law_rows"
def QB:Obj:=cd "_law_rows" 974 "_law_rows" 975 976 501 2 0 3 539 true 540 N (R 541) (R 542) (R 543) 979 980
def KL:Obj:=fo (st 61) "_law_rows" "law_rh0092_01" 902 544
def Ot:Obj:=tp #[S "term" 985,S "barrier" 986,S "here" 987,S "commit" 988,S "denied" 989,S "parts" 990,S "ways" 991,S "place" 992,S "part" 993,S "tested" 994]
def Wz:Obj:=fq (st 62) "_law_split"
def Lb:Obj:=cd "_law_split" 982 "_law_split" 983 984 505 3 0 3 546 true 547 N (R 548) (R 549) (R 550) 995 996
def OG:Obj:=fo (st 62) "_law_split" "law_rh0092_01" 902 551
def Ng:Obj:=tp #[S "rows" 1001,S "names" 1002,S "line" 1003,S "world" 1004,S "outer" 1005,S "at" 1006,S "goal" 1007,S "barrier" 1008,S "near" 1009,S "other" 1010,S "part" 1011]
def Tr:Obj:=fq (st 63) "_law_told"
def NX:Obj:=cd "_law_told" 998 "_law_told" 999 1000 526 4 0 3 553 true 554 N (R 555) (R 556) (R 557) 1012 1013
def NM:Obj:=fo (st 63) "_law_told" "law_rh0092_01" 902 558
def VT:Obj:=fq (st 64) "_law_choice"
def NN:Obj:=cd "_law_choice" 1015 "_law_choice" 1016 1017 551 6 0 3 560 true 561 N N N (R 562) 1018 1019
def Lw:Obj:=fo (st 64) "_law_choice" "law_rh0092_01" 902 563
def Px:Obj:=tp #[S "kernel" 1024,S "names" 1025,S "here" 1026,S "place" 1027,S "line" 1028,S "world" 1029,S "called" 1030,S "at" 1031,S "goal" 1032,S "kind" 1033,S "goes" 1034,S "part" 1035]
def X7:Obj:=fq (st 65) "_law_read"
def M5:Obj:=cd "_law_read" 1021 "_law_read" 1022 1023 565 6 0 3 565 true 566 N (R 567) (R 568) (R 569) 1036 1037
def QI:Obj:=fo (st 65) "_law_read" "law_rh0092_01" 902 570
def o3 (p:Params):Obj:=⟨T "dict",none,.dict #[kv p "__name__" 165 (S "law_rh0092_01" 902),kv p "__doc__" 166 N,kv p "__package__" 167 N,kv p "__loader__" 168 (U "__main__.__loader__#opaque"),kv p "__spec__" 169 N,kv p "__annotations__" 170 (R 6),kv p "__builtins__" 171 (R 4),kv p "__file__" 173 (S "/claim/cut.py" 172),kv p "__cached__" 174 N,kv p "_wall" 193 (R 21),kv p "ClausemillError" 215 (R 31),kv p "PrologError" 240 (R 51),kv p "A_CUT" 242 (I 15 241),kv p "A_TRUE" 244 (I 16 243),kv p "A_FAIL" 246 (I 17 245),kv p "A_FALSE" 248 (I 18 247),kv p "A_SYSTEM" 250 (I 25 249),kv p "F_COMMA" 252 (I 1 251),kv p "F_SEMI" 254 (I 2 253),kv p "F_ARROW" 256 (I 3 255),kv p "F_NOT" 258 (I 4 257),kv p "F_NECK" 260 (I 5 259),kv p "F_EQUAL" 262 (I 10 261),kv p "F_ERROR" 264 (I 16 263),kv p "F_CUT" 266 (I 20 265),kv p "F_FAIL" 268 (I 22 267),kv p "F_FALSE" 270 (I 23 269),kv p "F_CALL1" 272 (I 24 271),kv p "fixed_atoms" 278 (R 60),kv p "fixed_functors" 284 (R 67),kv p "Symbols" 403 (R 154),kv p "var" 412 (R 165),kv p "atom" 419 (R 172),kv p "struct" 427 (R 179),kv p "is_callable" 434 (R 186),kv p "functor_in" 442 (R 193),kv p "arguments" 449 (R 200),kv p "variables" 456 (R 207),kv p "variables_of" 467 (R 214),kv p "occurrences" 477 (R 221),kv p "rebuild" 493 (R 228),kv p "renumber" 503 (R 236),kv p "system_error" 510 (R 243),kv p "formal_of" 521 (R 250),kv p "instantiation_error" 528 (R 257),kv p "type_error" 537 (R 264),kv p "Fresh" 577 (R 289),kv p "KernelClause" 612 (R 310),kv p "is_body" 621 (R 321),kv p "split_clause" 631 (R 328),kv p "right_spine" 640 (R 335),kv p "OWN" 645 (I (-1) 644),kv p "flat_goals" 655 (R 342),kv p "has_cut" 664 (R 349),kv p "ClauseState" 696 (R 366),kv p "Normaliser" 875 (R 471),kv p "renumber_all" 886 (R 482),kv p "normalise" 901 (R 489),kv p "_law_coins" 914 (R 496),kv p "_law_coin" 922 (R 503),kv p "_law_leaf" 933 (R 510),kv p "_law_body" 947 (R 517),kv p "_law_spell" 957 (R 524),kv p "_law_met" 966 (R 531),kv p "_law_can_run" 973 (R 538),kv p "_law_rows" 981 (R 545),kv p "_law_split" 997 (R 552),kv p "_law_told" 1014 (R 559),kv p "_law_choice" 1020 (R 564),kv p "_law_read" 1038 (R 571),kv p "_law_open" 1044 (R 576),kv p "law" 1050 (R 581)] 72,#[]⟩
def Ul:Obj:=⟨N,none,.fields #[I 1 0,I 0 0,R 20,I 5 0,I 0 0,R 27,I 7 0,I 0 0,R 40,I 27 0,I 0 0,R 59,I 29 0,I 0 0,R 66,I 31 0,I 0 0,R 73,I 86 0,I 0 0,R 164,I 88 0,I 0 0,R 171,I 90 0,I 0 0,R 178,I 92 0,I 0 0,R 185,I 94 0,I 0 0,R 192,I 98 0,I 0 0,R 199,I 102 0,I 0 0,R 206,I 104 0,I 0 0,R 213,I 117 0,I 0 0,R 220,I 127 0,I 0 0,R 227,I 158 0,I 0 0,R 235,I 166 0,I 0 0,R 242,I 168 0,I 0 0,R 249,I 173 0,I 0 0,R 256,I 175 0,I 0 0,R 263,I 178 0,I 0 0,R 270,I 187 0,I 0 0,R 299,I 194 0,I 0 0,R 320,I 204 0,I 0 0,R 327,I 217 0,I 0 0,R 334,I 226 0,I 0 0,R 341,I 239 0,I 0 0,R 348,I 253 0,I 0 0,R 355,I 260 0,I 0 0,R 376,I 420 0,I 0 0,R 481,I 426 0,I 0 0,R 488,I 436 0,I 0 0,R 495,I 449 0,I 0 0,R 502,I 451 0,I 0 0,R 509,I 467 0,I 0 0,R 516,I 479 0,I 0 0,R 523,I 490 0,I 0 0,R 530,I 497 0,I 0 0,R 537,I 501 0,I 0 0,R 544,I 505 0,I 0 0,R 551,I 526 0,I 0 0,R 558,I 551 0,I 0 0,R 563,I 565 0,I 0 0,R 570,I 595 0,I 0 0,R 575,I 621 0,I 0 0,R 580],#[]⟩
def Uc:Obj:=fq (st 66) "_law_open"
def PB:Obj:=cd "_law_open" 1039 "_law_open" 1040 1041 595 4 0 3 572 true 573 N N N (R 574) 1042 1043
def Mk:Obj:=fo (st 66) "_law_open" "law_rh0092_01" 902 575
def WO:Obj:=fq (st 67) "law"
def RH:Obj:=cd "law" 1045 "law" 1046 1047 621 1 0 3 577 true 578 N N N (R 579) 1048 1049
def Oh:Obj:=fo (st 67) "law" "law_rh0092_01" 902 580
def e3 (p:Params):List DictEntry:=match (o3 p).data with
 |.dict a _=>a.toList.drop 1
 |_=>[]
def m3 (p:Params)(M:String)(m n:Nat):Obj:=⟨T "dict",none,.dict ((kv p "__name__" 165 (S M m)::e3 p).take n).toArray n,#[]⟩
def EE (n:Nat):Obj:=match Ul.data with
 |.fields a=>⟨N,none,.fields (a.toList.take n).toArray,#[]⟩
 |_=>Ul
def Uh (p:Params):Obj:=m3 p "clausemill.symbols" 194 12
def Ln:Obj:=EE 9
def Wg (p:Params):Obj:=m3 p "clausemill.symbols" 194 30
def RD:Obj:=EE 15
def UQ (p:Params):Obj:=m3 p "clausemill.symbols" 194 31
def P4:Obj:=EE 18
def Uu (p:Params):Obj:=m3 p "clausemill.terms" 404 46
def Pd:Obj:=EE 63
def Vx (p:Params):Obj:=m3 p "clausemill.kernel" 538 47
def MZ:Obj:=EE 66
def UO (p:Params):Obj:=m3 p "clausemill.normal" 641 54
def MB:Obj:=EE 84
def W7 (p:Params):Obj:=m3 p "clausemill.normal" 641 55
def KS:Obj:=EE 87
def Ur (p:Params):Obj:=m3 p "clausemill.normal" 641 56
def Q9:Obj:=EE 90
def VF (p:Params):Obj:=m3 p "law_rh0092_01" 902 70
def KQ:Obj:=EE 132
def l9 (p:Params):List Obj:=[boot_o_0 p,boot_o_1 p,o2 p,o3 p,boot_o_4 p,boot_o_5 p,boot_o_6 p,boot_o_7 p,boot_o_8 p,boot_o_9 p,boot_o_10 p,tz,Ul,ZK,Zc,tz,fz,Zy,tz,o19,ZQ,Y9,ZM,o23,o24 p,tz,fz,o27,o28,tz,o30 p,Y3,Za,o33,o34,Z1,o36,o37 p,tz,o39,o40,o41,tz,fz,Zr,tz,o46,ZC,ZD,ZB,Zo p,Zs,o52,o53,tz,fz,tz,tz,o58,ZU,o60,tz,fz,tz,tz,o65,Y2,Y5,tz,o69,o70 p,tz,o72,o73,o74,tz,fz,Zm,tz,o79,Zx,ZN,tz,fz,Ze,tz,o86,ZH,Zi,tz,fz,ZI,tz,o93,ZX,ZL,tz,fz,Z4,tz,Xo,MH,KO,tz,fz,No,tz,XX,NB,KJ,tz,fz,Ni,tz,Xi,Qw,MV,tz,fz,RX,tz,XM,Nc,Q2,tz,fz,Mu,tz,UG,L5,Ro,tz,fz,Rt,tz,VO,Qs,Pr,tz,fz,PU,tz,Yy,Pp,M9,tz,fz,OC,tz,XH,KW,QM,Nk,Q3 p,Lc,Qh,NP,SZ,TA,tz,fz,Qo,tz,WR,O9,OJ,tz,fz,QQ,tz,Vp,NS,Ru,tz,fz,M7,tz,T3,NA,OF,tz,fz,Lk,tz,Yv,MC,QC,tz,fz,LB,tz,YN,M2,Pw,tz,fz,PX,tz,Wb,QK,Pe,tz,fz,OQ,tz,TR,PE,Oz,tz,fz,Oo,tz,Tj,Pu,Qi,tz,fz,Lo,tz,X0,Qn,Sf,tz,fz,Q0,tz,Yq,MM,Ry,o229 p,tz,fz,Lv,RB,YI,LD,Nl,tz,fz,Rb,tz,YO,Na,OV,tz,fz,Li,tz,Ws,Mp,KM,tz,fz,P8,tz,UR,QE,R8,tz,fz,KT,tz,Un,Nb,PP,tz,W5,UX p,tz,Yr,Xx,Xa,o272 p,tz,fz,K9,tz,VD,Nh,LU,tz,fz,Og,tz,Xn,PF,Rd,OO,M4 p,NO,Me,ME,WP,WZ,tz,XS,X4 p,tz,UT,X9,Uy,tz,fz,MG,tz,YM,RO,LZ,LN,Mn p,OE,LM,Pj,XT,UU,tz,fz,MX,tz,Ue,PK,RK,tz,fz,PQ,tz,Vu,PZ,Lz,tz,fz,Pg,tz,Ti,RG,Mj,tz,fz,NW,tz,Wt,Pf,Sd,tz,fz,Ps,tz,Ua,QW,Lq,tz,S8,Vq p,tz,SM,Yp,WH,tz,fz,Ow,tz,YV,Ri,Mm,LE,PH p,Ol,LP,Pn,TP,Xb,tz,XI,V3 p,tz,VN,Yk,T7,tz,fz,RY,tz,Ug,Oa,OW,tz,fz,OZ,tz,TZ,Mc,PV,tz,fz,Ny,tz,S7,KN,Mv,tz,fz,QO,tz,UN,NT,Nx,tz,fz,Qk,tz,XE,Mr,K4,tz,fz,Qx,tz,X6,Oe,La,tz,fz,N5,tz,TQ,K7,PI,tz,fz,Qb,tz,VU,Nf,M8,tz,fz,Ph,tz,Ts,KZ,Po,tz,fz,LH,tz,VY,NK,Rh,tz,fz,RL,tz,SO,N6,Od,tz,fz,Md,tz,YG,Mw,Rk,tz,fz,Np,tz,Yz,MO,OK,Qv,Q8 p,QS,KU,ML,UL,TB,tz,fz,QZ,tz,YX,N4,Ly,tz,fz,M0,tz,VZ,L8,QN,tz,fz,Mx,tz,Vf,Rg,Nt,tz,fz,MA,tz,UK,Pm,Pa,tz,fz,K3,tz,Tv,PW,PY,tz,fz,Mf,tz,W1,NR,PO,tz,fz,Nw,tz,Yw,QA,LR,tz,fz,Se,tz,Tf,Qg,Pq,tz,fz,KI,tz,VW,RU,L9,tz,fz,MQ,tz,UB,QB,KL,tz,fz,Ot,tz,Wz,Lb,OG,tz,fz,Ng,tz,Tr,NX,NM,tz,fz,VT,NN,Lw,tz,fz,Px,tz,X7,M5,QI,tz,fz,Uc,PB,Mk,tz,fz,WO,RH,Oh]
noncomputable def ev:List Obj→List Obj
 |[]=>[]
 |[x]=>[x]
 |x::_::r=>x::ev r
noncomputable def bl:Nat→List Obj→BT
 |0,_=>.nil
 |_,[]=>.nil
 |k+1,x::r=>.node x (bl k (ev r)) (bl k (ev r.tail))
def tk (p:Params)(n:Nat)(c:List (Nat×Obj)):BT:=bl 11 (c.foldl (λ l x=>l.set x.1 x.2) ((l9 p).take n))
def Ss (p:Params):Heap:=⟨⟨[boot_o_0 p,boot_o_1 p,boot_o_2 p,boot_o_3 p,boot_o_4 p,boot_o_5 p,boot_o_6 p,boot_o_7 p,boot_o_8 p,boot_o_9 p,boot_o_10 p,tz,fz,ZK,Zc]⟩,{ }⟩
def SG (p:Params):BT:=tk p 15 [(2,boot_o_2 p),(3,boot_o_3 p),(12,fz)]
def Fg (p:Params):BT:=tk p 54 [(3,Uh p),(12,Ln)]
def DU (p:Params):BT:=tk p 68 [(3,Wg p),(12,RD)]
def FD (p:Params):BT:=tk p 159 [(3,UQ p),(12,P4)]
def Ei (p:Params):BT:=tk p 265 [(3,Uu p),(12,Pd)]
def Fp (p:Params):BT:=tk p 294 [(3,Vx p),(12,MZ)]
def DO (p:Params):BT:=tk p 350 [(3,UO p),(12,MB)]
def Eu (p:Params):BT:=tk p 371 [(3,W7 p),(12,KS)]
def E7 (p:Params):BT:=tk p 476 [(3,Ur p),(12,Q9)]
def Fk (p:Params):BT:=tk p 572 [(3,VF p),(12,KQ)]
def EF (p:Params):BT:=tk p 582 []
def qC (p:Params):Heap:=⟨⟨l9 p⟩,{ }⟩
def K0 (p:Params):Frag:=[(2,o2 p),(3,o3 p),(15,tz),(17,Zy),(18,tz),(20,ZQ),(21,Y9),(22,ZM),(29,tz),(30,o30 p),(31,Y3),(32,Za),(35,Z1),(42,tz),(44,Zr),(45,tz),(47,ZC),(48,ZD),(49,ZB),(50,Zo p),(51,Zs),(54,tz),(56,tz),(57,tz),(59,ZU),(60,o60),(61,tz),(63,tz),(64,tz),(66,Y2),(67,Y5),(75,tz),(77,Zm),(78,tz),(80,Zx),(81,ZN),(82,tz),(84,Ze),(85,tz),(87,ZH),(88,Zi),(89,tz),(91,ZI),(92,tz),(94,ZX),(95,ZL),(96,tz),(98,Z4),(99,tz),(101,MH),(102,KO),(103,tz),(105,No),(106,tz),(108,NB),(109,KJ),(110,tz),(112,Ni),(113,tz),(115,Qw),(116,MV),(117,tz),(119,RX),(120,tz),(122,Nc),(123,Q2),(124,tz),(126,Mu),(127,tz),(129,L5),(130,Ro),(131,tz),(133,Rt),(134,tz),(136,Qs),(137,Pr),(138,tz),(140,PU),(141,tz),(143,Pp),(144,M9),(145,tz),(147,OC),(148,tz),(150,KW),(151,QM),(152,Nk),(153,Q3 p),(154,Lc),(155,Qh),(156,NP),(159,tz),(161,Qo),(162,tz),(164,O9),(165,OJ),(166,tz),(168,QQ),(169,tz),(171,NS),(172,Ru),(173,tz),(175,M7),(176,tz),(178,NA),(179,OF),(180,tz),(182,Lk),(183,tz),(185,MC),(186,QC),(187,tz),(189,LB),(190,tz),(192,M2),(193,Pw),(194,tz),(196,PX),(197,tz),(199,QK),(200,Pe),(201,tz),(203,OQ),(204,tz),(206,PE),(207,Oz),(208,tz),(210,Oo),(211,tz),(213,Pu),(214,Qi),(215,tz),(217,Lo),(218,tz),(220,Qn),(221,Sf),(222,tz),(224,Q0),(225,tz),(227,MM),(228,Ry),(229,o229 p),(230,tz),(232,Lv),(233,RB),(235,LD),(236,Nl),(237,tz),(239,Rb),(240,tz),(242,Na),(243,OV),(244,tz),(246,Li),(247,tz),(249,Mp),(250,KM),(251,tz),(253,P8),(254,tz),(256,QE),(257,R8),(258,tz),(260,KT),(261,tz),(263,Nb),(264,PP),(272,o272 p),(273,tz),(275,K9),(276,tz),(278,Nh),(279,LU),(280,tz),(282,Og),(283,tz),(285,PF),(286,Rd),(287,OO),(288,M4 p),(289,NO),(290,Me),(291,ME),(301,tz),(303,MG),(304,tz),(306,RO),(307,LZ),(308,LN),(309,Mn p),(310,OE),(311,LM),(312,Pj),(315,tz),(317,MX),(318,tz),(320,PK),(321,RK),(322,tz),(324,PQ),(325,tz),(327,PZ),(328,Lz),(329,tz),(331,Pg),(332,tz),(334,RG),(335,Mj),(336,tz),(338,NW),(339,tz),(341,Pf),(342,Sd),(343,tz),(345,Ps),(346,tz),(348,QW),(349,Lq),(357,tz),(359,Ow),(360,tz),(362,Ri),(363,Mm),(364,LE),(365,PH p),(366,Ol),(367,LP),(368,Pn),(378,tz),(380,RY),(381,tz),(383,Oa),(384,OW),(385,tz),(387,OZ),(388,tz),(390,Mc),(391,PV),(392,tz),(394,Ny),(395,tz),(397,KN),(398,Mv),(399,tz),(401,QO),(402,tz),(404,NT),(405,Nx),(406,tz),(408,Qk),(409,tz),(411,Mr),(412,K4),(413,tz),(415,Qx),(416,tz),(418,Oe),(419,La),(420,tz),(422,N5),(423,tz),(425,K7),(426,PI),(427,tz),(429,Qb),(430,tz),(432,Nf),(433,M8),(434,tz),(436,Ph),(437,tz),(439,KZ),(440,Po),(441,tz),(443,LH),(444,tz),(446,NK),(447,Rh),(448,tz),(450,RL),(451,tz),(453,N6),(454,Od),(455,tz),(457,Md),(458,tz),(460,Mw),(461,Rk),(462,tz),(464,Np),(465,tz),(467,MO),(468,OK),(469,Qv),(470,Q8 p),(471,QS),(472,KU),(473,ML),(476,tz),(478,QZ),(479,tz),(481,N4),(482,Ly),(483,tz),(485,M0),(486,tz),(488,L8),(489,QN),(490,tz),(492,Mx),(493,tz),(495,Rg),(496,Nt),(497,tz),(499,MA),(500,tz),(502,Pm),(503,Pa),(504,tz),(506,K3),(507,tz),(509,PW),(510,PY),(511,tz),(513,Mf),(514,tz),(516,NR),(517,PO),(518,tz),(520,Nw),(521,tz),(523,QA),(524,LR),(525,tz),(527,Se),(528,tz),(530,Qg),(531,Pq),(532,tz),(534,KI),(535,tz),(537,RU),(538,L9),(539,tz),(541,MQ),(542,tz),(544,QB),(545,KL),(546,tz),(548,Ot),(549,tz),(551,Lb),(552,OG),(553,tz),(555,Ng),(556,tz),(558,NX),(559,NM),(560,tz),(563,NN),(564,Lw),(565,tz),(567,Px),(568,tz),(570,M5),(571,QI),(572,tz),(575,PB),(576,Mk),(577,tz),(580,RH),(581,Oh)]
noncomputable def sj:List Addr:=[2,3,15,17,18,20,21,22,29,30,31,32,35,42,44,45,47,48,49,50,51,54,56,57,59,60,61,63,64,66,67,75,77,78,80,81,82,84,85,87,88,89,91,92,94,95,96,98,99,101,102,103,105,106,108,109,110,112,113,115,116,117,119,120,122,123,124,126,127,129,130,131,133,134,136,137,138,140,141,143,144,145,147,148,150,151,152,153,154,155,156,159,161,162,164,165,166,168,169,171,172,173,175,176,178,179,180,182,183,185,186,187,189,190,192,193,194,196,197,199,200,201,203,204,206,207,208,210,211,213,214,215,217,218,220,221,222,224,225,227,228,229,230,232,233,235,236,237,239,240,242,243,244,246,247,249,250,251,253,254,256,257,258,260,261,263,264,272,273,275,276,278,279,280,282,283,285,286,287,288,289,290,291,301,303,304,306,307,308,309,310,311,312,315,317,318,320,321,322,324,325,327,328,329,331,332,334,335,336,338,339,341,342,343,345,346,348,349,357,359,360,362,363,364,365,366,367,368,378,380,381,383,384,385,387,388,390,391,392,394,395,397,398,399,401,402,404,405,406,408,409,411,412,413,415,416,418,419,420,422,423,425,426,427,429,430,432,433,434,436,437,439,440,441,443,444,446,447,448,450,451,453,454,455,457,458,460,461,462,464,465,467,468,469,470,471,472,473,476,478,479,481,482,483,485,486,488,489,490,492,493,495,496,497,499,500,502,503,504,506,507,509,510,511,513,514,516,517,518,520,521,523,524,525,527,528,530,531,532,534,535,537,538,539,541,542,544,545,546,548,549,551,552,553,555,556,558,559,560,563,564,565,567,568,570,571,572,575,576,577,580,581]
end
end Mine.H
namespace Mine
open PySem PySem.Calls PySem.W PyProof.Rows
noncomputable section
noncomputable abbrev o_ (x:String):Str:=Str.ofString x
noncomputable def qs:q9:=⟨[(o_ "A_CUT",15),(o_ "A_TRUE",16),(o_ "A_FAIL",17),(o_ "A_FALSE",18),(o_ "A_SYSTEM",25),(o_ "F_COMMA",1),(o_ "F_SEMI",2),(o_ "F_ARROW",3),(o_ "F_NOT",4),(o_ "F_NECK",5),(o_ "F_EQUAL",10),(o_ "F_ERROR",16),(o_ "F_CUT",20),(o_ "F_FAIL",22),(o_ "F_FALSE",23),(o_ "F_CALL1",24),(o_ "OWN", -1)],
 [(o_ "fixed_atoms",60),(o_ "fixed_functors",67),(o_ "var",165),(o_ "atom",172),(o_ "struct",179),(o_ "is_callable",186),(o_ "functor_in",193),(o_ "arguments",200),(o_ "variables",207),(o_ "variables_of",214),(o_ "occurrences",221),(o_ "rebuild",228),(o_ "renumber",236),(o_ "is_body",321),(o_ "split_clause",328),(o_ "right_spine",335),(o_ "flat_goals",342),(o_ "has_cut",349),(o_ "renumber_all",482),(o_ "normalise",489),(o_ "_law_coins",496),(o_ "_law_coin",503),(o_ "_law_leaf",510),(o_ "_law_body",517),(o_ "_law_spell",524),(o_ "_law_met",531),(o_ "_law_can_run",538),(o_ "_law_rows",545),(o_ "_law_split",552),(o_ "_law_told",559),(o_ "_law_choice",564),(o_ "_law_read",571),(o_ "_law_open",576),(o_ "Symbols",154),(o_ "Fresh",289),(o_ "KernelClause",310),(o_ "ClauseState",366),(o_ "Normaliser",471)],
 [rC,rF,qO,i4,eU,ff,nO,dL,cH,dD],
 [(154,kK),(154,eB),(154,fR),(154,dm),(289,eM),(310,gJ),(366,eF),(366,gR),(471,gO),(471,ko),(471,lP),(471,dj),(471,ju),(310,dc),(310,lH),(310,cR),(366,cR),(366,iU)],
 [(154,nE,88),(154,Ah,95),(154,dc,102),(154,iJ,109),(154,Ag,116),(289,pd,286),(471,gX,391),(471,GE,398),(471,uJ,405),(471,iU,412),(471,fS,419),(471,iV,426),(471,lM,433),(471,nZ,440),(471,jV,447),(471,lG,454),(471,ph,461),(471,u1,468)]⟩
noncomputable def O8 (K:Frag)(l:List (Str×Int)):Bool:=l.all λ (x,i)=>match nsIn K mainGlobals x with|some (some (.int j _))=>i==j|_=>false
noncomputable def Pk (K:Frag)(l:List (Str×Addr)):Bool:=l.all λ (x,f)=>nsIn K mainGlobals x==some (some (.ref f))&&keepIn K (.ref f)
noncomputable def Hn (K:Frag)(l:List Str):Bool:=l.all λ x=>(bootBuiltins x).isSome&&nsIn K mainGlobals x==some none&& !(x==("__name__":Str))
noncomputable def IT (K:Frag)(C:Addr):Bool:=plainGet K C ""&&hasDictIn K C&&findIn K (.ref C) "__setattr__"==some (some (.builtin "object.__setattr__"))&&plainOver K C
noncomputable def Iy (K:Frag)(l:List (Addr×Sx)):Bool:=l.all λ (C,x)=>findIn K (.ref C) (sx x)==some none&&IT K C
noncomputable def Js (K:Frag)(l:List (Addr×Sx×Addr)):Bool:=l.all λ (C,x,f)=>findIn K (.ref C) (sx x)==some (some (.ref f))&&isFn K (.ref f)&&keepIn K (.ref f)&&IT K C
noncomputable def Yn (K:Frag):Bool:=O8 K qs.gint&&Pk K qs.gfun&&Hn K qs.built&&Iy K qs.attrs&&Js K qs.meths
theorem Mz (p:Params):Yn (H.K0 p)=true:=by kernel_rfl
theorem Ca {c:Cx}{C:Addr}(h:IT c.K C=true):rE c C:=⟨bz (bz (bz h)),bA (bz (bz h)),beq_iff_eq.mp (bA (bz h)),bA h⟩
set_option tactic.hygienic true in
theorem uA {c:Cx}{p:Params}(hK:c.K=H.K0 p):cV c qs:=by
 have b:=Mz p;rw[←hK]at b;have X:=c.X;refine⟨λ x i h=>?_,λ x f h=>?_,λ x h=>?_,λ C x h=>?_,λ C x f h=>?_⟩
 ·have e:=List.all_eq_true.mp (bz (bz (bz (bz b)))) (x,i) (List.contains_iff_mem.mp h);dsimp only at e
  split at e
  ·rename_i j t q;obtain rfl:=beq_iff_eq.mp e;exact⟨t,.inl (mg_of X c.g q)⟩
  ·cases e
 ·have e:=List.all_eq_true.mp (bA (bz (bz (bz b)))) (x,f) (List.contains_iff_mem.mp h);exact⟨.inl (mg_of X c.g (beq_iff_eq.mp (bz e))),bA e⟩
 ·have e:=List.all_eq_true.mp (bA (bz (bz b))) x (List.contains_iff_mem.mp h);obtain⟨v,hv⟩:=Option.isSome_iff_exists.mp (bz (bz e));have hn:x≠"__name__":=λ q=>by
   have:=bA e;rw[q]at this;exact absurd this (by decide)
  exact⟨v,.inr ⟨mg_none_of X c.g (beq_iff_eq.mp (bA (bz e))),(c.bi _ hn).trans hv⟩,hv⟩
 ·have e:=List.all_eq_true.mp (bA (bz b)) (C,x) (List.contains_iff_mem.mp h);exact⟨Ca (bA e),beq_iff_eq.mp (bz e)⟩
 ·have e:=List.all_eq_true.mp (bA b) (C,x,f) (List.contains_iff_mem.mp h);exact⟨Ca (bA e),beq_iff_eq.mp (bz (bz (bz e))),bA (bz (bz e)),bA (bz e)⟩
noncomputable def WF:FuncData:=fnX ot ot default [] sG [] .none .none .none .none none .none .none
noncomputable def fJ (K:Frag)(f:Addr):FuncData:=match K.lookup f with|some o=>(match o.data with|.func fd=>fd|_=>WF)|none=>WF
noncomputable def Z2 (K:Frag)(f:Addr):Bool:=match K.lookup f with|some o=>(match o.data with|.func _=>true|_=>false)|none=>false
noncomputable def QV (fd:FuncData):Bool:=match fd.body with|.stmts _=>true|_=>false
noncomputable def ZA (K:Frag)(f k:Addr)(fd:FuncData):Bool:=Z2 K f&&QV fd&&fd.globals==mainGlobals&&fd.builtins==builtinsNs&&fd.closure.isEmpty&&codeIn K fd.code fd.qualname&&fd.scope.kind==.function&& !fd.scope.isCoroutine&& !fd.scope.isGenerator&&vJ fd.scope.names&&decide (k≤fd.scope.names.length)
noncomputable def Lm (β:Type):Nat→Type
 |0=>β
 |k+1=>Value→Lm β k
noncomputable def lm {β:Type}:(k:Nat)→(List Value→β)→Lm β k
 |0,f=>f []
 |k+1,f=>λ v=>lm k λ l=>f (v::l)
theorem Ll {β:Type}:∀ (k:Nat) {f g:List Value→β},lm k f=lm k g→∀ l,l.length=k→f l=g l:=by
 intro k
 induction k with
 |zero=>intro f g h l hl;obtain rfl:=List.length_eq_zero_iff.mp hl;exact h
 |succ k ih=>
  intro f g h l hl;rcases l with _|⟨v,l⟩
  ·cases hl
  ·exact ih (f:=λ l=>f (v::l)) (congrFun h v) l (Nat.succ.inj hl)
abbrev Kj (c:Cx)(fd:FuncData)(k:Nat):Prop:=∀ (s:Shared) (ws:List Value),c.K.In s.heap→ws.length=k→BindsTo s fd ⟨ws,[]⟩ ((pn fd.scope.names k).zip ws)
theorem Om {c:Cx}{f k:Nat}(h:ZA c.K f k (fJ c.K f)=true)(hb:Kj c (fJ c.K f) k):GJ c f (fJ c.K f) k:=by
 have a1:=bz h;have a2:=bz a1;have a3:=bz a2;have a4:=bz a3;have a5:=bz a4;have a6:=bz a5;have a7:=bz a6;have a8:=bz a7;have a9:=bz a8;refine⟨?_,bA a5,List.isEmpty_iff.mp (bA a6),⟨?_,beq_iff_eq.mp (bA a8),beq_iff_eq.mp (bA a7),beq_iff_eq.mp (bA a4),(Bool.not_eq_true' _).mp (bA a3),(Bool.not_eq_true' _).mp (bA a2),bA a1,bg (bA h),hb⟩⟩
 ·have a10:=bz a9;clear a9 a8 a7 a6 a5 a4 a3 a2 a1 h hb;unfold Z2 at a10;unfold fJ;cases e:c.K.lookup f with
  |none=>rw[e]at a10;cases a10
  |some o=>
   rw[e]at a10;refine⟨o,rfl,?_⟩;show o.data=.func (match o.data with|.func fd=>fd|_=>WF);have a10:(match o.data with|.func _=>true|_=>false)=true:=a10;cases z:o.data<;>rw[z]at a10<;>first|rfl|cases a10
 ·have a10:=bA a9;unfold QV at a10;unfold x5;cases e:(fJ c.K f).body<;>rw[e]at a10<;>first|rfl|cases a10
structure e7 (K:Frag)(f k:Nat)(b:Ns→Bool)(ds:Stmt)(dx:Nat)(ir:List IS):Prop where
 b:(ZA K f k (fJ K f)&&b (fJ K f).scope.names&&pg qs dx ir (fJ K f).scope.names (j5 (x5 (fJ K f))) 0)=true
 s:pr ds ir (fJ K f).scope.names (j5 (x5 (fJ K f))) 0=x5 (fJ K f)
noncomputable abbrev dB (k:Nat)(ns:Ns):Bool:=Kz ns k&&te ns
abbrev fI (K:Frag)(f k:Nat):Prop:=lm k (λ ws=>bindArgs (fJ K f) ⟨ws,[]⟩)=lm (β:=Sem (List (Str×Value))) k λ ws=>pure ((pn (fJ K f).scope.names k).zip ws)
section
variable {c:Cx}{p:Params}{f k d dx:Nat}{y:Sx}{b:Ns→Bool}{ds:Stmt}{ir:List IS}(hK:c.K=H.K0 p)
include hK
theorem rh (h:fI (H.K0 p) f k):Kj c (fJ c.K f) k:=λ s ws ω hl=>BindsTo.of_eq (by rw[hK];exact Ll k h ws hl)
theorem sW (h:e7 (H.K0 p) f k b ds dx ir):FH qs (fJ c.K f) ds dx ir:=by rw[hK];exact⟨h.s,bA h.b⟩
theorem DY (h:e7 (H.K0 p) f k b ds dx ir)(hb:Kj c (fJ c.K f) k):GJ c f (fJ c.K f) k:=Om (by rw[hK];exact bz (bz h.b)) hb
theorem SJ (h:e7 (H.K0 p) f k b ds dx ir):b (fJ c.K f).scope.names=true:=by rw[hK];exact bA (bz h.b)
theorem bU (h:e7 (H.K0 p) f k (dB k) (.Pass ck) 0 ir)(hb:fI (H.K0 p) f k):cS (fC c) f k ir:=Ub (uA hK) (DY hK h (rh hK hb)) (SJ hK h) (sW hK h)
noncomputable abbrev zB (K:Frag)(C f:Nat):Bool:=makesIn K C&&findIn K (.ref C) "__init__"==some (some (.ref f))&&typeIn K (.ref f)==some (.type "function")
theorem pj {C:Nat}(h:e7 (H.K0 p) f k (dB k) (.Pass ck) 0 ir)(hb:Kj c (fJ c.K f) k)(hm:zB (H.K0 p) C f=true):vM (fC c) C k ir:=VE (uA hK) (DY hK h hb) (SJ hK h) (sW hK h) (by rw[hK];exact hm)
theorem EU (h:e7 (H.K0 p) f k (λ ns=>Kq ns k d y) (.Pass ck) 0 ir)(hb:fI (H.K0 p) f k)(hcf:∀ n,cellsFrom n (fJ (H.K0 p) f).scope.names []=[(sx y,n)]):Bi (fC c) f k d y ir:=N1 (uA hK) (DY hK h (rh hK hb)) (SJ hK h) (by rw[hK];exact hcf) (sW hK h)
end
section
variable (p:Params)
noncomputable abbrev KP:Frag:=H.K0 p
theorem g60:e7 (KP p) 60 0 (dB 0) (.Pass ck) 0 kz:=⟨by kernel_rfl,by kernel_rfl⟩
theorem a60:fI (KP p) 60 0:=by kernel_rfl
theorem g67:e7 (KP p) 67 0 (dB 0) (.Pass ck) 0 im:=⟨by kernel_rfl,by kernel_rfl⟩
theorem a67:fI (KP p) 67 0:=by kernel_rfl
theorem g81:e7 (KP p) 81 1 (dB 1) (.Pass ck) 0 jA:=⟨by kernel_rfl,by kernel_rfl⟩
theorem W9:zB (KP p) 154 81=true:=by kernel_rfl
theorem a81:fI (KP p) 81 1:=by kernel_rfl
theorem g88:e7 (KP p) 88 2 (dB 2) (.Pass ck) 0 jF:=⟨by kernel_rfl,by kernel_rfl⟩
theorem a88:fI (KP p) 88 2:=by kernel_rfl
theorem g95:e7 (KP p) 95 2 (dB 2) (.Pass ck) 0 jM:=⟨by kernel_rfl,by kernel_rfl⟩
theorem a95:fI (KP p) 95 2:=by kernel_rfl
theorem Uq:e7 (KP p) 102 3 (dB 3) (.Pass ck) 0 gU:=⟨by kernel_rfl,by kernel_rfl⟩
theorem V7:fI (KP p) 102 3:=by kernel_rfl
theorem TL:e7 (KP p) 109 3 (dB 3) (.Pass ck) 0 jD:=⟨by kernel_rfl,by kernel_rfl⟩
theorem VH:fI (KP p) 109 3:=by kernel_rfl
theorem WX:e7 (KP p) 116 2 (dB 2) (.Pass ck) 0 jH:=⟨by kernel_rfl,by kernel_rfl⟩
theorem VJ:fI (KP p) 116 2:=by kernel_rfl
theorem WD:e7 (KP p) 165 1 (dB 1) (.Pass ck) 0 Cs:=⟨by kernel_rfl,by kernel_rfl⟩
theorem Tt:fI (KP p) 165 1:=by kernel_rfl
theorem Wo:e7 (KP p) 172 1 (dB 1) (.Pass ck) 0 yg:=⟨by kernel_rfl,by kernel_rfl⟩
theorem WK:fI (KP p) 172 1:=by kernel_rfl
theorem U8:e7 (KP p) 179 2 (dB 2) (.Pass ck) 0 qS:=⟨by kernel_rfl,by kernel_rfl⟩
theorem WG:fI (KP p) 179 2:=by kernel_rfl
theorem YB:e7 (KP p) 186 1 (dB 1) (.Pass ck) 0 kr:=⟨by kernel_rfl,by kernel_rfl⟩
theorem Vb:fI (KP p) 186 1:=by kernel_rfl
theorem WY:e7 (KP p) 193 2 (dB 2) (.Pass ck) 0 k9:=⟨by kernel_rfl,by kernel_rfl⟩
theorem YU:fI (KP p) 193 2:=by kernel_rfl
theorem To:e7 (KP p) 200 1 (dB 1) (.Pass ck) 0 mK:=⟨by kernel_rfl,by kernel_rfl⟩
theorem Uw:fI (KP p) 200 1:=by kernel_rfl
theorem YY:e7 (KP p) 207 1 (dB 1) (.Pass ck) 0 mQ:=⟨by kernel_rfl,by kernel_rfl⟩
theorem Vm:fI (KP p) 207 1:=by kernel_rfl
theorem TU:e7 (KP p) 214 1 (dB 1) (.Pass ck) 0 jJ:=⟨by kernel_rfl,by kernel_rfl⟩
theorem VK:fI (KP p) 214 1:=by kernel_rfl
theorem VC:e7 (KP p) 221 1 (dB 1) (.Pass ck) 0 ky:=⟨by kernel_rfl,by kernel_rfl⟩
theorem SV:fI (KP p) 221 1:=by kernel_rfl
theorem Wr:e7 (KP p) 228 3 (dB 3) (.Pass ck) 0 pF:=⟨by kernel_rfl,by kernel_rfl⟩
theorem XW:fI (KP p) 228 3:=by kernel_rfl
theorem V9:e7 (KP p) 279 2 (dB 2) (.Pass ck) 0 k7:=⟨by kernel_rfl,by kernel_rfl⟩
theorem XY:zB (KP p) 289 279=true:=by kernel_rfl
theorem W2:e7 (KP p) 286 1 (dB 1) (.Pass ck) 0 jK:=⟨by kernel_rfl,by kernel_rfl⟩
theorem YS:fI (KP p) 286 1:=by kernel_rfl
theorem Xv:e7 (KP p) 307 5 (dB 5) (.Pass ck) 0 gr:=⟨by kernel_rfl,by kernel_rfl⟩
theorem YA:zB (KP p) 310 307=true:=by kernel_rfl
theorem TY:fI (KP p) 307 5:=by kernel_rfl
theorem Tw:e7 (KP p) 321 1 (dB 1) (.Pass ck) 0 pw:=⟨by kernel_rfl,by kernel_rfl⟩
theorem Wp:fI (KP p) 321 1:=by kernel_rfl
theorem SR:e7 (KP p) 328 2 (dB 2) (.Pass ck) 0 jB:=⟨by kernel_rfl,by kernel_rfl⟩
theorem Tl:fI (KP p) 328 2:=by kernel_rfl
theorem YE:e7 (KP p) 335 2 (dB 2) (.Pass ck) 0 km:=⟨by kernel_rfl,by kernel_rfl⟩
theorem Xj:fI (KP p) 335 2:=by kernel_rfl
theorem SU:e7 (KP p) 342 1 (dB 1) (.Pass ck) 0 k5:=⟨by kernel_rfl,by kernel_rfl⟩
theorem Xl:fI (KP p) 342 1:=by kernel_rfl
theorem XF:e7 (KP p) 349 1 (dB 1) (.Pass ck) 0 qe:=⟨by kernel_rfl,by kernel_rfl⟩
theorem TM:fI (KP p) 349 1:=by kernel_rfl
theorem Yi:e7 (KP p) 363 2 (dB 2) (.Pass ck) 0 gD:=⟨by kernel_rfl,by kernel_rfl⟩
theorem Wx:zB (KP p) 366 363=true:=by kernel_rfl
theorem UP:fI (KP p) 363 2:=by kernel_rfl
theorem Xk:e7 (KP p) 384 5 (dB 5) (.Pass ck) 0 gZ:=⟨by kernel_rfl,by kernel_rfl⟩
theorem Xr:zB (KP p) 471 384=true:=by kernel_rfl
theorem Ye:fI (KP p) 384 5:=by kernel_rfl
theorem WQ:e7 (KP p) 391 1 (dB 1) (.Pass ck) 0 eA:=⟨by kernel_rfl,by kernel_rfl⟩
theorem UA:fI (KP p) 391 1:=by kernel_rfl
theorem Xg:e7 (KP p) 398 1 (dB 1) (.Pass ck) 0 hZ:=⟨by kernel_rfl,by kernel_rfl⟩
theorem WW:fI (KP p) 398 1:=by kernel_rfl
theorem Vr:e7 (KP p) 405 4 (dB 4) (.Pass ck) 0 gq:=⟨by kernel_rfl,by kernel_rfl⟩
theorem T5:fI (KP p) 405 4:=by kernel_rfl
theorem Wj:e7 (KP p) 412 3 (dB 3) (.Pass ck) 0 f6:=⟨by kernel_rfl,by kernel_rfl⟩
theorem Xz:fI (KP p) 412 3:=by kernel_rfl
theorem XD:e7 (KP p) 419 2 (dB 2) (.Pass ck) 0 dP:=⟨by kernel_rfl,by kernel_rfl⟩
theorem T9:fI (KP p) 419 2:=by kernel_rfl
theorem YR:e7 (KP p) 426 3 (dB 3) (.Pass ck) 0 iy:=⟨by kernel_rfl,by kernel_rfl⟩
theorem Tz:fI (KP p) 426 3:=by kernel_rfl
theorem TV:e7 (KP p) 433 4 (dB 4) (.Pass ck) 0 eY:=⟨by kernel_rfl,by kernel_rfl⟩
theorem SX:fI (KP p) 433 4:=by kernel_rfl
theorem TC:e7 (KP p) 440 4 (dB 4) (.Pass ck) 0 cC:=⟨by kernel_rfl,by kernel_rfl⟩
theorem Vc:fI (KP p) 440 4:=by kernel_rfl
theorem Tc:e7 (KP p) 447 2 (dB 2) (.Pass ck) 0 e9:=⟨by kernel_rfl,by kernel_rfl⟩
theorem Yt:fI (KP p) 447 2:=by kernel_rfl
theorem YJ:e7 (KP p) 454 3 (dB 3) (.Pass ck) 0 fk:=⟨by kernel_rfl,by kernel_rfl⟩
theorem VP:fI (KP p) 454 3:=by kernel_rfl
theorem W3:e7 (KP p) 461 2 (dB 2) (.Pass ck) 0 dN:=⟨by kernel_rfl,by kernel_rfl⟩
theorem Ta:fI (KP p) 461 2:=by kernel_rfl
theorem V5:e7 (KP p) 468 4 (dB 4) (.Pass ck) 0 gf:=⟨by kernel_rfl,by kernel_rfl⟩
theorem Vs:fI (KP p) 468 4:=by kernel_rfl
theorem Uz:e7 (KP p) 482 2 (dB 2) (.Pass ck) 0 jE:=⟨by kernel_rfl,by kernel_rfl⟩
theorem VR:fI (KP p) 482 2:=by kernel_rfl
theorem Xh:e7 (KP p) 489 4 (dB 4) (.Pass ck) 0 mA:=⟨by kernel_rfl,by kernel_rfl⟩
theorem Xd:fI (KP p) 489 4:=by kernel_rfl
theorem WU:e7 (KP p) 496 1 (dB 1) (.Pass ck) 0 mT:=⟨by kernel_rfl,by kernel_rfl⟩
theorem Te:fI (KP p) 496 1:=by kernel_rfl
theorem Vd:e7 (KP p) 503 2 (dB 2) (.Pass ck) 0 od:=⟨by kernel_rfl,by kernel_rfl⟩
theorem Vk:fI (KP p) 503 2:=by kernel_rfl
theorem UV:e7 (KP p) 510 3 (dB 3) (.Pass ck) 0 nQ:=⟨by kernel_rfl,by kernel_rfl⟩
theorem Xs:fI (KP p) 510 3:=by kernel_rfl
theorem UE:e7 (KP p) 517 5 (dB 5) (.Pass ck) 0 ij:=⟨by kernel_rfl,by kernel_rfl⟩
theorem YT:fI (KP p) 517 5:=by kernel_rfl
theorem XG:e7 (KP p) 524 3 (dB 3) (.Pass ck) 0 lX:=⟨by kernel_rfl,by kernel_rfl⟩
theorem UI:fI (KP p) 524 3:=by kernel_rfl
theorem WI:e7 (KP p) 531 1 (dB 1) (.Pass ck) 0 pR:=⟨by kernel_rfl,by kernel_rfl⟩
theorem WL:fI (KP p) 531 1:=by kernel_rfl
theorem TI:e7 (KP p) 538 1 (dB 1) (.Pass ck) 0 kp:=⟨by kernel_rfl,by kernel_rfl⟩
theorem Xp:fI (KP p) 538 1:=by kernel_rfl
theorem VX:e7 (KP p) 545 2 (dB 2) (.Pass ck) 0 nV:=⟨by kernel_rfl,by kernel_rfl⟩
theorem Td:fI (KP p) 545 2:=by kernel_rfl
theorem Wh:e7 (KP p) 552 3 (dB 3) (.Pass ck) 0 gL:=⟨by kernel_rfl,by kernel_rfl⟩
theorem YQ:fI (KP p) 552 3:=by kernel_rfl
theorem VG:e7 (KP p) 559 4 (dB 4) (.Pass ck) 0 nT:=⟨by kernel_rfl,by kernel_rfl⟩
theorem VA:fI (KP p) 559 4:=by kernel_rfl
theorem Ux:e7 (KP p) 564 6 (λ ns=>Kq ns 6 3 my) (.Pass ck) 0 k4:=⟨by kernel_rfl,by kernel_rfl⟩
theorem Wd:fI (KP p) 564 6:=by kernel_rfl
theorem UM (n:Nat):cellsFrom n (fJ (KP p) 564).scope.names []=[(sx my,n)]:=by kernel_rfl
theorem Tb:e7 (KP p) 571 6 (dB 6) (.Pass ck) 0 n8:=⟨by kernel_rfl,by kernel_rfl⟩
theorem Vh:fI (KP p) 571 6:=by kernel_rfl
theorem Yj:e7 (KP p) 576 4 (dB 4) (.Pass ck) 0 n7:=⟨by kernel_rfl,by kernel_rfl⟩
theorem V1:fI (KP p) 576 4:=by kernel_rfl
end
theorem xW {α:Type}{l:List α}(h:l.length=2):∃ a b,l=[a,b]:=match l,h with|[a,b],_=>⟨a,b,rfl⟩
noncomputable def M6:Stmt→Pos
 |.FunctionDef _ _ _ _ _ _ _ _ _ p=>p
 |_=>ck
noncomputable abbrev sD:Stmt:=H.ms 34 1
noncomputable def D0:j9:=⟨H.stN sD,o_ "renumber.<locals>.change",H.stA sD,H.stB sD,H.stS sD,M6 sD⟩
section
variable (p:Params)
theorem Ko:e7 (KP p) 236 2 (λ ns=>Kq ns 2 3 bX) D0.stm 2 j8:=⟨by kernel_rfl,by kernel_rfl⟩
theorem Wa (n:Nat):cellsFrom n (fJ (KP p) 236).scope.names []=[(sx bX,n)]:=by kernel_rfl
theorem Us:Gu D0 (fJ (KP p) 236) 235 2:=⟨by kernel_rfl,by kernel_rfl,by kernel_rfl,λ ω=>by kernel_rfl,by kernel_rfl,by kernel_rfl,λ ω=>by kernel_rfl,by kernel_rfl⟩
end
theorem MR:GC qs D0:=⟨by kernel_rfl,by kernel_rfl,by kernel_rfl,by kernel_rfl,Nat.le_of_ble_eq_true (by kernel_rfl),by kernel_rfl,λ p hp e=>by
 have h:(D0.cscope.names.all λ x=>x.2 !=.free||x.1==sx bX)=true:=by kernel_rfl
 exact beq_iff_eq.mp ((Bool.or_eq_true_iff.mp (List.all_eq_true.mp h p hp)).resolve_left λ q=>bne_iff_ne.mp q e),λ ω ω ω ω ω ω=>by kernel_rfl,by kernel_rfl,by kernel_rfl⟩
section
variable {c:Cx}{p:Params}(hK:c.K=KP p)
include hK
theorem abn {h:Heap}(X:c.K.In h):(KP p).In h:=hK▸X
theorem zU {f k T:Nat}{o:Obj}{fd:FuncData}(ho:(KP p).lookup T=some o)(e:fJ (KP p) f=fd)
  (h:∀ (s:Shared) (ws:List Value),s.heap.get? T=some o→ws.length=k→BindsTo s fd ⟨ws,[]⟩ ((pn fd.scope.names k).zip ws)):Kj c (fJ c.K f) k:=λ s ws X hl=>by
 rw[hK]at X⊢;rw[e];exact h s ws (X T o ho) hl
noncomputable def XA:FuncData:=H.fn (H.ms 40 0) (o_ "Fresh.__init__") 3 [] (H.R 272) H.N H.N (H.S "clausemill.kernel" 538) none (H.R 278) H.N 0
theorem A7:Kj c (fJ c.K 279) 2:=zU hK (T:=272) (o:=H.o272 p) (fd:=XA) (by kernel_rfl) (by kernel_rfl) λ s ws X hl=>by
 obtain⟨a,b,rfl⟩:=xW hl;exact BindsTo.of_defaults (T:=272) (o:=H.o272 p) (items:=#[(H.I 0 552)]) (n:=0) (by kernel_rfl) X (by kernel_rfl) rfl rfl
noncomputable def PM:FuncData:=H.fn (H.st 34) (o_ "renumber") 3 [] (H.R 229) H.N H.N (H.S "clausemill.terms" 404) none (H.R 235) H.N 0
theorem IF:Kj c (fJ c.K 236) 2:=zU hK (T:=229) (o:=H.o229 p) (fd:=PM) (by kernel_rfl) (by kernel_rfl) λ s ws X hl=>by
 obtain⟨a,b,rfl⟩:=xW hl;exact BindsTo.of_defaults (T:=229) (o:=H.o229 p) (items:=#[H.N]) (n:=0) (by kernel_rfl) X (by kernel_rfl) rfl rfl
theorem YK:eZ (fC c)where
 fixed_atoms:=bU hK (g60 p) (a60 p)
 fixed_functors:=bU hK (g67 p) (a67 p)
 Symbols_init:=pj hK (g81 p) (rh hK (a81 p)) (W9 p)
 Symbols_atom:=bU hK (g88 p) (a88 p)
 Symbols_text:=bU hK (g95 p) (a95 p)
 Symbols_functor:=bU hK (Uq p) (V7 p)
 Symbols_func:=bU hK (TL p) (VH p)
 Symbols_name:=bU hK (WX p) (VJ p)
 var:=bU hK (WD p) (Tt p)
 atom:=bU hK (Wo p) (WK p)
 struct:=bU hK (U8 p) (WG p)
 is_callable:=bU hK (YB p) (Vb p)
 functor_in:=bU hK (WY p) (YU p)
 arguments:=bU hK (To p) (Uw p)
 variables:=bU hK (YY p) (Vm p)
 variables_of:=bU hK (TU p) (VK p)
 occurrences:=bU hK (VC p) (SV p)
 rebuild:=bU hK (Wr p) (XW p)
 Fresh_init:=pj hK (V9 p) (A7 hK) (XY p)
 Fresh_number:=bU hK (W2 p) (YS p)
 KernelClause_init:=pj hK (Xv p) (rh hK (TY p)) (YA p)
 is_body:=bU hK (Tw p) (Wp p)
 split_clause:=bU hK (SR p) (Tl p)
 right_spine:=bU hK (YE p) (Xj p)
 flat_goals:=bU hK (SU p) (Xl p)
 has_cut:=bU hK (XF p) (TM p)
 ClauseState_init:=pj hK (Yi p) (rh hK (UP p)) (Wx p)
 Normaliser_init:=pj hK (Xk p) (rh hK (Ye p)) (Xr p)
 Normaliser_new_variable:=bU hK (WQ p) (UA p)
 Normaliser_run:=bU hK (Xg p) (WW p)
 Normaliser_clause:=bU hK (Vr p) (T5 p)
 Normaliser_totals:=bU hK (Wj p) (Xz p)
 Normaliser_level_variable:=bU hK (XD p) (T9 p)
 Normaliser_cut:=bU hK (YR p) (Tz p)
 Normaliser_goal:=bU hK (TV p) (SX p)
 Normaliser_auxiliary:=bU hK (TC p) (Vc p)
 Normaliser_condition:=bU hK (Tc p) (Yt p)
 Normaliser_branches:=bU hK (YJ p) (VP p)
 Normaliser_negation:=bU hK (W3 p) (Ta p)
 Normaliser_finish:=bU hK (V5 p) (Vs p)
 renumber_all:=bU hK (Uz p) (VR p)
 normalise:=bU hK (Xh p) (Xd p)
 law_coins:=bU hK (WU p) (Te p)
 law_coin:=bU hK (Vd p) (Vk p)
 law_leaf:=bU hK (UV p) (Xs p)
 law_body:=bU hK (UE p) (YT p)
 law_spell:=bU hK (XG p) (UI p)
 law_met:=bU hK (WI p) (WL p)
 law_can_run:=bU hK (TI p) (Xp p)
 law_rows:=bU hK (VX p) (Td p)
 law_split:=bU hK (Wh p) (YQ p)
 law_told:=bU hK (VG p) (VA p)
 law_choice:=EU hK (Ux p) (Wd p) (UM p)
 law_read:=bU hK (Tb p) (Vh p)
 law_open:=bU hK (Yj p) (V1 p)
theorem Im (bm:BM c):I2 (fC c) (RT D0):=
 Vn (uA hK) (DY hK (Ko p) (IF hK)) (SJ hK (Ko p)) (Nat.le_of_ble_eq_true rfl) (by rw[hK];exact Wa p) (sW hK (Ko p)) (by rw[hK];exact Us p) MR (codeHd_of_K c.X (by rw[hK];kernel_rfl)) bm
end
theorem yZ {kf:Str→Option NameKind}{m:Str→Option Value}{bs:List (Str×Value)}(h:∀ x∈bs,kf x.1=some .local):bindC kf bs m=m:=by
 induction bs with
 |nil=>rfl
 |cons b r ih=>
  show bindC kf r (if kf b.1=some .local then m else _)=m;rw[aL (h b (af ..))];exact ih λ x hx=>h x (ag _ hx)
noncomputable def ZE (ns:Ns)(k:Nat)(ys:List Sx):Bool:=ns.all (λ p=>p.2 !=.free&&(p.2 !=.cell||ys.any λ y=>p.1==sx y))&&(ns.take k).all λ p=>p.2==.local
section
variable {c:Cx}{n:Nat}{σ:bH}{s:Shared}{T:q9}{A:Around}{Q:bI}
theorem JX {f:Addr}{fd:FuncData}{o:Obj}{k:Nat}{y1 y2 y3:Sx}{ir:List IS}{vs:List AV}{ws:List Value}{l:List bT}(hT:cV c T)(Y:Fd c fd k)(hclo:fd.closure=[])(ho:s.heap.get? f=some o)(hd:o.data=.func fd)(hcd:s.heap.CodeRec fd.code fd.qualname)
  (hp:ZE fd.scope.names k [y1,y2,y3]=true) (hcf:∀ n,cellsFrom n fd.scope.names []=[(sx y3,n+2),(sx y2,n+1),(sx y1,n)]) (h12:y1≠y2) (h13:y1≠y3) (h23:y2≠y3) (X:FH T fd (.Pass ck) 0 ir)
  (hl:vs.length=k) (R:f4 (n+1) A) (G:c.good σ s.heap) (ra:bY s.heap ws vs) (hown:fH σ l)
  (h:∀ a1 a2 a3 σ',fH σ' ((a1,.cell none)::(a2,.cell none)::(a3,.cell none)::l)→cA ⟨fC c,n,[(y1,a1),(y2,a2),(y3,a3)],λ ω=>no⟩ ir (args vs) (kL Q) σ'):codeAny c.M A (.call (.ref f) ⟨ws,[]⟩) (Bf c σ s Q) s:=by
 have hlen:ws.length=k:=ra.length.trans hl;have nd:=mM Y.ns;have h1:=List.all_eq_true.mp (bz hp);have hloc:∀ p∈fd.scope.names.take k,p.2=.local:=λ p hp'=>beq_iff_eq.mp (List.all_eq_true.mp (bA hp) p hp');have hbl:∀ x∈(pn fd.scope.names k).zip ws,fd.scope.names.lookup x.1=some .local:=λ x hx=>by
  obtain⟨p,hp',e⟩:=rL hx;exact e▸hloc p hp'▸dG nd (List.mem_of_mem_take hp')
 have hnd:(((pn fd.scope.names k).zip ws).map (·.1)).Nodup:=by rw[mw Y.le hlen];exact mX nd
 refine codeAny_call_function R.room ho hd Y.co Y.gen Y.body hcd (Y.bind s ws (dg.inH G) hlen _ _ _ _ ?_);rw[hclo];refine wpAny_newFunctionEnv_cells Y.kind (λ x hx=>.inl (hbl x hx)) λ env he s' x=>?_;have he':env=callEnvC fd s.heap.objs.size f:=he;have hel:env.locals=s.heap.objs.size:=by rw[he'];rfl
 have hec:env.cells=[(sx y3,s.heap.objs.size+1+2),(sx y2,s.heap.objs.size+1+1),(sx y1,s.heap.objs.size+1)]:=by rw[he'];exact hcf _
 have hen:env.scope=fd.scope:=by rw[he'];rfl
 have hkf:∀ z,env.kindOf z=fd.scope.names.lookup z:=λ z=>by unfold Env.kindOf;rw[hen]
 have n0:=cu s.heap;have n1:s.heap.get? (s.heap.objs.size+1)=none:=dK (aM _);have n2:s.heap.get? (s.heap.objs.size+1+1)=none:=dK (ah _ 2);have n3:s.heap.get? (s.heap.objs.size+1+2)=none:=dK (ah _ 3);have hk:kg s.heap s'.heap:=x.toInCall.keep;have k1:(sx y1:Str)≠sx y2:=λ e=>h12 (jz e);have k2:(sx y1:Str)≠sx y3:=λ e=>h13 (jz e);have k3:(sx y2:Str)≠sx y3:=λ e=>h23 (jz e);have l3:env.cells.lookup (sx y3)=some (s.heap.objs.size+1+2):=by rw[hec];exact gC (p:=(sx y3,s.heap.objs.size+1+2)) rfl
 have l2:env.cells.lookup (sx y2)=some (s.heap.objs.size+1+1):=by rw[hec];exact (lg (p:=(sx y3,s.heap.objs.size+1+2)) k3).trans (gC (p:=(sx y2,s.heap.objs.size+1+1)) rfl)
 have l1:env.cells.lookup (sx y1)=some (s.heap.objs.size+1):=by rw[hec];exact (lg (p:=(sx y3,s.heap.objs.size+1+2)) k2).trans ((lg (p:=(sx y2,s.heap.objs.size+1+1)) k1).trans (gC (p:=(sx y1,s.heap.objs.size+1)) rfl))
 have c1:=x.cell _ _ l1;have c2:=x.cell _ _ l2;have c3:=x.cell _ _ l3;rw[yZ λ z hz=>(hkf _).trans (hbl z hz)]at c1 c2 c3;have hns:=x.toInCall.ns;obtain⟨h₁,tk,rfl⟩:=x.toInCall.same;obtain⟨o1,e1,d1⟩:=c1;obtain⟨o2,e2,d2⟩:=c2;obtain⟨o3,e3,d3⟩:=c3;have G3:=(((G.ext hk).own (G.freshH n3) (ob:=.cell none) ⟨o3,_,e3,d3,rfl⟩).own (G.freshH n2) (ob:=.cell none) ⟨o2,_,e2,d2,rfl⟩).own (G.freshH n1) (ob:=.cell none) ⟨o1,_,e1,d1,rfl⟩;have S3:cq cN σ s.heap _ h₁:=(((cq.ext hk).own (ob:=.cell none) n3).own (ob:=.cell none) n2).own (ob:=.cell none) n1;have g32:s.heap.objs.size+1+1≠s.heap.objs.size+1+2:=Nat.ne_of_lt (bq _);have g31:s.heap.objs.size+1≠s.heap.objs.size+1+2:=Nat.ne_of_lt (Nat.lt_add_of_pos_right (by decide));have g21:s.heap.objs.size+1≠s.heap.objs.size+1+1:=Nat.ne_of_lt (bq _);have ho3:=((hown.new (o:=.cell none) (G.fresh n3)).new (o:=.cell none) ((fB g32).trans (G.fresh n2))).new (o:=.cell none) ((fB g21).trans ((fB g31).trans (G.fresh n1)));have yk:By c env [(y1,s.heap.objs.size+1),(y2,s.heap.objs.size+1+1),(y3,s.heap.objs.size+1+2)] fd.scope.names:=by
  refine⟨by rw[hen];exact Y.kind,by rw[he'];exact Y.glob,by rw[he'];exact Y.blt,λ z a e ω=>?_,λ z e=>?_,by rw[hen],nd,o5 Y.ns⟩
  ·have e:(match p9 y1 z with|true=>some (s.heap.objs.size+1)|false=>zn [(y2,s.heap.objs.size+1+1),(y3,s.heap.objs.size+1+2)] z)=some a:=e;cases q:p9 y1 z with
   |true=>rw[q]at e;obtain rfl:=mE.mp q;exact l1.trans e
   |false=>
    rw[q]at e;have e:(match p9 y2 z with|true=>some (s.heap.objs.size+1+1)|false=>zn [(y3,s.heap.objs.size+1+2)] z)=some a:=e;cases q:p9 y2 z with
    |true=>rw[q]at e;obtain rfl:=mE.mp q;exact l2.trans e
    |false=>rw[q]at e;obtain⟨rfl,rfl⟩:=rQ e;exact l3
  ·rcases e with e|e
   ·have h2:=(Bool.or_eq_true_iff.mp (bA (h1 _ (PySem.mem_of_lookup e)))).resolve_left λ q=>bne_iff_ne.mp q rfl;obtain⟨y,hy,e2⟩:=List.any_eq_true.mp h2;have e2:z=sx y:=beq_iff_eq.mp e2;rcases ap hy with rfl|hy
    ·exact⟨_,e2▸l1⟩
    rcases ap hy with rfl|hy
    ·exact⟨_,e2▸l2⟩
    ·exact⟨_,e2▸aj hy▸l3⟩
   ·exact (bne_iff_ne.mp (bz (h1 _ (PySem.mem_of_lookup e))) rfl).elim
 let V:Ev c:=⟨1,n,A.deeper env,env,_,fd.scope.names,λ ω=>no,.Pass ck,0,sg R,yk⟩
 have O:Ok V (args vs) (((σ.upd (s.heap.objs.size+1+2) (.cell none)).upd (s.heap.objs.size+1+1) (.cell none)).upd (s.heap.objs.size+1) (.cell none)) { s with heap:=h₁,toks:=tk }:=by
  refine⟨⟨⟨_,hns,λ i av e=>?_⟩,?_,?_⟩,G3⟩
  ·have e:=(oV vs i).symm.trans e;obtain⟨v,hv,rv⟩:=ra.get e;have hik:i<k:=hlen▸(az hv).1;obtain⟨p,hp'⟩:=lJ (aO hik Y.le);have hpl:p.2=.local:=hloc p (aY ((List.getElem?_take_of_lt hik).trans hp'));refine⟨p,v,hp',?_,rv.up hk.tup⟩;rw[qJ (by rw[hkf,←hpl];exact dG nd (aY hp')) _ _ hnd,wo nd Y.le hlen hp' hv];rfl
  ·show (((σ.upd _ _).upd _ _).upd _ _) env.locals=none;rw[hel];exact (fB (Nat.ne_of_lt (bq _))).trans ((fB (Nat.ne_of_lt (Nat.lt_add_of_pos_right (n:=s.heap.objs.size) (k:=2) (by decide)))).trans ((fB (Nat.ne_of_lt (Nat.lt_add_of_pos_right (n:=s.heap.objs.size) (k:=3) (by decide)))).trans (G.fresh n0)))
  ·show c.H.get? env.locals=none;rw[hel];exact G.freshH n0
 refine⟨(c.nolim.keeps G.base).keeps hk,codeAny_func ?_⟩;have hr:JS c V.A V.ns V.L (execs (x5 fd) V.env) _ { s with heap:=h₁,toks:=tk } (kL Q):=X.s▸Bb hT ir V (j5 (x5 fd)) 0 (λ ω ω z=>z.elim) X.ok O (h _ _ _ _ ho3);exact wpAny_mono hr (λ fl s' h'=>sf (V:=V) (show s.heap.get? env.locals=none from hel▸n0) S3 ⟨h₁,tk,rfl⟩ h') λ ω ω z=>z.elim
end
end
end Mine
namespace Mine
open PySem
noncomputable section
inductive Tm where
 |v (n:Int)|a (n:Int)|i (n:Int)|s (f:Int) (as:List Tm)
mutual
noncomputable def Tm.av:Tm→AV
 |.v n=>.tup [.str qw,.int n]
 |.a n=>.tup [.str lb,.int n]
 |.i n=>.tup [.str KB,.int n]
 |.s f as=>.tup [.str jL,.int f,.tup (Tm.avs as)]
noncomputable def Tm.avs:List Tm→List AV
 |[]=>[]
 |t::r=>t.av::Tm.avs r
end
mutual
noncomputable def Tm.vars:Tm→List Int
 |.v n=>[n]
 |.s _ as=>Tm.varsL as
 |.a _=>[]|.i _=>[]
noncomputable def Tm.varsL:List Tm→List Int
 |[]=>[]
 |t::r=>t.vars++Tm.varsL r
end
mutual
noncomputable def Tm.sz:Tm→Nat
 |.s _ as=>Tm.szL as+1
 |.v _=>1|.a _=>1|.i _=>1
noncomputable def Tm.szL:List Tm→Nat
 |[]=>0
 |t::r=>t.sz+Tm.szL r
end
theorem ez (l l':List Tm):Tm.avs (l++l')=Tm.avs l++Tm.avs l':=by
 induction l with|nil=>rfl|cons t r ih=>exact ae (t.av::·) ih
theorem fy (l l':List Tm):Tm.varsL (l++l')=Tm.varsL l++Tm.varsL l':=by
 induction l with|nil=>rfl|cons t r ih=>exact (ae (t.vars++·) ih).trans (ao ..).symm
theorem dO (l l':List Tm):Tm.szL (l++l')=Tm.szL l+Tm.szL l':=by
 induction l with|nil=>exact (aU _).symm|cons t r ih=>exact (ae (t.sz+·) ih).trans (aQ ..).symm
theorem dk (l:List Tm):(Tm.avs l).length=l.length:=by
 induction l with|nil=>rfl|cons t r ih=>exact ae (·+1) ih
theorem wB (t:Tm):0<t.sz:=by cases t<;>exact aV _
theorem fV (l:List Tm):l.length≤Tm.szL l:=by
 induction l with|nil=>exact au 0|cons t r ih=>exact aa (am (bh ..)) (aR (wB t) ih)
mutual
theorem eJ:∀ t:Tm,t.vars.length≤t.sz
 |.v _=>au 1
 |.a _=>aI _
 |.i _=>aI _
 |.s _ as=>aB (g3 as)
theorem g3:∀ l:List Tm,(Tm.varsL l).length≤Tm.szL l
 |[]=>au 0
 |t::r=>ay▸aR (eJ t) (g3 r)
end
section
variable {κ:Type}[DecidableEq κ]{d:List (κ×AV)}{k j:κ}{v:AV}
theorem cB (k j:κ)(v:AV)(d:List (κ×AV)):bM (cn d k v) j=if j=k then some v else bM d j:=by
 induction d with
 |nil=>by_cases h:j=k;rw[aL h];exact aL h.symm;rw[aK h];exact aK λ q=>h q.symm
 |cons p r ih=>
  unfold cn
  by_cases h:p.1=k
  ·rw[aL h];unfold bM;by_cases q:p.1=j
   ·rw[aL q,aL (q.symm.trans h)]
   ·rw[aK q,aK q,aK λ z=>q (h.trans z.symm)]
  ·rw[aK h];unfold bM;by_cases q:p.1=j
   ·rw[aL q,aL q,aK λ z=>h (q.trans z)]
   ·rw[aK q,aK q,ih]
theorem gj (k:κ)(v:AV)(d:List (κ×AV)):(cn d k v).length≤d.length+1:=by
 induction d with
 |nil=>exact au 1
 |cons p r ih=>unfold cn;split;exact aM _;exact aD ih
theorem eD (j:κ)(d:List (κ×AV)):(bM d j).isSome=true↔j∈d.map (·.1):=by
 induction d with
 |nil=>exact⟨nofun,nofun⟩
 |cons p r ih=>
  unfold bM
  by_cases h:p.1=j
  ·rw[aL h];exact⟨λ ω=>h▸af ..,λ ω=>rfl⟩
  ·rw[aK h];exact ih.trans ⟨λ q=>ag _ q,λ q=>(ap q).resolve_left λ z=>h z.symm⟩
theorem Be {x:κ}(h:x∈(cn d k v).map (·.1)):x=k∨x∈d.map (·.1):=by
 rw[←eD,cB]at h
 by_cases q:x=k
 ·exact .inl q
 ·rw[aK q,eD]at h;exact .inr h
theorem pY (h:(d.map (·.1)).Nodup):((cn d k v).map (·.1)).Nodup:=by
 induction d with
 |nil=>exact List.nodup_cons.mpr ⟨nofun,.nil⟩
 |cons p r ih=>
  unfold cn;have h':=List.nodup_cons.mp h
  by_cases q:p.1=k
  ·rw[aL q];exact h
  ·rw[aK q];exact List.nodup_cons.mpr ⟨λ z=>(Be z).elim q h'.1,ih h'.2⟩
end
structure oA (kvs:List (Int×AV))(l:List Int):Prop where
 nd:(kvs.map (·.1)).Nodup
 len:kvs.length≤l.length
 get:∀ k,bM kvs k=if l.count k=0 then none else some (.int (l.count k))
theorem oA.nil:oA [] []:=⟨.nil,au 0,λ ω=>rfl⟩
set_option tactic.hygienic true in
theorem oA.getD {kvs:List (Int×AV)}{l:List Int}(h:oA kvs l)(j:Int):(bM kvs j).getD (.int 0)=.int (l.count j):=by
 rw[h.get];split
 ·rename_i e;rw[e];rfl
 ·rfl
theorem oA.snoc {kvs:List (Int×AV)}{l:List Int}(h:oA kvs l)(j:Int):oA (cn kvs j (.int (l.count j+1))) (l++[j]):=by
 refine⟨pY h.nd,ay▸aa (gj ..) (aD h.len),λ k=>?_⟩;rw[cB,h.get,List.count_append]
 by_cases q:k=j
 ·subst q;rw[aL rfl,List.count_singleton_self,aK (Nat.succ_ne_zero _)];rfl
 ·rw[aK q,List.count_singleton,beq_eq_false_iff_ne.mpr (Ne.symm q)];rfl
theorem iz (a:AV)(l:List AV):(a::l).reverse=l.reverse++[a]:=List.reverse_cons ..
theorem jy {l:List AV}{a:AV}:(!(l++[a]).isEmpty)=true:=by cases l<;>rfl
theorem xf (l:List Tm):(Tm.avs l).reverse.length=l.length:=List.length_reverse.trans (dk l)
theorem cw {a n:Nat}(h:a≤n)(hn:n<100000):a<cX:=ac h (aw hn (by decide))
section
variable {J:JT}(L:eZ J){n:Nat}{r:List bT}{Q:bI}
include L
theorem Ay {k:Int}(h:At r (Q (Tm.v k).av)):At r (bR J (n+1) 165 Q [.int k]):=L.var n _ r Q rfl h
theorem Sn {k:Int}(h:At r (Q (Tm.a k).av)):At r (bR J (n+1) 172 Q [.int k]):=L.atom n _ r Q rfl h
theorem e8 {t:Tm}(h:At r (Q (.tup (match t with|.s _ as=>Tm.avs as|_=>[])))):At r (bR J (n+1) 200 Q [t.av]):=L.arguments n _ r Q rfl (by cases t<;>exact h)
end
structure Ek where
 ts:List Tm
 kvs:List (Int×AV)
 l:List Int
structure AJ (t:Tm)(x:Ek):Prop where
 c:oA x.kvs x.l
 v:x.l++Tm.varsL x.ts=t.vars
 z:Tm.szL x.ts≤t.sz
noncomputable def U5 (t:Tm)(d td:Addr)(r:List bT):v5 Ek:=⟨λ ω=>[(1,.loc d),(2,.loc td)],λ x=>(td,.list (Tm.avs x.ts).reverse)::(d,.dI x.kvs)::r,AJ t,λ x=>Tm.szL x.ts⟩
theorem AJ.kl {t:Tm}{x:Ek}(h:AJ t x)(hz:t.sz<100000):x.kvs.length<cX:=by
 refine cw (aa h.c.len (aa ?_ (eJ t))) hz;rw[←h.v,ay];exact ah ..
theorem AJ.tl {t:Tm}{x:Ek}(h:AJ t x):x.ts.length≤t.sz:=aa (fV _) h.z
section
variable {J:JT}(L:eZ J){n:Nat}{r:List bT}{Q:bI}
include L
theorem Gv {t:Tm}(hz:t.sz<100000)(h:∀ d kvs,oA kvs t.vars→At ((d,.dI kvs)::r) (Q (.loc d))):At r (bR J (n+1) 221 Q [t.av]):=by
 refine L.occurrences n _ r Q rfl (bJ λ d=>bJ λ td=>mN (U5 t d td r) ⟨[t],[],[]⟩ rfl ⟨rfl,rfl,trivial⟩ ⟨oA.nil,aq _,au _⟩ λ⟨ts,kvs,l⟩ hP=>?_);cases ts with
 |nil=>exact hY 0 rfl rfl (At.drop1 (h d kvs (hP.v▸(aq l).symm▸hP.c)))
 |cons p ts=>
  refine hY 0 (ae (λ x=>some (td,bO.list x)) (iz ..)) jy ?_;refine pD 0 (ae (λ x=>some (td,bO.list x)) (iz ..)) ?_;cases p with
  |v j=>
   apply l8 1;rfl;exact .dI;apply pC 1;rfl;exact hP.c.getD j;apply iK 1;rfl;exact hP.kl hz;exact d5 ⟨ts,_,_⟩ rfl ⟨rfl,rfl,trivial⟩ ⟨hP.c.snoc j,(ao ..).trans hP.v,aa (aC ..) hP.z⟩ (bp (aV 0))
  |s f as=>
   apply bF 0;rfl;apply Ge 0;rfl
   ·refine cw ?_ hz;rw[xf,dk];exact aa (aR (fV ts) (fV as)) (aa (aa (am (bh ..)) (aG (aM _) _)) hP.z)
   ·exact d5 ⟨as++ts,kvs,l⟩ (ae (λ x=>(td,bO.list x)::(d,.dI kvs)::r) ((ae List.reverse (ez as ts)).trans List.reverse_append)) ⟨rfl,rfl,trivial⟩ ⟨hP.c,fy as ts▸hP.v,dO as ts▸aa (aG (aM _) _) hP.z⟩ (ac (am (dO as ts)) (Nat.add_lt_add_right (bq _) _))
  |a j=>exact d5 ⟨ts,_,_⟩ rfl ⟨rfl,rfl,trivial⟩ ⟨hP.c,hP.v,aa (aC ..) hP.z⟩ (bp (aV 0))
  |i j=>exact d5 ⟨ts,_,_⟩ rfl ⟨rfl,rfl,trivial⟩ ⟨hP.c,hP.v,aa (aC ..) hP.z⟩ (bp (aV 0))
end
noncomputable def cy {α:Type}[DecidableEq α]:List α→α→Nat
 |[],_=>0
 |y::r,x=>if y=x then 0 else cy r x+1
structure Sy where
 ts:List Sx
 fs:List (Int×Int)
noncomputable def Sy.atom (s:Sy)(x:Sx):Int×Sy:=if x∈s.ts then ((cy s.ts x:Nat),s)else ((s.ts.length:Nat),⟨s.ts++[x],s.fs⟩)
noncomputable def Sy.functor (s:Sy)(a n:Int):Int×Sy:=if (a,n)∈s.fs then ((cy s.fs (a,n):Nat),s)else ((s.fs.length:Nat),⟨s.ts,s.fs++[(a,n)]⟩)
noncomputable def Sy.func (s:Sy)(x:Sx)(n:Int):Int×Sy:=(s.atom x).2.functor (s.atom x).1 n
structure sO where
 obj:Addr
 dx:Addr
 tl:Addr
 td:Addr
 fl:Addr
 fd:Addr
noncomputable def J0 (p:Int×Int):List Int:=[p.1,p.2]
noncomputable def wP {α κ:Type}(g:α→κ):Nat→List α→List (κ×AV)
 |_,[]=>[]
 |n,x::r=>(g x,.int n)::wP g (n+1) r
noncomputable def Zb (p:Int×Int):AV:=.tup [.int p.1,.int p.2]
noncomputable def J8 (A:sO)(t d f e:bO):List bT:=[(A.obj,.inst 154 A.dx),(A.dx,.ns [(kK,.loc A.tl),(eB,.loc A.td),(fR,.loc A.fl),(dm,.loc A.fd)]),(A.tl,t),(A.td,d),(A.fl,f),(A.fd,e)]
noncomputable def cF (A:sO)(s:Sy):List bT:=J8 A (.list (s.ts.map .str)) (.dS (wP id 0 s.ts)) (.list (s.fs.map Zb)) (.dT (wP J0 0 s.fs))
section
variable {κ α:Type}[DecidableEq κ][DecidableEq α]{g:α→κ}{j:κ}{v:AV}
theorem fT {k:κ}{r:List (κ×AV)}(h:k=j):bM ((k,v)::r) j=some v:=aL h
theorem fX {k:κ}{r:List (κ×AV)}(h:¬ k=j):bM ((k,v)::r) j=bM r j:=aK h
theorem gm {x y:α}{r:List α}(h:y=x):cy (y::r) x=0:=aL h
theorem gg {x y:α}{r:List α}(h:¬ y=x):cy (y::r) x=cy r x+1:=aK h
theorem G8 (j:κ)(d d':List (κ×AV)):bM (d++d') j=(bM d j).or (bM d' j):=by
 induction d with
 |nil=>rfl
 |cons p r ih=>
  by_cases h:p.1=j
  ·rw[fT h];exact fT h
  ·rw[fX h];exact (fX h).trans ih
theorem CE {d:List (κ×AV)}(h:bM d j=none):cn d j v=d++[(j,v)]:=by
 induction d with
 |nil=>rfl
 |cons p r ih=>
  by_cases q:p.1=j
  ·rw[fT q]at h;cases h
  ·rw[fX q]at h;exact (aK q).trans (ae (p::·) (ih h))
theorem jp (hg:∀ x y,g x=g y→x=y)(x:α)(l:List α):∀ n:Nat,bM (wP g n l) (g x)=if x∈l then some (.int ((n+cy l x:Nat)))else none:=by
 induction l with
 |nil=>exact λ ω=>rfl
 |cons y r ih=>
  intro n
  by_cases h:y=x
  ·rw[gm h,aL (h▸af ..)];exact fT (ae g h)
  ·refine (fX λ q=>h (hg _ _ q)).trans ((ih (n+1)).trans ?_);rw[gg h,aQ,bh 1]
   by_cases q:x∈r
   ·rw[aL q,aL (ag _ q)]
   ·rw[aK q,aK λ z=>(ap z).elim (λ e=>h e.symm) q]
theorem Fa (x:α)(l:List α):∀ n,wP g n (l++[x])=wP g n l++[(g x,.int (n+l.length:Nat))]:=by
 induction l with
 |nil=>exact λ ω=>rfl
 |cons y r ih=>intro n;refine ae (_::·) ((ih (n+1)).trans ?_);rw[aQ,bh 1];rfl
theorem mG (hg:∀ x y,g x=g y→x=y){x:α}{l:List α}(h:x∉l):cn (wP g 0 l) (g x) (.int (l.length:Nat))=wP g 0 (l++[x]):=by
 rw[CE ((jp hg x l 0).trans (aK h)),Fa,aU]
theorem oP {α κ:Type}{g:α→κ}(l:List α):∀ n,(wP g n l).length=l.length:=by
 induction l with
 |nil=>exact λ ω=>rfl
 |cons y r ih=>exact λ n=>ae (·+1) (ih (n+1))
theorem yl (hg:∀ x y,g x=g y→x=y){x:α}{l:List α}(h:x∈l){d:AV}:(bM (wP g 0 l) (g x)).getD d=.int (cy l x:Nat):=by
 rw[jp hg,aL h,aU];rfl
theorem uZ (hg:∀ x y,g x=g y→x=y){x:α}{l:List α}(h:x∉l){d:AV}:(bM (wP g 0 l) (g x)).getD d=d:=by
 rw[jp hg,aK h];rfl
end
theorem wb:∀ x y:Sx,id x=id y→x=y:=λ ω ω h=>h
theorem ti:∀ x y,J0 x=J0 y→x=y:=λ x y h=>Prod.ext (List.cons.inj h).1 (List.cons.inj (List.cons.inj h).2).1
theorem At.eq {l l':List bT}{X:SP}(e:l'=l)(h:At l' X):At l X:=e▸h
theorem cb {α β:Type}(f:α→β)(l:List α)(x:α):(l++[x]).map f=l.map f++[f x]:=aN
theorem oY {a:Nat}(h:a<1000000):a<cX:=aw h (by decide)
theorem eX {α β:Type}{f:α→β}{l:List α}{n:Nat}(h:l.length<n):(l.map f).length<n:=ac (am (ak f)) h
theorem oz {α κ:Type}{g:α→κ}{l:List α}{n:Nat}(h:l.length<n):(wP g 0 l).length<n:=ac (am (oP l 0)) h
theorem xz (s:Sy)(x:Sx):(s.atom x).2.fs=s.fs:=by unfold Sy.atom;split<;>rfl
section
variable {J:JT}(L:eZ J){n:Nat}{r:List bT}{Q:bI}{A:sO}{s:Sy}
include L
theorem sQ {x:Sx}(hz:s.ts.length<1000000)(h:At (cF A (s.atom x).2++r) (Q (.int (s.atom x).1))):At (cF A s++r) (bR J (n+1) 88 Q [.loc A.obj,.str x]):=by
 refine L.Symbols_atom n _ _ Q rfl ?_;apply bS 0 1;rfl;rfl;rfl;apply l8 3;rfl;exact .dS
 by_cases hx:x∈s.ts
 ·rw[show s.atom x=(((cy s.ts x:Nat):Int),s)from aL hx]at h;apply z9 3;rfl;exact yl wb hx;exact bQ (bf _) h
 ·rw[show s.atom x=(((s.ts.length:Nat):Int),(⟨s.ts++[x],s.fs⟩:Sy))from aK hx]at h;apply z9 3;rfl;exact uZ wb hx;apply bP;exact nofun
  apply bS 0 1;rfl;rfl;rfl;apply fM 2;rfl;exact ak _;apply bS 0 1;rfl;rfl;rfl;apply bF 2;rfl;apply bG 2;rfl;exact eX (oY hz);apply bS 0 1;rfl;rfl;rfl;apply CA 3;rfl;exact oz (oY hz);exact At.eq (congr (ae (λ x y=>J8 A x y _ _++r) (ae bO.list (cb ..))) (ae bO.dS (mG wb hx).symm)) h
theorem Cq {a k:Int}(hx:(a,k)∈s.fs)(h:At (cF A s++r) (Q (.int ((cy s.fs (a,k):Nat):Int)))):At (cF A s++r) (bR J (n+1) 102 Q [.loc A.obj,.int a,.int k]):=by
 refine L.Symbols_functor n _ _ Q rfl ?_;apply bS 0 1;rfl;rfl;rfl;apply l8 5;rfl;exact .dT;apply C0 5;rfl;rfl;exact yl ti hx;exact bQ (bf _) h
theorem rz {a k:Int}(hz:s.fs.length<1000000)(h:At (cF A (s.functor a k).2++r) (Q (.int (s.functor a k).1))):At (cF A s++r) (bR J (n+1) 102 Q [.loc A.obj,.int a,.int k]):=by
 by_cases hx:(a,k)∈s.fs
 ·rw[show s.functor a k=(((cy s.fs (a,k):Nat):Int),s)from aL hx]at h;exact Cq L hx h
 ·refine L.Symbols_functor n _ _ Q rfl ?_;apply bS 0 1;rfl;rfl;rfl;apply l8 5;rfl;exact .dT;rw[show s.functor a k=(((s.fs.length:Nat):Int),(⟨s.ts,s.fs++[(a,k)]⟩:Sy))from aK hx]at h;apply C0 5;rfl;rfl;exact uZ ti hx;apply bP;exact nofun
  apply bS 0 1;rfl;rfl;rfl;apply fM 4;rfl;exact ak _;apply bS 0 1;rfl;rfl;rfl;apply bF 4;rfl;apply bG 4;rfl;exact eX (oY hz);apply bS 0 1;rfl;rfl;rfl;apply HA 5;rfl;rfl;exact oz (oY hz);exact At.eq (congr (ae (λ x y=>J8 A _ _ x y++r) (ae bO.list (cb ..))) (ae bO.dT (mG ti hx).symm)) h
theorem j7 {x:Sx}{k:Int}(hz:s.ts.length<1000000)(hz':s.fs.length<1000000)(h:At (cF A (s.func x k).2++r) (Q (.int (s.func x k).1))):At (cF A s++r) (bR J (n+2) 109 Q [.loc A.obj,.str x,.int k]):=by
 refine L.Symbols_func (n+1) _ _ Q rfl ?_;apply cj 0 1;rfl;rfl;rfl;apply cj 0 1;rfl;rfl;rfl;apply sQ L hz;exact rz L (xz s x▸hz') h
theorem JF {k:Nat}{p:Int×Int}(e:s.fs[k]? =some p)(h:At (cF A s++r) (Q (.int p.1))):At (cF A s++r) (bR J (n+1) 116 Q [.loc A.obj,.int k]):=by
 refine L.Symbols_name n _ _ Q rfl ?_;apply bS 0 1;rfl;rfl;rfl;apply cZ 4;rfl;exact List.getElem?_map.trans (ae (Option.map Zb) e);exact h
theorem JR {k:Nat}{x:Sx}(e:s.ts[k]? =some x)(h:At (cF A s++r) (Q (.str x))):At (cF A s++r) (bR J (n+1) 95 Q [.loc A.obj,.int k]):=by
 refine L.Symbols_text n _ _ Q rfl ?_;apply bS 0 1;rfl;rfl;rfl;apply cZ 2;rfl;exact List.getElem?_map.trans (ae (Option.map AV.str) e);exact h
end
inductive Bd where
 |lf (t:Tm)|com (x y:Bd)|sem (x y:Bd)|arr (x y:Bd)|neg (x:Bd)
noncomputable def Bd.tm:Bd→Tm
 |.lf t=>t
 |.com x y=>.s 1 [x.tm,y.tm]
 |.sem x y=>.s 2 [x.tm,y.tm]
 |.arr x y=>.s 3 [x.tm,y.tm]
 |.neg x=>.s 4 [x.tm]
noncomputable abbrev dX (b:Bd):AV:=b.tm.av
def EX:Tm→Prop
 |.s f as=>4<f∧(f=10→as.length=2)∧(f=10∨24≤f)
 |_=>True
def Bd.ok:Bd→Prop
 |.lf t=>EX t
 |.com x y=>x.ok∧y.ok
 |.sem x y=>x.ok∧y.ok
 |.arr x y=>x.ok∧y.ok
 |.neg x=>x.ok
noncomputable def Bd.nd:Bd→Nat
 |.lf _=>1
 |.com x y=>x.nd+y.nd+1
 |.sem x y=>x.nd+y.nd+1
 |.arr x y=>x.nd+y.nd+1
 |.neg x=>x.nd+1
noncomputable def o4:List Bd→Nat
 |[]=>0
 |b::r=>b.nd+o4 r
def SL:List Bd→Prop
 |[]=>True
 |b::r=>b.ok∧SL r
noncomputable def za (n:Int):Tm→Bool
 |.a k=>decide (k=n)
 |_=>false
noncomputable def JK:Tm→Bool
 |.i _=>true
 |_=>false
noncomputable def hc:Bd→Bool
 |.lf t=>za 15 t
 |.com x y=>hc x||hc y
 |.sem x y=>hc x||hc y
 |.arr x y=>hc y
 |.neg _=>false
noncomputable def cY:Bd→Bool
 |.lf t=> !JK t
 |.com x y=>cY x&&cY y
 |.sem x y=>cY x&&cY y
 |.arr x y=>cY x&&cY y
 |.neg _=>true
noncomputable def ee:Bd→List Bd
 |.com x y=>ee x++ee y
 |.lf t=>match za 16 t with|true=>[]|false=>[.lf t]
 |.sem x y=>[.sem x y]
 |.arr x y=>[.arr x y]
 |.neg x=>[.neg x]
noncomputable def bW:Bd→List Bd
 |.sem x y=>x::bW y
 |.lf t=>[.lf t]
 |.com x y=>[.com x y]
 |.arr x y=>[.arr x y]
 |.neg x=>[.neg x]
theorem rG (b:Bd):0<b.nd:=by cases b<;>exact aV _
theorem mz (l:List Bd):l.length≤o4 l:=by
 induction l with|nil=>exact au 0|cons t r ih=>exact aa (am (bh ..)) (aR (rG t) ih)
theorem A3 {x y l a:Nat}(h:x+y+1+l≤a):x+(y+l)<a:=by lia
theorem pK {x y:Bd}{l:List Bd}{a:Nat}(h:x.nd+y.nd+1+o4 l≤a):x.nd+(y.nd+o4 l)<a:=A3 h
theorem oU {x y:Bd}{l:List Bd}{a:Nat}(h:x.nd+y.nd+1+o4 l≤a):y.nd+(x.nd+o4 l)<a:=A3 (bh x.nd y.nd▸h)
theorem B8 {x y:Bd}{l:List Bd}{a:Nat}(h:x.nd+y.nd+1+o4 l≤a):y.nd+o4 l<a:=ac (aC ..) (pK h)
theorem fY {b:Bd}{l:List Bd}{a:Nat}(h:b.nd+o4 l≤a):o4 l<a:=aO (bp (rG b)) h
theorem SH {α:Type}(f:α→AV)(x:α)(l:List α):((x::l).map f).reverse=(l.map f).reverse++[f x]:=List.reverse_cons ..
theorem Sm {α:Type}(f:α→AV)(x y:α)(l:List α):((y::x::l).map f).reverse=(l.map f).reverse++[f x]++[f y]:=(SH f y (x::l)).trans (ae (·++[f y]) (SH f x l))
theorem jw {α:Type}{f:α→AV}{l:List α}(h:l.length<100000):((l.map f).reverse).length<cX:=ac (am (List.length_reverse.trans (ak f))) (aw h (by decide))
theorem bK {α:Type}(l:List α)(x:α):(l++[x]).length=l.length+1:=ay
theorem i8 {α:Type}{f:α→AV}{l:List α}{a:AV}(h:l.length<100000):((l.map f).reverse++[a]).length<cX:=by
 rw[bK,bu,ak];exact ac h (by decide)
noncomputable def F4 (td:Addr)(r:List bT)(l:List Bd):List bT:=(td,.list (l.map dX).reverse)::r
theorem mL {td:Addr}{r:List bT}{l:List Bd}{vs:List AV}(h:(l.map dX).reverse=vs):F4 td r l=(td,.list vs)::r:=ae (λ x=>(td,bO.list x)::r) h
theorem nI {td:Addr}{r:List bT}(p:Bd)(l:List Bd):eH (F4 td r (p::l)) 0=some (td,.list ((l.map dX).reverse++[dX p])):=ae (λ x=>some (td,bO.list x)) (SH ..)
theorem abp {K:BP}{l:List bT}{x y:Int}(h:x≠y)(g:At l (K false)):At l (g5 (x=y) K):=bP h g
structure Kr (N:Nat)(P:List Bd→Prop)(l:List Bd):Prop where
 ok:SL l
 z:o4 l≤N
 p:P l
theorem Kr.len {N:Nat}{P:List Bd→Prop}{b:Bd}{l:List Bd}(h:Kr N P (b::l))(hz:N<100000):l.length<100000:=aw (ac (mz l) (fY h.z)) hz
theorem pA {a b:Int}:AV.int a=AV.int b↔a=b:=⟨λ h=>by injection h,ae _⟩
theorem gW {f k:Int}(h:4<f)(hk:k≤4):f≠k:=Int.ne_of_gt (Int.lt_of_le_of_lt hk h)
theorem Zw {f:Int}(h:4<f):¬ (f=1∨f=2∨f=3):=λ q=>q.elim (gW h (by decide)) λ q=>q.elim (gW h (by decide)) (gW h (by decide))
theorem Dn {f:Int}:AV.int f∈[AV.int 1,.int 2,.int 3]↔f=1∨f=2∨f=3:=by simp only[List.mem_cons,pA,List.not_mem_nil,or_false]
theorem iM {f:Int}{n:Nat}:min (AV.int f).dep n≤50:=aa (Nat.min_le_left ..) (aI _)
theorem oM {k:Int}(h:k=16):ee (.lf (.a k))=[]:=h▸rfl
theorem mS {k:Int}(h:k≠16):ee (.lf (.a k))=[.lf (.a k)]:=show (match decide (k=16)with|true=>[]|false=>[Bd.lf (.a k)])=_ from decide_eq_false h▸rfl
noncomputable def B9 (td:Addr)(r:List bT)(N:Nat)(P:List Bd→Prop):v5 (List Bd):=⟨λ ω=>[(1,.loc td)],F4 td r,Kr N P,o4⟩
section
variable {J:JT}(L:eZ J){n:Nat}{r:List bT}{Q:bI}
include L
theorem RI {t:Bd}(hz:t.nd<100000)(hw:t.ok)(h:At r (Q (.bool (hc t)))):At r (bR J (n+1) 349 Q [dX t]):=by
 refine L.has_cut n _ r Q rfl (bJ λ td=>?_);refine mN (B9 td r t.nd λ l=>hc t=l.any hc) [t] rfl ⟨rfl,trivial⟩ ⟨⟨hw,trivial⟩,au _,(Bool.or_false _).symm⟩ λ l hP=>?_;rcases l with _|⟨p,l⟩
 ·exact hY 0 rfl rfl (At.drop1 (hP.p▸h))
 have hl:=hP.len hz;apply hY 0 (nI p l) jy;apply pD 0 (nI p l);rcases p with t'|⟨x,y⟩|⟨x,y⟩|⟨x,y⟩|x
 ·have go:za 15 t'=false→∀ S m,mO m [(1,.loc td)]→At (F4 td r l) (lB (B9 td r t.nd λ l=>hc t=l.any hc) (.lf t'::l) S .next m):=λ e S m hm=>
   d5 l rfl hm ⟨hP.ok.2,aW (fY hP.z),hP.p.trans (ae (·||l.any hc) e)⟩ (bp (aV 0))
  rcases t' with k|k|k|⟨f,as⟩
  ·exact go rfl _ _ ⟨rfl,trivial⟩
  ·by_cases q:k=15
   ·exact bQ q (BX (At.drop1 (hP.p.trans (ae (·||l.any hc) (decide_eq_true q))▸h)))
   ·exact bP q (go (decide_eq_false q) _ _ ⟨rfl,trivial⟩)
  ·exact go rfl _ _ ⟨rfl,trivial⟩
  ·have hf:4<f:=hP.ok.1.1;apply bP (gW hf (k:=1) (by decide));apply bP (gW hf (k:=2) (by decide));apply bP (gW hf (k:=3) (by decide));exact go rfl _ _ ⟨rfl,trivial⟩
 ·apply bQ rfl;apply bF 0 rfl;apply bG 0 rfl (jw hl);apply bF 0 rfl;apply bG 0 rfl (i8 hl);exact d5 (y::x::l) (mL (Sm ..)) ⟨rfl,trivial⟩ ⟨⟨hP.ok.1.2,hP.ok.1.1,hP.ok.2⟩,aW (oU hP.z),hP.p.trans ((ae (·||_) (Bool.or_comm ..)).trans (Bool.or_assoc ..))⟩ (oU (au _))
 ·apply bP (by decide);apply bQ rfl;apply bF 0 rfl;apply bG 0 rfl (jw hl);apply bF 0 rfl;apply bG 0 rfl (i8 hl);exact d5 (y::x::l) (mL (Sm ..)) ⟨rfl,trivial⟩ ⟨⟨hP.ok.1.2,hP.ok.1.1,hP.ok.2⟩,aW (oU hP.z),hP.p.trans ((ae (·||_) (Bool.or_comm ..)).trans (Bool.or_assoc ..))⟩ (oU (au _))
 ·apply bP (by decide);apply bP (by decide);apply bQ rfl;apply bF 0 rfl;apply bG 0 rfl (jw hl);exact d5 (y::l) (mL (SH ..)) ⟨rfl,trivial⟩ ⟨⟨hP.ok.1.2,hP.ok.2⟩,aW (B8 hP.z),hP.p⟩ (B8 (au _))
 ·apply bP (by decide);apply bP (by decide);apply bP (by decide);exact d5 l rfl ⟨rfl,trivial⟩ ⟨hP.ok.2,aW (fY hP.z),hP.p⟩ (bp (aV _))
theorem Dm {t:Bd}(hz:t.nd<100000)(hw:t.ok)(h:At r (Q (.bool (cY t)))):At r (bR J (n+1) 321 Q [dX t]):=by
 refine L.is_body n _ r Q rfl (bJ λ td=>?_);refine mN (B9 td r t.nd λ l=>cY t=l.all cY) [t] rfl ⟨rfl,trivial⟩ ⟨⟨hw,trivial⟩,au _,(Bool.and_true _).symm⟩ λ l hP=>?_;rcases l with _|⟨p,l⟩
 ·exact hY 0 rfl rfl (At.drop1 (hP.p▸h))
 have hl:=hP.len hz;apply hY 0 (nI p l) jy;apply pD 0 (nI p l);have go:cY p=true→∀ S m,mO m [(1,.loc td)]→At (F4 td r l) (lB (B9 td r t.nd λ l=>cY t=l.all cY) (p::l) S .next m):=λ e S m hm=>
  d5 l rfl hm ⟨hP.ok.2,aW (fY hP.z),hP.p.trans (ae (·&&l.all cY) e)⟩ (fY (au _))
 have go2:∀ x y,p.ok=(x.ok∧y.ok)→p.nd=x.nd+y.nd+1→cY p=(cY x&&cY y)→∀ S m,mO m [(1,.loc td)]→At ((td,.list ((l.map dX).reverse++[dX y]++[dX x]))::r) (lB (B9 td r t.nd λ l=>cY t=l.all cY) (p::l) S .next m):=λ x y e1 e2 e3 S m hm=>
  have ho:x.ok∧y.ok:=e1▸hP.ok.1;have hz:x.nd+y.nd+1+o4 l≤t.nd:=e2▸hP.z
  d5 (x::y::l) (mL (Sm ..)) hm ⟨⟨ho.1,ho.2,hP.ok.2⟩,aW (pK hz),hP.p.trans ((ae (·&&l.all cY) e3).trans (Bool.and_assoc ..))⟩ (pK (e2▸au _))
 rcases p with t'|⟨x,y⟩|⟨x,y⟩|⟨x,y⟩|x
 ·rcases t' with k|k|k|⟨f,as⟩
  ·exact go rfl _ _ ⟨rfl,trivial⟩
  ·exact go rfl _ _ ⟨rfl,trivial⟩
  ·exact BX (At.drop1 (hP.p▸h))
  ·have hf:4<f:=hP.ok.1.1;apply dv rfl rfl iM;apply bP (mt Dn.mp (Zw hf));exact go rfl _ _ ⟨rfl,trivial⟩
 ·apply dv rfl rfl iM;apply bQ (Dn.mpr (.inl rfl));apply bF 0 rfl;apply bG 0 rfl (jw hl);apply bF 0 rfl;apply bG 0 rfl (i8 hl);exact go2 x y rfl rfl rfl _ _ ⟨rfl,trivial⟩
 ·apply dv rfl rfl iM;apply bQ (Dn.mpr (.inr (.inl rfl)));apply bF 0 rfl;apply bG 0 rfl (jw hl);apply bF 0 rfl;apply bG 0 rfl (i8 hl);exact go2 x y rfl rfl rfl _ _ ⟨rfl,trivial⟩
 ·apply dv rfl rfl iM;apply bQ (Dn.mpr (.inr (.inr rfl)));apply bF 0 rfl;apply bG 0 rfl (jw hl);apply bF 0 rfl;apply bG 0 rfl (i8 hl);exact go2 x y rfl rfl rfl _ _ ⟨rfl,trivial⟩
 ·apply dv rfl rfl iM;apply bP (mt Dn.mp (by decide));exact go rfl _ _ ⟨rfl,trivial⟩
end
structure Zh where
 l:List Bd
 g:List Bd
structure FlP (t:Bd)(x:Zh):Prop where
 ok:SL x.l
 z:o4 x.l+x.g.length≤t.nd
 p:ee t=x.g++x.l.flatMap ee
noncomputable def Zg (td gl:Addr)(r:List bT)(t:Bd):v5 Zh:=⟨λ ω=>[(1,.loc gl),(2,.loc td)],λ x=>F4 td ((gl,.list (x.g.map dX))::r) x.l,FlP t,λ x=>o4 x.l⟩
theorem s5 {a b c d:Nat}(h:b+c≤d)(h1:a<b):a+(c+1)≤d:=aa (am (Nat.add_left_comm a c 1▸bh c (a+1))) (aa (aG h1 c) h)
theorem Cc {a b c d:Nat}(h:b+c≤d)(h1:a<b):a+c≤d:=aa (aG (aW h1) c) h
section
variable {J:JT}(L:eZ J){n:Nat}{r:List bT}{Q:bI}
include L
theorem Iu {t:Bd}(hz:t.nd<100000)(hw:t.ok)(h:∀ l,At ((l,.list ((ee t).map dX))::r) (Q (.loc l))):At r (bR J (n+1) 342 Q [dX t]):=by
 refine L.flat_goals n _ r Q rfl (bJ λ gl=>bJ λ td=>?_);refine mN (Zg td gl r t) ⟨[t],[]⟩ rfl ⟨rfl,rfl,trivial⟩ ⟨⟨hw,trivial⟩,au _,(aq _).symm⟩ λ⟨l,g⟩ hP=>?_;rcases l with _|⟨p,l⟩
 ·exact hY 0 rfl rfl (At.drop1 (At.eq (ae (λ x=>(gl,bO.list (x.map dX))::r) (hP.p.trans (aq g))) (h gl)))
 have hlt:l.length<100000:=aw (ac (mz l) (fY (aa (ah ..) hP.z))) hz;have hgl:(g.map dX).length<cX:=ac (am (ak _)) (ac (aa (aC ..) hP.z) (aw hz (by decide)));apply hY 0 (nI p l) jy;apply pD 0 (nI p l);have go:ee p=[p]→∀ S m,mO m [(1,.loc gl),(2,.loc td)]→At (F4 td ((gl,.list (g.map dX++[dX p]))::r) l) (lB (Zg td gl r t) ⟨p::l,g⟩ S .next m):=λ e S m hm=>
  d5 ⟨l,g++[p]⟩ (ae (λ x=>F4 td ((gl,bO.list x)::r) l) (cb ..)) hm ⟨hP.ok.2,aa (am (ae (o4 l+·) (bK g p))) (s5 hP.z (fY (au _))),hP.p.trans ((ae (λ z=>g++(z++l.flatMap ee)) e).trans (ao ..).symm)⟩ (fY (au _))
 rcases p with t'|⟨x,y⟩|⟨x,y⟩|⟨x,y⟩|x
 ·rcases t' with k|k|k|⟨f,as⟩
  ·apply bF 1 rfl;apply bG 1 rfl hgl;exact go rfl _ _ ⟨rfl,rfl,trivial⟩
  ·by_cases q:k=16
   ·exact bQ q (HW ⟨l,g⟩ rfl ⟨rfl,rfl,trivial⟩ ⟨hP.ok.2,Cc hP.z (fY (au _)),hP.p.trans (ae (λ z=>g++(z++l.flatMap ee)) (oM q))⟩ (fY (au _)))
   ·apply bP q;apply bF 1 rfl;apply bG 1 rfl hgl;exact go (mS q) _ _ ⟨rfl,rfl,trivial⟩
  ·apply bF 1 rfl;apply bG 1 rfl hgl;exact go rfl _ _ ⟨rfl,rfl,trivial⟩
  ·have hf:4<f:=hP.ok.1.1;apply bP (gW hf (k:=1) (by decide));apply bF 1 rfl;apply bG 1 rfl hgl;exact go rfl _ _ ⟨rfl,rfl,trivial⟩
 ·apply bQ rfl;apply bF 0 rfl;apply bG 0 rfl (jw hlt);apply bF 0 rfl;apply bG 0 rfl (i8 hlt);exact d5 ⟨x::y::l,g⟩ (mL (Sm ..)) ⟨rfl,rfl,trivial⟩ ⟨⟨hP.ok.1.1,hP.ok.1.2,hP.ok.2⟩,Cc hP.z (pK (au _)),hP.p.trans (ae (g++·) (ao ..))⟩ (pK (au _))
 ·apply bP (by decide);apply bF 1 rfl;apply bG 1 rfl hgl;exact go rfl _ _ ⟨rfl,rfl,trivial⟩
 ·apply bP (by decide);apply bF 1 rfl;apply bG 1 rfl hgl;exact go rfl _ _ ⟨rfl,rfl,trivial⟩
 ·apply bP (by decide);apply bF 1 rfl;apply bG 1 rfl hgl;exact go rfl _ _ ⟨rfl,rfl,trivial⟩
end
mutual
noncomputable def Tm.ht:Tm→Nat
 |.s _ as=>Tm.htL as+1
 |.v _=>0|.a _=>0|.i _=>0
noncomputable def Tm.htL:List Tm→Nat
 |[]=>0
 |t::r=>max t.ht (Tm.htL r)
end
noncomputable def Bd.ht:Bd→Nat
 |.lf _=>0
 |.com x y=>max x.ht y.ht+1
 |.sem x y=>max x.ht y.ht+1
 |.arr x y=>max x.ht y.ht+1
 |.neg x=>x.ht+1
theorem z8 {a b n:Nat}(h:max a b<n):a<n:=ac (bc ..) h
theorem Bl {a b n:Nat}(h:max a b<n):b<n:=ac (Nat.le_max_right ..) h
noncomputable def dd (acc:List Int):List Int→List Int
 |[]=>acc
 |k::r=>dd (if k∈acc then acc else acc++[k]) r
theorem oe {acc:List Int}{k:Int}{r:List Int}(h:k∈acc):dd acc (k::r)=dd acc r:=ae (dd · r) (aL h)
theorem kj {acc:List Int}{k:Int}{r:List Int}(h:k∉acc):dd acc (k::r)=dd (acc++[k]) r:=ae (dd · r) (aK h)
structure QD where
 ts:List Tm
 kvs:List (Int×AV)
 l:List Int
structure Up (t:Tm)(x:QD):Prop where
 k:∀ j,j∈x.kvs.map (·.1)↔j∈x.l
 v:dd x.l (Tm.varsL x.ts)=dd [] t.vars
 z:Tm.szL x.ts+x.l.length≤t.sz
 zk:x.kvs.length≤x.l.length
noncomputable def Nj (t:Tm)(d rl td:Addr)(r:List bT):v5 QD:=⟨λ ω=>[(1,.loc d),(2,.loc rl),(3,.loc td)],λ x=>(td,.list (Tm.avs x.ts).reverse)::(rl,.list (x.l.map .int))::(d,.dI x.kvs)::r,Up t,λ x=>Tm.szL x.ts⟩
theorem Dj {k j:Int}{v:AV}{d:List (Int×AV)}:j∈(cn d k v).map (·.1)↔j=k∨j∈d.map (·.1):=by
 rw[←eD,←eD,cB]
 by_cases q:j=k
 ·rw[aL q];exact⟨λ ω=>.inl q,λ ω=>rfl⟩
 ·rw[aK q];exact⟨.inr,λ h=>h.resolve_left q⟩
theorem eh {α:Type}{x y:α}{l:List α}:x∈l++[y]↔x=y∨x∈l:=List.mem_append.trans (Or.comm.trans (or_congr List.mem_singleton .rfl))
structure Ym where
 t:Bd
 ps:List Bd
structure SpP (t:Bd)(x:Ym):Prop where
 p:bW t=x.ps++bW x.t
 z:x.t.nd+x.ps.length≤t.nd
 ok:x.t.ok
noncomputable def spI (t:Bd)(pl:Addr)(r:List bT):v5 Ym:=⟨λ x=>[(0,dX x.t),(1,.tup [.int 2]),(2,.loc pl)],λ x=>(pl,.list (x.ps.map dX))::r,SpP t,λ x=>x.t.nd⟩
theorem in1 {f:Int}:AV.int f∈[AV.int 2]↔f=2:=List.mem_singleton.trans pA
theorem ui {α β:Type}{f:α→β}{l:List α}{a n:Nat}(h:a+l.length≤n)(hn:n<100000):(l.map f).length<cX:=eX (ac (aa (aC ..) h) (aw hn (by decide)))
theorem ar1 {a b c n:Nat}(h:1+a+b≤n)(e:c=b+1):a+c≤n:=by lia
section
variable {J:JT}(L:eZ J){n:Nat}{r:List bT}{Q:bI}
include L
theorem Fi {t:Bd}(hz:t.nd<100000)(hw:t.ok)(h:∀ l,At ((l,.list ((bW t).map dX))::r) (Q (.loc l))):At r (bR J (n+1) 335 Q [dX t,.tup [.int 2]]):=by
 refine L.right_spine n _ r Q rfl (bJ λ pl=>?_);refine mN (spI t pl r) ⟨t,[]⟩ rfl ⟨rfl,rfl,rfl,trivial⟩ ⟨rfl,au _,hw⟩ λ⟨p,ps⟩ hP=>?_;have hl:(ps.map dX).length<cX:=ui hP.z hz;have fin:bW p=[p]→At ((pl,.list (ps.map dX++[dX p]))::r) (Q (.loc pl)):=λ e=>At.eq (ae (λ x=>(pl,bO.list x)::r) ((ae (List.map dX) (hP.p.trans (ae (ps++·) e))).trans (cb ..))) (h pl);rcases p with t'|⟨x,y⟩|⟨x,y⟩|⟨x,y⟩|x
 ·rcases t' with k|k|k|⟨f,as⟩
  ·apply bF 0 rfl;apply bG 0 rfl hl;exact fin rfl
  ·apply bF 0 rfl;apply bG 0 rfl hl;exact fin rfl
  ·apply bF 0 rfl;apply bG 0 rfl hl;exact fin rfl
  ·have hf:4<f:=hP.ok.1;apply dv rfl rfl iM;apply bP (mt in1.mp (gW hf (by decide)));apply bF 0 rfl;apply bG 0 rfl hl;exact fin rfl
 ·apply dv rfl rfl iM;apply bP (mt in1.mp (by decide));apply bF 0 rfl;apply bG 0 rfl hl;exact fin rfl
 ·apply dv rfl rfl iM;apply bQ (in1.mpr rfl);apply bF 0 rfl;apply bG 0 rfl hl;have hz:=hP.z;exact d5 ⟨y,ps++[x]⟩ (ae (λ x=>(pl,bO.list x)::r) (cb ..)) ⟨rfl,rfl,rfl,trivial⟩ ⟨hP.p.trans (ao ps [x] (bW y)).symm,aa (am (ae (y.nd+·) (bK ps x))) (s5 hz (Nat.lt_succ_of_le (aC ..))),hP.ok.2⟩ (Nat.lt_succ_of_le (aC ..))
 ·apply dv rfl rfl iM;apply bP (mt in1.mp (by decide));apply bF 0 rfl;apply bG 0 rfl hl;exact fin rfl
 ·apply dv rfl rfl iM;apply bP (mt in1.mp (by decide));apply bF 0 rfl;apply bG 0 rfl hl;exact fin rfl
theorem zW {t:Tm}(hz:t.sz<100000)(h:∀ l,At ((l,.list ((dd [] t.vars).map .int))::r) (Q (.loc l))):At r (bR J (n+2) 207 Q [t.av]):=by
 refine L.variables (n+1) _ r Q rfl (bJ λ ll=>?_);refine L.variables_of n _ _ _ rfl (bJ λ d=>bJ λ rl=>?_);apply Ii 2 rfl;intro td;refine mN (Nj t d rl td ((ll,.list [t.av])::r)) ⟨[t],[],[]⟩ rfl ⟨rfl,rfl,rfl,trivial⟩ ⟨λ ω=>.rfl,ae (dd []) (aq _),au _,au _⟩ λ⟨ts,kvs,l⟩ hP=>?_;rcases ts with _|⟨p,ts⟩
 ·exact hY 0 rfl rfl (At.rm [0,1,1] (At.eq (ae (λ x=>(rl,bO.list (x.map .int))::r) hP.v.symm) (h rl)))
 have ht:eH ((Nj t d rl td ((ll,.list [t.av])::r)).L ⟨p::ts,kvs,l⟩) 0=some (td,.list ((Tm.avs ts).reverse++[p.av])):=ae (λ x=>some (td,bO.list x)) (iz ..);apply hY 0 ht jy;apply pD 0 ht;have hz2:p.sz+Tm.szL ts+l.length≤t.sz:=hP.z;have hlz:l.length<100000:=ac (aa (aC ..) hz2) hz;have hv:=hP.v;rcases p with j|j|j|⟨f,as⟩
 ·apply lR 2 rfl
  by_cases q:j∈l
  ·apply bQ ((eD ..).mpr ((hP.k j).mpr q));exact d5 ⟨ts,kvs,l⟩ rfl ⟨rfl,rfl,rfl,trivial⟩ ⟨hP.k,(oe q).symm.trans hv,aa (aG (aC ..) _) hz2,hP.zk⟩ (bp (aV 0))
  ·apply bP λ h=>q ((hP.k j).mp ((eD ..).mp h));apply iK 2 rfl (cw hP.zk hlz);apply bF 1 rfl;apply bG 1 rfl (eX (cw (au _) hlz));exact d5 ⟨ts,cn kvs j (.bool true),l++[j]⟩ (ae (λ x=>(td,bO.list (Tm.avs ts).reverse)::(rl,bO.list x)::_) (cb ..)) ⟨rfl,rfl,rfl,trivial⟩
    ⟨λ i=>Dj.trans ((or_congr .rfl (hP.k i)).trans eh.symm),(kj q).symm.trans hv,ar1 hz2 (bK ..),aa (gj ..) (aa (aD hP.zk) (am (bK ..).symm))⟩ (bp (aV 0))
 ·exact d5 ⟨ts,kvs,l⟩ rfl ⟨rfl,rfl,rfl,trivial⟩ ⟨hP.k,hv,aa (aG (aC ..) _) hz2,hP.zk⟩ (bp (aV 0))
 ·exact d5 ⟨ts,kvs,l⟩ rfl ⟨rfl,rfl,rfl,trivial⟩ ⟨hP.k,hv,aa (aG (aC ..) _) hz2,hP.zk⟩ (bp (aV 0))
 ·apply bF 0 rfl;apply Ge 0 rfl
  ·refine cw ?_ hz;rw[xf,dk];exact aa (aR (fV ts) (fV as)) (aa (aa (am (bh ..)) (aG (aM _) _)) (aa (ah ..) hz2))
  ·exact d5 ⟨as++ts,kvs,l⟩ (ae (λ x=>(td,bO.list x)::(rl,bO.list (l.map .int))::(d,.dI kvs)::_) ((ae List.reverse (ez as ts)).trans List.reverse_append)) ⟨rfl,rfl,rfl,trivial⟩ ⟨hP.k,fy as ts▸hv,dO as ts▸aa (aG (aG (aM _) _) _) hz2,hP.zk⟩ (ac (am (dO as ts)) (Nat.add_lt_add_right (bq _) _))
end
mutual
theorem fc:∀ t:Tm,t.av.pl=true
 |.v _=>rfl
 |.a _=>rfl
 |.i _=>rfl
 |.s f as=>(Bool.and_true _).trans (vV as)
theorem vV:∀ l:List Tm,AV.pls (Tm.avs l)=true
 |[]=>rfl
 |t::r=>(ae (·&&_) (fc t)).trans (vV r)
end
theorem Kk {t:Tm}{k:Int}:t.av=.tup [.str lb,.int k]↔t=.a k:=by
 refine⟨λ h=>?_,λ h=>h▸rfl⟩;rcases t with j|j|j|⟨f,as⟩
 ·injection h with h;injection h with h;injection h with h;injection h with h;cases h
 ·injection h with h;injection h with _ h;injection h with h;exact ae Tm.a (pA.mp h)
 ·injection h with h;injection h with h;injection h with h;injection h with h;cases h
 ·injection h with h;injection h with h;injection h with h;injection h with h;cases h
noncomputable def Tm.isAt:Tm→Bool
 |.a _=>true
 |_=>false
theorem iY {t:Tm}{k:Int}(h:t.isAt=false):t.av≠.tup [.str lb,.int k]:=λ e=>Bool.noConfusion (h.symm.trans (ae Tm.isAt (Kk.mp e)))
theorem AH {j k:Int}(h:j≠k):(Tm.a j).av≠.tup [.str lb,.int k]:=λ e=>h (by injection Kk.mp e)
theorem nz {t:Tm}{k:Int}:min t.av.dep (AV.tup [.str lb,.int k]).dep≤50:=aa (Nat.min_le_right ..) (show 1≤50 by decide)
noncomputable abbrev dE:=Bd×AV
noncomputable def mC (r:dE):AV:=.tup [dX r.1,r.2]
noncomputable def bZ (t:Bd)(b:AV):List dE:=(ee t).map λ x=>(x,b)
noncomputable abbrev bC (k:Int):AV:=.tup [.str pe,.int k]
noncomputable abbrev dH (h:AV)(k:Int):AV:=.tup [.str gt,h,.int k]
noncomputable def gG (b h:AV)(place:Nat):Bd→List dE
 |.arr x y=>bZ x (dH h place)++[(.lf (.a 15),h)]++bZ y b
 |.lf t=>bZ (.lf t) b
 |.com x y=>bZ (.com x y) b
 |.sem x y=>bZ (.sem x y) b
 |.neg x=>bZ (.neg x) b
noncomputable def dZ (b h:AV):Nat→List Bd→List (List dE)
 |_,[]=>[]
 |i,t::r=>gG b h i t::dZ b h (i+1) r
noncomputable def er (x:Bd):Bd:=match cY x with|true=>x|false=>.lf (.s 24 [x.tm])
noncomputable def cf (b h:AV):Bd→List (List dE)
 |.neg x=>[bZ (er x) (dH h 0)++[(.lf (.a 15),h),(.lf (.a 17),h)],[]]
 |.lf t=>dZ b h 0 [.lf t]
 |.com x y=>dZ b h 0 [.com x y]
 |.sem x y=>dZ b h 0 (bW (.sem x y))
 |.arr x y=>dZ b h 0 [.arr x y]
theorem qi (t:Bd):(ee t).length≤t.nd:=by
 induction t with
 |lf t=>show (match za 16 t with|true=>[]|false=>[Bd.lf t]).length≤1;cases za 16 t;exact au 1;exact aI 1
 |com x y hx hy=>exact aa (am ay) (aB (aR hx hy))
 |sem x y=>exact aV _
 |arr x y=>exact aV _
 |neg x=>exact aV _
theorem Sb (x:Bd):(er x).ht≤x.ht:=by unfold er;cases cY x;exact aI _;exact au _
theorem Dk (x:Bd):(er x).nd≤x.nd:=by unfold er;cases cY x;exact rG x;exact au _
theorem L6 {x:Bd}(h:x.ok):(er x).ok:=by unfold er;cases cY x;exact⟨by decide,nofun,.inr (by decide)⟩;exact h
noncomputable def lO:List Addr→List (List AV)→List bT
 |a::l,v::r=>(a,.list v)::lO l r
 |_,_=>[]
theorem vd {a:Addr}{v:List AV}:∀ {l:List Addr} {r:List (List AV)},l.length=r.length→lO (l++[a]) (r++[v])=lO l r++[(a,.list v)]:=by
 intro l
 induction l with
 |nil=>intro r h;rcases r with _|_;rfl;cases h
 |cons x l ih=>intro r h;rcases r with _|⟨y,r⟩;cases h;exact ae ((x,bO.list y)::·) (ih (Nat.succ.inj h))
structure US (as ys:List Tm)(d:List Tm):Prop where
 p:d++ys=as
noncomputable def V0 (l:Addr)(r:List bT)(as:List Tm):For Tm (List Tm):=⟨Tm.av,λ ω=>[(1,.loc l)],λ d=>(l,.list ((Tm.varsL d).map .int))::r,US as⟩
theorem me (l:List Tm):Tm.avs l=l.map Tm.av:=by
 induction l with|nil=>rfl|cons t r ih=>exact ae (t.av::·) ih
theorem EL {t:Tm}{l:List Tm}(h:t∈l):t.ht≤Tm.htL l:=by
 induction l with
 |nil=>cases h
 |cons x r ih=>exact (ap h).elim (λ e=>e▸bc ..) λ h=>aa (ih h) (Nat.le_max_right ..)
theorem fv {α:Type}{x:α}{a b l:List α}(h:a++x::b=l):x∈l:=h▸aF _ (af ..)
theorem pN {l l':List Int}:(l++l').map AV.int=l.map .int++l'.map .int:=aN
section
variable {J:JT}(L:eZ J)
include L
theorem GZ:∀ (n:Nat) {t:Tm} {r:List bT} {Q:bI},t.ht<n→t.sz<100000→(∀ l,At ((l,.list (t.vars.map .int))::r) (Q (.loc l)))→At r (bR J n 531 Q [t.av]):=by
 intro n
 induction n with
 |zero=>exact λ h=>absurd h (Nat.not_lt_zero _)
 |succ n ih=>
  intro t r Q hn hz h;refine L.law_met n _ r Q rfl ?_;have leaf:t.vars=[]→∀ us:List AV,us=[]→∀ l,At ((l,.list [])::r) (um 2 (cA (je J n) [.augA 1 (.call 531 [.lv 2])]) (bB.set (args [t.av]) 1 (.loc l)) (kQ (cA (je J n) [.ret (.lv 1)]) (kL Q)) us):=λ e us hu l=>
   ly (⟨Tm.av,λ ω=>[(1,.loc l)],λ ω=>(l,.list [])::r,λ ys ω=>ys=[]⟩:For Tm Unit) [] () rfl ⟨rfl,trivial⟩ hu rfl (λ ω ω ω q=>nomatch q) λ ω ω=>At.eq (ae (λ x=>(l,bO.list (x.map .int))::r) e) (h l)
  rcases t with j|j|j|⟨f,as⟩
  ·exact bJ h
  ·exact bJ (leaf rfl _ rfl)
  ·exact bJ (leaf rfl _ rfl)
  ·apply bJ;intro l;refine ly (V0 l r as) as [] rfl ⟨rfl,trivial⟩ (me as) ⟨rfl⟩ (λ y ys d hP=>?_) λ d hP=>At.eq (ae (λ x=>(l,bO.list ((Tm.varsL x).map .int))::r) (hP.p.symm.trans (aq d))) (h l);have hy:=fv hP.p;have hs:Tm.szL d+(y.sz+Tm.szL ys)<100000:=ac (am ((dO d (y::ys)).symm.trans (ae Tm.szL hP.p))) (Nat.lt_of_succ_lt hz);refine ih (ac (EL hy) (a0 hn)) (ac (aa (ah ..) (aC ..)) hs) λ l'=>?_;apply xL 1 0 rfl rfl (by decide)
   ·rw[ak,ak];exact cw (aR (g3 d) (aa (eJ y) (ah ..))) hs
   ·refine At.drop1 (dp (d++[y]) (ae (λ x=>(l,bO.list x)::r) ?_) ⟨rfl,trivial⟩ ⟨(ao ..).trans hP.p⟩);rw[fy,aN];exact ae (λ x=>_++List.map AV.int x) (aq _)
theorem Jn:∀ (n:Nat) {t:Bd} {r:List bT} {Q:bI},t.ht<n→t.ok→At r (Q (.bool (cY t)))→At r (bR J n 538 Q [dX t]):=by
 intro n
 induction n with
 |zero=>exact λ h=>absurd h (Nat.not_lt_zero _)
 |succ n ih=>
  intro t r Q hn hw h;refine L.law_can_run n _ r Q rfl ?_;have two:∀ x y:Bd,max x.ht y.ht<n→x.ok→y.ok→(∀ c,(cY x&&cY y)=c→At r (Q (.bool c)))→∀ l,At ((l,.list [.int 1,.int 2,.int 3])::r) (cA (je J n) [.ret (.and [.call 538 [.sub (.sub (.lv 0) (.int 2)) (.int 0)],.call 538 [.sub (.sub (.lv 0) (.int 2)) (.int 1)]])] (args [.tup [.str jL,.int 0,.tup [dX x,dX y]]]) (kL Q)):=λ x y hm hx hy h l=>by
   refine ih (z8 hm) hx ?_;cases e:cY x with
   |false=>exact At.drop1 (h _ (ae (·&&cY y) e))
   |true=>exact ih (Bl hm) hy (At.drop1 (h _ (ae (·&&cY y) e)))
  rcases t with t'|⟨x,y⟩|⟨x,y⟩|⟨x,y⟩|x
  ·rcases t' with k|k|k|⟨f,as⟩
   ·exact h
   ·exact h
   ·exact h
   ·have hf:4<f:=hw.1;apply bJ;intro l;apply fF 0 rfl;apply dv rfl rfl iM;apply bP (mt Dn.mp (Zw hf));exact At.drop1 h
  ·apply bJ;intro l;apply fF 0 rfl;apply dv rfl rfl iM;apply bQ (Dn.mpr (.inl rfl));exact two x y (a0 hn) hw.1 hw.2 (λ c e=>e▸h) l
  ·apply bJ;intro l;apply fF 0 rfl;apply dv rfl rfl iM;apply bQ (Dn.mpr (.inr (.inl rfl)));exact two x y (a0 hn) hw.1 hw.2 (λ c e=>e▸h) l
  ·apply bJ;intro l;apply fF 0 rfl;apply dv rfl rfl iM;apply bQ (Dn.mpr (.inr (.inr rfl)));exact two x y (a0 hn) hw.1 hw.2 (λ c e=>e▸h) l
  ·apply bJ;intro l;apply fF 0 rfl;apply dv rfl rfl iM;apply bP (mt Dn.mp (by decide));exact At.drop1 h
theorem nH:∀ (n:Nat) {t:Bd} {b:AV} {r:List bT} {Q:bI},t.ht<n→t.nd<100000→t.ok→(∀ l,At ((l,.list ((bZ t b).map mC))::r) (Q (.loc l)))→At r (bR J n 545 Q [dX t,b]):=by
 intro n
 induction n with
 |zero=>exact λ h=>absurd h (Nat.not_lt_zero _)
 |succ n ih=>
  intro t b r Q hn hz hw h;refine L.law_rows n _ r Q rfl ?_;rcases t with t'|⟨x,y⟩|⟨x,y⟩|⟨x,y⟩|x
  ·rcases t' with k|k|k|⟨f,as⟩
   ·apply gH (fc (.v k)) rfl nz;apply bP (iY rfl);exact bJ h
   ·apply gH (fc (.a k)) rfl nz
    by_cases q:k=16
    ·apply bQ (ae (λ k=>(Tm.a k).av) q);exact bJ λ l=>At.eq (ae (λ x=>(l,bO.list (x.map mC))::r) (ae (List.map λ x=>(x,b)) (oM q))) (h l)
    ·apply bP (AH q);exact bJ λ l=>At.eq (ae (λ x=>(l,bO.list (x.map mC))::r) (ae (List.map λ x=>(x,b)) (mS q))) (h l)
   ·apply gH (fc (.i k)) rfl nz;apply bP (iY rfl);exact bJ h
   ·have hf:4<f:=hw.1;apply bP (gW hf (k:=1) (by decide));apply gH (fc (.s f as)) rfl nz;apply bP (iY rfl);exact bJ h
  ·apply bQ rfl;refine ih (z8 (a0 hn)) (ac (aB (ah ..)) hz) hw.1 λ l1=>?_;refine ih (Bl (a0 hn)) (ac (aB (aC ..)) hz) hw.2 λ l2=>?_;apply ny 1 0 rfl rfl
   ·rw[ak,ak,bZ,bZ,ak,ak];exact cw (aB (aR (qi x) (qi y))) hz
   ·intro l;refine At.rm [1,1] (At.eq (ae (λ x=>(l,bO.list x)::r) ?_) (h l));rw[show bZ (.com x y) b=bZ x b++bZ y b from aN,aN]
  ·apply bP (by decide);apply gH (fc (Bd.sem x y).tm) rfl nz;apply bP (iY rfl);exact bJ h
  ·apply bP (by decide);apply gH (fc (Bd.arr x y).tm) rfl nz;apply bP (iY rfl);exact bJ h
  ·apply bP (by decide);apply gH (fc (Bd.neg x).tm) rfl nz;apply bP (iY rfl);exact bJ h
end
theorem pW (t:Bd):o4 (bW t)≤t.nd:=by
 induction t with
 |sem x y hx hy=>exact aa (aP hy _) (aM _)
 |_=>exact au _
structure OX (N H:Nat)(t:Bd):Prop where
 nd:t.nd≤N
 ht:t.ht≤H
 ok:t.ok
theorem ve {N H:Nat}:∀ {t:Bd},OX N H t→∀ x∈bW t,OX N H x:=by
 intro t
 induction t with
 |sem x y hx hy=>
  intro h z hz;rcases ap hz with rfl|hz
  ·exact⟨aa (aB (ah ..)) h.nd,aa (aB (bc ..)) h.ht,h.ok.1⟩
  ·exact hy ⟨aa (aB (aC ..)) h.nd,aa (aB (Nat.le_max_right ..)) h.ht,h.ok.2⟩ z hz
 |_=>exact λ h z hz=>aj hz▸h
noncomputable abbrev uE (hr:AV):AV:=.tup [.tup [.str lb,.int 15],hr]
theorem wv (b h:AV)(x:Bd):∀ (l:List Bd) (i:Nat),dZ b h i (l++[x])=dZ b h i l++[gG b h (i+l.length) x]:=by
 intro l
 induction l with
 |nil=>exact λ ω=>rfl
 |cons y l ih=>exact λ i=>ae (_::·) ((ih (i+1)).trans (by rw[aQ,bh 1];rfl))
theorem lC (b h:AV)(l:List Bd):∀ i,(dZ b h i l).length=l.length:=by
 induction l with
 |nil=>exact λ ω=>rfl
 |cons y l ih=>exact λ i=>ae (·+1) (ih (i+1))
noncomputable def cI (l:List dE):List AV:=l.map mC
structure Hm where
 lis:List Addr
 vs:List (List AV)
structure HM (b hr:AV)(pre:List Bd)(x:Hm):Prop where
 v:x.vs=(dZ b hr 0 pre).map cI
 l:x.lis.length=x.vs.length
noncomputable def XR (t:Bd)(b hr:AV)(pl:Addr)(r:List bT):v5 Ym:=⟨λ x=>[(0,dX x.t),(1,b),(2,hr),(3,uE hr),(5,.loc pl)],λ x=>(pl,.list (x.ps.map dX))::r,SpP t,λ x=>x.t.nd⟩
noncomputable def Jh (t:Bd)(b hr:AV)(pl wl:Addr)(r:List bT):zL Bd Hm:=⟨λ ω=>[(1,b),(2,hr),(3,uE hr),(5,.loc pl),(6,.loc wl)],λ x=>(wl,.list (x.lis.map .loc))::(pl,.list ((bW t).map dX))::(r++lO x.lis x.vs),λ pre ω x=>HM b hr pre x⟩
theorem mI {α:Type}{f:α→AV}{a b l:List α}{x:α}(h:a++x::b=l):wj (l.map f) (a.length:Nat)=some (f x):=by
 subst h;show (List.map f (a++x::b))[a.length]? =_;rw[aZ,List.getElem?_append_right (au _),Nat.sub_self];rfl
theorem lW (t:Bd)(b:AV):((bZ t b).map mC).length≤t.nd:=by rw[ak,bZ,ak];exact qi t
theorem oT {a b c d:Nat}(h:a≤c)(h':b≤d)(hc:c<100000)(hd:d<100000):a+b<cX:=ac (aR h h') (aw (Nat.add_lt_add hc hd) (by decide))
theorem yA {b hr:AV}{pre:List Bd}{x:Hm}(y:Bd)(a:Addr)(h:HM b hr pre x):HM b hr (pre++[y]) ⟨x.lis++[a],x.vs++[cI (gG b hr pre.length y)]⟩:=
 ⟨by rw[wv,aN,h.v,aU];rfl,by rw[bK,bK,h.l]⟩
section
variable {J:JT}(L:eZ J){n:Nat}{r:List bT}{Q:bI}
include L
theorem DC {t:Bd}{b hr:AV}(hc:∀ f,t≠.lf f)(hn:t.ht<n)(hz:t.nd<50000)(hw:t.ok)
  (h:∀ l lis,lis.length=(cf b hr t).length→At ((l,.list (lis.map .loc))::(r++lO lis ((cf b hr t).map cI))) (Q (.loc l))):At r (bR J (n+1) 552 Q [dX t,b,hr]):=by
 refine L.law_split n _ r Q rfl ?_;have hz1:∀ x:Bd,x.nd≤t.nd→x.nd<100000:=λ x h=>ac h (aw hz (by decide));have gen:cf b hr t=dZ b hr 0 (bW t)→At r (cA (je J n) (gL.drop 2) (((args [dX t,b,hr]).set 3 (uE hr))) (kL Q)):=by
  intro hs;rw[hs,lC]at h;refine bJ λ pl=>?_;refine mN (XR t b hr pl r) ⟨t,[]⟩ rfl ⟨rfl,rfl,rfl,rfl,rfl,trivial⟩ ⟨rfl,au _,hw⟩ λ⟨p,ps⟩ hP=>?_;have hl:(ps.map dX).length<cX:=ui hP.z (aw hz (by decide));have sl:(bW t).length<100000:=ac (aa (mz _) (pW t)) (aw hz (by decide));have fin:bW p=[p]→At ((pl,.list (ps.map dX++[dX p]))::r) (cA (je J n) (gL.drop 5) (gK [(0,dX p),(1,b),(2,hr),(3,uE hr),(5,.loc pl)]) (kL Q)):=by
   intro e;refine At.eq (ae (λ x=>(pl,bO.list x)::r) ((ae (List.map dX) (hP.p.trans (ae (ps++·) e))).trans (cb ..))) ?_;refine bJ λ wl=>?_;apply fM 1 rfl (ak _);refine lI (Jh t b hr pl wl r) (bW t) ⟨[],[]⟩ (ae (λ x=>_::_::x) (aq r)) ⟨rfl,rfl,rfl,rfl,rfl,trivial⟩ rfl (cw (au _) sl) ⟨rfl,rfl⟩ (λ pre y post x he hP=>?_) λ x hP=>?_
   ·apply cZ 1 rfl (mI he);have hy:=ve ⟨au _,au _,hw⟩ y (fv he);have hll:(x.lis.map AV.loc).length<cX:=eX (cw (am (hP.l.trans (by rw[hP.v,ak,lC]))) (ac (aa (ah ..) (am (List.length_append.symm.trans (ae List.length he)))) sl));have step:∀ a v m,v=cI (gG b hr pre.length y)→mO m [(1,b),(2,hr),(3,uE hr),(5,.loc pl),(6,.loc wl)]→
      At ((a,.list v)::(wl,.list (x.lis.map .loc++[.loc a]))::(pl,.list ((bW t).map dX))::(r++lO x.lis x.vs)) (qh (Jh t b hr pl wl r) (bW t) (pre++[y]) post (kQ (cA (je J n) [.ret (.lv 6)]) (kL Q)) .next m):=λ a v m e hm=>by
     refine At.snoc ?_;refine n5 ⟨x.lis++[a],x.vs++[cI (gG b hr pre.length y)]⟩ (by rw[ao];exact he) ?_ hm (yA y a hP);show (wl,bO.list ((x.lis++[a]).map .loc))::_::(r++lO (x.lis++[a]) (x.vs++[cI (gG b hr pre.length y)]))=_;rw[cb,vd hP.l,←ao,e];rfl
    have one:gG b hr pre.length y=bZ y b→At ((wl,.list (x.lis.map .loc))::(pl,.list ((bW t).map dX))::(r++lO x.lis x.vs)) (cA (je J n) [.ex (.append (.lv 6) (.call 545 [.lv 8,.lv 1]))] (((gK [(1,b),(2,hr),(3,uE hr),(5,.loc pl),(6,.loc wl)]).set 7 (.int pre.length)).set 8 (dX y)) (kQ (cA (je J n) []) (qh (Jh t b hr pl wl r) (bW t) (pre++[y]) post (kQ (cA (je J n) [.ret (.lv 6)]) (kL Q))))):=λ e=>by
     apply bF 0 rfl;refine nH L n (ac hy.ht hn) (hz1 y hy.nd) hy.ok λ a=>?_;apply bG 1 rfl hll;exact step a _ _ (ae cI e.symm) ⟨rfl,rfl,rfl,rfl,rfl,trivial⟩
    rcases y with t'|⟨u,w⟩|⟨u,w⟩|⟨u,w⟩|u
    ·rcases t' with k|k|k|⟨f,as⟩
     ·exact one rfl
     ·exact one rfl
     ·exact one rfl
     ·exact bP (gW hy.ok.1 (by decide)) (one rfl)
    ·exact bP (by decide) (one rfl)
    ·exact bP (by decide) (one rfl)
    ·apply bQ rfl;have hu:u.nd+w.nd+1≤t.nd:=hy.nd;refine nH L n (ac (aa (aB (bc ..)) hy.ht) hn) (hz1 u (aa (aB (ah ..)) hu)) hy.ok.1 λ a1=>?_;apply bF 1 rfl;apply bJ;intro a2;apply ny 1 0 rfl rfl
     ·exact oT (lW u _) (au 1) (hz1 u (aa (aB (ah ..)) hu)) (by decide)
     intro a3;refine nH L n (ac (aa (aB (Nat.le_max_right ..)) hy.ht) hn) (hz1 w (aa (aB (aC ..)) hu)) hy.ok.2 λ a4=>?_;apply ny 1 0 rfl rfl
     ·rw[bK];exact oT (aD (lW u _)) (lW w _) (ac (aa (aD (ah ..)) hu) (aw hz (by decide))) (hz1 w (aa (aB (aC ..)) hu))
     intro a5;apply bG 5 rfl hll;refine At.rm [1,1,1,1] (step a5 _ _ ?_ ⟨rfl,rfl,rfl,rfl,rfl,trivial⟩);show _=(bZ u _++[_]++bZ w b).map mC;rw[aN,aN];rfl
    ·exact bP (by decide) (one rfl)
   ·refine At.rm [1] (At.eq (ae (λ y=>(wl,bO.list (x.lis.map .loc))::(r++lO x.lis y)) (hs▸hP.v.symm)) (h wl x.lis (hP.l.trans (by rw[hP.v,ak,lC]))))
  rcases p with t'|⟨x,y⟩|⟨x,y⟩|⟨x,y⟩|x
  ·rcases t' with k|k|k|⟨f,as⟩
   ·apply bF 0 rfl;apply bG 0 rfl hl;exact fin rfl
   ·apply bF 0 rfl;apply bG 0 rfl hl;exact fin rfl
   ·apply bF 0 rfl;apply bG 0 rfl hl;exact fin rfl
   ·apply bP (gW hP.ok.1 (by decide));apply bF 0 rfl;apply bG 0 rfl hl;exact fin rfl
  ·apply bP (by decide);apply bF 0 rfl;apply bG 0 rfl hl;exact fin rfl
  ·apply bQ rfl;apply bF 0 rfl;apply bG 0 rfl hl;exact d5 ⟨y,ps++[x]⟩ (ae (λ x=>(pl,bO.list x)::r) (cb ..)) ⟨rfl,rfl,rfl,rfl,rfl,trivial⟩ ⟨hP.p.trans (ao ps [x] (bW y)).symm,aa (am (ae (y.nd+·) (bK ps x))) (s5 hP.z (Nat.lt_succ_of_le (aC ..))),hP.ok.2⟩ (Nat.lt_succ_of_le (aC ..))
  ·apply bP (by decide);apply bF 0 rfl;apply bG 0 rfl hl;exact fin rfl
  ·apply bP (by decide);apply bF 0 rfl;apply bG 0 rfl hl;exact fin rfl
 rcases t with t'|⟨x,y⟩|⟨x,y⟩|⟨x,y⟩|x
 ·exact absurd rfl (hc t')
 ·exact bP (by decide) (gen rfl)
 ·exact bP (by decide) (gen rfl)
 ·exact bP (by decide) (gen rfl)
 ·apply bQ rfl;refine Jn L n (Nat.lt_of_succ_lt hn) hw ?_;have go:∀ l1,At ((l1,.list ((bZ (er x) (dH hr 0)).map mC))::r) (lL (cW (je J n) (.lst [.lv 3,.tup [.tup [.str lb,.gi 17],.lv 2]])).1 ((args [dX (.neg x),b,hr]).set 3 (uE hr)) (Eh (Wq (yX (je J n) [.lst []]) ((args [dX (.neg x),b,hr]).set 3 (uE hr)) (DR Q))) (.loc l1)):=λ l1=>by
   apply bJ;intro l2;apply ny 1 0 rfl rfl
   ·exact oT (aa (lW _ _) (Dk x)) (au 2) (Nat.lt_of_succ_lt (aw hz (by decide))) (by decide)
   intro l3;apply bJ;intro l4;apply bJ;intro l5;refine At.rm [3,3] (At.pk [0,1,0] (At.perm (l':=_::(r++[_,_])) (.cons _ List.perm_append_comm) (At.eq ?_ (h l5 [l3,l4] rfl))));show _::(r++[(l3,bO.list ((bZ (er x) (dH hr 0)++[_,_]).map mC)),_])=_;rw[aN];rfl
  cases e:cY x with
  |true=>
   have e':er x=x:=by unfold er;rw[e]
   exact nH L n (Nat.lt_of_succ_lt hn) (hz1 x (aM _)) hw λ l1=>e'▸go l1
  |false=>
   have e':er x=.lf (.s 24 [x.tm]):=by unfold er;rw[e]
   exact nH L n (t:=.lf (.s 24 [x.tm])) (ac (aI _) hn) (show 1<100000 by decide) ⟨by decide,nofun,.inr (by decide)⟩ λ l1=>e'▸go l1
end
noncomputable abbrev Nm:=List (Int×AV)
structure NL where
 nm:Nm
 ln:List AV
noncomputable def NL.say (s:NL)(v:AV):NL:=⟨s.nm,s.ln++[v]⟩
noncomputable def NL.new (s:NL)(n:Int):NL:=⟨cn s.nm n (.int s.ln.length),s.ln⟩
noncomputable def NL.var (s:NL)(n:Int):NL:=match bM s.nm n with
 |some v=>s.say v
 |none=>(s.new n).say (.int s.ln.length)
mutual
noncomputable def spell:Tm→NL→NL
 |.v n,s=>s.var n
 |.s f as,s=>spellL as (s.say (.tup [.int f,.int as.length]))
 |.a n,s=>s.say (.tup [.str lb,.int n])
 |.i n,s=>s.say (.tup [.str KB,.int n])
noncomputable def spellL:List Tm→NL→NL
 |[],s=>s
 |t::r,s=>spellL r (spell t s)
end
theorem cO {s:NL}{n:Int}{v:AV}(h:bM s.nm n=some v):s.var n=s.say v:=by unfold NL.var;rw[h]
theorem cU {s:NL}{n:Int}(h:bM s.nm n=none):s.var n=(s.new n).say (.int s.ln.length):=by unfold NL.var;rw[h]
theorem iC (s:NL)(v:AV):(s.say v).ln.length=s.ln.length+1:=bK ..
theorem oS (s:NL)(n:Int):(s.var n).ln.length=s.ln.length+1:=by
 cases h:bM s.nm n with
 |some v=>rw[cO h,iC]
 |none=>rw[cU h,iC];rfl
theorem rR (s:NL)(n:Int):(s.var n).nm.length≤s.nm.length+1:=by
 cases h:bM s.nm n with
 |some v=>rw[cO h];exact aM _
 |none=>rw[cU h];exact gj ..
mutual
theorem i7:∀ (t:Tm) (s:NL),(spell t s).ln.length=s.ln.length+t.sz
 |.v n,s=>oS s n
 |.a n,s=>iC s _
 |.i n,s=>iC s _
 |.s f as,s=>(dy as _).trans ((ae (·+Tm.szL as) (iC s _)).trans ((aQ ..).trans (ae (s.ln.length+·) (bh ..))))
theorem dy:∀ (l:List Tm) (s:NL),(spellL l s).ln.length=s.ln.length+Tm.szL l
 |[],s=>rfl
 |t::r,s=>(dy r _).trans ((ae (·+Tm.szL r) (i7 t s)).trans (aQ ..))
end
mutual
theorem lS:∀ (t:Tm) (s:NL),(spell t s).nm.length≤s.nm.length+t.sz
 |.v n,s=>rR s n
 |.a n,s=>ah ..
 |.i n,s=>ah ..
 |.s f as,s=>aa (qQ as _) (aP (aM _) _)
theorem qQ:∀ (l:List Tm) (s:NL),(spellL l s).nm.length≤s.nm.length+Tm.szL l
 |[],s=>au _
 |t::r,s=>aa (qQ r _) (aa (aG (lS t s) _) (am (aQ ..)))
end
theorem wz (a b:List Tm):∀ s,spellL (a++b) s=spellL b (spellL a s):=by
 induction a with
 |nil=>exact λ ω=>rfl
 |cons t r ih=>exact λ s=>ih (spell t s)
noncomputable def qj (na la:Addr)(s:NL)(r:List bT):List bT:=(na,.dI s.nm)::(la,.list s.ln)::r
structure SpOK (s:NL)(z:Nat):Prop where
 nm:s.nm.length+z<200000
 ln:s.ln.length+z<100000
theorem SpOK.next {s s':NL}{y z:Nat}(h:SpOK s (y+z))(hl:s'.ln.length=s.ln.length+y)(hn:s'.nm.length≤s.nm.length+y):SpOK s' z:=
 ⟨ac (aa (aG hn z) (am (aQ ..))) h.nm,by rw[hl,aQ];exact h.ln⟩
theorem SpOK.le {s:NL}{y z:Nat}(h:SpOK s z)(hy:y≤z):SpOK s y:=⟨ac (aP hy _) h.nm,ac (aP hy _) h.ln⟩
theorem SpOK.lml {s:NL}{z:Nat}(h:SpOK s z):s.ln.length<cX:=cw (ah ..) h.ln
theorem SpOK.lmn {s:NL}{z:Nat}(h:SpOK s z):s.nm.length<cX:=ac (ah ..) (aw h.nm (by decide))
structure Zu (k:Nat)(as ys:List Tm)(s0 s:NL):Prop where
 e:spellL ys s=spellL as s0
 ok:SpOK s (Tm.szL ys)
 h:Tm.htL ys<k
section
variable {J:JT}(L:eZ J)
include L
theorem eV:∀ (n:Nat) {t:Tm} {s:NL} {na la:Addr} {r:List bT} {Q:bI},t.ht<n→SpOK s t.sz→At (qj na la (spell t s) r) (Q .none)→At (qj na la s r) (bR J n 524 Q [t.av,.loc na,.loc la]):=by
 intro n
 induction n with
 |zero=>exact λ h=>absurd h (Nat.not_lt_zero _)
 |succ n ih=>
  intro t s na la r Q hn hz h;refine L.law_spell n _ _ Q rfl ?_;rcases t with j|j|j|⟨f,as⟩
  ·apply lR 0 rfl;cases e:bM s.nm j with
   |some v=>
    apply bQ rfl;apply bF 1 rfl;apply iR 0 rfl e;apply bG 1 rfl hz.lml;exact At.eq (ae (qj na la · r) (cO e)) h
   |none=>
    apply bP nofun
    apply fM 1 rfl rfl;apply iK 0 rfl hz.lmn;apply bF 1 rfl;apply iR 0 rfl ((cB ..).trans (aL rfl));apply bG 1 rfl hz.lml;exact At.eq (ae (qj na la · r) (cU e)) h
  ·apply bF 1 rfl;apply bG 1 rfl hz.lml;exact h
  ·apply bF 1 rfl;apply bG 1 rfl hz.lml;exact h
  ·apply bF 1 rfl;apply bG 1 rfl hz.lml;rw[dk];refine ly (⟨Tm.av,λ ω=>[(1,.loc na),(2,.loc la)],λ s=>qj na la s r,λ ys x=>Zu n as ys (s.say (.tup [.int f,.int as.length])) x⟩:For Tm NL) as (s.say (.tup [.int f,.int as.length])) rfl ⟨rfl,rfl,trivial⟩ (me as)
    ⟨rfl,SpOK.next (y:=1) (bh (Tm.szL as) 1▸hz) (iC ..) (aM _),a0 hn⟩ (λ y ys x hP=>?_) λ x hP=>At.eq (ae (qj na la · r) hP.e.symm) h
   exact ih (z8 hP.h) (hP.ok.le (ah ..)) (dp (spell y x) rfl ⟨rfl,rfl,trivial⟩ ⟨hP.e,hP.ok.next (i7 ..) (lS ..),Bl hP.h⟩)
end
end
end Mine
namespace Mine
open PySem
noncomputable section
open Classical
structure TS where
 nl:NL
 ct:Nat
noncomputable def kO (b:AV):AV:=.tup [.str iV,b]
noncomputable def gS (n:Nat):AV:=.tup [.str mh,.int n]
noncomputable def ss (n:Nat):AV:=.tup [.str pB,.int n]
noncomputable def pE (b:AV):AV:=.tup [.str rZ,b]
noncomputable def jO (tT f:Int):AV:=.tup [if f=tT then .str dY else .str cG,.int f]
noncomputable def uq (near vars:List Int):List Int:=dd [] (vars.filter λ k=>decide (k∈near))
noncomputable def cK (l:List Int):List Tm:=l.map .v
noncomputable def qt (nm:Nm)(kept:List Int):Nm:=mB (λ k=>(bM nm k).getD .none) kept []
noncomputable def sk (s:Sy)(n:Int):Int:=(cy s.fs (n,0):Nat)
section
variable (sy:Sy)(tT:Int)
noncomputable def iF (tell:List dE→TS→TS)(nm0:Nm):Nat→List (List dE)→List AV×Nat→List AV×Nat
 |_,[],p=>p
 |i,w::r,p=>iF tell nm0 (i+1) r ((tell w ⟨⟨nm0,p.1++[ss i]⟩,p.2⟩).nl.ln,(tell w ⟨⟨nm0,p.1++[ss i]⟩,p.2⟩).ct)
noncomputable def eT (g:Bd)(b:AV)(near:List Int)(s:TS):NL:=spellL (cK (uq near g.tm.vars)) (s.nl.say (gS (cf b (bC (s.ct+1:Nat)) g).length))
noncomputable def ki (tell:List dE→TS→TS)(g:Bd)(b:AV)(near:List Int)(s:TS):List AV×Nat:=
 iF tell (qt (eT g b near s).nm (uq near g.tm.vars)) 0 (cf b (bC (s.ct+1:Nat)) g) ((eT g b near s).ln,s.ct+1)
noncomputable def d6 (tell:List dE→TS→TS)(g:Bd)(b:AV)(near:List Int)(s:TS):TS:=
 ⟨⟨(eT g b near s).nm,(ki tell g b near s).1++[pE (if kO b∈(ki tell g b near s).1.drop (eT g b near s).ln.length then b else .none)]⟩,(ki tell g b near s).2⟩
noncomputable def Zd (b:AV)(n:Int):AV:=if n=15 then kO b else if n=17∨n=18 then .str eO else .tup [.str cG,.int (sk sy n)]
noncomputable def Kv (b:AV)(s:NL):Tm→NL
 |.a n=>s.say (Zd sy b n)
 |.v n=>(s.say (jO tT 24)).var n
 |.i _=>s
 |.s f as=>spellL as (s.say (if f=10 then .str dr else jO tT f))
noncomputable def nP (tell:List dE→TS→TS)(near:List Int)(b:AV)(s:TS):Bd→TS
 |.lf t=>⟨Kv sy tT b s.nl t,s.ct⟩
 |.com _ _=>s
 |.sem x y=>d6 tell (.sem x y) b near s
 |.arr x y=>d6 tell (.arr x y) b near s
 |.neg x=>d6 tell (.neg x) b near s
noncomputable def ic (outer:List Int)(rows:List dE):List Int:=outer++rows.flatMap (·.1.tm.vars)
noncomputable def xq (tell:List dE→TS→TS)(outer:List Int):List dE→List dE→TS→TS
 |_,[],s=>s
 |pre,r::post,s=>xq tell outer (pre++[r]) post (nP sy tT tell (ic outer (pre++post)) r.2 s r.1)
noncomputable def eK:Nat→List dE→TS→TS
 |0,_,s=>s
 |k+1,rows,s=>xq sy tT (eK k) (s.nl.nm.map (·.1)) [] rows s
noncomputable def Bd.wt:Bd→Nat
 |.lf t=>t.sz+2
 |.com x y=>x.wt+y.wt
 |.sem x y=>x.wt+y.wt+(Bd.sem x y).tm.vars.length+8
 |.arr x y=>x.wt+y.wt+(Bd.arr x y).tm.vars.length+8
 |.neg x=>x.wt+(Bd.neg x).tm.vars.length+x.tm.sz+14
noncomputable def kC:List dE→Nat
 |[]=>0
 |r::l=>r.1.wt+kC l
noncomputable def vy:List (List dE)→Nat
 |[]=>0
 |w::l=>kC w+1+vy l
structure SpN (s:NL)(z:Nat):Prop where
 nm:s.nm.length≤s.ln.length
 ln:s.ln.length+z<100000
theorem SpN.next {s s':NL}{y z:Nat}(h:SpN s (y+z))(hl:s'.ln.length=s.ln.length+y)(hn:s'.nm.length≤s.nm.length+y):SpN s' z:=
 ⟨aa hn (aa (aG h.nm _) (am hl.symm)),by rw[hl,aQ];exact h.ln⟩
theorem SpN.ok {s:NL}{z:Nat}(h:SpN s z):SpOK s z:=⟨aw (ac (aG h.nm z) h.ln) (by decide),h.ln⟩
structure TK (s:NL)(z:Nat):Prop extends SpN s z where
 pl:AV.pls s.ln=true
 pn:∀ p∈s.nm,p.2.pl=true
end
theorem TK.toSpOK {s:NL}{z:Nat}(h:TK s z):SpOK s z:=h.toSpN.ok
theorem TK.lml {s:NL}{z:Nat}(h:TK s z):s.ln.length<cX:=h.toSpOK.lml
theorem TK.lmn {s:NL}{z:Nat}(h:TK s z):s.nm.length<cX:=h.toSpOK.lmn
theorem kG {l:List AV}:AV.pls l=true↔∀ x∈l,x.pl=true:=by
 induction l with
 |nil=>exact⟨λ ω ω h=>(nomatch h),λ ω=>rfl⟩
 |cons x r ih=>exact (show (x.pl&&AV.pls r)=true↔_ from Bool.and_eq_true_iff.trans ((and_congr .rfl ih).trans (List.forall_mem_cons (p:=λ x:AV=>x.pl=true)).symm))
theorem pv {l:List AV}{x:AV}(h:AV.pls l=true)(hx:x.pl=true):AV.pls (l++[x])=true:=
 kG.mpr λ y hy=>(eh.mp hy).elim (λ e=>e▸hx) (kG.mp h y)
theorem uO {κ:Type}[DecidableEq κ]{d:List (κ×AV)}{k:κ}{v:AV}(h:bM d k=some v):(k,v)∈d:=by
 induction d with
 |nil=>cases h
 |cons p r ih=>
  by_cases q:p.1=k
  ·rw[fT (v:=p.2) q]at h;cases h;exact q▸af ..
  ·rw[fX (v:=p.2) q]at h;exact ag _ (ih h)
theorem u3 {κ:Type}[DecidableEq κ]{d:List (κ×AV)}{k:κ}{v:AV}{P:AV→Prop}(h:∀ p∈d,P p.2)(hv:P v):∀ p∈cn d k v,P p.2:=by
 induction d with
 |nil=>exact λ p hp=>aj hp▸hv
 |cons q r ih=>
  have h':=List.forall_mem_cons.mp h;show ∀ p∈(if q.1=k then (q.1,v)::r else q::cn r k v),P p.2
  by_cases e:q.1=k
  ·rw[aL e];exact List.forall_mem_cons.mpr ⟨hv,h'.2⟩
  ·rw[aK e];exact List.forall_mem_cons.mpr ⟨h'.1,ih h'.2⟩
theorem TK.less {s:NL}{y z:Nat}(h:TK s z)(hz:y≤z):TK s y:=⟨⟨h.nm,ac (aP hz _) h.ln⟩,h.pl,h.pn⟩
theorem TK.say {s:NL}{v:AV}{z:Nat}(h:TK s (1+z))(hv:v.pl=true):TK (s.say v) z:=
 ⟨h.toSpN.next (iC ..) (aM _),pv h.pl hv,h.pn⟩
theorem TK.var {s:NL}{n:Int}{z:Nat}(h:TK s (1+z)):TK (s.var n) z:=by
 refine⟨h.toSpN.next (oS s n) (rR s n),?_,?_⟩
 ·cases e:bM s.nm n with
  |some v=>rw[cO e];exact pv h.pl (h.pn _ (uO e))
  |none=>rw[cU e];exact pv h.pl rfl
 ·cases e:bM s.nm n with
  |some v=>rw[cO e];exact h.pn
  |none=>rw[cU e];exact u3 (P:=λ v=>v.pl=true) h.pn rfl
theorem ar2 (a z:Nat):1+(a+z)=a+1+z:=(Nat.add_left_comm 1 a z).trans (aQ a 1 z).symm
mutual
theorem TK.spell:∀ (t:Tm) {s:NL} {z:Nat},TK s (t.sz+z)→TK (spell t s) z
 |.v n,s,z,h=>h.var
 |.a n,s,z,h=>h.say rfl
 |.i n,s,z,h=>h.say rfl
 |.s f as,s,z,h=>TK.spellL as (TK.say (h.less (am (ar2 ..))) rfl)
theorem TK.spellL:∀ (l:List Tm) {s:NL} {z:Nat},TK s (Tm.szL l+z)→TK (spellL l s) z
 |[],s,z,h=>h.less (aC ..)
 |t::r,s,z,h=>TK.spellL r (TK.spell t (h.less (am (aQ ..).symm)))
end
def Bd.aok (sy:Sy):Bd→Prop
 |.lf t=>(match t with|.a n=>(n,0)∈sy.fs|_=>True)
 |.com x y=>x.aok sy∧y.aok sy
 |.sem x y=>x.aok sy∧y.aok sy
 |.arr x y=>x.aok sy∧y.aok sy
 |.neg x=>x.aok sy
structure BOK (sy:Sy)(k:Nat)(b:Bd):Prop where
 ok:b.ok
 at_:b.aok sy
 run:cY b=true
 nd:b.nd≤900
 th:b.tm.ht≤15
 tz:b.tm.sz≤900
 ht:b.ht<k
structure e6 (b:AV):Prop where
 pl:b.pl=true
 dep:b.dep≤2
noncomputable def Bd.isCom:Bd→Bool
 |.com _ _=>true
 |_=>false
structure q7 (sy:Sy)(k:Nat)(r:dE):Prop extends BOK sy k r.1 where
 bar:e6 r.2
 nc:r.1.isCom=false
abbrev tE (sy:Sy)(k:Nat)(rows:List dE):Prop:=∀ r∈rows,q7 sy k r
section
variable {sy:Sy}{k:Nat}{x y:Bd}
theorem nu {a b n:Nat}(h:a+(b+0)+1≤n):a≤n∧b≤n:=⟨aa (aB (ah ..)) h,aa (aB (aC ..)) h⟩
theorem sK {a b n:Nat}(h:max a (max b 0)+1≤n):a≤n∧b≤n:=⟨aa (aB (bc ..)) h,aa (aB (aa (bc ..) (Nat.le_max_right ..))) h⟩
theorem AO {a b k:Nat}(h:max a b+1<k+1):a<k∧b<k:=⟨z8 (a0 h),Bl (a0 h)⟩
theorem wX {a b n:Nat}(h:a+b+1≤n):a≤n∧b≤n:=⟨aa (aB (ah ..)) h,aa (aB (aC ..)) h⟩
theorem BOK.two (P:BOK sy (k+1) (.com x y)):BOK sy k x∧BOK sy k y:=
 have r:=Bool.and_eq_true_iff.mp P.run
 ⟨⟨P.ok.1,P.at_.1,r.1,(wX P.nd).1,(sK P.th).1,(nu P.tz).1,(AO P.ht).1⟩,⟨P.ok.2,P.at_.2,r.2,(wX P.nd).2,(sK P.th).2,(nu P.tz).2,(AO P.ht).2⟩⟩
theorem BOK.mono {b:Bd}{j:Nat}(h:BOK sy k b)(hj:k≤j):BOK sy j b:=⟨h.ok,h.at_,h.run,h.nd,h.th,h.tz,aO h.ht hj⟩
theorem BOK.pos {b:Bd}(h:BOK sy k b):∃ j,k=j+1:=⟨k - 1,(Nat.succ_pred_eq_of_pos (ac (aI _) h.ht)).symm⟩
theorem BOK.sem (P:BOK sy (k+1) (.sem x y)):BOK sy k x∧BOK sy k y:=BOK.two ⟨P.ok,P.at_,P.run,P.nd,P.th,P.tz,P.ht⟩
theorem BOK.arr (P:BOK sy (k+1) (.arr x y)):BOK sy k x∧BOK sy k y:=BOK.two ⟨P.ok,P.at_,P.run,P.nd,P.th,P.tz,P.ht⟩
theorem BOK.neg (P:BOK sy (k+1) (.neg x)):BOK sy k (er x):=by
 cases e:cY x with
 |true=>
  have e':er x=x:=by unfold er;rw[e]
  rw[e'];exact⟨P.ok,P.at_,e,Nat.le_of_succ_le P.nd,aa (aB (bc _ 0)) P.th,Nat.le_of_succ_le P.tz,a0 P.ht⟩
 |false=>
  have e':er x=.lf (.s 24 [x.tm]):=by unfold er;rw[e]
  rw[e'];exact⟨⟨by decide,nofun,.inr (by decide)⟩,trivial,rfl,show 1≤900 by decide,P.th,P.tz,ac (aI _) (a0 P.ht)⟩
theorem xb:∀ {b:Bd} {k:Nat},BOK sy k b→∀ z∈ee b,BOK sy k z∧z.isCom=false:=by
 intro b
 induction b with
 |lf t=>
  intro k h z hz;have:z∈(match za 16 t with|true=>[]|false=>[Bd.lf t]):=hz;cases e:za 16 t with
  |true=>rw[e]at this;cases this
  |false=>rw[e]at this;exact aj this▸⟨h,rfl⟩
 |com x y hx hy=>
  intro k h z hz;obtain⟨j,rfl⟩:=h.pos;exact (aT hz).elim (λ q=>((hx h.two.1 z q).imp_left λ w=>w.mono (aM _))) (λ q=>((hy h.two.2 z q).imp_left λ w=>w.mono (aM _)))
 |sem x y=>exact λ h z hz=>aj hz▸⟨h,rfl⟩
 |arr x y=>exact λ h z hz=>aj hz▸⟨h,rfl⟩
 |neg x=>exact λ h z hz=>aj hz▸⟨h,rfl⟩
theorem eW {b:Bd}{v:AV}(h:BOK sy k b)(hv:e6 v):tE sy k (bZ b v):=λ r hr=>
 have⟨z,hz,e⟩:=be hr
 e▸⟨(xb h z hz).1,hv,(xb h z hz).2⟩
theorem lY {l l':List dE}(h:tE sy k l)(h':tE sy k l'):tE sy k (l++l'):=λ r hr=>(aT hr).elim (h r) (h' r)
theorem fW (n:Int):e6 (bC n):=⟨rfl,show 1≤2 by decide⟩
theorem oX (n i:Int):e6 (dH (bC n) i):=⟨rfl,show 2≤2 by decide⟩
def jo (sy:Sy):Prop:=∀ n∈[(15:Int),17],(n,(0:Int))∈sy.fs
theorem sw {v:AV}{n:Int}(h0:jo sy)(hn:n∈[(15:Int),17])(hv:e6 v):q7 sy (k+1) (.lf (.a n),v):=⟨⟨trivial,h0 n hn,rfl,show 1≤900 by decide,show 0≤15 by decide,show 1≤900 by decide,aV _⟩,hv,rfl⟩
theorem HT {b:Bd}{v:AV}{n:Int}{i:Nat}(h0:jo sy)(h:BOK sy (k+1) b)(hv:e6 v):tE sy (k+1) (gG v (bC n) i b):=by
 rcases b with t|⟨x,y⟩|⟨x,y⟩|⟨x,y⟩|x
 ·exact eW h hv
 ·exact eW h hv
 ·exact eW h hv
 ·exact lY (lY (eW (h.arr.1.mono (aM _)) (oX ..)) λ r hr=>aj hr▸sw h0 (af ..) (fW n)) (eW (h.arr.2.mono (aM _)) hv)
 ·exact eW h hv
theorem EG {v:AV}{n:Int}(h0:jo sy)(hv:e6 v):∀ {l:List Bd} {i:Nat},(∀ b∈l,BOK sy (k+1) b)→∀ w∈dZ v (bC n) i l,tE sy (k+1) w:=by
 intro l
 induction l with
 |nil=>exact λ ω ω h=>nomatch h
 |cons b l ih=>exact λ h w hw=>(ap hw).elim (λ e=>e▸HT h0 (h b (af ..)) hv) (ih (λ c hc=>h c (ag _ hc)) w)
theorem zV:∀ {b:Bd} {k:Nat},BOK sy k b→∀ z∈bW b,BOK sy k z:=by
 intro b
 induction b with
 |sem x y hx hy=>
  intro k h z hz;obtain⟨j,rfl⟩:=h.pos;exact (ap hz).elim (λ e=>e▸h.sem.1.mono (aM _)) λ q=>(hy h.sem.2 z q).mono (aM _)
 |_=>exact λ h z hz=>aj hz▸h
noncomputable def Bd.isCh:Bd→Bool
 |.lf _=>false
 |.com _ _=>false
 |_=>true
theorem Er {v:AV}{n:Int}{i:Nat}(h0:jo sy)(h:BOK sy (k+2) (.arr x y))(hv:e6 v):tE sy (k+1) (gG v (bC n) i (.arr x y)):=
 lY (lY (eW h.arr.1 (oX ..)) λ r hr=>aj hr▸sw h0 (af ..) (fW n)) (eW h.arr.2 hv)
theorem BOK.posc {g:Bd}(h:BOK sy (k+1) g)(hg:g.isCh=true):∃ j,k=j+1:=by
 rcases g with t|⟨x,y⟩|⟨x,y⟩|⟨x,y⟩|x
 ·cases hg
 ·cases hg
 ·exact⟨k - 1,(Nat.succ_pred_eq_of_pos (ac (aI _) (a0 h.ht))).symm⟩
 ·exact⟨k - 1,(Nat.succ_pred_eq_of_pos (ac (aI _) (a0 h.ht))).symm⟩
 ·exact⟨k - 1,(Nat.succ_pred_eq_of_pos (ac (aI _) (a0 h.ht))).symm⟩
theorem mq {g:Bd}{v:AV}{n:Int}(h0:jo sy)(h:BOK sy (k+1) g)(hg:g.isCh=true)(hv:e6 v):∀ w∈cf v (bC n) g,tE sy k w:=by
 obtain⟨j,rfl⟩:=h.posc hg;rcases g with t|⟨x,y⟩|⟨x,y⟩|⟨x,y⟩|x
 ·cases hg
 ·cases hg
 ·exact EG h0 hv (List.forall_mem_cons.mpr ⟨h.sem.1,zV h.sem.2⟩)
 ·exact λ w hw=>aj hw▸Er h0 h hv
 ·refine List.forall_mem_cons.mpr ⟨lY (eW h.neg (oX ..)) (List.forall_mem_cons.mpr ⟨sw h0 (af ..) (fW n),List.forall_mem_cons.mpr ⟨sw h0 (ag _ (af ..)) (fW n),λ ω h=>nomatch h⟩⟩),λ w hw=>?_⟩;rw[aj hw];exact λ ω h=>nomatch h
end
theorem kH (a b:List dE):kC (a++b)=kC a+kC b:=by
 induction a with
 |nil=>exact (aU _).symm
 |cons r a ih=>exact (ae (r.1.wt+·) ih).trans (aQ ..).symm
theorem iq (v:AV)(b:Bd):kC (bZ b v)≤b.wt:=by
 induction b with
 |lf t=>
  show kC ((match za 16 t with|true=>[]|false=>[Bd.lf t]).map λ x=>(x,v))≤t.sz+2;cases za 16 t
  ·exact au _
  ·exact aI _
 |com x y hx hy=>exact aa (am ((ae kC (aN ..)).trans (kH ..))) (aR hx hy)
 |sem x y=>exact au _
 |arr x y=>exact au _
 |neg x=>exact au _
theorem Jo {a b a' b' v:Nat}(h:a≤a')(h':b≤b'):a+3+b+5+v≤a'+b'+v+8:=by lia
theorem wZ (v h:AV)(i:Nat)(x y:Bd):kC (gG v h i (.arr x y))+5+(Bd.arr x y).tm.vars.length≤(Bd.arr x y).wt:=by
 show kC (bZ x _++[_]++bZ y v)+5+_≤_;rw[kH,kH];exact Jo (iq ..) (iq ..)
theorem nk (v h:AV)(i:Nat)(b:Bd):kC (gG v h i b)≤b.wt:=by
 rcases b with t|⟨x,y⟩|⟨x,y⟩|⟨x,y⟩|x
 ·exact iq ..
 ·exact iq ..
 ·exact iq ..
 ·exact aa (aa (ah _ 5) (ah ..)) (wZ v h i x y)
 ·exact iq ..
theorem Jv {a b a' b' c:Nat}(h:a≤a')(h':b≤b'+1):a+1+b≤a'+b'+c+2:=by lia
theorem Di (v h:AV):∀ (b:Bd) (i:Nat),vy (dZ v h i (bW b))≤b.wt+1:=by
 intro b
 induction b with
 |sem x y hx hy=>exact λ i=>aa (Jv (c:=0) (nk v h i x) (hy (i+1))) (by show x.wt+y.wt+0+2≤x.wt+y.wt+_+8+1;lia)
 |lf t=>exact λ i=>aD (nk v h i (.lf t))
 |com x y=>exact λ i=>aD (nk v h i (.com x y))
 |arr x y=>exact λ i=>aD (nk v h i (.arr x y))
 |neg x=>exact λ i=>aD (nk v h i (.neg x))
theorem tY {v:AV}{n:Int}{g:Bd}(hg:g.isCh=true):1+(g.tm.vars.length+(vy (cf v (bC n) g)+1))≤g.wt:=by
 rcases g with t|⟨x,y⟩|⟨x,y⟩|⟨x,y⟩|x
 ·cases hg
 ·cases hg
 ·have h1:=nk v (bC n) 0 x;have h2:=Di v (bC n) y 1;show 1+(_+(kC (gG v (bC n) 0 x)+1+vy (dZ v (bC n) 1 (bW y))+1))≤x.wt+y.wt+(Bd.sem x y).tm.vars.length+8
  lia
 ·have h1:=wZ v (bC n) 0 x y;show 1+(_+(kC (gG v (bC n) 0 (.arr x y))+1+0+1))≤_
  lia
 ·have h1:=iq (dH (bC n) 0) (er x);have h2:(er x).wt≤x.wt+x.tm.sz+3:=by
   unfold er;cases cY x
   ·exact aa (am (show x.tm.sz+0+1+2=x.tm.sz+3 from rfl)) (aG (aC ..) 3)
   ·exact aa (ah ..) (ah ..)
  show 1+(_+(kC (bZ (er x) (dH (bC n) 0)++[_,_])+1+(0+1+0)+1))≤x.wt+(Bd.neg x).tm.vars.length+x.tm.sz+14;rw[kH,show kC [(Bd.lf (.a 15),bC n),(Bd.lf (.a 17),bC n)]=6 from rfl]
  lia
theorem si (s:NL)(v:AV):s.ln<+:(s.say v).ln:=bv ..
theorem w6 (s:NL)(n:Int):s.ln<+:(s.var n).ln:=by
 cases e:bM s.nm n with
 |some v=>rw[cO e];exact bv ..
 |none=>rw[cU e];exact bv ..
mutual
theorem y8:∀ (t:Tm) (s:NL),s.ln<+:(spell t s).ln
 |.v n,s=>w6 s n
 |.a n,s=>bv ..
 |.i n,s=>bv ..
 |.s f as,s=>(bv ..).trans (jk as (s.say _))
theorem jk:∀ (l:List Tm) (s:NL),s.ln<+:(spellL l s).ln
 |[],s=>bx
 |t::r,s=>(y8 t s).trans (jk r _)
end
theorem TK.re {s s':NL}{nm:Nm}{z:Nat}(h:TK s' z)(hp:s.ln<+:s'.ln)(hn:nm.length≤s.ln.length)(hv:∀ p∈nm,p.2.pl=true):TK ⟨nm,s'.ln⟩ z:=⟨⟨aa hn hp.length_le,h.ln⟩,h.pl,hv⟩
theorem qT (f:Int→AV)(l:List Int):∀ d,(mB f l d).length≤d.length+l.length:=by
 induction l with
 |nil=>exact λ d=>au _
 |cons k r ih=>exact λ d=>aa (ih _) (aa (aG (gj ..) _) (am (Nat.succ_add_eq_add_succ ..)))
theorem yu {f:Int→AV}{P:AV→Prop}(hf:∀ k,P (f k))(l:List Int):∀ d:List (Int×AV),(∀ p∈d,P p.2)→∀ p∈mB f l d,P p.2:=by
 induction l with
 |nil=>exact λ d h=>h
 |cons k r ih=>exact λ d h=>ih _ (u3 h (hf k))
theorem wT {nm:Nm}(h:∀ p∈nm,p.2.pl=true)(l:List Int):∀ p∈qt nm l,p.2.pl=true:=by
 refine yu (P:=λ v=>v.pl=true) (λ k=>?_) l [] (λ ω h=>nomatch h);cases e:bM nm k with
 |some v=>exact h _ (uO e)
 |none=>rfl
theorem wn (l:List Int):∀ acc,(dd acc l).length≤acc.length+l.length:=by
 induction l with
 |nil=>exact λ acc=>au _
 |cons k r ih=>
  intro acc
  by_cases h:k∈acc
  ·rw[oe h];exact aB (ih acc)
  ·rw[kj h];exact aa (ih _) (am (by rw[bK];exact Nat.succ_add_eq_add_succ ..))
theorem rI (near vars:List Int):(uq near vars).length≤vars.length:=aa (wn _ []) (aa (am (aU _)) (List.length_filter_le ..))
theorem gx (l:List Int):Tm.szL (cK l)=l.length:=by
 induction l with
 |nil=>rfl
 |cons k r ih=>exact (ae (1+·) ih).trans (bh ..)
section
variable (sy:Sy)(tT:Int)
def x4 (k:Nat)(tell:List dE→TS→TS):Prop:=∀ rows s z,tE sy k rows→TK s.nl (kC rows+z)→TK (tell rows s).nl z∧s.nl.ln<+:(tell rows s).nl.ln
variable {sy tT}{k:Nat}{tell:List dE→TS→TS}(IH:x4 sy k tell)
include IH
theorem CB {nm0:Nm}:∀ {ws:List (List dE)} {i:Nat} {p:List AV×Nat} {z:Nat},(∀ w∈ws,tE sy k w)→TK ⟨nm0,p.1⟩ (vy ws+z)→TK ⟨nm0,(iF tell nm0 i ws p).1⟩ z∧p.1<+:(iF tell nm0 i ws p).1:=by
 intro ws
 induction ws with
 |nil=>exact λ ω h=>⟨h.less (aC ..),bx⟩
 |cons w ws ih=>
  intro i p z hw h;have h1:=List.forall_mem_cons.mp hw;have h2:=IH w ⟨⟨nm0,p.1++[ss i]⟩,p.2⟩ (vy ws+z) h1.1 (TK.say (s:=⟨nm0,p.1⟩) (h.less (am (by rw[vy,bh (kC w) 1,aQ,aQ]))) rfl);have h3:=ih (i:=i+1) (p:=((tell w ⟨⟨nm0,p.1++[ss i]⟩,p.2⟩).nl.ln,(tell w ⟨⟨nm0,p.1++[ss i]⟩,p.2⟩).ct)) h1.2 (h2.1.re ((bv ..).trans h2.2) h.nm h.pn);exact⟨h3.1,((bv ..).trans h2.2).trans h3.2⟩
theorem lx {g:Bd}{b:AV}{near:List Int}{s:TS}{z:Nat}(h0:jo sy)(hg:g.isCh=true)(hb:e6 b)(hok:BOK sy (k+1) g)(h:TK s.nl (g.wt+z)):TK (d6 tell g b near s).nl z∧s.nl.ln<+:(d6 tell g b near s).nl.ln:=by
 have hw:=tY (v:=b) (n:=(s.ct+1:Nat)) hg;have h1:TK (eT g b near s) (vy (cf b (bC (s.ct+1:Nat)) g)+(1+z)):=TK.spellL _ (TK.say (h.less (by have:=rI near g.tm.vars;rw[gx];lia)) rfl);have h1p:s.nl.ln<+:(eT g b near s).ln:=(si ..).trans (jk ..);have hn:(qt (eT g b near s).nm (uq near g.tm.vars)).length≤(eT g b near s).ln.length:=aa (qT ..) (by
  show 0+_≤(spellL _ _).ln.length;rw[dy,gx,aU];exact aC ..)
 have h2:=CB IH (i:=0) (p:=((eT g b near s).ln,s.ct+1)) (mq h0 hok hg hb) (h1.re bx hn (wT h1.pn _));refine⟨TK.say (s:=⟨_,_⟩) (h2.1.re h2.2 h1.nm h1.pn) ?_,(h1p.trans h2.2).trans (bv ..)⟩
 split
 ·exact (Bool.and_true _).trans hb.pl
 ·rfl
omit IH in
theorem H9 {b:AV}{s:NL}{z:Nat}(hb:e6 b)(t:Tm)(h:TK s (t.sz+2+z)):TK (Kv sy tT b s t) z∧s.ln<+:(Kv sy tT b s t).ln:=by
 have cp:∀ f,(jO tT f).pl=true:=λ f=>by unfold jO;split<;>rfl
 rcases t with n|n|n|⟨f,as⟩
 ·exact⟨TK.var (TK.say (h.less (by show _≤1+2+z;lia)) (cp _)),(si ..).trans (w6 ..)⟩
 ·refine⟨TK.say (h.less (by show _≤1+2+z;lia)) ?_,bv ..⟩;unfold Zd
  split
  ·exact (Bool.and_true _).trans hb.pl
  ·split<;>rfl
 ·exact⟨h.less (aC ..),bx⟩
 ·refine⟨TK.spellL as (TK.say (h.less (by show _≤Tm.szL as+1+2+z;lia)) ?_),(si ..).trans (jk ..)⟩
  split
  ·rfl
  ·exact cp f
theorem xu {r:dE}{near:List Int}{s:TS}{z:Nat}(h0:jo sy)(hok:q7 sy (k+1) r)(h:TK s.nl (r.1.wt+z)):TK (nP sy tT tell near r.2 s r.1).nl z∧s.nl.ln<+:(nP sy tT tell near r.2 s r.1).nl.ln:=by
 rcases r with⟨t|⟨x,y⟩|⟨x,y⟩|⟨x,y⟩|x,b⟩
 ·exact H9 hok.bar t h
 ·cases hok.nc
 ·exact lx IH h0 rfl hok.bar hok.toBOK h
 ·exact lx IH h0 rfl hok.bar hok.toBOK h
 ·exact lx IH h0 rfl hok.bar hok.toBOK h
theorem Iz {outer:List Int}(h0:jo sy):∀ {post pre:List dE} {s:TS} {z:Nat},tE sy (k+1) post→TK s.nl (kC post+z)→TK (xq sy tT tell outer pre post s).nl z∧s.nl.ln<+:(xq sy tT tell outer pre post s).nl.ln:=by
 intro post
 induction post with
 |nil=>exact λ ω h=>⟨h.less (aC ..),bx⟩
 |cons r post ih=>
  intro pre s z hok h;have h1:=List.forall_mem_cons.mp hok;have h2:=xu (tT:=tT) IH (near:=ic outer (pre++post)) h0 h1.1 (h.less (am (aQ ..).symm));have h3:=ih (pre:=pre++[r]) h1.2 h2.1;exact⟨h3.1,h2.2.trans h3.2⟩
end
theorem sS {sy:Sy}{tT:Int}(h0:jo sy):∀ k,x4 sy k (eK sy tT k):=by
 intro k
 induction k with
 |zero=>exact λ rows s z ω h=>⟨h.less (aC ..),bx⟩
 |succ k ih=>exact λ rows s z hok h=>Iz ih h0 hok h
noncomputable def GG (A:sO)(tT:Int)(ct:Nat):List (Sx×AV):=[(di,.loc A.obj),(gt,.int tT),(gJ,.int ct)]
noncomputable def k6 (na la wa:Addr)(A:sO)(sy:Sy)(tT:Int)(s:TS)(r:List bT):List bT:=(na,.dI s.nl.nm)::(la,.list s.nl.ln)::(wa,.dS (GG A tT s.ct))::(cF A sy++r)
def vc (J:JT)(sy:Sy)(tT:Int)(k m:Nat)(tell:List dE→TS→TS):Prop:=∀ {rows s na la wa rl A r Q},tE sy k rows→TK s.nl (kC rows)→
 At (k6 na la wa A sy tT (tell rows s) ((rl,.list (cI rows))::r)) (Q .none)→At (k6 na la wa A sy tT s ((rl,.list (cI rows))::r)) (bR J m 559 Q [.loc rl,.loc na,.loc la,.loc wa])
theorem gP (l:List Int):AV.pls (l.map .int)=true:=kG.mpr λ x hx=>have⟨_,_,e⟩:=be hx;e▸rfl
theorem lU {l:List Int}{k:Int}:AV.int k∈l.map AV.int↔k∈l:=⟨λ h=>have⟨_,hj,e⟩:=be h;pA.mp e▸hj,bk⟩
theorem xA (s:NL)(n:Int):(bM (s.var n).nm n).isSome=true:=by
 cases e:bM s.nm n with
 |some v=>rw[cO e];exact e▸rfl
 |none=>rw[cU e];exact ((ae Option.isSome ((cB ..).trans (aL rfl))))
theorem zT {s:NL}{n j:Int}(h:(bM s.nm j).isSome=true):(bM (s.var n).nm j).isSome=true:=by
 cases e:bM s.nm n with
 |some v=>rw[cO e];exact h
 |none=>
  rw[cU e];refine (ae Option.isSome (cB ..)).trans ?_
  split
  ·rfl
  ·exact h
theorem E2 {j:Int}(l:List Int):∀ {s:NL},(bM s.nm j).isSome=true→(bM (spellL (cK l) s).nm j).isSome=true:=by
 induction l with
 |nil=>exact id
 |cons k r ih=>exact λ h=>ih (zT h)
theorem wQ {j:Int}{l:List Int}:∀ {s:NL},j∈l→(bM (spellL (cK l) s).nm j).isSome=true:=by
 induction l with
 |nil=>exact λ h=>nomatch h
 |cons k r ih=>exact λ h=>(ap h).elim (λ e=>e▸E2 r (xA _ _)) (λ h=>ih h)
theorem Em (l:List Int)(k:Int)(s:NL):spellL (cK (l++[k])) s=(spellL (cK l) s).var k:=by
 rw[cK,aN,wz];rfl
theorem Eg {a:Addr}{v:List AV}{l2:List Addr}{v2:List (List AV)}:∀ {l1:List Addr} {v1:List (List AV)},l1.length=v1.length→lO (l1++a::l2) (v1++v::v2)=lO l1 v1++(a,.list v)::lO l2 v2:=by
 intro l1
 induction l1 with
 |nil=>intro v1 h;rcases v1 with _|_;rfl;cases h
 |cons x l ih=>intro v1 h;rcases v1 with _|⟨y,v1⟩;cases h;exact ae ((x,bO.list y)::·) (ih (Nat.succ.inj h))
theorem AB {α β:Type}{a b:List α}{y:α}:∀ {l:List β},l.length=(a++y::b).length→∃ l1 x l2,l=l1++x::l2∧l1.length=a.length:=by
 induction a with
 |nil=>intro l h;rcases l with _|⟨x,l⟩;cases h;exact⟨[],x,l,rfl,rfl⟩
 |cons z a ih=>intro l h;rcases l with _|⟨x,l⟩;cases h;obtain⟨l1,u,l2,e,h2⟩:=ih (Nat.succ.inj h);exact⟨x::l1,u,l2,e▸rfl,ae (·+1) h2⟩
structure ZZ where
 kept:List Int
 nl:NL
structure KpP (near vars:List Int)(s1:NL)(ys:List Int)(x:ZZ):Prop where
 e:x.nl=spellL (cK x.kept) s1
 k:dd x.kept (ys.filter λ k=>decide (k∈near))=uq near vars
 ok:SpOK x.nl ys.length
 kl:x.kept.length+ys.length≤vars.length
noncomputable def kpI (near vars:List Int)(s1:NL)(na la kl:Addr)(M:List (Nat×AV))(r:List bT):For Int ZZ:=⟨.int,λ ω=>(4,.loc la)::(7,.loc kl)::M,λ x=>qj na la x.nl ((kl,.list (x.kept.map .int))::r),KpP near vars s1⟩
structure WyP (tell:List dE→TS→TS)(nm0:Nm)(fin:List AV×Nat)(pre post:List (List dE))(p:List AV×Nat):Prop where
 e:iF tell nm0 pre.length post p=fin
 ok:TK ⟨nm0,p.1⟩ (vy post+1)
noncomputable def wyI (tell:List dE→TS→TS)(nm0:Nm)(fin:List AV×Nat)(la wa:Addr)(A:sO)(sy:Sy)(tT:Int)(M:List (Nat×AV))(r:List bT):zL (List dE) (List AV×Nat):=⟨λ ω=>(4,.loc la)::(5,.loc wa)::M,λ p=>(la,.list p.1)::(wa,.dS (GG A tT p.2))::(cF A sy++r),WyP tell nm0 fin⟩
theorem ar3 {a b c:Nat}(h:a≤c):a+1≤b+1+c:=by lia
theorem DE (l:List (List dE)):l.length≤vy l:=by
 induction l with
 |nil=>exact au 0
 |cons w l ih=>exact ar3 ih
theorem ua {α:Type}{o:Option α}{d:α}(h:o.isSome=true):o=some (o.getD d):=by cases o;cases h;rfl
theorem Db {l:List AV}(h:AV.pls l=true)(n:Nat):AV.pls (l.drop n)=true:=kG.mpr λ x hx=>kG.mp h x (List.mem_of_mem_drop hx)
theorem HF {b:AV}(h:e6 b):(kO b).pl=true:=(Bool.and_true _).trans h.pl
theorem E8 {b:AV}{n:Nat}(h:e6 b):min (kO b).dep n≤50:=aa (Nat.min_le_left ..) (show max 0 (max b.dep 0)+1≤50 from by have:=h.dep;lia)
theorem Lr (b:Bd):b.ht≤b.tm.ht:=by
 induction b with
 |lf t=>exact aI _
 |com x y hx hy=>exact aD (Nat.max_le.mpr ⟨aa hx (bc ..),aa hy (aa (bc ..) (Nat.le_max_right ..))⟩)
 |sem x y hx hy=>exact aD (Nat.max_le.mpr ⟨aa hx (bc ..),aa hy (aa (bc ..) (Nat.le_max_right ..))⟩)
 |arr x y hx hy=>exact aD (Nat.max_le.mpr ⟨aa hx (bc ..),aa hy (aa (bc ..) (Nat.le_max_right ..))⟩)
 |neg x hx=>exact aD (aa hx (bc ..))
theorem og {h n:Nat}(k:Nat)(hh:h≤15)(hk:15<k):h<n+k:=aO (ac hh hk) (aC ..)
section
variable {J:JT}(L:eZ J){sy:Sy}{tT:Int}{k n:Nat}{tell:List dE→TS→TS}(IHp:x4 sy k tell)(IH:∀ j,k=j+1→vc J sy tT k (n+20) tell)
include L IHp IH
theorem BZ {g:Bd}{b:AV}{near:List Int}{s:TS}{na la wa nl:Addr}{A:sO}{r:List bT}{Q:bI}(h0:jo sy)(hg:g.isCh=true)(hb:e6 b)(hok:BOK sy (k+1) g)(hz:TK s.nl g.wt)
  (h:At (k6 na la wa A sy tT (d6 tell g b near s) ((nl,.list (near.map .int))::r)) (Q .none)):At (k6 na la wa A sy tT s ((nl,.list (near.map .int))::r)) (bR J (n+21) 564 Q [dX g,b,.loc nl,.loc na,.loc la,.loc wa]):=by
 obtain⟨j,hj⟩:=hok.posc hg;have IH:vc J sy tT k (n+20) tell:=@IH j hj;clear hj j;refine L.law_choice (n+20) _ _ _ Q rfl rfl λ ca=>?_;have hw:=tY (v:=b) (n:=(s.ct+1:Nat)) hg;apply gv 3 rfl rfl;apply CA 3 rfl;exact (show 3<cX by decide);apply gv 3 rfl rfl;refine DC L (n:=n+19) (hr:=bC (s.ct+1:Nat)) (λ f e=>by subst e;cases hg) (og 19 (aa (Lr g) hok.th) (by decide)) (ac hok.nd (by decide)) hok.ok λ wl lis hlis=>?_;have hvl:=eJ g.tm;have hgz:g.tm.sz<100000:=ac hok.tz (by decide);apply bF 3 rfl;apply fM 0 rfl;exact (ak _).trans hlis;apply bG 3 rfl;exact hz.lml;apply bJ;intro kl;refine GZ L _ (t:=g.tm) (og 20 hok.th (by decide)) hgz λ ml=>?_;have h1:TK (s.nl.say (gS (cf b (bC (s.ct+1:Nat)) g).length)) (g.tm.vars.length+(vy (cf b (bC (s.ct+1:Nat)) g)+1)):=TK.say (hz.less hw) rfl;generalize hs1:s.nl.say (gS (cf b (bC (s.ct+1:Nat)) g).length)=s1 at h1;have hcs:eT g b near s=spellL (cK (uq near g.tm.vars)) s1:=by unfold eT;rw[hs1]
 refine At.eq (l':=_::_::_::_::(na,.dI s1.nm)::(la,.list s1.ln)::_) (by rw[←hs1];rfl) ?_;refine At.pk [4,4,1] (fj (kpI near g.tm.vars s1 na la kl [(0,dX g),(1,b),(2,.loc nl),(5,.loc wa),(6,.loc wl)] ((ml,.list (g.tm.vars.map .int))::(wl,.list (lis.map .loc))::(ca,.cell (some (.loc na)))::(wa,.dS (GG A tT (s.ct+1)))::(cF A sy++((nl,.list (near.map .int))::(r++lO lis ((cf b (bC (s.ct+1:Nat)) g).map cI)))))) g.tm.vars ⟨[],s1⟩ 3 rfl ⟨rfl,rfl,rfl,rfl,rfl,rfl,rfl,trivial⟩ rfl (λ ω=>rfl) ⟨rfl,rfl,h1.toSpOK.le (ah ..),am (aU _)⟩ (λ y ys x hP=>?_) λ x hP=>?_)
 ·apply fF 13 rfl;apply dv rfl (gP near) iM;have hkl:x.kept.length<100000:=ac (aa (ah ..) (aa hP.kl hvl)) hgz;have kl2:x.kept.length+ys.length≤g.tm.vars.length:=aa (aP (aM _) _) hP.kl
  by_cases hk:y∈near
  ·have hf:(y::ys).filter (λ k=>decide (k∈near))=y::ys.filter (λ k=>decide (k∈near)):=List.filter_cons_of_pos (decide_eq_true hk);apply bQ (lU.mpr hk);apply fF 2 rfl;apply dv rfl (gP _) iM
   by_cases hd:y∈x.kept
   ·exact bQ (lU.mpr hd) (dp x rfl ⟨rfl,rfl,rfl,rfl,rfl,rfl,rfl,trivial⟩ ⟨hP.e,(oe hd).symm.trans (hf▸hP.k),hP.ok.le (aM _),kl2⟩)
   ·apply bP (mt lU.mp hd);apply bF 2 rfl;apply bG 2 rfl;exact eX (cw (au _) hkl);apply dh 5 rfl;refine eV L _ (t:=.v y) (s:=x.nl) (aO (show 0<20 by decide) (aC 20 n)) (hP.ok.le (aC ..)) ?_;refine dp ⟨x.kept++[y],x.nl.var y⟩ (ae (λ z=>qj na la (x.nl.var y) ((kl,bO.list z)::_)) (cb ..)) ⟨rfl,rfl,rfl,rfl,rfl,rfl,rfl,trivial⟩ ⟨(ae (NL.var · y) hP.e).trans (Em ..).symm,(kj hd).symm.trans (hf▸hP.k),SpOK.next (y:=1) (bh ys.length 1▸hP.ok) (oS ..) (rR ..),aa (am (by rw[bK,aQ,bh 1];rfl)) hP.kl⟩
  ·exact bP (mt lU.mp hk) (dp x rfl ⟨rfl,rfl,rfl,rfl,rfl,rfl,rfl,trivial⟩ ⟨hP.e,(List.filter_cons_of_neg (p:=λ k=>decide (k∈near)) (l:=ys) (λ z=>hk (bg z)))▸hP.k,hP.ok.le (aM _),kl2⟩)
 rcases x with⟨kept,s2⟩
 obtain rfl:kept=uq near g.tm.vars:=hP.k;obtain rfl:s2=eT g b near s:=hP.e.trans hcs.symm;have h2:TK (eT g b near s) (vy (cf b (bC (s.ct+1:Nat)) g)+1):=hcs▸TK.spellL _ (h1.less (aG (aa (am (gx _)) (rI ..)) _));have hkn:=rI near g.tm.vars;generalize hn0:qt (eT g b near s).nm (uq near g.tm.vars)=nm0;have h3:TK ⟨nm0,(eT g b near s).ln⟩ (vy (cf b (bC (s.ct+1:Nat)) g)+1):=hn0▸h2.re bx (aa (qT ..) (hcs▸dy (cK (uq near g.tm.vars)) s1▸gx (uq near g.tm.vars)▸aa (am (aU _)) (aC ..))) (wT h2.pn _);apply fM 1 rfl rfl;apply fM 4 rfl;exact (ak _).trans hlis;have hwl:(cf b (bC (s.ct+1:Nat)) g).length<100000:=ac (aa (DE _) (aa (aM _) (aC ..))) h2.ln;refine At.pk [1,5,5,5,5,5,5,5,0,0,1,1] (lI (wyI tell nm0 (ki tell g b near s) la wa A sy tT [(1,b),(6,.loc wl),(7,.loc kl),(9,.int (eT g b near s).ln.length)] ((na,.dI (eT g b near s).nm)::(kl,.list ((uq near g.tm.vars).map .int))::(wl,.list (lis.map .loc))::(ca,.cell (some (.loc na)))::(ml,.list (g.tm.vars.map .int))::(nl,.list (near.map .int))::(r++lO lis ((cf b (bC (s.ct+1:Nat)) g).map cI)))) _ ((eT g b near s).ln,s.ct+1) rfl ⟨rfl,rfl,rfl,rfl,rfl,rfl,trivial⟩ rfl (cw (au _) hwl) ⟨hn0▸rfl,h3⟩ (λ pre w post p he hP=>?_) λ p hP=>?_)
 ·obtain⟨l1,a,l2,rfl,hl1⟩:=AB (hlis.trans (ae List.length he.symm));have hV:(cf b (bC (s.ct+1:Nat)) g).map cI=pre.map cI++cI w::post.map cI:=he▸aN;have hll:l1.length=(pre.map cI).length:=hl1.trans (ak _).symm;have hE:∀ r:List bT,r++lO (l1++a::l2) ((cf b (bC (s.ct+1:Nat)) g).map cI)=(r++lO l1 (pre.map cI))++(a,.list (cI w))::lO l2 (post.map cI):=λ r=>by rw[hV,Eg hll,ao]
  have hw1:=mq (v:=b) (n:=(s.ct+1:Nat)) h0 hok hg hb w (fv he);have h4:TK ⟨nm0,p.1++[ss pre.length]⟩ (kC w+(vy post+1)):=TK.say (s:=⟨nm0,p.1⟩) (hP.ok.less (am (by rw[vy];lia))) rfl;have h5:=IHp w ⟨⟨nm0,p.1++[ss pre.length]⟩,p.2⟩ _ hw1 h4;apply bF 0 rfl;apply bG 0 rfl;exact hP.ok.lml;apply cZ 10 rfl;exact hl1▸mI rfl;apply Qa (f:=λ k=>(bM (eT g b near s).nm k).getD .none) 9 rfl
  ·exact ac (aa hkn (aa hvl hok.tz)) (by decide)
  ·intro j hj K hK;apply dh 11 rfl;apply iR 8 rfl;exact ua (d:=.none) (hcs▸wQ hj);exact hK
  intro nb;refine At.eq (ae (λ z=>(nb,bO.dI z)::_) hn0.symm) (At.eq (ae (λ z=>(nb,bO.dI nm0)::(la,.list (p.1++[ss pre.length]))::(wa,.dS (GG A tT p.2))::(cF A sy++((na,_)::(kl,_)::(wl,_)::(ca,_)::(ml,_)::(nl,_)::z))) (hE r).symm) ?_);refine At.bring (l₁:=_::_::_::cF A sy) (l₂:=[_,_,_,_,_,_]++(r++lO l1 (pre.map cI))) ?_;refine IH (s:=⟨⟨nm0,p.1++[ss pre.length]⟩,p.2⟩) hw1 (h4.less (ah ..)) (At.drop1 (At.back (l₁:=_::_::cF A sy) ?_));refine At.eq (ae (λ z=>(la,bO.list (tell w ⟨⟨nm0,p.1++[ss pre.length]⟩,p.2⟩).nl.ln)::(wa,.dS (GG A tT (tell w ⟨⟨nm0,p.1++[ss pre.length]⟩,p.2⟩).ct))::(cF A sy++((na,_)::(kl,_)::(wl,_)::(ca,_)::(ml,_)::(nl,_)::z))) (hE r)) ?_;exact n5 (_,_) ((ao ..).trans he) rfl ⟨rfl,rfl,rfl,rfl,rfl,rfl,trivial⟩ ⟨(bK pre w).symm▸hP.e,(h5.1.less (au _)).re ((bv ..).trans h5.2) hP.ok.nm hP.ok.pn⟩
 obtain rfl:p=ki tell g b near s:=hP.e;have h6:=hP.ok;apply bF 0 rfl;apply Cf 0 rfl;exact aw (ac (ah ..) h2.ln) (by decide);intro z;apply fF 0 rfl;apply dv (HF hb) (Db h6.pl _) (E8 hb);have fin:∀ v,pE v=pE (if kO b∈(ki tell g b near s).1.drop (eT g b near s).ln.length then b else .none)→At ((z,.list ((ki tell g b near s).1.drop (eT g b near s).ln.length))::(la,.list ((ki tell g b near s).1++[pE v]))::(wa,.dS (GG A tT (ki tell g b near s).2))::(cF A sy++((na,.dI (eT g b near s).nm)::(kl,.list ((uq near g.tm.vars).map .int))::(wl,.list (lis.map .loc))::(ca,.cell (some (.loc na)))::(ml,.list (g.tm.vars.map .int))::(nl,.list (near.map .int))::(r++lO lis ((cf b (bC (s.ct+1:Nat)) g).map cI))))) (Q .none):=λ v e=>by
  refine At.rm [0,9,9,9,9] (At.pk [8] (At.dropR (l:=(na,.dI (eT g b near s).nm)::(la,.list ((ki tell g b near s).1++[pE v]))::(wa,.dS (GG A tT (ki tell g b near s).2))::(cF A sy++((nl,.list (near.map .int))::r))) ?_));rw[e];exact h
 by_cases q:kO b∈(ki tell g b near s).1.drop (eT g b near s).ln.length
 ·apply bQ q;apply bG 1 rfl;exact h6.lml;exact fin b (ae pE (aL q).symm)
 ·apply bP q;apply bG 1 rfl;exact h6.lml;exact fin .none (ae pE (aK q).symm)
end
theorem wV {n:Int}:(Tm.a n).av∈[AV.tup [.str lb,.int 17],.tup [.str lb,.int 18]]↔n=17∨n=18:=by
 have e:∀ k:Int,(Tm.a n).av=.tup [.str lb,.int k]↔n=k:=λ k=>Kk.trans ⟨λ h=>by injection h,ae _⟩;rw[List.mem_cons,List.mem_singleton,e,e]
theorem kq {t:Tm}(h:t.isAt=false):t.av∉[AV.tup [.str lb,.int 17],.tup [.str lb,.int 18]]:=λ q=>(ap q).elim (iY h) λ q=>iY h (aj q)
theorem yv {v:AV}:min v.dep (AV.deps [AV.tup [.str lb,.int 17],.tup [.str lb,.int 18]])≤50:=aa (Nat.min_le_right ..) (show 1≤50 by decide)
theorem xR {f:Int}:AV.int f∈[AV.int 2,.int 3,.int 4]↔f=2∨f=3∨f=4:=by simp only[List.mem_cons,pA,List.not_mem_nil,or_false]
theorem Lu {f:Int}(h:4<f):¬ (f=2∨f=3∨f=4):=λ q=>q.elim (gW h (by decide)) λ q=>q.elim (gW h (by decide)) (gW h (by decide))
theorem DZ (b:Bd):b.tm.vars.length≤b.wt:=by
 induction b with
 |lf t=>exact aa (eJ t) (ah ..)
 |com x y hx hy=>exact aa (am ((ae List.length (ae (x.tm.vars++·) (aq _))).trans ay)) (aR hx hy)
 |sem x y=>exact aa (aC ..) (ah ..)
 |arr x y=>exact aa (aC ..) (ah ..)
 |neg x=>exact aa (aa (aC ..) (ah ..)) (ah ..)
theorem AD (l:List dE):(l.flatMap (·.1.tm.vars)).length≤kC l:=by
 induction l with
 |nil=>exact au 0
 |cons r l ih=>exact aa (am ((ae List.length List.flatMap_cons).trans ay)) (aR (DZ r.1) ih)
theorem IX (b:Bd):1≤b.wt:=by
 induction b with
 |lf t=>exact aV _
 |com x y hx hy=>exact aa hx (ah ..)
 |sem x y=>exact aV _
 |arr x y=>exact aV _
 |neg x=>exact aV _
theorem CO (l:List dE):l.length≤kC l:=by
 induction l with
 |nil=>exact au 0
 |cons r l ih=>exact aa (am (bh ..)) (aR (IX r.1) ih)
section
variable {J:JT}(L:eZ J)
include L
theorem qF {na la:Addr}{r:List bT}{i:Nat}{b:WS}{m:bB}{S:cm}{M:List (Nat×AV)}{as:List Tm}{s:NL}(hm:mO m M)(hM:∀ v,mO ((gK M).set i v) M)
  (hb:∀ t s S,t.ht≤15→SpOK s t.sz→At (qj na la (spell t s) r) (S .next ((gK M).set i t.av))→At (qj na la s r) (b ((gK M).set i t.av) S))
  (hh:Tm.htL as≤15) (hz:SpOK s (Tm.szL as)) (h:At (qj na la (spellL as s) r) (S .next (gK M))):At (qj na la s r) (um i b m S (Tm.avs as)):=
 ly (⟨Tm.av,λ ω=>M,λ s=>qj na la s r,λ ys x=>Zu 16 as ys s x⟩:For Tm NL) as s rfl hm (me as) ⟨rfl,hz,Nat.lt_succ_of_le hh⟩
  (λ y ys x hP=>hb y x _ (Nat.le_of_lt_succ (z8 hP.h)) (hP.ok.le (ah ..)) (dp (spell y x) rfl (hM _) ⟨hP.e,hP.ok.next (i7 ..) (lS ..),Bl hP.h⟩))
  λ x hP=>At.eq (ae (qj na la · r) hP.e.symm) h
end
structure NrP (tot:List Int)(all ys:List dE)(x:List Int):Prop where
 e:x++ys.flatMap (·.1.tm.vars)=tot
 s:∀ z∈ys,z∈all
noncomputable def nrI (nl sl:Addr)(tot:List Int)(all:List dE)(M:List (Nat×AV))(r:List bT):For dE (List Int):=⟨mC,λ ω=>(8,.loc nl)::M,λ x=>(nl,.list (x.map .int))::(sl,.list (cI all))::r,NrP tot all⟩
structure ToP (sy:Sy)(tT:Int)(tell:List dE→TS→TS)(outer:List Int)(fin:TS)(pre post:List dE)(s:TS):Prop where
 e:xq sy tT tell outer pre post s=fin
 ok:TK s.nl (kC post)
noncomputable def Tn (sy:Sy)(tT:Int)(tell:List dE→TS→TS)(outer:List Int)(fin:TS)(na la wa:Addr)(A:sO)(M:List (Nat×AV))(r:List bT):zL dE TS:=⟨λ ω=>(1,.loc na)::(2,.loc la)::(3,.loc wa)::M,λ s=>k6 na la wa A sy tT s r,ToP sy tT tell outer fin⟩
theorem II {a b c l:List Int}(h:a++(b++c)=l):a.length+b.length≤l.length:=by rw[←h,ay,ay];exact aP (ah ..) _
theorem Ck {α:Type}{a b l:List α}{x:α}(h:a++x::b=l):l.take a.length=a∧l.drop (a.length+1)=b:=by
 subst h;exact⟨List.take_left' rfl,(List.drop_append).trans (by rw[List.drop_eq_nil_of_le (aM _),Nat.add_sub_cancel_left];rfl)⟩
section
variable {J:JT}(L:eZ J){sy:Sy}{tT:Int}{k n:Nat}{tell:List dE→TS→TS}(IHp:x4 sy k tell)(IH:∀ j,k=j+1→vc J sy tT k (n+20) tell)
include L IHp IH
theorem vK {g:Bd}{b:AV}{s:TS}{na la wa rl ol:Addr}{A:sO}{r:List bT}{pre post rows:List dE}{outer:List Int}{m:bB}{S:cm}(h0:jo sy)(hg:g.isCh=true)(hr:q7 sy (k+1) (g,b))(hz:TK s.nl g.wt)(he:pre++(g,b)::post=rows)
  (hrows:tE sy (k+1) rows) (hR:kC rows<100000) (ho:outer.length<100000)
  (hm:m=(((gK [(1,.loc na),(2,.loc la),(3,.loc wa),(0,.loc rl),(4,.loc ol)]).set 5 (.int pre.length)).set 6 (dX g)).set 7 b)
  (h:∀ m,mO m [(1,.loc na),(2,.loc la),(3,.loc wa),(0,.loc rl),(4,.loc ol)]→At (k6 na la wa A sy tT (d6 tell g b (ic outer (pre++post)) s) ((rl,.list (cI rows))::(ol,.list (outer.map .int))::r)) (S .next m)):
  At (k6 na la wa A sy tT s ((rl,.list (cI rows))::(ol,.list (outer.map .int))::r)) (cA (je J (n+21)) [.asg 8 (.listOf (.lv 4)),.fore 9 (.add (.slt (.lv 0) (.lv 5)) (.slf (.lv 0) (.add (.lv 5) (.int 1)))) [.augA 8 (.call 531 [.sub (.lv 9) (.int 0)])],.ex (.call 564 [.lv 6,.lv 7,.lv 8,.lv 1,.lv 2,.lv 3])] m S):=by
 subst hm;have hl:=ac (CO rows) hR;have hp:pre.length+1≤rows.length:=he▸ay▸aP (aV _) _;have hpp:kC (pre++post)≤kC rows:=he▸(by rw[kH,kH];exact aP (aC ..) _);have ht:=Ck he;apply Kp 10 rfl;apply bJ;intro nl;apply FV (ob:=.list (cI rows)) 10 rfl .list (aw (aO hp (aW hl)) (by decide));intro s1;apply Cf (k:=pre.length+1) 11 rfl (aw (ac hp hl) (by decide));intro s2;apply ny 1 0 rfl rfl
 ·refine oT (aa (List.length_take_le' ..) (am (ak _))) (aa (am List.length_drop) (aa (Nat.sub_le ..) (am (ak _)))) hl hl
 intro sl;have hV:(cI rows).take pre.length++(cI rows).drop (pre.length+1)=cI (pre++post):=by
  rw[cI,List.map_take.symm,List.map_drop.symm,ht.1,ht.2,cI,aN]
 refine At.rm [1,1] (At.pk [1] (At.eq (ae (λ z=>_::(sl,bO.list z)::_) hV.symm) ?_));refine fj (nrI nl sl (ic outer (pre++post)) (pre++post) [(0,.loc rl),(1,.loc na),(2,.loc la),(3,.loc wa),(4,.loc ol),(6,dX g),(7,b)] (k6 na la wa A sy tT s ((rl,.list (cI rows))::(ol,.list (outer.map .int))::r))) (pre++post) outer 1 rfl ⟨rfl,rfl,rfl,rfl,rfl,rfl,rfl,rfl,trivial⟩ rfl (λ ω=>rfl) ⟨rfl,λ ω h=>h⟩ (λ y ys x hP=>?_) λ x hP=>?_
 ·have hy:y∈rows:=by
   exact he▸(aT (hP.s y (af ..))).elim (aH _) λ q=>aF _ (ag _ q)
  have hyo:=hrows y hy;refine GZ L _ (t:=y.1.tm) (og 21 hyo.th (by decide)) (ac hyo.tz (by decide)) λ ml=>?_;apply xL 1 0 rfl rfl (by decide)
  ·rw[ak,ak];exact ac (aa (II hP.e) (aa (am ay) (aR (au _) (aa (AD _) hpp)))) (aw (Nat.add_lt_add ho hR) (by decide))
  ·exact At.drop1 (dp (x++y.1.tm.vars) (ae (λ z=>(nl,bO.list z)::_) pN) ⟨rfl,rfl,rfl,rfl,rfl,rfl,rfl,rfl,trivial⟩ ⟨(ao ..).trans hP.e,λ z hz=>hP.s z (ag _ hz)⟩)
 ·obtain rfl:x=ic outer (pre++post):=(aq x).symm.trans hP.e;refine At.rm [1] (At.pk [1,1,1,1,1,1,1,1,1,0] ?_);exact BZ L IHp IH h0 hg hr.bar hr.toBOK hz (At.rm [9] (h _ ⟨rfl,rfl,rfl,rfl,rfl,trivial⟩))
theorem x7 (h0:jo sy)(hT:24<tT):vc J sy tT (k+1) (n+22) (λ rows s=>xq sy tT tell (s.nl.nm.map (·.1)) [] rows s):=by
 intro rows s na la wa rl A r Q hok hz h;refine L.law_told (n+21) _ _ Q rfl ?_;have hR:kC rows<100000:=ac (aC ..) hz.ln;have hl:=ac (CO rows) hR;dsimp only at h;generalize hout:s.nl.nm.map (·.1)=outer at h;have ho:outer.length<100000:=hout▸ac (aa (am (ak _)) hz.nm) (ac (ah ..) hz.ln);apply BQ 0 rfl;apply bJ;intro ol;refine At.eq (ae (λ z=>(ol,bO.list z)::_) (show outer.map AV.int=s.nl.nm.map λ p=>.int p.1 from hout▸List.map_map ..)) ?_;apply fM 10 rfl (ak _);refine At.pk [1,1,1,1,1,1,1,1,1,1] (lI (Tn sy tT tell outer (xq sy tT tell outer [] rows s) na la wa A [(0,.loc rl),(4,.loc ol)] ((rl,.list (cI rows))::(ol,.list (outer.map .int))::r)) rows s rfl ⟨rfl,rfl,rfl,rfl,rfl,trivial⟩ rfl (cw (au _) hl) ⟨rfl,hz⟩ (λ pre gb post x he hP=>?_) λ x hP=>?_)
 ·rcases gb with⟨g,b⟩
  have hr:=hok _ (fv he);have hk1:=xu (tT:=tT) IHp (near:=ic outer (pre++post)) h0 hr hP.ok;have go:∀ x',x'=nP sy tT tell (ic outer (pre++post)) b x g→∀ S m,mO m [(1,.loc na),(2,.loc la),(3,.loc wa),(0,.loc rl),(4,.loc ol)]→At (k6 na la wa A sy tT x' ((rl,.list (cI rows))::(ol,.list (outer.map .int))::r)) (qh (Tn sy tT tell outer (xq sy tT tell outer [] rows s) na la wa A [(0,.loc rl),(4,.loc ol)] ((rl,.list (cI rows))::(ol,.list (outer.map .int))::r)) rows (pre++[(g,b)]) post S .next m):=λ x' e S m hm=>
   n5 x' ((ao ..).trans he) rfl ⟨hm.1,hm.2.1,hm.2.2.1,hm.2.2.2.1,hm.2.2.2.2.1,trivial⟩ ⟨e▸hP.e,e▸hk1.1⟩
  have hn:∀ t:Tm,t.ht≤15→t.ht<n+21:=λ t h=>og 21 h (by decide);apply cZ 9 rfl (mI he);rcases g with t|⟨u,w⟩|⟨u,w⟩|⟨u,w⟩|u
  ·rcases t with j|j|j|⟨f,as⟩
   ·apply gH (fc (.v j)) rfl nz;apply bP (iY rfl);apply bJ;intro z;apply fF 0 rfl;apply dv (fc (.v j)) rfl yv;apply bP (kq rfl);refine At.drop1 ?_;apply bF 1 rfl;apply gv 2 rfl rfl;apply bP (Int.ne_of_lt hT);apply bG 1 rfl;exact hP.ok.lml;have hc:TK (x.nl.say (jO tT 24)) (1+(1+kC post)):=TK.say (hP.ok.less (by show _≤1+2+kC post;lia)) (by unfold jO;split<;>rfl);refine At.eq (ae (λ v=>_::(la,bO.list (x.nl.ln++[v]))::_) (show jO tT 24=.tup [.str cG,.int 24]from ae (λ u=>AV.tup [u,.int 24]) (aK (Int.ne_of_lt hT)))) ?_;exact qF L (as:=[.v j]) (s:=x.nl.say (jO tT 24)) (M:=[(1,.loc na),(2,.loc la),(3,.loc wa),(0,.loc rl),(4,.loc ol)]) ⟨rfl,rfl,rfl,rfl,rfl,trivial⟩ (λ ω=>⟨rfl,rfl,rfl,rfl,rfl,trivial⟩) (λ t s S ht hz h=>eV L _ (hn t ht) hz h) (aI _) (hc.toSpOK.le (ah ..)) (go ⟨(x.nl.say (jO tT 24)).var j,x.ct⟩ rfl _ _ ⟨rfl,rfl,rfl,rfl,rfl,trivial⟩)
   ·apply gH (fc (.a j)) rfl nz
    by_cases q:j=15
    ·apply bQ (ae (λ k=>(Tm.a k).av) q);apply bF 1 rfl;apply bG 1 rfl;exact hP.ok.lml;exact go ⟨x.nl.say (kO b),x.ct⟩ (ae (λ v=>TS.mk (x.nl.say v) x.ct) (aL q).symm) _ _ ⟨rfl,rfl,rfl,rfl,rfl,trivial⟩
    apply bP (AH q);apply bJ;intro z;apply fF 0 rfl;apply dv (fc (.a j)) rfl yv
    by_cases q2:j=17∨j=18
    ·apply bQ (wV.mpr q2);apply bF 2 rfl;apply bG 2 rfl;exact hP.ok.lml;exact At.drop1 (go ⟨x.nl.say (.str eO),x.ct⟩ (ae (λ v=>TS.mk (x.nl.say v) x.ct) ((aK q).trans (aL q2)).symm) _ _ ⟨rfl,rfl,rfl,rfl,rfl,trivial⟩)
    apply bP (mt wV.mp q2);refine At.drop1 ?_;apply bF 1 rfl;apply gv 2 rfl rfl;apply cj 3 4 rfl rfl rfl;refine At.pk [3,3,3,3,3,3] (Cq L hr.at_ (At.pk [6,6,6] ?_));apply bG 1 rfl;exact hP.ok.lml;exact go ⟨x.nl.say (.tup [.str cG,.int (sk sy j)]),x.ct⟩ (ae (λ v=>TS.mk (x.nl.say v) x.ct) ((aK q).trans (aK q2)).symm) _ _ ⟨rfl,rfl,rfl,rfl,rfl,trivial⟩
   ·cases hr.run
   ·have hf:4<f:=hr.ok.1;have hth:Tm.htL as≤15:=Nat.le_of_succ_le hr.th;have hz1:TK x.nl (1+(Tm.szL as+(2+kC post))):=hP.ok.less (by show _≤Tm.szL as+1+2+kC post;lia);apply gH (fc (.s f as)) rfl nz;apply bP (iY rfl);apply bJ;intro z;apply fF 0 rfl;apply dv (fc (.s f as)) rfl yv;apply bP (kq rfl);apply bJ;intro z2;apply fF 0 rfl;apply dv rfl rfl iM;apply bP (mt xR.mp (Lu hf));refine At.drop2 ?_
    by_cases q:f=10
    ·apply bQ q;apply bF 1 rfl;apply bG 1 rfl;exact hP.ok.lml;have h2:=hz1.say (v:=.str dr) rfl;have hl2:=hr.ok.2.1 q;rcases as with _|⟨t1,_|⟨t2,_|⟨t3,as⟩⟩⟩
     ·cases hl2
     ·cases hl2
     ·refine eV L _ (t:=t1) (s:=x.nl.say (.str dr)) (hn t1 (aa (bc ..) hth)) (h2.toSpOK.le (aa (ah ..) (ah ..))) ?_;refine eV L _ (t:=t2) (s:=spell t1 (x.nl.say (.str dr))) (hn t2 (aa (aa (bc ..) (Nat.le_max_right ..)) hth)) (TK.spell t1 (h2.less (by show t1.sz+t2.sz≤t1.sz+(t2.sz+0)+_;lia))).toSpOK ?_;exact go ⟨spellL [t1,t2] (x.nl.say (.str dr)),x.ct⟩ (ae (λ v=>TS.mk (spellL [t1,t2] (x.nl.say v)) x.ct) (aL q).symm) _ _ ⟨rfl,rfl,rfl,rfl,rfl,trivial⟩
     ·cases hl2
    ·apply bP q;apply bF 1 rfl;apply gv 2 rfl rfl;have fin:∀ u,jO tT f=.tup [u,.int f]→At (k6 na la wa A sy tT ⟨⟨x.nl.nm,x.nl.ln++[.tup [u,.int f]]⟩,x.ct⟩ ((rl,.list (cI rows))::(ol,.list (outer.map .int))::r)) (um 10 (cA (je J (n+21)) [.ex (.call 524 [.lv 10,.lv 1,.lv 2])]) ((((gK [(1,.loc na),(2,.loc la),(3,.loc wa),(0,.loc rl),(4,.loc ol)]).set 5 (.int pre.length)).set 6 (Tm.s f as).av).set 7 b) (kQ (cA (je J (n+21)) []) (kQ (cA (je J (n+21)) []) (qh (Tn sy tT tell outer (xq sy tT tell outer [] rows s) na la wa A [(0,.loc rl),(4,.loc ol)] ((rl,.list (cI rows))::(ol,.list (outer.map .int))::r)) rows (pre++[(.lf (.s f as),b)]) post (kQ (cA (je J (n+21)) []) (kL Q))))) (Tm.avs as)):=λ u hu=>by
      have h2:=hz1.say (v:=jO tT f) (by unfold jO;split<;>rfl);refine At.eq (ae (λ v=>_::(la,bO.list (x.nl.ln++[v]))::_) hu) ?_;exact qF L (as:=as) (s:=x.nl.say (jO tT f)) (M:=[(1,.loc na),(2,.loc la),(3,.loc wa),(0,.loc rl),(4,.loc ol)]) ⟨rfl,rfl,rfl,rfl,rfl,trivial⟩ (λ ω=>⟨rfl,rfl,rfl,rfl,rfl,trivial⟩) (λ t s S ht hz h=>eV L _ (hn t ht) hz h) hth (h2.toSpOK.le (ah ..)) (go ⟨spellL as (x.nl.say (jO tT f)),x.ct⟩ (ae (λ v=>TS.mk (spellL as (x.nl.say v)) x.ct) (aK q).symm) _ _ ⟨rfl,rfl,rfl,rfl,rfl,trivial⟩)
     by_cases q3:f=tT
     ·apply bQ q3;apply bG 1 rfl;exact hP.ok.lml;exact fin _ (ae (λ u=>AV.tup [u,.int f]) (aL q3))
     ·apply bP q3;apply bG 1 rfl;exact hP.ok.lml;exact fin _ (ae (λ u=>AV.tup [u,.int f]) (aK q3))
  ·cases hr.nc
  ·apply gH (fc (Bd.sem u w).tm) rfl nz;apply bP (iY rfl);apply bJ;intro z;apply fF 0 rfl;apply dv (fc (Bd.sem u w).tm) rfl yv;apply bP (kq rfl);apply bJ;intro z2;apply fF 0 rfl;apply dv rfl rfl iM;apply bQ (xR.mpr (.inl rfl));refine At.drop2 (vK L IHp IH h0 rfl hr (hP.ok.less (ah ..)) he hok hR ho rfl λ m hm=>go _ rfl _ m hm)
  ·apply gH (fc (Bd.arr u w).tm) rfl nz;apply bP (iY rfl);apply bJ;intro z;apply fF 0 rfl;apply dv (fc (Bd.arr u w).tm) rfl yv;apply bP (kq rfl);apply bJ;intro z2;apply fF 0 rfl;apply dv rfl rfl iM;apply bQ (xR.mpr (.inr (.inl rfl)));refine At.drop2 (vK L IHp IH h0 rfl hr (hP.ok.less (ah ..)) he hok hR ho rfl λ m hm=>go _ rfl _ m hm)
  ·apply gH (fc (Bd.neg u).tm) rfl nz;apply bP (iY rfl);apply bJ;intro z;apply fF 0 rfl;apply dv (fc (Bd.neg u).tm) rfl yv;apply bP (kq rfl);apply bJ;intro z2;apply fF 0 rfl;apply dv rfl rfl iM;apply bQ (xR.mpr (.inr (.inr rfl)));refine At.drop2 (vK L IHp IH h0 rfl hr (hP.ok.less (ah ..)) he hok hR ho rfl λ m hm=>go _ rfl _ m hm)
 ·obtain rfl:x=xq sy tT tell outer [] rows s:=hP.e;exact At.rm [10] h
end
theorem JA {J:JT}(L:eZ J){sy:Sy}{tT:Int}(h0:jo sy)(hT:24<tT):∀ k,vc J sy tT (k+1) (2*k+22) (eK sy tT (k+1)):=by
 intro k
 induction k with
 |zero=>exact x7 L (sS h0 0) (λ ω e=>nomatch e) h0 hT
 |succ k ih=>exact x7 L (n:=2*k+2) (sS h0 (k+1)) (λ ω ω=>ih) h0 hT
end
end Mine
namespace Mine
open PySem
noncomputable section
set_option genCtorIdx false in
inductive It where
 |body (t:Bd) (tg:Int)|mark (k:Int)|own|fail
noncomputable def It.av:It→AV
 |.body t tg=>.tup [.str iP,dX t,.int tg]
 |.mark k=>.tup [.str pU,.int k]
 |.own=>.tup [.str uF]
 |.fail=>.tup [.str eO]
structure Wk where
 f:Int
 args:List Tm
 items:List It
 li:Addr
noncomputable def Wk.av (w:Wk):AV:=.tup [.int w.f,.tup (Tm.avs w.args),.loc w.li]
set_option genCtorIdx false in
inductive Gl where
 |call (f:Int) (ts:List Tm)|blt (f:Int) (ts:List Tm)|unify (x y:Tm)|cut|fail|cutto (k:Int)|level (k:Int)|mark (k:Int)
noncomputable def Gl.av:Gl→AV
 |.call f ts=>.tup [.str cG,.int f,.tup (Tm.avs ts)]
 |.blt f ts=>.tup [.str dY,.int f,.tup (Tm.avs ts)]
 |.unify x y=>.tup [.str dr,x.av,y.av]
 |.cut=>.tup [.str iV]
 |.fail=>.tup [.str eO]
 |.cutto k=>.tup [.str oO,.int k]
 |.level k=>.tup [.str eF,.int k]
 |.mark k=>.tup [.str pU,.int k]
structure vo where
 A:sO
 self:Addr
 sdx:Addr
 wl:Addr
 fr:Addr
 fdx:Addr
 inl:Addr
 test:Int
structure PS where
 nv:Int
 fo:Int
 sy:Sy
 work:List Wk
noncomputable def PS.vr (p:PS)(k:Int):PS:=⟨k,p.fo,p.sy,p.work⟩
noncomputable def PS.wk (p:PS)(w:List Wk):PS:=⟨p.nv,p.fo,p.sy,w⟩
noncomputable abbrev nsN (N:vo)(nv:Int):List (Sx×AV):=[(gO,.loc N.A.obj),(ko,.loc N.inl),(lP,.loc N.fr),(dj,.int nv),(ju,.loc N.wl)]
noncomputable def B (N:vo)(p:PS):List bT:=cF N.A p.sy++[(N.self,.inst 471 N.sdx),(N.sdx,.ns (nsN N p.nv)),(N.wl,.list (p.work.map Wk.av)),(N.fr,.inst 289 N.fdx),(N.fdx,.ns [(eM,.int p.fo)]),(N.inl,.dI [(N.test,.bool true)])]
structure Bp where
 st:Addr
 cdx:Addr
 gl:Addr
 tot:Addr
structure CS where
 goals:List Gl
 level:Int
 called:Bool
 kvs:List (Int×AV)
noncomputable def CS.lv (c:CS)(k:Int):CS:=⟨c.goals,k,c.called,c.kvs⟩
noncomputable def CS.add (c:CS)(g:Gl):CS:=⟨c.goals++[g],c.level,c.called,c.kvs⟩
noncomputable def CS.mark (c:CS):CS:=⟨c.goals,c.level,true,c.kvs⟩
noncomputable abbrev nsC (C:Bp)(l:Int)(b:Bool):List (Sx×AV):=[(iU,.loc C.tot),(cR,.loc C.gl),(eF,.int l),(gR,.bool b)]
noncomputable def GQ (C:Bp)(g:List AV)(l:Int)(b:Bool)(k:List (Int×AV)):List bT:=[(C.st,.inst 366 C.cdx),(C.cdx,.ns (nsC C l b)),(C.gl,.list g),(C.tot,.dI k)]
noncomputable def Cl (C:Bp)(c:CS):List bT:=GQ C (c.goals.map Gl.av) c.level c.called c.kvs
noncomputable def ce (cs:CS)(nv:Int):Int:=if cs.level<0 then nv else cs.level
noncomputable def fD (cs:CS)(nv:Int):Int:=if cs.level<0 then nv+1 else nv
noncomputable def kR (tg:Int)(cs:CS)(nv:Int):Gl:=if tg= -1 then (match cs.called with|true=>.cutto (ce cs nv)|false=>.cut)else .cutto tg
noncomputable def lu (tg:Int)(cs:CS)(nv:Int):CS:=if tg= -1 then (match cs.called with|true=>cs.lv (ce cs nv)|false=>cs)else cs
noncomputable def sB (tg:Int)(cs:CS)(nv:Int):Int:=if tg= -1 then (match cs.called with|true=>fD cs nv|false=>nv)else nv
noncomputable def fu (t:Bd)(nv:Int):List It:=match hc t with|true=>[.mark nv,.body t nv]|false=>[.body t (-1)]
noncomputable def n9 (t:Bd)(nv:Int):Int:=match hc t with|true=>nv+1|false=>nv
noncomputable def ql (t:Bd)(nv:Int):List It:=(match cY t with|true=>fu t nv|false=>[.body (.lf (.s 24 [t.tm])) (-1)])++[.own,.fail]
noncomputable def CQ (t:Bd)(nv:Int):Int:=match cY t with|true=>n9 t nv|false=>nv
noncomputable def lZ (l:List It):List AV:=l.map It.av
theorem iA (C:Bp)(cs:CS)(g:Gl)(r:List bT):Cl C (cs.add g)++r=GQ C (cs.goals.map Gl.av++[g.av]) cs.level cs.called cs.kvs++r:=ae (λ x=>GQ C x _ _ _++r) (cb ..)
theorem l1:1<900:=by decide
theorem l2:2<900:=by decide
theorem l3:3<900:=by decide
theorem l4:4<900:=by decide
theorem l5:5<900:=by decide
theorem kJ (t:Bd)(nv:Int):(fu t nv).length≤2:=by unfold fu;cases hc t;exact aM 1;exact au 2
section
variable {J:JT}(L:eZ J){n:Nat}{Q:bI}{N:vo}{p:PS}{C:Bp}{cs:CS}{r:List bT}
include L
theorem tS (h:At (B N (p.vr (p.nv+1))++r) (Q (.int p.nv))):At (B N p++r) (bR J (n+1) 391 Q [.loc N.self]):=by
 refine L.Normaliser_new_variable n _ _ Q rfl ?_;apply bS 6 7 rfl rfl rfl;apply cQ 6 7 rfl rfl;exact l5;rfl;exact h
theorem EK (h:At (B N ⟨p.nv,p.fo+1,p.sy,p.work⟩++r) (Q (.int p.fo))):At (B N p++r) (bR J (n+1) 286 Q [.loc N.fr]):=by
 refine L.Fresh_number n _ _ Q rfl ?_;apply bS 9 10 rfl rfl rfl;apply cQ 9 10 rfl rfl;exact l1;rfl;exact h
theorem xo (h:At (B N (p.vr (fD cs p.nv))++(Cl C (cs.lv (ce cs p.nv))++r)) (Q (.int (ce cs p.nv)))):At (B N p++(Cl C cs++r)) (bR J (n+2) 419 Q [.loc N.self,.loc C.st]):=by
 refine L.Normaliser_level_variable (n+1) _ _ Q rfl ?_;apply bS 12 13 rfl rfl rfl;unfold ce fD at h
 by_cases hl:cs.level<0
 ·rw[aL hl,aL hl]at h;apply bQ hl;apply cj 6 7 rfl rfl rfl;apply tS L;apply cQ 12 13 rfl rfl;exact l4;rfl;apply bS 12 13 rfl rfl rfl;exact h
 ·rw[aK hl,aK hl]at h;apply bP hl;apply bS 12 13 rfl rfl rfl;exact h
theorem Gx {tg:Int}(hz:cs.goals.length<100000)(h:At (B N (p.vr (sB tg cs p.nv))++(Cl C ((lu tg cs p.nv).add (kR tg cs p.nv))++r)) (Q .none)):At (B N p++(Cl C cs++r)) (bR J (n+3) 426 Q [.loc N.self,.loc C.st,.int tg]):=by
 refine L.Normaliser_cut (n+2) _ _ Q rfl ?_;have hg:(cs.goals.map Gl.av).length<cX:=eX (cw (au _) hz);unfold sB lu kR at h
 by_cases ht:tg= -1
 ·rw[aL ht,aL ht,aL ht]at h;apply bQ ht;apply bS 12 13 rfl rfl rfl;cases hc:cs.called with
  |true=>
   rw[hc]at h;apply bS 12 13 rfl rfl rfl;apply bF 14 rfl;apply cj 6 7 rfl rfl rfl;apply xo L;apply bG 14 rfl;exact hg;exact At.eq (ae (B N _++·) (iA ..)) h
  |false=>
   rw[hc]at h;apply bS 12 13 rfl rfl rfl;apply bF 14 rfl;apply bG 14 rfl;exact hg;exact At.eq (ae (B N _++·) (iA ..)) h
 ·rw[aK ht,aK ht,aK ht]at h;apply bP ht;apply bS 12 13 rfl rfl rfl;apply bF 14 rfl;apply bG 14 rfl;exact hg;exact At.eq (ae (B N _++·) (iA ..)) h
theorem C9 {t:Bd}(hz:t.nd<100000)(hw:t.ok)(h:∀ l,At ((l,.list (lZ (fu t p.nv)))::(B N (p.vr (n9 t p.nv))++r)) (Q (.loc l))):At (B N p++r) (bR J (n+2) 447 Q [.loc N.self,dX t]):=by
 refine L.Normaliser_condition (n+1) _ _ Q rfl ?_;unfold fu n9 at h;refine RI L hz hw ?_;cases hh:hc t with
 |true=>
  rw[hh]at h;apply cj 6 7 rfl rfl rfl;apply tS L;exact bJ h
 |false=>rw[hh]at h;exact bJ h
theorem OB {t:Bd}(hz:t.nd<100000)(hw:t.ok)(h:∀ b l1 l2,At ((b,.list [.loc l1,.loc l2])::(l1,.list (lZ (ql t p.nv)))::(l2,.list [])::(B N (p.vr (CQ t p.nv))++r)) (Q (.loc b))):At (B N p++r) (bR J (n+3) 461 Q [.loc N.self,dX t]):=by
 refine L.Normaliser_negation (n+2) _ _ Q rfl ?_;have fin:∀ its p',its.length≤2→(∀ b l1 l2,At ((b,.list [.loc l1,.loc l2])::(l1,.list (lZ (its++[.own,.fail])))::(l2,.list [])::(B N p'++r)) (Q (.loc b)))→
   ∀ l,At ((l,.list (lZ its))::(B N p'++r)) (cA (je J (n+2)) (dN.drop 1) ((args [.loc N.self,dX t]).set 2 (.loc l)) (kL Q)):=λ its p' hl h l=>by
  have hl:(lZ its).length≤2:=aa (am (ak _)) hl;apply bF 0 rfl;apply bG 0 rfl;exact ac hl (by decide);apply bF 0 rfl;apply bG 0 rfl;exact bK (lZ its) _▸ac (aD hl) (by decide);apply bJ;intro l2;apply bJ;intro b;refine At.pk [0,1] (At.eq (ae (λ x=>_::(l,bO.list x)::_) ?_) (h b l l2));rw[lZ,aN,ao];rfl
 unfold ql CQ at h;refine Dm L hz hw ?_;cases hh:cY t with
 |true=>
  rw[hh]at h;apply cj 6 7 rfl rfl rfl;exact C9 L hz hw (fin _ _ (kJ ..) h)
 |false=>
  rw[hh]at h;refine L.struct (n+1) _ _ _ rfl ?_;exact bJ (fin [.body (.lf (.s 24 [t.tm])) (-1)] p (aM 1) h)
end
noncomputable def lj (tg:Int)(nv:Int):Bd→List It
 |.arr x y=>fu x nv++[.own,.body y tg]
 |.lf t=>[.body (.lf t) tg]
 |.com x y=>[.body (.com x y) tg]
 |.sem x y=>[.body (.sem x y) tg]
 |.neg x=>[.body (.neg x) tg]
noncomputable def lT (nv:Int):Bd→Int
 |.arr x _=>n9 x nv
 |_=>nv
noncomputable def tj (tg:Int):Int→List Bd→List (List It)
 |_,[]=>[]
 |nv,t::r=>lj tg nv t::tj tg (lT nv t) r
noncomputable def Cw:Int→List Bd→Int
 |nv,[]=>nv
 |nv,t::r=>Cw (lT nv t) r
theorem oF (tg:Int)(l:List Bd):∀ nv,(tj tg nv l).length=l.length:=by
 induction l with
 |nil=>exact λ ω=>rfl
 |cons t r ih=>exact λ nv=>ae (·+1) (ih _)
structure Zz where
 lis:List Addr
 its:List (List It)
 nv:Int
structure BrP (tg:Int)(all:List (List It))(nvf:Int)(ps ys:List Bd)(x:Zz):Prop where
 e:x.its++tj tg x.nv ys=all
 n:Cw x.nv ys=nvf
 l:x.lis.length=x.its.length
 s:∀ z∈ys,z∈ps
noncomputable def IZ (tg:Int)(all:List (List It))(nvf:Int)(N:vo)(p:PS)(bl sl:Addr)(ps:List Bd)(M:List (Nat×AV))(r:List bT):For Bd Zz:=
 ⟨dX,λ ω=>(0,.loc N.self)::(2,.int tg)::(3,.loc bl)::M,λ x=>B N (p.vr x.nv)++((sl,.list (ps.map dX))::(bl,.list (x.lis.map .loc))::(r++lO x.lis (x.its.map lZ))),BrP tg all nvf ps⟩
theorem OP (l:List It)(i:It):lZ (l++[i])=lZ l++[i.av]:=cb ..
section
variable {J:JT}(L:eZ J){n:Nat}{Q:bI}{N:vo}{p:PS}{r:List bT}
include L
theorem V8 {t:Bd}{tg:Int}(hz:t.nd<100000)(hw:t.ok)(h:∀ b lis,lis.length=(tj tg p.nv (bW t)).length→At (B N (p.vr (Cw p.nv (bW t)))++((b,.list (lis.map .loc))::(r++lO lis ((tj tg p.nv (bW t)).map lZ)))) (Q (.loc b))):At (B N p++r) (bR J (n+3) 454 Q [.loc N.self,dX t,.int tg]):=by
 refine L.Normaliser_branches (n+2) _ _ Q rfl (bJ λ bl=>At.mid (l₁:=B N p) (Fi L hz hw λ sl=>At.mid (l₁:=B N p) ?_));have sl':(bW t).length<100000:=ac (aa (mz _) (pW t)) hz;refine fj (IZ tg (tj tg p.nv (bW t)) (Cw p.nv (bW t)) N p bl sl (bW t) [] r) (bW t) ⟨[],[],p.nv⟩ 12 (ae (λ x=>B N p++(_::_::x)) (aq r)) ⟨rfl,rfl,rfl,trivial⟩ rfl (λ ω=>rfl) ⟨rfl,rfl,rfl,λ ω h=>h⟩ (λ y ys x hP=>?_) λ x hP=>?_
 ·have hy:=ve ⟨au _,au _,hw⟩ y (hP.s y (af ..));have hll:(x.lis.map AV.loc).length<cX:=by
   refine eX (cw (am hP.l) (ac ?_ sl'));rw[←oF tg (bW t) p.nv,←hP.e,ay];exact ah ..
  have step:∀ a its nv m,its=lj tg x.nv y→nv=lT x.nv y→mO m [(0,.loc N.self),(2,.int tg),(3,.loc bl)]→
    At ((a,.list (lZ its))::(B N (p.vr nv)++((sl,.list ((bW t).map dX))::(bl,.list (x.lis.map .loc++[.loc a]))::(r++lO x.lis (x.its.map lZ))))) (jP (IZ tg (tj tg p.nv (bW t)) (Cw p.nv (bW t)) N p bl sl (bW t) [] r) ys (kQ (cA (je J (n+2)) [.ret (.lv 3)]) (kL Q)) .next m):=λ a its nv m e1 e2 hm=>by
   refine At.snoc (dp ⟨x.lis++[a],x.its++[its],nv⟩ ?_ hm ⟨?_,?_,?_,λ z hz=>hP.s z (ag _ hz)⟩)
   ·show B N (p.vr nv)++(_::(bl,bO.list ((x.lis++[a]).map .loc))::(r++lO (x.lis++[a]) ((x.its++[its]).map lZ)))=_;rw[cb,cb,vd (hP.l.trans (ak _).symm),←ao r];rfl
   ·rw[ao,e1,e2];exact hP.e
   ·rw[e2];exact hP.n
   ·rw[bK,bK,hP.l]
  have one:lj tg x.nv y=[.body y tg]→lT x.nv y=x.nv→At (B N (p.vr x.nv)++((sl,.list ((bW t).map dX))::(bl,.list (x.lis.map .loc))::(r++lO x.lis (x.its.map lZ)))) (cA (je J (n+2)) [.asg 5 (.lst [.tup [.str iP,.lv 4,.lv 2]])] ((gK [(0,.loc N.self),(2,.int tg),(3,.loc bl)]).set 4 (dX y))
    (kQ (cA (je J (n+2)) [.ex (.append (.lv 3) (.lv 5))]) (jP (IZ tg (tj tg p.nv (bW t)) (Cw p.nv (bW t)) N p bl sl (bW t) [] r) ys (kQ (cA (je J (n+2)) [.ret (.lv 3)]) (kL Q))))):=λ e1 e2=>by
   apply bJ;intro a;apply bF 14 rfl;apply bG 14 rfl hll;exact step a [.body y tg] _ _ e1.symm e2.symm ⟨rfl,rfl,rfl,trivial⟩
  rcases y with t'|⟨u,w⟩|⟨u,w⟩|⟨u,w⟩|u
  ·rcases t' with k|k|k|⟨f,as⟩
   ·exact one rfl rfl
   ·exact one rfl rfl
   ·exact one rfl rfl
   ·exact bP (gW hy.ok.1 (by decide)) (one rfl rfl)
  ·exact bP (by decide) (one rfl rfl)
  ·exact bP (by decide) (one rfl rfl)
  ·apply bQ rfl;apply cj 6 7 rfl rfl rfl;refine C9 L (p:=p.vr x.nv) (ac (aa (aB (ah ..)) hy.nd) hz) hy.ok.1 λ a=>?_;have hc:(lZ (fu u x.nv)).length≤2:=aa (am (ak _)) (kJ ..);apply bF 0 rfl;apply bG 0 rfl;exact ac hc (by decide);apply bF 0 rfl;apply bG 0 rfl;exact bK (lZ (fu u x.nv)) _▸ac (aD hc) (by decide);apply bF 14 rfl;apply bG 14 rfl hll;refine At.eq (ae (λ z=>(a,bO.list z)::_) ?_) (step a (fu u x.nv++[.own,.body w tg]) _ _ rfl rfl ⟨rfl,rfl,rfl,trivial⟩);rw[lZ,aN,ao];rfl
  ·exact bP (by decide) (one rfl rfl)
 ·rcases x with⟨lis,its,nv⟩
  have hn:nv=Cw p.nv (bW t):=hP.n;have he:its=tj tg p.nv (bW t):=(aq its).symm.trans hP.e;subst hn he;exact At.rm [12] (h bl lis hP.l)
end
noncomputable def cg (occ:List Int)(t:Tm):List Int:=(dd [] t.vars).filter λ k=>decide (t.vars.count k<occ.count k)
noncomputable def iI (g:Bd)(tg:Int)(cs:CS)(nv:Int):Int:=match hc g with|false=> -1|true=>if tg= -1 then ce cs nv else tg
noncomputable def zK (g:Bd)(tg:Int)(cs:CS)(nv:Int):CS:=match hc g with|false=>cs|true=>if tg= -1 then cs.lv (ce cs nv)else cs
noncomputable def m4 (g:Bd)(tg:Int)(cs:CS)(nv:Int):Int:=match hc g with|false=>nv|true=>if tg= -1 then fD cs nv else nv
noncomputable def tD (occ:List Int)(g:Bd)(tg:Int)(cs:CS)(nv:Int):List Tm:=cK (cg occ g.tm)++(match hc g with|false=>[]|true=>[.v (iI g tg cs nv)])
noncomputable def jd (bt nv:Int):Bd→List (List It)
 |.neg x=>[ql x nv,[]]
 |.sem x y=>tj bt nv (bW (.sem x y))
 |.arr x y=>tj bt nv (bW (.arr x y))
 |_=>[]
noncomputable def Es (nv:Int):Bd→Int
 |.neg x=>CQ x nv
 |.sem x y=>Cw nv (bW (.sem x y))
 |.arr x y=>Cw nv (bW (.arr x y))
 |_=>nv
noncomputable def qk (occ:List Int)(g:Bd)(tg:Int)(cs:CS)(p:PS):Int×Sy:=p.sy.func (pJ++jR p.fo) (tD occ g tg cs p.nv).length
noncomputable def on (fn:Int)(as:List Tm):List Addr→List (List It)→List Wk
 |a::l,i::r=>⟨fn,as,i,a⟩::on fn as l r
 |_,_=>[]
noncomputable def Ds (occ:List Int)(g:Bd)(tg:Int)(cs:CS)(p:PS)(lis:List Addr):PS:=
 ⟨Es (m4 g tg cs p.nv) g,p.fo+1,(qk occ g tg cs p).2,p.work++on (qk occ g tg cs p).1 (tD occ g tg cs p.nv) lis (jd (iI g tg cs p.nv) (m4 g tg cs p.nv) g)⟩
noncomputable def Fo (occ:List Int)(g:Bd)(tg:Int)(cs:CS)(p:PS):CS:=((zK g tg cs p.nv).add (.call (qk occ g tg cs p).1 (tD occ g tg cs p.nv))).mark
theorem Pb {fn:Int}{as:List Tm}{a:Addr}{i:List It}:∀ {l:List Addr} {r:List (List It)},l.length=r.length→on fn as (l++[a]) (r++[i])=on fn as l r++[⟨fn,as,i,a⟩]:=by
 intro l
 induction l with
 |nil=>intro r h;rcases r with _|_;rfl;cases h
 |cons x l ih=>intro r h;rcases r with _|⟨y,r⟩;cases h;exact ae (_::·) (ih (Nat.succ.inj h))
theorem tI {i:Int}(h0:0≤i)(h1:i<100):(jR i).length≤10:=by
 obtain⟨k,rfl⟩:=Int.eq_ofNat_of_zero_le h0;have:∀ k:_root_.Fin 100,(jR ((k.val:Nat):Int)).length≤10:=by decide+kernel
 exact this ⟨k,Int.ofNat_lt.mp h1⟩
theorem wy {k:Int}(l:List Int):∀ {acc:List Int},k∈dd acc l→k∈acc∨k∈l:=by
 induction l with
 |nil=>exact .inl
 |cons x r ih=>
  intro acc h
  by_cases q:x∈acc
  ·rw[oe q]at h;exact (ih h).imp_right (ag _)
  ·rw[kj q]at h;exact (ih h).elim (λ z=>(eh.mp z).elim (λ e=>.inr (e▸af ..)) .inl) λ z=>.inr (ag _ z)
theorem oA.has {kvs:List (Int×AV)}{l:List Int}(h:oA kvs l){k:Int}(hk:k∈l):bM kvs k=some (.int (l.count k)):=(h.get k).trans (aK (Nat.ne_of_gt (List.count_pos_iff.mpr hk)))
structure KaP (occ:List Int)(t:Tm)(ys acc:List Int):Prop where
 e:acc++ys.filter (λ k=>decide (t.vars.count k<occ.count k))=cg occ t
 s:∀ k∈ys,k∈t.vars
 z:acc.length+ys.length≤t.vars.length
noncomputable def X2 (occ:List Int)(t:Tm)(al:Addr)(M:List (Nat×AV))(vl:bT)(r:List bT):For Int (List Int):=⟨.int,λ ω=>(5,.loc al)::M,λ acc=>vl::(al,.list (Tm.avs (cK acc)))::r,KaP occ t⟩
theorem C5 (l:List Int)(k:Int):Tm.avs (cK (l++[k]))=Tm.avs (cK l)++[(Tm.v k).av]:=by rw[cK,aN,ez];rfl
theorem wU (l:List Int):(Tm.avs (cK l)).length=l.length:=(dk _).trans (ak _)
structure WkG where
 l1:List Addr
 l2:List Addr
structure WkP (its:List (List It))(lis ys:List Addr)(x:List Addr):Prop where
 e:x++ys=lis
theorem yT {fn:Int}{as:List Tm}{a:Addr}:∀ {l1:List Addr} {l2:List Addr} {its:List (List It)},(l1++a::l2).length=its.length→∃ i,on fn as (l1++[a]) its=on fn as l1 its++[⟨fn,as,i,a⟩]:=by
 intro l1
 induction l1 with
 |nil=>intro l2 its h;rcases its with _|⟨i,its⟩;cases h;exact⟨i,rfl⟩
 |cons x l1 ih=>intro l2 its h;rcases its with _|⟨i,its⟩;cases h;obtain⟨j,e⟩:=ih (Nat.succ.inj h);exact⟨j,ae (_::·) e⟩
theorem FB {fn:Int}{as:List Tm}:∀ (l:List Addr) (its:List (List It)),(on fn as l its).length≤its.length:=by
 intro l
 induction l with
 |nil=>exact λ its=>aI _
 |cons x l ih=>intro its;rcases its with _|⟨i,its⟩;exact au 0;exact aD (ih its)
noncomputable def V2 (N:vo)(p:PS)(fn:Int)(as:List Tm)(its:List (List It))(lis:List Addr)(bl:Addr)(M:List (Nat×AV))(r:List bT):For Addr (List Addr):=
 ⟨.loc,λ ω=>M,λ x=>B N (p.wk (p.work++on fn as x its))++((bl,.list (lis.map .loc))::r),WkP its lis⟩
section
variable {J:JT}(L:eZ J){n:Nat}{Q:bI}{N:vo}{p:PS}{C:Bp}{cs:CS}{r:List bT}
include L
theorem DQ {fn:Int}{as:List Tm}{its:List (List It)}{lis:List Addr}{bl:Addr}{m:bB}{S:cm}{st:Addr}(hl:lis.length=its.length)(hz:p.work.length+its.length<100000)
  (hm:mO m [(0,.loc N.self),(1,.loc st),(5,.tup (Tm.avs as)),(9,.int fn),(10,.loc bl)])
  (h:At (B N (p.wk (p.work++on fn as lis its))++r) (S .next (gK [(0,.loc N.self),(1,.loc st),(5,.tup (Tm.avs as)),(9,.int fn)]))):
  At (B N p++((bl,.list (lis.map .loc))::r)) (Sl (je J n) (.fore 11 (.lv 10) [.ex (.append (.attr 471 (.lv 0) ju) (.tup [.lv 9,.lv 5,.lv 11]))]) m S):=by
 apply eR hm.2.2.2.2.1;refine fj (V2 N p fn as its lis bl [(0,.loc N.self),(1,.loc st),(5,.tup (Tm.avs as)),(9,.int fn)] r) lis [] 12 (ae (λ w=>B N (p.wk w)++_) (aq _)) ⟨hm.1,hm.2.1,hm.2.2.1,hm.2.2.2.1,trivial⟩ rfl (λ ω=>rfl) ⟨rfl⟩ (λ y ys x hP=>?_) λ x hP=>?_
 ·obtain⟨i,e⟩:=yT (fn:=fn) (as:=as) (its:=its) (l1:=x) (a:=y) (l2:=ys) ((ae List.length hP.e).trans hl);apply bS 6 7 rfl rfl rfl;apply bF 8 rfl;apply bG 8 rfl
  ·refine eX (cw ?_ hz);show (p.work++on fn as x its).length≤_;rw[ay];exact aP (FB ..) _
  ·refine dp (x++[y]) ?_ ⟨rfl,rfl,rfl,rfl,trivial⟩ ⟨(ao ..).trans hP.e⟩;show B N (p.wk (p.work++on fn as (x++[y]) its))++_=_;rw[e,←ao];exact ae (λ w=>cF N.A p.sy++[_,_,(N.wl,bO.list w),_,_,_]++_) (cb ..)
 ·exact At.rm [12] ((show lis=x from ((aq x).symm.trans hP.e).symm)▸h)
theorem I8 {g:Bd}(hg:g.isCh=true)(hz:g.nd<100000)(hw:g.ok){l:List bT}{K:BP}{m:bB}(hm:m 2=some (dX g))(h:At l (K (hc g))):At l (Z5 (je J (n+1)) (.and [.cmp .NotEq (.sub (.lv 2) (.int 1)) (.gi 4),.call 349 [.lv 2]]) m K):=by
 apply eR hm;have go:At l (tq (m 2) (Wq (yX (je J (n+1)) []) m (bR J (n+1) 349 (vi (yY (K true) (K false)))))):=by
  refine eR hm (RI L hz hw ?_);cases e:hc g with
  |true=>rw[e]at h;exact h
  |false=>rw[e]at h;exact h
 rcases g with t|⟨x,y⟩|⟨x,y⟩|⟨x,y⟩|x
 ·cases hg
 ·cases hg
 ·exact bP (by decide) go
 ·exact bP (by decide) go
 ·exact bQ rfl h
end
theorem sN (m:bB)(k:Nat)(x y:AV):(m.set k x).set k y=m.set k y:=by
 funext i
 unfold bB.set;cases Nat.beq i k<;>rfl
theorem Ec {bt nv:Int}{g:Bd}(hg:g.isCh=true)(hn:∀ x,g≠.neg x):jd bt nv g=tj bt nv (bW g)∧Es nv g=Cw nv (bW g):=by
 rcases g with t|⟨x,y⟩|⟨x,y⟩|⟨x,y⟩|x
 ·cases hg
 ·cases hg
 ·exact⟨rfl,rfl⟩
 ·exact⟨rfl,rfl⟩
 ·exact absurd rfl (hn x)
theorem FN {bt nv:Int}{g:Bd}(hz:g.nd<1000):(jd bt nv g).length<1001:=by
 have h:∀ b,b.nd<1000→(tj bt nv (bW b)).length<1001:=λ b hb=>ac (aa (am (oF ..)) (aa (mz _) (pW b))) (Nat.lt_succ_of_lt hb);rcases g with t|⟨x,y⟩|⟨x,y⟩|⟨x,y⟩|x
 ·exact aV _
 ·exact aV _
 ·exact h _ hz
 ·exact h _ hz
 ·exact show 2<1001 by decide
section
variable {J:JT}(L:eZ J){n:Nat}{Q:bI}{N:vo}{p:PS}{C:Bp}{cs:CS}{r:List bT}
include L
theorem Cp {g:Bd}{tg:Int}{occ:List Int}(hg:g.isCh=true)(hz:g.tm.sz<1000)(hnd:g.nd<1000)(hw:g.ok)(ho:oA cs.kvs occ)(hsub:∀ k∈g.tm.vars,k∈occ)(h0:0≤p.fo)(h20:p.fo<100)(hts:p.sy.ts.length<1000000)(hfs:p.sy.fs.length<1000000)(hgl:cs.goals.length<100000)(hwk:p.work.length<90000)
  (h:∀ lis,lis.length=(jd (iI g tg cs p.nv) (m4 g tg cs p.nv) g).length→At (B N (Ds occ g tg cs p lis)++(Cl C (Fo occ g tg cs p)++(r++lO lis ((jd (iI g tg cs p.nv) (m4 g tg cs p.nv) g).map lZ)))) (Q .none)):At (B N p++(Cl C cs++r)) (bR J (n+5) 440 Q [.loc N.self,.loc C.st,dX g,.int tg]):=by
 have hz':g.tm.sz<100000:=aw hz (by decide);have hnd':g.nd<100000:=aw hnd (by decide);have hvl:=eJ g.tm;refine L.Normaliser_auxiliary (n+4) _ _ Q rfl (Gv L (t:=g.tm) hz' λ inn kn hk=>bJ λ al=>zW L (t:=g.tm) hz' λ vl=>?_);refine fj (X2 occ g.tm al [(0,.loc N.self),(1,.loc C.st),(2,dX g),(3,.int tg),(4,.loc inn)] (vl,.list ((dd [] g.tm.vars).map .int)) ((inn,.dI kn)::(B N p++(Cl C cs++r)))) (dd [] g.tm.vars) [] 0 rfl ⟨rfl,rfl,rfl,rfl,rfl,rfl,trivial⟩ rfl (λ ω=>rfl)
  ⟨rfl,λ k hk=>(wy _ hk).resolve_left nofun,aa (am (aU _)) (aa (wn ..) (am (aU _)))⟩ (λ y ys acc hP=>?_) λ acc hP=>?_
 ·have hy:=hP.s y (af ..);have zl:acc.length+ys.length≤g.tm.vars.length:=aa (aP (aM _) _) hP.z;apply bS 15 16 rfl rfl rfl;apply iR 18 rfl;exact ho.has (hsub y hy);apply iR 2 rfl;exact hk.has hy
  by_cases hc:g.tm.vars.count y<occ.count y
  ·apply bQ (ba hc);apply bF 1 rfl;apply Ay L;apply bG 1 rfl;exact ac (am (wU _)) (cw (aa (ah ..) (aa zl hvl)) hz');refine dp (acc++[y]) (ae (λ x=>_::(al,bO.list x)::_) (C5 acc y)) ⟨rfl,rfl,rfl,rfl,rfl,rfl,trivial⟩ ⟨(ao ..).trans ((ae (acc++·) (List.filter_cons_of_pos (p:=λ k=>decide (g.tm.vars.count k<occ.count k)) (decide_eq_true hc)).symm).trans hP.e),λ k hk=>hP.s k (ag _ hk),?_⟩;rw[bK,aQ,bh 1];exact hP.z
  ·apply bP (mt Int.ofNat_lt.mp hc);exact dp acc rfl ⟨rfl,rfl,rfl,rfl,rfl,rfl,trivial⟩ ⟨(ae (acc++·) (List.filter_cons_of_neg (p:=λ k=>decide (g.tm.vars.count k<occ.count k)) λ z=>hc (bg z)).symm).trans hP.e,λ k hk=>hP.s k (ag _ hk),zl⟩
 obtain rfl:acc=cg occ g.tm:=(aq acc).symm.trans hP.e;refine At.rm [0,1] ?_;have rest:∀ bt a1 cs1 nv1,bt=iI g tg cs p.nv→a1=tD occ g tg cs p.nv→cs1=zK g tg cs p.nv→nv1=m4 g tg cs p.nv→∀ m,m=(gK [(5,.loc al),(0,.loc N.self),(1,.loc C.st),(2,dX g),(3,.int tg),(4,.loc inn)]).set 7 (.int bt)→
   At ((al,.list (Tm.avs a1))::(B N (p.vr nv1)++(Cl C cs1++r))) (cA (je J (n+4)) (cC.drop 5) m (kL Q)):=by
  intro bt a1 cs1 nv1 e1 e2 e3 e4 m em;subst em;apply uz 0 rfl;refine At.drop1 ?_;apply bS 6 7 rfl rfl rfl;apply cj 9 10 rfl rfl rfl;refine EK L (p:=p.vr nv1) ?_;apply Gz h0 (Int.lt_trans h20 (by decide));apply zX;exact aa (aP (tI h0 h20) 4) (by decide);apply bS 6 7 rfl rfl rfl;apply cj 0 1 rfl rfl rfl;refine j7 L (s:=p.sy) hts hfs ?_;have hS:p.sy.func (pJ++jR p.fo) ((Tm.avs a1).length:Nat)=qk occ g tg cs p:=by unfold qk;rw[dk,e2]
  rw[hS];generalize hfs:qk occ g tg cs p=fs at h;have fin:∀ b lis nv m,m=((((gK [(5,.loc al),(0,.loc N.self),(1,.loc C.st),(2,dX g),(3,.int tg),(4,.loc inn)]).set 7 (.int bt)).set 5 (.tup (Tm.avs a1))).set 8 (.str (pJ++jR p.fo))).set 9 (.int fs.1)→nv=Es nv1 g→lis.length=(jd bt nv1 g).length→
    At (B N ⟨nv,p.fo+1,fs.2,p.work⟩++((b,.list (lis.map .loc))::((Cl C cs1++r)++lO lis ((jd bt nv1 g).map lZ)))) (cA (je J (n+4)) (cC.drop 9) (m.set 10 (.loc b)) (kL Q)):=by
   intro b lis nv m em en hl;subst em;refine DQ L (p:=⟨nv,p.fo+1,fs.2,p.work⟩) (fn:=fs.1) (as:=a1) (its:=jd bt nv1 g) (st:=C.st) hl (aO (Nat.add_lt_add hwk (FN hnd)) (by decide)) ⟨rfl,rfl,rfl,rfl,rfl,trivial⟩ ?_;apply bS 12 13 rfl rfl rfl;apply bF 14 rfl;apply bG 14 rfl;exact eX (cw (am (by rw[e3];unfold zK;cases hc g;rfl;dsimp only;split<;>rfl)) hgl);apply cQ 12 13 rfl rfl;exact l4;rfl;refine At.eq ?_ (h lis (e1▸e4▸hl));unfold Ds Fo;rw[hfs,←e1,←e2,←e3,←e4,←en];show B N _++(GQ C ((cs1.goals++[_]).map Gl.av) _ _ _++_)=_;rw[cb,←ao (GQ _ _ _ _ _)];rfl
  have brc:(∀ x,g≠.neg x)→At (B N ⟨nv1,p.fo+1,fs.2,p.work⟩++(Cl C cs1++r)) (cA (je J (n+4)) [.asg 10 (.meth 471 (.lv 0) lG 454 [.lv 2,.lv 7])] (((((gK [(5,.loc al),(0,.loc N.self),(1,.loc C.st),(2,dX g),(3,.int tg),(4,.loc inn)]).set 7 (.int bt)).set 5 (.tup (Tm.avs a1))).set 8 (.str (pJ++jR p.fo))).set 9 (.int fs.1)) (kQ (cA (je J (n+4)) (cC.drop 9)) (kL Q))):=λ hn=>by
   have hb:=Ec (bt:=bt) (nv:=nv1) hg hn;apply cj 6 7 rfl rfl rfl;refine V8 L (p:=⟨nv1,p.fo+1,fs.2,p.work⟩) hnd' hw λ b lis hl=>?_;exact hb.1▸fin b lis _ _ rfl hb.2.symm (hb.1▸hl)
  show At (B N ⟨nv1,p.fo+1,fs.2,p.work⟩++(Cl C cs1++r)) _;rcases g with t|⟨x,y⟩|⟨x,y⟩|⟨x,y⟩|x
  ·cases hg
  ·cases hg
  ·exact bP (by decide) (brc nofun)
  ·exact bP (by decide) (brc nofun)
  ·apply bQ rfl;apply cj 6 7 rfl rfl rfl;refine OB L (p:=⟨nv1,p.fo+1,fs.2,p.work⟩) (Nat.lt_of_succ_lt hnd') hw λ b l1 l2=>?_;refine At.pk [1] (At.snoc (At.pk [1] (At.snoc (At.mid (l₁:=B N _) ?_))));refine At.eq (ae (λ z=>B N _++(_::z)) ?_) (fin b [l1,l2] _ _ rfl rfl rfl);exact (ao (Cl C cs1++r) [_] [_]).symm
 show At _ (Z5 (je J (n+4)) (.and [.cmp .NotEq (.sub (.lv 2) (.int 1)) (.gi 4),.call 349 [.lv 2]]) ((gK [(5,.loc al),(0,.loc N.self),(1,.loc C.st),(2,dX g),(3,.int tg),(4,.loc inn)]).set 7 (.int (-1))) (yY _ _));refine I8 L hg hnd' hw rfl ?_;unfold tD iI zK m4 at rest;have hl:(Tm.avs (cK (cg occ g.tm))).length<cX:=ac (am (wU _)) (cw (aa (ah ..) (aa hP.z hvl)) hz');cases hh:hc g with
 |false=>rw[hh]at rest;exact rest _ _ _ _ rfl (aq _).symm rfl rfl _ rfl
 |true=>
  rw[hh]at rest
  by_cases q:tg= -1
  ·apply bQ q;apply cj 7 8 rfl rfl rfl;refine At.mid (l₁:=B N p++Cl C cs) ?_;refine xo L (p:=p) (cs:=cs) (r:=(al,.list (Tm.avs (cK (cg occ g.tm))))::r) ?_;apply bF 16 rfl;apply Ay L;apply bG 16 rfl hl;refine At.pk [16] (At.eq (ae (λ z=>(al,bO.list z)::_) (ez ..)) (rest (ce cs p.nv) (cK (cg occ g.tm)++[.v (ce cs p.nv)]) _ _ (aL q).symm ?_ (aL q).symm (aL q).symm _ ((sN ..).trans (sN ..))));exact ae (λ z=>cK (cg occ g.tm)++[Tm.v z]) (aL q).symm
  ·apply bP q;apply bF 0 rfl;apply Ay L;apply bG 0 rfl hl;refine At.eq (ae (λ z=>(al,bO.list z)::_) (ez ..)) (rest tg (cK (cg occ g.tm)++[.v tg]) _ _ (aK q).symm ?_ (aK q).symm (aK q).symm _ (sN ..));exact ae (λ z=>cK (cg occ g.tm)++[Tm.v z]) (aK q).symm
end
structure LJ (sy:Sy)(test n:Int):Prop where
 c:n=15→(sy.functor n 0).1=20
 f:n=17∨n=18→(sy.functor n 0).1=22∨(sy.functor n 0).1=23
 n:n≠15→¬ (n=17∨n=18)→24<(sy.functor n 0).1∧(sy.functor n 0).1≠test
noncomputable def Dq (test tg:Int)(cs:CS)(p:PS):Tm→CS
 |.a n=>if n=15 then (lu tg cs p.nv).add (kR tg cs p.nv)else if n=17∨n=18 then cs.add .fail else (cs.add (.call (p.sy.functor n 0).1 [])).mark
 |.s f as=>if f=10 then (match as with|[x,y]=>cs.add (.unify x y)|_=>cs)else if f=test then cs.add (.blt f as)else (cs.add (.call f as)).mark
 |.v n=>(cs.add (.call 24 [.v n])).mark
 |.i n=>(cs.add (.call 24 [.i n])).mark
noncomputable def SA (tg:Int)(cs:CS)(p:PS):Tm→PS
 |.a n=>⟨if n=15 then sB tg cs p.nv else p.nv,p.fo,(p.sy.functor n 0).2,p.work⟩
 |_=>p
noncomputable def pQ (occ:List Int)(test tg:Int)(cs:CS)(p:PS):Bd→CS
 |.lf t=>Dq test tg cs p t
 |.com _ _=>cs
 |.sem x y=>Fo occ (.sem x y) tg cs p
 |.arr x y=>Fo occ (.arr x y) tg cs p
 |.neg x=>Fo occ (.neg x) tg cs p
noncomputable def C4 (occ:List Int)(tg:Int)(cs:CS)(p:PS)(lis:List Addr):Bd→PS
 |.lf t=>SA tg cs p t
 |.com _ _=>p
 |.sem x y=>Ds occ (.sem x y) tg cs p lis
 |.arr x y=>Ds occ (.arr x y) tg cs p lis
 |.neg x=>Ds occ (.neg x) tg cs p lis
noncomputable def nR (tg:Int)(cs:CS)(p:PS)(g:Bd):List (List It):=jd (iI g tg cs p.nv) (m4 g tg cs p.nv) g
structure Wv (occ:List Int)(test:Int)(cs:CS)(p:PS)(g:Bd):Prop where
 tz:g.tm.sz<1000
 nd:g.nd<1000
 ok:g.ok
 nc:g.isCom=false
 ho:oA cs.kvs occ
 sub:∀ k∈g.tm.vars,k∈occ
 f0:0≤p.fo
 f1:p.fo<100
 ts:p.sy.ts.length<1000000
 fs:p.sy.fs.length<1000000
 gl:cs.goals.length<100000
 wk:p.work.length<90000
 at_:∀ n,g=.lf (.a n)→LJ p.sy test n
theorem pM (C:Bp)(cs:CS)(g:Gl)(r:List bT):Cl C (cs.add g).mark++r=GQ C (cs.goals.map Gl.av++[g.av]) cs.level true cs.kvs++r:=ae (λ x=>GQ C x _ _ _++r) (cb ..)
theorem vR {cs:CS}(h:cs.goals.length<100000):(cs.goals.map Gl.av).length<cX:=eX (cw (au _) h)
section
variable {J:JT}(L:eZ J){n:Nat}{Q:bI}{A:sO}{s:Sy}{r:List bT}
include L
theorem p6 {t:Tm}(hz:s.fs.length<1000000)(ha:t.isAt=false)(hs:JK t=false)(hv:∀ k,t≠.v k)(h:∀ f as,t=.s f as→At r (Q (.int f))):At r (bR J (n+2) 193 Q [.loc A.obj,t.av]):=by
 refine L.functor_in (n+1) _ _ Q rfl ?_;rcases t with j|j|j|⟨f,as⟩
 ·exact absurd rfl (hv j)
 ·cases ha
 ·cases hs
 ·exact h f as rfl
theorem Bw {k:Int}(hz:s.fs.length<1000000)(h:At (cF A (s.functor k 0).2++r) (Q (.int (s.functor k 0).1))):At (cF A s++r) (bR J (n+2) 193 Q [.loc A.obj,(Tm.a k).av]):=by
 refine L.functor_in (n+1) _ _ Q rfl ?_;apply cj 0 1 rfl rfl rfl;exact rz L hz h
end
theorem vI {f k:Int}(h:24≤f)(hk:k<24):f≠k:=Int.ne_of_gt (aJ hk h)
section
variable {J:JT}(L:eZ J){n:Nat}{Q:bI}{N:vo}{p:PS}{C:Bp}{cs:CS}{r:List bT}
include L
theorem A4 {f:Int}{as:List Tm}{v:AV}{tg:Int}(hf:24≤f)(hgl:(cs.goals.map Gl.av).length<cX)(hb:f=N.test→At (B N p++(Cl C (cs.add (.blt f as))++r)) (Q .none))(hc:f≠N.test→At (B N p++(Cl C (cs.add (.call f as)).mark++r)) (Q .none)):
  At (B N p++(Cl C cs++r)) (cA (je J (n+5)) (eY.drop 3) (((args [.loc N.self,.loc C.st,v,.int tg]).set 4 (.int f)).set 5 (.tup (Tm.avs as))) (kL Q)):=by
 apply bP (vI hf (by decide));apply bP (vI hf (by decide));apply bP (vI hf (by decide));apply bP (vI hf (by decide));apply bP (vI hf (by decide));apply bP (vI hf (by decide));apply bP (vI hf (by decide));apply bS 6 7 rfl rfl rfl;apply lR 11 rfl
 by_cases q:f=N.test
 ·apply bQ (ae Option.isSome (fT (v:=.bool true) (r:=[]) q.symm));apply bS 12 13 rfl rfl rfl;apply bF 14 rfl;apply bG 14 rfl hgl;exact At.eq (ae (B N _++·) (iA C cs (.blt f as) r)) (hb q)
 ·apply bP λ h=>by rw[fX (v:=.bool true) (r:=[]) (λ z=>q z.symm)]at h;cases h
  apply bS 12 13 rfl rfl rfl;apply bF 14 rfl;apply bG 14 rfl hgl;apply cQ 12 13 rfl rfl;exact l4;rfl;exact At.eq (ae (B N _++·) (pM C cs (.call f as) r)) (hc q)
theorem Iq {g:Bd}{tg:Int}{occ:List Int}(ok:Wv occ N.test cs p g)
  (h:∀ lis,lis.length=(nR tg cs p g).length→At (B N (C4 occ tg cs p lis g)++(Cl C (pQ occ N.test tg cs p g)++(r++lO lis ((nR tg cs p g).map lZ)))) (Q .none)):At (B N p++(Cl C cs++r)) (bR J (n+6) 433 Q [.loc N.self,.loc C.st,dX g,.int tg]):=by
 refine L.Normaliser_goal (n+5) _ _ Q rfl ?_;have hgl:=vR ok.gl;rcases g with t|⟨x,y⟩|⟨x,y⟩|⟨x,y⟩|x
 ·have h:=h [] rfl;rw[show r++lO [] _=r from aq r]at h;rcases t with j|j|j|⟨f,as⟩
  ·apply bS 12 13 rfl rfl rfl;apply bF 14 rfl;apply bG 14 rfl hgl;apply cQ 12 13 rfl rfl;exact l4;rfl;exact At.eq (ae (B N _++·) (pM C cs (.call 24 [.v j]) r)) h
  ·have H:=ok.at_ j rfl;apply bS 6 7 rfl rfl rfl;refine Bw L (s:=p.sy) ok.fs (e8 L (t:=.a j) ?_);show At (B N ⟨p.nv,p.fo,(p.sy.functor j 0).2,p.work⟩++(Cl C cs++r)) _;have hP:∀ k,(if j=15 then sB tg cs p.nv else p.nv)=k→C4 occ tg cs p [] (.lf (.a j))=⟨k,p.fo,(p.sy.functor j 0).2,p.work⟩:=λ k e=>e▸rfl
   by_cases q:j=15
   ·rw[hP _ (aL q),show pQ occ N.test tg cs p (.lf (.a j))=_ from aL q]at h;apply bQ (H.c q);apply cj 6 7 rfl rfl rfl;exact Gx L (p:=⟨p.nv,p.fo,(p.sy.functor j 0).2,p.work⟩) ok.gl h
   rw[hP _ (aK q)]at h
   by_cases q2:j=17∨j=18
   ·rw[show pQ occ N.test tg cs p (.lf (.a j))=_ from (aK q).trans (aL q2)]at h;have fin:At (B N ⟨p.nv,p.fo,(p.sy.functor j 0).2,p.work⟩++(GQ C (cs.goals.map Gl.av++[Gl.fail.av]) cs.level cs.called cs.kvs++r)) (Q .none):=At.eq (ae (B N _++·) (iA C cs .fail r)) h;rcases H.f q2 with e|e
    ·apply bP (e▸(by decide));apply bQ e;apply bS 12 13 rfl rfl rfl;apply bF 14 rfl;apply bG 14 rfl hgl;exact fin
    ·apply bP (e▸(by decide));apply bP (e▸(by decide));apply bQ e;apply bS 12 13 rfl rfl rfl;apply bF 14 rfl;apply bG 14 rfl hgl;exact fin
   ·rw[show pQ occ N.test tg cs p (.lf (.a j))=_ from (aK q).trans (aK q2)]at h;have hn:=H.n q q2;exact A4 L (p:=⟨p.nv,p.fo,(p.sy.functor j 0).2,p.work⟩) (as:=[]) (Int.le_of_lt hn.1) hgl (λ e=>absurd e hn.2) λ ω=>h
  ·apply bS 12 13 rfl rfl rfl;apply bF 14 rfl;apply bG 14 rfl hgl;apply cQ 12 13 rfl rfl;exact l4;rfl;exact At.eq (ae (B N _++·) (pM C cs (.call 24 [.i j]) r)) h
  ·apply bS 6 7 rfl rfl rfl;refine p6 L (t:=.s f as) ok.fs rfl rfl nofun λ f' as' e=>e8 L (t:=.s f as) ?_;cases e
   by_cases q:f=10
   ·have hl:=ok.ok.2.1 q;rw[show pQ occ N.test tg cs p (.lf (.s f as))=_ from aL q]at h;rcases as with _|⟨t1,_|⟨t2,_|⟨t3,as⟩⟩⟩
    ·cases hl
    ·cases hl
    ·apply bP (q▸(by decide));apply bP (q▸(by decide));apply bP (q▸(by decide));apply bQ q;apply bS 12 13 rfl rfl rfl;apply bF 14 rfl;apply bG 14 rfl hgl;exact At.eq (ae (B N _++·) (iA C cs (.unify t1 t2) r)) h
    ·cases hl
   ·rw[show pQ occ N.test tg cs p (.lf (.s f as))=_ from aK q]at h;exact A4 L (ok.ok.2.2.resolve_left q) hgl (λ e=>by rw[aL e]at h;exact h) λ e=>by rw[aK e]at h;exact h
 ·cases ok.nc
 all_goals
  apply bS 6 7 rfl rfl rfl
  first
  |refine p6 L (t:=(Bd.sem x y).tm) ok.fs rfl rfl nofun λ f' as' e=>e8 L (t:=(Bd.sem x y).tm) ?_
  |refine p6 L (t:=(Bd.arr x y).tm) ok.fs rfl rfl nofun λ f' as' e=>e8 L (t:=(Bd.arr x y).tm) ?_
  |refine p6 L (t:=(Bd.neg x).tm) ok.fs rfl rfl nofun λ f' as' e=>e8 L (t:=(Bd.neg x).tm) ?_
  cases e;apply bP (by decide);apply bP (by decide);apply bP (by decide);apply bP (by decide)
 ·apply bQ rfl;apply cj 6 7 rfl rfl rfl;exact Cp L (g:=.sem x y) rfl ok.tz ok.nd ok.ok ok.ho ok.sub ok.f0 ok.f1 ok.ts ok.fs ok.gl ok.wk h
 ·apply bP (by decide);apply bQ rfl;apply cj 6 7 rfl rfl rfl;exact Cp L (g:=.arr x y) rfl ok.tz ok.nd ok.ok ok.ho ok.sub ok.f0 ok.f1 ok.ts ok.fs ok.gl ok.wk h
 ·apply bP (by decide);apply bP (by decide);apply bQ rfl;apply cj 6 7 rfl rfl rfl;exact Cp L (g:=.neg x) rfl ok.tz ok.nd ok.ok ok.ho ok.sub ok.f0 ok.f1 ok.ts ok.fs ok.gl ok.wk h
end
section
variable {J:JT}(L:eZ J){n:Nat}{Q:bI}{r:List bT}
include L
theorem vX {t:Addr}{kvs:List (Int×AV)}(h:∀ C,C.tot=t→At (Cl C ⟨[], -1,false,kvs⟩++r) (Q (.loc C.st))):At ((t,.dI kvs)::r) (bR J (n+2) 366 Q [.loc t]):=by
 refine L.ClauseState_init n _ _ Q rfl λ a dx=>?_;apply cQ 0 1 rfl rfl;exact aw (by decide) l1;rfl;apply bJ;intro gl;apply cQ 1 2 rfl rfl;exact l1;rfl;apply cQ 1 2 rfl rfl;exact l2;rfl;apply cQ 1 2 rfl rfl;exact l3;rfl;exact At.pk [1,1] (h ⟨a,dx,gl,t⟩ rfl)
theorem yN {o il fr:Addr}{k:Int}(h:∀ a dx wl,At ((a,.inst 471 dx)::(dx,.ns [(gO,.loc o),(ko,.loc il),(lP,.loc fr),(dj,.int k),(ju,.loc wl)])::(wl,.list [])::r) (Q (.loc a))):At r (bR J (n+2) 471 Q [.loc o,.loc il,.loc fr,.int k]):=by
 refine L.Normaliser_init n _ _ Q rfl λ a dx=>?_;apply cQ 0 1 rfl rfl;exact aw (by decide) l1;rfl;apply cQ 0 1 rfl rfl;exact l1;rfl;apply cQ 0 1 rfl rfl;exact l2;rfl;apply cQ 0 1 rfl rfl;exact l3;rfl;apply bJ;intro wl;apply cQ 1 2 rfl rfl;exact l4;rfl;exact At.pk [1,1,0] (h a dx wl)
theorem vU {k:Int}(h:∀ a dx,At ((a,.inst 289 dx)::(dx,.ns [(eM,.int k)])::r) (Q (.loc a))):At r (bR J (n+2) 289 Q [.int k]):=by
 refine L.Fresh_init n _ _ Q rfl λ a dx=>?_;apply cQ 0 1 rfl rfl;exact aw (by decide) l1;rfl;exact h a dx
noncomputable def JD (k dx:Addr)(f:Int)(as gl:AV)(n:Int):List bT:=[(k,.inst 310 dx),(dx,.ns [(dc,.int f),(lH,as),(cR,gl),(gJ,.int n)])]
theorem AZ {f c:Int}{as gl:AV}(h:∀ k dx,At (JD k dx f as gl c++r) (Q (.loc k))):At r (bR J (n+2) 310 Q [.int f,as,gl,.int c]):=by
 refine L.KernelClause_init n _ _ Q rfl λ a dx=>?_;apply cQ 0 1 rfl rfl;exact aw (by decide) l1;rfl;apply cQ 0 1 rfl rfl;exact l1;rfl;apply cQ 0 1 rfl rfl;exact l2;rfl;apply cQ 0 1 rfl rfl;exact l3;rfl;exact h a dx
theorem yH {o:Addr}{hd:Tm}{bd:Bd}(hh:JK hd=false)(hv:∀ k,hd≠.v k)(hz:bd.nd<100000)(hw:bd.ok)(hr:cY bd=true)(h:At r (Q (.tup [hd.av,dX bd]))):At r (bR J (n+2) 328 Q [.loc o,(Tm.s 5 [hd,bd.tm]).av]):=by
 refine L.split_clause (n+1) _ _ Q rfl (L.atom n _ _ _ rfl ?_);apply bQ rfl;rcases hd with j|j|j|⟨f,as⟩
 ·exact absurd rfl (hv j)
 ·refine L.is_callable n _ _ _ rfl (Dm L hz hw ?_);rw[hr];exact h
 ·cases hh
 ·refine L.is_callable n _ _ _ rfl (Dm L hz hw ?_);rw[hr];exact h
end
@[irreducible] def xj {α:Type}(V:For Int α)(ys:List Int):cm:=EN (rN V (ys.map V.f))
theorem Hx {l:List bT}{S:cm}{m:bB}{α:Type}{kvs:List (Int×AV)}{a:Addr}(V:Obj→For Int α)(x:α)(j:Nat){i:Nat}{b:WS}(e:eH l j=some (a,.dI kvs))(hl:∀ ob,(V ob).L x=put l j (.dF ob kvs))(hm:∀ ob,mO m ((V ob).M x))(hf:∀ ob,(V ob).f=.int)(hj:∀ ob x,eH ((V ob).L x) j=some (a,.dF ob kvs))(hP:∀ ob,(V ob).P (kvs.map (·.1)) x)
  (h:∀ ob y ys x,(V ob).P (y::ys) x→At ((V ob).L x) (b ((gK ((V ob).M x)).set i (.int y)) (xj (V ob) ys))) (h':∀ ob x,(V ob).P [] x→At (put ((V ob).L x) j (.dI kvs)) (S .next (gK ((V ob).M x)))):At l (v7 i b m S a):=λ σ ho=>by
 unfold v7;refine .inr ⟨kvs,ho.get e,λ ob=>⟨rN (V ob),gK ((V ob).M x),fe (hm ob),⟨kvs.map (·.1),x,?_,rfl,hP ob,hl ob▸ho.put e⟩,?_,?_⟩⟩
 ·rw[hf,List.map_map];rfl
 ·rintro u ws _ σ ⟨ys,x,e',rfl,hP,ho⟩
  rcases ys with _|⟨y,ys⟩
  ·cases e'
  ·rw[hf]at e';cases e';have:=h ob y ys x hP σ ho;unfold xj at this;rw[hf]at this;exact⟨ho.get (hj ob x),this⟩
 ·rintro _ σ ⟨ys,x,e',rfl,hP,ho⟩
  rcases ys with _|⟨y,ys⟩
  ·exact⟨ho.get (hj ob x),h' ob x hP _ (ho.put (hj ob x))⟩
  ·cases e'
theorem HV {l:List bT}{m:bB}{α:Type}{V:For Int α}{ys:List Int}(x:α)(hl:V.L x=l)(hm:mO m (V.M x))(hP:V.P ys x):At l (xj V ys .next m):=λ σ ho=>by
 unfold xj;exact⟨gK (V.M x),fe hm,ys,x,rfl,rfl,hP,hl▸ho⟩
theorem oD {t:Tm}{l:List Tm}(h:t∈l):t.sz≤Tm.szL l:=by
 induction l with
 |nil=>cases h
 |cons x r ih=>exact (ap h).elim (λ e=>e▸ah ..) λ h=>aa (ih h) (aC ..)
inductive El where
 |goal (t:Bd) (tg:Int)|own|fail|mark (k:Int)
noncomputable def El.av:El→AV
 |.goal t tg=>.tup [.str lM,dX t,.int tg]
 |.own=>.tup [.str uF]
 |.fail=>.tup [.str eO]
 |.mark k=>.tup [.str pU,.int k]
noncomputable def hU:List El→List Tm
 |[]=>[]
 |.goal t _::r=>t.tm::hU r
 |.own::r=>hU r
 |.fail::r=>hU r
 |.mark _::r=>hU r
theorem BN (l:List El):(hU l).length≤l.length:=by
 induction l with
 |nil=>exact au 0
 |cons e r ih=>cases e;exact aD ih;all_goals exact aB ih
noncomputable def Du (l cs ks:List Int)(j:Int):Nat:=l.count j+(if j∈ks then 0 else cs.count j)
structure lD (l cs ks:List Int)(kvs:List (Int×AV)):Prop where
 nd:(kvs.map (·.1)).Nodup
 ndk:ks.Nodup
 len:kvs.length+ks.length≤l.length+cs.length
 get:∀ j,bM kvs j=if Du l cs ks j=0 then none else some (.int (Du l cs ks j))
 pos:∀ k∈ks,0<cs.count k
theorem oA.key {kvs:List (Int×AV)}{l:List Int}(h:oA kvs l)(k:Int):k∈kvs.map (·.1)↔0<l.count k:=by
 rw[←eD,h.get]
 by_cases q:l.count k=0
 ·rw[aL q,q];exact⟨nofun,λ h=>absurd h (Nat.lt_irrefl 0)⟩
 ·rw[aK q];exact⟨λ ω=>Nat.pos_of_ne_zero q,λ ω=>rfl⟩
theorem lD.start {kvs ckvs:List (Int×AV)}{l cs:List Int}(h:oA kvs l)(hc:oA ckvs cs):lD l cs (ckvs.map (·.1)) kvs:=by
 have e:∀ j,Du l cs (ckvs.map (·.1)) j=l.count j:=λ j=>by
  unfold Du
  by_cases q:j∈ckvs.map (·.1)
  ·rw[aL q];rfl
  ·rw[aK q,Nat.eq_zero_of_not_pos (mt (hc.key j).mpr q)];rfl
 exact⟨h.nd,hc.nd,aR h.len (aa (am (ak _)) hc.len),λ j=>by rw[e];exact h.get j,λ k hk=>(hc.key k).mp hk⟩
theorem lD.fin {kvs:List (Int×AV)}{l cs:List Int}(h:lD l cs [] kvs):oA kvs (l++cs):=by
 have e:∀ j,Du l cs [] j=(l++cs).count j:=λ j=>(ae (l.count j+·) (aK nofun)).trans List.count_append.symm;exact⟨h.nd,ay▸h.len,λ j=>e j▸h.get j⟩
set_option tactic.hygienic true in
theorem lD.hd {kvs:List (Int×AV)}{l cs ks:List Int}{k:Int}(h:lD l cs (k::ks) kvs):(bM kvs k).getD (.int 0)=.int (l.count k):=by
 have e:Du l cs (k::ks) k=l.count k:=ae (l.count k+·) (aL (af ..));rw[h.get,e]
 split
 ·rename_i q;rw[q];rfl
 ·rfl
theorem lD.step {kvs:List (Int×AV)}{l cs ks:List Int}{k:Int}(h:lD l cs (k::ks) kvs):lD l cs ks (cn kvs k (.int (l.count k+cs.count k))):=by
 have hn:=List.nodup_cons.mp h.ndk;refine⟨pY h.nd,hn.2,aa (aG (gj ..) _) (aa (am (Nat.succ_add_eq_add_succ ..)) h.len),λ j=>?_,λ j hj=>h.pos j (ag _ hj)⟩;rw[cB]
 by_cases q:j=k
 ·subst q;have e:Du l cs ks j=l.count j+cs.count j:=ae (l.count j+·) (aK hn.1);rw[aL rfl,e,aK (Nat.ne_of_gt (aO (h.pos j (af ..)) (aC ..)))];rfl
 ·have e:Du l cs ks j=Du l cs (k::ks) j:=by
   unfold Du
   by_cases z:j∈ks
   ·rw[aL z,aL (ag _ z)]
   ·rw[aK z,aK λ w=>(ap w).elim q z]
  rw[aK q,e];exact h.get j
theorem lD.cs {kvs ckvs:List (Int×AV)}{l cs ks:List Int}{k:Int}(h:lD l cs (k::ks) kvs)(hc:oA ckvs cs):bM ckvs k=some (.int (cs.count k)):=(hc.get k).trans (aK (Nat.ne_of_gt (h.pos k (af ..))))
theorem lD.lz {kvs:List (Int×AV)}{l cs ks:List Int}{n:Nat}(h:lD l cs ks kvs)(hn:l.length+cs.length≤n):kvs.length≤n:=aa (aa (ah ..) h.len) hn
theorem vC (l:List Tm)(t:Tm):Tm.varsL (l++[t])=Tm.varsL l++t.vars:=(fy l [t]).trans (ae (_++·) (aq _))
theorem J6 {a b x:List Tm}{t:Tm}(h:a++t::b=x):(Tm.varsL a).length+t.vars.length≤Tm.szL x:=by
 rw[←h,dO];exact aR (g3 a) (aa (eJ t) (ah ..))
structure TlP (as:List Tm)(els ys:List El)(x:List Tm):Prop where
 e:x++hU ys=as++hU els
structure TtP (all ys:List Tm)(x:List Tm×List (Int×AV)):Prop where
 e:x.1++ys=all
 c:oA x.2 (Tm.varsL x.1)
noncomputable def XK (as:List Tm)(els:List El)(tl:Addr)(M:List (Nat×AV))(el td:bT)(r:List bT):For El (List Tm):=⟨El.av,λ ω=>M,λ x=>(tl,.list (Tm.avs x))::td::el::r,TlP as els⟩
noncomputable def UJ (all:List Tm)(td:Addr)(M:List (Nat×AV))(tl:bT)(r:List bT):For Tm (List Tm×List (Int×AV)):=⟨Tm.av,λ ω=>M,λ x=>tl::(td,.dI x.2)::r,TtP all⟩
noncomputable def Uo (l cs:List Int)(td cd:Addr)(ckvs:List (Int×AV))(M:List (Nat×AV))(tl:bT)(r:List bT)(ob:Obj):For Int (List (Int×AV)):=⟨.int,λ ω=>M,λ kvs=>(cd,.dF ob ckvs)::tl::(td,.dI kvs)::r,λ ks kvs=>lD l cs ks kvs∧oA ckvs cs⟩
theorem pc (l:List Tm)(t:Tm):Tm.avs (l++[t])=Tm.avs l++[t.av]:=ez ..
section
variable {J:JT}(L:eZ J){n:Nat}{Q:bI}{r:List bT}
include L
theorem CR {self el:Addr}{as:List Tm}{els:List El}(hz:Tm.szL (as++hU els)<100000)(hl:as.length+els.length<100000)(h:∀ d kvs,oA kvs (Tm.varsL (as++hU els))→At ((d,.dI kvs)::(el,.list (els.map El.av))::r) (Q (.loc d))):
  At ((el,.list (els.map El.av))::r) (bR J (n+2) 412 Q [.loc self,.tup (Tm.avs as),.loc el]):=by
 refine L.Normaliser_totals (n+1) _ _ Q rfl (bJ λ td=>bJ λ tl=>?_);refine fj (XK as els tl [(3,.loc td),(4,.loc tl)] (el,.list (els.map El.av)) (td,.dI []) r) els as 2 rfl ⟨rfl,rfl,trivial⟩ rfl (λ ω=>rfl) ⟨rfl⟩ (λ y ys x hP=>?_) λ x hP=>?_
 ·have hx:x.length<cX:=cw (aa (ah _ _) (am (List.length_append.symm.trans (ae List.length hP.e)))) (ac (aa (am ay) (aP (BN els) _)) hl);rcases y with⟨t,tg⟩|_|_|k
  ·apply bF 0;rfl;apply bG 0 rfl;rw[dk];exact hx;exact dp (x++[t.tm]) (ae (λ z=>(tl,bO.list z)::(td,.dI [])::(el,.list (els.map El.av))::r) (pc x t.tm)) ⟨rfl,rfl,trivial⟩ ⟨(ao ..).trans hP.e⟩
  ·exact dp x rfl ⟨rfl,rfl,trivial⟩ ⟨hP.e⟩
  ·exact dp x rfl ⟨rfl,rfl,trivial⟩ ⟨hP.e⟩
  ·exact dp x rfl ⟨rfl,rfl,trivial⟩ ⟨hP.e⟩
 ·rw[←(aq x).symm.trans hP.e]at*;refine fj (UJ x td [(3,.loc td)] (tl,.list (Tm.avs x)) ((el,.list (els.map El.av))::r)) x ([],[]) 0 rfl ⟨rfl,trivial⟩ (me x) (λ ω=>rfl) ⟨rfl,oA.nil⟩ (λ y ys z hP=>?_) λ z hP=>?_
  ·have hy:y∈x:=fv hP.e;refine Gv L (ac (oD hy) hz) λ cd ckvs hc=>?_;refine Hx (Uo (Tm.varsL z.1) y.vars td cd ckvs [(3,.loc td),(7,.loc cd)] (tl,.list (Tm.avs x) ) ((el,.list (els.map El.av))::r)) z.2 0 rfl (λ ω=>rfl) (λ ω=>⟨rfl,rfl,trivial⟩) (λ ω=>rfl) (λ ω ω=>rfl) (λ ω=>⟨lD.start hP.c hc,hc⟩) (λ ob k ks kvs hQ=>?_) λ ob kvs hQ=>?_
   ·apply l8 2;rfl;exact .dI;apply pC 2;rfl;exact hQ.1.hd;apply J1 0;rfl;exact (hQ.1.cs hQ.2);apply iK 2;rfl;exact cw (hQ.1.lz (J6 hP.e)) hz;exact HV _ rfl ⟨rfl,rfl,trivial⟩ ⟨hQ.1.step,hQ.2⟩
   ·exact At.drop1 (dp (z.1++[y],kvs) rfl ⟨rfl,trivial⟩ ⟨(ao ..).trans hP.e,vC z.1 y▸hQ.1.fin⟩)
  ·exact At.drop1 (h td z.2 ((aq z.1).symm.trans hP.e▸hP.c))
end
structure r8 (J:JT)(T:iL):Prop where
 law:eZ J
 ren:I2 J T
noncomputable def g8 (ρ:List Int)(k:Int):List Int:=if k∈ρ then ρ else ρ++[k]
noncomputable def cM (ρ l:List Int):List Int:=l.foldl g8 ρ
mutual
noncomputable def Tm.rn (ρ:List Int):Tm→Tm
 |.v k=>.v (cy ρ k:Nat)
 |.s f as=>.s f (Tm.rnL ρ as)
 |.a n=>.a n
 |.i n=>.i n
noncomputable def Tm.rnL (ρ:List Int):List Tm→List Tm
 |[]=>[]
 |t::r=>t.rn ρ::Tm.rnL ρ r
end
noncomputable def fL (l:List Int):List (Int×AV):=wP id 0 l
theorem KD:∀ x y:Int,id x=id y→x=y:=λ ω ω h=>h
theorem d7 {ρ:List Int}{k:Int}(h:k∈ρ):g8 ρ k=ρ:=aL h
theorem eQ {ρ:List Int}{k:Int}(h:k∉ρ):g8 ρ k=ρ++[k]:=aK h
theorem kc (ρ:List Int)(k:Int):k∈g8 ρ k:=by
 by_cases h:k∈ρ
 ·rw[d7 h];exact h
 ·rw[eQ h];exact aF _ (af ..)
def nX (a b:List Int):Prop:=∃ z,a++z=b
theorem nX.rfl' {a:List Int}:nX a a:=⟨[],aq a⟩
theorem nX.trans {a b c:List Int}(h:nX a b)(h':nX b c):nX a c:=by
 rcases h with⟨z,rfl⟩;rcases h' with⟨y,rfl⟩;exact⟨z++y,(ao ..).symm⟩
theorem nX.len {a b:List Int}(h:nX a b):a.length≤b.length:=by
 rcases h with⟨z,rfl⟩;rw[ay];exact ah ..
theorem i6 (ρ:List Int)(k:Int):nX ρ (g8 ρ k):=by
 by_cases h:k∈ρ
 ·rw[d7 h];exact .rfl'
 ·rw[eQ h];exact⟨[k],rfl⟩
theorem g7:∀ (l ρ:List Int),nX ρ (cM ρ l):=by
 intro l
 induction l with
 |nil=>exact λ ω=>.rfl'
 |cons k r ih=>exact λ ρ=>(i6 ρ k).trans (ih _)
theorem dR (ρ l l':List Int):cM ρ (l++l')=cM (cM ρ l) l':=List.foldl_append
theorem ng {k:Int}{b:List Int}:∀ {a:List Int},k∈a→nX a b→cy b k=cy a k:=by
 rintro a hk ⟨z,rfl⟩
 induction a with
 |nil=>cases hk
 |cons x r ih=>
  by_cases q:x=k
  ·exact (gm q).trans (gm q).symm
  ·exact (gg q).trans ((ae (·+1) (ih ((ap hk).resolve_left λ e=>q e.symm))).trans (gg q).symm)
theorem yh (ρ:List Int)(l l':List Tm):Tm.rnL ρ (l++l')=Tm.rnL ρ l++Tm.rnL ρ l':=by
 induction l with|nil=>rfl|cons t r ih=>exact ae (t.rn ρ::·) ih
theorem lV (ρ:List Int)(l:List Tm):(Tm.rnL ρ l).length=l.length:=by
 induction l with|nil=>rfl|cons t r ih=>exact ae (·+1) ih
theorem ux {l:List AV}{x:AV}:wj (l++[x]) (-1)=some x:=by
 have e:(l++[x]).length - 1=l.length:=ae (· - 1) (ay (as:=l) (bs:=[x]));refine (aL (ay (as:=l) (bs:=[x])▸aV _)).trans ?_;show (l++[x])[(l++[x]).length - 1 - 0]? =some x;rw[Nat.sub_zero,e,List.getElem?_append_right (au _),Nat.sub_self];rfl
theorem Kt {l r:List AV}{x:AV}{k:Nat}(h:l.length=k):wj (l++x::r) k=some x:=by
 subst h;show (l++x::r)[l.length]? =some x;rw[List.getElem?_append_right (au _),Nat.sub_self];rfl
theorem FF (a b:List Tm)(t:Tm):Tm.avs (a++t::b)=Tm.avs a++t.av::Tm.avs b:=ez ..
structure Ct where
 f:Int
 a:List Tm
 b:List Tm
 dl:Addr
noncomputable def Ct.pl (c:Ct)(t:Tm):Tm:=.s c.f (c.a++t::c.b)
noncomputable def J3:Tm→List Ct→Tm
 |t,[]=>t
 |t,c::r=>J3 (c.pl t) r
noncomputable def Su:Tm→List Ct→List AV
 |_,[]=>[]
 |t,c::r=>.tup [(c.pl t).av,.loc c.dl]::Su (c.pl t) r
noncomputable def Ud (ρ:List Int):List Ct→List bT
 |[]=>[]
 |c::r=>(c.dl,.list (Tm.avs (Tm.rnL ρ c.a)))::Ud ρ r
noncomputable def ZF:List Ct→List Int
 |[]=>[]
 |c::r=>Tm.varsL c.b++ZF r
noncomputable def HL:List Ct→Nat
 |[]=>0
 |c::r=>Tm.szL c.b*2+1+HL r
set_option genCtorIdx false in
inductive Wl where
 |run (x:Ct) (r:List Ct) (ρ:List Int)|fin
noncomputable def Ct.tp (x:Ct):Tm:=.s x.f (x.a++x.b)
theorem ct0 (n:Nat):n*2+1+0≤2*(n+1):=by lia
theorem SD (p b r:Nat)(h:0<p):b*2+1+r<(p+b)*2+1+r:=by lia
theorem Zt (p b r:Nat):p*2+1+(b*2+1+r)<(p+1+b)*2+1+r:=by lia
theorem tK {x:AV}{l:List AV}:wj (x::l).reverse (-1)=some x:=(ae (wj · (-1)) (iz x l)).trans ux
structure wu (t:Tm)(ρ₁:List Int)(x:Ct)(r:List Ct)(ρ:List Int):Prop where
 p:J3 x.tp r=t
 v:cM ρ (Tm.varsL x.b++ZF r)=ρ₁
 z:HL (x::r)≤2*t.sz
def rbP (t:Tm)(ρ₁:List Int):Wl→Prop
 |.run x r ρ=>wu t ρ₁ x r ρ
 |.fin=>True
noncomputable def U6 (t:Tm)(ρ₁ ρs:List Int)(g ca d fl:Addr)(o:Obj)(k:List bT):v5 Wl where
 M x:=match x with
  |.run .. =>[(1,.loc g),(2,.bool false),(4,.loc fl)]
  |.fin=>[(4,.loc fl),(5,(t.rn ρs).av)]
 L s:=match s with
  |.run x r ρ=>(d,.dI (fL ρ))::(ca,.cell (some (.loc d)))::(g,.raw o)::(fl,.list (AV.tup [x.tp.av,.loc x.dl]::Su x.tp r).reverse)::(x.dl,.list (Tm.avs (Tm.rnL ρs x.a)))::(Ud ρs r++k)
  |.fin=>(d,.dI (fL ρ₁))::(ca,.cell (some (.loc d)))::(g,.raw o)::(fl,.list [])::k
 P:=rbP t ρ₁
 μ s:=match s with
  |.run x r _=>HL (x::r)
  |.fin=>0
theorem EH:∀ (r:List Ct) (t:Tm),t.sz≤(J3 t r).sz:=by
 intro r
 induction r with
 |nil=>exact λ ω=>au _
 |cons c r ih=>exact λ t=>aa (aa (oD (aF _ (af ..))) (aM _)) (ih (c.pl t))
theorem EZ:∀ (r:List Ct) (t:Tm),(Su t r).length≤HL r:=by
 intro r
 induction r with
 |nil=>exact λ ω=>au _
 |cons c r ih=>exact λ t=>aa (aD (ih (c.pl t))) (aa (am (bh (HL r) 1)) (aG (aC ..) _))
theorem vT (c:Ct)(t:Tm):(Ct.mk c.f (c.a++[t]) c.b c.dl).tp=c.pl t:=ae (Tm.s c.f) (ao ..)
theorem rK {t:Tm}{ρ₁ ρs ρ:List Int}{g ca d fl:Addr}{o:Obj}{k:List bT}{t':Tm}{c:Ct}{r:List Ct}{s:Wl}{S:cm}{m:bB}(hP:wu t ρ₁ ⟨c.f,c.a++[t'],c.b,c.dl⟩ r ρ)(hμ:HL (c::r)<(U6 t ρ₁ ρs g ca d fl o k).μ s)(hm:mO m [(1,.loc g),(2,.bool false),(4,.loc fl)]):
  At ((d,.dI (fL ρ))::(ca,.cell (some (.loc d)))::(g,.raw o)::(fl,.list (AV.tup [(c.pl t').av,.loc c.dl]::Su (c.pl t') r).reverse)::(c.dl,.list (Tm.avs (Tm.rnL ρs c.a)++[(t'.rn ρs).av]))::(Ud ρs r++k)) (lB (U6 t ρ₁ ρs g ca d fl o k) s S .next m):=by
 have e:Tm.avs (Tm.rnL ρs c.a)++[(t'.rn ρs).av]=Tm.avs (Tm.rnL ρs (c.a++[t'])):=(pc _ (t'.rn ρs)).symm.trans (ae Tm.avs (yh ρs c.a [t']).symm);rw[e,←vT c t'];exact d5 (.run ⟨c.f,c.a++[t'],c.b,c.dl⟩ r ρ) rfl hm hP hμ
theorem wu.len {t:Tm}{ρ₁ ρ:List Int}{x:Ct}{r:List Ct}(h:wu t ρ₁ x r ρ):x.a.length+x.b.length≤t.sz:=by
 rw[←h.p,←ay];exact aa (aa (fV _) (aM _)) (EH r x.tp)
theorem wu.pop {t:Tm}{ρ₁ ρ:List Int}{f:Int}{a:List Tm}{dl:Addr}{y:Ct}{r:List Ct}(h:wu t ρ₁ ⟨f,a,[],dl⟩ (y::r) ρ):wu t ρ₁ ⟨y.f,y.a++[.s f a],y.b,y.dl⟩ r ρ:=by
 have e:(Ct.mk f a [] dl).tp=.s f a:=ae (Tm.s f) (aq a);refine⟨?_,h.v,aa (aC ..) h.z⟩;rw[vT,←e];exact h.p
theorem wu.leaf {t p:Tm}{ρ₁ ρ:List Int}{f:Int}{a b:List Tm}{dl:Addr}{r:List Ct}(h:wu t ρ₁ ⟨f,a,p::b,dl⟩ r ρ):wu t ρ₁ ⟨f,a++[p],b,dl⟩ r (cM ρ p.vars):=by
 refine⟨?_,?_,aa (aW (SD p.sz _ _ (wB p))) h.z⟩
 ·rw[vT ⟨f,a,b,dl⟩ p];exact h.p
 ·rw[←dR,←ao];exact h.v
theorem wu.push {t:Tm}{ρ₁ ρ:List Int}{f f':Int}{a b bs:List Tm}{dl nl:Addr}{r:List Ct}(h:wu t ρ₁ ⟨f,a,.s f' bs::b,dl⟩ r ρ):wu t ρ₁ ⟨f',[],bs,nl⟩ (⟨f,a,b,dl⟩::r) ρ:=
 ⟨h.p,(ae (cM ρ) (ao ..)).symm.trans h.v,aa (aW (Zt (Tm.szL bs) (Tm.szL b) _)) h.z⟩
theorem Fm {a b:List Tm}(h:b≠[]):¬ ((a.length:Nat):Int)=((Tm.avs (a++b)).length:Nat):=by
 rw[dk,ay];exact λ q=>h (List.eq_nil_of_length_eq_zero (Nat.add_left_cancel (Int.ofNat.inj q).symm))
theorem big {n:Nat}(h:n<100000):2*n<cX:=aO (Nat.mul_lt_mul_of_pos_left h (by decide)) (by decide)
section
variable {J:JT}{T:iL}(L:r8 J T){n:Nat}{Q:bI}
include L
theorem uc {d ca g:Addr}{o:Obj}{e l:List bT}{ρ ρs:List Int}{j:Int}(hf:T.fn e o ca)(he:∀ x∈e,x∈l)(hp:nX (g8 ρ j) ρs)(hz:ρs.length<100000)
  (h:At ((d,.dI (fL (g8 ρ j)))::(ca,.cell (some (.loc d)))::(g,.raw o)::l) (Q ((Tm.v j).rn ρs).av)):
  At ((d,.dI (fL ρ))::(ca,.cell (some (.loc d)))::(g,.raw o)::l) (ut J (n+1) Q g [.int j]):=by
 refine L.ren.change n ca g o e _ _ Q hf (mF (i:=2) rfl) (λ x hx=>ag _ (ag _ (ag _ (he x hx)))) rfl ?_;have hl:(wP id 0 ρ).length<cX:=oz (cw (aa (i6 ρ j).len hp.len) hz);have e':(Tm.v j).rn ρs=.v (cy (g8 ρ j) j:Nat):=ae (λ n:Nat=>Tm.v n) (ng (kc ρ j) hp);rw[e']at h;have go:At ((d,.dI (fL (g8 ρ j)))::(ca,.cell (some (.loc d)))::(g,.raw o)::l) (cA ⟨J,n,[(bX,ca)],λ ω=>no⟩ [.ret (.tup [.str qw,.sub (.cv bX) (.lv 0)])] (args [.int j]) (kL Q)):=by
  apply dh 1 rfl;apply iR 0 rfl;exact (jp KD j _ 0).trans (aL (kc ρ j));rw[aU];exact h
 apply dh 1 rfl;apply lR 0 rfl;have hg:bM (fL ρ) j=_:=jp KD j ρ 0
 by_cases hk:j∈ρ
 ·rw[d7 hk]at go;apply bQ;rw[hg,aL hk];rfl;exact go
 ·rw[eQ hk]at go;apply bP;rw[hg,aK hk];nofun
  apply dh 1 rfl;apply wN 0 rfl;apply dh 1 rfl;apply iK 0 rfl;exact hl;exact At.eq (ae (λ z=>(d,bO.dI z)::(ca,.cell (some (.loc d)))::(g,.raw o)::l) ((mG KD hk).symm.trans (ae (λ m:Nat=>cn (wP id 0 ρ) j (AV.int m)) (oP ρ 0).symm))) go
theorem zD {d ca g:Addr}{o:Obj}{e l:List bT}{ρ ρs:List Int}{t:Tm}(hf:T.fn e o ca)(he:∀ x∈e,x∈l)(hp:nX (cM ρ t.vars) ρs)(hz:ρs.length<100000)(ht:t.sz<100000)
  (h:At ((d,.dI (fL (cM ρ t.vars)))::(ca,.cell (some (.loc d)))::(g,.raw o)::l) (Q (t.rn ρs).av)):
  At ((d,.dI (fL ρ))::(ca,.cell (some (.loc d)))::(g,.raw o)::l) (bR J (n+2) 228 Q [t.av,.loc g,.bool false]):=by
 refine L.law.rebuild (n+1) _ _ Q rfl ?_;rcases t with j|j|j|⟨f,as⟩
 ·exact uc L hf he hp hz h
 ·exact h
 ·exact h
 ·apply bJ;intro dl;apply bJ;intro fl;refine At.pk [2,2,2,0,0] (mN (U6 (.s f as) (cM ρ (Tm.varsL as)) ρs g ca d fl o l) (.run ⟨f,[],as,dl⟩ [] ρ) rfl ⟨rfl,rfl,rfl,trivial⟩ ⟨rfl,ae (cM ρ) (aq _),ct0 _⟩ λ s hP=>?_);rcases s with⟨x,r,ρ'⟩|_
  ·refine hY 3 rfl ((ae (λ z=> !List.isEmpty z) (iz ..)).trans jy) ?_;apply cZ 3 rfl tK;have hl:(Tm.avs (Tm.rnL ρs x.a)).length=x.a.length:=(dk _).trans (lV ..);apply fM 4 rfl hl;rcases x with⟨f',a,b,xl⟩
   rcases b with _|⟨p,b⟩
   ·have e:(Ct.mk f' a [] xl).tp=.s f' a:=ae (Tm.s f') (aq a);apply bQ;rw[aq,dk];apply pD 3;exact ae (λ z=>some (fl,bO.list z)) (iz ..);apply uz 4 rfl;rcases r with _|⟨y,r⟩
    ·apply hY 3 rfl rfl;have hv:cM ρ (Tm.varsL as)=ρ':=hP.v.symm;have ht':Tm.s f as=Tm.s f' a:=hP.p.symm.trans e;exact At.rm [4] (d5 .fin (ae (λ z=>(d,bO.dI (fL z))::_) hv) ⟨rfl,ae (λ z:Tm=>some (z.rn ρs).av) ht'.symm,trivial⟩ trivial (aV _))
    ·refine hY 3 rfl ((ae (λ z=> !List.isEmpty z) (iz ..)).trans jy) ?_;apply cZ 3 rfl tK;apply bF 5;rfl;apply bG 5 rfl
     ·rw[dk,lV];exact cw (aa (aW (aO (ay▸bq _) (ah _ y.b.length))) (wu.pop hP).len) ht
     ·refine At.rm [4] ?_;rw[e];exact rK (t':=.s f' a) (wu.pop hP) (bp (aV _)) ⟨rfl,rfl,rfl,trivial⟩
   ·apply bP;exact Fm (List.cons_ne_nil p b);have hx:wj (Tm.avs (a++p::b)) (a.length:Nat)=some p.av:=(ae (wj · _) (FF a b p)).trans (Kt (dk a));have hal:(Tm.avs (Tm.rnL ρs a)).length<cX:=hl▸cw (aa (ah ..) hP.len) ht;apply fM 4 rfl hl;apply eR hx;rcases p with j|j|j|⟨f2,bs⟩
    ·refine uc L hf (λ z hz=>ag _ (ag _ (aF _ (he z hz)))) ((g7 _ (g8 ρ' j)).trans (nX.trans ⟨[],(aq _).trans hP.v⟩ hp)) hz ?_;apply bF 4;rfl;apply bG 4 rfl hal;exact rK (t':=.v j) (c:=⟨f',a,b,xl⟩) hP.leaf (SD 1 _ _ (by decide)) ⟨rfl,rfl,rfl,trivial⟩
    ·apply bF 4;rfl;apply bG 4 rfl hal;exact rK (t':=.a j) (c:=⟨f',a,b,xl⟩) hP.leaf (SD 1 _ _ (by decide)) ⟨rfl,rfl,rfl,trivial⟩
    ·apply bF 4;rfl;apply bG 4 rfl hal;exact rK (t':=.i j) (c:=⟨f',a,b,xl⟩) hP.leaf (SD 1 _ _ (by decide)) ⟨rfl,rfl,rfl,trivial⟩
    ·apply bF 3;rfl;apply bJ;intro nl;apply bG 4 rfl
     ·rw[bu];exact ac (aa (aD (EZ r _)) (aa (am (bh (HL r) 1)) (aa (aG (aC ..) _) hP.z))) (big ht)
     ·exact At.pk [1,1,1,1,0] (d5 (.run ⟨f2,[],bs,nl⟩ (⟨f',a,b,xl⟩::r) ρ') (ae (λ z=>(d,bO.dI (fL ρ'))::(ca,.cell (some (.loc d)))::(g,.raw o)::(fl,bO.list z)::_) (iz ..)) ⟨rfl,rfl,rfl,trivial⟩ hP.push (Zt _ _ _))
  ·exact hY 3 rfl rfl (At.rm [3] h)
end
noncomputable def Gl.vars:Gl→List Int
 |.call _ ts=>Tm.varsL ts
 |.blt _ ts=>Tm.varsL ts
 |.unify x y=>x.vars++y.vars
 |.cut=>[]|.fail=>[]
 |.cutto k=>[k]|.level k=>[k]|.mark k=>[k]
noncomputable def gI:List Gl→List Int
 |[]=>[]
 |g::r=>g.vars++gI r
noncomputable def Gl.rn (ρ:List Int):Gl→Gl
 |.call f ts=>.call f (Tm.rnL ρ ts)
 |.blt f ts=>.blt f (Tm.rnL ρ ts)
 |.unify x y=>.unify (x.rn ρ) (y.rn ρ)
 |.cut=>.cut|.fail=>.fail
 |.cutto k=>.cutto (cy ρ k:Nat)|.level k=>.level (cy ρ k:Nat)|.mark k=>.mark (cy ρ k:Nat)
noncomputable def Gl.sz:Gl→Nat
 |.call _ ts=>Tm.szL ts
 |.blt _ ts=>Tm.szL ts
 |.unify x y=>x.sz+y.sz
 |.cut=>0|.fail=>0|.cutto _=>0|.level _=>0|.mark _=>0
structure Ys (β:Type)where
 dn:List β
 ρ:List Int
 e:List bT
structure Y4 {β:Type}(T:iL)(f:List β→List Int)(all:List β)(ρ₁:List Int)(ys:List β)(x:Ys β):Prop where
 e:x.dn++ys=all
 v:cM x.ρ (f ys)=ρ₁
 t:T.st x.e
noncomputable def We (T:iL)(as:List Tm)(ρ₁ ρs:List Int)(dl d:Addr)(k l:List bT):For Tm (Ys Tm):=⟨Tm.av,λ ω=>[(1,.loc d),(2,.loc dl)],λ x=>(d,.dI (fL x.ρ))::(dl,.list (Tm.avs (Tm.rnL ρs x.dn)))::(k++(x.e++l)),Y4 T Tm.varsL as ρ₁⟩
noncomputable def Ox (T:iL)(f:Int)(as:AV)(gs:List Gl)(ρs:List Int)(nl gl d:Addr)(l:List bT):For Gl (Ys Gl):=⟨Gl.av,λ ω=>[(1,.int f),(2,as),(4,.loc d),(5,.loc nl)],λ x=>(d,.dI (fL x.ρ))::(nl,.list (x.dn.map λ g=>(g.rn ρs).av))::(gl,.list (gs.map Gl.av))::(x.e++l),Y4 T gI gs ρs⟩
noncomputable def xY:List Gl→Nat
 |[]=>0
 |g::r=>g.sz+xY r
theorem EB {t:Gl}{l:List Gl}(h:t∈l):t.sz≤xY l:=by
 induction l with
 |nil=>cases h
 |cons x r ih=>exact (ap h).elim (λ e=>e▸ah ..) λ h=>aa (ih h) (aC ..)
theorem HE {d:Addr}{l:List bT}{ρ:List Int}{j:Int}{K:BP}(i:Nat)(e:eH l i=some (d,.dI (fL ρ)))(h0:j∉ρ→At l (K true))(h1:j∈ρ→At l (K false)):At l (DW (uT K) (.int j) d):=by
 have hg:bM (fL ρ) j=_:=jp KD j ρ 0;apply lR i e
 by_cases hk:j∈ρ
 ·exact bQ (by rw[hg,aL hk];rfl) (h1 hk)
 ·exact bP (by rw[hg,aK hk];nofun) (h0 hk)
theorem wq {d:Addr}{l:List bT}{ρ ρs:List Int}{j:Int}{Q:bI}(i:Nat)(e:eH l i=some (d,.dI (fL (g8 ρ j))))(hp:nX (g8 ρ j) ρs)(h:At l (Q (.int (cy ρs j:Nat)))):At l (ow Q (.int j) d):=by
 rw[ng (kc ρ j) hp]at h;refine iR i e ((jp KD j _ 0).trans (aL (kc ρ j))) ?_;rw[aU];exact h
theorem AP {ρ:List Int}{j:Int}(h:j∉ρ):cn (fL ρ) j (.int ((fL ρ).length:Nat))=fL (g8 ρ j):=by
 rw[eQ h,fL,oP];exact mG KD h
theorem AF {d:Addr}{l:List bT}{ρ:List Int}{j:Int}{Y:SP}(hl:ρ.length<100000)(h:At ((d,.dI (fL (g8 ρ j)))::l) Y):At ((d,.dI (fL ρ))::l) (DW (uT (yY (u5 (λ v=>putL Y v (.int j) d) d) Y)) (.int j) d):=by
 refine HE 0 rfl (λ hk=>?_) λ hk=>?_
 ·apply wN 0 rfl;apply iK 0 rfl;exact oz (cw (au _) hl);exact At.eq (ae (λ z=>(d,bO.dI z)::l) (AP hk).symm) h
 ·exact d7 hk▸h
theorem Ez (ρs:List Int)(dn:List Gl)(g:Gl):dn.map (λ g=>(g.rn ρs).av)++[(g.rn ρs).av]=(dn++[g]).map λ g=>(g.rn ρs).av:=(cb ..).symm
section
variable {J:JT}{T:iL}(L:r8 J T){n:Nat}{Q:bI}
include L
theorem vW {d:Addr}{k e l:List bT}{ρ ρs:List Int}{t:Tm}(he:T.st e)(hp:nX (cM ρ t.vars) ρs)(hz:ρs.length<100000)(ht:t.sz<100000)
  (h:∀ e',T.st e'→At ((d,.dI (fL (cM ρ t.vars)))::(k++(e'++l))) (Q (.tup [(t.rn ρs).av,.loc d]))):
  At ((d,.dI (fL ρ))::(k++(e++l))) (bR J (n+3) 236 Q [t.av,.loc d]):=by
 refine L.ren.renumber (n+2) _ _ Q rfl λ a df hdf=>?_;apply rV 0 rfl;refine hdf (_::_::k) e l _ he λ g o e' he' hf=>?_;refine At.pk [2,1,0] (zD L hf (λ x hx=>aF _ (aH _ hx)) hp hz ht ?_);apply dh 1 rfl;exact At.rm [1,1] (h e' he')
theorem mu {d:Addr}{k e l:List bT}{ρ ρs:List Int}{as:List Tm}(he:T.st e)(hp:nX (cM ρ (Tm.varsL as)) ρs)(hz:ρs.length<100000)(ht:Tm.szL as<100000)
  (h:∀ e',T.st e'→At ((d,.dI (fL (cM ρ (Tm.varsL as))))::(k++(e'++l))) (Q (.tup [.tup (Tm.avs (Tm.rnL ρs as)),.loc d]))):
  At ((d,.dI (fL ρ))::(k++(e++l))) (bR J (n+4) 482 Q [.tup (Tm.avs as),.loc d]):=by
 refine L.law.renumber_all (n+3) _ _ Q rfl ?_;apply bJ;intro dl;refine At.pk [1,0] (ly (We T as (cM ρ (Tm.varsL as)) ρs dl d k l) as ⟨[],ρ,e⟩ rfl ⟨rfl,rfl,trivial⟩ (me as) ⟨rfl,rfl,he⟩ (λ y ys x hP=>?_) λ x hP=>?_)
 ·refine vW L (k:=_::k) hP.t ((g7 (Tm.varsL ys) _).trans (nX.trans ⟨[],(aq _).trans ((dR ..).symm.trans hP.v)⟩ hp)) hz (ac (oD (fv hP.e)) ht) λ e' he'=>?_;apply bF 1;rfl;apply bG 1 rfl
  ·rw[dk,lV];exact cw (aa (aa (ah _ _) (am (List.length_append.symm.trans (ae List.length hP.e)))) (fV as)) ht
  ·exact dp ⟨x.dn++[y],cM x.ρ y.vars,e'⟩ (ae (λ z=>_::(dl,bO.list z)::_) ((ae Tm.avs (yh ρs x.dn [y])).trans (pc _ (y.rn ρs)))) ⟨rfl,rfl,trivial⟩ ⟨(ao ..).trans hP.e,(dR ..).symm.trans hP.v,he'⟩
 ·rcases x with⟨dn,ρ',e'⟩
  have e1:dn=as:=(aq dn).symm.trans hP.e;have e2:ρ'=cM ρ (Tm.varsL as):=hP.v;subst e1 e2;apply uz 1 rfl;exact At.rm [1] (h e' hP.t)
theorem Ao {self gl:Addr}{e l:List bT}{ρs:List Int}{f:Int}{as:List Tm}{gs:List Gl}(he:T.st e)(hv:cM [] (Tm.varsL as++gI gs)=ρs)(hz:ρs.length<100000)(ht:Tm.szL as<100000)(hg:xY gs<100000)(hl:gs.length<100000)
  (h:∀ e' k dx nl,T.st e'→At (JD k dx f (.tup (Tm.avs (Tm.rnL ρs as))) (.loc nl) ρs.length++((nl,.list (gs.map λ g=>(g.rn ρs).av))::(e'++l))) (Q (.loc k))):
  At ((gl,.list (gs.map Gl.av))::(e++l)) (bR J (n+5) 468 Q [.loc self,.int f,.tup (Tm.avs as),.loc gl]):=by
 refine L.law.Normaliser_finish (n+4) _ _ Q rfl (bJ λ d=>?_);have hv':cM (cM [] (Tm.varsL as)) (gI gs)=ρs:=(dR ..).symm.trans hv;refine mu L (k:=[_]) (ρ:=[]) he (nX.trans (g7 (gI gs) _) ⟨[],(aq _).trans hv'⟩) hz ht λ e1 he1=>?_;apply bJ;intro nl;refine At.pk [1,0] (fj (Ox T f (.tup (Tm.avs (Tm.rnL ρs as))) gs ρs nl gl d l) gs ⟨[],cM [] (Tm.varsL as),e1⟩ 2 rfl ⟨rfl,rfl,rfl,rfl,trivial⟩ rfl (λ ω=>rfl) ⟨rfl,hv',he1⟩ (λ y ys x hP=>?_) λ x hP=>?_)
 ·have hp:nX (cM x.ρ y.vars) ρs:=(g7 (gI ys) _).trans ⟨[],(aq _).trans ((dR ..).symm.trans hP.v)⟩;have hs:=ac (EB (fv hP.e)) hg;have hd:(x.dn.map λ g=>(g.rn ρs).av).length<cX:=by
   rw[ak];exact cw (aa (ah _ _) (am (List.length_append.symm.trans (ae List.length hP.e)))) hl
  have nx:∀ e',T.st e'→∀ {S m},mO m [(1,.int f),(2,.tup (Tm.avs (Tm.rnL ρs as))),(4,.loc d),(5,.loc nl)]→At ((d,.dI (fL (cM x.ρ y.vars)))::(nl,.list (x.dn.map (λ g=>(g.rn ρs).av)++[(y.rn ρs).av]))::(gl,.list (gs.map Gl.av))::(e'++l)) (jP (Ox T f (.tup (Tm.avs (Tm.rnL ρs as))) gs ρs nl gl d l) ys S .next m):=λ e' he' S m hm=>
   dp ⟨x.dn++[y],cM x.ρ y.vars,e'⟩ (ae (λ z=>_::(nl,bO.list z)::_) (Ez ρs x.dn y).symm) hm ⟨(ao ..).trans hP.e,(dR ..).symm.trans hP.v,he'⟩
  rcases y with⟨f',ts⟩|⟨f',ts⟩|⟨u,v⟩|_|_|j|j|j
  ·refine mu L (k:=[_,_]) hP.t hp hz hs λ e' he'=>?_;apply bF 1;rfl;apply bG 1 rfl hd;exact nx e' he' ⟨rfl,rfl,rfl,rfl,trivial⟩
  ·refine mu L (k:=[_,_]) hP.t hp hz hs λ e' he'=>?_;apply bF 1;rfl;apply bG 1 rfl hd;exact nx e' he' ⟨rfl,rfl,rfl,rfl,trivial⟩
  ·have e1:Tm.varsL [u,v]=u.vars++v.vars:=ae (u.vars++·) (aq _);refine mu L (k:=[_,_]) (as:=[u,v]) hP.t (e1▸hp) hz hs λ e' he'=>?_;rw[e1];apply bF 1;rfl;apply bG 1 rfl hd;exact nx e' he' ⟨rfl,rfl,rfl,rfl,trivial⟩
  ·apply bF 1;rfl;apply bG 1 rfl hd;exact nx x.e hP.t ⟨rfl,rfl,rfl,rfl,trivial⟩
  ·apply bF 1;rfl;apply bG 1 rfl hd;exact nx x.e hP.t ⟨rfl,rfl,rfl,rfl,trivial⟩
  ·refine AF (ac (aa (i6 x.ρ j).len hp.len) hz) ?_;apply bF 1;rfl;apply wq 0 rfl hp;apply bG 1 rfl hd;exact nx x.e hP.t ⟨rfl,rfl,rfl,rfl,trivial⟩
  ·refine AF (ac (aa (i6 x.ρ j).len hp.len) hz) ?_;apply bF 1;rfl;apply wq 0 rfl hp;apply bG 1 rfl hd;exact nx x.e hP.t ⟨rfl,rfl,rfl,rfl,trivial⟩
  ·refine AF (ac (aa (i6 x.ρ j).len hp.len) hz) ?_;apply bF 1;rfl;apply wq 0 rfl hp;apply bG 1 rfl hd;exact nx x.e hP.t ⟨rfl,rfl,rfl,rfl,trivial⟩
 ·rcases x with⟨dn,ρ',e'⟩
  have e1:dn=gs:=(aq dn).symm.trans hP.e;have e2:ρ'=ρs:=hP.v;subst e1 e2;apply wN 0 rfl;rw[fL,oP];exact AZ L.law λ k dx=>At.rm [2,3] (h e' k dx nl hP.t)
end
noncomputable def bV:List It→List El
 |[]=>[]
 |.body t tg::r=>(ee t).map (λ x=>El.goal x tg)++bV r
 |.mark k::r=>.mark k::bV r
 |.own::r=>.own::bV r
 |.fail::r=>.fail::bV r
theorem nB (a b:List It):bV (a++b)=bV a++bV b:=by
 induction a with
 |nil=>rfl
 |cons i r ih=>
  rcases i with⟨t,tg⟩|k|_|_
  ·exact (ae (_++·) ih).trans (ao ..).symm
  all_goals exact ae (_::·) ih
def g9 (t:Bd):Prop:=t.ok∧t.tm.sz<900
def It.ok:It→Prop
 |.body t _=>g9 t
 |.mark _=>True|.own=>True|.fail=>True
structure NE (t:Bd):Prop where
 s:g9 t
 c:t.isCom=false
 n:t≠.lf (.a 16)
def El.ok:El→Prop
 |.goal t _=>NE t
 |.mark _=>True|.own=>True|.fail=>True
noncomputable def uh:List It→Nat
 |[]=>0
 |.body t _::r=>t.nd+uh r
 |.mark _::r=>uh r
 |.own::r=>uh r
 |.fail::r=>uh r
noncomputable def K5:List (List It)→Nat
 |[]=>0
 |b::r=>uh b+K5 r
noncomputable def zO:List El→Nat
 |[]=>0
 |.goal t _::r=>t.nd+zO r
 |.mark _::r=>zO r
 |.own::r=>zO r
 |.fail::r=>zO r
theorem xt (a b:List It):uh (a++b)=uh a+uh b:=by
 induction a with
 |nil=>exact (aU _).symm
 |cons i r ih=>
  rcases i with⟨t,tg⟩|k|_|_
  ·exact (ae (t.nd+·) ih).trans (aQ ..).symm
  all_goals exact ih
theorem Ft (a b:List El):zO (a++b)=zO a+zO b:=by
 induction a with
 |nil=>exact (aU _).symm
 |cons i r ih=>
  rcases i with⟨t,tg⟩|_|_|k
  ·exact (ae (t.nd+·) ih).trans (aQ ..).symm
  all_goals exact ih
theorem ER (tg:Int)(l:List Bd):zO (l.map λ x=>El.goal x tg)=o4 l:=by
 induction l with|nil=>rfl|cons x r ih=>exact ae (x.nd+·) ih
theorem ED (a b:List Bd):o4 (a++b)=o4 a+o4 b:=by
 induction a with
 |nil=>exact (aU _).symm
 |cons i r ih=>exact (ae (i.nd+·) ih).trans (aQ ..).symm
theorem z3 (a b:List El):hU (a++b)=hU a++hU b:=by
 induction a with
 |nil=>rfl
 |cons i r ih=>
  rcases i with⟨t,tg⟩|_|_|k
  ·exact ae (t.tm::·) ih
  all_goals exact ih
theorem A2 (tg:Int)(l:List Bd):hU (l.map λ x=>El.goal x tg)=l.map Bd.tm:=by
 induction l with|nil=>rfl|cons x r ih=>exact ae (x.tm::·) ih
structure Zq (t:Bd):Prop where
 nd:o4 (ee t)≤t.nd
 sz:Tm.szL ((ee t).map Bd.tm)≤t.tm.sz
 el:t.ok→∀ z∈ee t,z.ok∧z.isCom=false∧z≠.lf (.a 16)
theorem lE {t:Bd}(h:ee t=[t])(hc:t.isCom=false)(hn:t≠.lf (.a 16)):Zq t:=by
 refine⟨?_,?_,λ ok z hz=>?_⟩
 ·rw[h];exact au _
 ·rw[h];exact au _
 ·rw[h]at hz;rcases aj hz with rfl;exact⟨ok,hc,hn⟩
theorem sE:∀ t:Bd,Zq t:=by
 intro t
 induction t with
 |lf t=>
  rcases t with k|k|k|⟨f,as⟩
  ·exact lE rfl rfl nofun
  ·by_cases q:k=16
   ·have e:=oM q;exact⟨by rw[e];exact aI _,by rw[e];exact aI _,λ ω z hz=>by rw[e]at hz;cases hz⟩
   ·exact lE (mS q) rfl λ h=>q (by injection h with h;injection h)
  ·exact lE rfl rfl nofun
  ·exact lE rfl rfl nofun
 |com x y hx hy=>
  refine⟨?_,?_,λ ok z hz=>(aT hz).elim (hx.el ok.1 z) (hy.el ok.2 z)⟩
  ·exact aa (am (ED ..)) (aB (aR hx.nd hy.nd))
  ·show Tm.szL ((ee x++ee y).map Bd.tm)≤_;rw[aN,dO];exact aB (aR hx.sz hy.sz)
 |sem x y=>exact lE rfl rfl nofun
 |arr x y=>exact lE rfl rfl nofun
 |neg x=>exact lE rfl rfl nofun
theorem DJ {t:Bd}(h:g9 t){z:Bd}(hz:z∈ee t):NE z:=
 have e:=(sE t).el h.1 z hz
 ⟨⟨e.1,ac (aa (oD (bk hz)) (sE t).sz) h.2⟩,e.2.1,e.2.2⟩
structure ElP (n:Nat)(its:List It):Prop where
 nd:zO (bV its)≤uh its
 sz:Tm.szL (hU (bV its))≤900*n
 ln:(bV its).length≤901*n
 el:∀ e∈bV its,e.ok
theorem MD {n a b:Nat}(h:a≤900*n)(h':b<900):b+a≤900*(n+1):=by lia
theorem OA {n a b:Nat}(h:a≤901*n)(h':b<900):b+a≤901*(n+1):=by lia
theorem fG:∀ {its:List It},(∀ i∈its,i.ok)→ElP its.length its:=by
 intro its
 induction its with
 |nil=>exact λ ω=>⟨au _,au _,au _,nofun⟩
 |cons i r ih=>
  intro h;have ih:=ih λ x hx=>h x (ag _ hx);have h1:=h i (af ..);have hs:=MD (b:=0) ih.sz (by decide);rw[aU]at hs;have hl:=OA (b:=1) ih.ln (by decide);rw[bh 1]at hl;rcases i with⟨t,tg⟩|k|_|_
  ·have F:=sE t;have e:bV (.body t tg::r)=(ee t).map (λ x=>El.goal x tg)++bV r:=rfl;refine⟨?_,?_,?_,λ x hx=>(aT hx).elim (λ q=>?_) (ih.el x)⟩
   ·rw[e,Ft,ER];exact aR F.nd ih.nd
   ·rw[e,z3,A2,dO];exact MD ih.sz (ac F.sz h1.2)
   ·rw[e,ay,ak];exact OA ih.ln (ac (aa (ak Bd.tm▸fV _) F.sz) h1.2)
   ·obtain⟨z,hz,rfl⟩:=be q;exact DJ h1 hz
  all_goals exact⟨ih.nd,hs,hl,λ x hx=>(ap hx).elim (λ q=>q▸trivial) (ih.el x)⟩
structure vh (R:Nat)(p:PS):Prop where
 f0:0≤p.fo
 f1:p.fo+(R:Int)<100
 ts:p.sy.ts.length+R<1000
 fs:p.sy.fs.length+R<1000
 wk:p.work.length+2*R<2000
structure fP (a b:Sy):Prop where
 fs:a.fs<+:b.fs
 ts:a.ts<+:b.ts
theorem fP.refl (a:Sy):fP a a:=⟨bx,bx⟩
theorem fP.trans {a b c:Sy}(h:fP a b)(h':fP b c):fP a c:=⟨h.fs.trans h'.fs,h.ts.trans h'.ts⟩
structure zE (s s':Sy):Prop where
 x:fP s s'
 f:s'.fs.length≤s.fs.length+1
 t:s'.ts.length≤s.ts.length+1
theorem zE.refl (s:Sy):zE s s:=⟨.refl s,aM _,aM _⟩
theorem eI (s:Sy)(a n:Int):zE s (s.functor a n).2:=by
 by_cases q:(a,n)∈s.fs
 ·rw[show s.functor a n=_ from aL q];exact .refl s
 ·rw[show s.functor a n=_ from aK q];exact⟨⟨bv ..,bx⟩,am (bK ..),aM _⟩
theorem wg (s:Sy)(a n:Int):(s.functor a n).2.ts=s.ts:=by unfold Sy.functor;split<;>rfl
theorem nC (s:Sy)(x:Sx):zE s (s.atom x).2:=by
 by_cases q:x∈s.ts
 ·rw[show s.atom x=_ from aL q];exact .refl s
 ·rw[show s.atom x=_ from aK q];exact⟨⟨bx,bv ..⟩,aM _,am (bK ..)⟩
theorem nD (s:Sy)(x:Sx)(n:Int):zE s (s.func x n).2:=by
 have h1:=nC s x;have h2:=eI (s.atom x).2 (s.atom x).1 n;have h3:(s.func x n).2.ts=(s.atom x).2.ts:=wg ..;exact⟨h1.x.trans h2.x,xz s x▸h2.f,h3▸h1.t⟩
theorem vh.le {R R':Nat}{p:PS}(h:vh R p)(hR:R'≤R):vh R' p:=⟨h.f0,Int.lt_of_le_of_lt (Int.add_le_add_left (bn hR) _) h.f1,ac (aP hR _) h.ts,ac (aP hR _) h.fs,ac (aP (Nat.mul_le_mul_left 2 hR) _) h.wk⟩
theorem NF {a b R:Nat}(h:a+(1+R)<1000)(h':b≤a+1):b+R<1000:=by lia
theorem YW {a R:Nat}(h:a+2*(1+R)<2000):a+2*R<2000:=by lia
theorem Yc {f:Int}{R:Nat}(h:f+((1+R:Nat):Int)<100):f+(R:Int)<100:=by lia
theorem WB {f:Int}{n b R:Nat}(h:f+((n+R:Nat):Int)<100)(hb:1+b≤n):f+1+((b+R:Nat):Int)<100:=by lia
theorem M1 {a a' n b R:Nat}(h:a+(n+R)<1000)(h':a'≤a+1)(hb:1+b≤n):a'+(b+R)<1000:=by lia
theorem TH {w l n b R:Nat}(h:w+2*(n+R)<2000)(hb:l+2*b≤2*n):w+l+2*(b+R)<2000:=by lia
theorem vh.tab {R:Nat}{p p':PS}(h:vh (1+R) p)(g:zE p.sy p'.sy)(hf:p'.fo=p.fo)(hw:p'.work=p.work):vh R p':=
 ⟨hf▸h.f0,hf▸Yc h.f1,NF h.ts g.t,NF h.fs g.f,hw▸YW h.wk⟩
structure rW (w:Wk):Prop where
 a:∃ l,w.args=cK l∧l.length≤901
 i:∀ i∈w.items,i.ok
 n:w.items.length≤4
noncomputable def qq:List Wk→Nat
 |[]=>0
 |w::r=>uh w.items+qq r
theorem ty (a b:List Wk):qq (a++b)=qq a+qq b:=by
 induction a with
 |nil=>exact (aU _).symm
 |cons i r ih=>exact (ae (uh i.items+·) ih).trans (aQ ..).symm
structure SY (g:Bd)(bod:List (List It)):Prop where
 n1:1+K5 bod≤g.nd
 n2:bod.length+2*K5 bod≤2*g.nd
 ok:∀ b∈bod,(∀ i∈b,i.ok)∧b.length≤4
structure QJ (n:Nat)(b:List It):Prop where
 i:∀ i∈b,i.ok
 l:b.length≤4
 n:uh b≤n
theorem wH {t:Bd}(h:g9 t)(nv:Int):(∀ i∈fu t nv,i.ok)∧uh (fu t nv)=t.nd:=by
 unfold fu;cases hc t with
 |true=>exact⟨λ i hi=>(ap hi).elim (λ e=>e▸trivial) λ q=>aj q▸h,rfl⟩
 |false=>exact⟨λ i hi=>aj hi▸h,rfl⟩
theorem g9.two {x y:Bd}{n:Nat}(h:(x.ok∧y.ok)∧x.tm.sz+(y.tm.sz+0)+1<900):g9 x∧g9 y:=
 have:=nu (n:=899) (Nat.le_of_lt_succ h.2)
 ⟨⟨h.1.1,Nat.lt_succ_of_le this.1⟩,⟨h.1.2,Nat.lt_succ_of_le this.2⟩⟩
theorem u7 {x y:Bd}(tg nv:Int)(h:g9 (.arr x y)):QJ (x.nd+y.nd) (lj tg nv (.arr x y)):=by
 have hh:=g9.two (n:=0) h;have hc:=wH hh.1 nv;refine⟨λ i hi=>(aT hi).elim (hc.1 i) λ q=>?_,?_,?_⟩
 ·exact (ap q).elim (λ e=>e▸trivial) λ q=>aj q▸hh.2
 ·exact aa (am ay) (aG (kJ ..) 2)
 ·exact am ((xt ..).trans (congr (ae HAdd.hAdd hc.2) (Nat.add_zero _)))
theorem HQ {t:Bd}(tg nv:Int)(h:g9 t):QJ t.nd (lj tg nv t):=by
 have one:lj tg nv t=[.body t tg]→QJ t.nd (lj tg nv t):=λ e=>by
  rw[e];exact⟨λ i hi=>aj hi▸h,show 1≤4 by decide,au _⟩
 rcases t with t|⟨x,y⟩|⟨x,y⟩|⟨x,y⟩|x
 ·exact one rfl
 ·exact one rfl
 ·exact one rfl
 ·have:=u7 tg nv h;exact⟨this.i,this.l,aB this.n⟩
 ·exact one rfl
theorem Vl (tg:Int):∀ {l:List Bd} {nv:Int},(∀ t∈l,g9 t)→K5 (tj tg nv l)≤o4 l∧∀ b∈tj tg nv l,(∀ i∈b,i.ok)∧b.length≤4:=by
 intro l
 induction l with
 |nil=>exact λ ω=>⟨au _,nofun⟩
 |cons t r ih=>
  intro nv h;have h1:=HQ tg nv (h t (af ..));have h2:=ih (nv:=lT nv t) λ x hx=>h x (ag _ hx);exact⟨aR h1.n h2.1,λ b hb=>(ap hb).elim (λ e=>e▸⟨h1.i,h1.l⟩) (h2.2 b)⟩
theorem arS (a b c d:Nat)(h:b+c=d+1):a+b+(c+1)=a+d+1+1:=by lia
theorem E0:∀ t:Bd,o4 (bW t)+(bW t).length=t.nd+1:=by
 intro t
 induction t with
 |sem x y _ hy=>exact arS _ _ _ _ hy
 |lf t=>rfl
 |com x y=>rfl
 |arr x y=>rfl
 |neg x=>rfl
theorem y0 (t:Bd):1≤(bW t).length:=by cases t<;>exact aV _
theorem Bh {t:Bd}(h:g9 t):∀ z∈bW t,g9 z:=by
 induction t with
 |sem x y _ hy=>
  have hh:=g9.two (n:=0) h;exact λ z hz=>(ap hz).elim (λ e=>e▸hh.1) (hy hh.2 z)
 |lf t=>exact λ z hz=>aj hz▸h
 |com x y=>exact λ z hz=>aj hz▸h
 |arr x y=>exact λ z hz=>aj hz▸h
 |neg x=>exact λ z hz=>aj hz▸h
theorem WM {b l n d:Nat}(h:b≤l)(h':l+n=d+1)(hn:2≤n):1+b≤d:=by lia
theorem Wc {b l n d:Nat}(h:b≤l)(h':l+n=d+1)(hn:2≤n):n+2*b≤2*d:=by lia
theorem W0 {b x:Nat}(h:b≤x):1+(b+0)≤x+1:=by lia
theorem Ut {b x:Nat}(h:b≤x):1+2*(b+0)≤2*(x+1):=by lia
theorem V4 {b x:Nat}(h:b≤x):1+(b+(0+0))≤x+1:=by lia
theorem XB {b x:Nat}(h:b≤x):2+2*(b+(0+0))≤2*(x+1):=by lia
theorem Rs {x:Bd}(nv:Int)(h:g9 (.neg x)):QJ x.nd (ql x nv):=by
 have hx:g9 x:=⟨h.1,ac (aB (ah ..)) h.2⟩;unfold ql;have tail:∀ l,(∀ i∈l,i.ok)→l.length≤2→uh l≤x.nd→QJ x.nd (l++[.own,.fail]):=λ l h1 h2 h3=>by
  refine⟨λ i hi=>(aT hi).elim (h1 i) λ q=>?_,?_,?_⟩
  ·exact (ap q).elim (λ e=>e▸trivial) λ q=>aj q▸trivial
  ·exact aa (am ay) (aG h2 2)
  ·exact aa (am (xt ..)) h3
 cases cY x with
 |true=>exact tail _ (wH hx nv).1 (kJ ..) (am (wH hx nv).2)
 |false=>exact tail [.body (.lf (.s 24 [x.tm])) (-1)] (λ i hi=>aj hi▸⟨⟨by decide,nofun,.inr (by decide)⟩,h.2⟩) (aM 1) (rG x)
theorem Oy {g:Bd}(bt nv:Int)(hg:g.isCh=true)(h:g9 g):SY g (jd bt nv g):=by
 rcases g with t|⟨x,y⟩|⟨x,y⟩|⟨x,y⟩|x
 ·cases hg
 ·cases hg
 ·have hb:=Vl bt (l:=bW (.sem x y)) (nv:=nv) (Bh h);have hn:=E0 (.sem x y);have hl:2≤(bW (.sem x y)).length:=aD (y0 y);exact⟨WM hb.1 hn hl,(oF bt (bW (.sem x y)) nv).symm▸Wc hb.1 hn hl,hb.2⟩
 ·have hb:=u7 bt nv h;exact⟨W0 hb.n,Ut hb.n,λ b hm=>aj hm▸⟨hb.i,hb.l⟩⟩
 ·have hb:=Rs nv h;exact⟨V4 hb.n,XB hb.n,λ b hm=>(ap hm).elim (λ e=>e▸⟨hb.i,hb.l⟩) λ q=>aj q▸⟨nofun,aI _⟩⟩
noncomputable def oo:Sy:=⟨[[91,93],[46],[123,125],[45],[43],[42],[47],[44],[124],[59],[45,62],[92,43],[58,45],[63,45],[45,45,62],[33],[116,114,117,101],[102,97,105,108],[102,97,108,115,101],[99,97,108,108],[61],[94],[101,114,114,111,114],[],[101,110,100,95,111,102,95,102,105,108,101],[115,121,115,116,101,109],[36,86,65,82],[99,97,116,99,104],[116,104,114,111,119]],
 [(1,2),(7,2),(9,2),(10,2),(11,1),(12,2),(12,1),(13,1),(14,2),(2,1),(20,2),(21,2),(3,1),(3,2),(4,2),(6,2),(22,2),(26,1),(27,3),(28,1),(15,0),(16,0),(17,0),(18,0),(19,1),(19,2),(19,3),(19,4),(19,5),(19,6),(19,7),(19,8)]⟩
noncomputable def sT:Sy:=⟨oo.ts++[gt],oo.fs++[(29,1)]⟩
noncomputable abbrev tT:Int:=32
theorem fQ {α:Type}[DecidableEq α]{x:α}{z:List α}:∀ {a:List α},x∈a→cy (a++z) x=cy a x:=by
 intro a
 induction a with
 |nil=>exact nofun
 |cons y r ih=>
  intro h
  by_cases q:y=x
  ·exact (gm q).trans (gm q).symm
  ·exact (gg q).trans ((ae (·+1) (ih ((ap h).resolve_left λ e=>q e.symm))).trans (gg q).symm)
theorem iT {α:Type}[DecidableEq α]{x:α}:∀ {l:List α},x∈l→l[cy l x]? =some x:=by
 intro l
 induction l with
 |nil=>exact nofun
 |cons y r ih=>
  intro h
  by_cases q:y=x
  ·rw[gm q,q];rfl
  ·rw[gg q];exact ih ((ap h).resolve_left λ e=>q e.symm)
theorem nY (s:Sy)(a n:Int):∃ i:Nat,(s.functor a n).1=(i:Int)∧(s.functor a n).2.fs[i]? =some (a,n):=by
 by_cases q:(a,n)∈s.fs
 ·rw[show s.functor a n=_ from aL q];exact⟨_,rfl,iT q⟩
 ·rw[show s.functor a n=_ from aK q];exact⟨_,rfl,List.getElem?_concat_length⟩
theorem ND:∀ x∈sT.fs,x.2=0→x.1=15∨x.1=16∨x.1=17∨x.1=18:=by decide
theorem sZ {s:Sy}(h:fP sT s){a n:Int}{k:Nat}(hm:(a,n)∈sT.fs)(hk:cy sT.fs (a,n)=k):(s.functor a n).1=(k:Int):=by
 obtain⟨z,e⟩:=h.fs;rw[show s.functor a n=_ from aL (e▸aH _ hm),←e,fQ hm,hk]
theorem Ja {s:Sy}(h:fP sT s){k:Int}(hk:k≠16):LJ s tT k:=by
 refine⟨λ e=>?_,λ e=>?_,λ h1 h2=>?_⟩
 ·subst e;exact sZ h (by decide) (by decide)
 ·rcases e with rfl|rfl
  ·exact .inl (sZ h (by decide) (by decide))
  ·exact .inr (sZ h (by decide) (by decide))
 ·obtain⟨i,e1,e2⟩:=nY s k 0;have hp:=h.fs.trans (eI s k 0).x.fs;have hi:¬ i<33:=λ q=>by
   obtain⟨z,e⟩:=hp;rw[←e,bw q]at e2;exact (ND _ (aY e2) rfl).elim h1 λ q=>q.elim hk h2
  rw[e1];exact⟨ba (aO (by decide) (Nat.le_of_not_lt hi)),λ q=>hi (Int.ofNat.inj q▸(by decide))⟩
theorem Fn {fn:Int}{as:List Tm}{w:Wk}:∀ {lis:List Addr} {its:List (List It)},w∈on fn as lis its→w.f=fn∧w.args=as∧w.items∈its:=by
 intro lis
 induction lis with
 |nil=>intro its h;cases h
 |cons a r ih=>
  intro its h;rcases its with _|⟨i,its⟩
  ·cases h
  ·rcases ap h with rfl|h
   ·exact⟨rfl,rfl,af ..⟩
   ·have:=ih h;exact⟨this.1,this.2.1,ag _ this.2.2⟩
theorem Br {fn:Int}{as:List Tm}:∀ {lis:List Addr} {its:List (List It)},lis.length=its.length→qq (on fn as lis its)=K5 its∧(on fn as lis its).length=its.length:=by
 intro lis
 induction lis with
 |nil=>intro its h;rcases its with _|⟨i,its⟩;exact⟨rfl,rfl⟩;cases h
 |cons a r ih=>intro its h;rcases its with _|⟨i,its⟩;cases h;have:=ih (Nat.succ.inj h);exact⟨ae (uh i+·) this.1,ae (·+1) this.2⟩
noncomputable def nq (occ:List Int)(cs:CS)(p:PS):El→CS
 |.goal t tg=>pQ occ tT tg cs p t
 |.own=>(lu (-1) cs p.nv).add (kR (-1) cs p.nv)
 |.fail=>cs.add .fail
 |.mark k=>cs.add (.mark k)
noncomputable def wW (occ:List Int)(cs:CS)(p:PS)(lis:List Addr):El→PS
 |.goal t tg=>C4 occ tg cs p lis t
 |.own=>p.vr (sB (-1) cs p.nv)
 |.fail=>p
 |.mark _=>p
noncomputable def wL (cs:CS)(p:PS):El→List (List It)
 |.goal t tg=>nR tg cs p t
 |.own=>[]|.fail=>[]|.mark _=>[]
inductive Dr (occ:List Int):CS→PS→List El→CS→PS→Prop
 |nil {cs:CS} {p:PS}:Dr occ cs p [] cs p
 |cons {cs cs':CS} {p p':PS} {e:El} {r:List El} (lis:List Addr):lis.length=(wL cs p e).length→Dr occ (nq occ cs p e) (wW occ cs p lis e) r cs' p'→Dr occ cs p (e::r) cs' p'
structure SI (n z:Nat)(cs:CS)(p:PS)(cs':CS)(p':PS)(nw:List Wk):Prop where
 X:fP p.sy p'.sy
 lid:∀ R,vh (n+R) p→vh (qq nw+R) p'
 w:p'.work=p.work++nw
 ok:∀ w∈nw,rW w
 k:cs'.kvs=cs.kvs
 g:∃ x:Gl,cs'.goals=cs.goals++[x]∧x.sz≤z+1
theorem rJ (tg:Int)(cs:CS)(nv:Int):(lu tg cs nv).kvs=cs.kvs∧(lu tg cs nv).goals=cs.goals:=by
 unfold lu
 by_cases q:tg= -1
 ·rw[aL q];cases cs.called<;>exact⟨rfl,rfl⟩
 ·rw[aK q];exact⟨rfl,rfl⟩
theorem BF (tg:Int)(cs:CS)(nv:Int):(kR tg cs nv).sz=0:=by
 unfold kR
 by_cases q:tg= -1
 ·rw[aL q];cases cs.called<;>rfl
 ·rw[aK q];rfl
theorem F5 (g:Bd)(tg:Int)(cs:CS)(nv:Int):(zK g tg cs nv).kvs=cs.kvs∧(zK g tg cs nv).goals=cs.goals:=by
 unfold zK;cases hc g with
 |false=>exact⟨rfl,rfl⟩
 |true=>show (if tg= -1 then cs.lv (ce cs nv)else cs).kvs=_∧(if tg= -1 then cs.lv (ce cs nv)else cs).goals=_;split<;>exact⟨rfl,rfl⟩
theorem F3 (occ:List Int)(g:Bd)(tg:Int)(cs:CS)(nv:Int):∃ l,tD occ g tg cs nv=cK l∧l.length≤g.tm.sz+1:=by
 have hk:(cg occ g.tm).length≤g.tm.sz:=aa (List.length_filter_le ..) (aa (wn ..) (aa (am (aU _)) (eJ _)));unfold tD;cases hc g with
 |false=>exact⟨_,aq _,aB hk⟩
 |true=>exact⟨cg occ g.tm++[iI g tg cs nv],(aN (f:=Tm.v) (l₁:=cg occ g.tm) (l₂:=[iI g tg cs nv])).symm,aa (am (bK ..)) (aD hk)⟩
theorem gQ {n z:Nat}{cs cs':CS}{p p':PS}(hs:zE p.sy p'.sy)(hn:n=1∨(n=0∧p'.sy=p.sy))(hf:p'.fo=p.fo)(hw:p'.work=p.work)(hk:cs'.kvs=cs.kvs)(hg:∃ x:Gl,cs'.goals=cs.goals++[x]∧x.sz≤z+1):SI n z cs p cs' p' []:=by
 refine⟨hs.x,λ R h=>?_,hw.trans (aq _).symm,nofun,hk,hg⟩;rw[show qq []+R=R from aU R];rcases hn with rfl|⟨rfl,e⟩
 ·exact h.tab hs hf hw
 ·rw[aU]at h;exact⟨hf▸h.f0,hf▸h.f1,e▸h.ts,e▸h.fs,hw▸h.wk⟩
theorem Cb {g:Bd}{occ:List Int}{tg:Int}{cs:CS}{p:PS}{lis:List Addr}(hg:g.isCh=true)(h:g9 g)(hl:lis.length=(nR tg cs p g).length):∃ nw,SI g.nd g.tm.sz cs p (Fo occ g tg cs p) (Ds occ g tg cs p lis) nw:=by
 have hB:=Oy (iI g tg cs p.nv) (m4 g tg cs p.nv) hg h;obtain⟨l,e1,e2⟩:=F3 occ g tg cs p.nv;have hm:=Br (fn:=(qk occ g tg cs p).1) (as:=tD occ g tg cs p.nv) hl;have hF:zE p.sy (qk occ g tg cs p).2:=nD ..;have hk:=F5 g tg cs p.nv;refine⟨on (qk occ g tg cs p).1 (tD occ g tg cs p.nv) lis (nR tg cs p g),hF.x,λ R h=>?_,rfl,λ w hw=>?_,hk.1,_,ae (·++_) hk.2,?_⟩
 ·rw[hm.1];refine⟨aS h.f0 (Int.le_add_of_nonneg_right (by decide)),WB h.f1 hB.n1,M1 h.ts hF.t hB.n1,M1 h.fs hF.f hB.n1,?_⟩;have e:(Ds occ g tg cs p lis).work.length=p.work.length+(nR tg cs p g).length:=List.length_append.trans (ae _ hm.2);rw[e];exact TH h.wk hB.n2
 ·obtain⟨_,e,hi⟩:=Fn hw;have hi:=hB.ok _ hi;exact⟨⟨l,e.trans e1,aa e2 (aD (aW h.2))⟩,hi.1,hi.2⟩
 ·show Tm.szL (tD occ g tg cs p.nv)≤_;rw[e1,gx];exact e2
theorem Zn (cs:CS)(x:Gl){n:Nat}(h:x.sz≤n):∃ y:Gl,(cs.add x).goals=cs.goals++[y]∧y.sz≤n:=⟨x,rfl,h⟩
theorem RE {t:Tm}{tg:Int}{cs:CS}{p:PS}(ok:EX t):SI 1 t.sz cs p (Dq tT tg cs p t) (SA tg cs p t) []:=by
 rcases t with k|k|k|⟨f,as⟩
 ·exact gQ (.refl _) (.inl rfl) rfl rfl rfl ⟨_,rfl,aM 1⟩
 ·have hf:=eI p.sy k 0
  by_cases q:k=15
  ·rw[show Dq tT tg cs p (.a k)=_ from aL q];have hk:=rJ tg cs p.nv;exact gQ hf (.inl rfl) rfl rfl hk.1 ⟨_,ae (·++_) hk.2,aa (am (BF ..)) (aI _)⟩
  ·by_cases q2:k=17∨k=18
   ·rw[show Dq tT tg cs p (.a k)=_ from (aK q).trans (aL q2)];exact gQ hf (.inl rfl) rfl rfl rfl ⟨_,rfl,aI _⟩
   ·rw[show Dq tT tg cs p (.a k)=_ from (aK q).trans (aK q2)];exact gQ hf (.inl rfl) rfl rfl rfl ⟨_,rfl,aI _⟩
 ·exact gQ (.refl _) (.inl rfl) rfl rfl rfl ⟨_,rfl,aM 1⟩
 ·by_cases q:f=10
  ·have hl:=ok.2.1 q;rw[show Dq tT tg cs p (.s f as)=_ from aL q];rcases as with _|⟨x,_|⟨y,_|⟨z,as⟩⟩⟩
   ·cases hl
   ·cases hl
   ·exact gQ (.refl _) (.inl rfl) rfl rfl rfl ⟨_,rfl,aB (aM _)⟩
   ·cases hl
  ·by_cases q2:f=tT
   ·rw[show Dq tT tg cs p (.s f as)=_ from (aK q).trans (aL q2)];exact gQ (.refl _) (.inl rfl) rfl rfl rfl ⟨_,rfl,aB (aM _)⟩
   ·rw[show Dq tT tg cs p (.s f as)=_ from (aK q).trans (aK q2)];exact gQ (.refl _) (.inl rfl) rfl rfl rfl ⟨_,rfl,aB (aM _)⟩
noncomputable def El.nd:El→Nat
 |.goal t _=>t.nd
 |.own=>0|.fail=>0|.mark _=>0
noncomputable def El.sz:El→Nat
 |.goal t _=>t.tm.sz
 |.own=>0|.fail=>0|.mark _=>0
theorem CY {e:El}{occ:List Int}{cs:CS}{p:PS}{lis:List Addr}(h:e.ok)(hl:lis.length=(wL cs p e).length):∃ nw,SI e.nd e.sz cs p (nq occ cs p e) (wW occ cs p lis e) nw:=by
 rcases e with⟨t,tg⟩|_|_|k
 ·rcases t with t|⟨x,y⟩|⟨x,y⟩|⟨x,y⟩|x
  ·exact⟨[],RE h.s.1⟩
  ·cases h.c
  ·exact Cb rfl h.s hl
  ·exact Cb rfl h.s hl
  ·exact Cb rfl h.s hl
 ·have hk:=rJ (-1) cs p.nv;exact⟨[],gQ (.refl _) (.inr ⟨rfl,rfl⟩) rfl rfl hk.1 ⟨_,ae (·++_) hk.2,aa (am (BF ..)) (aI _)⟩⟩
 ·exact⟨[],gQ (.refl _) (.inr ⟨rfl,rfl⟩) rfl rfl rfl ⟨_,rfl,aI _⟩⟩
 ·exact⟨[],gQ (.refl _) (.inr ⟨rfl,rfl⟩) rfl rfl rfl ⟨_,rfl,aI _⟩⟩
structure wE (p0:PS)(kvs:List (Int×AV))(R N Z:Nat)(ys:List El)(cs:CS)(p:PS)(nw:List Wk):Prop where
 X:fP p0.sy p.sy
 lid:vh (zO ys+(qq nw+R)) p
 w:p.work=p0.work++nw
 ok:∀ w∈nw,rW w
 k:cs.kvs=kvs
 gl:cs.goals.length+ys.length≤N
 gz:xY cs.goals+(Tm.szL (hU ys)+ys.length)≤Z
theorem DF (a b:List Gl):xY (a++b)=xY a+xY b:=by
 induction a with
 |nil=>exact (aU _).symm
 |cons t r ih=>exact (ae (t.sz+·) ih).trans (aQ ..).symm
theorem AR (e:El)(r:List El):zO (e::r)=e.nd+zO r:=by cases e<;>first|rfl|exact (aU _).symm
theorem yR (e:El)(r:List El):Tm.szL (hU (e::r))=e.sz+Tm.szL (hU r):=by cases e<;>first|rfl|exact (aU _).symm
theorem TJ (a b c d:Nat):a+b+(c+d)=a+(b+(c+d)):=aQ ..
theorem TX (x b c d:Nat):x+(b+(c+d))=b+(c+x+d):=by lia
theorem Xc {g z x e l Z:Nat}(h:g+(e+z+(l+1))≤Z)(hx:x≤e+1):g+(x+0)+(z+l)≤Z:=by lia
theorem wE.step {p0:PS}{kvs:List (Int×AV)}{R N Z:Nat}{e:El}{ys:List El}{cs:CS}{p:PS}{nw:List Wk}{occ:List Int}{lis:List Addr}(h:wE p0 kvs R N Z (e::ys) cs p nw)(he:e.ok)(hl:lis.length=(wL cs p e).length):
  ∃ nw',wE p0 kvs R N Z ys (nq occ cs p e) (wW occ cs p lis e) nw'∧(wW occ cs p lis e).work=p0.work++nw':=by
 obtain⟨n2,G⟩:=CY (occ:=occ) he hl;obtain⟨x,g1,g2⟩:=G.g;have hw:(wW occ cs p lis e).work=p0.work++(nw++n2):=G.w.trans ((ae (·++n2) h.w).trans (ao ..));refine⟨nw++n2,⟨h.X.trans G.X,?_,hw,λ w hw=>(aT hw).elim (h.ok w) (G.ok w),G.k.trans h.k,?_,?_⟩,hw⟩
 ·rw[ty,←TX];refine G.lid _ ?_;rw[←TJ,←AR];exact h.lid
 ·rw[g1,bK,aQ,bh 1];exact h.gl
 ·rw[g1,DF];exact Xc (yR e ys▸h.gz) g2
theorem Dr.ok {occ:List Int}{p0:PS}{kvs:List (Int×AV)}{R N Z:Nat}{ys:List El}{cs cs':CS}{p p':PS}(hs:Dr occ cs p ys cs' p'):∀ {nw:List Wk},wE p0 kvs R N Z ys cs p nw→(∀ e∈ys,e.ok)→∃ nw',wE p0 kvs R N Z [] cs' p' nw':=by
 induction hs with
 |nil=>exact λ h ω=>⟨_,h⟩
 |cons lis hl _ ih=>
  intro nw h he;obtain⟨nw',h',_⟩:=h.step (he _ (af ..)) hl;exact ih h' λ x hx=>he x (ag _ hx)
structure KR where
 f:Int
 args:List Tm
 goals:List Gl
noncomputable def KR.rho (K:KR):List Int:=cM [] (Tm.varsL K.args++gI K.goals)
noncomputable def jt (cs:CS):List Gl:=if 0≤cs.level then .level cs.level::cs.goals else cs.goals
noncomputable def iw (w:Wk):List Int:=Tm.varsL (w.args++hU (bV w.items))
structure sr (w:Wk)(p:PS)(K:KR)(p':PS):Prop where
 ex:∃ kvs cs',Dr (iw w) ⟨[], -1,false,kvs⟩ p (bV w.items) cs' p'∧K=⟨w.f,w.args,jt cs'⟩
inductive nN (p0:PS):Nat→List KR→PS→Prop
 |nil:nN p0 0 [] p0
 |step {i:Nat} {ks:List KR} {p p':PS} {w:Wk} {K:KR}:nN p0 i ks p→p.work[i]? =some w→sr w p K p'→nN p0 (i+1) (ks++[K]) p'
structure uW (i:Nat)(p:PS):Prop where
 X:fP sT p.sy
 ok:∀ w∈p.work,rW w
 lid:vh (qq (p.work.drop i)) p
theorem ar4 {a b n N:Nat}(h:a≤900*n)(hb:b≤901*n)(hn:n≤4):0+(a+b)≤7300:=by lia
theorem ar5 {b n:Nat}(hb:b≤901*n)(hn:n≤4):0+b≤3700:=by lia
theorem mf {α:Type}{w:α}:∀ {l:List α} {i:Nat},l[i]? =some w→l.drop i=w::l.drop (i+1):=by
 intro l
 induction l with
 |nil=>exact λ h=>nomatch h
 |cons x r ih=>exact λ {i}=>match i with|0=>λ h=>ae (·::r) (aA h)|i+1=>λ h=>ih h
theorem wE.start {w:Wk}{p:PS}{R:Nat}(kvs:List (Int×AV))(hw:rW w)(h:vh (uh w.items+R) p):wE p kvs R 3700 7300 (bV w.items) ⟨[], -1,false,kvs⟩ p []:=by
 have E:=fG hw.i;refine⟨.refl _,?_,(aq _).symm,nofun,rfl,ar5 E.ln hw.n,ar4 (N:=0) E.sz E.ln hw.n⟩;rw[show qq []+R=R from aU R];exact h.le (aG E.nd R)
theorem p8 {α:Type}{l r:List α}{i:Nat}(h:i≤l.length):(l++r).drop i=l.drop i++r:=List.drop_append_of_le_length h
theorem uW.step {i:Nat}{p p':PS}{w:Wk}{K:KR}(h:uW i p)(hw:p.work[i]? =some w)(hc:sr w p K p'):uW (i+1) p'∧∃ nw,p'.work=p.work++nw:=by
 obtain⟨kvs,cs',hs,_⟩:=hc.ex;have hwk:=h.ok w (aY hw);have hl:=h.lid;rw[mf hw]at hl;obtain⟨nw,S⟩:=hs.ok (wE.start (R:=qq (p.work.drop (i+1))) kvs hwk hl) (fG hwk.i).el;refine⟨⟨h.X.trans S.X,?_,?_⟩,nw,S.w⟩
 ·rw[S.w];exact λ x hx=>(aT hx).elim (h.ok x) (S.ok x)
 ·rw[S.w,p8 (az hw).1,ty,bh,←aU (qq nw+_)];exact S.lid
theorem nN.ok {p0:PS}(h0:uW 0 p0){i:Nat}{ks:List KR}{p:PS}(h:nN p0 i ks p):uW i p∧ks.length=i∧i≤p.work.length:=by
 induction h with
 |nil=>exact⟨h0,rfl,aI _⟩
 |step _ hw hc ih=>
  obtain⟨R,nw,e⟩:=ih.1.step hw hc;exact⟨R,(bK ..).trans (ae (·+1) ih.2.1),aa (az hw).1 (e▸ay▸ah ..)⟩
noncomputable def sM (ws:List Wk):List bT:=ws.map λ w=>(w.li,.list (lZ w.items))
theorem I3 {fn:Int}{as:List Tm}:∀ {lis:List Addr} {bod:List (List It)},sM (on fn as lis bod)=lO lis (bod.map lZ):=by
 intro lis
 induction lis with
 |nil=>exact rfl
 |cons a r ih=>intro bod;rcases bod with _|⟨b,bod⟩;rfl;exact ae (_::·) ih
theorem xx (a b:List Wk):sM (a++b)=sM a++sM b:=aN
noncomputable def kE (k dx gl:Addr)(K:KR):List bT:=JD k dx K.f (.tup (Tm.avs (Tm.rnL K.rho K.args))) (.loc gl) K.rho.length++[(gl,.list (K.goals.map λ g=>(g.rn K.rho).av))]
theorem OY {occ:List Int}{cs:CS}{p:PS}{lis:List Addr}{e:El}(h:e.ok)(hl:lis.length=(wL cs p e).length):∃ fn as,(wW occ cs p lis e).work=p.work++on fn as lis (wL cs p e):=by
 have nil:(wL cs p e)=[]→(wW occ cs p lis e).work=p.work→∃ fn as,(wW occ cs p lis e).work=p.work++on fn as lis (wL cs p e):=λ e1 e2=>by
  rw[e1]at hl;obtain rfl:=List.eq_nil_of_length_eq_zero hl;exact⟨0,[],e2.trans (aq _).symm⟩
 rcases e with⟨t,tg⟩|_|_|k
 ·rcases t with t|⟨x,y⟩|⟨x,y⟩|⟨x,y⟩|x
  ·exact nil rfl (by cases t<;>rfl)
  ·cases h.c
  all_goals exact⟨_,_,rfl⟩
 all_goals exact nil rfl rfl
theorem vh.fo {R:Nat}{p:PS}(h:vh R p):p.fo<100:=Int.lt_of_le_of_lt (Int.le_add_of_nonneg_right (bf R)) h.f1
theorem Sh (g:Gl)(l:List Gl):xY (g::l)=g.sz+xY l:=rfl
theorem W4 (a s n:Nat):a+1+(s+n)=a+s+(n+1):=by lia
theorem Ci (l:List Gl):(gI l).length≤xY l+l.length:=by
 induction l with
 |nil=>exact au _
 |cons g r ih=>
  have hg:g.vars.length≤g.sz+1:=by
   rcases g with⟨f,ts⟩|⟨f,ts⟩|⟨x,y⟩|_|_|k|k|k
   ·exact aB (g3 ts)
   ·exact aB (g3 ts)
   ·exact aB (aa (am ay) (aR (eJ x) (eJ y)))
   ·exact aI _
   ·exact aI _
   all_goals exact au 1
  exact aa (am ay) (aa (aR hg ih) (am (W4 ..)))
theorem BS (ρ:List Int)(k:Int):(g8 ρ k).length≤ρ.length+1:=by
 by_cases h:k∈ρ
 ·rw[d7 h];exact aM _
 ·rw[eQ h,bK];exact au _
theorem Cy (l:List Int):∀ ρ,(cM ρ l).length≤ρ.length+l.length:=by
 induction l with
 |nil=>exact λ ω=>au _
 |cons k r ih=>exact λ ρ=>aa (ih (g8 ρ k)) (aa (aG (BS ρ k) _) (am ((aQ ..).trans (ae _ (bh ..)))))
theorem Hf (cs:CS):xY (jt cs)=xY cs.goals∧(jt cs).length≤cs.goals.length+1:=by
 unfold jt;split
 ·exact⟨aU _,au _⟩
 ·exact⟨rfl,aM _⟩
theorem arG {a b c v:Nat}(h:v≤b+c)(ha:a≤901)(hb:b≤7300)(hc:c≤3701):a+v<100000:=by lia
structure Ms (K:KR):Prop where
 r:K.rho.length<100000
 a:Tm.szL K.args<100000
 g:xY K.goals<100000
 l:K.goals.length<100000
theorem Gh {p0 p:PS}{kvs:List (Int×AV)}{R:Nat}{cs:CS}{nw:List Wk}{w:Wk}(ha:Tm.szL w.args≤901)(s:wE p0 kvs R 3700 7300 [] cs p nw):Ms ⟨w.f,w.args,jt cs⟩:=by
 have hz:=Hf cs;have h1:xY (jt cs)≤7300:=hz.1▸s.gz;have h2:(jt cs).length≤3701:=aa hz.2 (aD s.gl);refine⟨?_,ac ha (by decide),ac h1 (by decide),ac h2 (by decide)⟩;refine ac (Cy _ []) ?_;rw[List.length_nil,aU,ay];exact arG (Ci _) (aa (g3 _) ha) h1 h2
noncomputable def W8 (N:vo)(p:PS)(el:Addr)(w:Wk)(r:List bT):For It (List It):=⟨It.av,λ ω=>[(0,.loc N.self),(1,.int w.f),(2,.tup (Tm.avs w.args)),(4,.loc el)],λ x=>(el,.list ((bV x).map El.av))::(B N p++((w.li,.list (lZ w.items))::r)),λ ys x=>x++ys=w.items⟩
noncomputable def X8 (el fl:Addr)(t:Bd)(tg:Int)(a:List El)(M:List (Nat×AV))(r:List bT):For Bd (List Bd):=⟨dX,λ ω=>(4,.loc el)::(5,(It.body t tg).av)::M,λ x=>(fl,.list ((ee t).map dX))::(el,.list ((a++x.map λ z=>El.goal z tg).map El.av))::r,λ ys x=>x++ys=ee t⟩
structure VV where
 cs:CS
 p:PS
 nw:List Wk
structure Ve (w:Wk)(p0:PS)(kvs:List (Int×AV))(R:Nat)(ys:List El)(x:VV):Prop where
 s:wE p0 kvs R 3700 7300 ys x.cs x.p x.nw
 r:∀ cs' p',Dr (iw w) x.cs x.p ys cs' p'→Dr (iw w) ⟨[], -1,false,kvs⟩ p0 (bV w.items) cs' p'
 o:∀ e∈ys,e.ok∧e∈bV w.items
noncomputable def Rl (N:vo)(C:Bp)(w:Wk)(p0:PS)(kvs:List (Int×AV))(R:Nat)(el:Addr)(r:List bT):For El VV:=⟨El.av,λ ω=>[(0,.loc N.self),(1,.int w.f),(2,.tup (Tm.avs w.args)),(7,.loc C.st)],λ x=>B N x.p++(Cl C x.cs++((el,.list ((bV w.items).map El.av))::(r++sM x.nw))),Ve w p0 kvs R⟩
theorem uC (a:List It)(t:Bd)(tg:Int):bV (a++[.body t tg])=bV a++(ee t).map λ z=>El.goal z tg:=(nB ..).trans (ae (bV a++·) (aq _))
theorem AQ {t:Bd}{tg:Int}{l:List El}(h:El.goal t tg∈l):t.tm∈hU l:=by
 induction l with
 |nil=>cases h
 |cons e r ih=>
  rcases ap h with rfl|q
  ·exact af ..
  ·rcases e with⟨t',tg'⟩|_|_|k
   ·exact ag _ (ih q)
   all_goals exact ih q
theorem zm {t:Tm}{k:Int}{l:List Tm}(h:t∈l)(hk:k∈t.vars):k∈Tm.varsL l:=by
 induction l with
 |nil=>cases h
 |cons e r ih=>exact (ap h).elim (λ q=>aH _ (q▸hk)) λ q=>aF _ (ih q)
theorem LF (b:Bd):b.nd≤b.tm.sz:=by
 induction b with
 |lf t=>exact wB t
 |com x y hx hy=>exact aD (aR hx hy)
 |sem x y hx hy=>exact aD (aR hx hy)
 |arr x y hx hy=>exact aD (aR hx hy)
 |neg x hx=>exact aD hx
theorem g9.nd {t:Bd}(h:g9 t):t.nd<1000:=ac (LF t) (aw h.2 (by decide))
theorem w5 {a b its:List It}(h:a++b=its):(bV a).length≤(bV its).length:=by
 rw[←h,nB,ay];exact ah ..
theorem Ve.next {N:vo}{C:Bp}{w:Wk}{p0:PS}{kvs:List (Int×AV)}{R:Nat}{el:Addr}{r:List bT}{e:El}{ys:List El}{x:VV}{S:cm}{m:bB}(lis:List Addr)(h:Ve w p0 kvs R (e::ys) x)(hl:lis.length=(wL x.cs x.p e).length)(hm:mO m [(0,.loc N.self),(1,.int w.f),(2,.tup (Tm.avs w.args)),(7,.loc C.st)]){l:List bT}
  (hL:B N (wW (iw w) x.cs x.p lis e)++(Cl C (nq (iw w) x.cs x.p e)++((el,.list ((bV w.items).map El.av))::((r++sM x.nw)++lO lis ((wL x.cs x.p e).map lZ))))=l):At l (jP (Rl N C w p0 kvs R el r) ys S .next m):=by
 have he:=h.o e (af ..);obtain⟨nw',s,e1⟩:=h.s.step (occ:=iw w) he.1 hl;obtain⟨fn,as,e2⟩:=OY (occ:=iw w) (cs:=x.cs) (p:=x.p) he.1 hl;have e3:nw'=x.nw++on fn as lis (wL x.cs x.p e):=List.append_cancel_left (e1.symm.trans (e2.trans ((ae (·++_) h.s.w).trans (ao ..))));refine dp ⟨nq (iw w) x.cs x.p e,wW (iw w) x.cs x.p lis e,nw'⟩ (Eq.trans ?_ hL) hm ⟨s,λ cs' p' q=>h.r cs' p' (.cons lis hl q),λ z hz=>h.o z (ag _ hz)⟩;show B N _++(Cl C _++(_::(r++sM nw')))=_;rw[e3,xx,I3,ao r]
section
variable {J:JT}{T:iL}(L:r8 J T){n:Nat}{Q:bI}{N:vo}{p:PS}
include L
theorem Qm {w:Wk}{el:Addr}{r:List bT}{m:bB}{S:cm}(hw:rW w)(hm:mO m [(0,.loc N.self),(1,.int w.f),(2,.tup (Tm.avs w.args)),(4,.loc el)])(h3:m 3=some (.loc w.li))
  (h:At ((el,.list ((bV w.items).map El.av))::(B N p++r)) (S .next (gK [(0,.loc N.self),(1,.int w.f),(2,.tup (Tm.avs w.args)),(4,.loc el)]))):
  At ((el,.list [])::(B N p++((w.li,.list (lZ w.items))::r))) (Sl (je J (n+6)) (.fore 5 (.lv 3) [.ife (.cmp .Eq (.sub (.lv 5) (.int 0)) (.str iP)) [.fore 6 (.call 342 [.sub (.lv 5) (.int 1)]) [.ex (.append (.lv 4) (.tup [.str lM,.lv 6,.sub (.lv 5) (.int 2)]))]] [.ex (.append (.lv 4) (.lv 5))]]) m S):=by
 apply eR h3;have E:=fG hw.i;have hN:∀ {k},k≤(bV w.items).length→k<cX:=λ h=>cw (aa h (aa E.ln (Nat.mul_le_mul_left 901 hw.n))) (by decide);refine fj (W8 N p el w r) w.items [] 13 rfl hm rfl (λ ω=>rfl) rfl (λ y ys x hP=>?_) λ x hP=>At.rm [13] ((aq x).symm.trans hP▸h);have hx:=w5 (a:=x) (b:=y::ys) hP;have P1:(x++[y])++ys=w.items:=(ao ..).trans hP;have one:bV (x++[y])=bV x++bV [y]:=nB ..;rcases y with⟨t,tg⟩|k|_|_
 ·have ht:g9 t:=hw.i _ (fv hP);refine Iu L.law (n:=n+5) (t:=t) (aw ht.nd (by decide)) ht.1 λ fl=>?_;refine fj (X8 el fl t tg (bV x) [(0,.loc N.self),(1,.int w.f),(2,.tup (Tm.avs w.args))] (B N p++((w.li,.list (lZ w.items))::r))) (ee t) [] 0 (ae (λ z=>_::(el,bO.list (List.map El.av z))::_) (aq _)) ⟨rfl,rfl,rfl,rfl,rfl,trivial⟩ rfl (λ ω=>rfl) rfl (λ z zs d hQ=>?_) λ d hQ=>?_
  ·apply bF 1;rfl;apply bG 1 rfl
   ·refine ac (am (ak _)) (hN ?_);rw[ay,ak];have e:(bV (x++[It.body t tg])).length=(bV x).length+(ee t).length:=(ae List.length (uC x t tg)).trans (List.length_append.trans (ae _ (ak _)));have hd:d.length≤(ee t).length:=aa (ah ..) (am (List.length_append.symm.trans (ae List.length hQ)));exact aa (aP hd _) (aa (am e.symm) (w5 P1))
   ·refine dp (d++[z]) (ae (λ z=>_::(el,bO.list z)::_) ?_) ⟨rfl,rfl,rfl,rfl,rfl,trivial⟩ ((ao ..).trans hQ);rw[cb,←ao];exact cb ..
  ·refine At.drop1 (dp (x++[It.body t tg]) (ae (λ z=>(el,bO.list (List.map El.av z))::_) ?_) ⟨rfl,rfl,rfl,rfl,trivial⟩ P1);rw[uC,show d=ee t from (aq d).symm.trans hQ]
 all_goals
  apply bF 0;rfl;apply bG 0 rfl
  ·exact ac (am (ak _)) (hN hx)
  ·exact dp (x++[_]) (ae (λ z=>(el,bO.list z)::_) ((ae _ one).trans (cb ..))) ⟨rfl,rfl,rfl,rfl,trivial⟩ P1
theorem Bq {w:Wk}{e l:List bT}{R:Nat}(he:T.st e)(hw:rW w)(hX:fP sT p.sy)(hL:vh (uh w.items+R) p)(hT:N.test=tT)
  (h:∀ e' K k dx gl nw p',T.st e'→sr w p K p'→p'.work=p.work++nw→At (kE k dx gl K++(e'++(B N p'++(l++sM nw)))) (Q (.loc k))):
  At (B N p++((w.li,.list (lZ w.items))::(e++l))) (bR J (n+7) 405 Q [.loc N.self,.int w.f,.tup (Tm.avs w.args),.loc w.li]):=by
 have E:=fG hw.i;obtain⟨vl,ha,hvl⟩:=hw.a;have haz:Tm.szL w.args≤901:=by rw[ha,gx];exact hvl
 have hal:w.args.length≤901:=aa (fV _) haz;have hsz:Tm.szL (hU (bV w.items))≤3600:=aa E.sz (Nat.mul_le_mul_left 900 hw.n);have hln:(bV w.items).length≤3604:=aa E.ln (Nat.mul_le_mul_left 901 hw.n);refine L.law.Normaliser_clause (n+6) _ _ Q rfl (bJ λ el=>?_);refine Qm L hw ⟨rfl,rfl,rfl,rfl,trivial⟩ rfl ?_;apply cj 7 8 rfl rfl rfl;refine CR L.law (n:=n+4) (as:=w.args) (els:=bV w.items) (ac (aa (am (dO ..)) (aR haz hsz)) (by decide)) (ac (aR hal hln) (by decide)) λ d kvs hC=>?_;refine vX L.law (n:=n+4) λ C hCt=>At.perm (l':=B N p++(Cl C ⟨[], -1,false,kvs⟩++((el,.list ((bV w.items).map El.av))::(e++l)))) (aX (B N p) (Cl C ⟨[], -1,false,kvs⟩++[(el,.list ((bV w.items).map El.av))]) (e++l)) ?_;refine fj (Rl N C w p kvs R el (e++l)) (bV w.items) ⟨⟨[], -1,false,kvs⟩,p,[]⟩ 16 (ae (λ z=>B N p++(Cl C _++(_::z))) (aq _)) ⟨rfl,rfl,rfl,rfl,trivial⟩ rfl (λ ω=>rfl) ⟨wE.start kvs hw hL,λ ω ω h=>h,λ z hz=>⟨E.el z hz,hz⟩⟩ (λ y ys x hP=>?_) λ x hP=>?_
 ·have ho:=hP.o y (af ..);have s:=hP.s;have hgl:x.cs.goals.length<100000:=ac (aa (ah ..) s.gl) (by decide);rcases y with⟨t,tg⟩|_|_|k
  ·apply cj 6 7 rfl rfl rfl;refine Iq L.law (n:=n) (occ:=iw w) (hT▸?_) λ lis hl=>?_
   ·exact⟨aw ho.1.s.2 (by decide),ho.1.s.nd,ho.1.s.1,ho.1.c,s.k▸hC,λ k hk=>zm (aF _ (AQ ho.2)) hk,s.lid.f0,s.lid.fo,ac (ah ..) (aw s.lid.ts (by decide)),ac (ah ..) (aw s.lid.fs (by decide)),hgl,ac (ah ..) (aw s.lid.wk (by decide)),λ k hk=>Ja (hX.trans s.X) λ q=>ho.1.n (q▸hk)⟩
   ·rw[hT];exact hP.next lis hl ⟨rfl,rfl,rfl,rfl,trivial⟩ rfl
  ·apply cj 6 7 rfl rfl rfl;refine Gx L.law (n:=n+3) hgl ?_;exact hP.next [] rfl ⟨rfl,rfl,rfl,rfl,trivial⟩ (ae (λ z=>B N _++(Cl C _++(_::z))) (aq _))
  ·apply bS 12 13 rfl rfl rfl;apply bF 14 rfl;apply bG 14 rfl;exact vR hgl;exact hP.next [] rfl ⟨rfl,rfl,rfl,rfl,trivial⟩ ((ae (λ z=>B N _++(Cl C _++(_::z))) (aq _)).trans (ae (B N _++·) (iA C x.cs .fail _)))
  ·apply bS 12 13 rfl rfl rfl;apply bF 14 rfl;apply bG 14 rfl;exact vR hgl;exact hP.next [] rfl ⟨rfl,rfl,rfl,rfl,trivial⟩ ((ae (λ z=>B N _++(Cl C _++(_::z))) (aq _)).trans (ae (B N _++·) (iA C x.cs (.mark k) _)))
 ·have s:=hP.s;have F:=Gh haz s;have fin:∀ gl,At ((gl,.list ((jt x.cs).map Gl.av))::(B N x.p++((e++l)++sM x.nw))) (bR J (n+6) 468 Q [.loc N.self,.int w.f,.tup (Tm.avs w.args),.loc gl]):=λ gl=>by
   rw[ao e];refine At.perm (l':=(gl,.list ((jt x.cs).map Gl.av))::(e++(B N x.p++(l++sM x.nw)))) ((aX ..).cons _) ?_;exact Ao L (n:=n+1) he rfl F.r F.a F.g F.l λ e' k dx nl he'=>h e' ⟨w.f,w.args,jt x.cs⟩ k dx nl x.nw x.p he' ⟨_,_,hP.r _ _ .nil,rfl⟩ s.w
  apply bS 12 13 rfl rfl rfl;apply bS 12 13 rfl rfl rfl
  by_cases q:0≤x.cs.level
  ·rw[show jt x.cs=_ from aL q]at fin;apply bQ q;apply bS 12 13 rfl rfl rfl;apply bJ;intro l1;apply ny 0 15 rfl rfl
   ·exact ac (am (ae (1+·) (ak _))) (ac (aP (aa (ah ..) s.gl) 1) (by decide))
   ·intro c;apply cj 8 9 rfl rfl rfl;exact At.rm [1,13,13,13,13,13] (fin c)
  ·rw[show jt x.cs=_ from aK q]at fin;apply bP q;apply cj 6 7 rfl rfl rfl;exact At.rm [12,12,13,13] (At.dim (l₁:=B N x.p) (fin C.gl))
end
structure KA where
 k:Addr
 dx:Addr
 gl:Addr
noncomputable def tU:List KA→List KR→List bT
 |A::l,K::r=>kE A.k A.dx A.gl K++tU l r
 |_,_=>[]
theorem Cu {A:KA}{K:KR}:∀ {l:List KA} {r:List KR},l.length=r.length→tU (l++[A]) (r++[K])=tU l r++kE A.k A.dx A.gl K:=by
 intro l
 induction l with
 |nil=>intro r h;rcases r with _|_;exact aq _;cases h
 |cons x l ih=>intro r h;rcases r with _|⟨y,r⟩;cases h;exact (ae (kE x.k x.dx x.gl y++·) (ih (Nat.succ.inj h))).trans (ao ..).symm
noncomputable abbrev nr (As:List KA):List AV:=As.map λ A=>.loc A.k
theorem pm1 {b:List bT}{x y:bT}{e z:List bT}:(b++(x::(e++(y::z)))).Perm (b++(y::(e++(x::z)))):=
 .append_left _ ((List.perm_middle.cons x).trans ((List.Perm.swap ..).trans (List.perm_middle.symm.cons y)))
theorem pm2 {b k e a n s r:List bT}:(b++(e++((a++n)++((s++k)++r)))).Perm (k++(e++(b++((a++(s++r))++n)))):=by
 rw[ao s];have X:((a++n)++(s++(k++r))).Perm (k++((a++(s++r))++n)):=by
  refine ((aX s k r).append_left _).trans ((aX ..).trans (.append_left _ ?_));rw[ao,ao];exact .append_left _ List.perm_append_comm
 exact (aX b e _).trans (((X.append_left b).append_left e).trans (((aX b k _).append_left e).trans (aX e k _)))
structure Y1 where
 i:Nat
 As:List KA
 ks:List KR
 p:PS
 e:List bT
structure RuP (T:iL)(p0:PS)(x:Y1):Prop where
 r:nN p0 x.i x.ks x.p
 l:x.As.length=x.ks.length
 t:T.st x.e
noncomputable def ruI (T:iL)(N:vo)(p0:PS)(kl:Addr)(r:List bT):v5 Y1:=⟨λ x=>[(0,.loc N.self),(1,.loc kl),(2,.int x.i)],λ x=>B N x.p++((kl,.list (nr x.As))::(x.e++(sM (x.p.work.drop x.i)++(tU x.As x.ks++r)))),RuP T p0,λ x=>2000 - x.i⟩
theorem ya {α:Type}{f:α→AV}{l:List α}{i:Nat}{x:α}(h:l[i]? =some x):wj (l.map f) (i:Nat)=some (f x):=(aZ (f:=f)).trans (ae (Option.map f) h)
theorem ar6 {i:Nat}(h:i<2000):2000 - (i+1)<2000 - i:=by omega
section
variable {J:JT}{T:iL}(L:r8 J T){n:Nat}{Q:bI}{N:vo}{p:PS}
include L
theorem Sc {e r:List bT}(he:T.st e)(hP:uW 0 p)(hT:N.test=tT)
  (h:∀ kl As ks p' e',nN p p'.work.length ks p'→As.length=ks.length→T.st e'→At (B N p'++((kl,.list (nr As))::(e'++(tU As ks++r)))) (Q (.loc kl))):
  At (B N p++(e++(sM p.work++r))) (bR J (n+8) 398 Q [.loc N.self]):=by
 refine L.law.Normaliser_run (n+7) _ _ Q rfl (bJ λ kl=>At.mid (l₁:=B N p) ?_);refine mN (ruI T N p kl r) ⟨0,[],[],p,e⟩ rfl ⟨rfl,rfl,rfl,trivial⟩ ⟨.nil,rfl,he⟩ λ x hI=>?_;obtain⟨R,hks,hle⟩:=hI.r.ok hP;have hwl:x.p.work.length<2000:=ac (ah ..) R.lid.wk;apply bS 6 7 rfl rfl rfl;apply fM 8 rfl (ak _)
 by_cases hi:x.i<x.p.work.length
 ·apply bQ (ba hi);obtain⟨w,hw⟩:∃ w,x.p.work[x.i]? =some w:=⟨_,List.getElem?_eq_getElem hi⟩;have hd:=mf hw;apply bS 6 7 rfl rfl rfl;apply cZ 8 rfl (ya hw);apply bF 12;rfl;apply cj 6 7 rfl rfl rfl;refine At.perm (l':=B N x.p++((w.li,.list (lZ w.items))::(x.e++((kl,.list (nr x.As))::(sM (x.p.work.drop (x.i+1))++(tU x.As x.ks++r)))))) ?_ ?_
  ·show List.Perm _ (B N x.p++(_::(x.e++(sM (x.p.work.drop x.i)++_))));rw[hd];exact pm1
  have hl:=R.lid;rw[hd]at hl;refine Bq L hI.t (R.ok w (aY hw)) R.X hl hT λ e' K k dx gl nw p' he' hc hn=>?_;refine At.perm (l':=B N p'++((kl,.list (nr x.As))::(e'++((sM (x.p.work.drop (x.i+1))++sM nw)++((tU x.As x.ks++kE k dx gl K)++r))))) (pm2 (b:=B N p'++[(kl,.list (nr x.As))])) ?_;apply bG 12 rfl
  ·rw[ak,hI.l,hks];exact aw (aw hi hwl) (by decide)
  ·refine d5 ⟨x.i+1,x.As++[⟨k,dx,gl⟩],x.ks++[K],p',e'⟩ ?_ ⟨rfl,rfl,rfl,trivial⟩ ⟨.step hI.r hw hc,by rw[bK,bK,hI.l],he'⟩ (ar6 (aw hi hwl));show B N p'++((kl,.list (nr (x.As++[_])))::(e'++(sM (p'.work.drop (x.i+1))++(tU (x.As++[_]) (x.ks++[K])++r))))=_;rw[Cu hI.l,hn,p8 hi,xx];exact ae (λ z=>B N p'++((kl,bO.list z)::_)) (cb ..)
 ·apply bP (mt Int.ofNat_lt.mp hi);have hi':x.i=x.p.work.length:=Nat.le_antisymm hle (Nat.le_of_not_lt hi);have hz:x.p.work.drop x.i=[]:=List.drop_eq_nil_of_le (am hi'.symm);refine At.eq ?_ (h kl x.As x.ks x.p x.e (hi'▸hI.r) hI.l hI.t);show _=B N x.p++(_::(x.e++(sM (x.p.work.drop x.i)++_)));rw[hz];rfl
end
noncomputable def mx (a:Int):List Int→Int
 |[]=>a
 |k::r=>mx (if a<k then k else a) r
noncomputable def Do (s:Sy):Tm→Int×Sy
 |.a k=>s.functor k 0
 |.s f _=>(f,s)
 |.v _=>(0,s)|.i _=>(0,s)
noncomputable def KG:Tm→List Tm
 |.s _ as=>as
 |.v _=>[]|.a _=>[]|.i _=>[]
noncomputable def xh (hd:Tm)(bd:Bd)(fo:Int)(s:Sy)(li:Addr):PS:=⟨mx (-1) (dd [] (Tm.s 5 [hd,bd.tm]).vars)+1,fo,(Do s hd).2,[⟨(Do s hd).1,KG hd,[.body bd (-1)],li⟩]⟩
inductive Aa:Tm→Prop
 |a (k:Int):Aa (.a k)
 |s (f:Int) (js:List Int):js.length≤2→Aa (.s f (cK js))
theorem Aa.sz {hd:Tm}(h:Aa hd):hd.sz≤3:=by
 rcases h with k|⟨f,js,hl⟩
 ·show 1≤3;decide
 ·exact aD (gx js▸hl)
theorem Aa.ar {hd:Tm}(h:Aa hd):∃ l,KG hd=cK l∧l.length≤901:=by
 rcases h with k|⟨f,js,hl⟩
 ·exact⟨[],rfl,aI _⟩
 ·exact⟨js,rfl,aa hl (by decide)⟩
theorem Aa.sy {hd:Tm}{s:Sy}(h:Aa hd):zE s (Do s hd).2:=by
 rcases h with k|⟨f,js,hl⟩
 ·exact eI ..
 ·exact .refl s
theorem MI {a b d:Nat}{fo:Int}(h:a≤b+1)(hb:b<800)(hf:fo+(d:Int)<100)(h0:0≤fo):a+(d+0+0)<1000:=by lia
theorem Vg {d:Nat}{fo:Int}(hf:fo+(d:Int)<100)(h0:0≤fo):1+2*(d+0+0)<2000:=by lia
section
variable {J:JT}{T:iL}(L:r8 J T){n:Nat}{Q:bI}
include L
theorem Nr {hd:Tm}{A:sO}{s:Sy}{r:List bT}(hh:Aa hd)(hz:s.fs.length<1000000)(h:At (cF A (Do s hd).2++r) (Q (.int (Do s hd).1))):At (cF A s++r) (bR J (n+2) 193 Q [.loc A.obj,hd.av]):=by
 rcases hh with k|⟨f,js,hl⟩
 ·exact Bw L.law hz h
 ·exact p6 L.law (t:=.s f (cK js)) hz rfl rfl nofun λ f' as' e=>by cases e;exact h
theorem Km {hd:Tm}{r:List bT}(h:At r (Q (.tup (Tm.avs (KG hd))))):At r (bR J (n+1) 200 Q [hd.av]):=e8 L.law (t:=hd) (by cases hd<;>exact h)
theorem uj {A:sO}{s:Sy}{fr fdx il:Addr}{fo:Int}{hd:Tm}{bd:Bd}{e r:List bT}(hh:Aa hd)(hw:g9 bd)(hrn:cY bd=true)(hX:fP sT s)(hf:s.fs.length<800)(ht:s.ts.length<800)(h0:0≤fo)(h1:fo+(bd.nd:Int)<100)(he:T.st e)
  (h:∀ N kl As ks li p' e',N.A=A→N.fr=fr→N.fdx=fdx→nN (xh hd bd fo s li) p'.work.length ks p'→As.length=ks.length→T.st e'→At (B N p'++((kl,.list (nr As))::(e'++(tU As ks++r)))) (Q (.loc kl))):
  At ((fr,.inst 289 fdx)::(fdx,.ns [(eM,.int fo)])::(il,.dI [(tT,.bool true)])::(cF A s++(e++r))) (bR J (n+9) 489 Q [.loc A.obj,.loc il,(Tm.s 5 [hd,bd.tm]).av,.loc fr]):=by
 refine L.law.normalise (n+8) _ _ Q rfl ?_;have hhi:JK hd=false:=by rcases hh with k|⟨f,js,hl⟩<;>rfl
 have hhv:∀ k,hd≠.v k:=by rcases hh with k|⟨f,js,hl⟩<;>exact nofun
 have htz:(Tm.s 5 [hd,bd.tm]).sz<100000:=ac (aD (aR hh.sz (aW hw.2))) (by decide);refine yH L.law (n:=n+6) hhi hhv (aw hw.nd (by decide)) hw.1 hrn ?_;refine zW L.law (n:=n+6) (t:=.s 5 [hd,bd.tm]) htz λ vl=>?_;refine fj (⟨.int,λ a=>[(0,.loc A.obj),(1,.loc il),(3,.loc fr),(4,hd.av),(5,dX bd),(6,.int a)],λ ω=>_,λ ys a=>mx a ys=mx (-1) (dd [] (Tm.s 5 [hd,bd.tm]).vars)⟩:For Int Int) _ (-1) 0 rfl ⟨rfl,rfl,rfl,rfl,rfl,rfl,trivial⟩ rfl (λ ω=>rfl) rfl (λ y ys a hP=>?_) λ a hP=>At.drop1 ?_
 ·by_cases q:a<y
  ·apply bQ q;exact dp y rfl ⟨rfl,rfl,rfl,rfl,rfl,rfl,trivial⟩ ((ae (mx · ys) (aL q)).symm.trans hP)
  ·apply bP q;exact dp a rfl ⟨rfl,rfl,rfl,rfl,rfl,rfl,trivial⟩ ((ae (mx · ys) (aK q)).symm.trans hP)
 ·obtain rfl:a=_:=hP;refine yN L.law (n:=n+6) λ a dx wl=>?_;refine At.perm (l':=B ⟨A,a,dx,wl,fr,fdx,il,tT⟩ ⟨mx (-1) (dd [] (Tm.s 5 [hd,bd.tm]).vars)+1,fo,s,[]⟩++(e++r)) (aX (cF A s) [_,_,_,_,_,_] (e++r)) ?_;apply bS 6 7 rfl rfl rfl;apply bF 8;rfl;refine Nr L hh (aw hf (by decide)) (Km L (hd:=hd) ?_);apply bJ;intro li;apply bG 9 rfl;exact Nat.zero_lt_succ _;apply cj 7 8 rfl rfl rfl;refine At.perm (l':=B ⟨A,a,dx,wl,fr,fdx,il,tT⟩ (xh hd bd fo s li)++(e++(sM (xh hd bd fo s li).work++r))) ?_ ?_
  ·exact (List.perm_middle.append_left (B ⟨A,a,dx,wl,fr,fdx,il,tT⟩ (xh hd bd fo s li))).trans List.perm_middle
  ·refine Sc L he ⟨hX.trans hh.sy.x,λ w hm=>?_,⟨h0,h1,?_,?_,?_⟩⟩ rfl λ kl As ks p' e'=>h _ kl As ks li p' e' rfl rfl rfl
   ·rcases aj hm with rfl
    exact⟨hh.ar,λ i hi=>aj hi▸hw,show 1≤4 by decide⟩
   ·exact MI hh.sy.t ht h1 h0
   ·exact MI hh.sy.f hf h1 h0
   ·exact Vg h1 h0
end
noncomputable def ZP:List (Sx×Int):=[([46],2),([44],2),([59],2),([45,62],2),([92,43],1),([58,45],2),([58,45],1),([63,45],1),([45,45,62],2),([123,125],1),([61],2),([94],2),([45],1),([45],2),([43],2),([47],2),([101,114,114,111,114],2),([36,86,65,82],1),([99,97,116,99,104],3),([116,104,114,111,119],1),([33],0),([116,114,117,101],0),([102,97,105,108],0),([102,97,108,115,101],0),([99,97,108,108],1),([99,97,108,108],2),([99,97,108,108],3),([99,97,108,108],4),([99,97,108,108],5),([99,97,108,108],6),([99,97,108,108],7),([99,97,108,108],8)]
noncomputable def Zj (l:List Sx)(s:Sy):Sy:=l.foldl (λ s t=>(s.atom t).2) s
noncomputable def Z9 (l:List (Sx×Int))(s:Sy):Sy:=l.foldl (λ s p=>(s.func p.1 p.2).2) s
structure KC {β:Type}(F:List β→Sy→Sy)(t:List Sx)(f:List (Int×Int))(ys:List β)(s:Sy):Prop where
 t:(F ys s).ts=t
 f:(F ys s).fs=f
 z:s.ts.length+ys.length<1000
 zf:s.fs.length+ys.length<1000
theorem Aq:KC Zj oo.ts [] oo.ts ⟨[],[]⟩:=⟨by decide+kernel,by decide+kernel,by decide,by decide⟩
theorem BK:KC Z9 oo.ts oo.fs ZP ⟨oo.ts,[]⟩:=⟨by decide+kernel,by decide+kernel,by decide,by decide⟩
theorem Sz {a b n:Nat}(h:a+(n+1)<1000)(hb:b≤a+1):b+n<1000:=by lia
theorem KC.fin {β:Type}{F:List β→Sy→Sy}{t:List Sx}{f:List (Int×Int)}{s:Sy}(hF:F [] s=s)(h:KC F t f [] s):s=⟨t,f⟩:=by
 have h1:=h.t;have h2:=h.f;rw[hF]at h1 h2;rw[←h1,←h2]
section
variable {J:JT}(L:eZ J){n:Nat}{Q:bI}
include L
theorem zu {r:List bT}(h:∀ A,At (cF A oo++r) (Q (.loc A.obj))):At r (bR J (n+5) 154 Q []):=by
 refine L.Symbols_init (n+3) _ _ Q rfl λ a dx=>?_;apply bJ;intro tl;apply cQ 1 2 rfl rfl;exact aw (by decide) l1;rfl;apply bJ;intro td;apply cQ 2 3 rfl rfl;exact l1;rfl;apply bJ;intro fl;apply cQ 3 4 rfl rfl;exact l2;rfl;apply bJ;intro fd;apply cQ 4 5 rfl rfl;exact l3;rfl;refine At.pk [4,4,3,2,1] (L.fixed_atoms (n+2) _ _ _ rfl ?_);refine ly (⟨.str,λ ω=>[(0,.loc a)],λ s=>cF ⟨a,dx,tl,td,fl,fd⟩ s++r,KC Zj oo.ts []⟩:For Sx Sy) oo.ts ⟨[],[]⟩ rfl ⟨rfl,trivial⟩ rfl Aq (λ y ys s hP=>?_) λ s hP=>?_
 ·apply cj 0 1 rfl rfl rfl;refine sQ L (ac (ah ..) (aw hP.z (by decide))) ?_;exact dp _ rfl ⟨rfl,trivial⟩ ⟨hP.t,hP.f,Sz hP.z (nC s y).t,Sz hP.zf (nC s y).f⟩
 ·obtain rfl:=hP.fin rfl;refine L.fixed_functors (n+2) _ _ _ rfl ?_;refine ly (⟨λ p=>.tup [.str p.1,.int p.2],λ ω=>[(0,.loc a)],λ s=>cF ⟨a,dx,tl,td,fl,fd⟩ s++r,KC Z9 oo.ts oo.fs⟩:For (Sx×Int) Sy) ZP ⟨oo.ts,[]⟩ rfl ⟨rfl,trivial⟩ rfl BK (λ y ys s hP=>?_) λ s hP=>?_
  ·apply cj 0 1 rfl rfl rfl;refine j7 L (ac (ah ..) (aw hP.z (by decide))) (ac (ah ..) (aw hP.zf (by decide))) ?_;exact dp _ rfl ⟨rfl,trivial⟩ ⟨hP.t,hP.f,Sz hP.z (nD s y.1 y.2).t,Sz hP.zf (nD s y.1 y.2).f⟩
  ·obtain rfl:=hP.fin rfl;exact h ⟨a,dx,tl,td,fl,fd⟩
end
def TD (b bt:Nat):Tm→Prop
 |.v _=>True
 |.a k=>k<(bt:Int)
 |.i _=>True
 |.s f _=>f=10∨(32≤f∧f<(b:Int))
def Bd.fa (b bt:Nat):Bd→Prop
 |.lf t=>TD b bt t
 |.com x y=>x.fa b bt∧y.fa b bt
 |.sem x y=>x.fa b bt∧y.fa b bt
 |.arr x y=>x.fa b bt∧y.fa b bt
 |.neg x=>x.fa b bt
theorem rY {b bt b' bt':Nat}(h1:b≤b')(h2:bt≤bt'):∀ {t:Bd},t.fa b bt→t.fa b' bt':=by
 intro t
 induction t with
 |lf t=>
  rcases t with k|k|k|⟨f,as⟩
  ·exact id
  ·exact λ h=>aJ h (bn h2)
  ·exact id
  ·exact λ h=>h.imp_right λ q=>⟨q.1,aJ q.2 (bn h1)⟩
 |com x y hx hy=>exact λ h=>⟨hx h.1,hy h.2⟩
 |sem x y hx hy=>exact λ h=>⟨hx h.1,hy h.2⟩
 |arr x y hx hy=>exact λ h=>⟨hx h.1,hy h.2⟩
 |neg x hx=>exact hx
noncomputable def jQ (j:Int):Sx:=pJ++jR j
structure iS (s:Sy):Prop where
 fs:∀ q∈s.fs,q.1<(s.ts.length:Int)
 tx:∀ j:Int,0≤j→j<100→jQ j∉s.ts
theorem u8 (s:Sy)(x:Sx):∃ i:Nat,(s.atom x).1=(i:Int)∧(s.atom x).2.ts[i]? =some x:=by
 by_cases q:x∈s.ts
 ·rw[show s.atom x=_ from aL q];exact⟨_,rfl,iT q⟩
 ·rw[show s.atom x=_ from aK q];exact⟨_,rfl,List.getElem?_concat_length⟩
theorem B6 {α:Type}{l:List α}{i:Nat}{x:α}(h:l[i]? =some x):i<l.length:=(az h).1
theorem xE {α:Type}{a b:List α}{i:Nat}{x:α}(hp:a<+:b)(h:b[i]? =some x)(hi:i<a.length):x∈a:=by
 obtain⟨z,rfl⟩:=hp;rw[bw hi]at h;exact aY h
theorem IW:∀ q∈oo.fs,q.1<29:=by decide
theorem Bt {s:Sy}(h:fP oo s){x:Sx}{n:Int}(hx:x∉oo.ts):32≤(s.func x n).1∧(s.func x n).1<((s.func x n).2.fs.length:Int):=by
 obtain⟨i,e1,e2⟩:=u8 s x;have hA:=h.trans (nC s x).x;have hi:29≤i:=Nat.le_of_not_lt λ q=>hx (xE hA.ts e2 q);obtain⟨j,f1,f2⟩:=nY (s.atom x).2 (s.atom x).1 n;have hF:=hA.trans (eI (s.atom x).2 (s.atom x).1 n).x;have hj:32≤j:=Nat.le_of_not_lt λ q=>absurd (IW _ (xE hF.fs f2 q)) (Int.not_lt.mpr (e1▸bn hi));exact⟨aS (bn hj) (Int.le_of_eq f1.symm),Int.lt_of_le_of_lt (Int.le_of_eq f1) (ba (B6 f2))⟩
theorem iS.functor {s:Sy}(h:iS s){a n:Int}(ha:a<(s.ts.length:Int)):iS (s.functor a n).2:=by
 by_cases q:(a,n)∈s.fs
 ·rw[show s.functor a n=_ from aL q];exact h
 ·rw[show s.functor a n=_ from aK q];exact⟨λ p hp=>(eh.mp hp).elim (λ e=>(ae Prod.fst e).symm▸ha) (h.fs p),h.tx⟩
theorem iS.atom {s:Sy}(h:iS s){x:Sx}(hx:∀ j:Int,0≤j→j<100→jQ j≠x):iS (s.atom x).2:=by
 by_cases q:x∈s.ts
 ·rw[show s.atom x=_ from aL q];exact h
 ·rw[show s.atom x=_ from aK q];exact⟨λ p hp=>aJ (h.fs p hp) (bn (ay▸ah ..)),λ j h0 h1 z=>(eh.mp z).elim (hx j h0 h1) (h.tx j h0 h1)⟩
theorem sL (s:Sy)(x:Sx):(s.atom x).1<((s.atom x).2.ts.length:Int):=by
 obtain⟨i,e1,e2⟩:=u8 s x;exact e1▸ba (B6 e2)
theorem iS.func {s:Sy}(h:iS s){x:Sx}{n:Int}(hx:∀ j:Int,0≤j→j<100→jQ j≠x):iS (s.func x n).2:=(h.atom hx).functor (sL s x)
theorem vk {x:Sx}(h:x.head?≠some 36):∀ j:Int,0≤j→j<100→jQ j≠x:=λ j ω ω e=>h (e▸rfl)
def Ch:Tm→Prop
 |.a k=>k=15∨k=16∨k=17∨k=18
 |.v _=>True|.i _=>True|.s _ _=>True
def Bd.atQ:Bool→Bd→Prop
 |dn,.lf t=>dn=true→Ch t
 |dn,.com x y=>x.atQ dn∧y.atQ dn
 |dn,.sem x y=>x.atQ dn∧y.atQ dn
 |dn,.arr x y=>x.atQ dn∧y.atQ dn
 |_,.neg x=>x.atQ true
structure rX (dn:Bool)(d:Nat)(s:Sy)(ρ:Nat)(b:Bd)(s':Sy)(ρ':Nat):Prop where
 ok:b.ok
 cr:dn=true∨cY b=true
 fa:b.fa s'.fs.length s'.ts.length
 X:fP s s'
 sz:b.tm.sz+10*ρ'≤4+10*ρ
 nd:b.nd+4*ρ'≤1+4*ρ
 fs:s'.fs.length+2*ρ'≤s.fs.length+1+2*ρ
 ts:s'.ts.length+2*ρ'≤s.ts.length+1+2*ρ
 ht:b.tm.ht≤2+2*d
 so:iS s→iS s'
 le:ρ'≤ρ
 q:b.atQ dn
noncomputable def qp (ca:Addr)(cs:List Int):bT:=(ca,.list (cs.map .int))
theorem Df (l:List Int):AV.deps (l.map .int)=0:=by
 induction l with|nil=>rfl|cons x r ih=>exact (ae (max 0) ih)
structure CoG where
 cs:List Int
 left:Int
section
variable {J:JT}(L:eZ J){n:Nat}{Q:bI}
include L
theorem Dw {la:Addr}{ob:bO}{is:List Int}{r:List bT}(hv:sH ob (is.map .int))(h:∀ ca cs,At (qp ca cs::(la,ob)::r) (Q (.loc ca))):At ((la,ob)::r) (bR J (n+1) 496 Q [.loc la]):=by
 refine L.law_coins n _ _ Q rfl (bJ λ ca=>?_);apply FV 1 rfl hv (by decide);intro sl;have fin:∀ cs m,m 1=some (.loc ca)→At ((sl,.list ((is.map AV.int).take 60))::qp ca cs::(la,ob)::r) (cA (je J n) [.ex (.rev (.lv 1)),.ret (.lv 1)] m (kL Q)):=λ cs m hm=>by
  apply eR hm;apply O7 1 rfl;apply eR hm;rw[←List.map_reverse];exact At.drop1 (h ca cs.reverse)
 refine fj (⟨.int,λ ω=>[(1,.loc ca)],λ cs=>(sl,.list ((is.map AV.int).take 60))::qp ca cs::(la,ob)::r,λ ω cs=>cs.length≤90⟩:For Int (List Int)) (is.take 60) [] 0 rfl ⟨rfl,trivial⟩ List.map_take.symm (λ ω=>rfl) (aI _) (λ y ys cs hP=>?_) λ cs hP=>fin cs _ rfl;have rest:∀ cs m,m 1=some (.loc ca)→cs.length≤110→At ((sl,.list ((is.map AV.int).take 60))::qp ca cs::(la,ob)::r) (cA (je J n) [.ife (.cmp .Gt (.len (.lv 1)) (.int 90)) [.brk] []] m (jP (⟨.int,λ ω=>[(1,.loc ca)],λ cs=>(sl,.list ((is.map AV.int).take 60))::qp ca cs::(la,ob)::r,λ ω cs=>cs.length≤90⟩:For Int (List Int)) ys (kQ (cA (je J n) [.ex (.rev (.lv 1)),.ret (.lv 1)]) (kL Q)))):=λ cs m hm hl=>by
  apply eR hm;apply fM 1 rfl (ak _)
  by_cases q:(90:Int)<cs.length
  ·apply bQ q;exact J5 (fin cs m hm)
  ·apply bP q;exact dp cs rfl ⟨hm,trivial⟩ (Int.ofNat_le.mp (Int.not_lt.mp q))
 have hP':cs.length≤90:=hP;refine lI (⟨λ x=>[(1,.loc ca),(3,.int x.left)],λ x=>(sl,.list ((is.map AV.int).take 60))::qp ca x.cs::(la,ob)::r,λ pre ω x=>x.cs.length≤90+pre.length⟩:zL Unit CoG) (List.replicate 20 ()) ⟨cs,y.natAbs⟩ (k:=20) rfl ⟨rfl,rfl,trivial⟩ rfl (by decide) hP' (λ pre u post x he hQ=>?_) λ x hQ=>rest x.cs _ rfl hQ;have hl:pre.length<20:=aO (Nat.lt_add_of_pos_right (aV _)) (am (List.length_append.symm.trans (ae List.length he)));have hq:x.cs.length≤90+pre.length:=hQ;have hz:x.cs.length+1≤90+(pre.length+1):=aD hq;apply bF 1;rfl;apply Gm (by decide);apply bG 1 rfl (eX (ac hq (aO (Nat.add_lt_add_left hl 90) (by decide))));apply HY (by decide) (by decide);have e1:(x.cs.map AV.int)++[AV.int (x.left%1000)]=(x.cs++[x.left%1000]).map .int:=(cb ..).symm;apply p3
 ·intro _;rw[e1];exact Hg (rest (x.cs++[x.left%1000]) _ rfl (bK x.cs _▸aa hz (aP hl 90)))
 ·intro _;exact n5 ⟨x.cs++[x.left%1000],x.left/1000⟩ ((ao ..).trans he) (ae (λ z=>_::(ca,bO.list z)::_) e1.symm) ⟨rfl,rfl,trivial⟩ (show (x.cs++[_]).length≤90+(pre++[u]).length from (bK x.cs _).symm▸(bK pre u).symm▸hz)
theorem jr {A:sO}{s:Sy}{ca:Addr}{cs:List Int}{sd:Int}{r:List bT}(hs:0<sd)(h:∀ x cs',0≤x→x<sd→At (cF A s++(qp ca cs'::r)) (Q (.int x))):At (cF A s++(qp ca cs::r)) (bR J (n+1) 503 Q [.loc ca,.int sd]):=by
 refine L.law_coin n _ _ Q rfl (bJ λ e=>?_);apply qL 7 0 rfl rfl (gP _) rfl (aa (Nat.min_le_right ..) (aI _));rcases List.eq_nil_or_concat cs with rfl|⟨l,x,rfl⟩
 ·apply bQ rfl;exact At.drop1 (h 0 [] (bj 0) hs)
 ·rw[List.concat_eq_append];apply bP;exact λ q=>absurd ((ak AV.int).symm.trans (ae List.length q)) ((bK l x).symm▸Nat.succ_ne_zero _);refine pD (vs:=l.map .int) (v:=.int x) 7 (ae (λ z=>some (ca,bO.list z)) (cb ..)) ?_;apply Gm hs;exact At.drop1 (h _ l (Int.emod_nonneg _ (Int.ne_of_gt hs)) (Int.emod_lt_of_pos _ hs))
end
structure Rq (dn:Bool)(s:Sy)(t:Tm)(s':Sy):Prop where
 ok:EX t
 cr:dn=true∨JK t=false
 fa:TD s'.fs.length s'.ts.length t
 g:zE s s'
 sz:t.sz≤4
 ht:t.ht≤2
 so:iS s→iS s'
 q:dn=true→Ch t
theorem Le {a b:Nat}(ρ:Nat)(h:a≤b+1):a+2*ρ≤b+1+2*ρ:=aG h _
theorem Rq.bo {dn:Bool}{s s':Sy}{t:Tm}(h:Rq dn s t s')(d ρ:Nat):rX dn d s ρ (.lf t) s' ρ:=
 ⟨h.ok,h.cr.imp_right λ e=>(ae not e:(!JK t)= !false),h.fa,h.g.x,aG h.sz _,au _,Le ρ h.g.f,Le ρ h.g.t,aa h.ht (ah ..),h.so,au _,h.q⟩
structure Sq (s:Sy)(x:Sx)(n:Int):Prop where
 b:32≤(s.func x n).1∧(s.func x n).1<((s.func x n).2.fs.length:Int)
 so:iS s→iS (s.func x n).2
theorem Y0 {s:Sy}(h:fP oo s){x:Sx}{n:Int}(hx:x∉oo.ts)(h36:x.head?≠some 36):Sq s x n:=⟨Bt h hx,λ h=>h.func (vk h36)⟩
theorem Sq.lf {dn:Bool}{s:Sy}{x:Sx}{n:Int}{as:List Tm}(h:Sq s x n)(hz:Tm.szL as≤3)(hh:Tm.htL as≤1):Rq dn s (.s (s.func x n).1 as) (s.func x n).2:=
 ⟨⟨aJ (by decide) h.b.1,λ e=>absurd (e▸h.b.1) (by decide),.inr (aS (by decide) h.b.1)⟩,.inr rfl,.inr h.b,nD ..,aD hz,aD hh,h.so,λ ω=>trivial⟩
theorem oy {dn:Bool}{s:Sy}{t:Tm}(ok:EX t)(cr:dn=true∨JK t=false)(fa:TD s.fs.length s.ts.length t)(sz:t.sz≤4)(ht:t.ht≤2)(q:dn=true→Ch t):Rq dn s t s:=⟨ok,cr,fa,.refl s,sz,ht,id,q⟩
theorem Z3 {s:Sy}(h:fP oo s){k:Int}(hk:k<29):k<(s.ts.length:Int):=aJ hk (bn h.ts.length_le)
theorem De {dn:Bool}{a b:Bool}(h:dn=true∨a=true)(h':dn=true∨b=true):dn=true∨(a&&b)=true:=h.elim .inl λ e=>h'.imp_right λ e'=>Bool.and_eq_true_iff.mpr ⟨e,e'⟩
theorem Wn {a b r r1 r2:Nat}(h:a+10*r1≤4+10*r)(h':b+10*r2≤4+10*r1):a+(b+0)+1+10*r2≤4+10*(r+1):=by lia
theorem Vj {a b r r1 r2:Nat}(h:a+4*r1≤1+4*r)(h':b+4*r2≤1+4*r1):a+b+1+4*r2≤1+4*(r+1):=by lia
theorem Mg {a b c r r1 r2:Nat}(h:b+2*r1≤a+1+2*r)(h':c+2*r2≤b+1+2*r1):c+2*r2≤a+1+2*(r+1):=by lia
theorem Vv {a b c r r1 r2 r3:Nat}(h:a+10*r1≤4+10*r)(h':b+10*r2≤4+10*r1)(h3:c+10*r3≤4+10*r2):a+(b+0)+1+(c+0)+1+10*r3≤4+10*(r+1):=by lia
theorem Um {a b c r r1 r2 r3:Nat}(h:a+4*r1≤1+4*r)(h':b+4*r2≤1+4*r1)(h3:c+4*r3≤1+4*r2):a+b+1+c+1+4*r3≤1+4*(r+1):=by lia
theorem Oj {a b c e r r1 r2 r3:Nat}(h:b+2*r1≤a+1+2*r)(h':c+2*r2≤b+1+2*r1)(h3:e+2*r3≤c+1+2*r2):e+2*r3≤a+1+2*(r+1):=by lia
theorem Wu {a b d:Nat}(h:a≤2+2*d)(h':b≤2+2*d):max a (max b 0)+1≤3+2*d:=by lia
theorem JE {a d:Nat}(h:a≤3+2*d):a≤2+2*(d+1):=by lia
theorem KY {a b d:Nat}(h:a≤3+2*d)(h':b≤2+2*d):max a (max b 0)+1≤2+2*(d+1):=by lia
theorem LK {a r r1:Nat}(h:a+10*r1≤4+10*r):a+0+1+10*r1≤4+10*(r+1):=by lia
theorem Ld {a r r1:Nat}(h:a+4*r1≤1+4*r):a+1+4*r1≤1+4*(r+1):=by lia
theorem Gn {a b r r1:Nat}(h:b+2*r1≤a+1+2*r):b+2*r1≤a+1+2*(r+1):=by lia
theorem xG {a ρ:Nat}(h:a+4*(ρ+1)<500):a+4*ρ<500:=by lia
theorem GV {a b ρ ρ':Nat}(h:a+4*(ρ+1)<500)(hb:b+2*ρ'≤a+1+2*ρ)(hl:ρ'≤ρ):b+4*ρ'<500:=by lia
theorem GY {a b c ρ ρ' ρ2:Nat}(h:a+4*(ρ+1)<500)(hb:b+2*ρ'≤a+1+2*ρ)(hc:c+2*ρ2≤b+1+2*ρ')(hl:ρ'≤ρ)(hl2:ρ2≤ρ'):c+4*ρ2<500:=by lia
theorem K6 {a d:Nat}(h:a≤2+2*d):max a 0+1≤2+2*(d+1):=by lia
section
variable {dn:Bool}{d ρ ρ1 ρ2 ρ3:Nat}{s s1 s2 s3:Sy}{x y z:Bd}
theorem rX.neg (h:rX true d s ρ x s1 ρ1):rX dn (d+1) s (ρ+1) (.neg x) s1 ρ1:=
 ⟨h.ok,.inr rfl,h.fa,h.X,LK h.sz,Ld h.nd,Gn h.fs,Gn h.ts,K6 h.ht,h.so,aB h.le,h.q⟩
structure H7 (dn:Bool)(d:Nat)(s:Sy)(ρ:Nat)(x y:Bd)(s':Sy)(ρ':Nat):Prop where
 ok:x.ok∧y.ok
 cr:dn=true∨(cY x&&cY y)=true
 fa:x.fa s'.fs.length s'.ts.length∧y.fa s'.fs.length s'.ts.length
 X:fP s s'
 sz:x.tm.sz+(y.tm.sz+0)+1+10*ρ'≤4+10*(ρ+1)
 nd:x.nd+y.nd+1+4*ρ'≤1+4*(ρ+1)
 fs:s'.fs.length+2*ρ'≤s.fs.length+1+2*(ρ+1)
 ts:s'.ts.length+2*ρ'≤s.ts.length+1+2*(ρ+1)
 ht:max x.tm.ht (max y.tm.ht 0)+1≤3+2*d
 so:iS s→iS s'
 le:ρ'≤ρ+1
 q:x.atQ dn∧y.atQ dn
theorem rX.two (h:rX dn d s ρ x s1 ρ1)(h':rX dn d s1 ρ1 y s2 ρ2):H7 dn d s ρ x y s2 ρ2:=
 ⟨⟨h.ok,h'.ok⟩,De h.cr h'.cr,⟨rY h'.X.fs.length_le h'.X.ts.length_le h.fa,h'.fa⟩,h.X.trans h'.X,Wn h.sz h'.sz,Vj h.nd h'.nd,Mg h.fs h'.fs,Mg h.ts h'.ts,Wu h.ht h'.ht,λ q=>h'.so (h.so q),aa h'.le (aB h.le),⟨h.q,h'.q⟩⟩
theorem H7.com (h:H7 dn d s ρ x y s1 ρ1):rX dn (d+1) s (ρ+1) (.com x y) s1 ρ1:=⟨h.ok,h.cr,h.fa,h.X,h.sz,h.nd,h.fs,h.ts,JE h.ht,h.so,h.le,h.q⟩
theorem H7.sem (h:H7 dn d s ρ x y s1 ρ1):rX dn (d+1) s (ρ+1) (.sem x y) s1 ρ1:=⟨h.ok,h.cr,h.fa,h.X,h.sz,h.nd,h.fs,h.ts,JE h.ht,h.so,h.le,h.q⟩
theorem H7.arr (h:H7 dn d s ρ x y s1 ρ1):rX dn (d+1) s (ρ+1) (.arr x y) s1 ρ1:=⟨h.ok,h.cr,h.fa,h.X,h.sz,h.nd,h.fs,h.ts,JE h.ht,h.so,h.le,h.q⟩
theorem rX.ite (h:rX dn d s ρ x s1 ρ1)(h':rX dn d s1 ρ1 y s2 ρ2)(h3:rX dn d s2 ρ2 z s3 ρ3):rX dn (d+1) s (ρ+1) (.sem (.arr x y) z) s3 ρ3:=
 have t:=h.two h'
 ⟨⟨t.ok,h3.ok⟩,De t.cr h3.cr,⟨⟨rY h3.X.fs.length_le h3.X.ts.length_le t.fa.1,rY h3.X.fs.length_le h3.X.ts.length_le t.fa.2⟩,h3.fa⟩,t.X.trans h3.X,Vv h.sz h'.sz h3.sz,Um h.nd h'.nd h3.nd,Oj h.fs h'.fs h3.fs,Oj h.ts h'.ts h3.ts,KY t.ht h3.ht,λ q=>h3.so (t.so q),aa h3.le (aa h'.le (aB h.le)),⟨t.q,h3.q⟩⟩
end
section
variable {J:JT}(L:eZ J){n:Nat}{Q:bI}
include L
theorem vB {A:sO}{s:Sy}{ca:Addr}{cs:List Int}{dn:Bool}{r:List bT}(hX:fP oo s)(hf:s.fs.length<1000000)(ht:s.ts.length<1000000)
  (h:∀ t cs' s',Rq dn s t s'→At (cF A s'++(qp ca cs'::r)) (Q t.av)):At (cF A s++(qp ca cs::r)) (bR J (n+3) 510 Q [.loc ca,.loc A.obj,.bool dn]):=by
 refine L.law_leaf (n+2) _ _ Q rfl ?_;refine jr L (sd:=7) (by decide) λ x c1 x0 x1=>jr L (sd:=4) (by decide) λ y c2 ω ω=>?_
 by_cases q0:x=0
 ·apply bQ q0;apply cj 0 1 rfl rfl rfl;refine j7 L ht hf (jr L (sd:=4) (by decide) λ z c3 ω ω=>?_);exact h (.s _ [.v y,.v z]) c3 _ ((Y0 hX (by decide) (by decide)).lf (show 2≤3 by decide) (show 0≤1 by decide))
 apply bP q0
 by_cases q1:x=1
 ·apply bQ q1;exact h (.a 15) c2 s (oy trivial (.inr rfl) (Z3 hX (by decide)) (by decide) (by decide) λ ω=>.inl rfl)
 apply bP q1
 by_cases q2:x=2
 ·apply bQ q2;apply cj 0 1 rfl rfl rfl;refine j7 L ht hf (jr L (sd:=4) (by decide) λ z c3 ω ω=>?_);have F:Sq s Z8 1:=Y0 hX (by decide) (by decide);exact h (.s 10 [.v y,.s _ [.v z]]) c3 _ ⟨⟨by decide,λ ω=>rfl,.inl rfl⟩,.inr rfl,.inl rfl,nD ..,show 4≤4 by decide,show 2≤2 by decide,F.so,λ ω=>trivial⟩
 apply bP q2
 by_cases q3:x=3
 ·apply bQ q3;apply cj 0 1 rfl rfl rfl;refine j7 L ht hf ?_;exact h (.s _ [.v y]) c2 _ ((Y0 hX (by decide) (by decide)).lf (show 1≤3 by decide) (show 0≤1 by decide))
 apply bP q3
 by_cases q4:x=4
 ·apply bQ q4;exact h (.v y) c2 s (oy trivial (.inr rfl) trivial (show 1≤4 by decide) (show 0≤2 by decide) λ ω=>trivial)
 apply bP q4
 by_cases q5:x=5
 ·apply bQ q5;apply bJ;intro l;refine At.mid (l₁:=cF A s++[qp ca c2]) (jr L (sd:=3) (by decide) λ z c3 z0 z1=>?_);have fin:∀ k:Int,k<29→Ch (.a k)→At (cF A s++(qp ca c3::(l,.list [.int 16,.int 17,.int 18])::r)) (Q (Tm.a k).av):=λ k hk hq=>At.rm [7] (h (.a k) c3 s (oy trivial (.inr rfl) (Z3 hX hk) (show 1≤4 by decide) (show 0≤2 by decide) λ ω=>hq));have:z=0∨z=1∨z=2:=by lia
  rcases this with rfl|rfl|rfl
  ·apply cZ 7 rfl rfl;exact fin 16 (by decide) (.inr (.inl rfl))
  ·apply cZ 7 rfl rfl;exact fin 17 (by decide) (.inr (.inr (.inl rfl)))
  ·apply cZ 7 rfl rfl;exact fin 18 (by decide) (.inr (.inr (.inr rfl)))
 ·apply bP q5;cases dn with
  |true=>exact h (.i 3) c2 s (oy trivial (.inl rfl) trivial (by decide) (by decide) λ ω=>trivial)
  |false=>
   apply cj 0 1 rfl rfl rfl;refine sQ L ht ?_;exact h (.a _) c2 _ ⟨trivial,.inr rfl,sL ..,nC ..,show 1≤4 by decide,show 0≤2 by decide,λ q=>q.atom (vk (by decide)),nofun⟩
theorem JI {A:sO}{ca ra:Addr}:∀ (d:Nat) {s:Sy} {cs:List Int} {dn:Bool} {ρ:Nat} {Q:bI} {r:List bT},fP oo s→s.fs.length+4*ρ<500→s.ts.length+4*ρ<500→
  (∀ b cs' s' ρ',rX dn d s ρ b s' ρ'→At (cF A s'++(qp ca cs'::(ra,.list [.int ρ'])::r)) (Q (dX b)))→At (cF A s++(qp ca cs::(ra,.list [.int ρ])::r)) (bR J (d+4) 517 Q [.loc ca,.loc A.obj,.loc ra,.int d,.bool dn]):=by
 intro d
 induction d with
 |zero=>
  intro s cs dn ρ Q r hX hf ht h;refine L.law_body 3 _ _ Q rfl ?_;apply bP (by decide);apply bQ (by decide);exact vB L (n:=0) hX (ac (ah ..) (aw hf (by decide))) (ac (ah ..) (aw ht (by decide))) λ t c2 s2 B=>h _ c2 s2 ρ (B.bo 0 ρ)
 |succ d ih=>
  intro s cs dn ρ Q r hX hf ht h;refine L.law_body (d+4) _ _ Q rfl ?_;have hf':s.fs.length<1000000:=ac (ah ..) (aw hf (by decide));have ht':s.ts.length<1000000:=ac (ah ..) (aw ht (by decide));apply bQ (ba (aV d));apply cZ 7 rfl rfl;rcases ρ with _|ρ
  ·apply bP (Int.lt_irrefl 0);apply bQ (by decide);exact vB L (n:=d+1) hX hf' ht' λ t c2 s2 B=>h _ c2 s2 0 (B.bo (d+1) 0)
  apply bQ (ba (aV ρ));refine jr L (sd:=9) (by decide) λ x c1 x0 x1=>?_
  by_cases h4:4<x
  ·apply bQ h4;exact vB L (n:=d+1) hX hf' ht' λ t c2 s2 B=>h _ c2 s2 (ρ+1) (B.bo (d+1) (ρ+1))
  apply bP h4;apply cZ 7 rfl rfl;apply JL (k:=0) 7;rfl;exact aV 0;have e1:((ρ+1:Nat):Int) - 1=(ρ:Nat):=show (ρ:Int)+1 - 1=ρ from Int.add_sub_cancel ..;have ed:((d+1:Nat):Int) - 1=(d:Nat):=show (d:Int)+1 - 1=d from Int.add_sub_cancel ..;show At (cF A s++(qp ca c1::(ra,.list [.int (((ρ+1:Nat):Int) - 1)])::r)) _;rw[e1];have bo:∀ {dn':Bool} {K:bI} {l:List bT},At l (bR J (d+4) 517 K [.loc ca,.loc A.obj,.loc ra,.int d,.bool dn'])→At l (bR J (d+4) 517 K [.loc ca,.loc A.obj,.loc ra,.int (((d+1:Nat):Int) - 1),.bool dn']):=λ h=>ed.symm▸h;have negc:x=0→At (cF A s++(qp ca c1::(ra,.list [.int ρ])::r)) (bR J (d+4) 517 (uG 6 ((args [.loc ca,.loc A.obj,.loc ra,.int ((d+1:Nat):Int),.bool dn]).set 5 (.int x)) (kQ (cA (je J (d+4)) (ij.drop 4)) (kL Q))) [.loc ca,.loc A.obj,.loc ra,.int (((d+1:Nat):Int) - 1),.bool true]):=λ hx=>by
   refine bo (ih hX (xG hf) (xG ht) λ b1 c2 s2 ρ2 B=>?_);apply bQ hx;exact h _ c2 s2 ρ2 B.neg
  have two:x≠0→At (cF A s++(qp ca c1::(ra,.list [.int ρ])::r)) (bR J (d+4) 517 (uG 6 ((args [.loc ca,.loc A.obj,.loc ra,.int ((d+1:Nat):Int),.bool dn]).set 5 (.int x)) (kQ (cA (je J (d+4)) (ij.drop 4)) (kL Q))) [.loc ca,.loc A.obj,.loc ra,.int (((d+1:Nat):Int) - 1),.bool dn]):=λ hx=>by
   refine bo (ih hX (xG hf) (xG ht) λ b1 c2 s2 ρ2 B1=>?_);apply bP hx;refine bo (ih (hX.trans B1.X) (GV hf B1.fs B1.le) (GV ht B1.ts B1.le) λ b2 c3 s3 ρ3 B2=>?_)
   by_cases q4:x<4
   ·apply bQ q4;have fin:∀ b,rX dn (d+1) s (ρ+1) b s3 ρ3→∀ l,At ((l,.list [.int 4,.int 1,.int 2,.int 3])::(cF A s3++(qp ca c3::(ra,.list [.int ρ3])::r))) (Q (dX b)):=λ b B l=>At.drop1 (h b c3 s3 ρ3 B);apply bJ;intro l;have:x=1∨x=2∨x=3:=by lia
    rcases this with rfl|rfl|rfl
    ·apply cZ 0 rfl rfl;exact fin _ (B1.two B2).com l
    ·apply cZ 0 rfl rfl;exact fin _ (B1.two B2).sem l
    ·apply cZ 0 rfl rfl;exact fin _ (B1.two B2).arr l
   ·apply bP q4;exact bo (ih (hX.trans (B1.X.trans B2.X)) (GY hf B1.fs B2.fs B1.le B2.le) (GY ht B1.ts B2.ts B1.le B2.le) λ b3 c4 s4 ρ4 B3=>h _ c4 s4 ρ4 (B1.ite B2 B3))
  cases dn with
  |true=>
   by_cases hx:x=0
   ·exact negc hx
   ·exact two hx
  |false=>
   apply p3
   ·exact negc
   ·exact two
end
structure RS where
 nl:NL
 op:List Int
noncomputable abbrev RS.say (s:RS)(v:AV):RS:=⟨s.nl.say v,s.op⟩
noncomputable abbrev RS.put (s:RS)(k:Int)(v:AV):RS:=⟨⟨cn s.nl.nm k v,s.nl.ln⟩,s.op⟩
noncomputable abbrev LO:=List AV×List Int
noncomputable abbrev p7:=KR→Nm→AV→Nat→LO→LO→Prop
inductive nK (rd:p7)(E:Nm)(h:AV)(ts:List Tm):Nat→List KR→LO→LO→Prop
 |nil {i:Nat} {q:LO}:nK rd E h ts i [] q q
 |cons {i:Nat} {K:KR} {r:List KR} {ln:List AV} {op:List Int} {q q':LO}:K.args=ts→rd K E h i (ln++[ss i],op) q→nK rd E h ts (i+1) r q q'→nK rd E h ts i (K::r) (ln,op) q'
inductive tZ (nm:Nm)(kept:List Int):List Int→AV→Prop
 |none:(∀ k∈kept,∀ v,bM nm k=some v→∃ j,v=.int j)→tZ nm kept [] .none
 |one {k:Int} {vs:List AV}:bM nm k=some (.tup vs)→tZ nm kept [k] (.tup vs)
noncomputable def jg (nm:Nm)(l:List Int):Nm:=l.map λ k=>(k,(bM nm k).getD .none)
noncomputable def tV (s:RS)(n:Nat)(kept:List Int):NL:=spellL (cK kept) (s.nl.say (gS n))
inductive zH (rd:p7)(G:Int→Option (List KR)):Int→List Tm→RS→RS→Prop
 |mk {f:Int} {s:RS} {Ks:List KR} (kept hd:List Int) (hv:AV) {q:LO}:G f=some Ks→f∉s.op→(kept++hd).Nodup→tZ s.nl.nm kept hd hv→
   nK rd (jg (tV s Ks.length kept).nm (kept++hd)) (bC (s.op.length+1:Nat)) (cK (kept++hd)) 0 Ks ((tV s Ks.length kept).ln,s.op++[f]) q→zH rd G f (cK (kept++hd)) s ⟨⟨(tV s Ks.length kept).nm,q.1++[pE hv]⟩,q.2⟩
inductive ej (rd:p7)(G:Int→Option (List KR))(here:AV)(pl:Nat):Nat→Bool→RS→List Gl→RS→Prop
 |nil {i:Nat} {c:Bool} {s:RS}:ej rd G here pl i c s [] s
 |level {c:Bool} {k:Int} {r:List Gl} {s s':RS}:bM s.nl.nm k=none→ej rd G here pl 1 c (s.put k here) r s'→ej rd G here pl 0 c s (.level k::r) s'
 |mark {i:Nat} {c:Bool} {k:Int} {r:List Gl} {s s':RS}:bM s.nl.nm k=none→ej rd G here pl (i+1) c (s.put k (.tup [.str gt,here,.int pl])) r s'→ej rd G here pl i c s (.mark k::r) s'
 |cut {i:Nat} {r:List Gl} {s s':RS}:ej rd G here pl (i+1) false (s.say (kO here)) r s'→ej rd G here pl i false s (.cut::r) s'
 |cutto {i:Nat} {c:Bool} {k:Int} {vs:List AV} {r:List Gl} {s s':RS}:bM s.nl.nm k=some (.tup vs)→AV.pls vs=true→(.tup vs=here→c=true)→ej rd G here pl (i+1) c (s.say (kO (.tup vs))) r s'→ej rd G here pl i c s (.cutto k::r) s'
 |fail {i:Nat} {c:Bool} {r:List Gl} {s s':RS}:ej rd G here pl (i+1) c (s.say (.str eO)) r s'→ej rd G here pl i c s (.fail::r) s'
 |unify {i:Nat} {c:Bool} {x y:Tm} {r:List Gl} {s s':RS}:ej rd G here pl (i+1) c ⟨spell y (spell x (s.nl.say (.str dr))),s.op⟩ r s'→ej rd G here pl i c s (.unify x y::r) s'
 |opn {i:Nat} {c:Bool} {f:Int} {ts:List Tm} {r:List Gl} {s s1 s':RS}:zH rd G f ts s s1→ej rd G here pl (i+1) true s1 r s'→ej rd G here pl i c s (.call f ts::r) s'
 |call {i:Nat} {c:Bool} {f:Int} {ts:List Tm} {r:List Gl} {s s':RS}:G f=none→ej rd G here pl (i+1) true ⟨spellL ts (s.nl.say (.tup [.str cG,.int f])),s.op⟩ r s'→ej rd G here pl i c s (.call f ts::r) s'
 |blt {i:Nat} {c:Bool} {f:Int} {ts:List Tm} {r:List Gl} {s s':RS}:ej rd G here pl (i+1) c ⟨spellL ts (s.nl.say (.tup [.str dY,.int f])),s.op⟩ r s'→ej rd G here pl i c s (.blt f ts::r) s'
noncomputable def Gl.ht:Gl→Nat
 |.call _ ts=>Tm.htL ts
 |.blt _ ts=>Tm.htL ts
 |.unify x y=>max x.ht y.ht
 |.cut=>0|.fail=>0|.cutto _=>0|.level _=>0|.mark _=>0
noncomputable def Gl.ar:Gl→Nat
 |.call _ ts=>ts.length
 |.blt _ _=>0
 |.unify _ _=>0|.cut=>0|.fail=>0|.cutto _=>0|.level _=>0|.mark _=>0
structure TT (K:KR):Prop where
 f:Ms K
 h:∀ g∈K.goals,g.ht≤15
 n:∀ g∈K.goals,g.ar<990
noncomputable def tC (G:Int→Option (List KR)):Nat→p7
 |0,_,_,_,_,_,_=>False
 |n+1,K,E,h,pl,q,q'=>TT K∧∃ E',ej (tC G n) G h pl 0 false ⟨⟨E,q.1⟩,q.2⟩ K.goals ⟨⟨E',q'.1⟩,q'.2⟩
structure Mo (q q':LO):Prop where
 l:q.1.length≤q'.1.length
 o:q.2.length≤q'.2.length
theorem Mo.rfl' {q:LO}:Mo q q:=⟨au _,au _⟩
theorem Mo.trans {a b c:LO}(h:Mo a b)(h':Mo b c):Mo a c:=⟨aa h.l h'.l,aa h.o h'.o⟩
noncomputable abbrev RS.lo (s:RS):LO:=(s.nl.ln,s.op)
theorem qd {ln:List AV}{op:List Int}{v:AV}:Mo (ln,op) (ln++[v],op):=⟨bK ln v▸aM _,au _⟩
theorem lq {s:NL}{op:List Int}{v:AV}:Mo (s.ln,op) ((s.say v).ln,op):=qd
theorem G5 {t:Tm}{s:NL}{op:List Int}:Mo (s.ln,op) ((spell t s).ln,op):=⟨i7 t s▸ah ..,au _⟩
theorem we {ts:List Tm}{s:NL}{op:List Int}:Mo (s.ln,op) ((spellL ts s).ln,op):=⟨dy ts s▸ah ..,au _⟩
theorem nK.mo {rd:p7}(hr:∀ {K E h i q q'},rd K E h i q q'→Mo q q'){E:Nm}{h:AV}{ts:List Tm}{i:Nat}{Ks:List KR}{q q':LO}(H:nK rd E h ts i Ks q q'):Mo q q':=by
 induction H with
 |nil=>exact .rfl'
 |cons _ h1 _ ih=>exact qd.trans ((hr h1).trans ih)
theorem zH.mo {rd:p7}{G:Int→Option (List KR)}(hr:∀ {K E h i q q'},rd K E h i q q'→Mo q q'){f:Int}{ts:List Tm}{s s':RS}(H:zH rd G f ts s s'):Mo s.lo s'.lo:=by
 rcases H with⟨kept,hd,hv,_,_,_,_,h⟩
 have h1:∀ n,Mo s.lo ((tV s n kept).ln,s.op++[f]):=λ n=>(lq.trans we).trans ⟨au _,aa (aM _) (am (bK s.op f).symm)⟩;exact (h1 _).trans ((h.mo hr).trans qd)
theorem ej.mo {rd:p7}{G:Int→Option (List KR)}(hr:∀ {K E h i q q'},rd K E h i q q'→Mo q q'){here:AV}{pl i:Nat}{c:Bool}{s s':RS}{gs:List Gl}(H:ej rd G here pl i c s gs s'):Mo s.lo s'.lo:=by
 induction H with
 |nil=>exact .rfl'
 |level _ _ ih=>exact ih
 |mark _ _ ih=>exact ih
 |cut _ ih=>exact lq.trans ih
 |cutto _ _ _ _ ih=>exact lq.trans ih
 |fail _ ih=>exact lq.trans ih
 |unify _ ih=>exact (lq.trans (G5.trans G5)).trans ih
 |opn h _ ih=>exact (h.mo hr).trans ih
 |call _ _ ih=>exact (lq.trans we).trans ih
 |blt _ ih=>exact (lq.trans we).trans ih
theorem tC.mo {G:Int→Option (List KR)}:∀ {n:Nat} {K:KR} {E:Nm} {h:AV} {i:Nat} {q q':LO},tC G n K E h i q q'→Mo q q':=by
 intro n
 induction n with
 |zero=>exact λ h=>h.elim
 |succ n ih=>exact λ h=>let ⟨_,_,h⟩:=h;h.mo ih
noncomputable def keys (E:Nm):List Int:=E.map (·.1)
noncomputable def enc (ρ:List Int)(E:Nm):Nm:=E.map λ p=>(((cy ρ p.1:Nat):Int),p.2)
theorem qW {ρ:List Int}{a b:Int}(ha:a∈ρ)(hb:b∈ρ)(h:((cy ρ a:Nat):Int)=(cy ρ b:Nat)):a=b:=by
 have h1:=iT ha;rw[Int.ofNat.inj h,iT hb]at h1;exact (aA h1).symm
theorem iD {ρ:List Int}{k:Int}(hk:k∈ρ):∀ {E:Nm},(∀ x∈keys E,x∈ρ)→bM (enc ρ E) (cy ρ k:Nat)=bM E k:=by
 intro E
 induction E with
 |nil=>exact λ ω=>rfl
 |cons p r ih=>
  intro h;have hp:=h p.1 (af ..);have ih:=ih λ x hx=>h x (ag _ hx)
  by_cases q:p.1=k
  ·exact (fT (v:=p.2) (ae (λ a=>((cy ρ a:Nat):Int)) q)).trans (fT (v:=p.2) q).symm
  ·exact (fX (v:=p.2) λ z=>q (qW hp hk z)).trans (ih.trans (fX (v:=p.2) q).symm)
theorem rU {ρ:List Int}{k:Int}{v:AV}(hk:k∈ρ):∀ {E:Nm},(∀ x∈keys E,x∈ρ)→cn (enc ρ E) (cy ρ k:Nat) v=enc ρ (cn E k v):=by
 intro E
 induction E with
 |nil=>exact λ ω=>rfl
 |cons p r ih=>
  intro h;have hp:=h p.1 (af ..);have ih:=ih λ x hx=>h x (ag _ hx)
  by_cases q:p.1=k
  ·exact (aL (ae (λ a=>((cy ρ a:Nat):Int)) q)).trans (ae (enc ρ) (aL q:cn (p::r) k v=(p.1,v)::r)).symm
  ·exact (aK λ z=>q (qW hp hk z)).trans ((ae (_::·) ih).trans (ae (enc ρ) (aK q:cn (p::r) k v=p::cn r k v)).symm)
theorem mP (k:Int)(v:AV):∀ E:Nm,keys (cn E k v)=g8 (keys E) k:=by
 intro E
 induction E with
 |nil=>rfl
 |cons p r ih=>
  by_cases q:p.1=k
  ·exact (ae keys (aL q:cn (p::r) k v=(p.1,v)::r)).trans (d7 (q▸af ..)).symm
  ·refine (ae keys (aK q:cn (p::r) k v=p::cn r k v)).trans ((ae (p.1::·) ih).trans ?_)
   by_cases z:k∈keys r
   ·rw[d7 z];exact (d7 (ag _ z)).symm
   ·rw[eQ z];exact (eQ λ w=>(ap w).elim (λ e=>q e.symm) z).symm
noncomputable abbrev NL.enc (ρ:List Int)(s:NL):NL:=⟨Mine.enc ρ s.nm,s.ln⟩
structure Ju (ρ:List Int)(s s' e:NL)(vs:List Int):Prop where
 e:e=s'.enc ρ
 k:keys s'.nm=cM (keys s.nm) vs
theorem pb {l ρ:List Int}{x:Int}(h:x∈cM ρ l):x∈ρ∨x∈l:=by
 induction l generalizing ρ with
 |nil=>exact .inl h
 |cons k r ih=>
  refine (ih (ρ:=g8 ρ k) h).elim (λ q=>?_) λ q=>.inr (ag _ q)
  by_cases z:k∈ρ
  ·rw[d7 z]at q;exact .inl q
  ·rw[eQ z]at q;exact (eh.mp q).elim (λ e=>.inr (e▸af ..)) .inl
theorem rM {ρ:List Int}{s:NL}{k:Int}(hk:k∈ρ)(h:∀ x∈keys s.nm,x∈ρ):Ju ρ s (s.var k) ((s.enc ρ).var (cy ρ k:Nat)) [k]:=by
 have g:=iD hk h;cases e:bM s.nm k with
 |some v=>
  rw[e]at g;rw[cO e];exact⟨cO g,(d7 ((eD ..).mp (e▸rfl))).symm⟩
 |none=>
  rw[e]at g;rw[cU e];refine⟨(cU g).trans ?_,mP ..⟩;exact ae (λ z=>NL.say ⟨z,s.ln⟩ _) (rU hk h)
mutual
theorem zx {ρ:List Int}:∀ (t:Tm) {s:NL},(∀ x∈t.vars,x∈ρ)→(∀ x∈keys s.nm,x∈ρ)→Ju ρ s (spell t s) (spell (t.rn ρ) (s.enc ρ)) t.vars
 |.v k,s,hv,h=>rM (hv k (af ..)) h
 |.a k,s,hv,h=>⟨rfl,rfl⟩
 |.i k,s,hv,h=>⟨rfl,rfl⟩
 |.s f as,s,hv,h=>by
  have:=fO as (s:=s.say (.tup [.int f,.int as.length])) hv h;refine⟨?_,this.k⟩;exact (ae (λ n:Nat=>spellL (Tm.rnL ρ as) ((s.enc ρ).say (.tup [.int f,.int n]))) (lV ρ as)).trans this.e
theorem fO {ρ:List Int}:∀ (l:List Tm) {s:NL},(∀ x∈Tm.varsL l,x∈ρ)→(∀ x∈keys s.nm,x∈ρ)→Ju ρ s (spellL l s) (spellL (Tm.rnL ρ l) (s.enc ρ)) (Tm.varsL l)
 |[],s,hv,h=>⟨rfl,rfl⟩
 |t::r,s,hv,h=>by
  have h1:=zx t (s:=s) (λ x hx=>hv x (aH _ hx)) h;have h2:=fO r (s:=spell t s) (λ x hx=>hv x (aF _ hx)) λ x hx=>(pb (h1.k▸hx)).elim (h x) λ q=>hv x (aH _ q);exact⟨(ae (spellL (Tm.rnL ρ r)) h1.e).trans h2.e,h2.k.trans ((ae (cM · (Tm.varsL r)) h1.k).trans (dR ..).symm)⟩
end
theorem z7 {p:Prop}{l:List bT}{A B:SP}(hA:p→At l B→At l A)(hB:At l B):At l (g5 p (yY A B)):=p3 (λ q=>hA q hB) λ ω=>hB
theorem Sa {w:WE}{Q:bI}{n:Nat}(f:Nat→AV)(L:Nat→List bT)(hz:n<1000)(hv:∀ i,i<n→∀ K:bI,At (L (i+1)) (K (f i))→At (L i) (w (cJ.set 1 (.int i)) K))(h:∀ b,At ((b,.list ((List.range n).map f))::L n) (Q (.loc b))):At (L 0) (uL w Q n):=λ σ ho=>by
 unfold uL;refine⟨bf n,ba hz,λ vs σ=>vs=(List.range vs.length).map f∧fH σ (L vs.length),⟨rfl,ho⟩,?_,?_⟩
 ·rintro vs σ hi ⟨e,ho⟩
  refine hv vs.length (Int.ofNat_lt.mp hi) _ (λ σ ho=>?_) σ ho;refine⟨?_,bK vs _▸ho⟩;rw[bK,List.range_succ,aN,←e];rfl
 ·rintro vs σ hi ⟨e,ho⟩
  rw[Int.toNat_natCast]at hi;rw[hi]at e ho;subst e;exact bJ h σ ho
theorem zg {k:Int}{r:List Int}:∀ {a:List Int},k∉a→cy (a++k::r) k=a.length:=by
 intro a
 induction a with
 |nil=>exact λ ω=>gm rfl
 |cons x a ih=>exact λ h=>(gg λ e:x=k=>h (e▸af ..)).trans (ae (·+1) (ih λ m=>h (ag _ m)))
noncomputable def zN (g:Int→AV):Nat→List Int→Nm
 |_,[]=>[]
 |i,k::r=>((i:Int),g k)::zN g (i+1) r
theorem z5 {ρ:List Int}(g:Int→AV):∀ (l a:List Int),(a++l).Nodup→nX (a++l) ρ→l.map (λ k=>(((cy ρ k:Nat):Int),g k))=zN g a.length l:=by
 intro l
 induction l with
 |nil=>exact λ ω ω ω=>rfl
 |cons k r ih=>
  intro a hn hp;have e:a++k::r=(a++[k])++r:=(ao a [k] r).symm;have hk:k∉a:=λ m=>(List.nodup_append.mp hn).2.2 k m k (af ..) rfl;have h2:=ih (a++[k]) (e▸hn) (e▸hp);rw[bK]at h2;have h1:cy ρ k=a.length:=(ng (aF _ (af ..)) hp).trans (zg hk);exact (ae (λ n:Nat=>((n:Int),g k)::_) h1).trans (ae (_::·) h2)
theorem Hq {g:Int→AV}:∀ (l:List Int) (i:Nat),(zN g i l).length=l.length:=by
 intro l
 induction l with
 |nil=>exact λ ω=>rfl
 |cons k r ih=>exact λ i=>ae (·+1) (ih (i+1))
theorem Hu {g:Int→AV}{k:Int}:∀ {l:List Int} {i n:Nat},i+l.length=n→cn (zN g i l) (n:Nat) (g k)=zN g i (l++[k]):=by
 intro l
 induction l with
 |nil=>intro i n h;subst h;rfl
 |cons x r ih=>
  intro i n h;have h':i+1+r.length=n:=(aQ ..).trans ((ae (i+·) (bh ..)).trans h);exact (aK λ e=>Nat.ne_of_lt (h'▸aO (bq i) (ah ..)) (Int.ofNat.inj e)).trans (ae (_::·) (ih h'))
noncomputable def gF (nm:Nm)(k:Int):AV:=(bM nm k).getD .none
theorem zq {ρ:List Int}{nm:Nm}{l:List Int}(hn:l.Nodup)(hp:nX l ρ):enc ρ (jg nm l)=zN (gF nm) 0 l:=(List.map_map ..).trans (z5 (gF nm) l [] hn hp)
theorem H2 {g:Int→AV}:∀ (l:List Int) (i:Nat),(zN g i l).map (λ p=>AV.int p.1)=(List.range' i l.length).map λ i:Nat=>AV.int i:=by
 intro l
 induction l with
 |nil=>exact λ ω=>rfl
 |cons k r ih=>exact λ i=>ae (_::·) (ih (i+1))
theorem xU {ρ l:List Int}(hn:l.Nodup)(hp:nX l ρ):l.map (λ k=>AV.int (cy ρ k:Nat))=jN l.length:=by
 have h:=ae (List.map λ p:Int×AV=>AV.int p.1) (z5 (λ ω=>AV.none) l [] hn hp);rw[List.map_map,H2]at h;rw[jN,List.range_eq_range'];exact h
theorem Bs (ρ l:List Int):Tm.avs (Tm.rnL ρ (cK l))=l.map λ k=>(Tm.v (cy ρ k:Nat)).av:=by
 induction l with
 |nil=>rfl
 |cons k r ih=>exact ae (_::·) ih
theorem ft (l:List Int):Tm.varsL (cK l)=l:=by
 induction l with
 |nil=>rfl
 |cons k r ih=>exact ae (k::·) ih
theorem HN {ρ l:List Int}(hn:l.Nodup)(hp:nX l ρ):Tm.avs (Tm.rnL ρ (cK l))=(List.range l.length).map λ i:Nat=>(Tm.v i).av:=by
 have h:=ae (List.map λ v=>AV.tup [.str qw,v]) (xU hn hp);rw[jN,List.map_map,List.map_map]at h;exact (Bs ρ l).trans h
theorem ul {l:List Int}:∀ {ρ:List Int},(ρ++l).Nodup→cM ρ l=ρ++l:=by
 induction l with
 |nil=>exact λ ω=>(aq _).symm
 |cons k r ih=>
  intro ρ h;have hk:k∉ρ:=λ m=>(List.nodup_append.mp h).2.2 k m k (af ..) rfl;have e:ρ++k::r=(ρ++[k])++r:=(ao ρ [k] r).symm;show cM (g8 ρ k) r=_;rw[eQ hk,ih (e▸h),e]
theorem DB {l:List Int}:∀ {ρ:List Int},(∀ x∈l,x∈ρ)→cM ρ l=ρ:=by
 induction l with
 |nil=>exact λ ω=>rfl
 |cons k r ih=>
  intro ρ h;show cM (g8 ρ k) r=_;rw[d7 (h k (af ..))];exact ih λ x hx=>h x (ag _ hx)
theorem x9:∀ (l:List Int) {ρ:List Int},ρ.Nodup→(cM ρ l).Nodup:=by
 intro l
 induction l with
 |nil=>exact λ h=>h
 |cons k r ih=>
  intro ρ h;refine ih (ρ:=g8 ρ k) ?_
  by_cases z:k∈ρ
  ·rw[d7 z];exact h
  ·rw[eQ z];exact List.nodup_append.mpr ⟨h,List.nodup_cons.mpr ⟨nofun,.nil⟩,λ a ha b hb e=>z (aj hb▸e▸ha)⟩
theorem jW:∀ {l ρ:List Int} {x:Int},x∈ρ∨x∈l→x∈cM ρ l:=by
 intro l
 induction l with
 |nil=>exact λ h=>h.elim id λ h=>nomatch h
 |cons k r ih=>
  intro ρ x h;refine ih (ρ:=g8 ρ k) (h.elim (λ m=>.inl ?_) λ m=>(ap m).elim (λ e=>.inl (e▸kc ρ k)) .inr);obtain⟨z,e⟩:=i6 ρ k;exact e▸aH _ m
noncomputable abbrev IP (la oa wa ga:Addr)(fK:Nm)(q:LO)(R:List bT):List bT:=(la,.list q.1)::(oa,.list (q.2.map .int))::(wa,.dS [(jc,.loc ga),(jU,.loc oa)])::(ga,.dI fK)::R
abbrev Ix (R:List bT)(x:bT):Prop:=∃ i,eH R i=some x
theorem Ix.cons {R:List bT}{x y:bT}(h:Ix R x):Ix (y::R) x:=let ⟨i,e⟩:=h;⟨i+1,e⟩
structure KIn (R:List bT)(K:KR)(k dx gl:Addr):Prop where
 i:Ix R (k,.inst 310 dx)
 d:Ix R (dx,.ns [(dc,.int K.f),(lH,.tup (Tm.avs (Tm.rnL K.rho K.args))),(cR,.loc gl),(gJ,.int K.rho.length)])
 g:Ix R (gl,.list (K.goals.map λ g=>(g.rn K.rho).av))
theorem KIn.cons {R:List bT}{K:KR}{k dx gl:Addr}{y:bT}(h:KIn R K k dx gl):KIn (y::R) K k dx gl:=⟨h.i.cons,h.d.cons,h.g.cons⟩
structure Sj (R:List bT)(Ks:List KR)(lf:Addr)(ks:List Addr):Prop where
 l:Ix R (lf,.list (ks.map .loc))
 n:ks.length=Ks.length
 k:∀ (i:Nat) (K:KR),Ks[i]? =some K→∃ k dx gl,ks[i]? =some k∧KIn R K k dx gl
structure jX (R:List bT)(fK:Nm)(G:Int→Option (List KR)):Prop where
 n:∀ f,G f=none→bM fK f=none
 s:∀ f Ks,G f=some Ks→∃ lf ks,bM fK f=some (.loc lf)∧Sj R Ks lf ks
theorem Sj.cons {R:List bT}{Ks:List KR}{lf:Addr}{ks:List Addr}{y:bT}(h:Sj R Ks lf ks):Sj (y::R) Ks lf ks:=⟨h.l.cons,h.n,λ i K e=>let ⟨k,dx,gl,a,b⟩:=h.k i K e;⟨k,dx,gl,a,b.cons⟩⟩
theorem jX.cons {R:List bT}{fK:Nm}{G:Int→Option (List KR)}{y:bT}(h:jX R fK G):jX (y::R) fK G:=⟨h.n,λ f Ks e=>let ⟨lf,ks,a,b⟩:=h.s f Ks e;⟨lf,ks,a,b.cons⟩⟩
structure qA (q:LO):Prop where
 l:q.1.length<100000
 o:q.2.length<100000
theorem qA.mo {q q':LO}(h:qA q')(m:Mo q q'):qA q:=⟨ac m.l h.l,ac m.o h.o⟩
def yi (J:JT)(n:Nat)(G:Int→Option (List KR))(rd:p7):Prop:=∀ {K:KR} {E:Nm} {h:AV} {pl:Nat} {q q':LO} {k nd la oa wa ga dx gl:Addr} {fK:Nm} {R:List bT} {Q:bI},
 rd K E h pl q q'→keys E=cM [] (Tm.varsL K.args)→KIn R K k dx gl→jX R fK G→e6 h→qA q'→(∀ E',At ((nd,.dI E')::IP la oa wa ga fK q' R) (Q .none))→At ((nd,.dI (enc K.rho E))::IP la oa wa ga fK q R) (bR J n 571 Q [.loc k,.loc nd,h,.int pl,.loc la,.loc wa])
structure F7 where
 nl:NL
 h:AV
def NV (nm:Nm)(k:Int):Prop:=∀ v,bM nm k=some v→∃ j,v=.int j
inductive VL (y:Int)(post:List Int)(x:F7):F7→Prop
 |k:x.h=.none→(post=[]→NV x.nl.nm y)→VL y post x ⟨x.nl.var y,.none⟩
 |h {vs:List AV}:post=[]→bM x.nl.nm y=some (.tup vs)→VL y post x ⟨x.nl,.tup vs⟩
inductive xM (fin:NL)(hv:AV):List Int→F7→Prop
 |e {ks:List Int} {nl:NL}:hv=.none→spellL (cK ks) nl=fin→(∀ k∈ks,NV nl.nm k)→xM fin hv ks ⟨nl,.none⟩
 |k {ks:List Int} {y:Int} {vs:List AV} {nl:NL}:hv=.tup vs→spellL (cK ks) nl=fin→bM nl.nm y=some hv→y∉ks→xM fin hv (ks++[y]) ⟨nl,.none⟩
 |h {nl:NL}:nl=fin→xM fin hv [] ⟨nl,hv⟩
theorem yV {nm:Nm}{k j:Int}{v:AV}(h:bM (cn nm k (.int j)) k=some v):∃ i,v=.int i:=⟨j,(aA (((cB ..).trans (aL rfl)).symm.trans h)).symm⟩
theorem vQ {s:NL}{y k:Int}(h:NV s.nm k):NV (s.var y).nm k:=by
 intro v e;cases g:bM s.nm y with
 |some w=>rw[cO g]at e;exact h v e
 |none=>
  rw[cU g]at e
  by_cases q:k=y
  ·subst q;exact yV e
  ·exact h v (((cB ..).trans (aK q)).symm.trans e)
theorem wS {s:NL}{y k:Int}(hk:k≠y):bM (s.var y).nm k=bM s.nm k:=by
 cases g:bM s.nm y with
 |some w=>rw[cO g];rfl
 |none=>rw[cU g];exact (cB ..).trans (aK hk)
theorem AN {s:NL}{y k:Int}{v:AV}(h:bM s.nm k=some v):bM (s.var y).nm k=some v:=by
 by_cases q:k=y
 ·subst q;rw[cO h];exact h
 ·exact (wS q).trans h
theorem EQ {k:Int}{v:AV}:∀ (l:List Int) {s:NL},bM s.nm k=some v→bM (spellL (cK l) s).nm k=some v:=by
 intro l
 induction l with
 |nil=>exact id
 |cons y r ih=>exact λ h=>ih (AN h)
structure OpV (fin:NL)(hv:AV)(y:Int)(post:List Int)(x x':F7):Prop where
 s:VL y post x x'
 p:xM fin hv post x'
 v:bM x'.nl.nm y=some (gF fin.nm y)
theorem Gd {nm:Nm}{k:Int}{v:AV}(h:bM nm k=some v):some v=some (gF nm k):=by unfold gF;rw[h];rfl
theorem t8 {s:NL}{y:Int}(ks:List Int):bM (s.var y).nm y=some (gF (spellL (cK ks) (s.var y)).nm y):=by
 obtain⟨v,e⟩:=Option.isSome_iff_exists.mp (xA s y);rw[e];exact Gd (EQ ks e)
set_option tactic.hygienic true in
theorem xM.step {fin:NL}{hv:AV}{y:Int}{post:List Int}{x:F7}(h:xM fin hv (y::post) x):∃ x',OpV fin hv y post x x':=by
 generalize e:y::post=l at h;rcases h with⟨h1,h2,h3⟩|⟨h1,h2,h3,h4⟩|h1
 ·subst e h2;exact⟨_,.k rfl λ ω=>h3 y (af ..),.e h1 rfl λ k hk=>vQ (h3 k (ag _ hk)),t8 post⟩
 ·rename_i ks z vs nl;rcases ks with _|⟨w,ks⟩
  ·cases e;subst h1 h2;exact⟨_,.h rfl h3,.h rfl,h3.trans (Gd h3)⟩
  ·cases e;subst h2;refine⟨_,.k rfl λ q=>?_,.k h1 rfl ?_ λ m=>h4 (ag _ m),t8 ks⟩
   ·rcases ks with _|_<;>cases q
   ·exact (wS λ q:z=y=>h4 (q▸af ..)).trans h3
 ·cases e
set_option tactic.hygienic true in
theorem xM.fin {fin:NL}{hv:AV}{x:F7}(h:xM fin hv [] x):x=⟨fin,hv⟩:=by
 generalize e:[]=l at h;rcases h with⟨h1,h2,h3⟩|⟨h1,h2,h3,h4⟩|h1
 ·subst e h1 h2;rfl
 ·rename_i ks z vs nl;rcases ks with _|_<;>cases e
 ·subst h1;rfl
theorem xM.start {kept hd:List Int}{hv:AV}{s:NL}(hn:(kept++hd).Nodup)(h:tZ s.nm kept hd hv)(v:AV):xM (spellL (cK kept) (s.say v)) hv (kept++hd) ⟨s.say v,.none⟩:=by
 rcases h with h|h
 ·rw[aq];exact .e rfl rfl h
 ·exact .k rfl rfl h λ m=>(List.nodup_append.mp hn).2.2 _ m _ (af ..) rfl
theorem l7 {α:Type}{f:α→AV}{l:List α}(h:∀ x,(f x).pl=true):AV.pls (l.map f)=true:=kG.mpr λ x hx=>have⟨y,_,e⟩:=be hx;e▸h y
theorem uV {α:Type}{f:α→AV}{d:Nat}{l:List α}(h:∀ x,(f x).dep≤d):AV.deps (l.map f)≤d:=by
 induction l with
 |nil=>exact aI _
 |cons x r ih=>exact Nat.max_le.mpr ⟨h x,ih⟩
theorem Hj {f:Int}{op:List Int}(h:f∉op):AV.int f∉op.map AV.int:=λ m=>have⟨x,hx,e⟩:=be m;h (by injection e with e;exact e▸hx)
theorem IN {α:Type}{a b l:List α}{x:α}(h:a++x::b=l):l[a.length]? =some x:=by
 subst h;rw[List.getElem?_append_right (au _),Nat.sub_self];rfl
theorem xM.len {fin:NL}{hv:AV}{l:List Int}{x:F7}(h:xM fin hv l x):x.nl.ln.length≤fin.ln.length:=by
 rcases h with⟨h1,h2,h3⟩|⟨h1,h2,h3,h4⟩|h1
 ·subst h2;exact dy _ _▸ah ..
 ·subst h2;exact dy _ _▸ah ..
 ·exact h1▸au _
theorem CG {ρ:List Int}{s:NL}{y:Int}(hy:y∈ρ)(h:∀ j∈keys s.nm,j∈ρ):∀ j∈keys (s.var y).nm,j∈ρ:=λ j hj=>(pb ((rM hy h).k▸hj)).elim (h j) λ m=>aj m▸hy
theorem JZ {α:Type}{a b l:List α}{x:α}(h:a++x::b=l):a.length<l.length:=by rw[←h,ay];exact Nat.lt_add_of_pos_right (aV _)
theorem lmB {a b p z:Nat}(h:b+(p+1)<z)(h':a≤b+1):a+p<z:=ac (aa (aG h' p) (am ((aQ ..).trans (ae (b+·) (bh ..))))) h
structure Zp where
 dn:List Int
 x:F7
structure OaP (ρ:List Int)(fin:NL)(hv:AV)(z:Nat)(pre post:List Int)(y:Zp):Prop where
 d:y.dn=pre
 p:xM fin hv post y.x
 k:∀ j∈keys y.x.nl.nm,j∈ρ
 n:y.x.nl.nm.length+post.length<z
noncomputable def oaX (ρ:List Int)(fin:NL)(hv ga:AV)(z:Nat)(here:AV)(nd la wa lf gd:Addr)(r:List bT):zL Int Zp:=⟨λ y=>[(0,ga),(1,.loc nd),(2,.loc la),(3,.loc wa),(4,here),(5,.loc lf),(6,y.x.h),(7,.loc gd)],λ y=>qj nd la (y.x.nl.enc ρ) ((gd,.dI (zN (gF fin.nm) 0 y.dn))::r),OaP ρ fin hv z⟩
structure ObP (rd:p7)(E:Nm)(h:AV)(ts:List Tm)(qf:LO)(pre post:List KR)(q:LO):Prop where
 r:nK rd E h ts pre.length post q qf
noncomputable def obX (rd:p7)(E:Nm)(h:AV)(ts:List Tm)(qf:LO)(M:List (Nat×AV))(la oa wa ga:Addr)(fK:Nm)(R:List bT):zL KR LO:=⟨λ ω=>M,λ q=>IP la oa wa ga fK q R,ObP rd E h ts qf⟩
theorem sV (ρ:List Int)(E:Nm):(enc ρ E).length=E.length:=ak _
theorem A1 (E:Nm):(keys E).length=E.length:=ak _
theorem Cj {l r:List Int}(hn:l.Nodup):nX l (cM [] (l++r)):=by
 have h:=ul (ρ:=[]) (l:=l) hn;rw[dR,h];exact g7 r l
theorem wD (nm:Nm)(l:List Int):keys (jg nm l)=l:=(List.map_map ..).trans (List.map_id l)
theorem w7 {α:Type}{a b l:List α}{x:α}(h:a++x::b=l):((a.length:Nat):Int)=(l.length:Nat) - 1↔b=[]:=by
 subst h;rw[ay,List.length_cons];refine⟨λ e=>List.eq_nil_of_length_eq_zero ?_,λ e=>?_⟩
 ·lia
 ·subst e;show _=((a.length+1:Nat):Int) - 1;lia
theorem lm9 {a z:Nat}(h:a<z)(hz:z≤199000):a<cX:=aw (aO h hz) (by decide)
theorem lmA {a b:Nat}(h:a<100000)(h':b<990):a+b<101000:=Nat.add_lt_add h (aw h' (show 990<1000 by decide))
theorem GP {w:WE}{Q:bI}{k:Int}{n:Nat}{l:List bT}(f:Nat→AV)(hk:k=n)(hz:n<1000)(hv:∀ i,i<n→∀ K:bI,At l (K (f i))→At l (w (cJ.set 1 (.int i)) K))(h:∀ b,At ((b,.list ((List.range n).map f))::l) (Q (.loc b))):At l (uL w Q k):=hk▸Sa f (λ ω=>l) hz hv h
theorem nK.len {rd:p7}(hm:∀ {K E h i q q'},rd K E h i q q'→Mo q q'){E:Nm}{h:AV}{ts:List Tm}{i:Nat}{Ks:List KR}{q q':LO}(H:nK rd E h ts i Ks q q'):q.1.length+Ks.length≤q'.1.length:=by
 induction H with
 |nil=>exact au _
 |@cons i K r ln op q q' _ h1 _ ih=>exact aa (am (show ln.length+(r.length+1)=ln.length+1+r.length from (aQ ..).symm.trans (Nat.add_right_comm ..))) (aa (aG (aa (am (bK ln (ss i)).symm) (hm h1).l) _) ih)
section
variable {J:JT}{T:iL}(L:eZ J){n:Nat}{G:Int→Option (List KR)}{rd:p7}
include L
set_option tactic.hygienic true in
theorem I4 (hr:yi J n G rd)(hm:∀ {K E h i q q'},rd K E h i q q'→Mo q q'){f:Int}{ts:List Tm}{s s':RS}{ρ:List Int}{nd la oa wa ga:Addr}{fK:Nm}{R:List bT}{Q:bI}(h:zH rd G f ts s s')(ht:∀ x∈Tm.varsL ts,x∈ρ)(hk:∀ x∈keys s.nl.nm,x∈ρ)(hg:jX R fK G)(hq:qA s'.lo)(hn:s.nl.nm.length<100000)(hl:ts.length<990)(hv1:1<n)
  (hQ:At ((nd,.dI (enc ρ s'.nl.nm))::IP la oa wa ga fK s'.lo R) (Q .none)):
  At ((nd,.dI (enc ρ s.nl.nm))::IP la oa wa ga fK s.lo R) (bR J (n+1) 576 Q [((Gl.call f ts).rn ρ).av,.loc nd,.loc la,.loc wa]):=by
 rcases h with⟨kept,hd,hv,hG,hf,hnd,hh,hb⟩
 rename_i Ks q;refine L.law_open n _ _ Q rfl ?_;obtain⟨lf,ks,e1,⟨i1,e2⟩,hlk,hks⟩:=hg.s f Ks hG;rw[ft]at ht;have hl':(kept++hd).length<990:=by rw[←ak (f:=Tm.v) (as:=kept++hd)];exact hl
 have hmb:=hb.mo hm;have hq1:qA q:=hq.mo qd;have hq0:=hq1.mo hmb;have hos:s.op.length+1<100000:=(bK s.op f)▸hq0.o;have hln:=(dy (cK kept) (s.nl.say (gS Ks.length))).symm▸hq0.l;have hsl:s.nl.ln.length<cX:=by
  have h2:(s.nl.say (gS Ks.length)).ln.length≤(tV s Ks.length kept).ln.length:=(dy (cK kept) (s.nl.say (gS Ks.length)))▸ah ..;exact aw (aO (iC s.nl (gS Ks.length)▸bq _) h2) (aw hq0.l (by decide))
 apply gv 3 rfl rfl;apply fF 2 rfl;apply dv rfl (gP _) (aa (Nat.min_le_left ..) (aI _));apply bP (Hj hf);apply gv 3 rfl rfl;apply bF 2 rfl;apply bG 2 rfl;exact ac (am (ak _)) (aw (Nat.lt_of_succ_lt hos) (by decide));apply gv 3 rfl rfl;apply fM (k:=s.op.length+1) 2 rfl;exact (bK ..).trans (ae (·+1) (ak _));apply gv 3 rfl rfl;apply iR 4 rfl e1;apply bF 1 rfl;apply fM (k:=Ks.length) (i1+5) e2;exact (ak _).trans hlk;apply bG 1 rfl;exact hsl;apply bJ;intro gd
 let here:=bC (s.op.length+1:Nat)
 let r:=(oa,bO.list ((s.op++[f]).map .int))::(wa,.dS [(jc,.loc ga),(jU,.loc oa)])::(ga,.dI fK)::R
 let gl:=((Gl.call f (cK (kept++hd))).rn ρ).av
 have hvl:(Tm.avs (Tm.rnL ρ (cK (kept++hd)))).length=(kept++hd).length:=(ae List.length (Bs ..)).trans (ak _);refine At.pk [1,1] (At.eq (ae (λ z=>qj nd la ((s.nl.say (gS Ks.length)).enc ρ) ((gd,.dI [])::(oa,bO.list z)::(wa,.dS [(jc,.loc ga),(jU,.loc oa)])::(ga,.dI fK)::R)) (cb AV.int s.op f)) ?_);refine lI (oaX ρ (tV s Ks.length kept) hv gl 101000 here nd la wa lf gd r) (kept++hd) ⟨[],⟨s.nl.say (gS Ks.length),.none⟩⟩ rfl ⟨rfl,rfl,rfl,rfl,rfl,rfl,rfl,rfl,trivial⟩ hvl (ac (am hvl) (aw hl' (by decide))) ⟨rfl,xM.start hnd hh _,hk,lmA hn hl'⟩ (λ pre y post x he hP=>?_) λ x hP=>?_
 ·obtain⟨x',hs,hp,hv⟩:=hP.p.step;have hyρ:y∈ρ:=ht y (fv he);have hxl:x.dn.length=pre.length:=ae List.length hP.d;have hgl:(zN (gF (tV s Ks.length kept).nm) 0 x.dn).length<cX:=(Hq ..).symm▸hxl▸aw (aw (JZ he) hl') (by decide);have hgd:cn (zN (gF (tV s Ks.length kept).nm) 0 x.dn) (pre.length:Nat) (gF (tV s Ks.length kept).nm y)=zN (gF (tV s Ks.length kept).nm) 0 (x.dn++[y]):=Hu ((aU _).trans hxl);have he':=(ao pre [y] post).trans he;have hd':x.dn++[y]=pre++[y]:=ae (·++[y]) hP.d;apply eR ((ae (wj · _) (Bs ..)).trans (mI he));rcases hs with⟨h1,h2⟩|⟨h1,h2⟩
  ·refine z7 (λ q hB=>?_) ?_
   ·have hnv:=h2 ((w7 he).mp (hvl▸q));obtain⟨j,hj⟩:∃ j,(bM (x.x.nl.enc ρ).nm (cy ρ y:Nat)).getD (.int 0)=.int j:=by
     rw[iD hyρ hP.k];cases e:bM x.x.nl.nm y with
     |none=>exact⟨0,rfl⟩
     |some v=>exact hnv v e
    apply l8 0 rfl .dI;apply pC 0;rfl;exact hj;exact hB
   ·have hl2:x.x.nl.ln.length+1<100000:=oS x.x.nl y▸ac hp.len hq0.l;have hE:=rM hyρ hP.k;have hk':=CG hyρ hP.k;refine eV L n (t:=.v (cy ρ y:Nat)) (s:=x.x.nl.enc ρ) (aw Nat.zero_lt_one hv1) ⟨?_,hl2⟩ ?_
    ·exact ac (aa (am (ae (·+1) (sV ..))) (aP (aV _) _)) (aw hP.n (by decide))
    ·refine At.eq (ae (qj nd la · _) hE.e.symm) ?_;apply iR 0 rfl;exact (iD hyρ hk').trans hv;apply iK 2 rfl;exact hgl;refine n5 ⟨x.dn++[y],⟨x.x.nl.var y,.none⟩⟩ he' (ae (λ z=>qj nd la ((x.x.nl.var y).enc ρ) ((gd,bO.dI z)::r)) hgd.symm) ⟨rfl,rfl,rfl,rfl,rfl,rfl,ae some h1,rfl,trivial⟩ ⟨hd',hp,hk',lmB hP.n (rR ..)⟩
  ·apply bQ;exact hvl▸(w7 he).mpr h1;have hv':=(iD hyρ hP.k).trans hv;apply l8 0 rfl .dI;apply pC 0;rfl;exact ae (Option.getD · _) ((iD hyρ hP.k).trans h2);apply iR 0 rfl hv';apply iK 2 rfl;exact hgl;rename_i vs;have hvs:AV.tup vs=gF (tV s Ks.length kept).nm y:=aA (h2.symm.trans hv);refine n5 ⟨x.dn++[y],⟨x.x.nl,.tup vs⟩⟩ he' (ae (λ z=>qj nd la (x.x.nl.enc ρ) ((gd,bO.dI z)::r)) hgd.symm) ⟨rfl,rfl,rfl,rfl,rfl,rfl,ae some hvs.symm,rfl,trivial⟩ ⟨hd',hp,hP.k,ac (aP (aM _) _) hP.n⟩
 ·obtain⟨dn,x⟩:=x;obtain rfl:dn=kept++hd:=hP.d;obtain rfl:x=⟨tV s Ks.length kept,hv⟩:=hP.p.fin;apply fM (k:=Ks.length) (i1+6) e2;exact (ak _).trans hlk
  let R':=(nd,bO.dI (enc ρ (tV s Ks.length kept).nm))::(gd,.dI (zN (gF (tV s Ks.length kept).nm) 0 (kept++hd)))::R
  have hKl:Ks.length<cX:=ac (aa (aC ..) (hb.len hm)) (aw hq1.l (by decide));refine At.pk [1,2,2,2,0,0] (lI (obX rd (jg (tV s Ks.length kept).nm (kept++hd)) here (cK (kept++hd)) q [(0,gl),(1,.loc nd),(2,.loc la),(3,.loc wa),(4,here),(5,.loc lf),(6,hv),(7,.loc gd)] la oa wa ga fK R') Ks ((tV s Ks.length kept).ln,s.op++[f]) rfl ⟨rfl,rfl,rfl,rfl,rfl,rfl,rfl,rfl,trivial⟩ rfl hKl ⟨hb⟩ (λ pre K post x he hP=>?_) λ x hP=>?_)
  ·obtain⟨h1⟩:=hP;generalize hgk:K::post=kk at h1;rcases h1 with _|⟨hka,hrd,hrest⟩
   ·cases hgk
   cases hgk;rename_i ln op q1;obtain⟨k,dx,gla,hk1,hK⟩:=hks pre.length K (IN he);have hq1':qA q1:=hq1.mo (hrest.mo hm);have hql:ln.length<cX:=cw (au _) (hq1'.mo (qd.trans (hm hrd))).l;apply bF 0 rfl;apply bG 0 rfl hql;have hx:wj (ks.map AV.loc) (pre.length:Nat)=some (.loc k):=ya hk1;obtain⟨ik,ek⟩:=hK.i;obtain⟨ix,ex⟩:=hK.d;apply cZ (i1+6) e2 hx;apply bS (ik+6) (ix+6) ek ex rfl;have hp:nX (kept++hd) K.rho:=by
    unfold KR.rho;rw[hka,ft];exact Cj hnd
   have hka':Tm.avs (Tm.rnL K.rho K.args)=(List.range (kept++hd).length).map λ i:Nat=>(Tm.v i).av:=hka▸HN hnd hp;apply GP (n:=(kept++hd).length) (λ i=>(Tm.v i).av) (ae Int.ofNat hvl) (aw hl' (by decide)) (λ i ω K h=>h);intro b;apply uz 0 rfl;apply gH
   ·exact hka'▸l7 λ ω=>rfl
   ·exact l7 λ ω=>rfl
   ·exact aa (Nat.min_le_right ..) (aa (aD (uV (d:=1) λ ω=>au 1)) (by decide))
   apply bQ (ae AV.tup hka');apply cZ (i1+7) e2 hx;apply HB 6 rfl;intro gn;refine At.rm [1] (At.eq (ae (λ z=>(gn,bO.dI z)::_) (zq (nm:=(tV s Ks.length kept).nm) hnd hp)) ?_);refine hr hrd ?_ hK.cons.cons hg.cons.cons (fW _) hq1' λ E'=>?_
   ·rw[wD,hka,ft];exact (ul (ρ:=[]) hnd).symm
   ·exact At.drop1 (n5 q1 ((ao pre [K] post).trans he) rfl ⟨rfl,rfl,rfl,rfl,rfl,rfl,rfl,rfl,trivial⟩ ⟨(bK pre K).symm▸hrest⟩)
  ·obtain⟨h1⟩:=hP;generalize hgk:[]=kk at h1;rcases h1 with _|⟨hka,hrd,hrest⟩
   ·apply bF 0 rfl;apply bG 0 rfl;exact cw (au _) hq1.l;exact At.pk [4] (At.rm [5] hQ)
   ·cases hgk
end
mutual
theorem Ba (ρ:List Int):∀ t:Tm,(t.rn ρ).ht=t.ht
 |.v _=>rfl
 |.a _=>rfl
 |.i _=>rfl
 |.s _ as=>ae (·+1) (tu ρ as)
theorem tu (ρ:List Int):∀ l:List Tm,Tm.htL (Tm.rnL ρ l)=Tm.htL l
 |[]=>rfl
 |t::r=>show max (t.rn ρ).ht (Tm.htL (Tm.rnL ρ r))=max t.ht (Tm.htL r)from congr (ae max (Ba ρ t)) (tu ρ r)
end
structure ZJ where
 c:Bool
 s:RS
structure RcP (rd:p7)(G:Int→Option (List KR))(h:AV)(pl:Nat)(vs:List Int)(fin:RS)(pre post:List Gl)(x:ZJ):Prop where
 r:ej rd G h pl pre.length x.c x.s post fin
 k:keys x.s.nl.nm=cM [] (vs++gI pre)
noncomputable def So (k nd la wa:Addr)(h:AV)(pl:Nat)(c:Bool):List (Nat×AV):=[(0,.loc k),(1,.loc nd),(2,h),(3,.int pl),(4,.loc la),(5,.loc wa),(6,.bool c)]
noncomputable def Z0 (K:KR)(nd la oa wa ga:Addr)(fK:Nm)(R:List bT)(s:RS):List bT:=(nd,.dI (enc K.rho s.nl.nm))::IP la oa wa ga fK s.lo R
noncomputable def ZY (rd:p7)(G:Int→Option (List KR))(K:KR)(h:AV)(pl:Nat)(fin:RS)(k nd la oa wa ga:Addr)(fK:Nm)(R:List bT):zL Gl ZJ:=⟨λ x=>So k nd la wa h pl x.c,λ x=>Z0 K nd la oa wa ga fK R x.s,RcP rd G h pl (Tm.varsL K.args) fin⟩
theorem rD (a b:List Gl):gI (a++b)=gI a++gI b:=by
 induction a with|nil=>rfl|cons g r ih=>exact (ae (g.vars++·) ih).trans (ao ..).symm
theorem xn {ρ:List Int}{E:Nm}(h:keys E=ρ)(hn:ρ.Nodup):(enc ρ E).map (λ p=>AV.int p.1)=jN ρ.length:=by
 have h1:(enc ρ E).map (λ p=>AV.int p.1)=(keys E).map λ k=>AV.int (cy ρ k:Nat):=by
  show (E.map _).map _=(E.map _).map _;rw[List.map_map,List.map_map];rfl
 rw[h]at h1;exact h1.trans (xU hn .rfl')
theorem xk (n:Nat):AV.pls (jN n)=true:=l7 λ ω=>rfl
theorem Et (n:Nat):AV.deps (jN n)≤0:=uV λ ω=>au _
theorem s9 {nm:Nm}{k:Int}{v:AV}(h:bM nm k=some v):k∈keys nm:=(eD ..).mp (h▸rfl)
theorem FO {h:AV}{v:AV}(b:e6 h):min v.dep h.dep≤50:=aa (Nat.min_le_right ..) (aa b.dep (by decide))
theorem WN {ρ:List Int}{s s':NL}{ts:List Tm}(e:spellL (Tm.rnL ρ ts) (s.enc ρ)=s'.enc ρ)(hn:s.nm.length<100000)(hl:s'.ln.length<100000):SpOK (s.enc ρ) (Tm.szL (Tm.rnL ρ ts)):=by
 have h:(s.enc ρ).ln.length+Tm.szL (Tm.rnL ρ ts)<100000:=(dy ..).symm▸e▸hl;exact⟨(sV ρ s.nm).symm▸aO (Nat.add_lt_add hn (ac (aC ..) h)) (by decide),h⟩
theorem zH.grp {rd:p7}{G:Int→Option (List KR)}{f:Int}{ts:List Tm}{s s':RS}(h:zH rd G f ts s s'):∃ Ks,G f=some Ks:=by
 rcases h with⟨_,_,_,h,_⟩;exact⟨_,h⟩
theorem w8 (l:List Int):∀ s:NL,keys (spellL (cK l) s).nm=cM (keys s.nm) l:=by
 induction l with
 |nil=>exact λ ω=>rfl
 |cons y r ih=>
  intro s;refine (ih (s.var y)).trans (ae (cM · r) ?_);cases e:bM s.nm y with
  |some v=>rw[cO e];exact (d7 (s9 e)).symm
  |none=>rw[cU e];exact mP ..
theorem zH.keys {rd:p7}{G:Int→Option (List KR)}{f:Int}{ts:List Tm}{s s':RS}(h:zH rd G f ts s s'):keys s'.nl.nm=cM (keys s.nl.nm) (Tm.varsL ts):=by
 rcases h with⟨kept,hd,hv,_,_,_,hh,_⟩
 refine (w8 kept _).trans ?_;rw[ft,dR];rcases hh with h|h
 ·rfl
 ·exact (DB λ x hx=>jW (.inl (aj hx▸s9 h))).symm
section
variable {J:JT}(L:eZ J){G:Int→Option (List KR)}{rd:p7}
include L
set_option tactic.hygienic true in
theorem Ie {n:Nat}(hr:yi J (n+17) G rd)(hm:∀ {K E h i q q'},rd K E h i q q'→Mo q q'):yi J (n+19) G λ K E h pl q q'=>TT K∧∃ E',ej rd G h pl 0 false ⟨⟨E,q.1⟩,q.2⟩ K.goals ⟨⟨E',q'.1⟩,q'.2⟩:=by
 rintro K E h pl q q' k nd la oa wa ga dx gl fK R Q ⟨hK,E',hR⟩ hE hI hG hb hq hQ
 refine L.law_read (n+18) _ _ Q rfl ?_;obtain⟨⟨ik,ek⟩,⟨ix,ex⟩,⟨ig,eg⟩⟩:=hI;have hρ:cM [] (Tm.varsL K.args++gI K.goals)=K.rho:=rfl;have hfin:qA (RS.mk ⟨E',q'.1⟩ q'.2).lo:=hq;have hQ':At ((nd,.dI (enc K.rho (RS.mk ⟨E',q'.1⟩ q'.2).nl.nm))::IP la oa wa ga fK (RS.mk ⟨E',q'.1⟩ q'.2).lo R) (Q .none):=hQ _;generalize (RS.mk ⟨E',q'.1⟩ q'.2)=fin at hR hfin hQ';apply bS (ik+5) (ix+5) ek ex rfl;apply fM (k:=K.goals.length) (ig+5) eg (ak _);refine lI (ZY rd G K h pl fin k nd la oa wa ga fK R) K.goals ⟨false,⟨⟨E,q.1⟩,q.2⟩⟩ rfl ⟨rfl,rfl,rfl,rfl,rfl,rfl,rfl,trivial⟩ rfl (aw hK.f.l (by decide)) ⟨hR,hE.trans (ae (cM []) (aq _).symm)⟩ (λ pre g post x he hP=>?_) λ x hP=>?_
 ·obtain⟨c,s⟩:=x;obtain⟨hP,hk⟩:=hP;have hev:cM (cM (keys s.nl.nm) g.vars) (gI post)=K.rho:=by
   rw[hk,←dR,←dR,←hρ,←he,rD,ao];rfl
  have hkr0:∀ z∈cM (keys s.nl.nm) g.vars,z∈K.rho:=λ z hz=>hev▸jW (.inl hz);have hgv:∀ z∈g.vars,z∈K.rho:=λ z hz=>hkr0 z (jW (.inr hz));have hkr:∀ z∈keys s.nl.nm,z∈K.rho:=λ z hz=>hkr0 z (jW (.inl hz));have hn:s.nl.nm.length<100000:=ac (aa (am (A1 s.nl.nm).symm) (hev▸((g7 g.vars _).trans (g7 (gI post) _)).len)) hK.f.r;have hnl:(enc K.rho s.nl.nm).length<cX:=(sV ..).symm▸aw hn (by decide);have hsl:s.nl.ln.length<cX:=cw (au _) (hfin.mo (hP.mo hm)).l;have hgh:g.ht≤15:=hK.h g (fv he);have hko:∀ {s':NL},keys s'.nm=cM (keys s.nl.nm) g.vars→keys s'.nm=cM [] (Tm.varsL K.args++gI (pre++[g])):=λ h=>by
   rw[h,hk,←dR,rD,ao];exact ae (λ z=>cM [] (_++(_++z))) (aq _).symm
  have go:∀ i c' s',pre.length=i→ej rd G h pl (i+1) c' s' post fin→keys s'.nl.nm=cM (keys s.nl.nm) g.vars→∀ S m,mO m (So k nd la wa h pl c')→At (Z0 K nd la oa wa ga fK R s') (qh (ZY rd G K h pl fin k nd la oa wa ga fK R) K.goals (pre++[g]) post S .next m):=λ i c' s' hi h1 h2 S m h3=>
   n5 ⟨c',s'⟩ ((ao pre [g] post).trans he) rfl h3 ⟨(bK pre g).symm▸hi▸h1,hko h2⟩
  have hln:∀ {i c' s'},ej rd G h pl i c' s' post fin→qA s'.lo:=λ h1=>hfin.mo (h1.mo hm);apply bS (ik+5) (ix+5) ek ex rfl;apply cZ (ig+5) eg (mI he);dsimp only at hP;generalize hgk:g::post=gs at hP;generalize hi:pre.length=i at hP;rcases hP with _|⟨h1,h2⟩|⟨h1,h2⟩|h1|⟨h1,h2,h3,h4⟩|h1|h1|⟨h1,h2⟩|⟨h1,h2⟩|h1
  ·cases hgk
  all_goals cases hgk
  ·rename_i y;have hy:=hgv y (af ..);have hg:=iD hy hkr;rw[h1]at hg;apply lR 0 rfl;apply bP (λ q=>nomatch hg▸q);apply bP (λ q=>absurd q (by decide));apply iK 0 rfl hnl;refine At.eq (ae (λ z=>(nd,bO.dI z)::_) (rU hy hkr).symm) ?_;exact go 0 c _ hi h2 (mP ..) _ _ ⟨rfl,rfl,rfl,rfl,rfl,rfl,rfl,trivial⟩
  ·rename_i y;have hy:=hgv y (af ..);have hg:=iD hy hkr;rw[h1]at hg;apply lR 0 rfl;apply bP (λ q=>nomatch hg▸q);apply iK 0 rfl hnl;refine At.eq (ae (λ z=>(nd,bO.dI z)::_) (rU hy hkr).symm) ?_;exact go _ c _ hi h2 (mP ..) _ _ ⟨rfl,rfl,rfl,rfl,rfl,rfl,rfl,trivial⟩
  ·apply bF 1 rfl;apply bG 1 rfl hsl;exact go _ _ _ hi h1 rfl _ _ ⟨rfl,rfl,rfl,rfl,rfl,rfl,rfl,trivial⟩
  ·rename_i y vs;have hy:=hgv y (af ..);have hg:=iD hy hkr;rw[h1]at hg;apply l8 0 rfl .dI;apply pC 0 rfl (ae (Option.getD · _) hg);apply bF 1 rfl;apply gH (show (AV.tup vs).pl=true from h2) hb.pl (FO hb);refine z7 (λ q hB=>?_) ?_
   ·have:=h3 q;subst this;exact hB
   apply bG 1 rfl hsl;exact go _ _ _ hi h4 (d7 (s9 h1)).symm _ _ ⟨rfl,rfl,rfl,rfl,rfl,rfl,rfl,trivial⟩
  ·apply bF 1 rfl;apply bG 1 rfl hsl;exact go _ _ _ hi h1 rfl _ _ ⟨rfl,rfl,rfl,rfl,rfl,rfl,rfl,trivial⟩
  ·rename_i x y;have hv:Tm.varsL [x,y]=x.vars++y.vars:=ae (x.vars++·) (aq _);have E:=fO [x,y] (s:=s.nl.say (.str dr)) (λ z hz=>hgv z (show z∈x.vars++y.vars from hv▸hz)) hkr;have hz:=WN E.e hn (hln h1).l;apply bF 1 rfl;apply bG 1 rfl hsl;refine eV L (n+18) (t:=x.rn K.rho) (s:=(s.nl.say (.str dr)).enc K.rho) ((Ba K.rho x).symm▸og 18 (aa (bc ..) hgh) (by decide)) (hz.le (ah ..)) ?_;refine eV L (n+18) (t:=y.rn K.rho) (s:=spell (x.rn K.rho) ((s.nl.say (.str dr)).enc K.rho)) ((Ba K.rho y).symm▸og 18 (aa (Nat.le_max_right ..) hgh) (by decide)) (hz.next (i7 ..) (lS ..)) ?_;refine At.eq (ae (qj nd la · _) E.e.symm) ?_;exact go _ _ _ hi h1 (E.k.trans (ae (cM _) hv)) _ _ ⟨rfl,rfl,rfl,rfl,rfl,rfl,rfl,trivial⟩
  ·rename_i f ts s1;obtain⟨Ks,hKs⟩:=h1.grp;obtain⟨lf,ks,e1,_⟩:=hG.s f Ks hKs;apply gv 3 rfl rfl;apply lR 4 rfl;apply bQ (e1▸rfl);refine I4 L hr hm h1 hgv hkr hG (hln h2) hn (hK.n _ (fv he)) (aO (by decide) (aC 17 n)) ?_;exact go _ _ _ hi h2 h1.keys _ _ ⟨rfl,rfl,rfl,rfl,rfl,rfl,rfl,trivial⟩
  ·rename_i f ts;have E:=fO ts (s:=s.nl.say (.tup [.str cG,.int f])) hgv hkr;have hz:=WN E.e hn (hln h2).l;apply gv 3 rfl rfl;apply lR 4 rfl;apply bP (λ q=>nomatch hG.n f h1▸q);apply bF 1 rfl;apply bG 1 rfl hsl;refine qF L (as:=Tm.rnL K.rho ts) (s:=(s.nl.say (.tup [.str cG,.int f])).enc K.rho) (M:=(9,.str cG)::So k nd la wa h pl c) ⟨rfl,rfl,rfl,rfl,rfl,rfl,rfl,rfl,trivial⟩ (λ ω=>⟨rfl,rfl,rfl,rfl,rfl,rfl,rfl,rfl,trivial⟩) (λ t s S ht hz h=>eV L _ (og 18 ht (by decide)) hz h) ((tu K.rho ts).symm▸hgh) hz ?_;refine At.eq (ae (qj nd la · _) E.e.symm) ?_;cases c<;>exact go _ true _ hi h2 E.k _ _ ⟨rfl,rfl,rfl,rfl,rfl,rfl,rfl,trivial⟩
  ·rename_i f ts;have E:=fO ts (s:=s.nl.say (.tup [.str dY,.int f])) hgv hkr;have hz:=WN E.e hn (hln h1).l;apply bF 1 rfl;apply bG 1 rfl hsl;refine qF L (as:=Tm.rnL K.rho ts) (s:=(s.nl.say (.tup [.str dY,.int f])).enc K.rho) (M:=(9,.str dY)::So k nd la wa h pl c) ⟨rfl,rfl,rfl,rfl,rfl,rfl,rfl,rfl,trivial⟩ (λ ω=>⟨rfl,rfl,rfl,rfl,rfl,rfl,rfl,rfl,trivial⟩) (λ t s S ht hz h=>eV L _ (og 18 ht (by decide)) hz h) ((tu K.rho ts).symm▸hgh) hz ?_;refine At.eq (ae (qj nd la · _) E.e.symm) ?_;cases c<;>exact go _ _ _ hi h1 E.k _ _ ⟨rfl,rfl,rfl,rfl,rfl,rfl,rfl,trivial⟩
 ·obtain⟨c,s⟩:=x;obtain⟨hP,hk⟩:=hP;dsimp only at hP hk;generalize hgk:[]=gs at hP;generalize hi:K.goals.length=i at hP;rcases hP with _|⟨h1,h2⟩|⟨h1,h2⟩|h1|⟨h1,h2,h3,h4⟩|h1|h1|⟨h1,h2⟩|⟨h1,h2⟩|h1
  ·apply BQ 0 rfl;apply bJ;intro b1;apply bS (ik+6) (ix+6) ek ex rfl;apply Jj (aw hK.f.r (by decide));intro b2;have hkk:=hk.trans hρ;apply qL 1 0 rfl rfl
   ·rw[xn hkk (x9 _ .nil)];exact xk _
   ·exact xk _
   ·exact aa (Nat.min_le_right ..) (aa (Et _) (aI _))
   apply bQ (xn hkk (x9 _ .nil));exact At.drop2 hQ'
  all_goals cases hgk
end
theorem XN {J:JT}(L:eZ J)(G:Int→Option (List KR)):∀ d,yi J (2*d+17) G (tC G d):=by
 intro d
 induction d with
 |zero=>exact λ h=>h.elim
 |succ d ih=>exact λ h=>Ie L (n:=2*d) ih tC.mo h
noncomputable def lN (js:List Int):Tm×Sy:=match js with
 |[]=>(.a (sT.atom p4).1,(sT.atom p4).2)
 |_::_=>(.s (sT.func p4 js.length).1 (cK js),(sT.func p4 js.length).2)
theorem EP:oo.func gt 1=(tT,sT):=by kernel_rfl
theorem Fb:sT.ts.length=30∧sT.fs.length=33:=by decide+kernel
structure ZG (s:Sy):Prop where
 g:zE sT s
 X:fP oo s
theorem Os (js:List Int):ZG (lN js).2:=by
 have h0:fP oo sT:=⟨⟨_,rfl⟩,⟨_,rfl⟩⟩;rcases js with _|⟨j,js⟩
 ·have h:=nC sT p4;exact⟨h,h0.trans h.x⟩
 ·have h:=nD sT p4 ((j::js).length);exact⟨h,h0.trans h.x⟩
theorem K2 {js:List Int}(h:js.length≤2):Aa (lN js).1:=by
 rcases js with _|⟨j,js⟩
 ·exact .a _
 ·exact .s _ _ h
theorem RM (js:List Int):KG (lN js).1=cK js:=by rcases js with _|⟨j,js⟩<;>rfl
theorem P6 (js:List Int):AV.pls (Tm.avs (cK js))=true:=vV _
section
variable {J:JT}
theorem Ff {l:List bT}{n m:Nat}{f:Addr}{Q:bI}{vs:List AV}(hM:∀ {n m f vs σ Q},n≤m→J n f vs σ Q→J m f vs σ Q)(hn:n≤m)(h:At l (bR J n f Q vs)):At l (bR J m f Q vs):=λ σ ho=>by
 have:=h σ ho;unfold bR at this⊢;exact hM hn this
noncomputable abbrev lp (J:JT)(cc cs cl:Addr):En:=⟨J,70,[(iE,cc),(di,cs),(gY,cl)],λ ω=>no⟩
variable (L:eZ J)
include L
theorem Ki {cc cs cl:Addr}{m:bB}{Q:bI}{A:sO}{js:List Int}{r:List bT}{i:Nat}(hj:js.length≤2)(hm:m 5=some (.tup (Tm.avs (cK js))))(hi:eH r i=some (cs,.cell (some (.loc A.obj))))(h:At (cF A (lN js).2++r) (Q (lN js).1.av)):
  At (cF A sT++r) ((cW (lp J cc cs cl) (.ife (.cmp .NotEq (.lv 5) (.tup [])) (.tup [.str jL,.meth 154 (.cv di) iJ 109 [.str p4,.len (.lv 5)],.lv 5]) (.tup [.str lb,.meth 154 (.cv di) nE 88 [.str p4]]))).1 m Q):=by
 apply eR hm;refine gH (v:=.tup (Tm.avs (cK js))) (y:=.tup []) (P6 js) rfl (aa (Nat.min_le_right ..) (by decide)) ?_;have hz:=Fb;rcases js with _|⟨j,js⟩
 ·apply bQ rfl;apply dh (i+6) hi;apply cj 0 1 rfl rfl rfl;refine sQ L (n:=69) (s:=sT) (by rw[hz.1];decide) ?_;exact h
 ·refine bP (λ e=>?_) ?_
  ·have e:AV.tup ((Tm.v j).av::Tm.avs (cK js))=.tup []:=e;injection e with e;cases e
  apply dh (i+6) hi;apply cj 0 1 rfl rfl rfl;apply eR hm;have e:((Tm.avs (cK (j::js))).length:Int)=((j::js).length:Nat):=ae Int.ofNat ((dk _).trans (ak _));refine At.eq rfl ?_;show At _ (bR J 70 109 _ [.loc A.obj,.str p4,.int ((Tm.avs (cK (j::js))).length:Nat)]);rw[e];refine j7 L (n:=68) (s:=sT) (by rw[hz.1];decide) (by rw[hz.2];decide) ?_;apply eR hm;exact h
end
structure QX (fo:Int)(js:List Int)(bd:Bd)(ks:List KR)(p':PS):Prop where
 f0:0≤fo
 f5:fo<5
 jl:js.length≤2
 jb:∀ j∈js,0≤j∧j<4
 bo:∃ s3 ρ' li,rX false 4 (lN js).2 7 bd s3 ρ'∧nN (xh (lN js).1 bd fo s3 li) p'.work.length ks p'
theorem Qu {s:Sy}(h:ZG s):s.fs.length≤34∧s.ts.length≤31:=by
 have h1:=h.g.f;have h2:=h.g.t;have hz:=Fb;lia
theorem Op {a:Nat}(h:a≤34):a+4*7<500:=by lia
theorem L4 {a s ρ:Nat}(h:a+2*ρ≤s+1+2*7)(hs:s≤34):a<800:=by lia
theorem TO {a ρ:Nat}(h:a+10*ρ≤4+10*7):a<900:=by lia
theorem S6 {a ρ:Nat}{fo:Int}(h:a+4*ρ≤1+4*7)(hf:fo<5):fo+(a:Int)<100:=by lia
theorem aan {n:Nat}{k:Int}(h:(n:Int)<k)(hk:k<3):n+1≤2:=by lia
section
variable {J:JT}{T:iL}(L:r8 J T)(hM:∀ {n m f vs σ Q},n≤m→J n f vs σ Q→J m f vs σ Q)
include L hM
theorem IU {cc cs cl la:Addr}{its:Array PySem.Value}{k:Nat}{is:List Int}{e:List bT}{m:bB}{S:cm}(he:T.st e)(m0:m 0=some (.loc la))
  (H:∀ m' fo js bd ks p' A ca kl fr fdx As e',T.st e'→QX fo js bd ks p'→As.length=ks.length→m' 3=some (.int tT)→m' 5=some (.tup (Tm.avs (cK js)))→m' 7=some (dX bd)→m' 8=some (.loc fr)→m' 9=some (.loc kl)→m' 0=some (.loc la)→
   At (cF A p'.sy++((kl,.list (nr As))::(fr,.inst 289 fdx)::(fdx,.ns [(eM,.int p'.fo)])::(la,.lF its k (is.map .int))::(cc,.cell (some (.loc ca)))::(cs,.cell (some (.loc A.obj)))::(cl,.cell (some (.int fo)))::(tU As ks++e'))) (cA (lp J cc cs cl) (eN.drop 9) m' S)):
  At ((cc,.cell none)::(cs,.cell none)::(cl,.cell none)::(la,.lF its k (is.map .int))::e) (cA (lp J cc cs cl) eN m S):=by
 have hz:=Fb;apply eR m0;refine At.pk [3] (Dw L.law (n:=69) (ob:=.lF its k (is.map .int)) .lF λ ca c0=>?_);apply rV 2 rfl;refine zu L.law (n:=65) λ A=>?_;apply rV 9 rfl;apply dh 9 rfl;apply cj 0 1 rfl rfl rfl;refine j7 L.law (n:=68) (s:=oo) (by decide) (by decide) ?_;rw[EP];apply dh 8 rfl;refine jr L.law (n:=69) (s:=sT) (ca:=ca) (sd:=5) (by decide) λ fo c1 f0 f5=>?_;apply rV 10 rfl;apply dh 8 rfl;refine jr L.law (n:=69) (s:=sT) (ca:=ca) (sd:=3) (by decide) λ ja c2 j0 j3=>?_
 let r:List bT:=(la,.lF its k (is.map .int))::(cc,.cell (some (.loc ca)))::(cs,.cell (some (.loc A.obj)))::(cl,.cell (some (.int fo)))::e
 refine λ σ ho=>?_;show uL _ _ _ σ;unfold uL;refine⟨j0,Int.lt_trans j3 (by decide),λ vs σ'=>∃ js c,vs=Tm.avs (cK js)∧(∀ j∈js,0≤j∧j<4)∧fH σ' (cF A sT++(qp ca c::r)),⟨[],c2,rfl,nofun,ho⟩,?_,?_⟩
 ·rintro vs σ' hlt ⟨js,c,rfl,hj,ho⟩
  refine (?_:At (cF A sT++(qp ca c::r)) _) σ' ho;apply dh 8 rfl;refine jr L.law (n:=69) (s:=sT) (ca:=ca) (sd:=4) (by decide) λ j c' h0 h4=>λ σ ho=>⟨js++[j],c',?_,λ x hx=>(eh.mp hx).elim (λ e=>e▸⟨h0,h4⟩) (hj x),ho⟩;show Tm.avs (cK js)++[(Tm.v j).av]=Tm.avs ((js++[j]).map Tm.v);rw[aN];exact (ez _ [Tm.v j]).symm
 rintro vs σ' hlt ⟨js,c,rfl,hj,ho⟩
 have hl:js.length≤2:=by
  have h1:(Tm.avs (cK js)).length=js.length:=(dk _).trans (ak _);rw[h1]at hlt;lia
 refine (?_:At (cF A sT++(qp ca c::r)) _) σ' ho;clear ho hlt;refine bJ λ l1=>?_;apply uz 0 rfl;refine At.drop1 (Ki L.law (i:=3) hl rfl rfl ?_);have hg:=Os js;have hlz:=Qu hg;apply dh 8 rfl;apply dh 9 rfl;refine bJ λ ra=>?_;refine At.pk [1,1,1,1,1,1,1] (Ff hM (n:=8) (Nat.le_of_ble_eq_true rfl) (JI L.law 4 (s:=(lN js).2) (dn:=false) (ρ:=7) (ca:=ca) (ra:=ra) (r:=r) hg.X (Op hlz.1) (Op (aa hlz.2 (by decide))) λ bd c' s3 ρ' hB=>?_));apply dh 11 rfl;refine vU L.law (n:=68) λ fr fdx=>?_;apply dh 12 rfl;refine bJ λ il=>?_;refine At.pk [1,1] (At.rm [9,9] (At.perm (l':=(fr,.inst 289 fdx)::(fdx,.ns [(eM,.int fo)])::(il,.dI [(tT,.bool true)])::(cF A s3++(e++((la,.lF its k (is.map .int))::(cc,.cell (some (.loc ca)))::(cs,.cell (some (.loc A.obj)))::(cl,.cell (some (.int fo)))::[])))) ?_ ?_))
 ·show List.Perm _ ((fr,.inst 289 fdx)::(fdx,.ns [(eM,.int fo)])::(il,.dI [(tT,.bool true)])::(cF A s3++(((la,.lF its k (is.map .int))::(cc,.cell (some (.loc ca)))::(cs,.cell (some (.loc A.obj)))::(cl,.cell (some (.int fo)))::[])++e)));exact .cons _ (.cons _ (.cons _ (.append_left _ List.perm_append_comm)))
 refine Ff hM (n:=9) (Nat.le_of_ble_eq_true rfl) (uj L (n:=0) (hd:=(lN js).1) (bd:=bd) (K2 hl) ⟨hB.ok,TO hB.sz⟩ (hB.cr.resolve_left nofun) (hg.g.x.trans hB.X) (L4 hB.fs hlz.1) (L4 hB.ts (aa hlz.2 (by decide))) f0 (S6 hB.nd f5) he λ N kl As ks li p' e' hNA hNf hNd hR hAl he'=>?_);subst hNA hNf hNd
 let r4:List bT:=(la,.lF its k (is.map .int))::(cc,.cell (some (.loc ca)))::(cs,.cell (some (.loc N.A.obj)))::(cl,.cell (some (.int fo)))::[]
 refine At.pk [0,0,0,0,0,0,6,3,3] (At.rm [9,9,9,9] (At.perm (l':=cF N.A p'.sy++((kl,.list (nr As))::(N.fr,.inst 289 N.fdx)::(N.fdx,.ns [(eM,.int p'.fo)])::(r4++(tU As ks++e')))) ?_ ?_))
 ·show List.Perm _ (cF N.A p'.sy++((kl,.list (nr As))::(N.fr,.inst 289 N.fdx)::(N.fdx,.ns [(eM,.int p'.fo)])::(e'++(tU As ks++r4))));refine .append_left _ (.cons _ (.cons _ (.cons _ ?_)));exact (List.perm_append_comm (l₁:=r4)).trans ((List.Perm.append_right r4 List.perm_append_comm).trans (List.Perm.of_eq (ao ..)))
 exact H _ fo js bd ks p' N.A ca kl N.fr N.fdx As e' he' ⟨f0,f5,hl,hj,s3,ρ',li,hB,hR⟩ hAl rfl rfl rfl rfl rfl m0
end
noncomputable abbrev yD:NL:=⟨[],[]⟩
noncomputable def kP (js:List Int):NL:=spellL (cK js) yD
noncomputable def zw (js:List Int)(bd:Bd)(sy:Sy):TS:=eK sy tT 20 (bZ bd (bC 0)) ⟨kP js,0⟩
theorem zZ {sy:Sy}(h:fP sT sy):jo sy:=λ n hn=>h.fs.subset (by rcases ap hn with e|e;exact e▸(by decide);exact aj e▸(by decide))
theorem FY (js:List Int):Tm.htL (cK js)≤15:=by
 have:Tm.htL (cK js)=0:=by induction js with|nil=>rfl|cons j r ih=>exact ih▸rfl
 rw[this];decide
noncomputable abbrev WC (js:List Int)(bd:Bd)(la fr kl du na:Addr):List (Nat×AV):=[(0,.loc la),(3,.int tT),(5,.tup (Tm.avs (cK js))),(7,dX bd),(8,.loc fr),(9,.loc kl),(10,.loc du),(11,.loc na)]
section
variable {J:JT}(L:eZ J)(hM:∀ {n m f vs σ Q},n≤m→J n f vs σ Q→J m f vs σ Q)
include L hM
theorem IV {cc cs cl la fr kl:Addr}{m:bB}{S:cm}{js:List Int}{bd:Bd}{A:sO}{sy:Sy}{R:List bT}{i:Nat}(hj:js.length≤2)(hX:fP sT sy)(hB:BOK sy 20 bd)(hT:TK (kP js) (kC (bZ bd (bC 0))))
  (m3:m 3=some (.int tT)) (m5:m 5=some (.tup (Tm.avs (cK js)))) (m7:m 7=some (dX bd)) (m8:m 8=some (.loc fr)) (m9:m 9=some (.loc kl)) (m0:m 0=some (.loc la)) (hc:eH R i=some (cs,.cell (some (.loc A.obj))))
  (H:∀ du na,At (cF A sy++((du,.list (zw js bd sy).nl.ln)::R)) (cA (lp J cc cs cl) (eN.drop 13) (gK (WC js bd la fr kl du na)) S)):
  At (cF A sy++R) (cA (lp J cc cs cl) (eN.drop 9) m S):=by
 refine bJ λ du=>?_;refine bJ λ na=>?_;apply eR m5;refine qF L (M:=WC js bd la fr kl du na) (na:=na) (la:=du) (s:=yD) (r:=cF A sy++R) ⟨m0,m3,m5,m7,m8,m9,rfl,rfl,trivial⟩ (λ v=>⟨rfl,rfl,rfl,rfl,rfl,rfl,rfl,rfl,trivial⟩) (λ t s S ht hz h=>?_) (FY js) ⟨?_,?_⟩ ?_
 ·exact eV L 70 (ac ht (by decide)) hz h
 ·rw[gx];exact ac (aa (am (aU _)) hj) (by decide)
 ·rw[gx];exact ac (aa (am (aU _)) hj) (by decide)
 refine nH L 70 (t:=bd) (b:=bC 0) (aw hB.ht (by decide)) (ac hB.nd (by decide)) hB.ok λ rl=>?_;apply dh (i+9) hc;refine bJ λ wa=>?_;refine At.pk [2,2,0,1,1,1,1,1,1] (Ff hM (n:=60) (Nat.le_of_ble_eq_true rfl) ?_);refine JA L (zZ hX) (tT:=tT) (by decide) 19 (rows:=bZ bd (bC 0)) (s:=⟨kP js,0⟩) (na:=na) (la:=du) (wa:=wa) (rl:=rl) (A:=A) (r:=R) (eW hB (fW 0)) hT ?_;show At ((na,.dI (zw js bd sy).nl.nm)::(du,.list (zw js bd sy).nl.ln)::(wa,.dS (GG A tT (zw js bd sy).ct))::(cF A sy++((rl,.list (cI (bZ bd (bC 0))))::R))) _;refine At.pk [3,3,3,3,3,3,1] (At.rm [7,7,7] ?_);exact H du na
end
noncomputable abbrev ue:=KA×KR
structure Gr where
 f:Int
 g:Addr
 ps:List ue
noncomputable def fK (G:List Gr):Nm:=G.map λ x=>(x.f,.loc x.g)
noncomputable def gE (G:List Gr):List bT:=G.map λ x=>(x.g,.list (x.ps.map λ p=>.loc p.1.k))
noncomputable def ka (p:ue)(l:Addr):List Gr→List Gr
 |[]=>[⟨p.2.f,l,[p]⟩]
 |x::r=>if x.f=p.2.f then⟨x.f,x.g,x.ps++[p]⟩::r else x::ka p l r
noncomputable def dQ (f:Int):List Gr→Option Gr
 |[]=>none
 |x::r=>if x.f=f then some x else dQ f r
noncomputable def iN (sq:List Int)(f:Int):List Int:=if sq.getLast? =some f then sq else sq++[f]
noncomputable def j6 (kt:List KR):List Int:=(kt.map (·.f)).foldl iN []
noncomputable def cD (kt:List KR)(f:Int):Option (List KR):=match kt.filter (λ K=>K.f==f)with|[]=>none|K::r=>some (K::r)
theorem oR (G:List Gr)(f:Int):bM (fK G) f=(dQ f G).map λ x=>.loc x.g:=by
 induction G with
 |nil=>rfl
 |cons x r ih=>
  show (if x.f=f then some (AV.loc x.g)else bM (fK r) f)=(if x.f=f then some x else dQ f r).map _
  split
  ·rfl
  ·exact ih
theorem qU (p:ue)(l:Addr)(f:Int)(G:List Gr):((dQ f (ka p l G)).map (·.ps)).getD []=((dQ f G).map (·.ps)).getD []++(if p.2.f=f then[p]else[]):=by
 induction G with
 |nil=>
  show ((if p.2.f=f then some (Gr.mk p.2.f l [p])else none).map (·.ps)).getD []=[]++(if p.2.f=f then[p]else[])
  split<;>rfl
 |cons x r ih=>
  unfold ka
  by_cases q:x.f=p.2.f
  ·rw[aL q];unfold dQ
   by_cases w:x.f=f
   ·rw[aL w,aL w,aL (q.symm.trans w)];rfl
   ·rw[aK w,aK w,aK λ e=>w (q.trans e),aq]
  ·rw[aK q];unfold dQ
   by_cases w:x.f=f
   ·rw[aL w,aL w,aK λ e=>q (w.trans e.symm),aq]
   ·rw[aK w,aK w];exact ih
set_option tactic.hygienic true in
theorem SF {f:Int}{x:Gr}:∀ {G:List Gr},dQ f G=some x→x.f=f:=by
 intro G
 induction G with
 |nil=>exact nofun
 |cons y r ih=>
  intro h;unfold dQ at h
  split at h
  ·rename_i q;cases h;exact q
  ·exact ih h
structure GSp (p:ue)(l:Addr)(x:Gr)(G G1 G2:List Gr):Prop where
 e:G=G1++x::G2
 a:ka p l G=G1++⟨x.f,x.g,x.ps++[p]⟩::G2
set_option tactic.hygienic true in
theorem J2 {p:ue}{l:Addr}{x:Gr}:∀ {G:List Gr},dQ p.2.f G=some x→∃ G1 G2,GSp p l x G G1 G2:=by
 intro G
 induction G with
 |nil=>exact nofun
 |cons y r ih=>
  intro h;unfold dQ at h
  split at h
  ·rename_i q;cases h;exact⟨[],r,rfl,aL q⟩
  ·rename_i q;obtain⟨G1,G2,h⟩:=ih h;exact⟨y::G1,G2,ae (y::·) h.e,(aK q).trans (ae (y::·) h.a)⟩
set_option tactic.hygienic true in
theorem Yh {p:ue}{l:Addr}:∀ {G:List Gr},dQ p.2.f G=none→ka p l G=G++[⟨p.2.f,l,[p]⟩]:=by
 intro G
 induction G with
 |nil=>exact λ ω=>rfl
 |cons y r ih=>
  intro h;unfold dQ at h
  split at h
  ·cases h
  ·rename_i q;exact (aK q).trans (ae (y::·) (ih h))
theorem BA {nm:Nm}{k:Int}{v:AV}:bM nm k=none→cn nm k v=nm++[(k,v)]:=by
 induction nm with
 |nil=>exact λ ω=>rfl
 |cons p r ih=>
  intro h
  by_cases q:p.1=k
  ·cases (fT (v:=p.2) (r:=r) q).symm.trans h
  ·exact (aK q).trans (ae (p::·) (ih ((fX (v:=p.2) q).symm.trans h)))
structure KH (dn:List ue)(G:List Gr):Prop where
 p:∀ f,((dQ f G).map (·.ps)).getD []=dn.filter λ p=>p.2.f==f
 n:∀ f x,dQ f G=some x→x.ps≠[]
 l:G.length≤dn.length
theorem Cr (p:ue)(l:Addr)(G:List Gr):(ka p l G).length≤G.length+1:=by
 induction G with
 |nil=>exact au 1
 |cons x r ih=>
  unfold ka
  split
  ·exact aM _
  ·exact aD ih
set_option tactic.hygienic true in
theorem KH.add {dn:List ue}{G:List Gr}(h:KH dn G)(p:ue)(l:Addr):KH (dn++[p]) (ka p l G):=by
 refine⟨λ f=>?_,λ f x hx e=>?_,aa (Cr p l G) (ay (as:=dn) (bs:=[p])▸aD h.l)⟩
 ·rw[qU,h.p,List.filter_append];refine ae ((dn.filter λ p=>p.2.f==f)++·) ?_
  by_cases q:p.2.f=f
  ·rw[aL q];exact (List.filter_cons_of_pos (p:=λ p:ue=>p.2.f==f) (l:=[]) (beq_iff_eq.mpr q:(p.2.f==f)=true)).symm
  ·rw[aK q];exact (List.filter_cons_of_neg (p:=λ p:ue=>p.2.f==f) (l:=[]) λ z:(p.2.f==f)=true=>q (beq_iff_eq.mp z)).symm
 ·have h1:=qU p l f G;rw[hx]at h1;have h1:x.ps=_:=h1;rw[e]at h1;have h2:=List.append_eq_nil_iff.mp h1.symm;have hp:¬ p.2.f=f:=λ q=>by rw[aL q]at h2;exact nomatch h2.2
  cases g:dQ f G with
  |some y=>rw[g]at h2;exact h.n f y g h2.1
  |none=>
   have:∀ {G:List Gr},dQ f G=none→dQ f (ka p l G)=none:=by
    intro G
    induction G with
    |nil=>exact λ ω=>aK hp
    |cons y r ih=>
     intro h;unfold dQ at h
     split at h
     ·cases h
     ·rename_i q;unfold ka
      split
      ·exact (aK q).trans h
      ·exact (aK q).trans (ih h)
   exact nomatch (this g).symm.trans hx
theorem Ix.app {R:List bT}{x:bT}(h:Ix R x)(l:List bT):Ix (l++R) x:=by
 induction l with
 |nil=>exact h
 |cons y r ih=>exact ih.cons
structure GS where
 G:List Gr
 sq:List Int
structure ZS (all ys:List ue)(x:GS)(dn:List ue):Prop where
 e:dn++ys=all
 g:KH dn x.G
 s:x.sq=(dn.map (·.2.f)).foldl iN []
 l:x.sq.length≤dn.length
theorem A5 (sq:List Int)(f:Int):(iN sq f).length≤sq.length+1:=by
 unfold iN;split
 ·exact aM _
 ·exact am (bK sq f)
noncomputable abbrev Jk (js:List Int)(fr kl du gd sa:Addr):List (Nat×AV):=[(5,.tup (Tm.avs (cK js))),(8,.loc fr),(9,.loc kl),(10,.loc du),(13,.loc gd),(14,.loc sa)]
noncomputable def Zk (js:List Int)(fr kl du gd sa sl:Addr)(us:List AV)(all:List ue)(R:List bT):For ue GS:=⟨λ p=>.loc p.1.k,λ ω=>Jk js fr kl du gd sa,λ x=>(sl,.list us)::(sa,.list (x.sq.map .int))::(gd,.dI (fK x.G))::(gE x.G++R),λ ys x=>∃ dn,ZS all ys x dn⟩
theorem Ew {a b c:Nat}(h:a≤b)(hb:b<c)(hc:c<5000):a<cX:=ac h (aw hb (aw hc (by decide)))
theorem zj {sq:List Int}(h:¬ sq.map AV.int=[]):∃ ini x,sq=ini++[x]:=by
 rcases List.eq_nil_or_concat sq with rfl|⟨ini,x,rfl⟩
 ·exact (h rfl).elim
 ·exact⟨ini,x,List.concat_eq_append ..⟩
section
variable {J:JT}
theorem HO {cc cs cl la fr kl du na:Addr}{S:cm}{js:List Int}{bd:Bd}{R:List bT}{A0:KA}{At':List KA}{kt:List KR}{i:Nat}(hl:At'.length=kt.length)(hz:kt.length<5000)
  (hk:eH R i=some (kl,.list (nr (A0::At')))) (hK:∀ p∈At'.zip kt,KIn R p.2 p.1.k p.1.dx p.1.gl)
  (H:∀ gd sa G,KH (At'.zip kt) G→At ((sa,.list ((j6 kt).map .int))::(gd,.dI (fK G))::(gE G++R)) (cA (lp J cc cs cl) (eN.drop 16) (gK (Jk js fr kl du gd sa)) S)):
  At R (cA (lp J cc cs cl) (eN.drop 13) (gK (WC js bd la fr kl du na)) S):=by
 refine bJ λ gd=>?_;refine bJ λ sa=>?_;refine Cf (k:=1) (i+2) hk (by decide) λ sl=>?_;have hus:nr At'=(At'.zip kt).map λ p=>AV.loc p.1.k:=by
  have h1:(At'.zip kt).map (·.1)=At':=List.map_fst_zip (am hl);exact (ae (List.map λ A:KA=>AV.loc A.k) h1.symm).trans List.map_map
 have hzl:(At'.zip kt).length=kt.length:=by rw[List.length_zip,hl];exact Nat.min_self _
 refine fj (Zk js fr kl du gd sa sl (nr At') (At'.zip kt) R) (At'.zip kt) ⟨[],[]⟩ 0 rfl ⟨rfl,rfl,rfl,rfl,rfl,rfl,trivial⟩ hus (λ ω=>rfl) ⟨[],rfl,⟨λ ω=>rfl,nofun,au _⟩,rfl,au _⟩ (λ y ys x hP=>?_) λ x hP=>At.drop1 ?_
 ·obtain⟨dn,hP⟩:=hP;have hy:y∈At'.zip kt:=hP.e▸aF _ (af ..);have hdn:dn.length<kt.length:=by
   have:=ae List.length hP.e;rw[ay,hzl]at this;exact aO (Nat.lt_add_of_pos_right (aV _)) (am this)
  have kin:=hK y hy;obtain⟨i1,e1⟩:=kin.i.app (gE x.G);obtain⟨i2,e2⟩:=kin.d.app (gE x.G);have he':(dn++[y])++ys=At'.zip kt:=(ao ..).trans hP.e;have hsn:∀ {sq},sq=iN x.sq y.2.f→sq=((dn++[y]).map (·.2.f)).foldl iN []:=λ h=>by
   rw[h,aN,List.foldl_append,←hP.s];rfl
  have hln:(dn++[y]).length=dn.length+1:=bK dn y;have rest:∀ sq',sq'=iN x.sq y.2.f→At ((sl,.list (nr At'))::(sa,.list (sq'.map .int))::(gd,.dI (fK x.G))::(gE x.G++R)) (cA (lp J cc cs cl) [.ex (.append (.setdef (.lv 13) (.attr 310 (.lv 15) dc)) (.lv 15))] ((gK (Jk js fr kl du gd sa)).set 15 (.loc y.1.k)) (jP (Zk js fr kl du gd sa sl (nr At') (At'.zip kt) R) ys (kQ (cA (lp J cc cs cl) (eN.drop 16)) S))):=λ sq' hsq=>by
   have hsl:sq'.length≤(dn++[y]).length:=by rw[hsq,hln];exact aa (A5 ..) (aD hP.l)
   apply l8 2 rfl .dI;apply bS (i1+3) (i2+3) e1 e2 rfl;refine Q4 2 rfl (Ew (aa (am (ak _)) hP.g.l) hdn hz) λ b=>?_;have hP':∀ {l},ZS (At'.zip kt) ys ⟨ka y l x.G,sq'⟩ (dn++[y]):=⟨he',hP.g.add y _,hsn hsq,hsl⟩;cases g:dQ y.2.f x.G with
   |some z=>
    obtain⟨G1,G2,sp⟩:=J2 (l:=b) g;have hzp:z.ps.length≤dn.length:=by
     have:=hP.g.p y.2.f;rw[g]at this;exact (show z.ps=_ from this)▸List.length_filter_le ..
    refine JQ ((oR ..).trans (by rw[g];rfl)) (At.drop1 ?_);have e3:gE x.G++R=gE G1++(z.g,.list (z.ps.map λ p=>.loc p.1.k))::(gE G2++R):=by
     rw[sp.e];unfold gE;rw[aN,ao];rfl
    refine At.eq (ae (λ t=>(sl,bO.list (nr At'))::(sa,bO.list (sq'.map .int))::(gd,bO.dI (fK x.G))::t) e3.symm) ?_;refine At.bring (l₁:=[(sl,.list (nr At')),(sa,.list (sq'.map .int)),(gd,.dI (fK x.G))]) (l₂:=gE G1) ?_;apply bF 3 rfl;apply bG 3 rfl;exact Ew (aa (am (ak _)) hzp) hdn hz;refine At.back (l₁:=[(sl,.list (nr At')),(sa,.list (sq'.map .int)),(gd,.dI (fK x.G))]) (l₂:=gE G1) ?_;refine dp ⟨ka y b x.G,sq'⟩ ?_ ⟨rfl,rfl,rfl,rfl,rfl,rfl,trivial⟩ ⟨_,hP'⟩;show (sl,bO.list (nr At'))::(sa,bO.list (sq'.map .int))::(gd,bO.dI (fK (ka y b x.G)))::(gE (ka y b x.G)++R)=(sl,bO.list (nr At'))::(sa,bO.list (sq'.map .int))::(gd,bO.dI (fK x.G))::(gE G1++(z.g,bO.list (z.ps.map (λ p=>AV.loc p.1.k)++[.loc y.1.k]))::(gE G2++R));rw[sp.a,sp.e];unfold fK gE;simp only[aN,List.map_cons,List.map_nil,ao,List.cons_append]
   |none=>
    have hd:bM (fK x.G) y.2.f=none:=(oR ..).trans (by rw[g];rfl);apply Jb 3 rfl hd;apply bF 0 rfl;apply bG 0 rfl;exact aO (aV 0) (by decide);refine At.mid (l₁:=(sl,.list (nr At'))::(sa,.list (sq'.map .int))::(gd,.dI (cn (fK x.G) y.2.f (.loc b)))::gE x.G) (l₂:=R) ?_;refine dp ⟨ka y b x.G,sq'⟩ ?_ ⟨rfl,rfl,rfl,rfl,rfl,rfl,trivial⟩ ⟨_,hP'⟩;show (sl,bO.list (nr At'))::(sa,bO.list (sq'.map .int))::(gd,bO.dI (fK (ka y b x.G)))::(gE (ka y b x.G)++R)=_;rw[Yh g,BA hd];unfold fK gE;simp only[aN,List.map_cons,List.map_nil,ao,List.cons_append,List.nil_append]
  refine bJ λ b0=>?_;refine qL 2 0 rfl rfl (gP _) rfl (aa (Nat.min_le_right ..) (aI _)) ?_;have app:∀ {K},K=iN x.sq y.2.f→K=x.sq++[y.2.f]→At ((sl,.list (nr At'))::(sa,.list (x.sq.map .int++[.int y.2.f]))::(gd,.dI (fK x.G))::(gE x.G++R)) _:=λ {K} h1 h2=>by
   have:=rest K h1;rw[h2,cb]at this;exact this
  refine p3 (λ q=>At.drop1 ?_) λ q=>At.drop1 ?_
  ·have q:x.sq=[]:=List.map_eq_nil_iff.mp q;apply bF 1 rfl;apply bS (i1+3) (i2+3) e1 e2 rfl;apply bG 1 rfl;exact Ew (aa (am (ak _)) hP.l) hdn hz;exact app (K:=iN x.sq y.2.f) rfl (by rw[q];rfl)
  ·obtain⟨ini,w,hw⟩:=zj q;apply cZ 1 rfl (hw▸(ae (wj · (-1)) (cb AV.int ini w)).trans ux);apply bS (i1+3) (i2+3) e1 e2 rfl;have hg:x.sq.getLast? =some w:=by rw[hw,List.getLast?_concat]
   refine p3 (λ q=>?_) λ q=>?_
   ·exact rest x.sq (by unfold iN;rw[hg,aL (ae some q)])
   ·apply bF 1 rfl;apply bS (i1+3) (i2+3) e1 e2 rfl;apply bG 1 rfl;exact Ew (aa (am (ak _)) hP.l) hdn hz;exact app (K:=iN x.sq y.2.f) rfl (by unfold iN;rw[hg,aK λ e=>q (aA e)])
 ·obtain⟨dn,hP⟩:=hP;have e:dn=At'.zip kt:=(aq dn).symm.trans hP.e;have hs:x.sq=j6 kt:=by
   rw[hP.s,e];have:(At'.zip kt).map (·.2)=kt:=List.map_snd_zip (am hl.symm);unfold j6
   conv=>rhs;rw[←this,List.map_map]
   rfl
  exact At.eq (ae (λ t=>(sa,bO.list (t.map .int))::(gd,bO.dI (fK x.G))::(gE x.G++R)) hs.symm) (H gd sa x.G (e▸hP.g))
end
theorem xg (l:List Int):gA (l.map .int)=some l:=by
 induction l with
 |nil=>rfl
 |cons x r ih=>exact ae (Option.map (x::·)) ih
theorem Bm {α:Type}{f:α→Sx}(l:List α):AV.deps (l.map λ x=>.str (f x))=0:=by
 induction l with
 |nil=>rfl
 |cons x r ih=>exact ae (max 0) ih
theorem yC {α:Type}{l:List α}{j:Nat}{x:α}{r:List α}(h:l.drop j=x::r):l[j]? =some x∧l.drop (j+1)=r:=by
 constructor
 ·rw[←List.head?_drop,h];rfl
 ·rw[←List.tail_drop,h];rfl
theorem RF {w:WE}{Q:bI}{l:List bT}{a:Addr}{g:Nat→AV}{xs:List Int}(i:Nat)(e:eH l i=some (a,.list (xs.map .int)))(hz:xs.length<1000)(hv:∀ j k,xs[j]? =some k→∀ K:bI,At l (K (g j))→At l (w (cJ.set 1 (.int k)) K))
  (h:∀ b,At ((b,.list ((List.range xs.length).map g))::l) (Q (.loc b))):At l (wx w Q a):=λ σ ho=>by
 unfold wx;refine⟨_,ho.get e,ac (am (ak _)) hz,λ vs ws σ'=>fH σ' l∧∃ j,ws=(xs.drop j).map .int∧vs=(List.range j).map g∧j≤xs.length,⟨ho,0,rfl,rfl,aI _⟩,?_,?_⟩
 ·rintro vs u ws σ' ⟨ho,j,e2,rfl,hj⟩
  cases hd:xs.drop j with
  |nil=>rw[hd]at e2;cases e2
  |cons k r=>
   rw[hd]at e2;cases e2;obtain⟨h1,h2⟩:=yC hd;refine⟨ho.get e,hv j k h1 _ (λ σ' ho=>⟨ho,j+1,h2▸rfl,?_,(az h1).1⟩) σ' ho⟩;rw[List.range_succ,aN];rfl
 ·rintro vs σ' ⟨ho,j,e2,rfl,hj⟩
  have:j=xs.length:=Nat.le_antisymm hj (List.drop_eq_nil_iff.mp (List.map_eq_nil_iff.mp e2.symm));subst this;exact⟨ho.get e,bJ (ob:=.list ((List.range xs.length).map g)) (Q:=Q) h σ' ho⟩
noncomputable abbrev o9 (js:List Int)(bd:Bd)(sy:Sy):List AV:=(zw js bd sy).nl.ln
structure uQ (fo:Int)(js:List Int)(bd:Bd)(K0:KR)(kt:List KR)(p':PS):Prop where
 X:fP sT p'.sy
 B:BOK p'.sy 20 bd
 tk:TK (kP js) (kC (bZ bd (bC 0)))
 pl:AV.pls (o9 js bd p'.sy)=true
 dep:AV.deps (o9 js bd p'.sy)≤50
 zt:p'.sy.ts.length<1000000
 zf:p'.sy.fs.length<1000000
 k0f:p'.sy.func p4 js.length=(K0.f,p'.sy)
 k0a:∃ j2,K0.args=cK j2∧j2.length=js.length
 words:∀ (i:Nat) (f:Int),(j6 kt)[i]? =some f→∃ (fi ai:Nat) (kk:Int),f=fi∧p'.sy.fs[fi]? =some ((ai:Int),kk)∧p'.sy.ts[ai]? =some (jQ (fo+(i:Int)))
 kl:kt.length<5000
 sl:(j6 kt).length<60
 f9:fo+((j6 kt).length:Int)<100
 fo:p'.fo=fo+(j6 kt).length
 rd:∃ q',tC (cD kt) 20 K0 (spellL K0.args yD).nm (bC 0) 0 ((spellL K0.args yD).ln,[]) q'∧q'.1=o9 js bd p'.sy∧jI q'.2=jI (j6 kt)∧q'.2.length<64∧qA q'
noncomputable def Gb (fo:Int)(i:Nat):AV:=.str (jQ (fo+(i:Int)))
structure Rv where
 A:sO
 sa:Addr
 gd:Addr
 du:Addr
 kl:Addr
 fr:Addr
 fdx:Addr
 cc:Addr
 cs:Addr
 cl:Addr
 ca:Addr
noncomputable def fxE (x:Rv)(sy:Sy)(sq:List Int)(gk:Nm)(due:List AV)(ks:List AV)(nx fo:Int)(Z:List bT):List bT:=
 cF x.A sy++((x.sa,.list (sq.map .int))::(x.gd,.dI gk)::(x.du,.list due)::(x.kl,.list ks)::(x.fr,.inst 289 x.fdx)::(x.fdx,.ns [(eM,.int nx)])::(x.cc,.cell (some (.loc x.ca)))::(x.cs,.cell (some (.loc x.A.obj)))::(x.cl,.cell (some (.int fo)))::Z)
theorem arW {fo:Int}{i n:Nat}(h0:0≤fo)(h:fo+(n:Int)<100)(hi:i<n):0≤fo+(i:Int)∧fo+(i:Int)<100:=by lia
section
variable {J:JT}{T:iL}(L:r8 J T)(hM:∀ {n m f vs σ Q},n≤m→J n f vs σ Q→J m f vs σ Q)
variable {x:Rv}{Q:bI}{S:cm}{m:bB}{fo:Int}{js:List Int}{bd:Bd}{K0:KR}{kt:List KR}{p':PS}{G:List Gr}{A0:KA}{At':List KA}{Z:List bT}
noncomputable abbrev fx (x:Rv)(js:List Int)(bd:Bd)(kt:List KR)(p':PS)(G:List Gr)(A0:KA)(At':List KA)(fo nx:Int)(Z:List bT):List bT:=fxE x p'.sy (j6 kt) (fK G) (o9 js bd p'.sy) (nr (A0::At')) nx fo Z
include L hM
theorem Fz (O:uQ fo js bd K0 kt p')(h0:0≤fo)(m14:m 14=some (.loc x.sa))
  (H:∀ wl,At (fx x js bd kt p' G A0 At' fo p'.fo Z) (cA (lp J x.cc x.cs x.cl) (eN.drop 18) (m.set 16 (.loc wl)) S)):
  At (fx x js bd kt p' G A0 At' fo p'.fo Z) (cA (lp J x.cc x.cs x.cl) (eN.drop 16) m S):=by
 apply eR m14;refine RF (g:=Gb fo) 6 rfl (aw O.sl (by decide)) (λ j f hf K hK=>?_) λ wl=>?_
 ·obtain⟨fi,ai,kk,rfl,e2,e3⟩:=O.words j f hf;apply dh 13 rfl;apply cj 0 1 rfl rfl rfl;apply dh 13 rfl;apply cj 0 1 rfl rfl rfl;refine JF L.law (n:=69) (A:=x.A) (s:=p'.sy) e2 ?_;refine JR L.law (n:=69) (A:=x.A) (s:=p'.sy) e3 ?_;exact hK
 ·apply eR m14;apply fM (k:=(j6 kt).length) 7 rfl;exact ak _;refine GP (n:=(j6 kt).length) (Gb fo) rfl (aw O.sl (by decide)) (λ i hi K hK=>?_) λ w2=>?_
  ·obtain⟨a1,a2⟩:=arW h0 O.f9 hi;apply dh 15 rfl;apply Gz a1 (Int.lt_trans a2 (by decide));apply zX;exact aa (aP (tI a1 a2) 4) (by decide);exact hK
  ·refine qL 1 0 rfl rfl (l7 λ ω=>rfl) (l7 λ ω=>rfl) (aa (Nat.min_le_left ..) (aa (am (Bm (f:=λ i:Nat=>jQ (fo+(i:Int))) _)) (aI _))) ?_;apply bQ rfl;exact At.drop2 (H wl)
theorem EJ (O:uQ fo js bd K0 kt p')(kin:KIn Z K0 A0.k A0.dx A0.gl)(m5:m 5=some (.tup (Tm.avs (cK js))))(m9:m 9=some (.loc x.kl))
  (H:At (fx x js bd kt p' G A0 At' fo p'.fo Z) (cA (lp J x.cc x.cs x.cl) (eN.drop 19) m S)):
  At (fx x js bd kt p' G A0 At' fo p'.fo Z) (cA (lp J x.cc x.cs x.cl) (eN.drop 18) m S):=by
 obtain⟨i1,e1⟩:=kin.i;obtain⟨i2,e2⟩:=kin.d;obtain⟨j2,ha,hl⟩:=O.k0a;have e:((Tm.avs (cK js)).length:Int)=(js.length:Nat):=ae Int.ofNat ((dk _).trans (ak _));apply eR m9;refine cZ (v:=.loc A0.k) 9 rfl rfl ?_;apply bS (i1+15) (i2+15) e1 e2 rfl;apply dh 13 rfl;apply cj 0 1 rfl rfl rfl;apply eR m5;show At _ (bR J 70 109 _ [.loc x.A.obj,.str p4,.int ((Tm.avs (cK js)).length:Nat)]);rw[e];refine j7 L.law (n:=68) (A:=x.A) (s:=p'.sy) O.zt O.zf ?_;rw[O.k0f];apply bQ rfl;apply eR m9;refine cZ (v:=.loc A0.k) 9 rfl rfl ?_;apply bS (i1+15) (i2+15) e1 e2 rfl;apply eR m5;refine bQ (p:=((Tm.avs (Tm.rnL K0.rho K0.args)).length:Int)=(Tm.avs (cK js)).length) ?_ ?_
 ·rw[e,dk,lV,ha];exact ae Int.ofNat ((ak _).trans hl)
 ·exact H
end
theorem KIn.app {R:List bT}{K:KR}{k dx gl:Addr}(h:KIn R K k dx gl)(l:List bT):KIn (l++R) K k dx gl:=⟨h.i.app l,h.d.app l,h.g.app l⟩
theorem jX.app {R:List bT}{fK:Nm}{G:Int→Option (List KR)}(h:jX R fK G)(l:List bT):jX (l++R) fK G:=by
 induction l with
 |nil=>exact h
 |cons y r ih=>exact ih.cons
theorem He (ρ l:List Int):Tm.rnL ρ (cK l)=cK (l.map λ k=>(cy ρ k:Nat)):=by
 induction l with|nil=>rfl|cons x r ih=>exact ae (Tm.v _::·) ih
section
variable {J:JT}{T:iL}(L:r8 J T)(hM:∀ {n m f vs σ Q},n≤m→J n f vs σ Q→J m f vs σ Q)
variable {x:Rv}{Q:bI}{m:bB}{fo:Int}{js:List Int}{bd:Bd}{K0:KR}{kt:List KR}{p':PS}{G:List Gr}{A0:KA}{At':List KA}{Z:List bT}
include L hM
theorem Kh (O:uQ fo js bd K0 kt p')(hjs:js.length≤2)(kin:KIn Z K0 A0.k A0.dx A0.gl)(hG:jX Z (fK G) (cD kt))(m8:m 8=some (.loc x.fr))(m9:m 9=some (.loc x.kl))(m10:m 10=some (.loc x.du))(m13:m 13=some (.loc x.gd))(m14:m 14=some (.loc x.sa))
  (hq:At Z (Q (.bool true))):
  At (fx x js bd kt p' G A0 At' fo p'.fo Z) (cA (lp J x.cc x.cs x.cl) (eN.drop 19) m (kL Q)):=by
 obtain⟨i1,e1⟩:=kin.i;obtain⟨i2,e2⟩:=kin.d;obtain⟨j2,ha,hl⟩:=O.k0a;obtain⟨q',hrd,hdue,hop,h64,hLo⟩:=O.rd;have hsub:∀ y∈Tm.varsL K0.args,y∈K0.rho:=λ y hy=>jW (.inr (aH _ hy));have hen:=fO (ρ:=K0.rho) K0.args (s:=yD) hsub nofun
 have hen1:spellL (Tm.rnL K0.rho K0.args) yD=(spellL K0.args yD).enc K0.rho:=hen.e;have hvs:Tm.rnL K0.rho K0.args=cK (j2.map λ k=>(cy K0.rho k:Nat)):=by rw[ha];exact He ..
 have hsz:Tm.szL (Tm.rnL K0.rho K0.args)≤2:=by rw[hvs,gx,ak,hl];exact hjs
 refine bJ λ tl=>?_;refine bJ λ na=>?_;apply eR m9;refine cZ (v:=.loc A0.k) 11 rfl rfl ?_;apply bS (i1+17) (i2+17) e1 e2 rfl;refine qF L.law (M:=[(8,.loc x.fr),(9,.loc x.kl),(10,.loc x.du),(13,.loc x.gd),(14,.loc x.sa),(17,.loc tl),(11,.loc na)]) (na:=na) (la:=tl) (s:=yD) (r:=fx x js bd kt p' G A0 At' fo p'.fo Z) ⟨m8,m9,m10,m13,m14,rfl,rfl,trivial⟩ (λ v=>⟨rfl,rfl,rfl,rfl,rfl,rfl,rfl,trivial⟩) (λ t s S ht hz h=>eV L.law 70 (ac ht (by decide)) hz h) (hvs▸FY _) ⟨?_,?_⟩ ?_
 ·exact ac (aa (am (aU _)) hsz) (by decide)
 ·exact ac (aa (am (aU _)) hsz) (by decide)
 rw[hen1];refine bJ λ ol=>?_;refine bJ λ wa=>?_;refine cZ (v:=.loc A0.k) 13 rfl rfl ?_
 let pre:List bT:=cF x.A p'.sy++((x.sa,.list ((j6 kt).map .int))::(x.du,.list (o9 js bd p'.sy))::(x.kl,.list (nr (A0::At')))::(x.fr,.inst 289 x.fdx)::(x.fdx,.ns [(eM,.int p'.fo)])::(x.cc,.cell (some (.loc x.ca)))::(x.cs,.cell (some (.loc x.A.obj)))::(x.cl,.cell (some (.int fo)))::[])
 refine At.pk [2,2,1,0,7] (Ff hM (n:=57) (Nat.le_of_ble_eq_true rfl) ?_);refine XN L.law (cD kt) 20 (K:=K0) (E:=(spellL K0.args yD).nm) (q:=((spellL K0.args yD).ln,[])) (nd:=na) (la:=tl) (oa:=ol) (wa:=wa) (ga:=x.gd) (fK:=fK G) (R:=pre++Z) hrd hen.k (kin.app pre) (hG.app pre) (fW 0) hLo λ E'=>?_;refine qL 1 12 rfl rfl (hdue▸O.pl) O.pl (aa (Nat.min_le_right ..) O.dep) ?_;apply bQ hdue;apply gv 3 rfl rfl;refine BO 2 rfl (xg _) h64 λ b1=>?_;refine BO 12 rfl (xg _) (aw O.sl (by decide)) λ b2=>?_;refine qL 1 0 rfl rfl (gP _) (gP _) (aa (Nat.min_le_right ..) (aa (am (Df _)) (aI _))) ?_;apply bQ (ae (List.map AV.int) hop);apply cj 16 17 rfl rfl rfl;refine L.law.Fresh_number 69 _ _ _ rfl ?_;apply bS 16 17 rfl rfl rfl;apply cQ 16 17 rfl rfl;exact aO (bq 1) (by decide);rfl;apply dh 20 rfl;apply fM (k:=(j6 kt).length) 13 rfl;exact ak _;apply bQ O.fo
 iterate 21 apply At.drop1
 exact hq
end
def Bv:Prop:=∀ fo js bd ks p',QX fo js bd ks p'→∃ K0 kt,ks=K0::kt∧uQ fo js bd K0 kt p'
theorem LX {X g s F1 F2 k:List bT}{la:bT}:(s++(X++(F1++(F2++(la::(g++k)))))).Perm (X++(g++(s++(F1++(la::(F2++k)))))):=by
 refine List.Perm.symm (((aX g s _).append_left X).trans ((aX X s _).trans ?_));refine ((List.Perm.append_left X ?_).append_left s);refine (aX g F1 _).trans (.append_left F1 ?_);refine List.perm_middle.trans ((List.Perm.cons la (aX g F2 k)).trans ?_);exact List.perm_middle.symm
theorem GN {p:ue}:∀ {As:List KA} {ks:List KR},p∈As.zip ks→KIn (tU As ks) p.2 p.1.k p.1.dx p.1.gl:=by
 intro As
 induction As with
 |nil=>intro ks h;cases h
 |cons A l ih=>
  intro ks h;rcases ks with _|⟨K,r⟩
  ·cases h
  ·rcases ap h with rfl|h
   ·exact⟨⟨0,rfl⟩,⟨1,rfl⟩,⟨2,rfl⟩⟩
   ·exact (ih h).app (kE A.k A.dx A.gl K)
theorem pT {R r:List bT}{x:bT}(h:Ix R x):Ix (R++r) x:=by
 obtain⟨i,h⟩:=h;refine⟨i,?_⟩
 induction R generalizing i with
 |nil=>cases h
 |cons y l ih=>rcases i with _|i;exact h;exact ih i h
theorem Bx {R:List bT}{K:KR}{k dx gl:Addr}(h:KIn R K k dx gl)(r:List bT):KIn (R++r) K k dx gl:=⟨pT h.i,pT h.d,pT h.g⟩
theorem XO {f:Int}{x:Gr}{r:List bT}:∀ {G:List Gr},dQ f G=some x→Ix (gE G++r) (x.g,.list (x.ps.map λ p=>.loc p.1.k)):=by
 intro G
 induction G with
 |nil=>exact nofun
 |cons y l ih=>
  intro h;unfold dQ at h
  split at h
  ·cases h;exact⟨0,rfl⟩
  ·exact (ih h).cons
theorem JJ {At':List KA}{kt:List KR}{G:List Gr}{R:List bT}(hl:At'.length=kt.length)(h:KH (At'.zip kt) G)(hR:∀ p∈At'.zip kt,KIn R p.2 p.1.k p.1.dx p.1.gl):jX (gE G++R) (fK G) (cD kt):=by
 have hm:(At'.zip kt).map (·.2)=kt:=List.map_snd_zip (am hl.symm);have hf:∀ f,kt.filter (λ K=>K.f==f)=((At'.zip kt).filter λ p=>p.2.f==f).map (·.2):=λ f=>by
  conv=>lhs;rw[←hm]
  rw[List.filter_map];rfl
 have hx:∀ {f x},dQ f G=some x→x.ps=(At'.zip kt).filter λ p=>p.2.f==f:=λ {f x} g=>by
  have:=h.p f;rw[g]at this;exact this
 refine⟨λ f e=>?_,λ f Ks e=>?_⟩
 ·rw[oR];cases g:dQ f G with
  |none=>rfl
  |some x=>
   have h1:=h.n f x g;have h2:=hf f;rw[←hx g]at h2;unfold cD at e;rw[h2]at e
   revert e
   cases z:x.ps with
   |nil=>exact (h1 z).elim
   |cons p r=>exact nofun
 ·have e2:Ks=kt.filter (λ K=>K.f==f)∧Ks≠[]:=by
   unfold cD at e
   revert e
   cases kt.filter (λ K=>K.f==f)with
   |nil=>exact nofun
   |cons K r=>exact λ e=>by cases e;exact⟨rfl,nofun⟩
  cases g:dQ f G with
  |none=>
   have:=h.p f;rw[g]at this;have h3:=hf f;rw[←this]at h3;exact (e2.2 (e2.1.trans h3)).elim
  |some x=>
   have hKs:Ks=x.ps.map (·.2):=e2.1.trans ((hf f).trans (ae (List.map _) (hx g).symm));refine⟨x.g,x.ps.map (·.1.k),(oR ..).trans (by rw[g];rfl),⟨?_,?_,λ i K hi=>?_⟩⟩
   ·rw[List.map_map];exact XO g
   ·rw[hKs,ak,ak]
   ·rw[hKs,aZ,Option.map_eq_some_iff]at hi;obtain⟨p,hp,rfl⟩:=hi;have hpz:p∈At'.zip kt:=(List.mem_filter.mp (hx g▸aY hp)).1;exact⟨p.1.k,p.1.dx,p.1.gl,by rw[aZ,hp];rfl,(hR p hpz).app (gE G)⟩
section
variable {J:JT}{T:iL}(L:r8 J T)(hM:∀ {n m f vs σ Q},n≤m→J n f vs σ Q→J m f vs σ Q)
include L hM
theorem Qq (PL:Bv){cc cs cl la:Addr}{its:Array PySem.Value}{k:Nat}{is:List Int}{e:List bT}{m:bB}{Q:bI}(he:T.st e)(m0:m 0=some (.loc la))(hq:∀ e',T.st e'→At ((la,.lF its k (is.map .int))::e') (Q (.bool true))):
  At ((cc,.cell none)::(cs,.cell none)::(cl,.cell none)::(la,.lF its k (is.map .int))::e) (cA (lp J cc cs cl) eN m (kL Q)):=by
 refine IU L hM he m0 λ m' fo js bd ks p' A ca kl fr fdx As e' he' hO hAl m3 m5 m7 m8 m9 m0=>?_;obtain⟨K0,kt,rfl,O⟩:=PL fo js bd ks p' hO;rcases As with _|⟨A0,At'⟩
 ·cases hAl
 have hl:At'.length=kt.length:=Nat.succ.inj hAl;refine IV L.law hM (i:=5) hO.jl O.X O.B O.tk m3 m5 m7 m8 m9 m0 rfl λ du na=>?_;refine HO (i:=7) hl O.kl rfl (λ p hp=>?_) λ gd sa G hG=>?_
 ·exact (Bx (GN hp) e').app (cF A p'.sy++((du,.list (o9 js bd p'.sy))::(kl,.list (nr (A0::At')))::(fr,.inst 289 fdx)::(fdx,.ns [(eM,.int p'.fo)])::(la,.lF its k (is.map .int))::(cc,.cell (some (.loc ca)))::(cs,.cell (some (.loc A.obj)))::(cl,.cell (some (.int fo)))::kE A0.k A0.dx A0.gl K0))
 let x:Rv:=⟨A,sa,gd,du,kl,fr,fdx,cc,cs,cl,ca⟩
 let Z:List bT:=(la,.lF its k (is.map .int))::(gE G++(tU (A0::At') (K0::kt)++e'))
 refine At.perm (l':=fx x js bd kt p' G A0 At' fo p'.fo Z) (LX (X:=[(sa,.list ((j6 kt).map .int)),(gd,.dI (fK G))]) (g:=gE G) (s:=cF A p'.sy) (F1:=[(du,.list (o9 js bd p'.sy)),(kl,.list (nr (A0::At'))),(fr,.inst 289 fdx),(fdx,.ns [(eM,.int p'.fo)])]) (F2:=[(cc,.cell (some (.loc ca))),(cs,.cell (some (.loc A.obj))),(cl,.cell (some (.int fo)))]) (k:=tU (A0::At') (K0::kt)++e') (la:=(la,.lF its k (is.map .int)))) ?_;have kin:KIn Z K0 A0.k A0.dx A0.gl:=KIn.app (⟨⟨0,rfl⟩,⟨1,rfl⟩,⟨2,rfl⟩⟩:KIn (tU (A0::At') (K0::kt)++e') K0 A0.k A0.dx A0.gl) ((la,.lF its k (is.map .int))::gE G);have hgr:jX Z (fK G) (cD kt):=(JJ (R:=tU (A0::At') (K0::kt)++e') hl hG λ p hp=>(Bx (GN hp) e').app (kE A0.k A0.dx A0.gl K0)).cons;refine Fz L hM (x:=x) O hO.f0 rfl λ wl=>?_;refine EJ L hM (x:=x) O kin rfl rfl ?_;exact Kh L hM (x:=x) O hO.jl kin hgr rfl rfl rfl rfl rfl (λ σ ho=>hq e' he' σ (ho.sub (.cons_cons _ ((List.sublist_append_right _ e').trans (List.sublist_append_right ..)))))
end
end
end Mine
namespace Mine.H
noncomputable section
open PySem PySem.W
noncomputable def gV:Env:={ scope:=P0.main.scope,locals:=mainNs,globals:=mainNs,cells:=[],code:=R 13,frame:=some 14 }
noncomputable abbrev q0:Pos:=⟨0,0,0,0⟩
noncomputable abbrev fh:Option Value:=some (R 6)
noncomputable abbrev bE:List Stmt:=behindTheImports P0
noncomputable abbrev cE:Code:=.body bE gV
noncomputable abbrev oh:List Frame:=[topFrame q0]
noncomputable def dA (a n:Nat):List Stmt:=(P0.main.body.drop a).take n
noncomputable abbrev sT (t:Params→BT)(n k:Nat)(w:World)(os:OsState):SharedT:=⟨t w.params,n,{},#[],{},k,os⟩
noncomputable abbrev sA (h:Params→Heap)(k:Nat)(w:World)(os:OsState):Shared:=⟨h w.params,#[],{},k,os⟩
theorem R9 (w:World)(os:OsState):topGo treeTable P0 w 11 fh 12 ⟨boot_heap w.params,#[],boot_drawn,boot_toks,os⟩ (topStub P0)=some (sA Ss 187 w os,⟨denote treeTable cE,cE,⟨0,0,0,0⟩,oh⟩):=by
 have h:(λ os=>topGo treeTable P0 w 11 fh 12 ⟨boot_heap w.params,#[],boot_drawn,boot_toks,os⟩ (topStub P0))=λ os=>some (sA Ss 187 w os,⟨denote treeTable cE,cE,⟨0,0,0,0⟩,oh⟩):=by
  rw[PySem.W.Fast.te15667345088766844465,PySem.W.Fast.te14364793385576792824,PySem.W.Fast.te11892475500146522536];kernel_rfl
 exact congrFun h os
theorem EC (w:World)(os:OsState):segRun treeTable P0 w 11 fh 1 1 (sA Ss 187 w os) (blockOf bE gV cE ⟨0,0,0,0⟩ oh)=some (Flow.next,(sT SG 15 187 w os).abs,cE,⟨0,0,0,0⟩):=by
 have h:(λ os=>segRun treeTable P0 w 11 fh 1 1 (sA Ss 187 w os) (blockOf bE gV cE ⟨0,0,0,0⟩ oh))=λ os=>some (Flow.next,(sT SG 15 187 w os).abs,cE,⟨0,0,0,0⟩):=by
  rw[PySem.W.Fast.te14374325043358763698,PySem.W.Fast.te14364793385576792824];kernel_rfl
 exact congrFun h os
theorem Tg (w:World)(os:OsState):segRun treeTable P0 w 11 fh 1 480 (sT SG 15 187 w os).abs (piecesOf (dA 0 4) gV cE ⟨0,0,0,0⟩ oh)=some (Flow.next,(sT Fg 54 241 w os).abs,cE,⟨7,0,10,24⟩):=by
 have h:(λ os=>segRunT treeTable P0 w 11 fh 1 480 (sT SG 15 187 w os) (piecesOf (dA 0 4) gV cE ⟨0,0,0,0⟩ oh))=λ os=>some (Flow.next,sT Fg 54 241 w os,cE,⟨7,0,10,24⟩):=by
  rw[PySem.W.Fast.te10110043849684766642,PySem.W.Fast.te14364793385576792824];kernel_rfl
 exact segRun_of (congrFun h os)
theorem Vo (w:World)(os:OsState):segRun treeTable P0 w 11 fh 1 201 (sT Fg 54 241 w os).abs (piecesOf (dA 4 18) gV cE ⟨7,0,10,24⟩ oh)=some (Flow.next,(sT DU 68 285 w os).abs,cE,⟨29,0,30,389⟩):=by
 have h:(λ os=>segRunT treeTable P0 w 11 fh 1 201 (sT Fg 54 241 w os) (piecesOf (dA 4 18) gV cE ⟨7,0,10,24⟩ oh))=λ os=>some (Flow.next,sT DU 68 285 w os,cE,⟨29,0,30,389⟩):=by
  rw[PySem.W.Fast.te10110043849684766642,PySem.W.Fast.te14364793385576792824];kernel_rfl
 exact segRun_of (congrFun h os)
theorem Va (w:World)(os:OsState):segRun treeTable P0 w 11 fh 1 553 (sT DU 68 285 w os).abs (piecesOf (dA 22 1) gV cE ⟨29,0,30,389⟩ oh)=some (Flow.next,(sT FD 159 404 w os).abs,cE,⟨31,0,84,16⟩):=by
 have h:(λ os=>segRunT treeTable P0 w 11 fh 1 553 (sT DU 68 285 w os) (piecesOf (dA 22 1) gV cE ⟨29,0,30,389⟩ oh))=λ os=>some (Flow.next,sT FD 159 404 w os,cE,⟨31,0,84,16⟩):=by
  rw[PySem.W.Fast.te10110043849684766642,PySem.W.Fast.te14364793385576792824];kernel_rfl
 exact segRun_of (congrFun h os)
theorem V6 (w:World)(os:OsState):segRun treeTable P0 w 11 fh 1 473 (sT FD 159 404 w os).abs (piecesOf (dA 23 16) gV cE ⟨31,0,84,16⟩ oh)=some (Flow.next,(sT Ei 265 538 w os).abs,cE,⟨175,0,176,74⟩):=by
 have h:(λ os=>segRunT treeTable P0 w 11 fh 1 473 (sT FD 159 404 w os) (piecesOf (dA 23 16) gV cE ⟨31,0,84,16⟩ oh))=λ os=>some (Flow.next,sT Ei 265 538 w os,cE,⟨175,0,176,74⟩):=by
  rw[PySem.W.Fast.te10110043849684766642,PySem.W.Fast.te14364793385576792824];kernel_rfl
 exact segRun_of (congrFun h os)
theorem UW (w:World)(os:OsState):segRun treeTable P0 w 11 fh 1 266 (sT Ei 265 538 w os).abs (piecesOf (dA 39 2) gV cE ⟨175,0,176,74⟩ oh)=some (Flow.next,(sT Fp 294 578 w os).abs,cE,⟨178,0,186,16⟩):=by
 have h:(λ os=>segRunT treeTable P0 w 11 fh 1 266 (sT Ei 265 538 w os) (piecesOf (dA 39 2) gV cE ⟨175,0,176,74⟩ oh))=λ os=>some (Flow.next,sT Fp 294 578 w os,cE,⟨178,0,186,16⟩):=by
  rw[PySem.W.Fast.te10110043849684766642,PySem.W.Fast.te14364793385576792824];kernel_rfl
 exact segRun_of (congrFun h os)
theorem Vi (w:World)(os:OsState):segRun treeTable P0 w 11 fh 1 409 (sT Fp 294 578 w os).abs (piecesOf (dA 41 8) gV cE ⟨178,0,186,16⟩ oh)=some (Flow.next,(sT DO 350 665 w os).abs,cE,⟨239,0,252,16⟩):=by
 have h:(λ os=>segRunT treeTable P0 w 11 fh 1 409 (sT Fp 294 578 w os) (piecesOf (dA 41 8) gV cE ⟨178,0,186,16⟩ oh))=λ os=>some (Flow.next,sT DO 350 665 w os,cE,⟨239,0,252,16⟩):=by
  rw[PySem.W.Fast.te10110043849684766642,PySem.W.Fast.te14364793385576792824];kernel_rfl
 exact segRun_of (congrFun h os)
theorem VI (w:World)(os:OsState):segRun treeTable P0 w 11 fh 1 226 (sT DO 350 665 w os).abs (piecesOf (dA 49 1) gV cE ⟨239,0,252,16⟩ oh)=some (Flow.next,(sT Eu 371 697 w os).abs,cE,⟨253,0,259,27⟩):=by
 have h:(λ os=>segRunT treeTable P0 w 11 fh 1 226 (sT DO 350 665 w os) (piecesOf (dA 49 1) gV cE ⟨239,0,252,16⟩ oh))=λ os=>some (Flow.next,sT Eu 371 697 w os,cE,⟨253,0,259,27⟩):=by
  rw[PySem.W.Fast.te10110043849684766642,PySem.W.Fast.te14364793385576792824];kernel_rfl
 exact segRun_of (congrFun h os)
theorem Vt (w:World)(os:OsState):segRun treeTable P0 w 11 fh 1 661 (sT Eu 371 697 w os).abs (piecesOf (dA 50 1) gV cE ⟨253,0,259,27⟩ oh)=some (Flow.next,(sT E7 476 876 w os).abs,cE,⟨260,0,419,60⟩):=by
 have h:(λ os=>segRunT treeTable P0 w 11 fh 1 661 (sT Eu 371 697 w os) (piecesOf (dA 50 1) gV cE ⟨253,0,259,27⟩ oh))=λ os=>some (Flow.next,sT E7 476 876 w os,cE,⟨260,0,419,60⟩):=by
  rw[PySem.W.Fast.te10110043849684766642,PySem.W.Fast.te14364793385576792824];kernel_rfl
 exact segRun_of (congrFun h os)
theorem T6 (w:World)(os:OsState):segRun treeTable P0 w 11 fh 1 477 (sT E7 476 876 w os).abs (piecesOf (dA 51 15) gV cE ⟨260,0,419,60⟩ oh)=some (Flow.next,(sT Fk 572 1039 w os).abs,cE,⟨565,0,594,34⟩):=by
 have h:(λ os=>segRunT treeTable P0 w 11 fh 1 477 (sT E7 476 876 w os) (piecesOf (dA 51 15) gV cE ⟨260,0,419,60⟩ oh))=λ os=>some (Flow.next,sT Fk 572 1039 w os,cE,⟨565,0,594,34⟩):=by
  rw[PySem.W.Fast.te10110043849684766642,PySem.W.Fast.te14364793385576792824];kernel_rfl
 exact segRun_of (congrFun h os)
theorem Uk (w:World)(os:OsState):segRun treeTable P0 w 11 fh 1 53 (sT Fk 572 1039 w os).abs (piecesOf (dA 66 2) gV cE ⟨565,0,594,34⟩ oh)=some (Flow.next,(sT EF 582 1051 w os).abs,cE,⟨621,0,653,115⟩):=by
 have h:(λ os=>segRunT treeTable P0 w 11 fh 1 53 (sT Fk 572 1039 w os) (piecesOf (dA 66 2) gV cE ⟨565,0,594,34⟩ oh))=λ os=>some (Flow.next,sT EF 582 1051 w os,cE,⟨621,0,653,115⟩):=by
  rw[PySem.W.Fast.te10110043849684766642,PySem.W.Fast.te14364793385576792824];kernel_rfl
 exact segRun_of (congrFun h os)
theorem Ou (w:World)(os:OsState):topRun treeTable P0 w 11 fh 2 (sT EF 582 1051 w os).abs ⟨doneF .next,cE,⟨621,0,653,115⟩,oh⟩=some (sA qC 1051 w os):=by
 have h:(λ os=>topRun treeTable P0 w 11 fh 2 (sT EF 582 1051 w os).abs ⟨doneF .next,cE,⟨621,0,653,115⟩,oh⟩)=λ os=>some (sA qC 1051 w os):=by
  rw[PySem.W.Fast.te14082659384304107361,PySem.W.Fast.te14364793385576792824];kernel_rfl
 exact congrFun h os
theorem Oc:bE=(dA 0 4++(dA 4 18++(dA 22 1++(dA 23 16++(dA 39 2++(dA 41 8++(dA 49 1++(dA 50 1++(dA 51 15++(dA 66 2++[])))))))))):=by kernel_rfl
theorem NU (w:World)(os:OsState):topRun treeTable P0 w 11 fh (12+(1+(480+(201+(553+(473+(266+(409+(226+(661+(477+(53+2)))))))))))) ⟨boot_heap w.params,#[],boot_drawn,boot_toks,os⟩ (topStub P0)=some (sA qC 1051 w os):=by
 have k:=piece_app (l:=dA 0 4) (rest:=(dA 4 18++(dA 22 1++(dA 23 16++(dA 39 2++(dA 41 8++(dA 49 1++(dA 50 1++(dA 51 15++(dA 66 2++[])))))))))) (Tg w os) (piece_app (l:=dA 4 18) (rest:=(dA 22 1++(dA 23 16++(dA 39 2++(dA 41 8++(dA 49 1++(dA 50 1++(dA 51 15++(dA 66 2++[]))))))))) (Vo w os) (piece_app (l:=dA 22 1) (rest:=(dA 23 16++(dA 39 2++(dA 41 8++(dA 49 1++(dA 50 1++(dA 51 15++(dA 66 2++[])))))))) (Va w os) (piece_app (l:=dA 23 16) (rest:=(dA 39 2++(dA 41 8++(dA 49 1++(dA 50 1++(dA 51 15++(dA 66 2++[]))))))) (V6 w os) (piece_app (l:=dA 39 2) (rest:=(dA 41 8++(dA 49 1++(dA 50 1++(dA 51 15++(dA 66 2++[])))))) (UW w os) (piece_app (l:=dA 41 8) (rest:=(dA 49 1++(dA 50 1++(dA 51 15++(dA 66 2++[]))))) (Vi w os) (piece_app (l:=dA 49 1) (rest:=(dA 50 1++(dA 51 15++(dA 66 2++[])))) (VI w os) (piece_app (l:=dA 50 1) (rest:=(dA 51 15++(dA 66 2++[]))) (Vt w os) (piece_app (l:=dA 51 15) (rest:=(dA 66 2++[])) (T6 w os) (piece_app (l:=dA 66 2) (rest:=[]) (Uk w os) (Ou w os))))))))));rw[←Oc]at k;exact go_top (R9 w os) (piece_block (EC w os) k)
end
end Mine.H
namespace Mine.H
noncomputable section
open PySem PySem.W PyProof.Rows
abbrev r0:OpenRow:=PySem.Challenge.rw_rh0092_01.row
noncomputable def OD (l:List Nat):List Stmt:=l.map st
noncomputable def q1:Program:={ P0 with main:={ P0.main with body:=OD [0,2,3,4,5,6,7,8,9,10,11,12,13,14,15,16,17,18,19,20,21,22,24,25,26,27,28,29,30,31,32,33,35,36,37,38,40,41,42,43,44,46,47,48,49,50,51,52,54,55,56,57,58,59,60,61,62,63,64,65,66,67] } }
noncomputable abbrev dC:List Str:=[Str.ofString "renumber"]
theorem uP:∀ P,sj=(K0 P).map (·.1):=λ ω=>by kernel_rfl
noncomputable abbrev H0:Hook:=kmHook K0 sj uP [231]
noncomputable def stP:Stmt→Pos
 |.FunctionDef _ _ _ _ _ _ _ _ _ p=>p
 |_=>⟨0,0,0,0⟩
noncomputable abbrev Hs:Shared→Bool:=λ s=>xlAt q1 [] s&&recOk (RowW.records r0.toRowW) s
theorem Ia:∀ w:World,(fencedOpening treeTable P0 w 20000).map (λ s=>(s.heap,s.gens,s.drawn,s.toks))=some (boot_heap w.params,#[],boot_drawn,boot_toks):=
 boot_open (by kernel_rfl) (by decide) (λ s=>by kernel_rfl)
theorem J4:∀ w:World,((boot_heap w.params).isNs mainGlobals&&(#[]:Array GenState).size==0,(boot_heap w.params).objs.size,(boot_heap w.params).nsMap mainGlobals "__annotations__")=(true,11,fh):=λ w=>by kernel_rfl
theorem k1 (w:World):(λ os=>(staticsOk (importedModules P0.main.body) (boot_heap w.params) (qC w.params)&&namesBound P0 (qC w.params)&&gensDone ⟨qC w.params,#[],{},1051,os⟩&&laidKept (boot_heap w.params) (qC w.params)))=λ _:OsState=>true:=by kernel_rfl
noncomputable abbrev Gq:List Str:=importedModules P0.main.body
noncomputable abbrev sF (w:World)(os:OsState):Shared:=⟨qC w.params,#[],{},1051,os⟩
theorem c1 (w:World):(λ os=>seen ((recsOf q1).map (·.name)) (ownsOf q1) [] { sF w os with gens:=#[] })=λ _:OsState=>expectedOf q1:=by kernel_rfl
theorem c2 (w:World):(qC w.params).bltView=bltViewBooted:=by kernel_rfl
theorem c3a (w:World):((qC w.params).keysOk (looseW q1 dC) ((recsOf q1).map (·.name)) ((litsOf q1).map (·.1)) ((clssOf q1 (looseW q1 dC)).map (·.name)))=true:=by kernel_rfl
theorem c3b (w:World):((qC w.params).accountedOkI Gq&&(qC w.params).isNs mainGlobals&&(qC w.params).isNs builtinsNs&&tablesOk q1 (qC w.params))=true:=by kernel_rfl
theorem c3c (w:World):(λ os=>Hs (sF w os))=λ _:OsState=>true:=by kernel_rfl
theorem c4 (w:World):(λ os=>tabsOk q1 (sF w os))=λ _:OsState=>true:=by kernel_rfl
theorem c5 (w:World):(λ os=>pinSeenD q1 (drecsOf q1) (sF w os))=λ _:OsState=>pinGoodD (drecsOf q1):=by kernel_rfl
theorem c6 (w:World):(λ os=>plainSeenE q1 (looseW q1 dC) (sF w os))=λ _:OsState=>plainGoodE q1 (looseW q1 dC):=by kernel_rfl
theorem c7 (w:World):(λ os=>plainSeenD q1 dC (sF w os))=λ _:OsState=>plainGoodD q1 dC:=by kernel_rfl
theorem c8 (w:World):(λ os=>wideSeen q1 (sF w os))=λ _:OsState=>wideGood q1:=by kernel_rfl
theorem c9 (w:World):(λ os=>clsSeenW q1 dC (sF w os))=λ _:OsState=>clsGoodW q1 dC:=by kernel_rfl
theorem c10 (w:World):(λ os=>Hook.obs H0 (sF w os))=λ _:OsState=>Hook.val H0 w:=by kernel_rfl
end
end Mine.H
namespace Mine
open PySem PySem.Calls PySem.W PyProof.Rows
noncomputable section
theorem vE {c:Cx}{n m:Nat}{f:Value}{vs:List AV}{σ:bH}{Q:bI}(h:n≤m)(x:fC c n f vs σ Q):fC c m f vs σ Q:=λ A s ws R G ra=>
 x A s ws ⟨R.hd,by have:=R.dep;omega,by have:=R.un;omega⟩ G ra
theorem BC {h:Heap}{vs:List Value}{is:List Int}(x:IntsAre vs is):bY h vs (is.map .int):=by
 induction x with
 |nil=>exact .nil
 |cons n t _ ih=>exact .cons (.mkI n t) ih
noncomputable def DT (K:Frag):Bool:=K.all λ p=> !(p.2.cls==.type "list")
theorem zR (p:Params):DT (H.K0 p)=true:=by kernel_rfl
theorem EV (p:Params):noTabs (H.K0 p)=true:=by kernel_rfl
noncomputable abbrev kN:Stmt:=H.st 67
theorem zz (n:Nat):cellsFrom n (H.stS kN).names []=[(sx gY,n+2),(sx di,n+1),(sx iE,n)]:=by kernel_rfl
noncomputable abbrev uy (pm cd doc:Value):FuncData:=docDef (Str.ofString "law") (H.stA kN) (H.stB kN) (H.stS kN) pm cd doc
theorem Qj:(vJ (H.stS kN).names&&decide (1≤(H.stS kN).names.length)&&ZE (H.stS kN).names 1 [iE,di,gY]&&pg qs 0 eN (H.stS kN).names (j5 (H.stB kN)) 0&&(H.stS kN).kind==.function&& !(H.stS kN).isCoroutine&& !(H.stS kN).isGenerator)=true:=by kernel_rfl
theorem MW:pr (.Pass ck) eN (H.stS kN).names (j5 (H.stB kN)) 0=H.stB kN:=by kernel_rfl
theorem Am (pm cd doc v:Value):bindArgs (uy pm cd doc) ⟨[v],[]⟩=pure ((pn (H.stS kN).names 1).zip [v]):=by kernel_rfl
section
variable {w:World}{s₁:Shared}{mg mb:Str→Option Value}{loose:List Str}{mean:ExcName→Option Value}{q:Program}
noncomputable abbrev Dt (h:Heap)(la:Addr):Heap:=hideAll h [231,la]
structure nF (w:World)(h:Heap)(mg mb:Str→Option Value)(la:Addr)(vs:List Value)(is:List Int):Prop where
 K:(H.K0 w.params).In h
 tab:h.get? 231=some (tabObj #[])
 ls:h.get? la=some (dJ vs.toArray 0)
 I:IntsAre vs is
 len:is.length≤cX
 g:h.Ns mainGlobals mg
 b:h.Ns builtinsNs mb
 bi:∀ x:Str,x≠"__name__"→mb x=bootBuiltins x
 nolim:h.NoLimit
 sm:∃ mm,h.Ns sysModules mm
 dig:∃ mc,h.Ns cStatics mc∧mc "sys.int_max_str_digits"=none
 bm:∃ bm ob,mg "__builtins__"=some (.ref bm)∧bm≠builtinsNs∧h.get? bm=some ob∧ob.cls=.type "module"∧ob.dict=some builtinsNs∧ob.data=.plain
variable {la:Addr}{vs:List Value}{is:List Int}
theorem nF.get (X:nF w s₁.heap mg mb la vs is){b:Addr}{o:Obj}(e:s₁.heap.get? b=some o)(h1:o≠tabObj #[])(h2:o≠dJ vs.toArray 0):(Dt s₁.heap la).get? b=some o:=
 hideAll_get _ e λ hm=>by
  rcases ap hm with rfl|hm
  ·exact h1 (aA (e.symm.trans X.tab))
  ·exact h2 (aA (e.symm.trans (aj hm▸X.ls)))
theorem nF.ns (X:nF w s₁.heap mg mb la vs is){a:Addr}{mm:Str→Option Value}(x:s₁.heap.Ns a mm):(Dt s₁.heap la).Ns a mm:=
 let ⟨o,es,ep,e,hd,r⟩:=x;⟨o,es,ep,X.get e (λ q=>by rw[q]at hd;cases hd) (λ q=>by rw[q]at hd;cases hd),hd,r⟩
theorem nF.KIn (X:nF w s₁.heap mg mb la vs is):(H.K0 w.params).In (Dt s₁.heap la):=λ a o e=>by
 have hm:=mem_of_lookupK e;refine X.get (X.K a o e) (λ q=>?_) λ q=>?_
 ·have h2:=List.all_eq_true.mp (EV w.params) (a,o) hm;subst q;exact absurd (show false=true from h2) Bool.false_ne_true
 ·have h2:=List.all_eq_true.mp (zR w.params) (a,o) hm;subst q;exact absurd (show false=true from h2) Bool.false_ne_true
noncomputable def nF.cx (X:nF w s₁.heap mg mb la vs is):Cx where
 prog:=H.r0.prog
 w:=w
 H:=Dt s₁.heap la
 K:=H.K0 w.params
 mg:=mg
 mb:=mb
 X:=X.KIn
 g:=X.ns X.g
 b:=X.ns X.b
 bi:=X.bi
 nolim:=let ⟨mc,a,r⟩:=X.nolim;⟨mc,X.ns a,r⟩
 sm:=let ⟨mm,n⟩:=X.sm;let ⟨o,_,_,e,_⟩:=X.ns n;⟨o,e⟩
 dig:=let ⟨mc,a,r⟩:=X.dig;⟨mc,X.ns a,r⟩
theorem nF.BM (X:nF w s₁.heap mg mb la vs is):BM X.cx:=by
 obtain⟨bm,ob,h1,h2,h3,h4,h5,h6⟩:=X.bm;refine⟨bm,ob,h1,h2,λ q=>?_,X.get h3 (λ q=>by rw[q]at h6;cases h6) (λ q=>by rw[q]at h6;cases h6),h4,h5,h6⟩;obtain⟨o,es,ep,e,hd,_⟩:=X.g;subst q;rw[e]at h3;cases h3;exact nomatch hd.symm.trans h6
abbrev xH (s₁:Shared):Result→Shared→Prop:=λ r s'=>r=.ok (.ret (.bool true))∧(∀ b o,b≠231→s₁.heap.get? b=some o→s'.heap.get? b=some o)∧(∃ ps,s'.heap.get? 231=some (tabObj ps))∧gw s₁ s'
theorem BD (PL:Bv)(X:nF w s₁.heap mg mb la vs is){fa:Addr}{o:Obj}{pm cd doc:Value}(ho:s₁.heap.get? fa=some o)(hd:o.data=.func (uy pm cd doc))(hcd:s₁.heap.CodeRec cd (Str.ofString "law")):
  codeAny (model H.r0.prog w) callerA (.call (.ref fa) ⟨[.ref la],[]⟩) (xH s₁) s₁:=by
 have b:=Qj;have b1:=bz b;have b2:=bz b1;have b3:=bz b2;have b4:=bz b3;have b5:=bz b4;have hne:la≠231:=λ q=>by
  have:=X.ls;rw[q,X.tab]at this;cases this
 let Q:bI:=λ v σ=>v=.bool true∧σ la=some (.lF vs.toArray 0 (is.map .int))∧∃ ps,σ 231=some (.raw (tabObj ps))
 have G0:X.cx.good (λ ω=>none) s₁.heap:=⟨λ b o e=>of_hideAll _ e,λ b ob e=>nomatch e⟩;have G2:=(G0.own (a:=231) (ob:=.raw (tabObj #[])) (hideAll_none _ (af ..)) ⟨X.tab,pH⟩).own (a:=la) (ob:=.lF vs.toArray 0 (is.map .int)) (hideAll_none _ (ag _ (af ..))) ⟨X.ls,BC X.I,(ak _).symm▸X.len⟩;have hown:fH ((bH.upd (λ ω=>none) 231 (.raw (tabObj #[]))).upd la (.lF vs.toArray 0 (is.map .int))) [(la,.lF vs.toArray 0 (is.map .int)),(231,.raw (tabObj #[]))]:=
  fH.new (fH.new (σ:=λ ω=>none) (l:=[]) trivial rfl) (fB hne)
 have hK:X.cx.K=H.K0 w.params:=rfl;refine codeAny_mono (JX (c:=X.cx) (n:=70) (Q:=Q) (k:=1) (ir:=eN) (vs:=[.loc la]) (ws:=[.ref la]) (uA hK) ⟨rfl,rfl,rfl,beq_iff_eq.mp (bA b2),(Bool.not_eq_true' _).mp (bA b1),(Bool.not_eq_true' _).mp (bA b),bz b5,bg (bA b5),λ s ws ω hl=>?_⟩ rfl ho hd hcd (bA b4) zz (by decide) (by decide) (by decide) ⟨MW,bA b3⟩ rfl ⟨rfl,by decide,by decide⟩ G2 (.cons (.mkL la) .nil) hown λ a1 a2 a3 σ' ho=>?_) λ r s' z=>?_
 ·obtain⟨v,rfl⟩:=List.length_eq_one_iff.mp hl;exact BindsTo.of_eq (Am pm cd doc v)
 ·refine Qq (J:=fC X.cx) (T:=RT D0) ⟨YK hK,Im hK X.BM⟩ vE PL (e:=[(231,.raw (tabObj #[]))]) (.inl rfl) rfl (λ e' he σ ho=>⟨rfl,ho.1,?_⟩) σ' ho;rcases he with rfl|⟨c',oc,rfl,_⟩
  ·exact⟨_,ho.2.2.1⟩
  ·exact⟨_,ho.2.2.1⟩
 ·rcases r with e|(_|_|_|v)
  ·exact z.elim
  ·exact z.elim
  ·exact z.elim
  ·exact z.elim
  ·obtain⟨b,σ',z⟩:=z;obtain⟨rfl,q1,ps,q2⟩:=z.q;obtain rfl:v=_:=z.r;refine⟨rfl,λ b o h3 e=>?_,⟨ps,(z.g.objs _ _ q2).2.1⟩,z.t⟩
   by_cases h4:b=la
   ·subst h4;have h5:=(z.g.objs _ _ q1).2.1;exact h5.trans (X.ls.symm.trans e)
   ·exact z.g.base b o (hideAll_get _ e λ hm=>by
     rcases ap hm with h|h
     ·exact h3 h
     ·exact h4 (aj h))
end
end
end Mine
namespace Mine.H
noncomputable section
open PySem PySem.W PyProof.Rows
theorem Qt {α β γ:Type}{a a':α}{b b':β}{c c':γ}(x:a=a')(y:b=b')(z:c=c'):(a,b,c)=(a',b',c'):=by rw[x,y,z]
theorem Oi {α1 α2 α3 α4 α5 α6 α7 α8 α9:Type}{a1 b1:α1}{a2 b2:α2}{a3 b3:α3}{a4 b4:α4}{a5 b5:α5}{a6 b6:α6}{a7 b7:α7}{a8 b8:α8}{a9 b9:α9}
  (h1:a1=b1) (h2:a2=b2) (h3:a3=b3) (h4:a4=b4) (h5:a5=b5) (h6:a6=b6) (h7:a7=b7) (h8:a8=b8) (h9:a9=b9):(a1,a2,a3,a4,a5,a6,a7,a8,a9)=(b1,b2,b3,b4,b5,b6,b7,b8,b9):=by
 rw[h1,h2,h3,h4,h5,h6,h7,h8,h9]
theorem Xf {a b1 b2 b3 b4 d x:Bool}(h:a=true)(h':(b1&&b2&&b3&&b4)=true)(h'':d=true)(h3:x=true):(a&&b1&&b2&&b3&&b4&&d&&x)=true:=by
 simp only[Bool.and_eq_true]at*;exact⟨⟨⟨⟨⟨⟨h,h'.1.1.1⟩,h'.1.1.2⟩,h'.1.2⟩,h'.2⟩,h''⟩,h3⟩
theorem c1' (w:World)(os:OsState):seen ((recsOf q1).map (·.name)) (ownsOf q1) [] { sF w os with gens:=#[] }=expectedOf q1:=congrFun (c1 w) os
theorem c3' (w:World)(os:OsState):Hs (sF w os)=true:=congrFun (c3c w) os
theorem c4' (w:World)(os:OsState):tabsOk q1 (sF w os)=true:=congrFun (c4 w) os
theorem c5' (w:World)(os:OsState):pinSeenD q1 (drecsOf q1) (sF w os)=pinGoodD (drecsOf q1):=congrFun (c5 w) os
theorem c6' (w:World)(os:OsState):plainSeenE q1 (looseW q1 dC) (sF w os)=plainGoodE q1 (looseW q1 dC):=congrFun (c6 w) os
theorem c7' (w:World)(os:OsState):plainSeenD q1 dC (sF w os)=plainGoodD q1 dC:=congrFun (c7 w) os
theorem c8' (w:World)(os:OsState):wideSeen q1 (sF w os)=wideGood q1:=congrFun (c8 w) os
theorem c9' (w:World)(os:OsState):clsSeenW q1 dC (sF w os)=clsGoodW q1 dC:=congrFun (c9 w) os
theorem Rz (w:World)(os:OsState):openSeen q1 dC Gq Hs true (sF w os)=openGood q1 dC:=by
 unfold openSeen openGood;exact Oi (c1' w os) (c2 w) (Xf (c3a w) (c3b w) (c3' w os) rfl) (c4' w os) (c5' w os) (c6' w os) (c7' w os) (c8' w os) (c9' w os)
theorem E4 (w:World):(λ os=>((staticsOk (importedModules P0.main.body) (boot_heap w.params) (qC w.params)&&namesBound P0 (qC w.params)&&gensDone ⟨qC w.params,#[],{},1051,os⟩&&laidKept (boot_heap w.params) (qC w.params)),
    openSeen q1 dC (importedModules P0.main.body) Hs true ⟨qC w.params,#[],{},1051,os⟩,Hook.obs H0 ⟨qC w.params,#[],{},1051,os⟩))=λ ω=>(true,openGood q1 dC,Hook.val H0 w):=by
 funext os
 exact Qt (congrFun (k1 w) os) (Rz w os) (congrFun (c10 w) os)
theorem MU:LeftO r0.prog q1 dC Hs (Hook.obs H0) (Hook.val H0) 20000:=
 LeftO.of_pieces (H₀:=boot_heap) (H₁:=qC) (gs₀:=#[]) (gs₁:=#[]) (d₀:=boot_drawn) (d₁:={}) (k₀:=boot_toks) (k₁:=1051) (m₀:=11) (ann:=fh) Ia J4 NU (by decide) E4
theorem rf (a:List WData)(x:ExcName):r0.claim.raises a x=false:=by kernel_rfl
theorem DD (a:WData):r0.claim.post [a] (.bool true) [a]=true:=by kernel_rfl
theorem MY:(chainsOk q1&&opensWell r0.prog&&(frees r0.toRowW&&r0.toRowW.within.isEmpty))=true:=by kernel_rfl
theorem I6:(stA (st 67)).defaults=[]:=by kernel_rfl
theorem DI:importsNone q1=true:=by kernel_rfl
set_option tactic.hygienic true in
theorem yQ {P:Params}{h:Heap}{a:Addr}{xs:List PyData}(w:Well P h (.ref a) (ofPy (.list xs))):∃ vs:List PySem.Value,h.get? a=some (dJ vs.toArray 0):=by
 have w:Well P h (.ref a) (.list (ofPys xs)):=w;generalize e:PySem.Value.ref a=v at w;generalize e2:WData.list (ofPys xs)=d at w;cases w<;>first|cases e2|skip
 rename_i vs _ h2 _;cases e;exact⟨_,h2⟩
theorem HR:defOf q1 r0.name=some (⟨Str.ofString "law",stA (st 67),stB (st 67),stS (st 67),stP (st 67)⟩,[]):=by kernel_rfl
theorem Dx {s₀ s₁ s':Shared}{d:WData}{r:Result}(hg:s₁.gens=#[])(h:xH s₁ r s'):
  GoodW r0.claim (classAt s₀.heap) (ExcName.means s₀.heap) [d] { s₁ with heap:=ghostOf s₁.heap [(235,231)] } r s'∧GrownAll [(235,231)] s'.heap:=by
 obtain⟨hr,hk,hgr,hrest⟩:=h;subst hr;obtain⟨h',tk,rfl⟩:=hrest;refine⟨⟨.inl ⟨.bool true,.bool true,[],rfl,λ ω=>rf _ _,.bool true,DD _,λ ω=>⟨List.nodup_nil,λ ω h=>nomatch h⟩⟩,λ b o e=>?_,rfl,hg⟩,⟨hgr,trivial⟩⟩;refine hk b o (λ q=>?_) (of_hideAll _ e);subst q;have:(ghostOf s₁.heap [(235,231)]).get? 231=none:=hideAll_none _ (af ..);exact nomatch e.symm.trans this
theorem TF (PL:Bv){w:World}{s₀ s₁:Shared}{mg mb:Str→Option PySem.Value}{la:Addr}{vs:List PySem.Value}{is:List Int}(X:nF w s₁.heap mg mb la vs is){fa:Addr}{o:Obj}{pm cd doc:PySem.Value}{d:WData}(ho:s₁.heap.get? fa=some o)(hd:o.data=.func (uy pm cd doc))(hcd:s₁.heap.CodeRec cd (Str.ofString "law"))(hT9:TabsAt [(235,231)] s₁.heap)(hg:s₁.gens=#[]):
  wpAny (model r0.prog w) callerA (PySem.call (.ref fa) [.ref la]) (λ v s'=>GoodWG r0.claim (classAt s₀.heap) (ExcName.means s₀.heap) [d] s₁ (.ok (.ret v)) s') (λ e s'=>GoodWG r0.claim (classAt s₀.heap) (ExcName.means s₀.heap) [d] s₁ (.error e) s') s₁:=
 enter_call (kn_post hT9 rf (codeAny_mono (BD PL X ho hd hcd) λ r s' h=>Dx hg h))
theorem HX {o:Obj}{mg:Str→Option PySem.Value}{h:Heap}{pm cd doc dV kV:PySem.Value}(hD:Dflts mg h (stA (st 67)) [] dV kV)(hd:o.data=.func { Calls.docDef (Str.ofString "law") (stA (st 67)) (stB (st 67)) (stS (st 67)) pm cd doc with defaults:=dV,kwdefaults:=kV }):o.data=.func (uy pm cd doc):=by
 obtain⟨_,rfl⟩:=hD.pos.resolve_right λ z=>z.1 I6;obtain⟨_,rfl⟩:=hD.kw.resolve_right λ z=>z.1 rfl;exact hd
theorem Qe {P:Params}{h:Heap}{a:Addr}{xs:List PyData}{vs:List PySem.Value}(w:Well P h (.ref a) (ofPy (.list xs)))(hL:h.IsList a vs.toArray):h.get? a=some (dJ vs.toArray 0):=by
 obtain⟨vs',hls⟩:=yQ w;obtain⟨o',e1,_,n,e2⟩:=hL;rw[hls]at e1;cases e1;injection e2 with e3 _
 exact hls.trans (ae (λ x=>some (dJ x 0)) e3)
set_option tactic.hygienic true in
theorem go0 (PL:Bv)(Qp:r0.wellSaid=true):r0.Holds:=by
 have hl:LeftO r0.prog q1 dC Hs (Hook.obs (kmHook K0 sj uP [231])) (Hook.val (kmHook K0 sj uP [231])) 20000:=MU;refine holds_open (q:=q1) (loose:=dC) (Xt:=Hs) (XP:=XL q1 []) (Yf:=Hook.obs (kmHook K0 sj uP [231])) (Ya:=Hook.val (kmHook K0 sj uP [231])) (YP:=Hook.says (kmHook K0 sj uP [231])) (N:=20000) hl (Hook.of (kmHook K0 sj uP [231])) (Hook.keeps (kmHook K0 sj uP [231])) (λ s e=>xl_of s (Bool.and_eq_true_iff.mp e).1) XL.keeps HR (by kernel_rfl) (by kernel_rfl) (λ s e=>recFacts_of (Bool.and_eq_true_iff.mp e).2) (by rfl) Qp MY ⟨rfl,rfl,rfl,rfl,rfl,by kernel_rfl⟩ ?hw ?hc
 case hw=>w_witness2
 intro w s₀ s₁ mg mb G Y fa o pm cd doc dV kV ho hd hcd hD hmg hg args vals as hpre hlay hrd hwl hlo;have KX:=km_in_of Y;have hT8:=km_tabs_of Y;have X:=(Ground.X G).1;have V:=(Ground.X G).2;refine Ground.open G ?_;intro T B D TE TW;have hT9:TabsAt [(235,231)] s₁.heap:=List.forall_mem_cons.mpr ⟨⟨codeHd_of_K (c:=235) (P:=231) KX (by kernel_rfl),hT8 231 (aE rfl)⟩,λ ω h=>nomatch h⟩
 wrow_args hpre hlay hrd hwl hlo
 rename_i is _ _ _ _ _ _ _ la vs _ hL ra w1 rd hI _ hlen _;have hls:=Qe w1 hL;have hS:=T.seer DI;have hX:nF w s₁.heap mg mb la vs is:=⟨KX,hT8 231 (aE rfl),hls,hI,aa (Nat.le_of_not_lt λ h=>hlen (ba h)) (by decide),T.g,T.b,T.builtins,T.nolimit,hS.mods.imp λ ω h=>h.1,T.nodigits,T.bmain⟩;have hd2:o.data=.func (uy pm cd doc):=HX hD hd;exact TF PL hX ho hd2 hcd hT9 hg
end
end Mine.H
namespace Mine
open PySem
noncomputable section
structure Ae (s:Sy)(fo:Int):Prop where
 fs:∀ q∈s.fs,q.1<(s.ts.length:Int)
 tx:∀ j:Int,fo≤j→j<100→jQ j∉s.ts
theorem wO:((List.range 100).map λ i:Nat=>jR (i:Int)).Nodup:=by decide+kernel
theorem BY {i j:Int}(h0:0≤i)(h1:i<100)(g0:0≤j)(g1:j<100)(h:jQ i=jQ j):i=j:=by
 obtain⟨a,rfl⟩:=Int.eq_ofNat_of_zero_le h0;obtain⟨b,rfl⟩:=Int.eq_ofNat_of_zero_le g0;have hd:jR (a:Int)=jR (b:Int):=List.append_cancel_left h;have ha:((List.range 100).map λ i:Nat=>jR (i:Int))[a]? =some (jR (a:Int)):=by rw[aZ,List.getElem?_range (Int.ofNat_lt.mp h1)];rfl
 have hb:((List.range 100).map λ i:Nat=>jR (i:Int))[b]? =some (jR (b:Int)):=by rw[aZ,List.getElem?_range (Int.ofNat_lt.mp g1)];rfl
 exact ae Int.ofNat ((List.getElem?_inj (az ha).1 wO).mp (ha.trans (hd▸hb.symm)))
theorem yo {s:Sy}{x:Sx}(n:Int)(hf:∀ q∈s.fs,q.1<(s.ts.length:Int))(hx:x∉s.ts):s.func x n=(((s.fs.length:Nat):Int),⟨s.ts++[x],s.fs++[(((s.ts.length:Nat):Int),n)]⟩):=by
 have h1:s.atom x=(((s.ts.length:Nat):Int),⟨s.ts++[x],s.fs⟩):=aK hx;unfold Sy.func;rw[h1];exact aK λ q=>Int.lt_irrefl _ (hf _ q)
theorem Ae.functor {s:Sy}{fo a n:Int}(h:Ae s fo)(ha:a<(s.ts.length:Int)):Ae (s.functor a n).2 fo:=by
 by_cases q:(a,n)∈s.fs
 ·rw[show s.functor a n=_ from aL q];exact h
 ·rw[show s.functor a n=_ from aK q];exact⟨λ p hp=>(eh.mp hp).elim (λ e=>(ae Prod.fst e).symm▸ha) (h.fs p),h.tx⟩
theorem Ae.aux {s:Sy}{fo:Int}(h:Ae s fo)(n:Int)(h0:0≤fo)(h1:fo<100):Ae (s.func (jQ fo) n).2 (fo+1):=by
 rw[yo n h.fs (h.tx fo (bj _) h1)];have hl:((s.ts++[jQ fo]).length:Int)=s.ts.length+1:=ae Int.ofNat (bK ..);refine⟨λ p hp=>?_,λ j hj hj1 hm=>?_⟩
 ·show p.1<((s.ts++[jQ fo]).length:Int);rw[hl];exact (eh.mp hp).elim (λ e=>(ae Prod.fst e).symm▸Int.lt_succ _) λ e=>Int.lt_trans (h.fs p e) (Int.lt_succ _)
 ·have hle:fo≤j:=aS (Int.le_of_lt (Int.lt_succ fo)) hj;refine (eh.mp hm).elim (λ e=>?_) (h.tx j hle hj1);have:=BY (aS h0 hle) hj1 h0 h1 e;exact absurd (aJ (Int.lt_succ fo) hj) (this▸Int.lt_irrefl _)
theorem iS.n {s:Sy}(h:iS s){fo:Int}(h0:0≤fo):Ae s fo:=⟨h.fs,λ j hj h1=>h.tx j (aS h0 hj) h1⟩
structure IQ (P:Bd→Prop)(nv0:Int):Prop where
 com:∀ {x y},P (.com x y)→P x∧P y
 sem:∀ {x y},P (.sem x y)→P x∧P y
 arr:∀ {x y},P (.arr x y)→P x∧P y
 neg:∀ {x},P (.neg x)→cY x=true→P x
 n24:∀ {x},P (.neg x)→P (.lf (.s 24 [x.tm]))
 v:∀ {t},P t→∀ x∈t.tm.vars,x<nv0
def yc (nv0 nv tg:Int):Prop:=tg= -1∨(nv0≤tg∧tg<nv)
def tF (P:Bd→Prop)(nv0 nv:Int):It→Prop
 |.body t tg=>P t∧yc nv0 nv tg
 |.mark _=>False
 |.own=>True|.fail=>True
def uo (P:Bd→Prop)(nv0 lo nv:Int):List It→Prop
 |.mark k::r=>(lo≤k∧k<nv)∧∀ i∈r,tF P nv0 nv i
 |.body t tg::r=>tF P nv0 nv (.body t tg)∧∀ i∈r,tF P nv0 nv i
 |.own::r=>∀ i∈r,tF P nv0 nv i
 |.fail::r=>∀ i∈r,tF P nv0 nv i
 |[]=>True
theorem yc.mono {nv0 nv nv' tg:Int}(h:yc nv0 nv tg)(hn:nv≤nv'):yc nv0 nv' tg:=h.imp_right λ q=>⟨q.1,aJ q.2 hn⟩
theorem tF.mono {P:Bd→Prop}{nv0 nv nv':Int}{i:It}(h:tF P nv0 nv i)(hn:nv≤nv'):tF P nv0 nv' i:=by
 rcases i with⟨t,tg⟩|k|_|_
 ·exact⟨h.1,h.2.mono hn⟩
 ·exact h
 ·trivial
 ·trivial
theorem uo.mono {P:Bd→Prop}{nv0 lo lo' nv nv':Int}{b:List It}(h:uo P nv0 lo nv b)(hl:lo'≤lo)(hn:nv≤nv'):uo P nv0 lo' nv' b:=by
 rcases b with _|⟨⟨t,tg⟩|k|_|_,r⟩
 ·trivial
 ·exact⟨tF.mono (i:=.body t tg) h.1 hn,λ i hi=>(h.2 i hi).mono hn⟩
 ·exact⟨⟨aS hl h.1.1,aJ h.1.2 hn⟩,λ i hi=>(h.2 i hi).mono hn⟩
 ·exact λ i hi=>(h i hi).mono hn
 ·exact λ i hi=>(h i hi).mono hn
structure YF (P:Bd→Prop)(nv0 nv nv':Int)(b:List It):Prop where
 le:nv≤nv'
 v:uo P nv0 nv nv' b
structure Y8 (P:Bd→Prop)(nv0 nv nv':Int)(bs:List (List It)):Prop where
 le:nv≤nv'
 v:∀ b∈bs,uo P nv0 nv nv' b
section
variable {P:Bd→Prop}{nv0 nv tg:Int}{t x y:Bd}
theorem Dh {r:List It}(ht:P t)(h0:nv0≤nv)(hr:∀ i∈r,tF P nv0 nv i):YF P nv0 nv (n9 t nv) (fu t nv++r):=by
 unfold n9 fu;cases hc t with
 |true=>
  have hn:nv≤nv+1:=Int.le_of_lt (Int.lt_succ nv);refine⟨hn,⟨⟨bj _,Int.lt_succ nv⟩,λ i hi=>?_⟩⟩;rcases ap hi with rfl|hi
  ·exact⟨ht,.inr ⟨h0,Int.lt_succ nv⟩⟩
  ·exact (hr i hi).mono hn
 |false=>exact⟨bj _,⟨ht,.inl rfl⟩,hr⟩
variable (C:IQ P nv0)
include C
theorem HZ (ht:P t)(h0:nv0≤nv)(hg:yc nv0 nv tg):YF P nv0 nv (lT nv t) (lj tg nv t):=by
 rcases t with f|⟨x,y⟩|⟨x,y⟩|⟨x,y⟩|x
 ·exact⟨bj _,⟨ht,hg⟩,nofun⟩
 ·exact⟨bj _,⟨ht,hg⟩,nofun⟩
 ·exact⟨bj _,⟨ht,hg⟩,nofun⟩
 ·have h:=C.arr ht;refine Dh h.1 h0 λ i hi=>?_;rcases ap hi with rfl|hi
  ·trivial
  ·exact aj hi▸⟨h.2,hg⟩
 ·exact⟨bj _,⟨ht,hg⟩,nofun⟩
theorem RJ:∀ {l:List Bd} {nv:Int},(∀ t∈l,P t)→nv0≤nv→yc nv0 nv tg→Y8 P nv0 nv (Cw nv l) (tj tg nv l):=by
 intro l
 induction l with
 |nil=>exact λ ω ω ω=>⟨bj _,nofun⟩
 |cons t r ih=>
  intro nv h h0 hg;have h1:=HZ C (h t (af ..)) h0 hg;have h2:=ih (nv:=lT nv t) (λ t ht=>h t (ag _ ht)) (aS h0 h1.le) (hg.mono h1.le);refine⟨aS h1.le h2.le,λ b hb=>?_⟩;rcases ap hb with rfl|hb
  ·exact h1.v.mono (bj _) h2.le
  ·exact (h2.v b hb).mono h1.le (bj _)
theorem xw:∀ {t:Bd},P t→∀ z∈bW t,P z:=by
 intro t
 induction t with
 |sem x y hx hy=>
  intro h z hz;rcases ap hz with rfl|hz
  ·exact (C.sem h).1
  ·exact hy (C.sem h).2 z hz
 |_=>exact λ h z hz=>aj hz▸h
theorem Ml (ht:P t)(h0:nv0≤nv)(hg:yc nv0 nv tg):Y8 P nv0 nv (Es nv t) (jd tg nv t):=by
 rcases t with f|⟨x,y⟩|⟨x,y⟩|⟨x,y⟩|x
 ·exact⟨bj _,nofun⟩
 ·exact⟨bj _,nofun⟩
 ·exact RJ C (xw C ht) h0 hg
 ·exact RJ C (xw C ht) h0 hg
 ·have h1:YF P nv0 nv (CQ x nv) (ql x nv):=by
   unfold CQ ql;cases e:cY x with
   |true=>exact Dh (C.neg ht e) h0 λ i hi=>by rcases ap hi with rfl|hi;trivial;exact aj hi▸trivial
   |false=>exact⟨bj _,⟨C.n24 ht,.inl rfl⟩,λ i hi=>by rcases ap hi with rfl|hi;trivial;exact aj hi▸trivial⟩
  refine⟨h1.le,λ b hb=>?_⟩;rcases ap hb with rfl|hb
  ·exact h1.v
  ·exact aj hb▸trivial
end
structure Gp where
 f:Int
 ws:List Wk
structure QT (s3 s:Sy)(name:Sx)(g:Gp)(fi ai:Nat)(n:Int):Prop where
 f:g.f=fi
 fs:s.fs[fi]? =some ((ai:Int),n)
 ts:s.ts[ai]? =some name
 lf:s3.fs.length≤fi
 lt:s3.ts.length≤ai
 ne:g.ws≠[]
 wf:∀ w∈g.ws,w.f=g.f
structure Ky (P:Bd→Prop)(nv0 nv:Int)(w:Wk)(lo:Int):Prop where
 a:∀ x∈Tm.varsL w.args,x<lo
 l0:nv0≤lo
 l1:lo≤nv
 i:uo P nv0 lo nv w.items
structure gT (P:Bd→Prop)(s3:Sy)(fo0 nv0:Int)(w0:Wk)(p:PS)(Γ:List Gp):Prop where
 X:fP s3 p.sy
 N:Ae p.sy p.fo
 f0:0≤fo0
 fo:p.fo=fo0+Γ.length
 w:p.work=w0::Γ.flatMap (·.ws)
 g:∀ (j:Nat) (g:Gp),Γ[j]? =some g→∃ fi ai n,QT s3 p.sy (jQ (fo0+(j:Int))) g fi ai n
 lt:(Γ.map (·.f)).Pairwise (·<·)
 nv:nv0≤p.nv
 v:∀ w∈p.work,∃ lo,Ky P nv0 p.nv w lo
theorem yq {α:Type}{a b:List α}{i:Nat}{x:α}(h:a<+:b)(e:a[i]? =some x):b[i]? =some x:=by
 obtain⟨z,rfl⟩:=h;rw[bw (az e).1];exact e
theorem QT.up {s3 s s':Sy}{name:Sx}{g:Gp}{fi ai:Nat}{n:Int}(h:QT s3 s name g fi ai n)(x:fP s s'):QT s3 s' name g fi ai n:=⟨h.f,yq x.fs h.fs,yq x.ts h.ts,h.lf,h.lt,h.ne,h.wf⟩
theorem Ky.up {P:Bd→Prop}{nv0 nv nv' lo:Int}{w:Wk}(h:Ky P nv0 nv w lo)(hn:nv≤nv'):Ky P nv0 nv' w lo:=⟨h.a,h.l0,aS h.l1 hn,h.i.mono (bj _) hn⟩
section
variable {P:Bd→Prop}{s3:Sy}{fo0 nv0:Int}{w0:Wk}{p p':PS}{Γ:List Gp}
theorem gT.tab (h:gT P s3 fo0 nv0 w0 p Γ)(x:fP p.sy p'.sy)(N:Ae p'.sy p'.fo)(hf:p'.fo=p.fo)(hw:p'.work=p.work)(hn:p.nv≤p'.nv):gT P s3 fo0 nv0 w0 p' Γ:=
 ⟨h.X.trans x,N,h.f0,hf.trans h.fo,hw.trans h.w,λ j g e=>have⟨fi,ai,n,q⟩:=h.g j g e;⟨fi,ai,n,q.up x⟩,h.lt,aS h.nv hn,λ w hm=>have⟨lo,q⟩:=h.v w (hw▸hm);⟨lo,q.up hn⟩⟩
theorem xm {fn:Int}{as:List Tm}{P:Wk→Prop}:∀ {lis:List Addr} {its:List (List It)},(∀ a i,i∈its→P ⟨fn,as,i,a⟩)→∀ w∈on fn as lis its,P w:=by
 intro lis
 induction lis with
 |nil=>exact λ ω w hw=>nomatch hw
 |cons a l ih=>
  intro its h w hw;rcases its with _|⟨i,r⟩
  ·cases hw
  ·rcases ap hw with rfl|hw
   ·exact h a i (af ..)
   ·exact ih (λ a i hi=>h a i (ag _ hi)) w hw
theorem gT.grp {ws:List Wk}(h:gT P s3 fo0 nv0 w0 p Γ){n:Int}(h1:p.fo<100)(hs:p'.sy=(p.sy.func (jQ p.fo) n).2)(hf:p'.fo=p.fo+1)(hw:p'.work=p.work++ws)(hn:p.nv≤p'.nv)(hne:ws≠[])(hwf:∀ w∈ws,w.f=(p.sy.func (jQ p.fo) n).1)(hv:∀ w∈ws,∃ lo,Ky P nv0 p'.nv w lo):
  gT P s3 fo0 nv0 w0 p' (Γ++[⟨(p.sy.func (jQ p.fo) n).1,ws⟩]):=by
 have h0:0≤p.fo:=h.fo▸Int.add_nonneg h.f0 (bf _);have e:=yo n h.N.fs (h.N.tx p.fo (bj _) h1);have x:fP p.sy p'.sy:=by rw[hs,e];exact⟨bv ..,bv ..⟩
 refine⟨h.X.trans x,hs▸hf▸h.N.aux n h0 h1,h.f0,?_,?_,λ j g hj=>?_,?_,aS h.nv hn,λ w hm=>?_⟩
 ·rw[hf,h.fo,bK];exact Int.add_assoc ..
 ·rw[hw,h.w,List.flatMap_append];exact ae (w0::·) (ae (_++·) (aq ws).symm)
 ·by_cases q:j<Γ.length
  ·rw[bw q]at hj;obtain⟨fi,ai,m,z⟩:=h.g j g hj;exact⟨fi,ai,m,z.up x⟩
  ·have hl:=(az hj).1;rw[bK]at hl;obtain rfl:j=Γ.length:=Nat.le_antisymm (Nat.le_of_lt_succ hl) (Nat.le_of_not_lt q);rw[List.getElem?_append_right (au _),Nat.sub_self]at hj;obtain rfl:_=g:=aA hj;refine⟨p.sy.fs.length,p.sy.ts.length,n,ae Prod.fst e,?_,?_,h.X.fs.length_le,h.X.ts.length_le,hne,hwf⟩
   ·rw[hs,e];exact List.getElem?_concat_length
   ·rw[hs,e,←h.fo];exact List.getElem?_concat_length
 ·rw[aN,List.pairwise_append];refine⟨h.lt,List.pairwise_singleton ..,λ a ha b hb=>?_⟩;obtain⟨g,hg,rfl⟩:=be ha;obtain⟨j,hj⟩:=List.getElem?_of_mem hg;obtain⟨fi,ai,m,z⟩:=h.g j g hj;obtain rfl:=aj hb;show g.f<(p.sy.func (jQ p.fo) n).1;rw[e,z.f];exact ba (az z.fs).1
 ·rw[hw]at hm;rcases aT hm with hm|hm
  ·obtain⟨lo,q⟩:=h.v w hm;exact⟨lo,q.up hn⟩
  ·exact hv w hm
end
def vf (nvS nv:Int)(cs:CS):Prop:=cs.level<0∨(nvS≤cs.level∧cs.level<nv)
structure tJ (nvS nv nv':Int)(cs cs':CS):Prop where
 le:nv≤nv'
 v:vf nvS nv' cs'
 st:0≤cs.level→cs'.level=cs.level
section
variable {nv0 nvS nv tg:Int}{cs:CS}{g:Bd}
theorem vf.mono {nv':Int}(h:vf nvS nv cs)(hn:nv≤nv'):vf nvS nv' cs:=h.imp_right λ q=>⟨q.1,aJ q.2 hn⟩
structure IR (nvS nv:Int)(cs:CS):Prop where
 le:nv≤fD cs nv
 lt:ce cs nv<fD cs nv
 ge:nvS≤ce cs nv
 v:vf nvS (fD cs nv) (cs.lv (ce cs nv))
 st:0≤cs.level→ce cs nv=cs.level
theorem oZ (h:vf nvS nv cs)(hn:nvS≤nv):IR nvS nv cs:=by
 by_cases q:cs.level<0
 ·have e1:ce cs nv=nv:=aL q;have e2:fD cs nv=nv+1:=aL q;have a1:ce cs nv<fD cs nv:=by rw[e1,e2];exact Int.lt_succ nv
  have a2:nvS≤ce cs nv:=by rw[e1];exact hn
  exact⟨by rw[e2];exact Int.le_of_lt (Int.lt_succ nv),a1,a2,.inr ⟨a2,a1⟩,λ z=>absurd q (Int.not_lt.mpr z)⟩
 ·have e1:ce cs nv=cs.level:=aK q;have e2:fD cs nv=nv:=aK q;have h':=h.resolve_left q;have a1:ce cs nv<fD cs nv:=by rw[e1,e2];exact h'.2
  have a2:nvS≤ce cs nv:=by rw[e1];exact h'.1
  exact⟨by rw[e2];exact bj _,a1,a2,.inr ⟨a2,a1⟩,λ ω=>e1⟩
theorem IR.s (h:IR nvS nv cs):tJ nvS nv (fD cs nv) cs (cs.lv (ce cs nv)):=⟨h.le,h.v,h.st⟩
theorem gB (h:vf nvS nv cs):tJ nvS nv nv cs cs:=⟨bj _,h,λ ω=>rfl⟩
theorem GU (h:vf nvS nv cs)(hn:nvS≤nv):tJ nvS nv (sB tg cs nv) cs (lu tg cs nv):=by
 unfold sB lu
 by_cases q:tg= -1
 ·rw[aL q,aL q];cases cs.called with
  |true=>exact (oZ h hn).s
  |false=>exact gB h
 ·rw[aK q,aK q];exact gB h
structure WA (nv0 nvS nv:Int)(tg:Int)(cs:CS)(g:Bd):Prop where
 s:tJ nvS nv (m4 g tg cs nv) cs (zK g tg cs nv)
 t:yc nv0 (m4 g tg cs nv) (iI g tg cs nv)
theorem H8 (h:vf nvS nv cs)(hn:nvS≤nv)(h0:nv0≤nvS)(ht:yc nv0 nv tg):WA nv0 nvS nv tg cs g:=by
 have L:=oZ h hn;refine⟨?_,?_⟩
 ·unfold m4 zK;cases hc g with
  |false=>exact gB h
  |true=>
   show tJ nvS nv (if tg= -1 then fD cs nv else nv) cs (if tg= -1 then cs.lv (ce cs nv)else cs)
   by_cases q:tg= -1
   ·rw[aL q,aL q];exact L.s
   ·rw[aK q,aK q];exact gB h
 ·unfold m4 iI;cases hc g with
  |false=>exact .inl rfl
  |true=>
   show yc nv0 (if tg= -1 then fD cs nv else nv) (if tg= -1 then ce cs nv else tg)
   by_cases q:tg= -1
   ·rw[aL q,aL q];exact .inr ⟨aS h0 L.ge,L.lt⟩
   ·rw[aK q,aK q];exact ht
theorem pZ {occ:List Int}{t:Tm}{k:Int}(h:k∈cg occ t):k∈t.vars:=by
 have h1:=(List.mem_filter.mp h).1;exact (wy _ h1).resolve_left nofun
theorem ES {occ:List Int}(hp:0≤nv0)(hv:∀ x∈g.tm.vars,x<nv0)(h0:nv0≤m4 g tg cs nv)(h:WA nv0 nvS nv tg cs g):∀ x∈Tm.varsL (tD occ g tg cs nv),x<m4 g tg cs nv:=by
 intro x hx;have hk:∀ k∈cg occ g.tm,k<m4 g tg cs nv:=λ k hk=>aJ (hv k (pZ hk)) h0;have ht:=h.t;unfold tD at hx;cases e:hc g with
 |false=>
  rw[e]at hx;have hx:x∈Tm.varsL (cK (cg occ g.tm)++[]):=hx;rw[aq,ft]at hx;exact hk x hx
 |true=>
  rw[e]at hx;have hx:x∈Tm.varsL (cK (cg occ g.tm)++cK [iI g tg cs nv]):=hx;have e2:cK (cg occ g.tm)++cK [iI g tg cs nv]=cK (cg occ g.tm++[iI g tg cs nv]):=(aN ..).symm;rw[e2,ft]at hx;rcases eh.mp hx with rfl|hx
  ·rcases ht with q|q
   ·rw[q];exact aJ (aJ (show (-1:Int)<0 by decide) hp) h0
   ·exact q.2
  ·exact hk x hx
end
section
variable {P:Bd→Prop}{s3:Sy}{fo0 nv0 nvS tg:Int}{w0:Wk}{p:PS}{Γ:List Gp}{cs:CS}{g:Bd}{occ:List Int}{lis:List Addr}
theorem EI {bt nv:Int}(h:g.isCh=true):jd bt nv g≠[]:=by
 rcases g with f|⟨x,y⟩|⟨x,y⟩|⟨x,y⟩|x
 ·cases h
 ·cases h
 ·exact nofun
 ·exact nofun
 ·exact nofun
theorem Ku {fn:Int}{as:List Tm}{its:List (List It)}(hl:lis.length=its.length)(h:its≠[]):on fn as lis its≠[]:=by
 rcases its with _|⟨i,r⟩
 ·exact absurd rfl h
 ·rcases lis with _|⟨a,l⟩
  ·cases hl
  ·exact nofun
structure AxI (P:Bd→Prop)(s3:Sy)(fo0 nv0 nvS:Int)(w0:Wk)(occ:List Int)(g:Bd)(tg:Int)(cs:CS)(p:PS)(lis:List Addr)(Γ:List Gp):Prop where
 I:gT P s3 fo0 nv0 w0 (Ds occ g tg cs p lis) (Γ++[⟨(qk occ g tg cs p).1,on (qk occ g tg cs p).1 (tD occ g tg cs p.nv) lis (jd (iI g tg cs p.nv) (m4 g tg cs p.nv) g)⟩])
 s:tJ nvS p.nv (Ds occ g tg cs p lis).nv cs (zK g tg cs p.nv)
 a:WA nv0 nvS p.nv tg cs g
theorem gT.ax (C:IQ P nv0)(h:gT P s3 fo0 nv0 w0 p Γ)(hp:0≤nv0)(h1:p.fo<100)(hg:g.isCh=true)(hv:P g)(hL:vf nvS p.nv cs)(hn:nvS≤p.nv)(h0:nv0≤nvS)(ht:yc nv0 p.nv tg)(hl:lis.length=(nR tg cs p g).length):AxI P s3 fo0 nv0 nvS w0 occ g tg cs p lis Γ:=by
 have A:=H8 (g:=g) hL hn h0 ht;have hN:nv0≤m4 g tg cs p.nv:=aS h0 (aS hn A.s.le);have B:=Ml C (t:=g) hv hN A.t;have hle:=aS A.s.le B.le;refine⟨h.grp h1 rfl rfl rfl hle (Ku hl (EI hg)) (xm λ a i hi=>rfl) (xm λ a i hi=>⟨m4 g tg cs p.nv,ES hp (C.v hv) hN A,hN,B.le,B.v i hi⟩),⟨hle,A.s.v.mono B.le,A.s.st⟩,A⟩
end
def yd (P:Bd→Prop)(nv0 nv:Int):El→Prop
 |.goal t tg=>P t∧yc nv0 nv tg∧t.isCom=false
 |.own=>True|.fail=>True|.mark _=>True
structure Kw (P:Bd→Prop)(s3:Sy)(fo0 nv0 nvS:Int)(w0:Wk)(cs:CS)(p:PS)(Γ:List Gp)(cs':CS)(p':PS)(Γ':List Gp):Prop where
 I:gT P s3 fo0 nv0 w0 p' Γ'
 s:tJ nvS p.nv p'.nv cs cs'
 g:Γ<+:Γ'
noncomputable def wA (occ:List Int)(t:Bd)(tg:Int)(cs:CS)(p:PS)(lis:List Addr):Gp:=⟨(qk occ t tg cs p).1,on (qk occ t tg cs p).1 (tD occ t tg cs p.nv) lis (jd (iI t tg cs p.nv) (m4 t tg cs p.nv) t)⟩
noncomputable def zG (occ:List Int)(cs:CS)(p:PS)(lis:List Addr):El→List Gp
 |.goal t tg=>(match t.isCh with|true=>[wA occ t tg cs p lis]|false=>[])
 |.own=>[]|.fail=>[]|.mark _=>[]
section
variable {P:Bd→Prop}{s3:Sy}{fo0 nv0 nvS:Int}{w0:Wk}{p:PS}{Γ:List Gp}{cs:CS}{occ:List Int}{lis:List Addr}{e:El}
theorem tJ.lvl {nv nv':Int}{cs' cs2:CS}(h:tJ nvS nv nv' cs cs')(e:cs2.level=cs'.level):tJ nvS nv nv' cs cs2:=
 ⟨h.le,by unfold vf;rw[e];exact h.v,λ z=>e.trans (h.st z)⟩
theorem JV {t:Tm}{tg:Int}(h:∀ n,t≠.a n):(Dq tT tg cs p t).level=cs.level:=by
 rcases t with n|n|n|⟨f,as⟩
 ·rfl
 ·exact absurd rfl (h n)
 ·rfl
 ·show (if f=10 then (match (generalizing:=false) as with|[x,y]=>cs.add (.unify x y)|_=>cs)else if f=tT then cs.add (.blt f as)else (cs.add (.call f as)).mark).level=_
  split
  ·rcases as with _|⟨x,_|⟨y,_|⟨z,r⟩⟩⟩<;>rfl
  ·split<;>rfl
theorem Ik (C:IQ P nv0)(hA:∀ n,P (.lf (.a n))→n<(s3.ts.length:Int))(h:gT P s3 fo0 nv0 w0 p Γ)(hp:0≤nv0)(h1:p.fo<100)(hL:vf nvS p.nv cs)(hn:nvS≤p.nv)(h0:nv0≤nvS)(he:yd P nv0 p.nv e)(hl:lis.length=(wL cs p e).length):
  Kw P s3 fo0 nv0 nvS w0 cs p Γ (nq occ cs p e) (wW occ cs p lis e) (Γ++zG occ cs p lis e):=by
 have ch:∀ {t:Bd} {tg:Int},t.isCh=true→P t→yc nv0 p.nv tg→lis.length=(nR tg cs p t).length→Kw P s3 fo0 nv0 nvS w0 cs p Γ (Fo occ t tg cs p) (Ds occ t tg cs p lis) (Γ++[wA occ t tg cs p lis]):=λ {t tg} hc ht hg hl=>by
  have A:=h.ax (occ:=occ) C hp h1 hc ht hL hn h0 hg hl;exact⟨A.I,A.s.lvl rfl,bv ..⟩
 have no:∀ {cs':CS} {p':PS},gT P s3 fo0 nv0 w0 p' Γ→tJ nvS p.nv p'.nv cs cs'→Kw P s3 fo0 nv0 nvS w0 cs p Γ cs' p' (Γ++[]):=λ a b=>by rw[aq];exact⟨a,b,bx⟩
 rcases e with⟨t,tg⟩|_|_|k
 ·obtain⟨ht,hg,hcm⟩:=he;rcases t with f|⟨x,y⟩|⟨x,y⟩|⟨x,y⟩|x
  ·rcases f with n|n|n|⟨f,as⟩
   ·exact no h ((gB hL).lvl rfl)
   ·have hts:n<(p.sy.ts.length:Int):=aJ (hA n ht) (bn h.X.ts.length_le);have S:tJ nvS p.nv (if n=15 then sB tg cs p.nv else p.nv) cs (Dq tT tg cs p (.a n)):=by
     show tJ nvS p.nv _ cs (if n=15 then (lu tg cs p.nv).add (kR tg cs p.nv)else if n=17∨n=18 then cs.add .fail else (cs.add (.call (p.sy.functor n 0).1 [])).mark)
     by_cases q:n=15
     ·rw[aL q,aL q];exact (GU hL hn).lvl rfl
     ·rw[aK q,aK q]
      split
      ·exact (gB hL).lvl rfl
      ·exact (gB hL).lvl rfl
    exact no (h.tab (p':=SA tg cs p (.a n)) (eI p.sy n 0).x (h.N.functor hts) rfl rfl S.le) S
   ·exact no h ((gB hL).lvl rfl)
   ·exact no h ((gB hL).lvl (JV nofun))
  ·cases hcm
  ·exact ch (t:=.sem x y) rfl ht hg hl
  ·exact ch (t:=.arr x y) rfl ht hg hl
  ·exact ch (t:=.neg x) rfl ht hg hl
 ·have S:=GU (tg:= -1) hL hn;exact no (h.tab (p':=p.vr (sB (-1) cs p.nv)) (.refl _) h.N rfl rfl S.le) (S.lvl rfl)
 ·exact no h ((gB hL).lvl rfl)
 ·exact no h ((gB hL).lvl rfl)
end
section
variable (P:Bd→Prop)(s3:Sy)(fo0 nv0 nvS:Int)(w0:Wk)(occ:List Int)
inductive tG:CS→PS→List Gp→List El→CS→PS→List Gp→Prop
 |nil {cs:CS} {p:PS} {Γ:List Gp}:gT P s3 fo0 nv0 w0 p Γ→tG cs p Γ [] cs p Γ
 |cons {cs cs':CS} {p p':PS} {Γ Γ':List Gp} {e:El} {r:List El} (lis:List Addr):lis.length=(wL cs p e).length→yd P nv0 p.nv e→vf nvS p.nv cs→nvS≤p.nv→p.fo<100→gT P s3 fo0 nv0 w0 p Γ→Kw P s3 fo0 nv0 nvS w0 cs p Γ (nq occ cs p e) (wW occ cs p lis e) (Γ++zG occ cs p lis e)→
   tG (nq occ cs p e) (wW occ cs p lis e) (Γ++zG occ cs p lis e) r cs' p' Γ'→tG cs p Γ (e::r) cs' p' Γ'
end
theorem tJ.trans {nvS nv nv1 nv2:Int}{cs cs1 cs2:CS}(h:tJ nvS nv nv1 cs cs1)(h':tJ nvS nv1 nv2 cs1 cs2):tJ nvS nv nv2 cs cs2:=
 ⟨aS h.le h'.le,h'.v,λ z=>have e:=h.st z;(h'.st (e.symm▸z)).trans e⟩
theorem yd.mono {P:Bd→Prop}{nv0 nv nv':Int}{e:El}(h:yd P nv0 nv e)(hn:nv≤nv'):yd P nv0 nv' e:=by
 rcases e with⟨t,tg⟩|_|_|k
 ·exact⟨h.1,h.2.1.mono hn,h.2.2⟩
 all_goals trivial
section
variable {P:Bd→Prop}{s3:Sy}{fo0 nv0 nvS:Int}{w0:Wk}{occ:List Int}
theorem Dr.g (C:IQ P nv0)(hA:∀ n,P (.lf (.a n))→n<(s3.ts.length:Int))(hp:0≤nv0)(h0:nv0≤nvS){pS:PS}{kvs:List (Int×AV)}{R N Z:Nat}{ys:List El}{cs cs':CS}{p p':PS}(hs:Dr occ cs p ys cs' p'):
  ∀ {Γ:List Gp} {nw:List Wk},gT P s3 fo0 nv0 w0 p Γ→wE pS kvs R N Z ys cs p nw→(∀ e∈ys,e.ok)→(∀ e∈ys,yd P nv0 p.nv e)→vf nvS p.nv cs→nvS≤p.nv→∃ Γ',tG P s3 fo0 nv0 nvS w0 occ cs p Γ ys cs' p' Γ'∧Kw P s3 fo0 nv0 nvS w0 cs p Γ cs' p' Γ':=by
 induction hs with
 |nil=>exact λ {Γ nw} I ω ω ω hL ω=>⟨Γ,.nil I,⟨I,gB hL,bx⟩⟩
 |@cons cs cs' p p' e r lis hl _ ih=>
  intro Γ nw I S hok hv hL hn;have h1:=S.lid.fo;have he:=hv e (af ..);have E:=Ik (occ:=occ) C hA I hp h1 hL hn h0 he hl;obtain⟨nw',S',_⟩:=S.step (occ:=occ) (hok e (af ..)) hl;obtain⟨Γ',G,E'⟩:=ih E.I S' (λ x hx=>hok x (ag _ hx)) (λ x hx=>(hv x (ag _ hx)).mono E.s.le) E.s.v (aS hn E.s.le);exact⟨Γ',.cons lis hl he hL hn h1 I E G,⟨E'.I,E.s.trans E'.s,E.g.trans E'.g⟩⟩
end
section
variable {P:Bd→Prop}{nv0 lo nv:Int}(C:IQ P nv0)
include C
theorem Jp:∀ {t:Bd},P t→∀ z∈ee t,P z∧z.isCom=false:=by
 intro t
 induction t with
 |lf t=>
  intro h z hz;have hz:z∈(match za 16 t with|true=>[]|false=>[Bd.lf t]):=hz;cases e:za 16 t with
  |true=>rw[e]at hz;cases hz
  |false=>rw[e]at hz;exact aj hz▸⟨h,rfl⟩
 |com x y hx hy=>exact λ h z hz=>(aT hz).elim (hx (C.com h).1 z) (hy (C.com h).2 z)
 |sem x y=>exact λ h z hz=>aj hz▸⟨h,rfl⟩
 |arr x y=>exact λ h z hz=>aj hz▸⟨h,rfl⟩
 |neg x=>exact λ h z hz=>aj hz▸⟨h,rfl⟩
theorem yr {its:List It}:(∀ i∈its,tF P nv0 nv i)→∀ e∈bV its,yd P nv0 nv e:=by
 induction its with
 |nil=>exact λ ω ω h=>nomatch h
 |cons i r ih=>
  intro h e he;have hr:=ih λ i hi=>h i (ag _ hi);have hi:=h i (af ..);rcases i with⟨t,tg⟩|k|_|_
  ·have he:e∈(ee t).map (λ x=>El.goal x tg)++bV r:=he;rcases aT he with q|q
   ·obtain⟨z,hz,rfl⟩:=be q;have hf:=Jp C hi.1 z hz;exact⟨hf.1,hi.2,hf.2⟩
   ·exact hr e q
  ·exact hi.elim
  ·rcases ap he with rfl|q
   ·trivial
   ·exact hr e q
  ·rcases ap he with rfl|q
   ·trivial
   ·exact hr e q
theorem F6 {its:List It}(h:uo P nv0 lo nv its):∀ e∈bV its,yd P nv0 nv e:=by
 have all:∀ {i:It} {r:List It},tF P nv0 nv i→(∀ i∈r,tF P nv0 nv i)→∀ j∈i::r,tF P nv0 nv j:=λ a b j hj=>(ap hj).elim (λ e=>e▸a) (b j);rcases its with _|⟨⟨t,tg⟩|k|_|_,r⟩
 ·exact λ ω h=>nomatch h
 ·exact yr C (all (i:=.body t tg) h.1 h.2)
 ·intro e he;rcases ap he with rfl|q
  ·trivial
  ·exact yr C h.2 e q
 ·exact yr C (all (i:=.own) trivial h)
 ·exact yr C (all (i:=.fail) trivial h)
end
section
variable (P:Bd→Prop)(s3:Sy)(fo0 nv0:Int)(w0:Wk)
noncomputable abbrev VQ (kvs:List (Int×AV)):CS:=⟨[], -1,false,kvs⟩
structure L3 (sP:Sy)(Γe:List Gp)(j:Nat)(w:Wk)(K:KR)(b:List Gp)(q q':PS)(Γ:List Gp)(kvs:List (Int×AV))(cs':CS)(nw:List Wk)(R:Nat)(lo:Int):Prop where
 g:tG P s3 fo0 nv0 q.nv w0 (iw w) (VQ kvs) q Γ (bV w.items) cs' q' (Γ++b)
 e:Kw P s3 fo0 nv0 q.nv w0 (VQ kvs) q Γ cs' q' (Γ++b)
 K:K=⟨w.f,w.args,jt cs'⟩
 x:fP q'.sy sP
 p:Γ++b<+:Γe
 s:wE q kvs R 3700 7300 [] cs' q' nw
 v:Ky P nv0 q.nv w lo
 ok:rW w
 at_:q.work[j]? =some w
def zM (sP:Sy)(Γe:List Gp)(j:Nat)(w:Wk)(K:KR)(b:List Gp):Prop:=∃ q q' Γ kvs cs' nw R lo,L3 P s3 fo0 nv0 w0 sP Γe j w K b q q' Γ kvs cs' nw R lo
structure ze (ks:List KR)(p:PS)(Γ:List Gp)(bs:List (List Gp)):Prop where
 I:gT P s3 fo0 nv0 w0 p Γ
 l:bs.length=ks.length
 fl:bs.flatten=Γ
 r:∀ (j:Nat) (K:KR),ks[j]? =some K→∃ w b,bs[j]? =some b∧p.work[j]? =some w∧zM P s3 fo0 nv0 w0 p.sy Γ j w K b
end
section
variable {P:Bd→Prop}{s3:Sy}{fo0 nv0:Int}{w0:Wk}
theorem zM.mono {s s':Sy}{Γ Γ':List Gp}{j:Nat}{w:Wk}{K:KR}{b:List Gp}(h:zM P s3 fo0 nv0 w0 s Γ j w K b)(x:fP s s')(g:Γ<+:Γ'):zM P s3 fo0 nv0 w0 s' Γ' j w K b:=by
 obtain⟨q,q',G,kvs,cs',nw,R,lo,h⟩:=h;exact⟨q,q',G,kvs,cs',nw,R,lo,h.g,h.e,h.K,h.x.trans x,h.p.trans g,h.s,h.v,h.ok,h.at_⟩
theorem nN.g (C:IQ P nv0)(hA:∀ n,P (.lf (.a n))→n<(s3.ts.length:Int))(hp:0≤nv0){p0:PS}(h0:uW 0 p0)(I0:gT P s3 fo0 nv0 w0 p0 []){i:Nat}{ks:List KR}{p:PS}(h:nN p0 i ks p):∃ Γ bs,ze P s3 fo0 nv0 w0 ks p Γ bs:=by
 induction h with
 |nil=>exact⟨[],[],I0,rfl,rfl,λ j K e=>nomatch e⟩
 |@step i ks p p' w K hr hw hc ih=>
  obtain⟨Γ,bs,H⟩:=ih;obtain⟨RP,hkl,_⟩:=hr.ok h0;obtain⟨kvs,cs',hs,hK⟩:=hc.ex;have hwm:=aY hw;have hwk:=RP.ok w hwm;have hl:=RP.lid;rw[mf hw]at hl;obtain⟨lo,hv⟩:=H.I.v w hwm;have S0:=wE.start (R:=qq (p.work.drop (i+1))) kvs hwk hl;obtain⟨Γ',G,E⟩:=hs.g C hA hp H.I.nv H.I S0 (fG hwk.i).el (F6 C hv.i) (.inl (show (-1:Int)<0 by decide)) (bj _);obtain⟨nw,S⟩:=hs.ok S0 (fG hwk.i).el;obtain⟨b,rfl⟩:=E.g;refine⟨Γ++b,bs++[b],E.I,?_,?_,λ j K' e=>?_⟩
  ·rw[bK,bK,H.l]
  ·rw[List.flatten_append,H.fl,List.flatten_singleton]
  have wk:∀ {j:Nat} {w:Wk},p.work[j]? =some w→p'.work[j]? =some w:=λ e=>by
   rw[S.w,bw (az e).1];exact e
  by_cases q:j<ks.length
  ·rw[bw q]at e;obtain⟨w',b',e1,e2,r⟩:=H.r j K' e;exact⟨w',b',by rw[bw (H.l.symm▸q)];exact e1,wk e2,r.mono S.X E.g⟩
  ·have hlt:=(az e).1;rw[bK]at hlt;obtain rfl:j=ks.length:=Nat.le_antisymm (Nat.le_of_lt_succ hlt) (Nat.le_of_not_lt q);rw[List.getElem?_concat_length]at e;obtain rfl:=aA e;have hw':p.work[ks.length]? =some w:=hkl▸hw;exact⟨w,b,H.l▸List.getElem?_concat_length,wk hw',p,p',Γ,kvs,cs',nw,_,lo,G,E,hK,.refl _,bx,S,hv,hwk,hw'⟩
end
theorem xy {kt:List KR}{B:List Wk}{f:Int}(h:kt.map (·.f)=B.map (·.f))(hB:∀ w∈B,w.f≠f):kt.filter (λ K=>K.f==f)=[]:=
 List.filter_eq_nil_iff.mpr λ K hK e=>by
  have hm:K.f∈B.map (·.f):=h▸bk hK;obtain⟨w,hw,e2⟩:=be hm;exact hB w hw (e2.trans (beq_iff_eq.mp e))
theorem CL {kt:List KR}{W:List Wk}{f:Int}(h:kt.map (·.f)=W.map (·.f))(hW:∀ w∈W,w.f=f):kt.filter (λ K=>K.f==f)=kt:=
 List.filter_eq_self.mpr λ K hK=>by
  have hm:K.f∈W.map (·.f):=h▸bk hK;obtain⟨w,hw,e2⟩:=be hm;exact beq_iff_eq.mpr (e2.symm.trans (hW w hw))
theorem Xm {kt:List KR}{A W B:List Wk}{f:Int}(h:kt.map (·.f)=(A++(W++B)).map (·.f))(hA:∀ w∈A,w.f≠f)(hW:∀ w∈W,w.f=f)(hB:∀ w∈B,w.f≠f):kt.filter (λ K=>K.f==f)=(kt.drop A.length).take W.length:=by
 rw[aN]at h;obtain⟨kA,k2,rfl,h1,h2⟩:=List.map_eq_append_iff.mp h;rw[aN]at h2;obtain⟨kW,kB,rfl,h3,h4⟩:=List.map_eq_append_iff.mp h2;have l1:kA.length=A.length:=by have:=ae List.length h1;rwa [ak,ak]at this
 have l3:kW.length=W.length:=by have:=ae List.length h3;rwa [ak,ak]at this
 rw[List.filter_append,List.filter_append,xy h1 hA,CL h3 hW,xy h4 hB,List.nil_append,aq,←l1,←l3,List.drop_left,List.take_left]
section
variable {P:Bd→Prop}{s3:Sy}{fo0 nv0:Int}{w0:Wk}{p:PS}{Γ Γ1 Γ2:List Gp}{g:Gp}
theorem gT.wf (I:gT P s3 fo0 nv0 w0 p Γ){h:Gp}(hm:h∈Γ):∀ w∈h.ws,w.f=h.f:=by
 obtain⟨j,hj⟩:=List.getElem?_of_mem hm;obtain⟨fi,ai,n,q⟩:=I.g j h hj;exact q.wf
structure Mh (Γ1 Γ2:List Gp)(g:Gp):Prop where
 a:∀ w∈Γ1.flatMap (·.ws),w.f≠g.f
 b:∀ w∈Γ2.flatMap (·.ws),w.f≠g.f
theorem gT.apart (I:gT P s3 fo0 nv0 w0 p Γ)(e:Γ=Γ1++g::Γ2):Mh Γ1 Γ2 g:=by
 have h:=I.lt;rw[e,aN,List.map_cons,List.pairwise_append]at h;obtain⟨_,h2,h3⟩:=h;have h2:=List.pairwise_cons.mp h2;refine⟨λ w hw q=>?_,λ w hw q=>?_⟩
 ·obtain⟨x,hx,hwx⟩:=List.mem_flatMap.mp hw;have hf:=I.wf (e▸aH _ hx) w hwx;have:=h3 x.f (bk hx) g.f (af ..);rw[←hf,q]at this;exact Int.lt_irrefl _ this
 ·obtain⟨x,hx,hwx⟩:=List.mem_flatMap.mp hw;have hf:=I.wf (e▸aF _ (ag _ hx)) w hwx;have:=h2.1 x.f (bk hx);rw[←hf,q]at this;exact Int.lt_irrefl _ this
end
section
variable {P:Bd→Prop}{s3:Sy}{fo0 nv0:Int}{w0:Wk}{p:PS}{Γ Γ1 Γ2:List Gp}{bs:List (List Gp)}{g:Gp}{K0:KR}{kt:List KR}
theorem zM.f {s:Sy}{j:Nat}{w:Wk}{K:KR}{b:List Gp}(h:zM P s3 fo0 nv0 w0 s Γ j w K b):K.f=w.f:=by
 obtain⟨_,_,_,_,_,_,_,_,h⟩:=h;rw[h.K]
theorem ze.fs (H:ze P s3 fo0 nv0 w0 (K0::kt) p Γ bs)(hl:(K0::kt).length=p.work.length):kt.map (·.f)=(Γ.flatMap (·.ws)).map (·.f):=by
 have hw:=H.I.w;have hlen:kt.length=(Γ.flatMap (·.ws)).length:=by rw[hw]at hl;exact Nat.succ.inj hl
 refine List.ext_getElem? λ j=>?_;rw[aZ,aZ];cases e:kt[j]? with
 |none=>
  rw[List.getElem?_eq_none_iff.mpr (hlen▸List.getElem?_eq_none_iff.mp e)];rfl
 |some K=>
  obtain⟨w,b,_,e2,r⟩:=H.r (j+1) K e;rw[hw]at e2;have e2:(Γ.flatMap (·.ws))[j]? =some w:=e2;rw[e2];exact ae some r.f
structure DH (P:Bd→Prop)(s3:Sy)(fo0 nv0:Int)(w0:Wk)(p:PS)(Γ:List Gp)(ks:List KR)(n:Nat)(g:Gp)(Ks:List KR):Prop where
 len:Ks.length=g.ws.length
 r:∀ (i:Nat) (K:KR),Ks[i]? =some K→∃ w j b,g.ws[i]? =some w∧n<j∧ks[j]? =some K∧zM P s3 fo0 nv0 w0 p.sy Γ j w K b
theorem ze.grp (H:ze P s3 fo0 nv0 w0 (K0::kt) p Γ bs)(hl:(K0::kt).length=p.work.length)(e:Γ=Γ1++g::Γ2):DH P s3 fo0 nv0 w0 p Γ (K0::kt) (Γ1.flatMap (·.ws)).length g (kt.filter λ K=>K.f==g.f):=by
 have A:=H.I.apart e;have hf:=H.fs hl;have e2:Γ.flatMap (·.ws)=Γ1.flatMap (·.ws)++(g.ws++Γ2.flatMap (·.ws)):=by rw[e,List.flatMap_append];rfl
 have hlen:kt.length=(Γ.flatMap (·.ws)).length:=by have:=ae List.length hf;rwa [ak,ak]at this
 have hgm:g∈Γ:=e▸aF _ (af ..);rw[Xm (e2▸hf) A.a (H.I.wf hgm) A.b];rw[e2,ay,ay]at hlen;refine⟨?_,λ i K hi=>?_⟩
 ·rw[List.length_take,List.length_drop,hlen,Nat.add_sub_cancel_left];exact Nat.min_eq_left (ah ..)
 ·have hi2:i<g.ws.length:=by
   have:=(az hi).1;rw[List.length_take]at this;exact aO this (Nat.min_le_left ..)
  rw[List.getElem?_take_of_lt hi2,List.getElem?_drop]at hi;obtain⟨w,b,_,e3,r⟩:=H.r ((Γ1.flatMap (·.ws)).length+i+1) K hi;rw[H.I.w,e2]at e3;have e3:(Γ1.flatMap (·.ws)++(g.ws++Γ2.flatMap (·.ws)))[(Γ1.flatMap (·.ws)).length+i]? =some w:=e3;rw[List.getElem?_append_right (ah ..),Nat.add_sub_cancel_left,bw hi2]at e3;exact⟨w,_,b,e3,Nat.lt_succ_of_le (ah ..),hi,r⟩
end
def LfB (s:Sy):Tm→Prop
 |.a k=>k<(s.ts.length:Int)
 |.s f _=>f<(s.fs.length:Int)
 |.v _=>True|.i _=>True
def Bd.fb (s:Sy):Bd→Prop
 |.lf t=>LfB s t
 |.com x y=>x.fb s∧y.fb s
 |.sem x y=>x.fb s∧y.fb s
 |.arr x y=>x.fb s∧y.fb s
 |.neg x=>x.fb s
structure om (s:Sy)(nv0:Int)(t:Bd):Prop where
 v:∀ x∈t.tm.vars,x<nv0
 ok:t.ok
 fb:t.fb s
 cr:cY t=true
 q:t.atQ false
 ht:t.tm.ht≤15
theorem Ji:∀ {t:Bd},t.atQ true→t.atQ false:=by
 intro t
 induction t with
 |lf t=>exact λ ω h=>nomatch h
 |com x y hx hy=>exact λ h=>⟨hx h.1,hy h.2⟩
 |sem x y hx hy=>exact λ h=>⟨hx h.1,hy h.2⟩
 |arr x y hx hy=>exact λ h=>⟨hx h.1,hy h.2⟩
 |neg x=>exact id
section
variable {s:Sy}{nv0:Int}
theorem BJ {x y:Bd}{f:Int}(v:∀ z∈(Tm.s f [x.tm,y.tm]).vars,z<nv0)(ok:x.ok∧y.ok)(fb:x.fb s∧y.fb s)(cr:(cY x&&cY y)=true)(q:x.atQ false∧y.atQ false)(ht:(Tm.s f [x.tm,y.tm]).ht≤15):om s nv0 x∧om s nv0 y:=by
 have r:=Bool.and_eq_true_iff.mp cr;have h:=sK ht;have v:∀ z∈x.tm.vars++(y.tm.vars++[]),z<nv0:=v;exact⟨⟨λ z hz=>v z (aH _ hz),ok.1,fb.1,r.1,q.1,h.1⟩,⟨λ z hz=>v z (aF _ (aH _ hz)),ok.2,fb.2,r.2,q.2,h.2⟩⟩
theorem Y7 (h:33≤s.fs.length):IQ (om s nv0) nv0:=by
 have h24:(24:Int)<(s.fs.length:Int):=aJ (show (24:Int)<33 by decide) (bn h);refine⟨λ p=>BJ p.v p.ok p.fb p.cr p.q p.ht,λ p=>BJ p.v p.ok p.fb p.cr p.q p.ht,λ p=>BJ p.v p.ok p.fb p.cr p.q p.ht,λ {x} p hc=>?_,λ {x} p=>?_,λ p=>p.v⟩
 ·have hv:∀ z∈x.tm.vars++[],z<nv0:=p.v;have hh:max x.tm.ht 0+1≤15:=p.ht;exact⟨λ z hz=>hv z (aH _ hz),p.ok,p.fb,hc,Ji p.q,aa (aB (bc _ 0)) hh⟩
 ·exact⟨p.v,⟨by decide,nofun,.inr (by decide)⟩,h24,rfl,λ h=>(nomatch h),p.ht⟩
end
theorem nh {α:Type}[DecidableEq α]{x:α}:∀ {a:List α},x∉a→cy (a++[x]) x=a.length:=by
 intro a
 induction a with
 |nil=>exact λ ω=>gm rfl
 |cons y r ih=>exact λ h=>(gg λ e=>h (List.mem_cons.mpr (.inl e.symm))).trans (ae (·+1) (ih λ z=>h (ag _ z)))
structure FnS (s sP:Sy)(n:Int):Prop where
 f:(s.functor n 0).1=sk sP n
 m:(n,(0:Int))∈sP.fs
theorem D6 {s sP:Sy}{n:Int}(h:fP (s.functor n 0).2 sP):FnS s sP n:=by
 obtain⟨z,hz⟩:=h.fs
 by_cases q:(n,(0:Int))∈s.fs
 ·rw[show s.functor n 0=_ from aL q]at hz;refine⟨?_,hz▸aH _ q⟩;rw[show s.functor n 0=_ from aL q];exact ae Int.ofNat (hz▸(fQ q).symm)
 ·rw[show s.functor n 0=_ from aK q]at hz;have hm:(n,(0:Int))∈s.fs++[(n,0)]:=aF _ (aE rfl);refine⟨?_,hz▸aH _ hm⟩;rw[show s.functor n 0=_ from aK q];exact ae Int.ofNat (hz▸((fQ hm).trans (nh q)).symm)
structure KF (s3 sP:Sy)(Γ:List Gp)(G:Int→Option (List KR)):Prop where
 lo:∀ f:Int,f<(s3.fs.length:Int)→G f=none
 at_:∀ (i:Nat) (n:Int),n<(s3.ts.length:Int)→sP.fs[i]? =some (n,0)→G i=none
 gp:∀ g∈Γ,(G g.f).isSome=true
theorem KF.fn {s3 sP:Sy}{Γ:List Gp}{G:Int→Option (List KR)}(h:KF s3 sP Γ G){n:Int}(hn:n<(s3.ts.length:Int))(hm:(n,(0:Int))∈sP.fs):G (sk sP n)=none:=h.at_ _ n hn (iT hm)
inductive uk:El→Int→Prop
 |own:uk .own (-1)
 |goal {tg:Int}:uk (.goal (.lf (.a 15)) tg) tg
inductive tM:El→Prop
 |own:tM .fail
 |goal {n tg:Int}:n=17∨n=18→tM (.goal (.lf (.a n)) tg)
section
variable (G:Int→Option (List KR))(sP:Sy)(occ:List Int)(cs:CS)(p:PS)
inductive zI:El→Gl→Prop
 |cut {e:El} {tg:Int}:uk e tg→nq occ cs p e=(lu tg cs p.nv).add (kR tg cs p.nv)→zI e (kR tg cs p.nv)
 |fail {e:El}:tM e→nq occ cs p e=cs.add .fail→zI e .fail
 |mark {k:Int}:zI (.mark k) (.mark k)
 |atom {n tg:Int}:n≠15→¬ (n=17∨n=18)→(n,(0:Int))∈sP.fs→G (sk sP n)=none→nq occ cs p (.goal (.lf (.a n)) tg)=(cs.add (.call (sk sP n) [])).mark→zI (.goal (.lf (.a n)) tg) (.call (sk sP n) [])
 |var {n tg:Int}:G 24=none→zI (.goal (.lf (.v n)) tg) (.call 24 [.v n])
 |unify {x y:Tm} {tg:Int}:zI (.goal (.lf (.s 10 [x,y])) tg) (.unify x y)
 |blt {as:List Tm} {tg:Int}:zI (.goal (.lf (.s tT as)) tg) (.blt tT as)
 |call {f tg:Int} {as:List Tm}:f≠10→f≠tT→G f=none→nq occ cs p (.goal (.lf (.s f as)) tg)=(cs.add (.call f as)).mark→zI (.goal (.lf (.s f as)) tg) (.call f as)
inductive P7:El→Gl→Prop
 |mk {t:Bd} {tg:Int}:t.isCh=true→nq occ cs p (.goal t tg)=Fo occ t tg cs p→P7 (.goal t tg) (.call (qk occ t tg cs p).1 (tD occ t tg cs p.nv))
structure MS (lis:List Addr)(e:El)(x:Gl):Prop where
 k:(zI G sP occ cs p e x∧zG occ cs p lis e=[])∨P7 occ cs p e x
 g:(nq occ cs p e).goals=cs.goals++[x]
end
theorem GT {s:Sy}(h:33≤s.fs.length){k:Int}(hk:k<33):k<(s.fs.length:Int):=aJ hk (bn h)
section
variable {G:Int→Option (List KR)}{s3 sP:Sy}{Γ:List Gp}{nv0 nv:Int}{occ:List Int}{cs:CS}{p:PS}{lis:List Addr}{e:El}
theorem P9 {t:Tm}{tg:Int}(hG:KF s3 sP Γ G)(h3:33≤s3.fs.length)(ht:om s3 nv0 (.lf t))(hX:fP (SA tg cs p t).sy sP):∃ x,MS G sP occ cs p lis (.goal (.lf t) tg) x:=by
 rcases t with n|n|n|⟨f,as⟩
 ·exact⟨_,.inl ⟨.var (hG.lo 24 (GT h3 (by decide))),rfl⟩,rfl⟩
 ·by_cases q:n=15
  ·subst q;exact⟨_,.inl ⟨.cut .goal rfl,rfl⟩,ae (·++[_]) (rJ tg cs p.nv).2⟩
  ·by_cases q2:n=17∨n=18
   ·have e1:nq occ cs p (.goal (.lf (.a n)) tg)=cs.add .fail:=(aK q).trans (aL q2);exact⟨_,.inl ⟨.fail (.goal q2) e1,rfl⟩,ae CS.goals e1⟩
   ·have F:=D6 (n:=n) hX;have e1:nq occ cs p (.goal (.lf (.a n)) tg)=(cs.add (.call (sk sP n) [])).mark:=(aK q).trans ((aK q2).trans (ae (λ f=>(cs.add (.call f [])).mark) F.f));exact⟨_,.inl ⟨.atom q q2 F.m (hG.fn ht.fb F.m) e1,rfl⟩,ae CS.goals e1⟩
 ·exact nomatch ht.cr
 ·by_cases q:f=10
  ·subst q;have hl:=ht.ok.2.1 rfl;rcases as with _|⟨x,_|⟨y,_|⟨z,as⟩⟩⟩
   ·cases hl
   ·cases hl
   ·exact⟨_,.inl ⟨.unify,rfl⟩,rfl⟩
   ·cases hl
  ·by_cases q2:f=tT
   ·subst q2;exact⟨_,.inl ⟨.blt,rfl⟩,rfl⟩
   ·have e1:nq occ cs p (.goal (.lf (.s f as)) tg)=(cs.add (.call f as)).mark:=(aK q).trans (aK q2);exact⟨_,.inl ⟨.call q q2 (hG.lo f ht.fb) e1,rfl⟩,ae CS.goals e1⟩
theorem AT {t:Bd}{tg:Int}(h1:t.isCh=true)(h2:nq occ cs p (.goal t tg)=Fo occ t tg cs p):∃ x,MS G sP occ cs p lis (.goal t tg) x:=
 ⟨_,.inr (.mk h1 h2),(ae CS.goals h2).trans (ae (·++[_]) (F5 t tg cs p.nv).2)⟩
theorem kd (hG:KF s3 sP Γ G)(h3:33≤s3.fs.length):yd (om s3 nv0) nv0 nv e→fP (wW occ cs p lis e).sy sP→∃ x,MS G sP occ cs p lis e x:=by
 rcases e with⟨t,tg⟩|_|_|k
 ·rcases t with t|⟨x,y⟩|⟨x,y⟩|⟨x,y⟩|x
  ·exact λ he hX=>P9 hG h3 he.1 hX
  ·exact λ he=>nomatch he.2.2
  ·exact λ ω ω=>AT rfl rfl
  ·exact λ ω ω=>AT rfl rfl
  ·exact λ ω ω=>AT rfl rfl
 ·exact λ ω ω=>⟨_,.inl ⟨.cut .own rfl,rfl⟩,ae (·++[_]) (rJ (-1) cs p.nv).2⟩
 ·exact λ ω ω=>⟨_,.inl ⟨.fail .own rfl,rfl⟩,rfl⟩
 ·exact λ ω ω=>⟨_,.inl ⟨.mark,rfl⟩,rfl⟩
end
noncomputable def iQ (G:Int→Option (List KR)):Gl→List Int
 |.call f _=>(match (G f).isSome with|true=>[f]|false=>[])
 |.blt _ _=>[]|.unify _ _=>[]|.cut=>[]|.fail=>[]|.cutto _=>[]|.level _=>[]|.mark _=>[]
structure JH (sP:Sy)(born:List Gp)(t:Bd):Prop where
 a:t.isCh=false→t.aok sP
 c:t.isCh=true→∃ g∈born,∃ bt nv,g.ws.map (·.items)=jd bt nv t
structure Wk1 (G:Int→Option (List KR))(sP:Sy)(born:List Gp)(gs:List Gl)(ys:List El):Prop where
 c:gs.flatMap (iQ G)=born.map (·.f)
 h:∀ x∈gs,x.ht≤15∧x.ar<990
 t:∀ t tg,El.goal t tg∈ys→JH sP born t
theorem zc {fn:Int}{as:List Tm}:∀ {lis:List Addr} {its:List (List It)},lis.length=its.length→(on fn as lis its).map (·.items)=its:=by
 intro lis
 induction lis with
 |nil=>intro its h;rcases its with _|⟨i,r⟩;rfl;cases h
 |cons a l ih=>intro its h;rcases its with _|⟨i,r⟩;cases h;exact ae (i::·) (ih (Nat.succ.inj h))
theorem JP (l:List Int):Tm.htL (cK l)=0:=by
 induction l with
 |nil=>rfl
 |cons k r ih=>exact ae (max 0) ih
theorem Hw (tg:Int)(cs:CS)(nv:Int):(kR tg cs nv).ht=0∧(kR tg cs nv).ar=0∧∀ G,iQ G (kR tg cs nv)=[]:=by
 unfold kR
 by_cases q:tg= -1
 ·rw[aL q];cases cs.called<;>exact⟨rfl,rfl,λ ω=>rfl⟩
 ·rw[aK q];exact⟨rfl,rfl,λ ω=>rfl⟩
def N7 (sP:Sy)(N:List Gp):El→Prop
 |.goal t _=>JH sP N t
 |.own=>True|.fail=>True|.mark _=>True
structure Tp (G:Int→Option (List KR))(sP:Sy)(N:List Gp)(x:Gl)(e:El):Prop where
 c:iQ G x=N.map (·.f)
 h:x.ht≤15∧x.ar<990
 t:N7 sP N e
theorem tt {G:Int→Option (List KR)}{f:Int}{as:List Tm}(h:G f=none):iQ G (.call f as)=[]:=by
 show (match (G f).isSome with|true=>[f]|false=>[])=[];rw[h];rfl
theorem uS {G:Int→Option (List KR)}{f:Int}{as:List Tm}(h:(G f).isSome=true):iQ G (.call f as)=[f]:=by
 show (match (G f).isSome with|true=>[f]|false=>[])=[f];rw[h]
theorem Sr {sP:Sy}(h:fP sT sP){n:Int}(hn:n=15∨n=17∨n=18):(n,(0:Int))∈sP.fs:=
 h.fs.subset (by rcases hn with rfl|rfl|rfl<;>decide)
theorem qc {sP:Sy}{N:List Gp}{t:Tm}(h:(Bd.lf t).aok sP):JH sP N (.lf t):=⟨λ ω=>h,λ e=>nomatch e⟩
theorem IG:0≤15∧0<990:=by decide
section
variable {G:Int→Option (List KR)}{s3 sP:Sy}{Γe:List Gp}{nv0 nv:Int}{occ:List Int}{cs:CS}{p:PS}{lis:List Addr}{e:El}{x:Gl}{N:List Gp}
theorem zI.w0 (X:fP sT sP)(k:zI G sP occ cs p e x):yd (om s3 nv0) nv0 nv e→e.ok→Tp G sP [] x e:=by
 rcases k with⟨hc,_⟩|⟨hf,_⟩|_|⟨_,_,hm,hg,_⟩|hg|_|_|⟨_,_,hg,_⟩
 ·intro _ _;obtain⟨h1,h2,h3⟩:=Hw ‹Int› cs p.nv;refine⟨h3 G,by rw[h1,h2];exact IG,?_⟩;rcases hc with _|_
  ·trivial
  ·exact qc (Sr X (.inl rfl))
 ·intro _ _;refine⟨rfl,IG,?_⟩;rcases hf with _|hn
  ·trivial
  ·exact qc (Sr X (.inr hn))
 ·exact λ ω ω=>⟨rfl,IG,trivial⟩
 ·exact λ ω ω=>⟨tt hg,IG,qc hm⟩
 ·exact λ ω ω=>⟨tt hg,show 0≤15∧1<990 by decide,qc trivial⟩
 ·exact λ he ω=>⟨rfl,⟨Nat.max_le.mpr (sK he.1.ht),IG.2⟩,qc trivial⟩
 ·exact λ he ω=>⟨rfl,⟨Nat.le_of_succ_le he.1.ht,IG.2⟩,qc trivial⟩
 ·exact λ he ho=>⟨tt hg,⟨Nat.le_of_succ_le he.1.ht,aw (ac (aa (fV _) (aM _)) ho.s.2) (by decide)⟩,qc trivial⟩
theorem N0 {t:Bd}{tg:Int}(h:t.isCh=true):zG occ cs p lis (.goal t tg)=[wA occ t tg cs p lis]:=by
 show (match t.isCh with|true=>[wA occ t tg cs p lis]|false=>[])=_;rw[h]
set_option tactic.hygienic true in
theorem P7.w0 (k:P7 occ cs p e x):(∀ g∈zG occ cs p lis e,(G g.f).isSome=true)→e.ok→lis.length=(wL cs p e).length→Tp G sP (zG occ cs p lis e) x e:=by
 rcases k with⟨hc,_⟩
 rename_i t tg _;rw[N0 hc];intro hG ho hl;obtain⟨l,e1,e2⟩:=F3 occ t tg cs p.nv;refine⟨uS (hG _ (aE rfl)),?_,λ h=>(Bool.noConfusion (hc.symm.trans h)),λ ω=>⟨_,aE rfl,iI t tg cs p.nv,m4 t tg cs p.nv,zc hl⟩⟩;rw[e1];exact⟨aa (am (JP l)) (by decide),ac (aa (am (ak _)) e2) (aw (Nat.succ_lt_succ ho.s.2) (by decide))⟩
theorem MS.w0 (X:fP sT sP)(k:MS G sP occ cs p lis e x)(hG:∀ g∈zG occ cs p lis e,(G g.f).isSome=true)(he:yd (om s3 nv0) nv0 nv e)(ho:e.ok)(hl:lis.length=(wL cs p e).length):Tp G sP (zG occ cs p lis e) x e:=
 k.k.elim (λ k=>k.2.symm▸k.1.w0 X he ho) λ k=>k.w0 hG ho hl
theorem JH.mono {N N':List Gp}{t:Bd}(h:JH sP N t)(hs:∀ g∈N,g∈N'):JH sP N' t:=⟨h.a,λ c=>let ⟨g,hg,r⟩:=h.c c;⟨g,hs g hg,r⟩⟩
section
variable {fo0 nvS:Int}{w0:Wk}{ys:List El}{cs':CS}{p':PS}{Γ Γ':List Gp}
theorem tG.X {P:Bd→Prop}(h:tG P s3 fo0 nv0 nvS w0 occ cs p Γ ys cs' p' Γ'):(∀ e∈ys,e.ok)→fP p.sy p'.sy:=by
 induction h with
 |nil=>exact λ ω=>.refl _
 |cons lis hl _ _ _ _ _ _ _ ih=>
  intro ho;obtain⟨_,g⟩:=CY (occ:=occ) (ho _ (af ..)) hl;exact g.X.trans (ih λ e he=>ho e (ag _ he))
theorem tG.pre {P:Bd→Prop}(h:tG P s3 fo0 nv0 nvS w0 occ cs p Γ ys cs' p' Γ'):Γ<+:Γ':=by
 induction h with
 |nil=>exact bx
 |cons _ _ _ _ _ _ _ _ _ ih=>exact (bv ..).trans ih
theorem tG.w1 (hG:KF s3 sP Γe G)(h3:33≤s3.fs.length)(X:fP sT sP)(h:tG (om s3 nv0) s3 fo0 nv0 nvS w0 occ cs p Γ ys cs' p' Γ'):(∀ e∈ys,e.ok)→Γ'<+:Γe→fP p'.sy sP→∃ gs born,cs'.goals=cs.goals++gs∧Γ'=Γ++born∧Wk1 G sP born gs ys:=by
 induction h with
 |nil=>exact λ ω ω ω=>⟨[],[],(aq _).symm,(aq _).symm,rfl,nofun,nofun⟩
 |@cons cs cs' p p' Γ Γ' e r lis hl he _ _ _ _ _ hr ih=>
  intro ho hp hs;have hor:=λ x hx=>ho x (ag _ hx);obtain⟨gs,b,e1,e2,W⟩:=ih hor hp hs;obtain⟨x,k⟩:=kd (occ:=occ) (lis:=lis) (cs:=cs) (p:=p) hG h3 he ((hr.X hor).trans hs);have w:=k.w0 X (λ g hg=>hG.gp g ((hr.pre.trans hp).subset (aF _ hg))) he (ho e (af ..)) hl;refine⟨x::gs,zG occ cs p lis e++b,?_,?_,?_,?_,?_⟩
  ·rw[e1,k.g,ao];rfl
  ·rw[e2,ao]
  ·rw[List.flatMap_cons,aN,w.c,W.c]
  ·exact λ y hy=>(ap hy).elim (λ q=>q▸w.h) (W.h y)
  ·intro t tg hm;rcases ap hm with q|q
   ·exact (show N7 sP (zG occ cs p lis e) (.goal t tg)from q▸w.t).mono λ g hg=>aH _ hg
   ·exact (W.t t tg q).mono λ g hg=>aF _ hg
end
end
structure iO (s3:Sy)(fo0 nv0:Int)(w0:Wk)(p:PS)(Γ:List Gp)(bs:List (List Gp))(K0:KR)(kt:List KR):Prop where
 H:ze (om s3 nv0) s3 fo0 nv0 w0 (K0::kt) p Γ bs
 l:(K0::kt).length=p.work.length
 h3:33≤s3.fs.length
 X:fP sT p.sy
theorem zS {kt:List KR}{f:Int}(h:∀ K∈kt,K.f≠f):cD kt f=none:=by
 have e:kt.filter (λ K=>K.f==f)=[]:=List.filter_eq_nil_iff.mpr λ K hK q=>h K hK (beq_iff_eq.mp q);unfold cD;rw[e]
theorem AL {kt:List KR}{f:Int}{K:KR}(hK:K∈kt)(hf:K.f=f):cD kt f=some (kt.filter λ K=>K.f==f):=by
 have hm:K∈kt.filter (λ K=>K.f==f):=List.mem_filter.mpr ⟨hK,beq_iff_eq.mpr hf⟩;unfold cD;cases e:kt.filter (λ K=>K.f==f)with
 |nil=>rw[e]at hm;cases hm
 |cons x r=>rfl
theorem tG.I0 {s3:Sy}{fo0 nv0:Int}{w0:Wk}{P:Bd→Prop}{nvS:Int}{occ:List Int}{cs cs':CS}{p p':PS}{Γ Γ':List Gp}{ys:List El}(h:tG P s3 fo0 nv0 nvS w0 occ cs p Γ ys cs' p' Γ'):gT P s3 fo0 nv0 w0 p Γ:=by
 rcases h with h|⟨_,_,_,_,_,_,h,_,_⟩
 ·exact h
 ·exact h
theorem Pi {j:Nat}{K:KR}{ks:List KR}(e:ks[j]? =some K)(h:ks.length≤0+j):False:=
 Nat.lt_irrefl _ (aO (az e).1 (aU j▸h))
theorem Qd {N n j j' m:Nat}(h:N≤n+1+j)(h1:j≤m)(h2:m<j'):N≤n+j':=by lia
section
variable {s3:Sy}{fo0 nv0:Int}{w0:Wk}{p:PS}{Γ:List Gp}{bs:List (List Gp)}{K0:KR}{kt:List KR}(T:iO s3 fo0 nv0 w0 p Γ bs K0 kt)
include T
theorem iO.kf {K:KR}(hK:K∈kt):∃ g∈Γ,g.f=K.f:=by
 have hm:K.f∈(Γ.flatMap (·.ws)).map (·.f):=T.H.fs T.l▸bk hK;obtain⟨w,hw,e⟩:=be hm;obtain⟨g,hg,hwg⟩:=List.mem_flatMap.mp hw;exact⟨g,hg,(T.H.I.wf hg w hwg).symm.trans e⟩
theorem iO.gn {g:Gp}(hg:g∈Γ):∃ (name:Sx) (fi ai:Nat) (n:Int),QT s3 p.sy name g fi ai n:=by
 obtain⟨j,hj⟩:=List.getElem?_of_mem hg;obtain⟨fi,ai,n,h⟩:=T.H.I.g j g hj;exact⟨_,fi,ai,n,h⟩
theorem iO.gs {g:Gp}(hg:g∈Γ):cD kt g.f=some (kt.filter λ K=>K.f==g.f):=by
 obtain⟨_,fi,ai,n,h⟩:=T.gn hg;obtain⟨w,hw⟩:=List.exists_mem_of_ne_nil _ h.ne;have hm:w.f∈kt.map (·.f):=T.H.fs T.l▸bk (List.mem_flatMap.mpr ⟨g,hg,hw⟩);obtain⟨K,hK,e⟩:=be hm;exact AL hK (e.trans (h.wf w hw))
theorem iO.c:KF s3 p.sy Γ (cD kt):=by
 have off:∀ f:Int,(∀ g∈Γ,g.f≠f)→cD kt f=none:=λ f h=>zS λ K hK e=>let ⟨g,hg,q⟩:=T.kf hK;h g hg (q.trans e)
 refine⟨λ f hf=>off f λ g hg e=>?_,λ i n hn hi=>off i λ g hg e=>?_,λ g hg=>by rw[T.gs hg];rfl⟩
 ·obtain⟨_,fi,ai,m,h⟩:=T.gn hg;have:(s3.fs.length:Int)≤f:=by rw[←e,h.f];exact bn h.lf
  exact Int.lt_irrefl _ (aJ hf this)
 ·obtain⟨_,fi,ai,m,h⟩:=T.gn hg;have e2:fi=i:=Int.ofNat.inj (h.f.symm.trans e);subst e2;have:=aA (h.fs.symm.trans hi);have e3:(ai:Int)=n:=ae Prod.fst this;exact Int.lt_irrefl _ (aJ hn (e3▸bn h.lt))
structure Nu (kt:List KR)(p:PS)(w:Wk)(K:KR)(b:List Gp):Prop where
 c:K.goals.flatMap (iQ (cD kt))=b.map (·.f)
 h:∀ x∈K.goals,x.ht≤15∧x.ar<990
 t:∀ t tg,El.goal t tg∈bV w.items→JH p.sy b t
theorem iO.cal {j:Nat}{w:Wk}{K:KR}{b:List Gp}(h:zM (om s3 nv0) s3 fo0 nv0 w0 p.sy Γ j w K b):Nu kt p w K b:=by
 obtain⟨q,q',Γq,kvs,cs',nw,R,lo,h⟩:=h;obtain⟨gs,born,e1,e2,W⟩:=h.g.w1 T.c T.h3 T.X (fG h.ok.i).el h.p h.x;have e1:cs'.goals=gs:=e1;obtain rfl:=List.append_cancel_left e2;subst e1;rw[h.K];show Nu kt p w ⟨w.f,w.args,jt cs'⟩ b;unfold jt
 split
 ·exact⟨W.c,λ x hx=>(ap hx).elim (λ e=>e▸IG) (W.h x),W.t⟩
 ·exact⟨W.c,W.h,W.t⟩
theorem iO.kid {j:Nat}{w:Wk}{K:KR}{b:List Gp}(h:zM (om s3 nv0) s3 fo0 nv0 w0 p.sy Γ j w K b){g:Gp}(hg:g∈b):∃ Ks n,cD kt g.f=some Ks∧j≤n∧DH (om s3 nv0) s3 fo0 nv0 w0 p Γ (K0::kt) n g Ks:=by
 obtain⟨q,q',Γq,kvs,cs',nw,R,lo,h⟩:=h;obtain⟨b1,b2,rfl⟩:=List.append_of_mem hg;obtain⟨z,hz⟩:=h.p;have e:Γ=(Γq++b1)++g::(b2++z):=by rw[←hz,ao,ao,ao];rfl
 refine⟨_,_,T.gs (e▸aF _ (af ..)),?_,T.H.grp T.l e⟩;have hj:=(az h.at_).1;rw[h.g.I0.w]at hj;rw[List.flatMap_append,ay];exact aa (Nat.le_of_lt_succ hj) (ah ..)
end
def It.aok (s:Sy):It→Prop
 |.body t _=>t.aok s
 |.mark _=>True|.own=>True|.fail=>True
section
variable {s:Sy}(X:fP sT s)
include X
theorem CH:∀ {t:Bd},(∀ z∈ee t,z.aok s)→t.aok s:=by
 intro t
 induction t with
 |lf t=>
  intro h;have h:∀ z∈(match za 16 t with|true=>[]|false=>[Bd.lf t]),z.aok s:=h;cases e:za 16 t with
  |true=>
   rcases t with n|n|n|⟨f,as⟩
   ·trivial
   ·have hn:n=16:=bg e;exact hn▸X.fs.subset (by decide:((16:Int),(0:Int))∈sT.fs)
   ·trivial
   ·trivial
  |false=>rw[e]at h;exact h _ (aE rfl)
 |com x y hx hy=>exact λ h=>⟨hx λ z hz=>h z (aH _ hz),hy λ z hz=>h z (aF _ hz)⟩
 |sem x y=>exact λ h=>h _ (aE rfl)
 |arr x y=>exact λ h=>h _ (aE rfl)
 |neg x=>exact λ h=>h _ (aE rfl)
theorem DN {its:List It}(h:∀ t tg,El.goal t tg∈bV its→t.aok s):∀ i∈its,i.aok s:=by
 induction its with
 |nil=>exact nofun
 |cons i r ih=>
  have up:∀ e∈bV r,e∈bV (i::r):=λ e he=>by
   rcases i with⟨t,tg⟩|k|_|_
   ·exact aF _ he
   all_goals exact ag _ he
  refine List.forall_mem_cons.mpr ⟨?_,ih λ t tg ht=>h t tg (up _ ht)⟩;rcases i with⟨t,tg⟩|k|_|_
  ·exact CH X λ z hz=>h z tg (aH _ (bk hz))
  all_goals trivial
theorem Jd:∀ {t:Bd},t.atQ true→t.aok s:=by
 intro t
 induction t with
 |lf t=>
  intro h;have h:true=true→Ch t:=h;rcases t with n|n|n|⟨f,as⟩
  ·trivial
  ·rcases h rfl with q|q|q
   ·exact Sr X (.inl q)
   ·exact q▸X.fs.subset (by decide:((16:Int),(0:Int))∈sT.fs)
   ·exact Sr X (.inr q)
  ·trivial
  ·trivial
 |com x y hx hy=>exact λ h=>⟨hx h.1,hy h.2⟩
 |sem x y hx hy=>exact λ h=>⟨hx h.1,hy h.2⟩
 |arr x y hx hy=>exact λ h=>⟨hx h.1,hy h.2⟩
 |neg x hx=>exact hx
theorem u4 {t:Bd}{nv:Int}(h:∀ i∈fu t nv,i.aok s):t.aok s:=by
 unfold fu at h;cases e:hc t with
 |true=>rw[e]at h;exact h (.body t nv) (ag _ (aE rfl))
 |false=>rw[e]at h;exact h (.body t (-1)) (aE rfl)
theorem An {t:Bd}{tg nv:Int}(h:∀ i∈lj tg nv t,i.aok s):t.aok s:=by
 rcases t with t|⟨x,y⟩|⟨x,y⟩|⟨x,y⟩|x
 ·exact h (.body (.lf t) tg) (aE rfl)
 ·exact h (.body (.com x y) tg) (aE rfl)
 ·exact h (.body (.sem x y) tg) (aE rfl)
 ·exact⟨u4 X (nv:=nv) λ i hi=>h i (aH _ hi),h (.body y tg) (aF _ (ag _ (aE rfl)))⟩
 ·exact h (.body (.neg x) tg) (aE rfl)
theorem Bg {tg:Int}:∀ {l:List Bd} {nv:Int},(∀ b∈tj tg nv l,∀ i∈b,i.aok s)→∀ t∈l,t.aok s:=by
 intro l
 induction l with
 |nil=>exact λ ω=>nofun
 |cons t r ih=>exact λ h=>List.forall_mem_cons.mpr ⟨An X (h _ (af ..)),ih λ b hb=>h b (ag _ hb)⟩
theorem qI:∀ {t:Bd},(∀ z∈bW t,z.aok s)→t.aok s:=by
 intro t
 induction t with
 |sem x y hx hy=>exact λ h=>⟨h x (af ..),hy λ z hz=>h z (ag _ hz)⟩
 |lf t=>exact λ h=>h _ (aE rfl)
 |com x y=>exact λ h=>h _ (aE rfl)
 |arr x y=>exact λ h=>h _ (aE rfl)
 |neg x=>exact λ h=>h _ (aE rfl)
theorem Eo {t:Bd}{bt nv:Int}(hc:t.isCh=true)(hq:t.atQ false)(h:∀ b∈jd bt nv t,∀ i∈b,i.aok s):t.aok s:=by
 rcases t with t|⟨x,y⟩|⟨x,y⟩|⟨x,y⟩|x
 ·cases hc
 ·cases hc
 ·exact qI X (Bg X h)
 ·exact qI X (Bg X h)
 ·have h1:=h (ql x nv) (af ..);unfold ql at h1;cases e:cY x with
  |true=>rw[e]at h1;exact u4 (t:=x) X (nv:=nv) λ i hi=>h1 i (aH _ hi)
  |false=>exact Jd (t:=x) X hq
end
section
variable {s3:Sy}{fo0 nv0:Int}{w0:Wk}{p:PS}{Γ:List Gp}{bs:List (List Gp)}{K0:KR}{kt:List KR}(T:iO s3 fo0 nv0 w0 p Γ bs K0 kt)
include T
theorem iO.aok:∀ (n j:Nat) (w:Wk) (K:KR) (b:List Gp),(K0::kt)[j]? =some K→zM (om s3 nv0) s3 fo0 nv0 w0 p.sy Γ j w K b→(K0::kt).length≤n+j→∀ i∈w.items,i.aok p.sy:=by
 intro n
 induction n with
 |zero=>exact λ j w K b e ω h=>(Pi e h).elim
 |succ n ih=>
  intro j w K b e r h;have C:=T.cal r;have V:∀ e∈bV w.items,∃ nv,yd (om s3 nv0) nv0 nv e:=by
   obtain⟨q,q',Γq,kvs,cs',nw,R,lo,r⟩:=r;exact λ e he=>⟨_,F6 (Y7 T.h3) r.v.i e he⟩
  refine DN T.X λ t tg ht=>?_;have A:=C.t t tg ht;cases hch:t.isCh with
  |false=>exact A.a hch
  |true=>
   obtain⟨g,hg,bt,nv,eb⟩:=A.c hch;obtain⟨Ks,m,eg,hm,GR⟩:=T.kid r hg;obtain⟨_,hv⟩:=V _ ht;refine Eo T.X (bt:=bt) (nv:=nv) hch hv.1.q λ its hits=>?_;rw[←eb]at hits;obtain⟨w',hw',rfl⟩:=be hits;obtain⟨i,hi⟩:=List.getElem?_of_mem hw';have hlt:i<Ks.length:=GR.len▸(az hi).1;obtain⟨w2,j',b',e1,e2,e3,r'⟩:=GR.r i Ks[i] (List.getElem?_eq_getElem hlt);obtain rfl:=aA (e1.symm.trans hi);exact ih j' _ _ b' e3 r' (Qd h hm e2)
end
noncomputable def DL (G:Int→Option (List KR)):Nat→KR→List Int
 |0,_=>[]
 |n+1,K=>(K.goals.flatMap (iQ G)).flatMap λ f=>f::((G f).getD []).flatMap (DL G n)
theorem j1 {α β:Type}{f g:α→List β}:∀ {l:List α},(∀ x∈l,f x=g x)→l.flatMap f=l.flatMap g:=by
 intro l
 induction l with
 |nil=>exact λ ω=>rfl
 |cons x r ih=>intro h;rw[List.flatMap_cons,List.flatMap_cons,h x (af ..),ih λ y hy=>h y (ag _ hy)]
theorem C7 (F:Int→List Int)(l:List Int):(l.flatMap λ f=>f::F f).Perm (l++l.flatMap F):=by
 induction l with
 |nil=>exact .refl _
 |cons f r ih=>
  rw[List.flatMap_cons,List.flatMap_cons];exact List.Perm.cons f ((ih.append_left _).trans (aX ..))
theorem zo:∀ {l:List Int} {kt:List KR},l.Nodup→(∀ K∈kt,K.f∈l)→(l.flatMap λ f=>kt.filter λ K=>K.f==f).Perm kt:=by
 intro l
 induction l with
 |nil=>
  intro kt _ h;rcases kt with _|⟨K,r⟩
  ·exact .refl _
  ·cases h K (af ..)
 |cons f r ih=>
  intro kt hn h;have hn:=List.nodup_cons.mp hn;have h2:=ih (kt:=kt.filter λ K=> !(K.f==f)) hn.2 λ K hK=>by
   have:=List.mem_filter.mp hK;refine (ap (h K this.1)).resolve_left λ e=>?_;rw[beq_iff_eq.mpr e]at this;cases this.2
  have e:(r.flatMap λ f'=>kt.filter λ K=>K.f==f')=r.flatMap λ f'=>(kt.filter λ K=> !(K.f==f)).filter λ K=>K.f==f':=j1 λ f' hf'=>by
   rw[List.filter_filter];refine List.filter_congr λ K hK=>?_;cases q:K.f==f' with
   |false=>rfl
   |true=>
    have hne:¬ K.f=f:=λ z=>hn.1 ((z.symm.trans (beq_iff_eq.mp q))▸hf');rw[beq_eq_false_iff_ne.mpr hne];rfl
  rw[List.flatMap_cons,e];exact (h2.append_left _).trans (List.filter_append_perm ..)
theorem EY {f:Int}{r sq:List Int}:∀ {l:List Wk},(∀ w∈l,w.f=f)→sq.getLast? =some f→((l.map (·.f))++r).foldl iN sq=r.foldl iN sq:=by
 intro l
 induction l with
 |nil=>exact λ ω ω=>rfl
 |cons w l ih=>
  intro h hs;have e:iN sq w.f=sq:=by rw[h w (af ..)];exact aL hs
  show ((l.map (·.f))++r).foldl iN (iN sq w.f)=_;rw[e];exact ih (λ x hx=>h x (ag _ hx)) hs
structure GpS (g:Gp):Prop where
 ne:g.ws≠[]
 wf:∀ w∈g.ws,w.f=g.f
theorem FC:∀ {Γ:List Gp} {sq:List Int},(∀ g∈Γ,GpS g)→(Γ.map (·.f)).Pairwise (·<·)→(∀ g∈Γ,∀ x,sq.getLast? =some x→x<g.f)→((Γ.flatMap (·.ws)).map (·.f)).foldl iN sq=sq++Γ.map (·.f):=by
 intro Γ
 induction Γ with
 |nil=>exact λ ω ω ω=>(aq _).symm
 |cons g r ih=>
  intro sq h hp hl;have hp:=List.pairwise_cons.mp hp;have hg:=h g (af ..);have h2:=ih (sq:=sq++[g.f]) (λ x hx=>h x (ag _ hx)) hp.2 λ x hx y hy=>by
   rw[List.getLast?_append,List.getLast?_singleton]at hy;cases hy;exact hp.1 _ (bk hx)
  rw[List.flatMap_cons,aN];have hne:=hg.ne;have hwf:=hg.wf;cases e:g.ws with
  |nil=>exact absurd e hne
  |cons w l=>
   rw[e]at hwf;have hw:=hwf w (af ..);have e1:iN sq w.f=sq++[g.f]:=by
    rw[hw];exact aK λ z=>Int.lt_irrefl _ (hl g (af ..) _ z)
   show ((l.map (·.f))++_).foldl iN (iN sq w.f)=_;rw[e1,EY (λ x hx=>hwf x (ag _ hx)) (List.getLast?_concat ..),h2,ao];rfl
section
variable {s3:Sy}{fo0 nv0:Int}{w0:Wk}{p:PS}{Γ:List Gp}{bs:List (List Gp)}{K0:KR}{kt:List KR}(T:iO s3 fo0 nv0 w0 p Γ bs K0 kt)
include T
theorem iO.D_fix:∀ (n j:Nat) (K:KR),(K0::kt)[j]? =some K→(K0::kt).length≤n+j→DL (cD kt) (n+1) K=DL (cD kt) n K:=by
 intro n
 induction n with
 |zero=>exact λ j K e h=>(Pi e h).elim
 |succ n ih=>
  intro j K e h;obtain⟨w,b,_,_,r⟩:=T.H.r j K e;have C:=T.cal r;show (K.goals.flatMap (iQ (cD kt))).flatMap (λ f=>f::((cD kt f).getD []).flatMap (DL (cD kt) (n+1)))=(K.goals.flatMap (iQ (cD kt))).flatMap (λ f=>f::((cD kt f).getD []).flatMap (DL (cD kt) n));rw[C.c];refine j1 λ f hf=>?_;obtain⟨g,hg,rfl⟩:=be hf;obtain⟨Ks,m,eg,hm,GR⟩:=T.kid r hg;rw[eg];refine ae (g.f::·) (j1 λ K' hK'=>?_);obtain⟨i,hi⟩:=List.getElem?_of_mem hK';obtain⟨w2,j',b',e1,e2,e3,r'⟩:=GR.r i K' hi;exact ih j' K' e3 (Qd h hm e2)
noncomputable abbrev DK (K0:KR)(kt:List KR)(K:KR):List Int:=DL (cD kt) (K0::kt).length K
theorem iO.D_eq {j:Nat}{K:KR}(e:(K0::kt)[j]? =some K):DK K0 kt K=(K.goals.flatMap (iQ (cD kt))).flatMap λ f=>f::((cD kt f).getD []).flatMap (DK K0 kt):=
 (T.D_fix (K0::kt).length j K e (ah ..)).symm
theorem iO.calls:(K0::kt).flatMap (λ K=>K.goals.flatMap (iQ (cD kt)))=Γ.map (·.f):=by
 have h:(K0::kt).map (λ K=>K.goals.flatMap (iQ (cD kt)))=bs.map λ b=>b.map (·.f):=by
  refine List.ext_getElem? λ j=>?_;rw[aZ,aZ];cases e:(K0::kt)[j]? with
  |none=>rw[List.getElem?_eq_none_iff.mpr (T.H.l.symm▸List.getElem?_eq_none_iff.mp e)];rfl
  |some K=>
   obtain⟨w,b,e1,_,r⟩:=T.H.r j K e;rw[e1];exact ae some (T.cal r).c
 rw[List.flatMap_def,h,←List.map_flatten,T.H.fl]
theorem iO.nd:(Γ.map (·.f)).Nodup:=T.H.I.lt.imp λ {a b} (h:a<b)=>Int.ne_of_lt h
theorem iO.perm:(DK K0 kt K0).Perm (Γ.map (·.f)):=by
 have h1:(K0::kt).flatMap (DK K0 kt)=(Γ.map (·.f)).flatMap λ f=>f::((cD kt f).getD []).flatMap (DK K0 kt):=by
  rw[←T.calls,List.flatMap_assoc];exact j1 λ K hK=>let ⟨j,e⟩:=List.getElem?_of_mem hK;T.D_eq e
 have h2:((Γ.map (·.f)).flatMap λ f=>(cD kt f).getD []).Perm kt:=by
  have e:((Γ.map (·.f)).flatMap λ f=>(cD kt f).getD [])=(Γ.map (·.f)).flatMap λ f=>kt.filter λ K=>K.f==f:=j1 λ f hf=>by
   obtain⟨g,hg,rfl⟩:=be hf;rw[T.gs hg];rfl
  rw[e];exact zo T.nd λ K hK=>let ⟨g,hg,q⟩:=T.kf hK;q▸bk hg
 have h3:=C7 (λ f=>((cD kt f).getD []).flatMap (DK K0 kt)) (Γ.map (·.f));rw[←h1,List.flatMap_cons,←List.flatMap_assoc]at h3;exact (List.perm_append_right_iff _).mp (h3.trans ((h2.flatMap_right _).append_left _))
theorem iO.seq:j6 kt=Γ.map (·.f):=by
 unfold j6;rw[T.H.fs T.l];exact (FC (sq:=[]) (λ g hg=>let ⟨_,_,_,_,h⟩:=T.gn hg;⟨h.ne,h.wf⟩) T.H.I.lt λ g ω x e=>nomatch e).trans (List.nil_append _)
end
end
end Mine
namespace Mine
open PySem
noncomputable section
open Classical
inductive eL (c:Nat):AV→Prop
 |here {n:Nat}:n≤c→eL c (bC n)
 |test {n:Nat} {i:Int}:n≤c→eL c (dH (bC n) i)
theorem eL.mono {c d:Nat}{x:AV}(h:eL c x)(hd:c≤d):eL d x:=by
 rcases h with h|h
 ·exact .here (aa h hd)
 ·exact .test (aa h hd)
theorem t7 {a b:Nat}(h:bC (a:Int)=bC (b:Int)):a=b:=by
 injection h with h;injection h with _ h;injection h with h;injection h with h;exact Int.ofNat.inj h
theorem Ac {x y:AV}{i j:Int}(h:dH x i=dH y j):x=y:=by
 injection h with h;injection h with _ h;injection h
theorem np {a x:AV}{n i:Int}(h:bC n=dH x i):False:=by
 injection h with h;injection h with _ h;injection h with _ h;cases h
theorem eL.new {c n:Nat}{x:AV}(h:eL c x)(hn:c<n):x≠bC n:=by
 rcases h with h|h
 ·exact λ e=>absurd (t7 e▸h) (Nat.not_le.mpr hn)
 ·exact λ e=>np (a:=.none) e.symm
theorem eL.newT {c n:Nat}{x:AV}{i:Int}(h:eL c x)(hn:c<n):x≠dH (bC n) i:=by
 rcases h with h|h
 ·exact λ e=>np (a:=.none) e
 ·exact λ e=>absurd (t7 (Ac e)▸h) (Nat.not_le.mpr hn)
def m6 (x:AV)(rows:List dE):Prop:=∃ r∈rows,r.2=x∧hc r.1=true
theorem m6.nil {x:AV}:¬ m6 x []:=λ⟨_,h,_⟩=>nomatch h
theorem m6.cons {x:AV}{r:dE}{l:List dE}:m6 x (r::l)↔(r.2=x∧hc r.1=true)∨m6 x l:=
 ⟨λ⟨y,hy,h⟩=>(ap hy).elim (λ e=>.inl (e▸h)) λ q=>.inr ⟨y,q,h⟩,λ h=>h.elim (λ h=>⟨r,af ..,h⟩) λ⟨y,hy,h⟩=>⟨y,ag _ hy,h⟩⟩
theorem m6.app {x:AV}{a b:List dE}:m6 x (a++b)↔m6 x a∨m6 x b:=
 ⟨λ⟨y,hy,h⟩=>(aT hy).elim (λ q=>.inl ⟨y,q,h⟩) λ q=>.inr ⟨y,q,h⟩,λ h=>h.elim (λ⟨y,hy,h⟩=>⟨y,aH _ hy,h⟩) λ⟨y,hy,h⟩=>⟨y,aF _ hy,h⟩⟩
theorem sh (t:Bd):hc t=true↔∃ z∈ee t,hc z=true:=by
 have one:∀ {t:Bd},ee t=[t]→(hc t=true↔∃ z∈ee t,hc z=true):=λ {t} e=>by
  rw[e];exact⟨λ h=>⟨t,aE rfl,h⟩,λ⟨z,hz,h⟩=>aj hz▸h⟩
 induction t with
 |lf t=>
  rcases t with n|n|n|⟨f,as⟩
  ·exact one rfl
  ·by_cases q:n=16
   ·rw[oM q];exact⟨λ h=>absurd (bg (h:decide (n=15)=true)) (q▸(by decide)),λ⟨_,h,_⟩=>nomatch h⟩
   ·exact one (mS q)
  ·exact one rfl
  ·exact one rfl
 |com x y hx hy=>
  refine Bool.or_eq_true_iff.trans ⟨λ h=>h.elim (λ h=>?_) λ h=>?_,λ⟨z,hz,h⟩=>(aT hz).elim (λ q=>.inl (hx.mpr ⟨z,q,h⟩)) λ q=>.inr (hy.mpr ⟨z,q,h⟩)⟩
  ·obtain⟨z,hz,h⟩:=hx.mp h;exact⟨z,aH _ hz,h⟩
  ·obtain⟨z,hz,h⟩:=hy.mp h;exact⟨z,aF _ hz,h⟩
 |sem x y=>exact one rfl
 |arr x y=>exact one rfl
 |neg x=>exact one rfl
theorem iH {x b:AV}{t:Bd}:m6 x (bZ t b)↔b=x∧hc t=true:=by
 refine⟨λ⟨r,hr,e,h⟩=>?_,λ⟨e,h⟩=>?_⟩
 ·obtain⟨z,hz,rfl⟩:=be hr;exact⟨e,(sh t).mpr ⟨z,hz,h⟩⟩
 ·obtain⟨z,hz,h⟩:=(sh t).mp h;exact⟨_,bk hz,e,h⟩
section
variable {x b H:AV}(h1:x≠H)(h2:∀ i,x≠dH H i)
include h1 h2
theorem BG {t:Bd}{i:Nat}:m6 x (gG b H i t)↔b=x∧hc t=true:=by
 rcases t with t|⟨y,z⟩|⟨y,z⟩|⟨y,z⟩|y
 ·exact iH
 ·exact iH
 ·exact iH
 ·refine m6.app.trans ⟨λ h=>show b=x∧hc z=true from iH.mp (h.resolve_left λ q=>?_),λ h=>.inr (iH.mpr (show b=x∧hc z=true from h))⟩;rcases m6.app.mp q with q|q
  ·exact h2 i (iH.mp q).1.symm
  ·exact (m6.cons.mp q).elim (λ q=>h1 q.1.symm) λ q=>m6.nil q
 ·exact iH
theorem xa:∀ {l:List Bd} {i:Nat},(∃ w∈dZ b H i l,m6 x w)↔b=x∧∃ t∈l,hc t=true:=by
 intro l
 induction l with
 |nil=>exact⟨λ⟨_,h,_⟩=>(nomatch h),λ⟨_,_,h,_⟩=>(nomatch h)⟩
 |cons t r ih=>
  intro i;refine⟨λ⟨w,hw,h⟩=>(ap hw).elim (λ e=>?_) λ q=>?_,λ⟨e,z,hz,h⟩=>(ap hz).elim (λ q=>?_) λ q=>?_⟩
  ·have:=(BG h1 h2).mp (e▸h);exact⟨this.1,t,af ..,this.2⟩
  ·obtain⟨e,z,hz,h⟩:=ih.mp ⟨w,q,h⟩;exact⟨e,z,ag _ hz,h⟩
  ·exact⟨_,af ..,(BG h1 h2).mpr ⟨e,q▸h⟩⟩
  ·obtain⟨w,hw,h⟩:=(ih (i:=i+1)).mpr ⟨e,z,q,h⟩;exact⟨w,ag _ hw,h⟩
omit h1 h2 in
theorem pp:∀ t:Bd,hc t=true↔∃ z∈bW t,hc z=true:=by
 have one:∀ {t:Bd},bW t=[t]→(hc t=true↔∃ z∈bW t,hc z=true):=λ {t} e=>by
  rw[e];exact⟨λ h=>⟨t,aE rfl,h⟩,λ⟨z,hz,h⟩=>aj hz▸h⟩
 intro t
 induction t with
 |sem x y _ hy=>
  refine Bool.or_eq_true_iff.trans ⟨λ h=>h.elim (λ h=>⟨x,af ..,h⟩) λ h=>?_,λ⟨z,hz,h⟩=>(ap hz).elim (λ q=>.inl (q▸h)) λ q=>.inr (hy.mpr ⟨z,q,h⟩)⟩;obtain⟨z,hz,h⟩:=hy.mp h;exact⟨z,ag _ hz,h⟩
 |lf t=>exact one rfl
 |com x y=>exact one rfl
 |arr x y=>exact one rfl
 |neg x=>exact one rfl
theorem AG {g:Bd}(hg:g.isCh=true):(∃ w∈cf b H g,m6 x w)↔b=x∧hc g=true:=by
 rcases g with t|⟨y,z⟩|⟨y,z⟩|⟨y,z⟩|y
 ·cases hg
 ·cases hg
 ·exact (xa h1 h2).trans (and_congr .rfl (pp (.sem y z)).symm)
 ·exact (xa h1 h2).trans (and_congr .rfl (pp (.arr y z)).symm)
 ·refine⟨λ⟨w,hw,h⟩=>?_,λ h=>nomatch h.2⟩;rcases ap hw with rfl|q
  ·refine (m6.app.mp h).elim (λ q=>(h2 0 (iH.mp q).1.symm).elim) λ q=>?_;refine (m6.cons.mp q).elim (λ q=>(h1 q.1.symm).elim) λ q=>?_;exact (m6.cons.mp q).elim (λ q=>(h1 q.1.symm).elim) λ q=>(m6.nil q).elim
  ·rw[aj q]at h;exact (m6.nil h).elim
end
abbrev NI (nm:Nm):Prop:=∀ k,NV nm k
structure CU (v:AV):Prop where
 n:∀ x,v≠kO x
 d:v.dep≤5
theorem Cm (i:Int):CU (.int i):=⟨nofun,aI _⟩
theorem BW (s:Sx):CU (.str s):=⟨nofun,aI _⟩
theorem LS (i j:Int):CU (.tup [.int i,.int j]):=⟨λ x h=>(by injection h with h;injection h with h;cases h),show 1≤5 by decide⟩
theorem vS {s:Sx}{v:AV}(h:s≠iV)(hv:v.dep≤4):CU (.tup [.str s,v]):=
 ⟨λ x e=>h (by injection e with e;injection e with e;injection e),aD (Nat.max_le.mpr ⟨aI _,Nat.max_le.mpr ⟨hv,aI _⟩⟩)⟩
structure jT (s s':NL):Prop where
 ni:NI s'.nm
 ad:∃ add,s'.ln=s.ln++add∧∀ v∈add,CU v
theorem jT.refl {s:NL}(h:NI s.nm):jT s s:=⟨h,[],(aq _).symm,nofun⟩
theorem jT.trans {a b c:NL}(h:jT a b)(h':jT b c):jT a c:=by
 obtain⟨x,e,hx⟩:=h.ad;obtain⟨y,e',hy⟩:=h'.ad;exact⟨h'.ni,x++y,by rw[e',e,ao],λ v hv=>(aT hv).elim (hx v) (hy v)⟩
theorem jT.say {s:NL}{v:AV}(h:NI s.nm)(hv:CU v):jT s (s.say v):=⟨h,[v],rfl,λ w hw=>aj hw▸hv⟩
theorem jT.var {s:NL}{n:Int}(h:NI s.nm):jT s (s.var n):=by
 refine⟨λ k=>vQ (h k),?_⟩;cases e:bM s.nm n with
 |some v=>
  obtain⟨j,rfl⟩:=h n v e;rw[cO e];exact⟨[_],rfl,λ w hw=>aj hw▸Cm j⟩
 |none=>rw[cU e];exact⟨[_],rfl,λ w hw=>aj hw▸Cm _⟩
mutual
theorem jT.spell:∀ (t:Tm) {s:NL},NI s.nm→jT s (spell t s)
 |.v n,s,h=>jT.var h
 |.a n,s,h=>jT.say h (vS (by decide) (aI _))
 |.i n,s,h=>jT.say h (vS (by decide) (aI _))
 |.s f as,s,h=>jT.trans (jT.say h (LS ..)) (jT.spellL as (s:=s.say (.tup [.int f,.int as.length])) h)
theorem jT.spellL:∀ (l:List Tm) {s:NL},NI s.nm→jT s (spellL l s)
 |[],s,h=>.refl h
 |t::r,s,h=>jT.trans (jT.spell t h) (jT.spellL r (jT.spell t h).ni)
end
structure kZ (c:Nat)(R:AV→Prop)(p p':List AV×Nat):Prop where
 ct:p.2≤p'.2
 ad:∃ add,p'.1=p.1++add∧(∀ x,eL c x→(kO x∈add↔R x))∧∀ v∈add,v.dep≤5
section
variable {c:Nat}{R R':AV→Prop}{p p' p'':List AV×Nat}
theorem kZ.iff (h:kZ c R p p')(e:∀ x,eL c x→(R x↔R' x)):kZ c R' p p':=
 let ⟨a,e1,e2,e3⟩:=h.ad;⟨h.ct,a,e1,λ x hx=>(e2 x hx).trans (e x hx),e3⟩
theorem kZ.trans (h:kZ c R p p')(h':kZ c R' p' p''):kZ c (λ x=>R x∨R' x) p p'':=by
 obtain⟨a,e1,e2,e3⟩:=h.ad;obtain⟨b,f1,f2,f3⟩:=h'.ad;refine⟨aa h.ct h'.ct,a++b,by rw[f1,e1,ao],λ x hx=>List.mem_append.trans (or_congr (e2 x hx) (f2 x hx)),λ v hv=>(aT hv).elim (e3 v) (f3 v)⟩
theorem kZ.sp {s s':NL}{n:Nat}(h:jT s s'):kZ c (λ ω=>False) (s.ln,n) (s'.ln,n):=
 let ⟨a,e,ha⟩:=h.ad;⟨au _,a,e,λ x ω=>⟨λ hm=>(ha _ hm).n x rfl,False.elim⟩,λ v hv=>(ha v hv).d⟩
theorem kZ.wd {l:List AV}{v:AV}{n:Nat}(h:CU v):kZ c (λ ω=>False) (l,n) (l++[v],n):=
 ⟨au _,[v],rfl,λ x ω=>⟨λ hm=>h.n x (aj hm).symm,False.elim⟩,λ w hw=>aj hw▸h.d⟩
theorem kZ.wdL (h:kZ c R p p'){v:AV}(hv:CU v):kZ c R p (p'.1++[v],p'.2):=
 (h.trans (kZ.wd (n:=p'.2) hv)).iff λ x ω=>or_iff_left id
theorem kZ.wdR {l:List AV}{n:Nat}{v:AV}(hv:CU v)(h:kZ c R (l++[v],n) p'):kZ c R (l,n) p':=
 ((kZ.wd (n:=n) hv).trans h).iff λ x ω=>or_iff_right id
end
def F8 (sy:Sy)(k:Nat)(tell:List dE→TS→TS):Prop:=∀ rows (s:TS) c,tE sy k rows→NI s.nl.nm→c≤s.ct→kZ c (m6 · rows) (s.nl.ln,s.ct) ((tell rows s).nl.ln,(tell rows s).ct)
theorem rj (f:Int→AV)(k:Int)(l:List Int):∀ d,bM (mB f l d) k=if k∈l then some (f k)else bM d k:=by
 induction l with
 |nil=>exact λ d=>(aK nofun).symm
 |cons x r ih=>
  intro d;show bM (mB f r (cn d x (f x))) k=_;rw[ih]
  by_cases q:k∈r
  ·rw[aL q,aL (ag _ q)]
  ·rw[aK q,cB]
   by_cases e:k=x
   ·rw[aL e,aL (e▸af ..),e]
   ·rw[aK e,aK λ z=>(ap z).elim e q]
theorem w3 {l:List Int}{s:NL}(h:NI (spellL (cK l) s).nm):NI (qt (spellL (cK l) s).nm l):=λ k v e=>by
 have e:=(rj _ k l []).symm.trans e
 by_cases q:k∈l
 ·rw[aL q]at e;obtain⟨u,hu⟩:=Option.isSome_iff_exists.mp (wQ (s:=s) q);rw[hu]at e;exact h k v (hu.trans e)
 ·rw[aK q]at e;cases e
section
variable {sy sP:Sy}{tT:Int}{k:Nat}{tell:List dE→TS→TS}(IH:F8 sy k tell)
include IH
theorem E6 {nm0:Nm}(hn:NI nm0){c:Nat}:∀ {ws:List (List dE)} {i:Nat} {p:List AV×Nat},(∀ w∈ws,tE sy k w)→c≤p.2→kZ c (λ x=>∃ w∈ws,m6 x w) p (iF tell nm0 i ws p):=by
 intro ws
 induction ws with
 |nil=>exact λ ω ω=>⟨au _,[],(aq _).symm,λ x ω=>⟨nofun,λ⟨_,h,_⟩=>(nomatch h)⟩,nofun⟩
 |cons w ws ih=>
  intro i p hw hc;have hw:=List.forall_mem_cons.mp hw;have h1:=IH w ⟨⟨nm0,p.1++[ss i]⟩,p.2⟩ c hw.1 hn hc;have h2:=ih (i:=i+1) (p:=((tell w ⟨⟨nm0,p.1++[ss i]⟩,p.2⟩).nl.ln,(tell w ⟨⟨nm0,p.1++[ss i]⟩,p.2⟩).ct)) hw.2 (aa hc h1.ct);refine ((kZ.wdR (vS (by decide) (aI _)) h1).trans h2).iff λ x ω=>⟨λ h=>h.elim (λ h=>⟨w,af ..,h⟩) λ⟨v,hv,h⟩=>⟨v,ag _ hv,h⟩,λ⟨v,hv,h⟩=>(ap hv).elim (λ e=>.inl (e▸h)) λ q=>.inr ⟨v,q,h⟩⟩
theorem w9 {g:Bd}{b:AV}{near:List Int}{s:TS}{c:Nat}(h0:jo sy)(hg:g.isCh=true)(hb:e6 b)(hok:BOK sy (k+1) g)(hn:NI s.nl.nm)(hc:c≤s.ct):kZ c (λ x=>b=x∧Mine.hc g=true) ((eT g b near s).ln,s.ct+1) (ki tell g b near s):=by
 have hs:NI (eT g b near s).nm:=(jT.spellL (cK (uq near g.tm.vars)) (s:=s.nl.say (gS (cf b (bC (s.ct+1:Nat)) g).length)) hn).ni;have h1:=E6 IH (w3 hs) (i:=0) (c:=c) (p:=((eT g b near s).ln,s.ct+1)) (mq (v:=b) (n:=(s.ct+1:Nat)) h0 hok hg hb) (aB hc);exact h1.iff λ x hx=>AG (hx.new (Nat.lt_succ_of_le hc)) (λ i=>hx.newT (Nat.lt_succ_of_le hc)) hg
theorem vn {g:Bd}{b:AV}{near:List Int}{s:TS}{c:Nat}(h0:jo sy)(hg:g.isCh=true)(hb:e6 b)(hok:BOK sy (k+1) g)(hn:NI s.nl.nm)(hc:c≤s.ct):NI (d6 tell g b near s).nl.nm∧kZ c (λ x=>b=x∧Mine.hc g=true) (s.nl.ln,s.ct) ((d6 tell g b near s).nl.ln,(d6 tell g b near s).ct):=by
 have hs:jT (s.nl.say (gS (cf b (bC (s.ct+1:Nat)) g).length)) (eT g b near s):=jT.spellL (cK (uq near g.tm.vars)) (s:=s.nl.say (gS (cf b (bC (s.ct+1:Nat)) g).length)) hn;have h1:=w9 IH (near:=near) h0 hg hb hok hn hc;have h2:kZ c (λ ω=>False) (s.nl.ln,s.ct) ((eT g b near s).ln,s.ct+1):=
  have h:=kZ.wdR (c:=c) (n:=s.ct) (vS (s:=mh) (by decide) (aI _)) (kZ.sp hs);⟨aM _,h.ad⟩
 have h3:=((h2.trans h1).iff (R':=λ x=>b=x∧Mine.hc g=true) λ x ω=>or_iff_right id).wdL (v:=pE (if kO b∈(ki tell g b near s).1.drop (eT g b near s).ln.length then b else .none)) (vS (by decide) (by
  split
  ·exact aa hb.dep (by decide)
  ·exact aI _))
 exact⟨hs.ni,h3⟩
omit IH in
theorem Nq {t:Tm}{b:AV}{s:NL}{n c:Nat}(hb:e6 b)(hn:NI s.nm):NI (Kv sP tT b s t).nm∧kZ c (λ x=>b=x∧Mine.hc (.lf t)=true) (s.ln,n) ((Kv sP tT b s t).ln,n):=by
 have no:∀ {s':NL},hc (.lf t)=false→jT s s'→NI s'.nm∧kZ c (λ x=>b=x∧Mine.hc (.lf t)=true) (s.ln,n) (s'.ln,n):=λ h h'=>⟨h'.ni,(kZ.sp h').iff λ x ω=>⟨False.elim,λ q=>by rw[h]at q;cases q.2⟩⟩;have cp:∀ f,CU (jO tT f):=λ f=>by unfold jO;split<;>exact vS (by decide) (aI _)
 rcases t with m|m|m|⟨f,as⟩
 ·exact no rfl ((jT.say hn (cp 24)).trans (jT.var hn))
 ·by_cases q:m=15
  ·subst q;refine⟨hn,au _,[kO b],rfl,λ x ω=>⟨λ h=>⟨?_,rfl⟩,λ h=>h.1▸aE rfl⟩,λ v hv=>?_⟩
   ·have h:=aj h;injection h with h;injection h with _ h;injection h with h;exact h.symm
   ·rw[aj hv];exact aD (Nat.max_le.mpr ⟨aI _,Nat.max_le.mpr ⟨aa hb.dep (by decide),aI _⟩⟩)
  ·refine no (decide_eq_false q) (jT.say hn ?_);show CU (if m=15 then kO b else if m=17∨m=18 then .str eO else _);rw[aK q]
   split
   ·exact BW _
   ·exact vS (by decide) (aI _)
 ·exact no rfl (.refl hn)
 ·refine no rfl ((jT.say hn ?_).trans (jT.spellL as (s:=s.say (if f=10 then .str dr else jO tT f)) hn))
  split
  ·exact BW _
  ·exact cp f
theorem JU {r:dE}{near:List Int}{s:TS}{c:Nat}(h0:jo sy)(hok:q7 sy (k+1) r)(hn:NI s.nl.nm)(hc:c≤s.ct):NI (nP sP tT tell near r.2 s r.1).nl.nm∧kZ c (λ x=>r.2=x∧Mine.hc r.1=true) (s.nl.ln,s.ct) ((nP sP tT tell near r.2 s r.1).nl.ln,(nP sP tT tell near r.2 s r.1).ct):=by
 rcases r with⟨t|⟨x,y⟩|⟨x,y⟩|⟨x,y⟩|x,b⟩
 ·exact Nq (t:=t) hok.bar hn
 ·cases hok.nc
 ·exact vn IH h0 rfl hok.bar hok.toBOK hn hc
 ·exact vn IH h0 rfl hok.bar hok.toBOK hn hc
 ·exact vn IH h0 rfl hok.bar hok.toBOK hn hc
theorem LY {outer:List Int}(h0:jo sy):∀ {post pre:List dE} {s:TS} {c:Nat},tE sy (k+1) post→NI s.nl.nm→c≤s.ct→kZ c (m6 · post) (s.nl.ln,s.ct) ((xq sP tT tell outer pre post s).nl.ln,(xq sP tT tell outer pre post s).ct):=by
 intro post
 induction post with
 |nil=>exact λ ω ω ω=>⟨au _,[],(aq _).symm,λ x ω=>⟨nofun,λ h=>(m6.nil h).elim⟩,nofun⟩
 |cons r post ih=>
  intro pre s c hok hn hc;have h1:=List.forall_mem_cons.mp hok;have h2:=JU (sP:=sP) (tT:=tT) IH (near:=ic outer (pre++post)) h0 h1.1 hn hc;exact (h2.2.trans (ih (pre:=pre++[r]) h1.2 h2.1 (aa hc h2.2.ct))).iff λ x ω=>m6.cons.symm
end
theorem x8 {sy sP:Sy}{tT:Int}(h0:jo sy):∀ k,F8 sy k (eK sP tT k):=by
 intro k
 induction k with
 |zero=>
  intro rows s c hok _ _;have:rows=[]:=List.eq_nil_iff_forall_not_mem.mpr λ r hr=>Nat.not_lt_zero _ (hok r hr).ht;subst this;exact⟨au _,[],(aq _).symm,λ x ω=>⟨nofun,λ h=>(m6.nil h).elim⟩,nofun⟩
 |succ k ih=>exact λ rows s c hok hn hc=>LY ih h0 hok hn hc
end
end Mine
namespace Mine
open PySem
noncomputable section
def GI (H:AV)(I:Int→Option AV)(tg:Int)(b:AV):Prop:=(tg= -1∧b=H)∨(tg≠ -1∧I tg=some b)
inductive Mt (H:AV)(I:Int→Option AV):List El→List dE→Prop
 |nil:Mt H I [] []
 |goal {t:Bd} {tg:Int} {b:AV} {es:List El} {rs:List dE}:(hc t=true→GI H I tg b)→Mt H I es rs→Mt H I (.goal t tg::es) ((t,b)::rs)
 |own {es:List El} {rs:List dE}:Mt H I es rs→Mt H I (.own::es) ((.lf (.a 15),H)::rs)
 |fail {es:List El} {rs:List dE} {b:AV}:Mt H I es rs→Mt H I (.fail::es) ((.lf (.a 17),b)::rs)
noncomputable abbrev FL (I:Int→Option AV)(k:Int)(v:AV):Int→Option AV:=λ x=>if x=k then some v else I x
inductive t6 (H:AV)(I:Int→Option AV)(pl:Nat):List El→List dE→Prop
 |mark {k:Int} {es:List El} {rs:List dE}:Mt H (FL I k (dH H pl)) es rs→t6 H I pl (.mark k::es) rs
 |no {es:List El} {rs:List dE}:Mt H I es rs→t6 H I pl es rs
section
variable {H b:AV}{I:Int→Option AV}
theorem Mt.goals {tg:Int}{es:List El}{rs:List dE}(h:Mt H I es rs):∀ {l:List Bd},(∀ z∈l,hc z=true→GI H I tg b)→Mt H I (l.map (λ x=>El.goal x tg)++es) (l.map (λ x=>(x,b))++rs):=by
 intro l
 induction l with
 |nil=>exact λ ω=>h
 |cons x r ih=>exact λ hx=>.goal (hx x (af ..)) (ih λ z hz=>hx z (ag _ hz))
theorem Mt.body {t:Bd}{tg:Int}{es:List El}{rs:List dE}(ht:hc t=true→GI H I tg b)(h:Mt H I es rs):Mt H I ((ee t).map (λ x=>El.goal x tg)++es) (bZ t b++rs):=
 h.goals λ z hz hh=>ht ((sh t).mpr ⟨z,hz,hh⟩)
theorem Mt.body1 {t:Bd}{tg:Int}(ht:hc t=true→GI H I tg b):Mt H I (bV [.body t tg]) (bZ t b):=by
 have:=Mt.body ht (Mt.nil (H:=H) (I:=I));rw[aq (bZ t b)]at this;exact this
theorem t6.cond {pl:Nat}{t:Bd}{nv:Int}{r:List It}{rs:List dE}(h0:0≤nv)(h:∀ I',(∀ x,x≠nv→I' x=I x)→Mt H I' (bV r) rs):t6 H I pl (bV (fu t nv++r)) (bZ t (dH H pl)++rs):=by
 unfold fu;cases e:hc t with
 |true=>
  refine .mark (Mt.body (λ ω=>.inr ⟨λ q=>?_,aL rfl⟩) (h _ λ x hx=>aK hx));rw[q]at h0;exact absurd h0 (by decide)
 |false=>exact .no (Mt.body (tg:= -1) (λ q=>by rw[e]at q;cases q) (h I λ ω ω=>rfl))
theorem t6.way {bt nv:Int}{i:Nat}{t:Bd}(h0:0≤nv)(h:hc t=true→bt≠ -1∧I bt=some b∧bt<nv):t6 H I i (bV (lj bt nv t)) (gG b H i t):=by
 have one:∀ {t:Bd},(hc t=true→bt≠ -1∧I bt=some b∧bt<nv)→t6 H I i (bV [.body t bt]) (bZ t b):=λ h=>.no (Mt.body1 λ q=>.inr ⟨(h q).1,(h q).2.1⟩);rcases t with t|⟨x,y⟩|⟨x,y⟩|⟨x,y⟩|x
 ·exact one h
 ·exact one h
 ·exact one h
 ·show t6 H I i (bV (fu x nv++[.own,.body y bt])) (bZ x (dH H i)++[(.lf (.a 15),H)]++bZ y b);rw[ao];refine t6.cond h0 λ I' hI=>.own (Mt.body1 λ q=>?_);have hy:=h q;exact .inr ⟨hy.1,(hI bt (Int.ne_of_lt hy.2.2)).trans hy.2.1⟩
 ·exact one h
theorem Ar (nv:Int)(t:Bd):nv≤lT nv t:=by
 rcases t with t|⟨x,y⟩|⟨x,y⟩|⟨x,y⟩|x
 ·exact bj _
 ·exact bj _
 ·exact bj _
 ·show nv≤n9 x nv;unfold n9;cases hc x
  ·exact bj _
  ·exact Int.le_of_lt (Int.lt_succ nv)
 ·exact bj _
theorem t6.br {bt:Int}:∀ {l:List Bd} {nv:Int} {m:Nat},0≤nv→(∀ t∈l,hc t=true→bt≠ -1∧I bt=some b∧bt<nv)→∀ (i:Nat) (its:List It) (w:List dE),(tj bt nv l)[i]? =some its→(dZ b H m l)[i]? =some w→t6 H I (m+i) (bV its) w:=by
 intro l
 induction l with
 |nil=>exact λ ω ω i its w e=>nomatch e
 |cons t r ih=>
  intro nv m h0 h i its w e1 e2;rcases i with _|i
  ·obtain rfl:=aA e1;obtain rfl:=aA e2;exact t6.way h0 (h t (af ..))
  ·have hn:=Ar nv t;have:=ih (nv:=lT nv t) (m:=m+1) (aS h0 hn) (λ z hz q=>have k:=h z (ag _ hz) q;⟨k.1,k.2.1,aJ k.2.2 hn⟩) i its w e1 e2;rw[Nat.add_right_comm]at this;exact this
theorem uv (b h:AV)(l:List Bd):∀ i,(dZ b h i l).length=l.length:=by
 induction l with
 |nil=>exact λ ω=>rfl
 |cons t r ih=>exact λ i=>ae (·+1) (ih _)
structure S9 (H b:AV)(I:Int→Option AV)(bt nv:Int)(g:Bd):Prop where
 len:(jd bt nv g).length=(cf b H g).length
 m:∀ (i:Nat) (its:List It) (w:List dE),(jd bt nv g)[i]? =some its→(cf b H g)[i]? =some w→t6 H I i (bV its) w
theorem KV {bt nv:Int}{g:Bd}(hg:g.isCh=true)(h0:0≤nv)(h:hc g=true→bt≠ -1∧I bt=some b∧bt<nv):S9 H b I bt nv g:=by
 have br:∀ {g:Bd},(hc g=true→bt≠ -1∧I bt=some b∧bt<nv)→∀ (i:Nat) (its:List It) (w:List dE),(tj bt nv (bW g))[i]? =some its→(dZ b H 0 (bW g))[i]? =some w→t6 H I i (bV its) w:=λ {g} h i its w e1 e2=>by
  have:=t6.br (m:=0) h0 (λ z hz q=>h ((pp g).mpr ⟨z,hz,q⟩)) i its w e1 e2;rw[aU]at this;exact this
 rcases g with t|⟨x,y⟩|⟨x,y⟩|⟨x,y⟩|x
 ·cases hg
 ·cases hg
 ·exact⟨(oF ..).trans (uv ..).symm,br (g:=.sem x y) h⟩
 ·exact⟨rfl,br (g:=.arr x y) h⟩
 ·refine⟨rfl,λ i its w e1 e2=>?_⟩;rcases i with _|_|i
  ·obtain rfl:=aA e1;obtain rfl:=aA e2;unfold ql er;cases e:cY x with
   |true=>exact t6.cond h0 λ I' ω=>.own (.fail .nil)
   |false=>exact .no (.goal (λ q=>nomatch q) (.own (.fail .nil)))
  ·obtain rfl:=aA e1;obtain rfl:=aA e2;exact .no .nil
  ·cases e2
end
theorem Mt.vars {H:AV}{I:Int→Option AV}{es:List El}{rs:List dE}(h:Mt H I es rs):rs.flatMap (·.1.tm.vars)=Tm.varsL (hU es):=by
 induction h with
 |nil=>rfl
 |goal _ _ ih=>exact ae (_++·) ih
 |own _ ih=>exact ih
 |fail _ ih=>exact ih
end
end Mine
namespace Mine
open PySem
noncomputable section
open Classical
structure RelE (nv0:Int)(B:Int→Option AV)(E nm:Nm):Prop where
 rel:∀ x,x<nv0→bM E x=bM nm x
 bar:∀ x,nv0≤x→bM E x=B x
 ni:NI nm
structure eP (nv0:Int)(B:Int→Option AV)(s t:NL):Prop extends RelE nv0 B s.nm t.nm where
 ln:s.ln=t.ln
section
variable {nv0:Int}{B:Int→Option AV}
theorem eP.say {s t:NL}(h:eP nv0 B s t)(v:AV):eP nv0 B (s.say v) (t.say v):=⟨h.toRelE,ae (·++[v]) h.ln⟩
theorem eP.var {s t:NL}{n:Int}(h:eP nv0 B s t)(hn:n<nv0):eP nv0 B (s.var n) (t.var n):=by
 have ni:NI (t.var n).nm:=λ k=>vQ (h.ni k);have e:=h.rel n hn;cases q:bM t.nm n with
 |some v=>rw[cO q,cO (e.trans q)];exact h.say v
 |none=>
  rw[cU q]at ni⊢;rw[cU (e.trans q),h.ln];refine eP.say (s:=s.new n) (t:=t.new n) ⟨⟨λ x hx=>?_,λ x hx=>?_,ni⟩,h.ln⟩ _
  ·show bM (cn s.nm n _) x=bM (cn t.nm n _) x;rw[cB,cB,h.rel x hx,h.ln]
  ·show bM (cn s.nm n _) x=B x;rw[cB,aK (Int.ne_of_gt (aJ hn hx)),h.bar x hx]
mutual
theorem eP.spell:∀ (u:Tm) {s t:NL},eP nv0 B s t→(∀ x∈u.vars,x<nv0)→eP nv0 B (spell u s) (spell u t)
 |.v n,s,t,h,hv=>h.var (hv n (af ..))
 |.a n,s,t,h,_=>h.say _
 |.i n,s,t,h,_=>h.say _
 |.s f as,s,t,h,hv=>eP.spellL as (h.say _) hv
theorem eP.spellL:∀ (l:List Tm) {s t:NL},eP nv0 B s t→(∀ x∈Tm.varsL l,x<nv0)→eP nv0 B (spellL l s) (spellL l t)
 |[],s,t,h,_=>h
 |u::r,s,t,h,hv=>eP.spellL r (eP.spell u h λ x hx=>hv x (aH _ hx)) λ x hx=>hv x (aF _ hx)
end
end
theorem yx (p:Int→Bool):∀ (l acc:List Int),dd (acc.filter p) (l.filter p)=(dd acc l).filter p:=by
 intro l
 induction l with
 |nil=>exact λ acc=>rfl
 |cons k r ih=>
  intro acc
  by_cases h:k∈acc
  ·rw[oe h,←ih acc];cases q:p k with
   |true=>rw[List.filter_cons_of_pos q,oe (List.mem_filter.mpr ⟨h,q⟩)]
   |false=>rw[List.filter_cons_of_neg (by rw[q];decide)]
  ·rw[kj h,←ih,List.filter_append];cases q:p k with
   |true=>rw[List.filter_cons_of_pos q,kj (λ z=>h (List.mem_filter.mp z).1),List.filter_cons_of_pos q];rfl
   |false=>rw[List.filter_cons_of_neg (by rw[q];decide),List.filter_cons_of_neg (by rw[q];decide)];exact ae (dd · _) (aq _).symm
theorem arN {v a d r:Nat}:v<a+(d+(v+r))↔0<a∨0<d∨0<r:=by lia
theorem DP {O A D R occ:List Int}{t:Tm}(ho:occ=A++(D++(t.vars++R)))(hk:∀ k∈t.vars,k∈O↔k∈A):uq (O++(D++R)) t.vars=cg occ t:=by
 refine (yx _ t.vars []).trans (List.filter_congr λ k hk'=>?_);have hv:=(wy t.vars hk').resolve_left nofun
 refine decide_eq_decide.mpr ?_;rw[ho,List.count_append,List.count_append,List.count_append,arN,List.count_pos_iff,List.count_pos_iff,List.count_pos_iff,List.mem_append,List.mem_append];exact or_congr (hk k hv) .rfl
theorem BH:∀ (l:List Int) {acc:List Int},acc.Nodup→(dd acc l).Nodup:=by
 intro l
 induction l with
 |nil=>exact λ h=>h
 |cons k r ih=>
  intro acc h
  by_cases q:k∈acc
  ·rw[oe q];exact ih h
  ·rw[kj q];exact ih (List.nodup_append.mpr ⟨h,List.pairwise_singleton ..,λ a ha b hb e=>q (aj hb▸e▸ha)⟩)
theorem CT (occ:List Int)(t:Tm):(cg occ t).Nodup:=(BH t.vars .nil).filter _
theorem nn (nm:Nm)(x:Int)(l:List Int):bM (jg nm l) x=if x∈l then some ((bM nm x).getD .none)else none:=by
 induction l with
 |nil=>exact (aK nofun).symm
 |cons k r ih=>
  show bM ((k,(bM nm k).getD .none)::jg nm r) x=_
  by_cases q:k=x
  ·rw[fT q,aL (q▸af ..),q]
  ·rw[fX q,ih]
   by_cases z:x∈r
   ·rw[aL z,aL (ag _ z)]
   ·rw[aK z,aK λ w=>(ap w).elim (λ e=>q e.symm) z]
structure BrE (nv0:Int)(B0:Int→Option AV)(kept hd:List Int)(E nm:Nm):Prop where
 e:∀ x,(bM E x).isSome=true↔x∈kept++hd
 r:RelE nv0 B0 E nm
theorem S5 {nv0:Int}{B B0:Int→Option AV}{kept hd:List Int}{s t:NL}(h:eP nv0 B (spellL (cK kept) s) (spellL (cK kept) t))(hk:∀ k∈kept,k<nv0)(hh:∀ k∈hd,nv0≤k)(hB:∀ x,B0 x=if x∈hd then some ((B x).getD .none)else none):BrE nv0 B0 kept hd (jg (spellL (cK kept) s).nm (kept++hd)) (qt (spellL (cK kept) t).nm kept):=by
 refine⟨λ x=>?_,λ x hx=>?_,λ x hx=>?_,w3 h.ni⟩
 ·rw[nn]
  by_cases q:x∈kept++hd
  ·rw[aL q];exact⟨λ ω=>q,λ ω=>rfl⟩
  ·rw[aK q];exact⟨λ z=>(nomatch z),λ z=>(q z).elim⟩
 ·refine (nn ..).trans (Eq.trans ?_ (rj (λ k=>(bM (spellL (cK kept) t).nm k).getD .none) x kept []).symm)
  by_cases q:x∈kept
  ·rw[aL q,aL (aH _ q),h.rel x hx]
  ·rw[aK q,aK λ z=>(aT z).elim q λ z=>Int.lt_irrefl _ (aJ hx (hh x z))];rfl
 ·rw[nn,hB,h.bar x hx]
  by_cases q:x∈hd
  ·rw[aL q,aL (aF _ q)]
  ·rw[aK q,aK λ z=>(aT z).elim (λ z=>Int.lt_irrefl _ (aJ (hk x z) hx)) q]
structure BrQ (rd:p7)(tell:List dE→TS→TS)(E nm0:Nm)(H:AV)(ts:List Tm)(D:KR→List Int)(c i:Nat)(K:KR)(w:List dE):Prop where
 a:K.args=ts
 r:∀ (ln:List AV) (op:List Int),c≤op.length→(op++D K).Nodup→rd K E H i (ln,op) ((tell w ⟨⟨nm0,ln⟩,op.length⟩).nl.ln,op++D K)∧(tell w ⟨⟨nm0,ln⟩,op.length⟩).ct=(op++D K).length
theorem brs {rd:p7}{tell:List dE→TS→TS}{E nm0:Nm}{H:AV}{ts:List Tm}{D:KR→List Int}{c:Nat}:∀ {Ks:List KR} {ws:List (List dE)} {i:Nat} {ln:List AV} {op:List Int},Ks.length=ws.length→(∀ (j:Nat) (K:KR) (w:List dE),Ks[j]? =some K→ws[j]? =some w→BrQ rd tell E nm0 H ts D c (i+j) K w)→c≤op.length→(op++Ks.flatMap D).Nodup→
  nK rd E H ts i Ks (ln,op) ((iF tell nm0 i ws (ln,op.length)).1,op++Ks.flatMap D)∧(iF tell nm0 i ws (ln,op.length)).2=(op++Ks.flatMap D).length:=by
 intro Ks
 induction Ks with
 |nil=>
  intro ws i ln op hl _ _ _;rcases ws with _|⟨w,ws⟩
  ·show nK rd E H ts i [] (ln,op) (ln,op++[])∧op.length=(op++[]).length;rw[aq];exact⟨.nil,rfl⟩
  ·cases hl
 |cons K Ks ih=>
  intro ws i ln op hl hP hc hn;rcases ws with _|⟨w,ws⟩
  ·cases hl
  rw[List.flatMap_cons,←ao]at hn⊢;have h0:=hP 0 K w rfl rfl;obtain⟨r1,r2⟩:=h0.r (ln++[ss i]) op hc (hn.sublist (List.sublist_append_left ..));have hc':c≤(op++D K).length:=aa hc (ay▸ah ..);obtain⟨q1,q2⟩:=ih (i:=i+1) (ln:=(tell w ⟨⟨nm0,ln++[ss i]⟩,op.length⟩).nl.ln) (op:=op++D K) (Nat.succ.inj hl) (λ j K' w' e1 e2=>(by
   have:=hP (j+1) K' w' e1 e2;rw[←aQ,Nat.add_right_comm]at this;exact this)) hc' hn
  have e:iF tell nm0 i (w::ws) (ln,op.length)=iF tell nm0 (i+1) ws ((tell w ⟨⟨nm0,ln++[ss i]⟩,op.length⟩).nl.ln,(op++D K).length):=by rw[←r2];rfl
  rw[e];exact⟨.cons h0.a r1 q1,q2⟩
def wG (H:AV)(I:Int→Option AV)(t:Bd)(b:AV):El→Prop
 |.goal t' tg=>t=t'∧(hc t'=true→GI H I tg b)
 |.own=>t=.lf (.a 15)∧b=H
 |.fail=>t=.lf (.a 17)
 |.mark _=>False
theorem Mt.inv {H:AV}{I:Int→Option AV}{e:El}{ys:List El}{rows:List dE}(h:Mt H I (e::ys) rows):∃ t b rs,rows=(t,b)::rs∧wG H I t b e∧Mt H I ys rs:=by
 rcases h with _|⟨h1,h2⟩|h2|h2
 ·exact⟨_,_,_,rfl,⟨rfl,h1⟩,h2⟩
 ·exact⟨_,_,_,rfl,⟨rfl,rfl⟩,h2⟩
 ·exact⟨_,_,_,rfl,rfl,h2⟩
theorem wG.v {H:AV}{I:Int→Option AV}{t:Bd}{b:AV}{e:El}{s3:Sy}{nv0 nv:Int}:wG H I t b e→yd (om s3 nv0) nv0 nv e→∀ y∈t.tm.vars,y<nv0:=by
 rcases e with⟨t',tg⟩|_|_|k
 ·exact λ h he=>h.1▸he.1.v
 ·exact λ h ω=>h.1▸nofun
 ·exact λ h ω=>(show t=.lf (.a 17)from h)▸nofun
 ·exact λ h=>h.elim
theorem uk.row {H:AV}{I:Int→Option AV}{t:Bd}{b:AV}{e:El}{tg:Int}(h:uk e tg):wG H I t b e→t=.lf (.a 15)∧GI H I tg b:=by
 rcases h with _|_
 ·exact λ h=>⟨h.1,.inl ⟨rfl,h.2⟩⟩
 ·exact λ h=>⟨h.1,h.2 rfl⟩
theorem tM.row {H:AV}{I:Int→Option AV}{t:Bd}{b:AV}{e:El}(h:tM e):wG H I t b e→∃ n:Int,(n=17∨n=18)∧t=.lf (.a n):=by
 rcases h with _|hn
 ·exact λ h=>⟨17,.inl rfl,h⟩
 ·exact λ h=>⟨_,hn,h.1⟩
theorem eL.tup {c:Nat}{v:AV}(h:eL c v):∃ vs,v=.tup vs∧AV.pls vs=true:=by
 rcases h with _|_
 ·exact⟨_,rfl,rfl⟩
 ·exact⟨_,rfl,rfl⟩
theorem eL.ok {c:Nat}{v:AV}(h:eL c v):e6 v:=by
 rcases h with _|_
 ·exact fW _
 ·exact oX _ _
structure Ke (rd:p7)(G:Int→Option (List KR))(H:AV)(pl:Nat)(c c':Bool)(x:Gl)(nv0:Int)(B:Int→Option AV)(s s1:RS)(t1:TS)(D1:List Int):Prop where
 rd:∀ {i:Nat} {gs:List Gl} {s':RS},ej rd G H pl (i+1) c' s1 gs s'→ej rd G H pl i c s (x::gs) s'
 rel:eP nv0 B s1.nl t1.nl
 op:s1.op=s.op++D1
 ct:t1.ct=s1.op.length
structure zy (n h:Nat)(nv0:Int)(I B:Int→Option AV):Prop where
 b:∀ x v,I x=some v→B x=some v
 r:∀ x v,I x=some v→eL n v
 h:∀ x v,I x=some v→v≠bC h
 n:∀ x v,I x=some v→nv0≤x
section
variable {rd:p7}{G:Int→Option (List KR)}{pl n h:Nat}{nv0:Int}{I B:Int→Option AV}{s:RS}{t:TS}{sP:Sy}{occ:List Int}{cs:CS}{p:PS}{lis:List Addr}{e:El}{x:Gl}{r:dE}{tell:List dE→TS→TS}{near:List Int}
theorem Rx {H:AV}{c c':Bool}{n1 n2:NL}(hr:eP nv0 B n1 n2)(hct:t.ct=s.op.length)(h:∀ {i:Nat} {gs:List Gl} {s':RS},ej rd G H pl (i+1) c' ⟨n1,s.op⟩ gs s'→ej rd G H pl i c s (x::gs) s'):Ke rd G H pl c c' x nv0 B s ⟨n1,s.op⟩ ⟨n2,t.ct⟩ []:=
 ⟨h,hr,(aq _).symm,hct⟩
theorem H4 (tg:Int)(cs:CS)(nv:Int):(lu tg cs nv).called=cs.called:=by
 unfold lu
 by_cases q:tg= -1
 ·rw[aL q];cases e:cs.called
  ·exact e
  ·exact e
 ·rw[aK q]
theorem JY {tg nv:Int}{b:AV}(hI:zy n h nv0 I B)(hT:GI (bC h) I tg b)(hl:tg= -1→cs.called=true→nv0≤ce cs nv∧B (ce cs nv)=some (bC h))(hr:eP nv0 B s.nl t.nl)(hct:t.ct=s.op.length):Ke rd G (bC h) pl cs.called cs.called (kR tg cs nv) nv0 B s ⟨s.nl.say (kO b),s.op⟩ ⟨t.nl.say (kO b),t.ct⟩ []:=by
 refine Rx (hr.say _) hct ?_;rcases hT with⟨q,rfl⟩|⟨q,hb⟩
 ·have e:kR tg cs nv=(match cs.called with|true=>.cutto (ce cs nv)|false=>.cut):=aL q;rw[e];intro i gs s' H;cases hc:cs.called with
  |true=>
   obtain⟨l1,l2⟩:=hl q hc;rw[hc]at H;exact .cutto ((hr.bar _ l1).trans l2) rfl (λ ω=>rfl) H
  |false=>rw[hc]at H;exact .cut H
 ·have e:kR tg cs nv=.cutto tg:=aK q;rw[e];obtain⟨vs,rfl,hv⟩:=(hI.r tg b hb).tup;intro i gs s' H;exact .cutto ((hr.bar _ (hI.n tg _ hb)).trans (hI.b tg _ hb)) hv (λ z=>(hI.h tg _ hb z).elim) H
theorem Gg {f:Int}(h:f≠tT):jO tT f=.tup [.str cG,.int f]:=ae (λ z=>AV.tup [z,.int f]) (aK h)
abbrev SQ (rd:p7)(G:Int→Option (List KR))(pl h:Nat)(nv0:Int)(B:Int→Option AV)(s:RS)(t:TS)(sP:Sy)(occ:List Int)(cs:CS)(p:PS)(tell:List dE→TS→TS)(near:List Int)(e:El)(x:Gl)(u:Bd)(b:AV):Prop:=
 ∃ s1,Ke rd G (bC h) pl cs.called (nq occ cs p e).called x nv0 B s s1 (nP sP tT tell near b t u) []
theorem yL {n1 n2:NL}{u:Tm}{b:AV}{c':Bool}(hr:eP nv0 B n1 n2)(hct:t.ct=s.op.length)(h2:Kv sP tT b t.nl u=n2)(h1:(nq occ cs p e).called=c')(hh:∀ {i:Nat} {gs:List Gl} {s':RS},ej rd G (bC h) pl (i+1) c' ⟨n1,s.op⟩ gs s'→ej rd G (bC h) pl i cs.called s (x::gs) s'):SQ rd G pl h nv0 B s t sP occ cs p tell near e x (.lf u) b:=by
 subst h2 h1;exact⟨⟨n1,s.op⟩,hh,hr,(aq _).symm,hct⟩
theorem DS {u:Bd}{b:AV}(hr:eP nv0 B s.nl t.nl)(hct:t.ct=s.op.length)(hI:zy n h nv0 I B)(k:zI G sP occ cs p e x):wG (bC h) I u b e→(∀ y∈u.tm.vars,y<nv0)→(∀ tg,uk e tg→tg= -1→cs.called=true→nv0≤ce cs p.nv∧B (ce cs p.nv)=some (bC h))→
  SQ rd G pl h nv0 B s t sP occ cs p tell near e x u b:=by
 rcases k with⟨hc,e1⟩|⟨hf,e1⟩|_|⟨n1,n2,hm,hg,e1⟩|hg|_|_|⟨n1,n2,hg,e1⟩
 ·intro hR _ hl;obtain⟨rfl,hT⟩:=hc.row hR;have e2:(nq occ cs p e).called=cs.called:=(ae CS.called e1).trans (H4 ..);unfold SQ;rw[e2];exact⟨_,JY hI hT (hl _ hc) hr hct⟩
 ·intro hR _ _;obtain⟨m,hm,rfl⟩:=hf.row hR;exact yL (hr.say (.str eO)) hct (ae t.nl.say ((aK (by rcases hm with rfl|rfl<;>decide)).trans (aL hm))) (e1▸rfl) .fail
 ·exact λ hR=>hR.elim
 ·rintro⟨rfl,_⟩ _ _
  exact yL (n1:=spellL [] _) (hr.say (.tup [.str cG,.int (sk sP _)])) hct (ae t.nl.say ((aK n1).trans (aK n2))) (e1▸rfl) (.call hg)
 ·rintro⟨rfl,_⟩ hv _
  exact yL (n1:=spellL [.v _] _) ((hr.say (.tup [.str cG,.int 24])).var (hv _ (af ..))) hct (ae (λ z=>(t.nl.say z).var _) (Gg (by decide))) rfl (.call hg)
 ·rintro⟨rfl,_⟩ hv _
  exact yL (n1:=spell _ (spell _ _)) (eP.spellL [_,_] (hr.say (.str dr)) hv) hct (ae (λ z=>spellL [_,_] (t.nl.say z)) (aL rfl)) rfl .unify
 ·rintro⟨rfl,_⟩ hv _
  exact yL (eP.spellL _ (hr.say (.tup [.str dY,.int tT])) hv) hct (ae (λ z=>spellL _ (t.nl.say z)) ((aK (by decide)).trans (ae (λ z=>AV.tup [z,.int tT]) (aL rfl)))) rfl .blt
 ·rintro⟨rfl,_⟩ hv _
  exact yL (eP.spellL _ (hr.say (.tup [.str cG,.int _])) hv) hct (ae (λ z=>spellL _ (t.nl.say z)) ((aK n1).trans (Gg n2))) (e1▸rfl) (.call hg)
end
structure Uj (nv0:Int)(sP:Sy)(k:Nat)(w:Wk)(h pl:Nat)(E nm:Nm)(B:Int→Option AV)(rows:List dE)(op:List Int):Prop where
 hE:∀ x,(bM E x).isSome=true↔x∈Tm.varsL w.args
 rel:RelE nv0 B E nm
 bar:zy op.length h nv0 B B
 M:t6 (bC h) B pl (bV w.items) rows
 ok:tE sP k rows
 rk:∀ r∈rows,eL op.length r.2
 hh:h≤op.length
def tX (s3:Sy)(fo0 nv0:Int)(w0:Wk)(p:PS)(Γ:List Gp)(K0:KR)(kt:List KR)(k:Nat):Prop:=
 ∀ (j:Nat) (w:Wk) (K:KR) (b:List Gp),(K0::kt)[j]? =some K→zM (om s3 nv0) s3 fo0 nv0 w0 p.sy Γ j w K b→∀ (h pl:Nat) (E nm:Nm) (B:Int→Option AV) (rows:List dE) (ln:List AV) (op:List Int),Uj nv0 p.sy k w h pl E nm B rows op→(op++DK K0 kt K).Nodup→1≤k→
  tC (cD kt) k K E (bC h) pl (ln,op) ((eK p.sy tT k rows ⟨⟨nm,ln⟩,op.length⟩).nl.ln,op++DK K0 kt K)∧(eK p.sy tT k rows ⟨⟨nm,ln⟩,op.length⟩).ct=(op++DK K0 kt K).length
structure MkG (fn:Int)(as:List Tm)(its:List (List It))(i:Nat)(w:Wk):Prop where
 a:w.args=as
 i:its[i]? =some w.items
theorem Fe {fn:Int}{as:List Tm}{w:Wk}:∀ {lis:List Addr} {its:List (List It)} {i:Nat},(on fn as lis its)[i]? =some w→MkG fn as its i w:=by
 intro lis
 induction lis with
 |nil=>intro its i h;cases h
 |cons a l ih=>
  intro its i h;rcases its with _|⟨x,r⟩
  ·cases h
  ·rcases i with _|i
   ·obtain rfl:=aA h;exact⟨rfl,rfl⟩
   ·have:=ih (its:=r) (i:=i) h;exact⟨this.a,this.i⟩
def Hv (b H x:AV):Prop:=x=b∨x=H∨∃ i:Int,x=dH H i
theorem gc {t:Bd}{b:AV}:∀ r∈bZ t b,r.2=b:=λ r hr=>by
 obtain⟨z,_,rfl⟩:=be hr;rfl
theorem Fy {b H:AV}{i:Nat}{t:Bd}:∀ r∈gG b H i t,Hv b H r.2:=by
 rcases t with t|⟨x,y⟩|⟨x,y⟩|⟨x,y⟩|x
 ·exact λ r hr=>.inl (gc r hr)
 ·exact λ r hr=>.inl (gc r hr)
 ·exact λ r hr=>.inl (gc r hr)
 ·intro r hr;rcases aT hr with q|q
  ·rcases aT q with q|q
   ·exact .inr (.inr ⟨i,gc r q⟩)
   ·exact .inr (.inl (by rw[aj q]))
  ·exact .inl (gc r q)
 ·exact λ r hr=>.inl (gc r hr)
theorem mn {b H:AV}:∀ {l:List Bd} {i:Nat},∀ w∈dZ b H i l,∀ r∈w,Hv b H r.2:=by
 intro l
 induction l with
 |nil=>exact λ w hw=>nomatch hw
 |cons t r ih=>exact λ w hw=>(ap hw).elim (λ e=>e▸Fy) (ih w)
theorem zh {b H:AV}{g:Bd}:∀ w∈cf b H g,∀ r∈w,Hv b H r.2:=by
 rcases g with t|⟨x,y⟩|⟨x,y⟩|⟨x,y⟩|x
 ·exact mn
 ·exact mn
 ·exact mn
 ·exact mn
 ·intro w hw r hr;rcases ap hw with rfl|q
  ·rcases aT hr with q|q
   ·exact .inr (.inr ⟨0,gc r q⟩)
   ·rcases ap q with rfl|q
    ·exact .inr (.inl rfl)
    ·rw[aj q];exact .inr (.inl rfl)
  ·rw[aj q]at hr;cases hr
noncomputable def qm (g:Bd)(bt:Int):List Int:=match hc g with|false=>[]|true=>[bt]
theorem sI {g:Bd}{bt x:Int}(h:x∈qm g bt):hc g=true∧x=bt:=by
 unfold qm at h;cases e:hc g with
 |true=>rw[e]at h;exact⟨rfl,aj h⟩
 |false=>rw[e]at h;cases h
theorem HP {g:Bd}{bt:Int}(h:hc g=true):bt∈qm g bt:=by unfold qm;rw[h];exact aE rfl
theorem Af (occ:List Int)(g:Bd)(tg:Int)(cs:CS)(nv:Int):tD occ g tg cs nv=cK (cg occ g.tm++qm g (iI g tg cs nv)):=by
 unfold tD qm;cases hc g with
 |false=>exact (aq _).trans (ae cK (aq _).symm)
 |true=>exact (aN (f:=Tm.v) (l₁:=cg occ g.tm) (l₂:=[iI g tg cs nv])).symm
structure SC (nv0:Int)(B:Int→Option AV)(b:AV)(bt nv:Int):Prop where
 n:bt≠ -1
 g:nv0≤bt
 l:bt<nv
 b:B bt=some b
section
variable {s3:Sy}{fo0 nv0 nvS tg:Int}{w0:Wk}{p q:PS}{Γ Γq:List Gp}{bs:List (List Gp)}{K0:KR}{kt:List KR}{k n h pl:Nat}{occ:List Int}{cs:CS}{lis:List Addr}{g:Bd}{I B:Int→Option AV}{b:AV}{s:RS}{t:TS}{near:List Int}
theorem X5 {nv:Int}(hp:0≤nv0)(hL:vf nvS nv cs)(hn:nvS≤nv)(h0:nv0≤nvS)(ht:yc nv0 nv tg)(hI:zy n h nv0 I B)(hc1:Mine.hc g=true)(hT:GI (bC h) I tg b)(hl:tg= -1→B (ce cs nv)=some (bC h)):SC nv0 B b (iI g tg cs nv) (m4 g tg cs nv):=by
 have A:=(H8 (g:=g) hL hn h0 ht).t;have e:iI g tg cs nv=if tg= -1 then ce cs nv else tg:=by unfold iI;rw[hc1]
 have m:nv0≤iI g tg cs nv∧B (iI g tg cs nv)=some b:=by
  rw[e];rcases hT with⟨z,rfl⟩|⟨z,hb⟩
  ·rw[aL z];exact⟨aS h0 (oZ hL hn).ge,hl z⟩
  ·rw[aK z];exact⟨hI.n tg b hb,hI.b tg b hb⟩
 have hne:iI g tg cs nv≠ -1:=λ z=>absurd (aS hp m.1) (z▸(by decide));exact⟨hne,m.1,(A.resolve_left hne).2,m.2⟩
noncomputable abbrev FK (K0:KR)(kt:List KR)(f:Int):List Int:=f::((cD kt f).getD []).flatMap (DK K0 kt)
theorem D7 {sP:Sy}{tell:List dE→TS→TS}(hg:g.isCh=true):nP sP tT tell near b t g=d6 tell g b near t:=by
 rcases g with f|⟨x,y⟩|⟨x,y⟩|⟨x,y⟩|x
 ·cases hg
 ·cases hg
 ·rfl
 ·rfl
 ·rfl
variable (T:iO s3 fo0 nv0 w0 p Γ bs K0 kt)(IH:tX s3 fo0 nv0 w0 p Γ K0 kt k)
include T IH
theorem Fx {ln:List AV}{Ks:List KR}{m:Nat}{s2 t2:NL}(GR:DH (om s3 nv0) s3 fo0 nv0 w0 p Γ (K0::kt) m (wA occ g tg cs q lis) Ks)(hg:g.isCh=true)(hk1:1≤k)(hok:BOK p.sy (k+1) g)(hb:eL s.op.length b)(hv:∀ x∈g.tm.vars,x<nv0)(hp:0≤nv0)(hN:nv0≤m4 g tg cs q.nv)(hl:lis.length=(jd (iI g tg cs q.nv) (m4 g tg cs q.nv) g).length)(hbt:Mine.hc g=true→SC nv0 B b (iI g tg cs q.nv) (m4 g tg cs q.nv))
  (hr:eP nv0 B (spellL (cK (cg occ g.tm)) s2) (spellL (cK (cg occ g.tm)) t2)) {f:Int} (hnd:(s.op++[f]++Ks.flatMap (DK K0 kt)).Nodup):
  Ks.length=(cf b (bC (s.op.length+1:Nat)) g).length∧
  nK (tC (cD kt) k) (jg (spellL (cK (cg occ g.tm)) s2).nm (cg occ g.tm++qm g (iI g tg cs q.nv))) (bC (s.op.length+1:Nat)) (cK (cg occ g.tm++qm g (iI g tg cs q.nv))) 0 Ks (ln,s.op++[f]) ((iF (eK p.sy tT k) (qt (spellL (cK (cg occ g.tm)) t2).nm (cg occ g.tm)) 0 (cf b (bC (s.op.length+1:Nat)) g) (ln,(s.op++[f]).length)).1,s.op++[f]++Ks.flatMap (DK K0 kt))∧
  (iF (eK p.sy tT k) (qt (spellL (cK (cg occ g.tm)) t2).nm (cg occ g.tm)) 0 (cf b (bC (s.op.length+1:Nat)) g) (ln,(s.op++[f]).length)).2=(s.op++[f]++Ks.flatMap (DK K0 kt)).length:=by
 have hbe:=S5 (B0:=λ x=>if x∈qm g (iI g tg cs q.nv)then some ((B x).getD .none)else none) hr (λ x hx=>hv x (pZ hx)) (λ x hx=>by obtain⟨h1,rfl⟩:=sI hx;exact (hbt h1).g) (λ x=>rfl);have hB0:∀ x v,(if x∈qm g (iI g tg cs q.nv)then some ((B x).getD .none)else none)=some v→Mine.hc g=true∧x=iI g tg cs q.nv∧v=b:=λ x v e=>by
  by_cases z:x∈qm g (iI g tg cs q.nv)
  ·rw[aL z]at e;obtain⟨h1,rfl⟩:=sI z;rw[(hbt h1).b]at e;exact⟨h1,rfl,(aA e).symm⟩
  ·rw[aK z]at e;cases e
 have hM:=KV (H:=bC (s.op.length+1:Nat)) (b:=b) (I:=λ x=>if x∈qm g (iI g tg cs q.nv)then some ((B x).getD .none)else none) (bt:=iI g tg cs q.nv) (nv:=m4 g tg cs q.nv) hg (aS hp hN) λ h1=>⟨(hbt h1).n,(by
  show (if _ then _ else _)=_;rw[aL (HP h1),(hbt h1).b];rfl),(hbt h1).l⟩
 have hsp:=mq (v:=b) (n:=(s.op.length+1:Nat)) (zZ T.X) hok hg hb.ok;have hlen:Ks.length=(cf b (bC (s.op.length+1:Nat)) g).length:=GR.len.trans (((Br hl).2).trans hM.len);refine⟨hlen,brs (c:=s.op.length+1) hlen (λ j K w e1 e2=>?_) (am (bK ..).symm) hnd⟩;obtain⟨w',j',b',f1,f2,f3,r⟩:=GR.r j K e1;have M:=Fe f1;have hwa:w'.args=cK (cg occ g.tm++qm g (iI g tg cs q.nv)):=M.a.trans (Af ..);refine⟨?_,λ ln op hc hnd=>?_⟩
 ·obtain⟨_,_,_,_,_,_,_,_,r⟩:=r;rw[r.K];exact hwa
 ·have hlt:s.op.length≤op.length:=Nat.le_of_succ_le hc;rw[aU];refine IH j' w' K b' f3 r (s.op.length+1) j _ _ _ w ln op ⟨λ x=>?_,hbe.r,⟨λ ω ω z=>z,λ x v z=>?_,λ x v z=>?_,λ x v z=>?_⟩,hM.m j _ w M.i e2,hsp w (aY e2),λ r hr=>?_,hc⟩ hnd hk1
  ·rw[hwa,ft];exact hbe.e x
  ·rw[(hB0 x v z).2.2];exact hb.mono hlt
  ·rw[(hB0 x v z).2.2];exact hb.new (bq _)
  ·obtain⟨h1,rfl,_⟩:=hB0 x v z;exact (hbt h1).g
  ·rcases zh w (aY e2) r hr with z|z|⟨i,z⟩
   ·rw[z];exact hb.mono hlt
   ·rw[z];exact .here hc
   ·rw[z];exact .test hc
end
noncomputable def qD (g:Bd)(b:AV):AV:=match hc g with|true=>b|false=>.none
section
variable {s3:Sy}{fo0 nv0 nvS tg:Int}{w0:Wk}{p q:PS}{Γ Γq:List Gp}{bs:List (List Gp)}{K0:KR}{kt:List KR}{k n h pl:Nat}{occ:List Int}{cs:CS}{lis:List Addr}{g:Bd}{I B:Int→Option AV}{b:AV}{s:RS}{t:NL}{near:List Int}
theorem I1 {kept:List Int}{bt nv:Int}{u:NL}(hr:eP nv0 B s.nl u)(hk:∀ x∈kept,x<nv0)(hb:eL n b)(hbt:hc g=true→SC nv0 B b bt nv):tZ s.nl.nm kept (qm g bt) (qD g b):=by
 unfold qm qD;cases e:hc g with
 |false=>exact .none λ x hx v hv=>hr.ni x v ((hr.rel x (hk x hx)).symm.trans hv)
 |true=>
  obtain⟨vs,rfl,_⟩:=hb.tup;have h:=hbt e;exact .one ((hr.bar _ h.g).trans h.b)
theorem H5 {rd:p7}{G:Int→Option (List KR)}{H:AV}{c:Bool}{f:Int}{ts:List Tm}{s1:RS}{t1:TS}{D1:List Int}(hO:zH rd G f ts s s1)(rel:eP nv0 B s1.nl t1.nl)(op:s1.op=s.op++D1)(ct:t1.ct=s1.op.length):∃ s1,Ke rd G H pl c true (.call f ts) nv0 B s s1 t1 D1:=⟨s1,λ h=>.opn hO h,rel,op,ct⟩
variable (T:iO s3 fo0 nv0 w0 p Γ bs K0 kt)(IH:tX s3 fo0 nv0 w0 p Γ K0 kt k)
include T IH
theorem Jf {Ks:List KR}{m:Nat}(hG:cD kt (qk occ g tg cs q).1=some Ks)(GR:DH (om s3 nv0) s3 fo0 nv0 w0 p Γ (K0::kt) m (wA occ g tg cs q lis) Ks)(hg:g.isCh=true)(hk1:1≤k)(hok:BOK p.sy (k+1) g)(hb:eL s.op.length b)(hv:∀ x∈g.tm.vars,x<nv0)(hp:0≤nv0)(hN:nv0≤m4 g tg cs q.nv)(hl:lis.length=(jd (iI g tg cs q.nv) (m4 g tg cs q.nv) g).length)(hbt:hc g=true→SC nv0 B b (iI g tg cs q.nv) (m4 g tg cs q.nv))
  (hkp:uq near g.tm.vars=cg occ g.tm) (hr:eP nv0 B s.nl t) (hnd:(s.op++FK K0 kt (qk occ g tg cs q).1).Nodup):
  ∃ s1,Ke (tC (cD kt) k) (cD kt) (bC h) pl cs.called true (.call (qk occ g tg cs q).1 (tD occ g tg cs q.nv)) nv0 B s s1 (d6 (eK p.sy tT k) g b near ⟨t,s.op.length⟩) (FK K0 kt (qk occ g tg cs q).1):=by
 have hF:FK K0 kt (qk occ g tg cs q).1=[(qk occ g tg cs q).1]++Ks.flatMap (DK K0 kt):=by unfold FK;rw[hG];rfl
 rw[hF,←ao]at hnd;rw[hF];generalize hf:(qk occ g tg cs q).1=f at hG hnd;have hkv:∀ x∈cg occ g.tm,x<nv0:=λ x hx=>hv x (pZ hx);have hr2:eP nv0 B (spellL (cK (cg occ g.tm)) (s.nl.say (gS (cf b (bC (s.op.length+1:Nat)) g).length))) (spellL (cK (cg occ g.tm)) (t.say (gS (cf b (bC (s.op.length+1:Nat)) g).length))):=
  eP.spellL _ (hr.say _) λ x hx=>hkv x (by rw[ft]at hx;exact hx)
 have hC:=w9 (x8 (sP:=p.sy) (tT:=tT) (zZ T.X) k) (near:=near) (s:=⟨t,s.op.length⟩) (c:=s.op.length) (zZ T.X) hg hb.ok hok hr.ni (au _);have e:d6 (eK p.sy tT k) g b near ⟨t,s.op.length⟩=⟨⟨(eT g b near ⟨t,s.op.length⟩).nm,(ki (eK p.sy tT k) g b near ⟨t,s.op.length⟩).1++[pE (qD g b)]⟩,(ki (eK p.sy tT k) g b near ⟨t,s.op.length⟩).2⟩:=by
  obtain⟨add,a1,a2,_⟩:=hC.ad;unfold d6 qD;rw[a1,List.drop_left];cases z:hc g with
  |true=>rw[aL ((a2 b hb).mpr ⟨rfl,z⟩)]
  |false=>rw[aK λ y=>by have:=((a2 b hb).mp y).2;rw[z]at this;cases this]
 rw[e];unfold ki eT;rw[hkp];obtain⟨hlen,r1,r2⟩:=Fx (f:=f) (ln:=(spellL (cK (cg occ g.tm)) (t.say (gS (cf b (bC (s.op.length+1:Nat)) g).length))).ln) T IH GR hg hk1 hok hb hv hp hN hl hbt hr2 hnd;rw[bK]at r1 r2;have hnf:f∉s.op:=λ z=>by
  have h1:=(List.nodup_append.mp (hnd.sublist (List.sublist_append_left ..))).2.2;exact h1 f z f (aE rfl) rfl
 have hkn:(cg occ g.tm++qm g (iI g tg cs q.nv)).Nodup:=by
  refine List.nodup_append.mpr ⟨CT ..,?_,λ x hx y hy e=>?_⟩
  ·unfold qm;cases hc g;exact .nil;exact List.pairwise_singleton ..
  ·obtain⟨h1,rfl⟩:=sI hy;exact Int.lt_irrefl _ (aJ (hkv x hx) (e▸(hbt h1).g))
 have hO:∀ N,N=Ks.length→nK (tC (cD kt) k) (jg (spellL (cK (cg occ g.tm)) (s.nl.say (gS N))).nm (cg occ g.tm++qm g (iI g tg cs q.nv))) (bC (s.op.length+1:Nat)) (cK (cg occ g.tm++qm g (iI g tg cs q.nv))) 0 Ks ((spellL (cK (cg occ g.tm)) (s.nl.say (gS N))).ln,s.op++[f]) ((iF (eK p.sy tT k) (qt (spellL (cK (cg occ g.tm)) (t.say (gS (cf b (bC (s.op.length+1:Nat)) g).length))).nm (cg occ g.tm)) 0 (cf b (bC (s.op.length+1:Nat)) g) ((spellL (cK (cg occ g.tm)) (t.say (gS (cf b (bC (s.op.length+1:Nat)) g).length))).ln,s.op.length+1)).1,s.op++[f]++Ks.flatMap (DK K0 kt))→
   zH (tC (cD kt) k) (cD kt) f (cK (cg occ g.tm++qm g (iI g tg cs q.nv))) s ⟨⟨(spellL (cK (cg occ g.tm)) (s.nl.say (gS N))).nm,(iF (eK p.sy tT k) (qt (spellL (cK (cg occ g.tm)) (t.say (gS (cf b (bC (s.op.length+1:Nat)) g).length))).nm (cg occ g.tm)) 0 (cf b (bC (s.op.length+1:Nat)) g) ((spellL (cK (cg occ g.tm)) (t.say (gS (cf b (bC (s.op.length+1:Nat)) g).length))).ln,s.op.length+1)).1++[pE (qD g b)]⟩,s.op++[f]++Ks.flatMap (DK K0 kt)⟩:=λ N hN hB=>by
  subst hN;exact zH.mk (cg occ g.tm) (qm g (iI g tg cs q.nv)) (qD g b) hG hnf hkn (I1 hr hkv hb hbt) hB
 have hO:=hO _ hlen.symm (by rw[hr2.ln];exact r1);rw[Af];exact H5 hO ⟨hr2.toRelE,rfl⟩ (ao ..) r2
end
theorem tG.st {P:Bd→Prop}{s3:Sy}{fo0 nv0 nvS:Int}{w0:Wk}{occ:List Int}{cs cs':CS}{p p':PS}{Γ Γ':List Gp}{ys:List El}(h:tG P s3 fo0 nv0 nvS w0 occ cs p Γ ys cs' p' Γ'):0≤cs.level→cs'.level=cs.level:=by
 induction h with
 |nil=>exact λ ω=>rfl
 |cons _ _ _ _ _ _ _ E _ ih=>exact λ z=>have e:=E.s.st z;(ih (e.symm▸z)).trans e
theorem tG.gl {P:Bd→Prop}{s3:Sy}{fo0 nv0 nvS:Int}{w0:Wk}{occ:List Int}{cs cs':CS}{p p':PS}{Γ Γ':List Gp}{ys:List El}(h:tG P s3 fo0 nv0 nvS w0 occ cs p Γ ys cs' p' Γ'):(∀ e∈ys,e.ok)→∃ gs,cs'.goals=cs.goals++gs:=by
 induction h with
 |nil=>exact λ ω=>⟨[],(aq _).symm⟩
 |cons lis hl _ _ _ _ _ _ _ ih=>
  intro ho;obtain⟨_,g⟩:=CY (occ:=occ) (ho _ (af ..)) hl;obtain⟨x,e,_⟩:=g.g;obtain⟨gs,e2⟩:=ih λ e he=>ho e (ag _ he);exact⟨x::gs,by rw[e2,e,ao];rfl⟩
theorem ym {cs:CS}{nv:Int}(hc:cs.called=true):(lu (-1) cs nv).level=ce cs nv:=by
 unfold lu;rw[aL rfl,hc];rfl
theorem Hz {g:Bd}{cs:CS}{nv:Int}(hc1:hc g=true):(zK g (-1) cs nv).level=ce cs nv:=by
 unfold zK;rw[hc1];exact ae CS.level (aL rfl)
theorem uk.lv {occ:List Int}{cs:CS}{p:PS}{e:El}{tg:Int}(h:uk e tg):tg= -1→cs.called=true→(nq occ cs p e).level=ce cs p.nv:=by
 rcases h with _|_
 ·exact λ ω hc=>ym hc
 ·exact λ z hc=>z▸ym hc
structure Sp (s':RS)(t':TS)(op:List Int):Prop where
 ln:s'.nl.ln=t'.nl.ln
 op:s'.op=op
 ct:t'.ct=s'.op.length
section
variable {s3:Sy}{fo0 nv0 nvS:Int}{w0:Wk}{p:PS}{Γ:List Gp}{bs:List (List Gp)}{K0:KR}{kt:List KR}{k n h pl:Nat}{occ outer A:List Int}{I B:Int→Option AV}
variable (T:iO s3 fo0 nv0 w0 p Γ bs K0 kt)(IH:tX s3 fo0 nv0 w0 p Γ K0 kt k)(hp:0≤nv0)(h0:nv0≤nvS)(hI:zy n h nv0 I B)(hO:∀ x,x<nv0→(x∈outer↔x∈A))
include T IH hp h0 hI hO
set_option tactic.hygienic true in
theorem H3 {cs:CS}{q:PS}{Γq:List Gp}{lis:List Addr}{e:El}{x:Gl}{u:Bd}{b:AV}{s:RS}{t:NL}{pre rs:List dE}(hL:vf nvS q.nv cs)(hn:nvS≤q.nv)(hrel:eP nv0 B s.nl t)(hnl:n≤s.op.length)(hbar:eL n b)(K:P7 occ cs q e x):
  wG (bC h) I u b e→yd (om s3 nv0) nv0 q.nv e→Γq++zG occ cs q lis e<+:Γ→lis.length=(wL cs q e).length→((nq occ cs q e).level=ce cs q.nv→B (ce cs q.nv)=some (bC h))→q7 p.sy (k+1) (u,b)→occ=A++(pre++(u,b)::rs).flatMap (·.1.tm.vars)→(s.op++(iQ (cD kt) x).flatMap (FK K0 kt)).Nodup→
  ∃ s1,Ke (tC (cD kt) k) (cD kt) (bC h) pl cs.called (nq occ cs q e).called x nv0 B s s1 (nP p.sy tT (eK p.sy tT k) (ic outer (pre++rs)) b ⟨t,s.op.length⟩ u) ((iQ (cD kt) x).flatMap (FK K0 kt)):=by
 rcases K with⟨hch,eC⟩
 rename_i g tg
 rintro⟨rfl,hT⟩ he hsub hl lvl hok hocc
 rw[N0 hch]at hsub;obtain⟨z,hz⟩:=hsub;rw[ao]at hz;have hgs:cD kt (qk occ u tg cs q).1=some _:=T.gs (g:=wA occ u tg cs q lis) (hz▸aF _ (af ..));rw[uS (ae Option.isSome hgs),List.flatMap_singleton,D7 hch,show (nq occ cs q (.goal u tg)).called=true from eC▸rfl];intro hnd;obtain⟨j,rfl⟩:=hok.toBOK.posc hch;have hkp:uq (ic outer (pre++rs)) u.tm.vars=cg occ u.tm:=by
  unfold ic;rw[List.flatMap_append];refine DP (A:=A) ?_ λ y hy=>hO y (he.1.v y hy);rw[hocc,List.flatMap_append];rfl
 exact Jf T IH hgs (T.H.grp T.l hz.symm) hch (aV _) hok.toBOK (hbar.mono hnl) he.1.v hp (aS (aS h0 hn) (H8 hL hn h0 he.2.1).s.le) hl
  (λ hc1=>X5 (g:=u) hp hL hn h0 he.2.1 hI hc1 (hT hc1) λ htg=>lvl ((ae CS.level eC).trans (htg▸Hz hc1))) hkp hrel hnd
theorem Gj {cs cs':CS}{q q':PS}{Γq Γ':List Gp}{ys:List El}(H:tG (om s3 nv0) s3 fo0 nv0 nvS w0 occ cs q Γq ys cs' q' Γ'):Γ'<+:Γ→fP q'.sy p.sy→(0≤cs'.level→B cs'.level=some (bC h))→(∀ e∈ys,e.ok)→
  ∀ {gs:List Gl} {rows:List dE},Mt (bC h) I ys rows→∀ {pre:List dE} {i:Nat} {s:RS} {t:NL},cs'.goals=cs.goals++gs→eP nv0 B s.nl t→n≤s.op.length→tE p.sy (k+1) rows→(∀ r∈rows,eL n r.2)→occ=A++(pre++rows).flatMap (·.1.tm.vars)→(s.op++(gs.flatMap (iQ (cD kt))).flatMap (FK K0 kt)).Nodup→
  ∃ s',ej (tC (cD kt) k) (cD kt) (bC h) pl i cs.called s gs s'∧Sp s' (xq p.sy tT (eK p.sy tT k) outer pre rows ⟨t,s.op.length⟩) (s.op++(gs.flatMap (iQ (cD kt))).flatMap (FK K0 kt)):=by
 induction H with
 |nil _=>
  intro _ _ _ _ gs rows hM;rcases hM with _|_|_|_
  intro pre i s t hg hr _ _ _ _ _;obtain rfl:gs=[]:=List.append_cancel_left (hg.symm.trans (aq _).symm);exact⟨s,.nil,hr.ln,(aq _).symm,rfl⟩
 |@cons cs cs' q q' Γq Γ' e r lis hl he hL hn h1 hIq E hr ih=>
  intro hpx hs hlv ho gs rows hM;obtain⟨u,b,rs,rfl,hR,hM⟩:=hM.inv;have hor:=λ x hx=>ho x (ag _ hx);obtain⟨x,kx⟩:=kd (occ:=occ) (lis:=lis) (cs:=cs) (p:=q) T.c T.h3 he ((hr.X hor).trans hs);obtain⟨gs',e4⟩:=hr.gl hor;intro pre i s t hg;obtain rfl:gs=x::gs':=by
   rw[kx.g,ao]at e4;exact List.append_cancel_left (hg.symm.trans e4)
  intro hrel hnl hok hbar hocc hnd;have LV:=oZ hL hn;have lvl:(nq occ cs q e).level=ce cs q.nv→nv0≤ce cs q.nv∧B (ce cs q.nv)=some (bC h):=λ z=>
   have h2:=aS h0 LV.ge;have e2:=hr.st (z▸aS hp h2)
   ⟨h2,z▸e2▸hlv (e2.symm▸z▸aS hp h2)⟩
  have hok:=List.forall_mem_cons.mp hok;have hbar:=List.forall_mem_cons.mp hbar;rw[List.flatMap_cons,List.flatMap_append,←ao]at hnd⊢;have step:∃ s1,Ke (tC (cD kt) k) (cD kt) (bC h) pl cs.called (nq occ cs q e).called x nv0 B s s1 (nP p.sy tT (eK p.sy tT k) (ic outer (pre++rs)) b ⟨t,s.op.length⟩ u) ((iQ (cD kt) x).flatMap (FK K0 kt)):=
   kx.k.elim (λ z=>((z.1.w0 T.X he (ho e (af ..))).c.symm▸DS hrel rfl hI z.1 hR (hR.v he) λ tg hc htg hcal=>lvl (hc.lv htg hcal)))
    λ z=>H3 T IH hp h0 hI hO hL hn hrel hnl hbar.1 z hR he (hr.pre.trans hpx) hl (λ y=>(lvl y).2) hok.1 hocc (hnd.sublist (List.sublist_append_left ..))
  obtain⟨s1,S⟩:=step;have hop:n≤s1.op.length:=by rw[S.op,ay];exact aa hnl (ah ..)
  obtain⟨s',r1,r2⟩:=ih hpx hs hlv hor hM (pre:=pre++[(u,b)]) (i:=i+1) (s:=s1) e4 S.rel hop hok.2 hbar.2 (by rw[hocc,ao];rfl) (by rw[S.op];exact hnd);rw[S.op]at r2;refine⟨s',S.rd r1,?_⟩;show Sp s' (xq p.sy tT (eK p.sy tT k) outer (pre++[(u,b)]) rs (nP p.sy tT (eK p.sy tT k) (ic outer (pre++rs)) b ⟨t,s.op.length⟩ u)) _;have e5:=S.ct;generalize nP p.sy tT (eK p.sy tT k) (ic outer (pre++rs)) b ⟨t,s.op.length⟩ u=t1 at r2 e5;obtain⟨tn,tc⟩:=t1;obtain rfl:tc=s1.op.length:=e5;rw[←S.op]at r2⊢;exact r2
end
theorem RelE.put {nv0:Int}{B:Int→Option AV}{E nm:Nm}(h:RelE nv0 B E nm){x:Int}{v:AV}(hx:nv0≤x):RelE nv0 (FL B x v) (cn E x v) nm:=by
 refine⟨λ y hy=>?_,λ y hy=>?_,h.ni⟩
 ·rw[cB,aK (Int.ne_of_lt (aJ hy hx)),h.rel y hy]
 ·rw[cB,h.bar y hy]
theorem oN {P:Bd→Prop}{nv0 nv k:Int}:∀ {its:List It},(∀ i∈its,tF P nv0 nv i)→El.mark k∉bV its:=by
 intro its
 induction its with
 |nil=>exact λ ω h=>nomatch h
 |cons i r ih=>
  intro h hm;have hr:=ih λ i hi=>h i (ag _ hi);have hi:=h i (af ..);rcases i with⟨t,tg⟩|j|_|_
  ·rcases aT hm with q|q
   ·obtain⟨z,_,e⟩:=be q;cases e
   ·exact hr q
  ·exact hi
  ·rcases ap hm with q|q
   ·cases q
   ·exact hr q
  ·rcases ap hm with q|q
   ·cases q
   ·exact hr q
theorem ET {P:Bd→Prop}{nv0 lo nv k:Int}{its:List It}(h:uo P nv0 lo nv its)(hm:El.mark k∈bV its):lo≤k∧k<nv:=by
 have all:∀ {i:It} {r:List It},tF P nv0 nv i→(∀ i∈r,tF P nv0 nv i)→∀ j∈i::r,tF P nv0 nv j:=λ a b j hj=>(ap hj).elim (λ e=>e▸a) (b j);rcases its with _|⟨⟨t,tg⟩|j|_|_,r⟩
 ·cases hm
 ·exact (oN (all (i:=.body t tg) h.1 h.2) hm).elim
 ·rcases ap hm with q|q
  ·cases q;exact h.1
  ·exact (oN h.2 q).elim
 ·exact (oN (all (i:=.own) trivial h) hm).elim
 ·exact (oN (all (i:=.fail) trivial h) hm).elim
theorem Ak (G:Int→Option (List KR))(cs:CS):(jt cs).flatMap (iQ G)=cs.goals.flatMap (iQ G):=by
 unfold jt;split<;>rfl
section
variable {s3:Sy}{fo0 nv0:Int}{w0:Wk}{p:PS}{Γ:List Gp}{bs:List (List Gp)}{K0:KR}{kt:List KR}{k:Nat}
variable (T:iO s3 fo0 nv0 w0 p Γ bs K0 kt)(hp:0≤nv0)
include T hp
set_option tactic.hygienic true in
theorem xi (IH:tX s3 fo0 nv0 w0 p Γ K0 kt k){j:Nat}{w:Wk}{K:KR}{b:List Gp}{q q':PS}{Γq:List Gp}{kvs:List (Int×AV)}{cs':CS}{nw:List Wk}{R:Nat}{lo:Int}(r:L3 (om s3 nv0) s3 fo0 nv0 w0 p.sy Γ j w K b q q' Γq kvs cs' nw R lo){h pl:Nat}{E nm:Nm}{B:Int→Option AV}{rows:List dE}{ln:List AV}{op:List Int}(C:Uj nv0 p.sy (k+1) w h pl E nm B rows op)
  {E1:Nm} {B1:Int→Option AV} {i:Nat} (hr:RelE nv0 B1 E1 nm) (hB:∀ x v,B x=some v→B1 x=some v) (hlv:0≤cs'.level→B1 cs'.level=some (bC h)) (hlq:0≤cs'.level→q.nv≤cs'.level) (hf:∀ x,lo≤x→x<q.nv→bM E1 x=none) (hnd:(op++(cs'.goals.flatMap (iQ (cD kt))).flatMap (FK K0 kt)).Nodup):
  ∃ s',ej (tC (cD kt) k) (cD kt) (bC h) pl i false ⟨⟨E1,ln⟩,op⟩ cs'.goals s'∧Sp s' (eK p.sy tT (k+1) rows ⟨⟨nm,ln⟩,op.length⟩) (op++(cs'.goals.flatMap (iQ (cD kt))).flatMap (FK K0 kt)):=by
 have hO:∀ x,x<nv0→(x∈nm.map (·.1)↔x∈Tm.varsL w.args):=λ x hx=>by
  rw[←eD,←C.rel.rel x hx];exact C.hE x
 have ho:=(fG r.ok.i).el;have g:=r.g;have hocc:iw w=Tm.varsL w.args++Tm.varsL (hU (bV w.items)):=fy ..;have hmk:=λ k hm=>ET (k:=k) r.v.i hm;have M:=C.M;generalize bV w.items=els at ho g hocc hmk M;rcases M with⟨M⟩|M
 ·rename_i m es;obtain⟨m1,m2⟩:=hmk m (af ..);rcases g with _|⟨lis,hl,he,hL,hn,h1,hIq,E',g⟩
  have hor:=λ x hx=>ho x (ag _ hx);obtain⟨gs,eg⟩:=g.gl hor;have eg2:cs'.goals=.mark m::gs:=eg;have hmv:nv0≤m:=aS r.v.l0 m1;have hne:0≤cs'.level→cs'.level≠m:=λ z=>Int.ne_of_gt (aJ m2 (hlq z));have hbm:∀ x v,B x=some v→x≠m:=λ x v e z=>by
   have h2:=C.rel.bar x (C.bar.n x v e);rw[e]at h2;have h3:=(C.hE x).mp (h2▸rfl);exact Int.lt_irrefl _ (aJ (r.v.a x h3) (z▸m1))
  have hI:zy op.length h nv0 (FL B m (dH (bC h) pl)) (FL B1 m (dH (bC h) pl)):=by
   refine⟨λ x v e=>?_,λ x v e=>?_,λ x v e=>?_,λ x v e=>?_⟩
   ·by_cases z:x=m
    ·exact (aL z).trans ((aL z).symm.trans e)
    ·exact (aK z).trans (hB x v ((aK z).symm.trans e))
   ·by_cases z:x=m
    ·exact aA ((aL z).symm.trans e)▸.test C.hh
    ·exact C.bar.r x v ((aK z).symm.trans e)
   ·by_cases z:x=m
    ·exact aA ((aL z).symm.trans e)▸λ y=>np (a:=.none) y.symm
    ·exact C.bar.h x v ((aK z).symm.trans e)
   ·by_cases z:x=m
    ·exact z▸hmv
    ·exact C.bar.n x v ((aK z).symm.trans e)
  rw[eg2]at hnd⊢;obtain⟨s',r1,r2⟩:=Gj (outer:=nm.map (·.1)) (A:=Tm.varsL w.args) (occ:=iw w) T IH hp (aS r.v.l0 r.v.l1) hI hO (cs:=(VQ kvs).add (.mark m)) g r.p r.x (λ z=>(aK (hne z)).trans (hlv z)) hor M (pre:=[]) (i:=i+1) (s:=⟨⟨cn E1 m (dH (bC h) pl),ln⟩,op⟩) (t:=⟨nm,ln⟩) eg ⟨hr.put hmv,rfl⟩ (au _) C.ok C.rk (by rw[hocc];exact ae (_++·) M.vars.symm) hnd;exact⟨s',.mark (hf m m1 m2) r1,r2⟩
 ·exact Gj (outer:=nm.map (·.1)) (A:=Tm.varsL w.args) (occ:=iw w) T IH hp (aS r.v.l0 r.v.l1) ⟨hB,C.bar.r,C.bar.h,C.bar.n⟩ hO g r.p r.x hlv ho M (pre:=[]) (i:=i) (s:=⟨⟨E1,ln⟩,op⟩) (t:=⟨nm,ln⟩) rfl ⟨hr,rfl⟩ (au _) C.ok C.rk (by rw[hocc];exact ae (_++·) M.vars.symm) hnd
theorem claim:∀ k,tX s3 fo0 nv0 w0 p Γ K0 kt k:=by
 intro k
 induction k with
 |zero=>exact λ j w K b e r h pl E nm B rows ln op C hnd hk=>absurd hk (by decide)
 |succ k IH=>
  intro j w K b e rr h pl E nm B rows ln op C hnd _;have cal:=T.cal rr;have hD:=T.D_eq e;obtain⟨q,q',Γq,kvs,cs',nw,R,lo,r⟩:=rr;have hKg:K.goals=jt cs':=by rw[r.K]
  rw[hKg,Ak]at hD;rw[hD]at hnd⊢;obtain⟨l,hl1,hl2⟩:=r.ok.a;have hko:TT K:=⟨by rw[r.K];exact Gh (by rw[hl1,gx];exact hl2) r.s,λ x hx=>(cal.h x hx).1,λ x hx=>(cal.h x hx).2⟩;have hlq:0≤cs'.level→q.nv≤cs'.level:=λ z=>(r.e.s.v.resolve_left (Int.not_lt.mpr z)).1;have hE:∀ x,lo≤x→bM E x=none:=λ x hx=>by
   cases z:bM E x with
   |none=>rfl
   |some v=>exact (Int.lt_irrefl _ (aJ (r.v.a x ((C.hE x).mp (z▸rfl))) hx)).elim
  have fin:∀ {s':RS} {t':TS} {D:List Int} {i:Nat},(∃ s',ej (tC (cD kt) k) (cD kt) (bC h) pl 0 false ⟨⟨E,ln⟩,op⟩ K.goals s'∧Sp s' t' D)→tC (cD kt) (k+1) K E (bC h) pl (ln,op) (t'.nl.ln,D)∧t'.ct=D.length:=λ⟨s',H,G⟩=>by
   obtain⟨⟨E',ln'⟩,op'⟩:=s';have e1:ln'=_:=G.ln;have e2:op'=_:=G.op;have e3:=G.ct;subst e1 e2;exact⟨⟨hko,E',H⟩,e3⟩
  refine fin (s':=⟨⟨E,ln⟩,op⟩) (i:=0) ?_;rw[hKg];unfold jt
  by_cases z:0≤cs'.level
  ·rw[aL z];have hv:=aS (aS r.v.l0 r.v.l1) (hlq z);obtain⟨s',H,G⟩:=xi (ln:=ln) (i:=1) T hp IH r C (C.rel.put hv) (λ x v e=>(aK λ y=>by
     have h2:=C.rel.bar x (C.bar.n x v e);rw[hE x (y▸aS r.v.l1 (hlq z)),e]at h2;cases h2).trans e) (λ ω=>aL rfl) hlq (λ x h1 h2=>(cB ..).trans ((aK (Int.ne_of_lt (aJ h2 (hlq z)))).trans (hE x h1))) hnd
   exact⟨s',.level (hE _ (aS r.v.l1 (hlq z))) H,G⟩
  ·rw[aK z];exact xi T hp IH r C C.rel (λ x v e=>e) (λ y=>(z y).elim) hlq (λ x h1 ω=>hE x h1) hnd
end
end
end Mine
namespace Mine
open PySem
noncomputable section
theorem xO {s s':Sy}{a n:Int}(h:fP (s.functor a n).2 s'):s'.functor a n=((s.functor a n).1,s'):=by
 obtain⟨z,hz⟩:=h.fs
 by_cases q:(a,n)∈s.fs
 ·rw[show s.functor a n=_ from aL q]at hz⊢;have hm:(a,n)∈s'.fs:=hz▸aH _ q;rw[show s'.functor a n=_ from aL hm,←hz,fQ q]
 ·rw[show s.functor a n=_ from aK q]at hz⊢;have h1:(a,n)∈s.fs++[(a,n)]:=aF _ (aE rfl);have hm:(a,n)∈s'.fs:=hz▸aH _ h1;rw[show s'.functor a n=_ from aL hm,←hz,fQ h1,nh q]
theorem xV {s s':Sy}{x:Sx}(h:fP (s.atom x).2 s'):s'.atom x=((s.atom x).1,s'):=by
 obtain⟨z,hz⟩:=h.ts
 by_cases q:x∈s.ts
 ·rw[show s.atom x=_ from aL q]at hz⊢;have hm:x∈s'.ts:=hz▸aH _ q;rw[show s'.atom x=_ from aL hm,←hz,fQ q]
 ·rw[show s.atom x=_ from aK q]at hz⊢;have h1:x∈s.ts++[x]:=aF _ (aE rfl);have hm:x∈s'.ts:=hz▸aH _ h1;rw[show s'.atom x=_ from aL hm,←hz,fQ h1,nh q]
theorem Fv {s s':Sy}{x:Sx}{n:Int}(h:fP (s.func x n).2 s'):s'.func x n=((s.func x n).1,s'):=by
 have h1:fP (s.atom x).2 s':=(eI (s.atom x).2 (s.atom x).1 n).x.trans h;unfold Sy.func;rw[xV h1];exact xO h
theorem Ga:iS sT:=
 ⟨by decide,λ j ω ω h=>(by decide:∀ x∈sT.ts,x.take 2≠[36,97]) _ h rfl⟩
theorem PR (js:List Int):iS (lN js).2:=by
 have h:=vk (x:=p4) (by decide);rcases js with _|⟨j,r⟩
 ·exact Ga.atom h
 ·exact Ga.func h
structure MxP (l:List Int)(a:Int):Prop where
 g:a≤mx a l
 m:∀ x∈l,x≤mx a l
theorem U7:∀ (l:List Int) (a:Int),MxP l a:=by
 intro l
 induction l with
 |nil=>exact λ a=>⟨bj _,nofun⟩
 |cons k r ih=>
  intro a
  by_cases q:a<k
  ·have h:=ih k;have e:mx a (k::r)=mx k r:=ae (mx · r) (aL q);exact⟨e▸aS (Int.le_of_lt q) h.g,λ x hx=>e▸(ap hx).elim (λ z=>z▸h.g) (h.m x)⟩
  ·have h:=ih a;have e:mx a (k::r)=mx a r:=ae (mx · r) (aK q);exact⟨e▸h.g,λ x hx=>e▸(ap hx).elim (λ z=>z▸aS (Int.not_lt.mp q) h.g) (h.m x)⟩
theorem Hr {x:Int}:∀ {l acc:List Int},x∈acc∨x∈l→x∈dd acc l:=by
 intro l
 induction l with
 |nil=>exact λ h=>h.resolve_right nofun
 |cons k r ih=>
  intro acc h
  by_cases q:k∈acc
  ·rw[oe q];exact ih (h.elim .inl λ z=>(ap z).elim (λ e=>.inl (e▸q)) .inr)
  ·rw[kj q];exact ih (h.elim (λ z=>.inl (aH _ z)) λ z=>(ap z).elim (λ e=>.inl (e▸aF _ (aE rfl))) .inr)
theorem YZ {x y M n m:Nat}(h:x≤n*M)(h':y≤m*M):x+y≤(n+m+1)*M:=by
 rw[Nat.add_mul,Nat.add_mul];exact aa (aR h h') (ah ..)
theorem Pz {x y M n m v:Nat}(h:x≤n*M)(h':y≤m*M)(hv:v≤M):x+y+v≤(n+m+1)*M:=by
 rw[Nat.add_mul,Nat.add_mul,Nat.one_mul];exact aR (aR h h') hv
theorem XJ {x M n v:Nat}(h:x≤n*M)(hv:v≤M):x+v≤(n+1)*M:=by
 rw[Nat.add_mul,Nat.one_mul];exact aR h hv
theorem Uv {v z:Nat}(h:v≤74)(h':z≤74):v+z+14≤164:=by lia
theorem Ma:∀ {b:Bd},b.tm.sz≤74→b.wt≤b.nd*164:=by
 intro b
 induction b with
 |lf t=>exact λ h=>aa (aG h 2) (show 76≤1*164 by decide)
 |com x y hx hy=>exact λ h=>have q:=nu h;YZ (hx q.1) (hy q.2)
 |sem x y hx hy=>
  intro h;have q:=nu h;have hv:(Bd.sem x y).tm.vars.length+8≤164:=aa (aG (aa (eJ _) h) 8) (by decide);show x.wt+y.wt+_+8≤_;rw[aQ];exact Pz (hx q.1) (hy q.2) hv
 |arr x y hx hy=>
  intro h;have q:=nu h;have hv:(Bd.arr x y).tm.vars.length+8≤164:=aa (aG (aa (eJ _) h) 8) (by decide);show x.wt+y.wt+_+8≤_;rw[aQ];exact Pz (hx q.1) (hy q.2) hv
 |neg x hx=>
  intro h;have hs:x.tm.sz≤74:=Nat.le_of_succ_le h;have hv:=Uv (aa (eJ _) h) hs;show x.wt+(Bd.neg x).tm.vars.length+x.tm.sz+14≤_;rw[aQ,aQ];rw[aQ]at hv;exact XJ (hx hs) hv
theorem O6:∀ b:Bd,b.ht≤b.tm.ht:=by
 have two:∀ {a b c d:Nat},a≤c→b≤d→max a b+1≤max c (max d 0)+1:=λ h h'=>aD (Nat.max_le.mpr ⟨aa h (bc ..),aa h' (aa (bc ..) (Nat.le_max_right ..))⟩);intro b
 induction b with
 |lf t=>exact aI _
 |com x y hx hy=>exact two hx hy
 |sem x y hx hy=>exact two hx hy
 |arr x y hx hy=>exact two hx hy
 |neg x hx=>exact aD (aa hx (bc ..))
theorem RW {s:Sy}(h:33≤s.fs.length):∀ {t:Bd},t.fa s.fs.length s.ts.length→t.fb s:=by
 intro t
 induction t with
 |lf t=>
  rcases t with n|n|n|⟨f,as⟩
  ·exact λ ω=>trivial
  ·exact λ h=>h
  ·exact λ ω=>trivial
  ·exact λ q=>q.elim (λ e=>e▸GT h (by decide)) λ q=>q.2
 |com x y hx hy=>exact λ h=>⟨hx h.1,hy h.2⟩
 |sem x y hx hy=>exact λ h=>⟨hx h.1,hy h.2⟩
 |arr x y hx hy=>exact λ h=>⟨hx h.1,hy h.2⟩
 |neg x hx=>exact hx
theorem DV {n:Nat}{l:List AV}(h:∀ v∈l,v.dep≤n):AV.deps l≤n:=by
 induction l with
 |nil=>exact aI _
 |cons v r ih=>exact Nat.max_le.mpr ⟨h v (af ..),ih λ x hx=>h x (ag _ hx)⟩
structure Ep (s:Sy)(S i:Nat)(p:PS):Prop where
 X:fP s p.sy
 ok:∀ w∈p.work,rW w
 lid:vh (qq (p.work.drop i)+S) p
theorem nN.sp {s:Sy}{S:Nat}{p0:PS}(h0:Ep s S 0 p0){i:Nat}{ks:List KR}{p:PS}(h:nN p0 i ks p):Ep s S i p:=by
 induction h with
 |nil=>exact h0
 |@step i ks p p' w K _ hw hc ih=>
  obtain⟨kvs,cs',hs,_⟩:=hc.ex;have hwk:=ih.ok w (aY hw);have hl:=ih.lid;rw[mf hw]at hl;obtain⟨nw,E⟩:=hs.ok (wE.start (R:=qq (p.work.drop (i+1))+S) kvs hwk (aQ ..▸hl)) (fG hwk.i).el;refine⟨ih.X.trans E.X,?_,?_⟩
  ·rw[E.w];exact λ x hx=>(aT hx).elim (ih.ok x) (E.ok x)
  ·rw[E.w,p8 (az hw).1,ty];have e:qq (p.work.drop (i+1))+qq nw+S=0+(qq nw+(qq (p.work.drop (i+1))+S)):=by rw[aU,bh (qq (p.work.drop (i+1))),aQ]
   rw[e];exact E.lid
end
end Mine
namespace Mine
open PySem
noncomputable section
open Classical
structure HdI (js:List Int)(s3:Sy)(fo:Int):Prop where
 N:Ae (Do s3 (lN js).1).2 fo
 g:zE s3 (Do s3 (lN js).1).2
 f:∀ s',fP (Do s3 (lN js).1).2 s'→s'.func p4 js.length=((Do s3 (lN js).1).1,s')
theorem Xq (js:List Int){s3:Sy}{fo:Int}(X:fP (lN js).2 s3)(N:Ae s3 fo):HdI js s3 fo:=by
 rcases js with _|⟨j,r⟩
 ·have hk:(sT.atom p4).1<(s3.ts.length:Int):=aJ (sL sT p4) (bn X.ts.length_le);refine⟨N.functor hk,eI ..,λ s' h=>?_⟩;have h1:fP (sT.atom p4).2 s':=X.trans ((eI s3 (sT.atom p4).1 0).x.trans h);show (s'.atom p4).2.functor (s'.atom p4).1 0=_;rw[xV h1];exact xO h
 ·exact⟨N,.refl _,λ s' h=>Fv (X.trans h)⟩
structure ZO (s3:Sy)(fo:Int)(js:List Int)(bd:Bd)(li:Addr)(p0:PS)(w0:Wk):Prop where
 fo0:0≤fo
 jl:js.length≤2
 h3:33≤s3.fs.length
 X3:fP sT s3
 n0:0≤p0.nv
 jv:∀ x∈js,x<p0.nv
 P:om s3 p0.nv bd
 nd:bd.nd≤29
 sz:bd.tm.sz≤74
 sp:Ep p0.sy 66 0 p0
 rp:uW 0 p0
 I:gT (om s3 p0.nv) s3 fo p0.nv w0 p0 []
 f:∀ s',fP p0.sy s'→s'.func p4 js.length=(w0.f,s')
 wa:w0.args=cK js
 wi:w0.items=[.body bd (-1)]
theorem K1 {a s ρ:Nat}(h:a+2*ρ≤s+1+2*7)(hs:s≤34):a≤49:=by lia
theorem UF {a ρ:Nat}(h:a+10*ρ≤4+10*7):a≤74:=by lia
theorem TN {a ρ:Nat}(h:a+4*ρ≤1+4*7):a≤29:=by lia
theorem YC {fo:Int}{d:Nat}(h:fo<5)(hd:d≤29):fo+((d+0+0+66:Nat):Int)<100:=by lia
theorem NZ {a b d:Nat}(h:a≤b+1)(hb:b≤49)(hd:d≤29):a+(d+0+0+66)<1000:=by lia
theorem SK {d:Nat}(hd:d≤29):1+2*(d+0+0+66)<2000:=by lia
theorem Ww {fo:Int}{js:List Int}{bd:Bd}{s3:Sy}{ρ':Nat}{li:Addr}(f0:0≤fo)(f5:fo<5)(jl:js.length≤2)(B:rX false 4 (lN js).2 7 bd s3 ρ'):ZO s3 fo js bd li (xh (lN js).1 bd fo s3 li) ⟨(Do s3 (lN js).1).1,KG (lN js).1,[.body bd (-1)],li⟩:=by
 have hG:=Os js;have X3:fP sT s3:=hG.g.x.trans B.X;have hz:=Fb;have h3:33≤s3.fs.length:=hz.2▸X3.fs.length_le;have hl:=Qu hG;have hnd:=TN B.nd;have hsz:=UF B.sz;have N3:=(B.so (PR js)).n f0;have HI:=Xq js B.X N3;have hmx:=U7 (dd [] (Tm.s 5 [(lN js).1,bd.tm]).vars) (-1);have hvs:∀ x∈(Tm.s 5 [(lN js).1,bd.tm]).vars,x<(xh (lN js).1 bd fo s3 li).nv:=λ x hx=>Int.lt_add_one_of_le (hmx.m x (Hr (.inr hx)));have n0:0≤(xh (lN js).1 bd fo s3 li).nv:=Int.add_le_add_right hmx.g 1;have jv:∀ x∈js,x<(xh (lN js).1 bd fo s3 li).nv:=λ x hx=>hvs x (by
  refine aH _ ?_;rcases js with _|⟨j,r⟩
  ·cases hx
  ·show x∈Tm.varsL (cK (j::r));rw[ft];exact hx)
 have P:om s3 (xh (lN js).1 bd fo s3 li).nv bd:=⟨λ x hx=>hvs x (aF _ (aH _ hx)),B.ok,RW h3 B.fa,B.cr.resolve_left nofun,B.q,aa B.ht (by decide)⟩;have ok:∀ w∈(xh (lN js).1 bd fo s3 li).work,rW w:=λ w hw=>by
  rcases aj hw with rfl
  exact⟨(K2 jl).ar,λ i hi=>aj hi▸⟨B.ok,ac hsz (by decide)⟩,show 1≤4 by decide⟩
 have lid:vh (qq ((xh (lN js).1 bd fo s3 li).work.drop 0)+66) (xh (lN js).1 bd fo s3 li):=⟨f0,YC f5 hnd,NZ HI.g.t (K1 B.ts (aa hl.2 (by decide))) hnd,NZ HI.g.f (K1 B.fs hl.1) hnd,SK hnd⟩;refine⟨f0,jl,h3,X3,n0,jv,P,hnd,hsz,⟨.refl _,ok,lid⟩,⟨X3.trans HI.g.x,ok,lid.le (ah ..)⟩,?_,HI.f,RM js,rfl⟩;refine⟨HI.g.x,HI.N,f0,(Int.add_zero _).symm,rfl,λ j g e=>(nomatch e),.nil,bj _,λ w hw=>?_⟩;rcases aj hw with rfl
 refine⟨(xh (lN js).1 bd fo s3 li).nv,⟨λ x hx=>?_,bj _,bj _,⟨P,.inl rfl⟩,nofun⟩⟩;have hx:x∈Tm.varsL (KG (lN js).1):=hx;rw[RM,ft]at hx;exact jv x hx
theorem C3 {a b:List Int}(h:a.Perm b):jI a=jI b:=
 List.Perm.eq_of_pairwise (λ ω ω ω ω h h'=>Int.le_antisymm h h') (jm a) (jm b) ((jh a).trans (h.trans (jh b).symm))
theorem xZ {js:List Int}(x:Int):(bM (kP js).nm x).isSome=true↔x∈js:=by
 refine⟨λ h=>?_,λ h=>wQ h⟩;have h:x∈keys (kP js).nm:=(eD ..).mp h;have e:keys (kP js).nm=cM [] js:=w8 js yD;rw[e]at h;exact (pb h).resolve_left (λ z=>nomatch z)
theorem WV {d:Nat}(h:d≤29):2+d*164<100000:=by lia
theorem YD {a fo:Int}{n:Nat}(e:a=fo+n)(h:a+((0+66:Nat):Int)<100)(h0:0≤fo):n<34:=by lia
theorem SN {a fo:Int}{n:Nat}(e:a=fo+n)(h:a+((0+66:Nat):Int)<100):fo+(n:Int)<100:=by lia
section
variable {s3:Sy}{fo:Int}{w0:Wk}{p' p0:PS}{Γ:List Gp}{bs:List (List Gp)}{K0:KR}{kt:List KR}{js:List Int}{bd:Bd}{li:Addr}
variable (S:ZO s3 fo js bd li p0 w0)(T:iO s3 fo p0.nv w0 p' Γ bs K0 kt)
include S T
theorem FR:∃ b,zM (om s3 p0.nv) s3 fo p0.nv w0 p'.sy Γ 0 w0 K0 b:=by
 obtain⟨w,b,_,ew,r⟩:=T.H.r 0 K0 rfl;rw[T.H.I.w]at ew;obtain rfl:=aA ew;exact⟨b,r⟩
theorem Iw:BOK p'.sy 20 bd:=by
 obtain⟨b,r⟩:=FR S T;have hat:=T.aok _ 0 w0 K0 b rfl r (au _) (.body bd (-1)) (S.wi▸aE rfl);exact⟨S.P.ok,hat,S.P.cr,aa S.nd (by decide),S.P.ht,aa S.sz (by decide),ac (aa (O6 bd) S.P.ht) (by decide)⟩
omit T in
theorem UZ:TK (kP js) (kC (bZ bd (bC 0))):=by
 refine TK.spellL (cK js) ⟨⟨au 0,?_⟩,rfl,nofun⟩;rw[gx];show 0+(js.length+_)<_;rw[aU];exact ac (aR S.jl (aa (iq ..) (aa (Ma S.sz) (au _)))) (WV S.nd)
structure Tu (js:List Int)(bd:Bd)(s:Sy):Prop where
 tk:TK (zw js bd s).nl 0
 dep:AV.deps (o9 js bd s)≤50
theorem MF:Tu js bd p'.sy:=by
 have hB:=Iw S T;have h0:=zZ T.X;have ok:=eW hB (fW 0);have hs:=jT.spellL (cK js) (s:=yD) nofun
 refine⟨(sS h0 20 _ ⟨kP js,0⟩ 0 ok (UZ S)).1,?_⟩;obtain⟨a,e1,e2⟩:=hs.ad;obtain⟨b,f1,_,f2⟩:=(x8 (sP:=p'.sy) (tT:=tT) h0 20 _ ⟨kP js,0⟩ 0 ok hs.ni (au _)).ad;have e:o9 js bd p'.sy=([]++a)++b:=f1.trans (ae (·++b) e1);rw[e];exact DV λ v hv=>(aT hv).elim (λ q=>aa (e2 v q).d (by decide)) λ q=>aa (f2 v q) (by decide)
theorem xP:K0.args=cK js:=by
 obtain⟨b,_,_,_,_,_,_,_,_,r⟩:=FR S T;rw[r.K];exact S.wa
theorem Xy:K0.f=w0.f:=by
 obtain⟨b,r⟩:=FR S T;exact r.f
theorem rd0:tC (cD kt) 20 K0 (kP js).nm (bC 0) 0 ((kP js).ln,[]) (o9 js bd p'.sy,DK K0 kt K0):=by
 obtain⟨b,r⟩:=FR S T;have hnd:([]++DK K0 kt K0).Nodup:=T.perm.nodup_iff.mpr T.nd;have hB:=Iw S T;have C:Uj p0.nv p'.sy 20 w0 0 0 (kP js).nm (kP js).nm (λ ω=>none) (bZ bd (bC 0)) []:=by
  refine⟨λ x=>?_,⟨λ x ω=>rfl,λ x hx=>?_,(jT.spellL (cK js) (s:=yD) nofun).ni⟩,⟨nofun,nofun,nofun,nofun⟩,?_,eW hB (fW 0),λ r hr=>?_,au _⟩
  ·rw[S.wa,ft];exact xZ x
  ·cases e:bM (kP js).nm x with
   |none=>rfl
   |some v=>exact (Int.lt_irrefl _ (aJ (S.jv x ((xZ x).mp (e▸rfl))) hx)).elim
  ·rw[S.wi];exact .no (Mt.body1 λ ω=>.inl ⟨rfl,rfl⟩)
  ·rw[gc r hr];exact .here (n:=0) (au _)
 exact (claim T S.n0 20 0 w0 K0 b rfl r 0 0 _ _ _ _ (kP js).ln [] C hnd (by decide)).1
theorem HG (sp:Ep p0.sy 66 p'.work.length p'):uQ fo js bd K0 kt p':=by
 have D:=MF S T;have I:=T.H.I;have hlid:=sp.lid;rw[List.drop_length]at hlid;have hsq:(j6 kt).length=Γ.length:=by rw[T.seq,ak]
 have hG:=YD I.fo hlid.f1 S.fo0;have hwk:=ac (ah ..) hlid.wk;refine⟨T.X,Iw S T,UZ S,D.tk.pl,D.dep,aw (ac (ah ..) hlid.ts) (by decide),aw (ac (ah ..) hlid.fs) (by decide),?_,⟨js,xP S T,rfl⟩,λ i f hi=>?_,?_,?_,?_,?_,?_⟩
 ·rw[Xy S T];exact S.f _ sp.X
 ·rw[T.seq,aZ]at hi;cases e:Γ[i]? with
  |none=>rw[e]at hi;cases hi
  |some g=>
   rw[e]at hi;obtain⟨fi,ai,n,h⟩:=I.g i g e;exact⟨fi,ai,n,(aA hi).symm.trans h.f,h.fs,h.ts⟩
 ·have h:=T.l;have h:kt.length+1=p'.work.length:=h;exact aw (Nat.lt_of_succ_le (am h)) (aw hwk (by decide))
 ·rw[hsq];exact aw hG (by decide)
 ·rw[hsq];exact SN I.fo hlid.f1
 ·rw[hsq];exact I.fo
 ·refine⟨(o9 js bd p'.sy,DK K0 kt K0),?_,rfl,?_,?_,?_,?_⟩
  ·rw[xP S T];exact rd0 S T
  ·rw[T.seq];exact C3 T.perm
  ·show (DK K0 kt K0).length<64;rw[T.perm.length_eq,ak];exact aw hG (by decide)
  ·exact ac (ah ..) D.tk.ln
  ·show (DK K0 kt K0).length<100000;rw[T.perm.length_eq,ak];exact aw hG (by decide)
end
theorem aca:Bv:=by
 intro fo js bd ks p' O;obtain⟨s3,ρ',li,B,R⟩:=O.bo;have S:=Ww (li:=li) O.f0 O.f5 O.jl B;obtain⟨Γ,bs,H⟩:=R.g (Y7 S.h3) (λ n h=>h.fb) S.n0 S.rp S.I;obtain⟨RP,hkl,_⟩:=R.ok S.rp;have sp:=R.sp S.sp;rcases ks with _|⟨K0,kt⟩
 ·rw[H.I.w]at hkl;cases hkl
 ·exact⟨K0,kt,rfl,HG S ⟨H,hkl,S.h3,RP.X⟩ sp⟩
end
end Mine
namespace Mine.H
open PySem PySem.W PyProof.Rows
noncomputable abbrev L0:OpenLaw:=PySem.Challenge.rw_rh0092_01
noncomputable abbrev rP:Program:=PySem.Challenge.rw_rh0092_01.row.prog
theorem MP:readsOut rP rP.main.body ("vars":Str)=false:=by kernel_rfl
theorem NY:readsOut rP rP.main.body ("dir":Str)=false:=by kernel_rfl
theorem PG:readsOut rP rP.main.body ("locals":Str)=false:=by kernel_rfl
theorem Fs:(["vars","dir","locals"]:List Str).filter (readsOut rP rP.main.body)=[]:=by
 rw[List.filter_cons_of_neg (by rw[MP];decide),List.filter_cons_of_neg (by rw[NY];decide),List.filter_cons_of_neg (by rw[PG];decide)];rfl
theorem FQ:noRoadLSs { strict:= !(importedModules rP.main.body).all cThrough.contains,foot:=none,bare:=[] } rP.main.body=true:=by kernel_rfl
theorem H1:namesResolve rP=true:=by kernel_rfl
theorem Hl:(namesMeet rP rP.main.body λ ω n=>PySem.W.attrL n)=true:=by kernel_rfl
theorem Ih:(sreFenced rP.main&&((moduleNames rP.main.body).isEmpty||lookedIntoSs (moduleNames rP.main.body) rP.main.body))=true:=by kernel_rfl
theorem J7:(rP.boundNames.all λ n=> !worldNames.contains n)=true:=by kernel_rfl
theorem Ed:looksOpen rP=true:=by
 unfold looksOpen;rw[Fs];exact look_both (look_both (look_both (look_both Ih H1) J7) FQ) Hl
theorem Fc:L0.row.partSaid=true:=by
 unfold OpenRow.partSaid;rw[show looksOpen L0.row.prog=true from Ed];kernel_rfl
theorem JB:L0.row.wellSaid=true:=by
 unfold OpenRow.wellSaid;rw[Fc];kernel_rfl
theorem Iv:(decide (L0.foot≤(behindTheImports L0.prog).length)&&L0.footing.all footLine&&noClassBlock L0.prog L0.footing)=true:=by kernel_rfl
theorem Xe:noRoadLSs { strict:=true,foot:=some L0.bound',writes:=L0.writes,may:=L0.may } L0.footing=true:=by kernel_rfl
theorem Wm:(L0.bound'.all λ n=> !builtinNamed n||L0.about==[n]|| !L0.reads n)=true:=by kernel_rfl
theorem XZ:(namesMeet L0.prog L0.above λ ω n=> !L0.own.contains n)=true:=by kernel_rfl
theorem WJ:(namesMeet L0.prog L0.footing λ sc n=>sc.kind==.module||sc.names.lookup n !=some .globalExplicit)=true:=by kernel_rfl
theorem v6 {a b:Bool}(h:(a&&b)=true):a=true:=(Bool.and_eq_true_iff.mp h).1
theorem BI {a b:Bool}(h:(a&&b)=true):b=true:=(Bool.and_eq_true_iff.mp h).2
theorem Qp:L0.wellSaid=true:=by
 unfold OpenLaw.wellSaid;refine look_both (look_both (look_both (look_both (look_both (look_both (look_both (look_both (look_both (look_both (look_both (look_both (look_both (look_both (look_both (look_both (look_both (look_both JB (v6 (v6 Iv))) (BI (v6 Iv))) (BI Iv)) ?_) ?_) Xe) ?_) ?_) ?_) Wm) ?_) ?_) ?_) ?_) ?_) ?_) XZ) WJ
 all_goals kernel_rfl
end Mine.H
theorem PySem.Challenge.cw_rh0092_01_holds : PySem.Challenge.rw_rh0092_01.Holds :=
 PySem.W.holds_law Mine.H.Qp λ h=>Mine.H.go0 Mine.aca h
