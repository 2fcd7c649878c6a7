import PyProof.Rows.All
import Wide.All
import OpenK.AllK
import Wide.FinOn
import Lean
import PySem.Challenge.RW_pq0055_03
set_option Elab.async false
set_option maxRecDepth 100000
set_option linter.all false
set_option tactic.hygienic false
namespace Mine
theorem xe.{u} {α:Sort u} {p:α→Prop} {b:Prop} (h:∃ x,p x) (k:∀ a,p a→b):b:=h.elim k
open PySem
inductive D where
 | none | bool (b:Bool) | int (i:Int) | str (s:Str) | val (v:Value)
 | tup (ds:List D) | list (ds:List D) | dict (es:List (D×D)) | obj (c:Addr) (fs:List (Str×D))
 deriving Inhabited
mutual
noncomputable def zG9:D→Option PyData
 | .none=>some .none
 | .bool b=>some (.bool b)
 | .int i=>some (.int i)
 | .str s=>if PyData.strOk s then some (.str s) else none
 | .tup ds=>(zK0 ds).map .tuple
 | .list ds=>(zK0 ds).map .list
 | .val _=>none
 | .dict _=>none
 | .obj _ _=>none
noncomputable def zK0:List D→Option (List PyData)
 | []=>some []
 | d::ds=>(zG9 d).bind fun p=>(zK0 ds).bind fun ps=>some (p::ps)
end
noncomputable def deq (a b:D):Option Bool :=
 (zG9 a).bind fun p=>(zG9 b).bind fun q=>if min p.depth q.depth≤400 then some (PyData.eqv p q) else none
inductive Ent where
 | val (d:D) | ownL (ds:List D) | ownD (es:List (D×D)) | bor (ds:List D) | newO (c:Addr) (fs:List (Str×D))
 deriving Inhabited
noncomputable abbrev Rho:=List (Str×Ent)
noncomputable def Rho.set:Rho→Str→Ent→Rho
 | [],x,e=>[(x,e)]
 | (y,e')::r,x,e=>if y == x then (y,e)::r else (y,e')::Rho.set r x e
inductive R where
 | val (d:D) | ownL (ds:List D) | ownD (es:List (D×D))
 deriving Inhabited
noncomputable def R.toD:R→D
 | .val d=>d
 | .ownL ds=>.list ds
 | .ownD es=>.dict es
noncomputable def R.toEnt:R→Ent
 | .val d=>.val d
 | .ownL ds=>.ownL ds
 | .ownD es=>.ownD es
noncomputable abbrev Ret:=R×Option Ent
inductive Prc (α:Type):Type where
 | pure (a:α)
 | fail
 | call (f:Addr) (args:List Ent) (k:Ret→Prc α)
 | need (b:Bool) (k:Prc α)
 | getD (o:Option D) (k:D→Prc α)
 | getB (o:Option Bool) (k:Bool→Prc α)
 | getE (o:Option (List (D×D))) (k:List (D×D)→Prc α)
noncomputable def Prc.bind {α β:Type}:Prc α→(α→Prc β)→Prc β
 | .pure a,f=>f a
 | .fail,_=>.fail
 | .call g a k,f=>.call g a fun r=>(k r).bind f
 | .need b k,f=>.need b (k.bind f)
 | .getD o k,f=>.getD o fun r=>(k r).bind f
 | .getB o k,f=>.getB o fun r=>(k r).bind f
 | .getE o k,f=>.getE o fun r=>(k r).bind f
noncomputable abbrev zB3:=Addr→List Ent→Option Ret
noncomputable def zA1 (call:zB3) {α:Type}:Prc α→Option α
 | .pure a=>some a
 | .fail=>none
 | .call f a k=>(call f a).bind fun r=>zA1 call (k r)
 | .need b k=>if b then zA1 call k else none
 | .getD o k=>o.bind fun r=>zA1 call (k r)
 | .getB o k=>o.bind fun r=>zA1 call (k r)
 | .getE o k=>o.bind fun r=>zA1 call (k r)
theorem zQ2 (call:zB3) {α β:Type} (p:Prc α) (f:α→Prc β):zA1 call (p.bind f)=(zA1 call p).bind fun x=>zA1 call (f x):=by
 induction p with
 | pure a=>rfl
 | fail=>rfl
 | call g a k ih =>
  show ((call g a).bind fun r=>zA1 call ((k r).bind f))=((call g a).bind fun r=>zA1 call (k r)).bind _
  cases call g a with
  | none=>rfl
  | some r=>exact ih r
 | need b k ih=>cases b with
  | true=>exact ih
  | false=>rfl
 | getD o k ih=>cases o with
  | none=>rfl
  | some r=>exact ih r
 | getB o k ih=>cases o with
  | none=>rfl
  | some r=>exact ih r
 | getE o k ih=>cases o with
  | none=>rfl
  | some r=>exact ih r
noncomputable def zB5 {α:Type}:Option α→Prc α
 | some a=>.pure a
 | none=>.fail
noncomputable def zX1 (b:Bool) {α:Type} (k:Prc α):Prc α:=.need b k
structure Fn where
 params:List Str
 body:List Stmt
 scope:Scope
structure PG where
 glob:Str→Option Value
 fn:Addr→Option Fn
 meth:Addr→Str→Option Addr
 borrows:Addr→Bool
 field:Addr→Str→Bool
noncomputable def xD7:Nat:=8000000
noncomputable def zA0 {α:Type} (l:List α):Bool:=Nat.ble l.length xD7
noncomputable def zD1:D→Option Str
 | .str s=>some s
 | _=>none
noncomputable def zX2:List D→Option (List Int)
 | []=>some []
 | .int i::ds=>(zX2 ds).bind fun is=>some (i::is)
 | _=>none
noncomputable def zN4:D→Option (List Int)
 | .tup ds=>zX2 ds
 | _=>none
noncomputable def zE0:List (D×D)→Str→Option (Option D)
 | [],_=>some none
 | (k,v)::r,s=>(zD1 k).bind fun k'=>(zE0 r s).bind fun o=>if k'=s then some (some v) else some o
noncomputable def zJ3:List (D×D)→List Int→Option (Option D)
 | [],_=>some none
 | (k,v)::r,s=>(zN4 k).bind fun k'=>(zJ3 r s).bind fun o=>if k'=s then some (some v) else some o
noncomputable def zD8 (es:List (D×D)) (ds:List D):Option D:=(zX2 ds).bind fun is=>(zJ3 es is).bind id
noncomputable def zI8:List (D×D)→Str→D→Option (List (D×D))
 | [],s,v=>some [(.str s,v)]
 | (k,w)::r,s,v=>(zD1 k).bind fun k'=>(zI8 r s v).bind fun r'=>if k'=s then ((zE0 r s).bind fun uu=>some ((k,v)::r)) else some ((k,w)::r')
noncomputable def zQ3:List (D×D)→List Int→D→Option (List (D×D))
 | [],s,v=>some [(.tup (s.map .int),v)]
 | (k,w)::r,s,v=>(zN4 k).bind fun k'=>(zQ3 r s v).bind fun r'=>if k'=s then ((zJ3 r s).bind fun uu=>some ((k,v)::r)) else some ((k,w)::r')
noncomputable def zD5 (es:List (D×D)) (ds:List D) (v:D):Option (List (D×D)):=(zX2 ds).bind fun is=>zQ3 es is v
noncomputable def yi8 (es:List (D×D)) (k v:D):Prc (List (D×D)) :=
 match k with
 | .str s=>.need (zA0 es) (zB5 (zI8 es s v))
 | .tup ds=>.need (zA0 es) (.getE (zD5 es ds v) .pure)
 | _=>.fail
noncomputable def idx (n:Nat) (i:Int):Option Nat :=
 if 0≤i then (if i < n then some i.toNat else none) else if 0≤i+n then some (i+n).toNat else none
noncomputable def small (i:Int):Bool:=Nat.blt i.natAbs 1000000000000
noncomputable def zU1:D→Option Int
 | .int i=>some i
 | _=>none
noncomputable def zh2:D→Option (List D)
 | .tup xs=>some xs
 | _=>none
noncomputable def zf0:D→Option (List D)
 | .list xs=>some xs
 | _=>none
noncomputable def zm8:D→Option (List (D×D))
 | .dict es=>some es
 | _=>none
noncomputable def zX3 {α:Type}:List α→Option α
 | []=>none
 | x::xs=>if xs.isEmpty=true then some x else none
noncomputable def yT9 (ok:Int→Int→Bool) (f:Int→Int→Int) (a b:D):Prc R:=(zB5 (zU1 a)).bind fun i=>(zB5 (zU1 b)).bind fun j=>.need (ok i j) (.pure (.val (.int (f i j))))
noncomputable def xX4 (b:D):D→Prc R
 | .int i=>(zB5 (zU1 b)).bind fun j=>.need (small i&&small j) (.pure (.val (.int (i+j))))
 | .tup xs=>(zB5 (zh2 b)).bind fun ys=>.need (zA0 xs&&zA0 ys) (.pure (.val (.tup (xs++ys))))
 | .list xs=>(zB5 (zf0 b)).bind fun ys=>.need (zA0 xs&&zA0 ys) (.pure (.ownL (xs++ys)))
 | _=>.fail
noncomputable def yC0 (op:Operator) (a b:D):Prc R :=
 match op with
 | .Add=>xX4 b a
 | .Sub=>yT9 (fun i j=>small i&&small j) (fun i j=>i - j) a b
 | .Mult=>yT9 (fun i j=>small i&&small j) (fun i j=>i * j) a b
 | .Mod=>yT9 (fun i j=>decide (0 < j)&&small j) (fun i j=>i % j) a b
 | _=>.fail
noncomputable def zO0 (x:D):List D→Option Bool
 | []=>some false
 | y::ys=>(deq y x).bind fun b=>(zO0 x ys).bind fun c=>some (b || c)
noncomputable def zz1:Expr→Bool
 | .Constant ..=>true
 | .Tuple [] _ _=>true
 | .List [] _=>true
 | _=>false
noncomputable def xN6:D→Option Bool
 | .tup xs=>some xs.isEmpty
 | _=>none
noncomputable def xA6:D→Option Bool
 | .list xs=>some xs.isEmpty
 | _=>none
noncomputable def zm9:D→Bool
 | .none=>true
 | _=>false
noncomputable def yy0:D→Option Bool
 | .none=>some false
 | .dict _=>some true
 | .tup _=>some true
 | _=>none
noncomputable def yU0 (a:D):D→Option Bool
 | .str y=>(zD1 a).map fun x=>x == y
 | .int j=>(zU1 a).map fun i=>i == j
 | .tup ys=>if ys.isEmpty then xN6 a else none
 | .list ys=>if ys.isEmpty then xA6 a else none
 | _=>none
noncomputable def eqP (plain:Bool) (a b:D):Prc Bool:=if plain then zB5 (yU0 a b) else .getB (deq a b) .pure
noncomputable def inP (a:D):D→Prc Bool
 | .tup ys=>.getB (zO0 a ys) .pure
 | .list ys=>.getB (zO0 a ys) .pure
 | .dict es=>zB5 ((zD1 a).bind fun s=>(zE0 es s).map (·.isSome))
 | _=>.fail
noncomputable def z36 (f:Int→Int→Bool) (a b:D):Prc Bool:=.getB ((zU1 a).bind fun i=>(zU1 b).map (f i)) .pure
noncomputable def zn0 (plain:Bool) (op:CmpOp) (a b:D):Prc Bool :=
 match op with
 | .Eq=>eqP plain a b
 | .NotEq=>(eqP plain a b).bind fun r=>.pure (!r)
 | .Lt=>z36 (fun i j=>decide (i < j)) a b
 | .LtE=>z36 (fun i j=>decide (i≤j)) a b
 | .Gt=>z36 (fun i j=>decide (j < i)) a b
 | .In=>inP a b
 | .NotIn=>(inP a b).bind fun r=>.pure (!r)
 | .IsNot=>if zm9 b then zB5 (yy0 a) else .fail
 | _=>.fail
noncomputable def zf1 (a b:Str):Bool:=decide (a.cps.toList≤b.cps.toList)
noncomputable def zI3 (key:D→Option Str) (d:D):List D→Option (List D)
 | []=>some [d]
 | e::es=>(key d).bind fun a=>(key e).bind fun b=>if a=b then none else if zf1 a b then some (d::e::es) else (zI3 key d es).bind fun r=>some (e::r)
noncomputable def zF0 (key:D→Option Str):List D→Option (List D)
 | []=>some []
 | d::ds=>(key d).bind fun uu=>(zF0 key ds).bind fun r=>zI3 key d r
noncomputable def zI4 (d:D):Option Str:=(zh2 d).bind fun l=>if l.length=2 then l.head?.bind zD1 else none
noncomputable def zN5:List Str→List Str
 | []=>[]
 | s::r=>if r.contains s then zN5 r else s::zN5 r
noncomputable def zh3:List D→Option (List Str)
 | []=>some []
 | .str s::ds=>(zh3 ds).bind fun r=>some (s::r)
 | _=>none
noncomputable def zJ4:List (D×D)→List D:=fun es=>es.map fun p=>.tup [p.1,p.2]
noncomputable def xN7:List D→Option (Str×D)
 | []=>none
 | a::l=>(zD1 a).bind fun s=>(zX3 l).map fun v=>(s,v)
noncomputable def xA7 (d:D):Option (Str×D):=(zh2 d).bind xN7
noncomputable def zB8:List D→Option (List (D×D))
 | []=>some []
 | d::r=>(xA7 d).bind fun p=>(zB8 r).bind fun es=>(zE0 es p.1).bind fun o=>if o.isNone=true then some ((.str p.1,p.2)::es) else none
noncomputable def upL (a:Int) (n:Nat):List D:=(List.range n).map fun k=>.int (a+(k:Nat))
noncomputable def zo3 (a:Int) (n:Nat):List D:=(List.range n).map fun k=>.int (a - (k:Nat))
noncomputable def zo4 (a b c:Int):Prc (List D) :=
 .need (small a&&small b)
  (if c=1 then .pure (upL a (b - a).toNat)
  else if c=-1 then .pure (zo3 a (a - b).toNat)
  else .fail)
noncomputable def zZ7:D→Option (List D)
 | .tup ds=>some ds
 | .list ds=>some ds
 | _=>none
noncomputable def zM0 {α β:Type} (f:α→Prc β):List α→Prc (List β)
 | []=>.pure []
 | a::as=>(f a).bind fun b=>(zM0 f as).bind fun bs=>.pure (b::bs)
noncomputable def z37 {α:Type}:List α→Option (α×List α)
 | []=>none
 | a::l=>some (a,l)
noncomputable def zG8:Ent→Bool
 | .bor _=>true
 | .newO _ _=>true
 | _=>false
noncomputable def xD8 (o:Option Ent):Bool:=o.any zG8
mutual
noncomputable def zB9 (sc:Scope):Expr→D→Rho→Option Rho
 | .Name x _,d,ρ=>if (sc.names.lookup x == some .local || sc.names.lookup x == some .cell) then
   if xD8 (ρ.lookup x)=true then none else some (ρ.set x (.val d)) else none
 | .Tuple ts _ _,d,ρ=>(zZ7 d).bind fun ds=>if zA0 ds then zS3 sc ts ds ρ else none
 | _,_,_=>none
noncomputable def zS3 (sc:Scope):List Expr→List D→Rho→Option Rho
 | [],ds,ρ=>if ds.isEmpty=true then some ρ else none
 | t::ts,ds,ρ=>(z37 ds).bind fun q=>(zB9 sc t q.1 ρ).bind fun ρ'=>zS3 sc ts q.2 ρ'
end
noncomputable def zL3:Expr→Bool
 | .Name _ _=>true
 | .Attribute _ _ _=>true
 | _=>false
structure Evs where
 e:Scope→Rho→Expr→Prc (R×Rho)
 t:Scope→Rho→Expr→Prc (Bool×Rho)
section
variable (G:PG) (st:Bool)
noncomputable def zH0 (sc:Scope) (x:Str):Bool:=match sc.names.lookup x with
 | some .local=>true
 | some .cell=>true
 | some .free=>true
 | _=>false
noncomputable def xN8 (ρ:Rho) (x:Str) (e:Ent):Prc (R×Rho) :=
 match e with
 | .val d=>.pure (.val d,ρ)
 | .ownL ds=>if st=true then .pure (.val (.list ds),ρ.set x (.val (.list ds))) else .fail
 | .ownD es=>if st=true then .pure (.val (.dict es),ρ.set x (.val (.dict es))) else .fail
 | _=>.fail
noncomputable def yC1 (sc:Scope) (ρ:Rho) (x:Str):Prc (R×Rho) :=
 if sc.names.lookup x=some .globalImplicit then (zB5 (G.glob x)).bind fun v=>.pure (.val (.val v),ρ)
 else if zH0 sc x=true then (zB5 (ρ.lookup x)).bind fun e=>xN8 st ρ x e else .fail
noncomputable def zN6:Expr→Option Str
 | .Name x _=>some x
 | _=>none
noncomputable def yZ3:Ent→Option (List D)
 | .ownL ds=>some ds
 | .bor ds=>some ds
 | _=>none
noncomputable def xN9:Ent→Option (List (D×D))
 | .ownD es=>some es
 | _=>none
noncomputable def xA8 (sc:Scope) (ρ:Rho) (x:Str):Option (List D):=if zH0 sc x=true then (ρ.lookup x).bind yZ3 else none
noncomputable def zX4 (sc:Scope) (ρ:Rho) (e:Expr):Option (List D):=(zN6 e).bind (xA8 sc ρ)
noncomputable def zz2 (sc:Scope) (ρ:Rho) (e:Expr):Option (List (D×D)):=(zN6 e).bind fun x=>if zH0 sc x=true then (ρ.lookup x).bind xN9 else none
noncomputable def zE3:Expr→Bool
 | .Starred _ _=>true
 | _=>false
noncomputable def evalArgs (ev:Rho→Expr→Prc (R×Rho)):List Expr→Rho→Prc (List D×Rho)
 | [],ρ=>.pure ([],ρ)
 | e::es,ρ=>if zE3 e=true then .fail else (ev ρ e).bind fun p=>(evalArgs ev es p.2).bind fun q=>.pure (p.1.toD::q.1,q.2)
noncomputable def xA9:R→Option Bool
 | .val d=>(match d with | .bool b=>some b | _=>none)
 | _=>none
noncomputable def yy1:R→Option Int
 | .val d=>zU1 d
 | _=>none
noncomputable def zM4 (p:Prc (R×Rho)):Prc (Bool×Rho):=p.bind fun q=>(zB5 (xA9 q.1)).bind fun b=>.pure (b,q.2)
noncomputable def xB0:BoolOp→Bool→Bool
 | .And,b=>!b
 | .Or,b=>b
noncomputable def zn1 (ev:Rho→Expr→Prc (R×Rho)) (op:BoolOp):List Expr→Rho→Prc (R×Rho)
 | [],_=>.fail
 | x::rest,ρ=>if rest.isEmpty=true then ev ρ x else (zM4 (ev ρ x)).bind fun p=>if xB0 op p.1=true then .pure (.val (.bool p.1),p.2) else zn1 ev op rest p.2
noncomputable def zf2 (et:Rho→Expr→Prc (Bool×Rho)) (op:BoolOp):List Expr→Rho→Prc (Bool×Rho)
 | [],ρ=>.pure (op == .And,ρ)
 | x::rest,ρ=>(et ρ x).bind fun p=>if xB0 op p.1=true then .pure (p.1,p.2) else zf2 et op rest p.2
noncomputable def yi9 (ev:Rho→Expr→Prc (R×Rho)):List Expr→D→List CmpOp→Rho→Prc (Bool×Rho)
 | [],_,_,_=>.fail
 | r::rs,zE2,ops,ρ=>(match ops with
  | []=>.fail
  | op::ops=>if ops.isEmpty=true then
     (if rs.isEmpty=true∧behindInMarks op r=false then (ev ρ r).bind fun p=>(zn0 (zz1 r) op zE2 p.1.toD).bind fun b=>.pure (b,p.2) else .fail)
    else (ev ρ r).bind fun p=>(zn0 (zz1 r) op zE2 p.1.toD).bind fun b=>if b=true then yi9 ev rs p.1.toD ops p.2 else .pure (false,p.2))
noncomputable def zz3 (ev:Rho→Expr→Prc (R×Rho)) (zE2:D) (ops:List CmpOp) (cs:List Expr) (ρ:Rho):Prc (Bool×Rho):=yi9 ev cs zE2 ops ρ
noncomputable def zo5 (ev:Rho→Expr→Prc (R×Rho)):Option Expr→Rho→Prc (Option Int×Rho)
 | none,ρ=>.pure (none,ρ)
 | some e,ρ=>(ev ρ e).bind fun p=>(zB5 (yy1 p.1)).bind fun i=>.pure (some i,p.2)
noncomputable def cut {α:Type} (l u:Option Int) (xs:List α):Prc (List α) :=
 .need (decide (0≤l.getD 0)&&decide (0≤u.getD 0)&&small (l.getD 0)&&small (u.getD 0))
  (.pure ((match u with | some u=>xs.take u.toNat | none=>xs).drop (l.getD 0).toNat))
noncomputable def z38 (l u:Option Int):D→Prc R
 | .tup ds=>.need (zA0 ds) ((cut l u ds).bind fun xs=>.pure (.val (.tup xs)))
 | .list ds=>.need (zA0 ds) ((cut l u ds).bind fun xs=>.pure (.ownL xs))
 | .str s=>.need (zA0 s.cps.toList) ((cut l u s.cps.toList).bind fun xs=>.pure (.val (.str ⟨xs.toArray⟩)))
 | _=>.fail
noncomputable def yC2:Expr→Option Int
 | .Constant c _ _=>(match c with | .int i=>some i | _=>none)
 | _=>none
noncomputable def zc6:Expr→Bool
 | .UnaryOp op e _=>op == .USub&&yC2 e == some 1
 | _=>false
noncomputable def xD9 (l u:Option Expr) (m:Expr) (d:D):Prc R:=if (l.isNone&&u.isNone&&zc6 m)=true then (zB5 (zf0 d)).bind fun ds=>.need (zA0 ds) (.pure (.ownL ds.reverse)) else .fail
noncomputable def zC3 (ds:List D) (i:Int):Option D:=(idx ds.length i).bind fun j=>ds[j]?
noncomputable def yj0 (ds:List D) (k:D):Prc D:=(zB5 (zU1 k)).bind fun i=>.need (zA0 ds) (.getD (zC3 ds i) .pure)
noncomputable def xO0 (es:List (D×D)):D→Prc D
 | .str s=>zB5 ((zE0 es s).bind id)
 | .tup ds=>.getD (zD8 es ds) .pure
 | _=>.fail
noncomputable def zb6 (o k:D):Prc D :=
 match o with
 | .tup ds=>yj0 ds k
 | .list ds=>yj0 ds k
 | .dict es=>xO0 es k
 | _=>.fail
noncomputable def yj1:D→Bool
 | .val _=>true
 | _=>false
noncomputable def yL3 (o:D) (x:Str):Option D :=
 match o with
 | .obj c fs=>if G.field c x then (fs.lookup x).bind fun d=>if yj1 d then none else some d else none
 | _=>none
noncomputable def zW2 (ds:List D):List D:=ds.zipIdx.map fun p=>.tup [.int (p.2:Nat),p.1]
noncomputable def zX5 (xs ys:List D):List D:=(xs.zip ys).map fun p=>.tup [p.1,p.2]
noncomputable def zM5 (xs ys:List D):Bool:=(zX5 xs ys).all fun d=>match d with
 | .tup es=>(zB8 es).isNone
 | _=>true
noncomputable def zF4 (sc:Scope) (x:Str):Option Value:=match sc.names.lookup x with
 | some .globalImplicit=>G.glob x
 | _=>none
noncomputable def xB1 (d:D):Prc (List D):=(zB5 (zZ7 d)).bind fun ds=>.need (zA0 ds) (.pure ds)
noncomputable def zh4:Expr→Option (Expr×List Expr×Pos)
 | .Call f args kws p=>if kws.isEmpty=true then some (f,args,p) else none
 | _=>none
noncomputable def yL4:Expr→Option (Expr×Str×Pos)
 | .Attribute o m q=>some (o,m,q)
 | _=>none
noncomputable def yZ4 (e:Expr):Option (Str×List Expr):=(zh4 e).bind fun c=>(zN6 c.1).map fun f=>(f,c.2.1)
noncomputable def yy2 (a b:D):Bool:=(zh2 a).isSome == (zh2 b).isSome
noncomputable def yj2:D→Option (List D)
 | .tup xs=>some xs
 | .list xs=>some xs
 | _=>none
noncomputable def yC3:Option Value→Option String
 | some v=>(match v with | .type t=>some t | _=>none)
 | none=>none
noncomputable def z39 (sc:Scope) (e:Expr):Option (String×List Expr):=(yZ4 e).bind fun c=>(yC3 (zF4 G sc c.1)).bind fun t =>
 if (t == "range" || t == "enumerate" || t == "zip" || t == "reversed")=true then some (t,c.2) else none
noncomputable def xE0:List Int→Prc (List D)
 | []=>.fail
 | a::is=>(match is with
  | []=>zo4 0 a 1
  | b::is=>(match is with
   | []=>zo4 a b 1
   | c::is=>if is.isEmpty=true∧c=-1 then zo4 a b (-1) else .fail))
noncomputable def yj3 (ds:List D):Prc (List D):=(zB5 (zX2 ds)).bind xE0
noncomputable def xB2 (ds:List D):Prc (List D):=(zB5 ((zX3 ds).bind yj2)).bind fun ds=>.need (zA0 ds) (.pure (zW2 ds))
noncomputable def xO1:List D→Option (D×D)
 | []=>none
 | x::xs=>(zX3 xs).map fun y=>(x,y)
noncomputable def xO2 (ds:List D):Prc (List D):=(zB5 (xO1 ds)).bind fun p=>(zB5 (if yy2 p.1 p.2=true then (yj2 p.1).bind fun xs=>(yj2 p.2).map fun ys=>(xs,ys) else none)).bind fun q =>
 .need (zA0 q.1&&zA0 q.2&&zM5 q.1 q.2) (.pure (zX5 q.1 q.2))
noncomputable def xO3 (ds:List D):Prc (List D):=(zB5 ((zX3 ds).bind zf0)).bind fun ds=>.need (zA0 ds) (.pure ds.reverse)
noncomputable def xO4 (t:String) (ds:List D):Prc (List D):=if t="range" then yj3 ds else if t="enumerate" then xB2 ds else if t="zip" then xO2 ds else xO3 ds
noncomputable def zE7:Expr→Bool
 | .Tuple _ _ _=>true
 | _=>false
noncomputable def zo6:Expr→Bool
 | .Set _ _ _=>true
 | _=>false
noncomputable def zC0 (ev:Rho→Expr→Prc (R×Rho)) (sc:Scope) (tup:Bool) (ρ:Rho) (e:Expr):Prc (List D×Rho) :=
 match z39 G sc e with
 | some c=>if (tup || c.1 == "range" || c.1 == "reversed")=true then (evalArgs ev c.2 ρ).bind fun q=>(xO4 c.1 q.1).bind fun l=>.pure (l,q.2) else .fail
 | none=>if zo6 e=true then .fail else (ev ρ e).bind fun q=>(xB1 q.1.toD).bind fun l=>.pure (l,q.2)
noncomputable def zS4 (et:Rho→Expr→Prc (Bool×Rho)):List Expr→Rho→Prc Bool
 | [],_=>.pure true
 | c::cs,ρ=>(et ρ c).bind fun p=>if p.1 then zS4 et cs ρ else .pure false
mutual
noncomputable def zc7:Expr→List Str
 | .Name x _=>[x]
 | .Tuple ts _ _=>zn2 ts
 | _=>[]
noncomputable def zn2:List Expr→List Str
 | []=>[]
 | t::ts=>zc7 t++zn2 ts
end
noncomputable def zN7 (sc:Scope) (t:Expr) (ρ:Rho):Bool:=(zc7 t).all fun x=>sc.names.lookup x == some .local&&(ρ.lookup x).isNone
noncomputable def zM6 (et:Rho→Expr→Prc (Bool×Rho)) (it:Bool→Rho→Expr→Prc (List D×Rho)) (sc:Scope) (emit:Rho→Prc (List D)) :
  List Comprehension→List D→Rho→Prc (List D)
 | [],_,_=>.fail
 | ⟨t,_,ifs,_⟩::rest,items,ρ=>if zN7 sc t ρ=true then (zM0 (fun d=>(zB5 (zB9 sc t d ρ)).bind fun ρ'=>(zS4 et ifs ρ').bind fun ok =>
   if ok then (match rest with
    | []=>emit ρ'
    | ⟨t',i',f',a'⟩::rest'=>(it (zE7 t') ρ' i').bind fun q=>zM6 et it sc emit (⟨t',i',f',a'⟩::rest') q.1 ρ')
   else .pure []) items).bind fun l=>.pure l.flatten else .fail
noncomputable def zf3 (sc:Scope):List Str:=(sc.names.filter fun p=>p.2 == .local).map (·.1)
noncomputable def zn3 (sc:Scope):List Str:=(sc.names.filter fun p=>p.2 == .free).map (·.1)
noncomputable def zn4:List Str→Rho→Rho
 | [],ρ=>ρ
 | x::xs,ρ=>zn4 xs (match ρ.lookup x with | some (.ownL ds)=>ρ.set x (.val (.list ds)) | _=>ρ)
noncomputable def zC4 (sc:Scope) (ρ:Rho):Rho:=zn4 (zn3 sc) ρ
noncomputable def zD2 (sc:Scope) (ρ:Rho):Rho:=ρ.filter fun p=>!(zf3 sc).contains p.1
noncomputable def zI9 (gens:List Comprehension):Bool:=gens.all fun g=>g.is_async == 0&&!zo6 g.iter
noncomputable def zF6 (sc csc:Scope):Bool:=csc.kind == .function&&csc.names.all fun p =>
 (p.2 == .local&&csc.names.lookup p.1 == some .local&&p.1 != Str.ofString "__debug__"&&p.1 != Str.ofString "__classdict__") ||
 (p.2 == .free&&csc.names.lookup p.1 == some .free&&p.1 != Str.ofString "__debug__"&&p.1 != Str.ofString "__classdict__"&&(sc.names.lookup p.1 == some .cell || sc.names.lookup p.1 == some .free)) ||
 p.2 == .globalImplicit || p.2 == .globalExplicit
noncomputable def zZ8 (e:Expr):Option Expr:=(zh4 e).bind fun c=>(yL4 c.1).bind fun a =>
 if (c.2.1.isEmpty&&a.2.1 == Str.ofString "items"&&zL3 a.1&&a.2.2.endLine == c.2.2.line)=true then some a.1 else none
noncomputable def yU1 (sc:Scope) (e:Expr):Option Expr:=(zh4 e).bind fun c=>(zN6 c.1).bind fun f=>(zX3 c.2.1).bind fun x =>
 if zF4 G sc f=some (.type "set")∧¬ zE3 x=true then some x else none
noncomputable def yy3 (d:D):Prc R:=(zB5 (zm8 d)).bind fun es=>.need (Nat.blt es.length 64) (zB5 ((zF0 zD1 (es.map (·.1))).map .ownL))
noncomputable def xB3:D→Option String
 | .tup _=>some "tuple"
 | .str _=>some "str"
 | _=>none
noncomputable def tyD:D→Option String
 | .val v=>if v == .type "tuple" then some "tuple" else if v == .type "str" then some "str" else none
 | _=>none
noncomputable def zo7 (id:String) (ds:List D):Prc R :=
 match ds with
 | []=>.fail
 | d::ds=>(match ds with
  | []=>if id="len" then (zB5 (yj2 d)).bind fun xs=>.need (zA0 xs) (.pure (.val (.int (xs.length:Nat)))) else if id="sorted" then yy3 d else .fail
  | t::ds=>if id="isinstance"∧ds.isEmpty=true then zB5 ((xB3 d).bind fun k=>(tyD t).map fun t=>.val (.bool (k == t))) else .fail)
noncomputable def xB4 (t:String) (ds:List D):Prc R :=
 match ds with
 | []=>.fail
 | d::ds=>if ds.isEmpty=true then (match d with
  | .list xs=>if t="tuple" then .need (zA0 xs) (.pure (.val (.tup xs))) else if t="dict" then .need (zA0 xs) (zB5 ((zB8 xs).map .ownD)) else .fail
  | .tup xs=>if t="tuple" then .pure (.val (.tup xs)) else if t="list" then .need (zA0 xs) (.pure (.ownL xs)) else if t="dict" then .need (zA0 xs) (zB5 ((zB8 xs).map .ownD)) else .fail
  | .int i=>if t="int" then .pure (.val (.int i)) else .fail
  | _=>.fail) else .fail
noncomputable def vals (ds:List D):List Ent:=ds.map .val
noncomputable def xE1:Ent→Option (List D)
 | .bor ds=>some ds
 | _=>none
noncomputable def zz4 (e:Ent) (l:List D):Ent:=match e with
 | .ownL _=>.ownL l
 | _=>.bor l
noncomputable def xE2 (sc:Scope) (ρ:Rho) (a:Addr) (args:List Expr):Option Str:=(args.head?.bind zN6).bind fun x=>if (st&&G.borrows a&&(xA8 sc ρ x).isSome)=true then some x else none
noncomputable def z40 (ev:Rho→Expr→Prc (R×Rho)) (sc:Scope) (ρ:Rho) (a:Addr) (args:List Expr):Prc (R×Rho) :=
 match xE2 G st sc ρ a args with
 | some x=>(evalArgs ev args.tail ρ).bind fun q=>(zB5 (q.2.lookup x)).bind fun e=>(zB5 (yZ3 e)).bind fun ds' =>
   .call a (.bor ds'::vals q.1) fun r=>(zB5 (r.2.bind xE1)).bind fun ds''=>.pure (r.1,q.2.set x (zz4 e ds''))
 | none=>(evalArgs ev args ρ).bind fun q=>.call a (vals q.1) fun r=>.pure (r.1,q.2)
noncomputable def z41 (sc:Scope) (ρ:Rho) (id:String) (args:List Expr):Option (List D):=if id="len" then (zX3 args).bind (zX4 sc ρ) else none
noncomputable def zh5 (sc:Scope) (id:String) (args:List Expr):Option Expr:=if id="sorted" then (zX3 args).bind (yU1 G sc) else none
noncomputable def zS5 (f id:String) (args:List Expr):Option Expr:=if id=f then (zX3 args).bind zZ8 else none
noncomputable def yC4 (d:D):Prc R:=(zB5 (zf0 d)).bind fun ds=>.need (Nat.blt ds.length 64) ((zB5 ((zh3 ds).bind fun ss=>zF0 zD1 ((zN5 ss).map .str))).bind fun r=>.pure (.ownL r))
noncomputable def zo8 (d:D):Prc R:=(zB5 (zm8 d)).bind fun es=>.need (Nat.ble es.length 2) ((zB5 (zF0 zI4 (zJ4 es))).bind fun r=>.pure (.ownL r))
noncomputable def yL5 (d:D):Prc R:=(zB5 (zm8 d)).bind fun es=>.need (zA0 es) ((zB5 (zE0 es ⟨#[]⟩)).bind fun uu=>.pure (.ownL (zJ4 es)))
noncomputable def zX6 (ev:Rho→Expr→Prc (R×Rho)) (sc:Scope) (ρ:Rho) (id:String) (args:List Expr):Prc (R×Rho) :=
 match z41 sc ρ id args with
 | some ds=>.need (zA0 ds) (.pure (.val (.int (ds.length:Nat)),ρ))
 | none=>(match zh5 G sc id args with
  | some e=>(ev ρ e).bind fun p=>(yC4 p.1.toD).bind fun r=>.pure (r,p.2)
  | none=>(match zS5 "sorted" id args with
   | some o=>(ev ρ o).bind fun p=>(zo8 p.1.toD).bind fun r=>.pure (r,p.2)
   | none=>(evalArgs ev args ρ).bind fun q=>(zo7 id q.1).bind fun r=>.pure (r,q.2)))
noncomputable def zo9 (ev:Rho→Expr→Prc (R×Rho)) (ρ:Rho) (t:String) (args:List Expr):Prc (R×Rho) :=
 match zS5 "list" t args with
 | some o=>(ev ρ o).bind fun p=>(yL5 p.1.toD).bind fun r=>.pure (r,p.2)
 | none=>(evalArgs ev args ρ).bind fun q=>(xB4 t q.1).bind fun r=>.pure (r,q.2)
noncomputable def xO5 (a:Addr):Ent→Option (List (Str×D))
 | .newO c fs=>if c=a then some fs else none
 | _=>none
noncomputable def yU2:R→Bool
 | .val d=>zm9 d
 | _=>false
noncomputable def xX5:D→Option (Addr×List (Str×D))
 | .obj c fs=>some (c,fs)
 | _=>none
noncomputable def xO6:R→Option (Addr×List (Str×D))
 | .val d=>xX5 d
 | _=>none
noncomputable def yU3 (ev:Rho→Expr→Prc (R×Rho)) (ρ:Rho) (a:Addr) (args:List Expr):Prc (R×Rho) :=
 (zB5 (G.meth a (Str.ofString "__init__"))).bind fun g=>(evalArgs ev args ρ).bind fun q =>
  .call g (.newO a []::vals q.1) fun r=>if yU2 r.1=true then (zB5 (r.2.bind (xO5 a))).bind fun fs=>.pure (.val (.obj a fs),q.2) else .fail
noncomputable def yC5 (ev:Rho→Expr→Prc (R×Rho)) (p:R×Rho) (m:Str) (args:List Expr):Prc (R×Rho) :=
 (zB5 (xO6 p.1)).bind fun o=>if (o.2.lookup m).isNone=true then (zB5 (G.meth o.1 m)).bind fun g=>(evalArgs ev args p.2).bind fun q=>.call g (vals (.obj o.1 o.2::q.1)) fun r=>.pure (r.1,q.2) else .fail
noncomputable def zz5 (ev:Rho→Expr→Prc (R×Rho)) (sc:Scope) (ρ:Rho) (args:List Expr):Option Value→Prc (R×Rho)
 | some v=>(match v with
   | .builtin id=>zX6 G ev sc ρ id args
   | .type t=>zo9 ev ρ t args
   | .ref a=>if (G.fn a).isSome=true then z40 G st ev sc ρ a args else yU3 G ev ρ a args
   | _=>.fail)
 | none=>.fail
noncomputable def yC6 (ev:Rho→Expr→Prc (R×Rho)) (sc:Scope) (ρ:Rho) (f:Expr) (args:List Expr) (pos:Pos):Prc (R×Rho) :=
 match f with
 | .Attribute o m q=>if zL3 o&&(q.endLine == pos.line)&&decide (args.length < 30) then (ev ρ o).bind fun p=>yC5 G ev p m args else .fail
 | .Name x _=>zz5 G st ev sc ρ args (zF4 G sc x)
 | _=>.fail
noncomputable def yy4 (ev:Rho→Expr→Prc (R×Rho)) (sc:Scope) (ρ:Rho) (o i:Expr):Prc (R×Rho) :=
 match i with
 | .Slice l u s _=>(ev ρ o).bind fun p=>(match s with
   | none=>(zo5 ev l p.2).bind fun a=>(zo5 ev u a.2).bind fun b=>(z38 a.1 b.1 p.1.toD).bind fun r=>.pure (r,b.2)
   | some m=>(xD9 l u m p.1.toD).bind fun r=>.pure (r,p.2))
 | i=>(match zX4 sc ρ o with
   | some _=>(ev ρ i).bind fun q=>(zB5 (zX4 sc q.2 o)).bind fun ds=>(zb6 (.list ds) q.1.toD).bind fun d=>.pure (.val d,q.2)
   | none=>(match zz2 sc ρ o with
     | some _=>(ev ρ i).bind fun q=>(zB5 (zz2 sc q.2 o)).bind fun es=>(zb6 (.dict es) q.1.toD).bind fun d=>.pure (.val d,q.2)
     | none=>(ev ρ o).bind fun p=>(ev p.2 i).bind fun q=>(zb6 p.1.toD q.1.toD).bind fun d=>.pure (.val d,q.2)))
noncomputable def zO3 (E F:Evs) (sc:Scope) (ρ:Rho) (elt:Expr) (gens:List Comprehension) (csc:Scope):Prc (R×Rho) :=
 match gens with
 | []=>.fail
 | ⟨t,i,fs,a⟩::rest=>if (zI9 (⟨t,i,fs,a⟩::rest)&&zF6 sc csc)=true then (zC0 G (E.e sc) sc (zE7 t) ρ i).bind fun q =>
   (zM6 (F.t csc) (fun tp ρ' i'=>zC0 G (F.e csc) csc tp ρ' i') csc (fun ρ'=>(F.e csc ρ' elt).bind fun r=>.pure [r.1.toD]) (⟨t,i,fs,a⟩::rest) q.1 (zD2 csc (zC4 csc q.2))).bind fun ds =>
   .need (zA0 ds) (.pure (.ownL ds,zC4 csc q.2)) else .fail
noncomputable def zO4 (E F:Evs) (sc:Scope) (ρ:Rho) (k v:Expr) (gens:List Comprehension) (csc:Scope):Prc (R×Rho) :=
 match gens with
 | [⟨t,i,[],a⟩]=>if (zI9 [⟨t,i,[],a⟩]&&zF6 sc csc)=true then (zC0 G (E.e sc) sc (zE7 t) ρ i).bind fun q =>
   (zM6 (F.t csc) (fun tp ρ' i'=>zC0 G (F.e csc) csc tp ρ' i') csc (fun ρ'=>(F.e csc ρ' k).bind fun r=>(F.e csc ρ' v).bind fun r'=>.pure [.tup [r.1.toD,r'.1.toD]]) [⟨t,i,[],a⟩] q.1 (zD2 csc q.2)).bind fun ds =>
   .need (zA0 ds) ((zB5 (zB8 ds)).bind fun es=>.pure (.ownD es,q.2)) else .fail
 | _=>.fail
noncomputable def yj4 (E F:Evs) (sc:Scope) (ρ:Rho) (e:Expr):Prc (R×Rho) :=
 match e with
 | .Constant c _ _=>(match c with
   | .none=>.pure (.val .none,ρ)
   | .bool b=>.pure (.val (.bool b),ρ)
   | .int i=>.pure (.val (.int i),ρ)
   | .str s=>.pure (.val (.str s),ρ)
   | _=>.fail)
 | .Name x _=>if x == Str.ofString "__debug__" then .fail else yC1 G st sc ρ x
 | .Tuple es _ _=>(evalArgs (E.e sc) es ρ).bind fun q=>if zA0 es then .pure (.val (.tup q.1),q.2) else .fail
 | .List es _=>(evalArgs (E.e sc) es ρ).bind fun q=>if zA0 es then .pure (.ownL q.1,q.2) else .fail
 | .Dict ks vs _=>(match ks,vs with
   | [],[]=>.pure (.ownD [],ρ)
   | _,_=>.fail)
 | .BinOp l op r _=>(E.e sc ρ l).bind fun p=>(E.e sc p.2 r).bind fun q=>(yC0 op p.1.toD q.1.toD).bind fun d=>.pure (d,q.2)
 | .UnaryOp op x _=>(match op with
   | .Not=>(zM4 (E.e sc ρ x)).bind fun p=>.pure (.val (.bool (!p.1)),p.2)
   | .USub=>(E.e sc ρ x).bind fun p=>(zB5 (yy1 p.1)).bind fun i=>.need (small i) (.pure (.val (.int (-i)),p.2))
   | _=>.fail)
 | .BoolOp op vs _=>zn1 (E.e sc) op vs ρ
 | .IfExp t b o _=>(E.t sc ρ t).bind fun p=>if p.1 then E.e sc p.2 b else E.e sc p.2 o
 | .Compare l ops cs _=>(E.e sc ρ l).bind fun p=>(zz3 (E.e sc) p.1.toD ops cs p.2).bind fun q=>.pure (.val (.bool q.1),q.2)
 | .Attribute o x _=>if zL3 o=false then .fail else (E.e sc ρ o).bind fun p=>(zB5 (yL3 G p.1.toD x)).bind fun d=>.pure (.val d,p.2)
 | .Subscript o i _=>yy4 (E.e sc) sc ρ o i
 | .Call f args kws p=>(match kws with
   | []=>yC6 G st (E.e sc) sc ρ f args p
   | _=>.fail)
 | .ListComp elt gens csc _=>if st then zO3 G E F sc ρ elt gens csc else .fail
 | .DictComp k v gens csc _=>if st then zO4 G E F sc ρ k v gens csc else .fail
 | _=>.fail
noncomputable def stepT (E:Evs) (sc:Scope) (ρ:Rho) (e:Expr):Prc (Bool×Rho) :=
 match e with
 | .UnaryOp op x p=>(match op with
   | .Not=>(E.t sc ρ x).bind fun p=>.pure (!p.1,p.2)
   | op=>zM4 (E.e sc ρ (.UnaryOp op x p)))
 | .BoolOp op vs _=>zf2 (E.t sc) op vs ρ
 | .Compare l ops cs _=>(E.e sc ρ l).bind fun p=>zz3 (E.e sc) p.1.toD ops cs p.2
 | .IfExp _ _ _ _=>.fail
 | e=>zM4 (E.e sc ρ e)
end
noncomputable def yC7 (G:PG):Nat→Evs
 | 0=>⟨fun uu uu uu=>.fail,fun uu uu uu=>.fail⟩
 | n+1=>⟨yj4 G false (yC7 G n) (yC7 G n),stepT (yC7 G n)⟩
noncomputable def evs (G:PG):Nat→Evs
 | 0=>⟨fun uu uu uu=>.fail,fun uu uu uu=>.fail⟩
 | n+1=>⟨yj4 G true (evs G n) (yC7 G n),stepT (evs G n)⟩
inductive Fl where
 | next | ret (r:R)
 deriving Inhabited
noncomputable def zc8 (asg:D→Rho→Option Rho) (body:Rho→Prc (Fl×Rho)):List D→Rho→Prc (Fl×Rho)
 | [],ρ=>.pure (.next,ρ)
 | d::ds,ρ=>(zB5 (asg d ρ)).bind fun ρ₁=>(body ρ₁).bind fun p=>match p.1 with
   | .next=>zc8 asg body ds p.2
   | .ret r=>.pure (.ret r,p.2)
noncomputable def zh6 (test:Rho→Prc (Bool×Rho)) (body:Rho→Prc (Fl×Rho)):Nat→Rho→Prc (Fl×Rho)
 | 0,_=>.fail
 | k+1,ρ=>(test ρ).bind fun b=>if b.1 then (body b.2).bind fun p=>(match p.1 with
   | .next=>zh6 test body k p.2
   | .ret r=>.pure (.ret r,p.2)) else .pure (.next,b.2)
noncomputable def zB2 (ex:Rho→Stmt→Prc (Fl×Rho)):List Stmt→Rho→Prc (Fl×Rho)
 | [],ρ=>.pure (.next,ρ)
 | s::ss,ρ=>(ex ρ s).bind fun p=>match p.1 with
   | .next=>zB2 ex ss p.2
   | .ret r=>.pure (.ret r,p.2)
noncomputable def zN8 (sc:Scope) (ρ:Rho) (x:Str):Bool :=
 (sc.names.lookup x == some .local || sc.names.lookup x == some .cell)&&!xD8 (ρ.lookup x)
noncomputable def zp0 (e:Expr):Option (Str×Str×List Expr):=(zh4 e).bind fun c=>(yL4 c.1).bind fun a=>(zN6 a.1).bind fun x=>if (a.2.2.endLine == c.2.2.line)=true then some (x,a.2.1,c.2.1) else none
noncomputable def zM1 (e:Expr):Option Str:=(zp0 e).bind fun c=>if (c.2.1 == Str.ofString "pop"&&c.2.2.isEmpty)=true then some c.1 else none
noncomputable def zc9 (ev:Rho→Expr→Prc (R×Rho)):List Expr→Rho→Prc (List R×Rho)
 | [],ρ=>.pure ([],ρ)
 | e::es,ρ=>if zE3 e=true then .fail else (ev ρ e).bind fun p=>(zc9 ev es p.2).bind fun q=>.pure (p.1::q.1,q.2)
noncomputable def zf4 (sc:Scope):List Expr→List R→Rho→Option Rho
 | [],rs,ρ=>if rs.isEmpty=true then some ρ else none
 | t::ts,rs,ρ=>(zN6 t).bind fun x=>(z37 rs).bind fun q=>if (zN8 sc ρ x&&sc.names.lookup x == some .local)=true then zf4 sc ts q.2 (ρ.set x q.1.toEnt) else none
noncomputable def zU2:List Expr→Option (List Str)
 | []=>some []
 | e::es=>(zN6 e).bind fun x=>(zU2 es).bind fun xs=>some (x::xs)
noncomputable def zR2 (ts:List Expr):Bool:=match zU2 ts with
 | some xs=>decide xs.Nodup
 | none=>false
noncomputable def zX7:List (Str×D)→Str→D→List (Str×D)
 | [],x,d=>[(x,d)]
 | (y,e)::r,x,d=>if y == x then (y,d)::r else (y,e)::zX7 r x d
noncomputable def zz6:Ent→Option (List D)
 | .ownL ds=>some ds
 | _=>none
noncomputable def yj5:Ent→Option (Addr×List (Str×D))
 | .newO c fs=>some (c,fs)
 | _=>none
noncomputable def yC8:Expr→Option (List Expr)
 | .Tuple es _ _=>some es
 | _=>none
noncomputable def z42 (sc:Scope) (ρ:Rho) (y:Str):Prc (D×Rho) :=
 if zH0 sc y=true then (zB5 ((ρ.lookup y).bind zz6)).bind fun ds=>.need (zA0 ds) (.getD ds.getLast? fun d=>.pure (d,ρ.set y (.ownL ds.dropLast))) else .fail
noncomputable def putAt (ds:List D) (k v:D):Prc (List D):=match k with
 | .int j=>.need (zA0 ds&&decide (0≤j)) ((zB5 (idx ds.length j)).bind fun n=>.pure (ds.set n v))
 | _=>.fail
section
variable (G:PG) (E:Evs)
noncomputable def xO7 (e:Ent) (k v:D):Prc Ent :=
 match e with
 | .ownD es=>(yi8 es k v).bind fun es'=>.pure (.ownD es')
 | .ownL ds=>(putAt ds k v).bind fun ds'=>.pure (.ownL ds')
 | .bor ds=>(putAt ds k v).bind fun ds'=>.pure (.bor ds')
 | _=>.fail
noncomputable def xO8 (sc:Scope) (ρ:Rho) (x:Str) (p:Pos) (value:Expr):Option Str→Prc Rho
 | some y=>(z42 sc ρ y).bind fun q=>if (x == y)=true then .fail else zB5 (zB9 sc (.Name x p) q.1 q.2)
 | none=>(E.e sc ρ value).bind fun q=>if zN8 sc q.2 x=true then .pure (q.2.set x q.1.toEnt) else .fail
noncomputable def xO9 (sc:Scope) (ρ:Rho) (ts:List Expr) (k:Nat) (p:Pos) (value:Expr):Option (List D)→Prc Rho
 | some ds=>if zA0 ds=true then zB5 (zS3 sc ts ds ρ) else .fail
 | none=>(E.e sc ρ value).bind fun q=>zB5 (zB9 sc (.Tuple ts k p) q.1.toD q.2)
noncomputable def xP0 (sc:Scope) (ρ:Rho) (ts:List Expr) (k:Nat) (p:Pos) (value:Expr):Option (List Expr)→Prc Rho
 | some vs=>if (decide (ts.length=vs.length)&&zR2 ts&&!vs.all (constantsAlone 8)&&Nat.ble vs.length 1000)=true then (zc9 (E.e sc) vs ρ).bind fun q=>zB5 (zf4 sc ts q.1 q.2) else .fail
 | none=>xO9 E sc ρ ts k p value (zX4 sc ρ value)
noncomputable def yj6 (sc:Scope) (ρ:Rho) (ts:List Expr) (k:Nat) (p:Pos) (value:Expr):Option Str→Prc Rho
 | some y=>(z42 sc ρ y).bind fun q=>zB5 (zB9 sc (.Tuple ts k p) q.1 q.2)
 | none=>xP0 E sc ρ ts k p value (yC8 value)
noncomputable def zn5 (sc:Scope) (ρ:Rho) (t value:Expr):Prc Rho :=
 match t with
 | .Name x p=>xO8 E sc ρ x p value (zM1 value)
 | .Tuple ts k p=>yj6 E sc ρ ts k p value (zM1 value)
 | .Subscript o i _=>(zB5 (zN6 o)).bind fun x=>(E.e sc ρ value).bind fun v=>if (v.2.lookup x).isNone=true then .fail else (E.e sc v.2 i).bind fun k =>
   if zH0 sc x=true then (zB5 (k.2.lookup x)).bind fun e=>(xO7 e k.1.toD v.1.toD).bind fun e'=>.pure (k.2.set x e') else .fail
 | .Attribute o a _=>(zB5 (zN6 o)).bind fun x=>(E.e sc ρ value).bind fun v =>
   if zH0 sc x=true then (zB5 ((v.2.lookup x).bind yj5)).bind fun q=>if (G.field q.1 a&&decide (q.2.length < 900))=true then .pure (v.2.set x (.newO q.1 (zX7 q.2 a v.1.toD))) else .fail else .fail
 | _=>.fail
noncomputable def zf5 (e:Expr):Option (Str×Str×List Expr):=(zp0 e).bind fun c=>if (c.2.1 == Str.ofString "append" || c.2.1 == Str.ofString "extend" || c.2.1 == Str.ofString "reverse")=true then some c else none
noncomputable def z43 (m:Str) (ds:List D) (args:List D):Prc (List D) :=
 .need (zA0 ds)
  (if (m == Str.ofString "append")=true then (zB5 (zX3 args)).bind fun d=>.pure (ds++[d])
  else if (m == Str.ofString "extend")=true then (zB5 (zX3 args)).bind fun d=>(zB5 (zZ7 d)).bind fun xs=>.need (zA0 xs) (.pure (ds++xs))
  else if args.isEmpty=true then .pure ds.reverse else .fail)
noncomputable def yj7 (sc:Scope) (ρ:Rho) (e:Expr):Prc Rho :=
 match zf5 e with
 | some c=>if zH0 sc c.1=true then (zB5 ((ρ.lookup c.1).bind zz6)).bind fun uu=>(evalArgs (E.e sc) c.2.2 ρ).bind fun q=>(zB5 ((q.2.lookup c.1).bind zz6)).bind fun ds =>
   (z43 c.2.1 ds q.1).bind fun ds'=>.pure (q.2.set c.1 (.ownL ds')) else .fail
 | none=>if (zh4 e).isSome=true then (E.e sc ρ e).bind fun q=>.pure q.2 else .fail
noncomputable def zd0:Nat:=1000000
noncomputable def zK1:Nat→Scope→Rho→Stmt→Prc (Fl×Rho)
 | 0,_,_,_=>.fail
 | n+1,sc,ρ,s=>match s with
  | .Assign ts v _=>(match ts with
    | [t]=>(zn5 G E sc ρ t v).bind fun ρ'=>.pure (.next,ρ')
    | _=>.fail)
  | .Expr e _=>(yj7 E sc ρ e).bind fun ρ'=>.pure (.next,ρ')
  | .If t b o _=>(E.t sc ρ t).bind fun p=>if p.1 then zB2 (zK1 n sc) b p.2 else zB2 (zK1 n sc) o p.2
  | .For t i b o _=>(match o with
    | []=>(zC0 G (E.e sc) sc (zE7 t) ρ i).bind fun q=>zc8 (zB9 sc t) (fun ρ'=>zB2 (zK1 n sc) b ρ') q.1 q.2
    | _=>.fail)
  | .While t b o _=>(match o with
    | []=>zh6 (fun ρ'=>E.t sc ρ' t) (fun ρ'=>zB2 (zK1 n sc) b ρ') zd0 ρ
    | _=>.fail)
  | .Return v _=>(match v with
    | some e=>(E.e sc ρ e).bind fun p=>.pure (.ret p.1,p.2)
    | none=>.fail)
  | .Try b _ o f _=>(match o,f with
    | [],[]=>zB2 (zK1 n sc) b ρ
    | _,_=>.fail)
  | _=>.fail
end
noncomputable def zd1:Ent→Bool
 | .bor _=>true
 | .newO _ _=>true
 | _=>false
noncomputable def z44 (args:List Ent) (e:Option Ent):Bool:=match args with
 | a::_=>if zd1 a then (match e with | some e=>zd1 e | none=>false) else true
 | []=>true
noncomputable def zC7 (G:PG) (F:Fn) (args:List Ent):Prc Ret :=
 if F.params.length=args.length then
  (zB2 (zK1 G (evs G 40) 40 F.scope) F.body (F.params.zip args)).bind fun p =>
   if z44 args (F.params.head?.bind fun x=>p.2.lookup x)=true then .pure ((match p.1 with | .next=>.val .none | .ret r=>r),F.params.head?.bind fun x=>p.2.lookup x) else .fail
 else .fail
noncomputable def run (G:PG):Nat→zB3
 | 0,_,_=>none
 | c+1,f,args=>(G.fn f).bind fun F=>zA1 (run G c) (zC7 G F args)
end Mine
namespace Mine
open PySem
noncomputable def zO8 (name:String):List Stmt→Option Stmt
 | []=>none
 | .FunctionDef n a b d r t s ts bd p::rest=>if n == Str.ofString name then some (.FunctionDef n a b d r t s ts bd p) else zO8 name rest
 | .ClassDef n a b c d r t s ts bd p::rest=>if n == Str.ofString name then some (.ClassDef n a b c d r t s ts bd p) else zO8 name rest
 | _::rest=>zO8 name rest
noncomputable def fnOf?:Option Stmt→Option Fn
 | some (.FunctionDef _ a b _ _ _ s _ _ _)=>some ⟨a.args.map (·.arg),b,s⟩
 | _=>none
noncomputable def yZ5:Option Stmt→List Stmt
 | some (.ClassDef _ _ _ b _ _ _ _ _ _ _)=>b
 | _=>[]
noncomputable def yy5 (name:String):Option Fn:=fnOf? (zO8 name PySem.Challenge.pw_pq0055_03.main.body)
noncomputable def xE3 (c name:String):Option Fn:=fnOf? (zO8 name (yZ5 (zO8 c PySem.Challenge.pw_pq0055_03.main.body)))
noncomputable def xB5:List (Addr×String×String):=[(102,"","is_variable"),(107,"","variables"),(112,"","placed"),(117,"","parts"),(124,"","part_at"),(131,"","replaced"),(138,"","parts_of"),(145,"","is_plain_term"),(150,"","are_places"),(157,"","has_form"),(162,"","in_order"),(169,"","want_form"),(176,"","turned"),(183,"","joined"),(188,"","under"),(202,"Judge","__init__"),(209,"Judge","told_sides"),(214,"Judge","rule_sides"),(219,"Judge","sides_of"),(224,"Judge","sides"),(229,"Judge","count"),(243,"","turned_step"),(250,"","deeper"),(255,"","within"),(269,"Steps","__init__"),(274,"Steps","of_paper"),(281,"Steps","sides"),(288,"Steps","stepped"),(295,"Steps","walk"),(302,"Steps","paper_of"),(321,"Rule","__init__"),(328,"Rule","turned"),(342,"","_law_rows"),(349,"","_law_far"),(354,"","_law_feed"),(361,"","_law_dip"),(368,"","_law_drawn"),(373,"","_law_spots"),(380,"","_law_fits"),(385,"","_law_laid"),(392,"","_law_with"),(399,"","_law_choices"),(404,"","_law_read"),(411,"","_law_is_right"),(416,"","law")]
noncomputable def fns (a:Addr):Option Fn:=(xB5.lookup a).bind fun p=>if p.1 == "" then yy5 p.2 else xE3 p.1 p.2
noncomputable def yC9:List (Str×Value):=[
 (Str.ofString "is_variable",.ref 102),
 (Str.ofString "variables",.ref 107),
 (Str.ofString "placed",.ref 112),
 (Str.ofString "parts",.ref 117),
 (Str.ofString "part_at",.ref 124),
 (Str.ofString "replaced",.ref 131),
 (Str.ofString "parts_of",.ref 138),
 (Str.ofString "is_plain_term",.ref 145),
 (Str.ofString "are_places",.ref 150),
 (Str.ofString "has_form",.ref 157),
 (Str.ofString "in_order",.ref 162),
 (Str.ofString "want_form",.ref 169),
 (Str.ofString "turned",.ref 176),
 (Str.ofString "joined",.ref 183),
 (Str.ofString "under",.ref 188),
 (Str.ofString "turned_step",.ref 243),
 (Str.ofString "deeper",.ref 250),
 (Str.ofString "within",.ref 255),
 (Str.ofString "_law_rows",.ref 342),
 (Str.ofString "_law_far",.ref 349),
 (Str.ofString "_law_feed",.ref 354),
 (Str.ofString "_law_dip",.ref 361),
 (Str.ofString "_law_drawn",.ref 368),
 (Str.ofString "_law_spots",.ref 373),
 (Str.ofString "_law_fits",.ref 380),
 (Str.ofString "_law_laid",.ref 385),
 (Str.ofString "_law_with",.ref 392),
 (Str.ofString "_law_choices",.ref 399),
 (Str.ofString "_law_read",.ref 404),
 (Str.ofString "_law_is_right",.ref 411),
 (Str.ofString "law",.ref 416),
 (Str.ofString "Judge",.ref 232),
 (Str.ofString "Steps",.ref 305),
 (Str.ofString "Rule",.ref 331),
 (Str.ofString "HeapError",.ref 40),
 (Str.ofString "TermFault",.ref 53),
 (Str.ofString "RuleFault",.ref 65),
 (Str.ofString "PaperFault",.ref 93),
 (Str.ofString "len",.builtin "len"),
 (Str.ofString "isinstance",.builtin "isinstance"),
 (Str.ofString "sorted",.builtin "sorted"),
 (Str.ofString "set",.type "set"),
 (Str.ofString "tuple",.type "tuple"),
 (Str.ofString "list",.type "list"),
 (Str.ofString "dict",.type "dict"),
 (Str.ofString "range",.type "range"),
 (Str.ofString "enumerate",.type "enumerate"),
 (Str.ofString "zip",.type "zip"),
 (Str.ofString "reversed",.type "reversed"),
 (Str.ofString "int",.type "int"),
 (Str.ofString "str",.type "str")]
noncomputable def yU4:List (Addr×List (Str×Addr)):=[
 (232,[(Str.ofString "__init__",202),(Str.ofString "told_sides",209),(Str.ofString "rule_sides",214),(Str.ofString "sides_of",219),(Str.ofString "sides",224),(Str.ofString "count",229)]),
 (305,[(Str.ofString "__init__",269),(Str.ofString "of_paper",274),(Str.ofString "sides",281),(Str.ofString "stepped",288),(Str.ofString "walk",295),(Str.ofString "paper_of",302)]),
 (331,[(Str.ofString "__init__",321),(Str.ofString "turned",328)])]
noncomputable def xP1 (c:Addr):List (Str×Addr):=(yU4.lookup c).getD []
noncomputable def yj8:List (Addr×List Str):=[
 (232,[Str.ofString "rules",Str.ofString "told"]),
 (305,[Str.ofString "judge"]),
 (331,[Str.ofString "name",Str.ofString "left",Str.ofString "right",Str.ofString "needs"])]
noncomputable def xX6 (c:Addr):List Str:=(yj8.lookup c).getD []
noncomputable def G:PG where
 glob:=fun x=>yC9.lookup x
 fn:=fns
 meth:=fun c m=>(xP1 c).lookup m
 borrows:=fun a=>a == 361 || a == 368
 field:=fun c x=>(xX6 c).contains x
end Mine
namespace Mine
open PySem PySem.W PyProof.Rows PySem.Calls
theorem xe2 {G:Prop} (k:∀ P:Prop,(G→P)→P):G:=k G id
theorem nS {α:Type} {a:α} {P:Prop} (h:none=some a):P:=nomatch h
theorem ib {call:zB3} {α β:Type} {p:Prc α} {f:α→Prc β} {z:β} (h:zA1 call (p.bind f)=some z):∃ x,zA1 call p=some x∧zA1 call (f x)=some z :=
 Option.bind_eq_some_iff.mp ((zQ2 ..).symm.trans h)
theorem io {call:zB3} {α:Type} {o:Option α} {z:α} (h:zA1 call (zB5 o)=some z):o=some z:=by
 cases o with
 | none=>exact h
 | some a=>exact h
theorem iN {call:zB3} {α:Type} {b:Bool} {p:Prc α} {z:α} (h:zA1 call (.need b p)=some z):b=true∧zA1 call p=some z:=by
 cases b with
 | true=>exact ⟨rfl,h⟩
 | false=>exact nS h
theorem iI {call:zB3} {α:Type} {c:Prop} [Decidable c] {p q:Prc α} {z:α} (h:zA1 call (if c then p else q)=some z):(c∧zA1 call p=some z)∨(¬ c∧zA1 call q=some z):=by
 by_cases hc:c
 ·rw[if_pos hc] at h;exact .inl ⟨hc,h⟩
 ·rw[if_neg hc] at h;exact .inr ⟨hc,h⟩
theorem iT {call:zB3} {α:Type} {c:Prop} [Decidable c] {p:Prc α} {z:α} (h:zA1 call (if c then p else .fail)=some z):c∧zA1 call p=some z:=(iI h).elim id fun h=>nS h.2
theorem ibk {call:zB3} {α β:Type} {p:Prc α} {f:α→Prc β} {z:β} {P:Prop} (h:zA1 call (p.bind f)=some z) (k:∀ x,zA1 call p=some x→zA1 call (f x)=some z→P):P :=
 (ib h).elim fun x h=>k x h.1 h.2
theorem ibp {call:zB3} {α α' β:Type} {p:Prc (α×α')} {f:α×α'→Prc β} {z:β} {P:Prop} (h:zA1 call (p.bind f)=some z) (k:∀ x y,zA1 call p=some (x,y)→zA1 call (f (x,y))=some z→P):P :=
 (ib h).elim fun x h=>k x.1 x.2 h.1 h.2
theorem iNk {call:zB3} {α:Type} {b:Bool} {p:Prc α} {z:α} {P:Prop} (h:zA1 call (.need b p)=some z) (k:b=true→zA1 call p=some z→P):P:=k (iN h).1 (iN h).2
theorem iTk {call:zB3} {α:Type} {c:Prop} [Decidable c] {p:Prc α} {z:α} {P:Prop} (h:zA1 call (if c then p else .fail)=some z) (k:c→zA1 call p=some z→P):P:=k (iT h).1 (iT h).2
theorem iIk {call:zB3} {α:Type} {c:Prop} [Decidable c] {p q:Prc α} {z:α} {P:Prop} (h:zA1 call (if c then p else q)=some z) (k:c→zA1 call p=some z→P) (k':¬ c→zA1 call q=some z→P):P :=
 (iI h).elim (fun h=>k h.1 h.2) fun h=>k' h.1 h.2
theorem obk {α β:Type} {o:Option α} {f:α→Option β} {z:β} {P:Prop} (h:o.bind f=some z) (k:∀ x,o=some x→f x=some z→P):P:=(Option.bind_eq_some_iff.mp h).elim fun x h=>k x h.1 h.2
theorem omk {α β:Type} {o:Option α} {f:α→β} {z:β} {P:Prop} (h:o.map f=some z) (k:∀ x,o=some x→f x=z→P):P:=(Option.map_eq_some_iff.mp h).elim fun x h=>k x h.1 h.2
theorem iD {call:zB3} {α:Type} {o:Option D} {p:D→Prc α} {z:α} (h:zA1 call (.getD o p)=some z):∃ d,o=some d∧zA1 call (p d)=some z:=Option.bind_eq_some_iff.mp h
theorem iB {call:zB3} {α:Type} {o:Option Bool} {p:Bool→Prc α} {z:α} (h:zA1 call (.getB o p)=some z):∃ d,o=some d∧zA1 call (p d)=some z:=Option.bind_eq_some_iff.mp h
theorem iC {call:zB3} {α:Type} {f:Addr} {as:List Ent} {p:Ret→Prc α} {z:α} (h:zA1 call (.call f as p)=some z):∃ d,call f as=some d∧zA1 call (p d)=some z:=Option.bind_eq_some_iff.mp h
noncomputable abbrev PH:=Addr→Option Obj
noncomputable def zp1 (H:PH):Prop:=∃ a o,H a=some o∧sysModules≤a
noncomputable abbrev Tk:=Nat×Drawn
noncomputable def PLe (H H':PH):Prop:=∀ a o,H a=some o→H' a=some o
noncomputable def Sub (H:PH) (h:Heap):Prop:=∀ a o,H a=some o→h.get? a=some o
theorem PLe.refl (H:PH):PLe H H:=fun uu uu e=>e
theorem PLe.trans {H H' H'':PH} (x:PLe H H') (y:PLe H' H''):PLe H H'':=fun a o e=>y a o (x a o e)
noncomputable def xB6 (prog:Program) (w:World) (is:List Int):Int:=(tupleKind (intKind prog w)).hash is
noncomputable def z45 (kvs:List (D×D)):Prop:=(kvs.filterMap fun p=>zD1 p.1).Nodup∧(kvs.filterMap fun p=>zN4 p.1).Nodup
section
variable (prog:Program) (w:World)
mutual
inductive Rep (H:PH):Value→D→Prop
 | none:Rep H .none .none
 | bool (b):Rep H (.bool b) (.bool b)
 | int (i t):Rep H (.int i t) (.int i)
 | str (x t):Rep H (.str x t) (.str x)
 | val (v):Rep H v (.val v)
 | tup {a o vs n ds}:H a=some o→o.cls=.type "tuple"→o.data=.seq vs n→RepL H vs.toList ds→(o.dict=none∨zB8 ds=none)→Rep H (.ref a) (.tup ds)
 | list {a vs n ds}:H a=some { cls:=.type "list",data:=.seq vs n }→RepL H vs.toList ds→Rep H (.ref a) (.list ds)
 | dict {a es n kvs}:H a=some { cls:=.type "dict",data:=.dict es n }→RepE H es.toList kvs→z45 kvs→(a == sysModules)=false→Rep H (.ref a) (.dict kvs)
 | obj {a dx es n c fs}:H a=some (instObj c dx)→H dx=some (dictOf es n)→RepF H es fs→Rep H (.ref a) (.obj c fs)
inductive RepL (H:PH):List Value→List D→Prop
 | nil:RepL H [] []
 | cons {v vs d ds}:Rep H v d→RepL H vs ds→RepL H (v::vs) (d::ds)
inductive RepE (H:PH):List DictEntry→List (D×D)→Prop
 | nil:RepE H [] []
 | str {x t v d es kvs}:Rep H v d→RepE H es kvs→RepE H (⟨hashStr w x,.str x t,v⟩::es) ((.str x,d)::kvs)
 | tup {is a v d es kvs}:Rep H (.ref a) (.tup (is.map .int))→Rep H v d→RepE H es kvs→RepE H (⟨xB6 prog w is,.ref a,v⟩::es) ((.tup (is.map .int),d)::kvs)
inductive RepF (H:PH):List DictEntry→List (Str×D)→Prop
 | nil:RepF H [] []
 | cons {hh x t v d es fs}:Rep H v d→RepF H es fs→RepF H (⟨hh,.str x t,v⟩::es) ((x,d)::fs)
end
end
section
variable {prog:Program} {w:World} {H H':PH}
theorem RepL.ind {P:List Value→List D→Prop} (hn:P [] []) (hc:∀ {v vs d ds},Rep prog w H v d→RepL prog w H vs ds→P vs ds→P (v::vs) (d::ds)) {vs:List Value} {ds:List D} (r:RepL prog w H vs ds):P vs ds :=
 r.rec (motive_1:=fun uu uu uu=>True) (motive_2:=fun vs ds uu=>P vs ds) (motive_3:=fun uu uu uu=>True) (motive_4:=fun uu uu uu=>True) ⟨⟩ (fun uu=>⟨⟩) (fun uu uu=>⟨⟩) (fun uu uu=>⟨⟩) (fun uu=>⟨⟩)
  (fun uu uu uu uu uu uu=>⟨⟩) (fun uu uu uu=>⟨⟩) (fun uu uu uu uu uu=>⟨⟩) (fun uu uu uu uu=>⟨⟩) hn (fun a b uu c=>hc a b c) ⟨⟩ (fun uu uu uu uu=>⟨⟩) (fun uu uu uu uu uu uu=>⟨⟩) ⟨⟩ fun uu uu uu uu=>⟨⟩
theorem Rep.mono (hk:PLe H H') {v:Value} {d:D} (r:Rep prog w H v d):Rep prog w H' v d :=
 r.rec (motive_1:=fun v d uu=>Rep prog w H' v d) (motive_2:=fun v d uu=>RepL prog w H' v d) (motive_3:=fun v d uu=>RepE prog w H' v d) (motive_4:=fun v d uu=>RepF prog w H' v d) .none .bool .int .str .val
  (fun h1 h2 h3 uu h5 a=>.tup (hk _ _ h1) h2 h3 a h5) (fun h1 uu a=>.list (hk _ _ h1) a) (fun h1 uu h3 h4 a=>.dict (hk _ _ h1) a h3 h4) (fun h1 h2 uu a=>.obj (hk _ _ h1) (hk _ _ h2) a)
  .nil (fun uu uu a b=>.cons a b) .nil (fun uu uu a b=>.str a b) (fun uu uu uu a b c=>.tup a b c) .nil fun uu uu a b=>.cons a b
theorem RepL.mono (hk:PLe H H') {vs:List Value} {ds:List D} (r:RepL prog w H vs ds):RepL prog w H' vs ds:=r.ind (P:=RepL prog w H') .nil fun a uu b=>.cons (a.mono hk) b
theorem RepE.ind {P:List DictEntry→List (D×D)→Prop} (hn:P [] []) (hs:∀ {x t v d es kvs},Rep prog w H v d→RepE prog w H es kvs→P es kvs→P (⟨hashStr w x,.str x t,v⟩::es) ((.str x,d)::kvs))
  (ht:∀ {is a v d es kvs},Rep prog w H (.ref a) (.tup (is.map .int))→Rep prog w H v d→RepE prog w H es kvs→P es kvs→P (⟨xB6 prog w is,.ref a,v⟩::es) ((.tup (is.map .int),d)::kvs)) {vs:List DictEntry} {ds:List (D×D)} (r:RepE prog w H vs ds):P vs ds :=
 r.rec (motive_1:=fun uu uu uu=>True) (motive_3:=fun vs ds uu=>P vs ds) (motive_2:=fun uu uu uu=>True) (motive_4:=fun uu uu uu=>True) ⟨⟩ (fun uu=>⟨⟩) (fun uu uu=>⟨⟩) (fun uu uu=>⟨⟩) (fun uu=>⟨⟩)
  (fun uu uu uu uu uu uu=>⟨⟩) (fun uu uu uu=>⟨⟩) (fun uu uu uu uu uu=>⟨⟩) (fun uu uu uu uu=>⟨⟩) ⟨⟩ (fun uu uu uu uu=>⟨⟩) hn (fun a b uu c=>hs a b c) (fun a b c uu uu d=>ht a b c d) ⟨⟩ fun uu uu uu uu=>⟨⟩
theorem RepF.ind {P:List DictEntry→List (Str×D)→Prop} (hn:P [] []) (hc:∀ {hh x t v d es fs},Rep prog w H v d→RepF prog w H es fs→P es fs→P (⟨hh,.str x t,v⟩::es) ((x,d)::fs)) {vs:List DictEntry} {ds:List (Str×D)} (r:RepF prog w H vs ds):P vs ds :=
 r.rec (motive_1:=fun uu uu uu=>True) (motive_4:=fun vs ds uu=>P vs ds) (motive_2:=fun uu uu uu=>True) (motive_3:=fun uu uu uu=>True) ⟨⟩ (fun uu=>⟨⟩) (fun uu uu=>⟨⟩) (fun uu uu=>⟨⟩) (fun uu=>⟨⟩)
  (fun uu uu uu uu uu uu=>⟨⟩) (fun uu uu uu=>⟨⟩) (fun uu uu uu uu uu=>⟨⟩) (fun uu uu uu uu=>⟨⟩) ⟨⟩ (fun uu uu uu uu=>⟨⟩) ⟨⟩ (fun uu uu uu uu=>⟨⟩) (fun uu uu uu uu uu uu=>⟨⟩) hn fun a b uu c=>hc a b c
theorem RepE.mono (hk:PLe H H') {es:List DictEntry} {kvs:List (D×D)} (r:RepE prog w H es kvs):RepE prog w H' es kvs:=r.ind (P:=RepE prog w H') .nil (fun a uu b=>.str (a.mono hk) b) fun a b uu c=>.tup (a.mono hk) (b.mono hk) c
theorem RepF.mono (hk:PLe H H') {es:List DictEntry} {fs:List (Str×D)} (r:RepF prog w H es fs):RepF prog w H' es fs:=r.ind (P:=RepF prog w H') .nil fun a uu b=>.cons (a.mono hk) b
theorem RepL.length {vs:List Value} {ds:List D} (r:RepL prog w H vs ds):vs.length=ds.length:=r.ind (P:=fun vs ds=>vs.length=ds.length) rfl fun uu uu a=>congrArg (·+1) a
theorem RepE.length {es:List DictEntry} {kvs:List (D×D)} (r:RepE prog w H es kvs):es.length=kvs.length:=r.ind (P:=fun vs ds=>vs.length=ds.length) rfl (fun uu uu a=>congrArg (·+1) a) fun uu uu uu a=>congrArg (·+1) a
theorem RepL.get {vs:List Value} {ds:List D} (r:RepL prog w H vs ds):∀ {i:Nat} {d:D},ds[i]?=some d→∃ v,vs[i]?=some v∧Rep prog w H v d :=
 r.ind (P:=fun vs ds=>∀ {i:Nat} {d:D},ds[i]?=some d→∃ v,vs[i]?=some v∧Rep prog w H v d) (fun h=>nomatch h) fun a uu b i=>i.rec (fun h=>⟨_,rfl,Option.some.inj h▸a⟩) fun uu uu h=>b h
theorem RepL.getV {vs:List Value} {ds:List D} (r:RepL prog w H vs ds):∀ {i:Nat} {v:Value},vs[i]?=some v→∃ d,ds[i]?=some d∧Rep prog w H v d :=
 r.ind (P:=fun vs ds=>∀ {i:Nat} {v:Value},vs[i]?=some v→∃ d,ds[i]?=some d∧Rep prog w H v d) (fun h=>nomatch h) fun a uu b i=>i.rec (fun h=>⟨_,rfl,Option.some.inj h▸a⟩) fun uu uu h=>b h
theorem RepL.append {vs vs':List Value} {ds ds':List D} (r:RepL prog w H vs ds) (h:RepL prog w H vs' ds'):RepL prog w H (vs++vs') (ds++ds'):=r.ind (P:=fun vs ds=>RepL prog w H (vs++vs') (ds++ds')) h fun a uu b=>.cons a b
theorem RepL.drop {vs:List Value} {ds:List D} (n:Nat) (r:RepL prog w H vs ds):RepL prog w H (vs.drop n) (ds.drop n) :=
 r.ind (P:=fun vs ds=>∀ n,RepL prog w H (vs.drop n) (ds.drop n)) (fun n=>by simp only[List.drop_nil];exact .nil) (fun a b c n=>n.rec (.cons a b) fun n uu=>c n) n
theorem RepL.take {vs:List Value} {ds:List D} (n:Nat) (r:RepL prog w H vs ds):RepL prog w H (vs.take n) (ds.take n) :=
 r.ind (P:=fun vs ds=>∀ n,RepL prog w H (vs.take n) (ds.take n)) (fun n=>by simp only[List.take_nil];exact .nil) (fun a b c n=>n.rec .nil fun n uu=>.cons a (c n)) n
theorem RepL.reverse {vs:List Value} {ds:List D} (r:RepL prog w H vs ds):RepL prog w H vs.reverse ds.reverse:=r.ind (P:=fun vs ds=>RepL prog w H vs.reverse ds.reverse) .nil fun a uu b=>by rw[List.reverse_cons,List.reverse_cons];exact b.append (.cons a .nil)
theorem RepL.set {vs:List Value} {ds:List D} {v:Value} {d:D} (n:Nat) (r:RepL prog w H vs ds) (hv:Rep prog w H v d):RepL prog w H (vs.set n v) (ds.set n d) :=
 r.ind (P:=fun vs ds=>∀ n,RepL prog w H (vs.set n v) (ds.set n d)) (fun uu=>.nil) (fun a b c n=>n.rec (.cons hv b) fun n uu=>.cons a (c n)) n
variable (prog w H) in
noncomputable def yj9 (v:Value):D→Prop
 | .none=>v=.none
 | .bool b=>v=.bool b
 | .int i=>∃ t,v=.int i t
 | .str x=>∃ t,v=.str x t
 | .val u=>v=u
 | .tup ds=>∃ a o vs n,v=.ref a∧H a=some o∧o.cls=.type "tuple"∧o.data=.seq vs n∧RepL prog w H vs.toList ds∧(o.dict=none∨zB8 ds=none)
 | .list ds=>∃ a vs n,v=.ref a∧H a=some { cls:=.type "list",data:=.seq vs n }∧RepL prog w H vs.toList ds
 | .dict kvs=>∃ a es n,v=.ref a∧H a=some { cls:=.type "dict",data:=.dict es n }∧RepE prog w H es.toList kvs∧z45 kvs∧(a == sysModules)=false
 | .obj c fs=>∃ a dx es n,v=.ref a∧H a=some (instObj c dx)∧H dx=some (dictOf es n)∧RepF prog w H es fs
theorem Rep.inv {v:Value} {d:D} (r:Rep prog w H v d):yj9 prog w H v d :=
 r.casesOn (motive_1:=fun v d uu=>yj9 prog w H v d) rfl (fun uu=>rfl) (fun uu t=>⟨t,rfl⟩) (fun uu t=>⟨t,rfl⟩) (fun uu=>rfl) (fun h1 h2 h3 h4 h5=>⟨_,_,_,_,rfl,h1,h2,h3,h4,h5⟩)
  (fun h1 h2=>⟨_,_,_,rfl,h1,h2⟩) (fun h1 h2 h3 h4=>⟨_,_,_,rfl,h1,h2,h3,h4⟩) fun h1 h2 h3=>⟨_,_,_,_,rfl,h1,h2,h3⟩
theorem Rep.onTup {a:Addr} {ds:List D} {P:Prop} (r:Rep prog w H (.ref a) (.tup ds)) (k:∀ o vs n,H a=some o→o.cls=.type "tuple"→o.data=.seq vs n→RepL prog w H vs.toList ds→P):P:=by
 refine xe r.inv fun uu Y0=>?_;refine xe Y0 fun o Y1=>?_;refine xe Y1 fun vs Y2=>?_;refine xe Y2 fun n Y3=>?_;have e:=Y3.1;have h1:=Y3.2.1;have h2:=Y3.2.2.1;have h3:=Y3.2.2.2.1;have h4:=Y3.2.2.2.2.1;try clear Y0 Y1 Y2 Y3
 exact k o vs n (Value.ref.inj e▸h1) h2 h3 h4
theorem Rep.onDict {a:Addr} {ds:List (D×D)} {P:Prop} (r:Rep prog w H (.ref a) (.dict ds)) (k:∀ es n,H a=some { cls:=.type "dict",data:=.dict es n }→RepE prog w H es.toList ds→z45 ds→(a == sysModules)=false→P):P:=by
 refine xe r.inv fun uu Y0=>?_;refine xe Y0 fun es Y1=>?_;refine xe Y1 fun n Y2=>?_;have e:=Y2.1;have h1:=Y2.2.1;have h2:=Y2.2.2.1;have h3:=Y2.2.2.2.1;have h4:=Y2.2.2.2.2;try clear Y0 Y1 Y2
 cases e
 exact k es n h1 h2 h3 h4
theorem Rep.isTuple {h:Heap} {a:Addr} {ds:List D} (hs:Sub H h) (r:Rep prog w H (.ref a) (.tup ds)):∃ vs,h.IsTuple a vs∧RepL prog w H vs.toList ds:=r.onTup fun uu vs uu h1 h2 h3 h4=>⟨vs,⟨_,hs _ _ h1,h2,_,h3⟩,h4⟩
theorem Rep.tup_ref {v:Value} {ds:List D} (r:Rep prog w H v (.tup ds)):∃ a,v=.ref a:=r.inv.imp fun uu h=>h.elim fun uu h=>h.elim fun uu h=>h.elim fun uu h=>h.1
theorem Rep.list_ref {v:Value} {ds:List D} (r:Rep prog w H v (.list ds)):∃ a,v=.ref a:=r.inv.imp fun uu h=>h.elim fun uu h=>h.elim fun uu h=>h.1
theorem Rep.dict_ref {v:Value} {ds:List (D×D)} (r:Rep prog w H v (.dict ds)):∃ a,v=.ref a:=r.inv.imp fun uu h=>h.elim fun uu h=>h.elim fun uu h=>h.1
theorem Rep.plainList {h:Heap} {a:Addr} {ds:List D} (hs:Sub H h) (r:Rep prog w H (.ref a) (.list ds)):∃ vs,h.PlainList a vs∧RepL prog w H vs.toList ds:=by
 refine xe r.inv fun uu Y0=>?_;refine xe Y0 fun vs Y1=>?_;refine xe Y1 fun uu Y2=>?_;have e:=Y2.1;have h1:=Y2.2.1;have h2:=Y2.2.2;try clear Y0 Y1 Y2
 cases e
 exact ⟨vs,⟨_,hs _ _ h1⟩,h2⟩
end
section
variable {prog:Program} {w:World} {H:PH} {h:Heap}
theorem zp2 {v:Value} {vs:List Value} {d:D} {ds:List D} (a:∀ {p:PyData},zG9 d=some p→∃ as,Reads h v p as) (b:∀ {ps:List PyData},zK0 ds=some ps→∃ as,ReadsAll h vs ps as) {ps:List PyData} (e:zK0 (d::ds)=some ps):∃ as,ReadsAll h (v::vs) ps as:=by
 refine xe (Option.bind_eq_some_iff.mp e) fun p1 Y0=>?_;have e1:=Y0.1;have e:=Y0.2;try clear Y0
 refine xe (Option.bind_eq_some_iff.mp e) fun ps Y0=>?_;have e2:=Y0.1;have e:=Y0.2;try clear Y0
 refine xe (a e1) fun as r1=>?_
 refine xe (b e2) fun bs r2=>?_
 exact Option.some.inj e▸⟨_,.cons r1 r2⟩
theorem Rep.reads (hs:Sub H h) {v:Value} {d:D} (r:Rep prog w H v d):∀ {p:PyData},zG9 d=some p→∃ as,Reads h v p as :=
 r.rec (motive_1:=fun v d uu=>∀ {p:PyData},zG9 d=some p→∃ as,Reads h v p as) (motive_2:=fun vs ds uu=>∀ {ps:List PyData},zK0 ds=some ps→∃ as,ReadsAll h vs ps as) (motive_3:=fun uu uu uu=>True) (motive_4:=fun uu uu uu=>True)
  (fun e=>Option.some.inj e▸⟨_,.none⟩) (fun b uu e=>Option.some.inj e▸⟨_,.bool b⟩) (fun i t uu e=>Option.some.inj e▸⟨_,.int i t⟩) (fun x t uu e=>by
   simp only[zG9,Option.ite_none_right_eq_some] at e
   exact Option.some.inj e.2▸⟨_,.str x t⟩) (fun uu uu e=>nomatch e)
  (fun h1 h2 h3 uu uu a uu e=>by
   refine xe (Option.map_eq_some_iff.mp e) fun ps Y0=>?_;have e1:=Y0.1;have e:=Y0.2;try clear Y0
   refine xe (a e1) fun as r=>?_
   exact e▸⟨_,.tuple (hs _ _ h1) h2 h3 r⟩)
  (fun h1 uu a uu e=>by
   refine xe (Option.map_eq_some_iff.mp e) fun ps Y0=>?_;have e1:=Y0.1;have e:=Y0.2;try clear Y0
   refine xe (a e1) fun as r=>?_
   exact e▸⟨_,.list (hs _ _ h1) rfl rfl r⟩)
  (fun uu uu uu uu uu uu e=>nomatch e) (fun uu uu uu uu uu e=>nomatch e) (fun e=>Option.some.inj e▸⟨_,.nil⟩) (fun uu uu a b uu e=>zp2 a b e) ⟨⟩ (fun uu uu uu uu=>⟨⟩) (fun uu uu uu uu uu uu=>⟨⟩) ⟨⟩ fun uu uu uu uu=>⟨⟩
theorem RepL.reads (hs:Sub H h) {vs:List Value} {ds:List D} (r:RepL prog w H vs ds):∀ {ps:List PyData},zK0 ds=some ps→∃ as,ReadsAll h vs ps as :=
 r.ind (P:=fun vs ds=>∀ {ps:List PyData},zK0 ds=some ps→∃ as,ReadsAll h vs ps as) (fun e=>Option.some.inj e▸⟨_,.nil⟩) fun a uu b uu e=>zp2 (a.reads hs) b e
mutual
theorem zH5:∀ (d:D) (p:PyData),zG9 d=some p→p.canLay0=true
 | .none,p,e=>Option.some.inj e▸rfl
 | .bool b,p,e=>Option.some.inj e▸rfl
 | .int b,p,e=>Option.some.inj e▸rfl
 | .str b,p,e=>by
  simp only[zG9,Option.ite_none_right_eq_some] at e
  exact Option.some.inj e.2▸e.1
 | .tup ds,p,e=>by
  refine xe (Option.map_eq_some_iff.mp e) fun ps Y0=>?_;have e1:=Y0.1;have e:=Y0.2;try clear Y0
  exact e▸zU3 ds ps e1
 | .list ds,p,e=>by
  refine xe (Option.map_eq_some_iff.mp e) fun ps Y0=>?_;have e1:=Y0.1;have e:=Y0.2;try clear Y0
  exact e▸zU3 ds ps e1
 | .val _,p,e=>nomatch e
 | .dict _,p,e=>nomatch e
 | .obj _ _,p,e=>nomatch e
theorem zU3:∀ (ds:List D) (ps:List PyData),zK0 ds=some ps→PyData.canLayAll0 ps=true
 | [],p,e=>Option.some.inj e▸rfl
 | d::ds,p,e=>by
  refine xe (Option.bind_eq_some_iff.mp e) fun p1 Y0=>?_;have e1:=Y0.1;have e:=Y0.2;try clear Y0
  refine xe (Option.bind_eq_some_iff.mp e) fun ps Y0=>?_;have e2:=Y0.1;have e:=Y0.2;try clear Y0
  exact Option.some.inj e▸Bool.and_eq_true_iff.mpr ⟨zH5 d p1 e1,zU3 ds ps e2⟩
end
end
noncomputable abbrev zB1:=Str→Option Addr
noncomputable def zB1.upd (O:zB1) (x:Str) (a:Option Addr):zB1:=fun y=>if y=x then a else O y
section
variable (prog:Program) (w:World)
noncomputable def zE1 (H:PH) (h:Heap) (a:Addr) (ds:List D):Prop:=∃ vs,h.PlainList a vs∧RepL prog w H vs.toList ds
noncomputable def DictAt (H:PH) (h:Heap) (a:Addr) (kvs:List (D×D)):Prop :=
 ∃ es n,h.get? a=some { cls:=.type "dict",data:=.dict es n }∧RepE prog w H es.toList kvs∧z45 kvs∧(a == sysModules)=false
noncomputable def xB7 (H:PH) (h:Heap) (v:Value) (dx:Addr) (c:Addr) (fs:List (Str×D)):Prop :=
 ∃ a es n,v=.ref a∧H a=some (instObj c dx)∧h.get? dx=some (dictOf es n)∧RepF prog w H es fs
noncomputable def zQ4 (H:PH) (h:Heap) (O:zB1) (x:Str) (v:Value):Ent→Prop
 | .val d=>Rep prog w H v d
 | .ownL ds=>∃ a,v=.ref a∧O x=some a∧zE1 prog w H h a ds
 | .bor ds=>∃ a,v=.ref a∧O x=some a∧zE1 prog w H h a ds
 | .ownD es=>∃ a,v=.ref a∧O x=some a∧DictAt prog w H h a es
 | .newO c fs=>∃ dx,O x=some dx∧xB7 prog w H h v dx c fs
noncomputable def zB6 (env:Env) (h:Heap) (x:Str) (v:Value):Prop :=
 match env.kindOf x with
 | some .local=>∃ m,h.Ns env.locals m∧m x=some v
 | some .cell=>∃ c,env.cells.lookup x=some c∧h.IsCell c (some v)
 | some .free=>∃ c,env.cells.lookup x=some c∧h.IsCell c (some v)
 | _=>False
noncomputable def seen (env:Env) (x:Str):Prop:=env.kindOf x=some .local∨env.kindOf x=some .cell∨env.kindOf x=some .free
structure St (H:PH) (env:Env) (ρ:Rho) (O:zB1) (h:Heap):Prop where
 sub:Sub H h
 ns:∃ m,h.Ns env.locals m
 names:∀ x e,seen env x→ρ.lookup x=some e→∃ v,zB6 env h x v∧zQ4 prog w H h O x v e
 frL:H env.locals=none
 cells:∀ x c,env.cells.lookup x=some c→H c=none∧c≠env.locals∧∃ v,h.IsCell c v
 apC:∀ x y c,env.cells.lookup x=some c→env.cells.lookup y=some c→x=y
 hasC:∀ x,env.kindOf x=some .cell∨env.kindOf x=some .free→(env.cells.lookup x).isSome=true
 owns:∀ x a,O x=some a→H a=none∧a≠env.locals∧(∀ y,env.cells.lookup y≠some a)∧h.get? a≠none
 apO:∀ x y a,O x=some a→O y=some a→x=y
structure Go (T:Addr→Prop) (H:PH) (O:zB1) (h:Heap) (H':PH) (O':zB1) (h':Heap):Prop where
 ext:PLe H H'
 new:∀ a,H a=none→H' a≠none→h.get? a=none∨∃ x,O x=some a
 keep:∀ b o,h.get? b=some o→¬ T b→h'.get? b=some o
 live:∀ b,h.get? b≠none→h'.get? b≠none
 own:∀ x a,O' x=some a→(∃ y,O y=some a)∨h.get? a=none
end
noncomputable def TO (O:zB1):Addr→Prop:=fun b=>∃ x,O x=some b
noncomputable def TN:Addr→Prop:=fun uu=>False
noncomputable def TS (env:Env) (O:zB1):Addr→Prop:=fun b=>b=env.locals∨(∃ x,env.cells.lookup x=some b)∨∃ x,O x=some b
section
variable {T T':Addr→Prop} {H H' H'':PH} {O O' O'':zB1} {h h' h'':Heap}
theorem Go.refl:Go T H O h H O h:=⟨PLe.refl H,fun a e e'=>absurd e e',fun uu uu e uu=>e,fun uu e=>e,fun x a e=>.inl ⟨x,e⟩⟩
theorem Go.trans (x:Go T H O h H' O' h') (y:Go T' H' O' h' H'' O'' h'') (hT:∀ b,T' b→h.get? b≠none→T b):Go T H O h H'' O'' h'' where
 ext:=x.ext.trans y.ext
 new:=fun a e e''=>by
  cases e':H' a with
  | some o=>exact x.new a e (by rw[e'];exact fun z=>nomatch z)
  | none =>
   rcases y.new a e' e'' with q | ⟨n,q⟩
   ·exact .inl (Classical.byContradiction fun z=>x.live a z q)
   ·rcases x.own n a q with q | q
    ·exact .inr q
    ·exact .inl q
 keep:=fun b o e hb=>y.keep b o (x.keep b o e hb) fun t=>hb (hT b t (by rw[e];exact fun z=>nomatch z))
 live:=fun b e=>y.live b (x.live b e)
 own:=fun n a e=>by
  rcases y.own n a e with ⟨m,q⟩ | q
  ·exact x.own m a q
  ·exact .inr (Classical.byContradiction fun z=>x.live a z q)
theorem Go.weaken (x:Go T H O h H' O' h') (hT:∀ b,T b→T' b):Go T' H O h H' O' h':=⟨x.ext,x.new,fun b o e hb=>x.keep b o e fun t=>hb (hT b t),x.live,x.own⟩
end
end Mine
namespace Mine
open PySem PySem.W PyProof.Rows PySem.Calls
structure Room (A:Around) (k:Nat):Prop where
 hh:A.handled=none
 depth:A.depth+2 * k < 900
 units:A.units+20 * k+600 < cLine
theorem Room.in1 {A:Around} {k:Nat} (r:Room A (k+1)):Room A.in1 k:=⟨r.hh,by have:=r.depth;simp only[Around.in1_depth];lia,by have:=r.units;simp only[Around.in1_units];lia⟩
noncomputable def z46 (prog:Program) (w:World) (H:PH) (f:Option Value):Option D→Prop
 | none=>f=none
 | some d=>∃ v,f=some v∧Rep prog w H v d
section
variable {prog:Program} {w:World} {A:Around} {E:Value→Shared→Prop} {s:Shared} {H:PH} {k:Nat} {a b:Value} {da db:D} {Q:Value→Shared→Prop} {r:Bool}
set_option tactic.hygienic true in
theorem zS6 (h:deq da db=some r):∃ p q,zG9 da=some p∧zG9 db=some q∧min p.depth q.depth≤400∧PyData.eqv p q=r:=by
 simp only[deq,Option.bind_eq_some_iff] at h
 obtain ⟨p,hp,q,hq,h⟩:=h
 split at h
 ·rename_i hd;cases h;exact ⟨p,q,hp,hq,hd,rfl⟩
 ·cases h
theorem yy6 (hs:Sub H s.heap) (ra:Rep prog w H a da) (rb:Rep prog w H b db) (hu:A.units+401 < cLine) (h:deq da db=some r):SeqAt.EqAt A s a b r:=by
 refine xe (zS6 h) fun p Y0=>?_;refine xe Y0 fun q Y1=>?_;have hp:=Y1.1;have hq:=Y1.2.1;have hd:=Y1.2.2.1;obtain rfl:=Y1.2.2.2;try clear Y0 Y1
 refine xe (ra.reads hs hp) fun as r1=>?_
 refine xe (rb.reads hs hq) fun bs r2=>?_
 exact SeqAt.eqAt_reads p q A s a b as bs r1 r2 (zH5 _ _ hp) (zH5 _ _ hq) (by lia)
theorem xX7 (hs:Sub H s.heap) (ra:Rep prog w H a da) (rb:Rep prog w H b db) (hu:A.units+401 < cLine) (h:deq da db=some r) (hq:Q (.bool r) s) :
  wpAny (model prog w) A (compareOp .Eq a b) Q E s:=by
 refine xe (zS6 h) fun p Y0=>?_;refine xe Y0 fun q Y1=>?_;have hp:=Y1.1;have hq':=Y1.2.1;have hd:=Y1.2.2.1;obtain rfl:=Y1.2.2.2;try clear Y0 Y1
 refine xe (ra.reads hs hp) fun as r1=>?_
 refine xe (rb.reads hs hq') fun bs r2=>?_
 exact SeqAt.compareEq_reads r1 r2 (zH5 _ _ hp) (zH5 _ _ hq') (by lia) hq
theorem xX8 (hs:Sub H s.heap) (ra:Rep prog w H a da) (rb:Rep prog w H b db) (hu:A.units+401 < cLine) (h:deq da db=some r) (hq:Q (.bool (!r)) s) :
  wpAny (model prog w) A (compareOp .NotEq a b) Q E s:=by
 refine xe (zS6 h) fun p Y0=>?_;refine xe Y0 fun q Y1=>?_;have hp:=Y1.1;have hq':=Y1.2.1;have hd:=Y1.2.2.1;obtain rfl:=Y1.2.2.2;try clear Y0 Y1
 refine xe (ra.reads hs hp) fun as r1=>?_
 refine xe (rb.reads hs hq') fun bs r2=>?_
 exact SeqAt.compareNe_reads r1 r2 (zH5 _ _ hp) (zH5 _ _ hq') (by lia) hq
theorem zX8 {d:D} {x:Str} (h:zD1 d=some x):d=.str x:=by
 cases d with
 | str y=>exact congrArg D.str (Option.some.inj h)
 | _=>exact nS h
theorem zG4 {d:D} {x:Int} (h:zU1 d=some x):d=.int x:=by
 cases d with
 | int y=>exact congrArg D.int (Option.some.inj h)
 | _=>exact nS h
theorem yZ6 {d:D} {r:Bool} (h:xN6 d=some r):∃ xs,d=.tup xs∧r=xs.isEmpty:=by
 cases d with
 | tup xs=>exact ⟨xs,rfl,(Option.some.inj h).symm⟩
 | _=>exact nS h
theorem yL6 {d:D} {r:Bool} (h:xA6 d=some r):∃ xs,d=.list xs∧r=xs.isEmpty:=by
 cases d with
 | list xs=>exact ⟨xs,rfl,(Option.some.inj h).symm⟩
 | _=>exact nS h
theorem zf6 {d:D} (h:zm9 d=true):d=.none:=by
 cases d with
 | none=>rfl
 | _=>exact Bool.noConfusion h
theorem xE4 {xs:List D} (hs:Sub H s.heap) (ra:Rep prog w H a (.tup xs)) (rb:Rep prog w H b (.tup [])) (hu:A.units < cLine):SeqAt.RcAt A s a b xs.isEmpty∧SeqAt.RcNeAt A s a b (!xs.isEmpty):=by
 refine xe ra.tup_ref fun x Y0=>?_;obtain rfl:=Y0;try clear Y0
 refine xe rb.tup_ref fun y Y0=>?_;obtain rfl:=Y0;try clear Y0
 refine xe (ra.isTuple hs) fun vs Y0=>?_;have h1:=Y0.1;have h2:=Y0.2;try clear Y0
 refine xe (rb.isTuple hs) fun us Y0=>?_;have h3:=Y0.1;have h4:=Y0.2;try clear Y0
 have e2:us.size=0:=h4.length
 have hz:((List.range (min vs.size us.size)).all (fun uu=>true)&&vs.size == us.size)=xs.isEmpty:=by
  rw[show vs.size=xs.length from h2.length,e2,Nat.min_zero]
  cases xs<;>rfl
 have ee:=fun j (_:j < vs.size) (q2:j < us.size)=>(absurd (e2▸q2) (Nat.not_lt_zero j):SeqAt.EqAt A.in1 s vs[j] us[j] true)
 exact ⟨hz▸SeqAt.RcAt.tuples (e:=fun uu=>true) h1 h3 hu ee,hz▸SeqAt.RcNeAt.tuples (e:=fun uu=>true) h1 h3 hu ee⟩
theorem yy7 {xs:List D} (hs:Sub H s.heap) (ra:Rep prog w H a (.list xs)) (rb:Rep prog w H b (.list [])) (hu:A.units < cLine):SeqAt.RcAt A s a b xs.isEmpty∧SeqAt.RcNeAt A s a b (!xs.isEmpty):=by
 refine xe ra.list_ref fun x Y0=>?_;obtain rfl:=Y0;try clear Y0
 refine xe rb.list_ref fun y Y0=>?_;obtain rfl:=Y0;try clear Y0
 refine xe (ra.plainList hs) fun vs Y0=>?_;have h1:=Y0.1;have h2:=Y0.2;try clear Y0
 refine xe (rb.plainList hs) fun us Y0=>?_;have h3:=Y0.1;have h4:=Y0.2;try clear Y0
 have e1:vs.size=xs.length:=h2.length
 have e2:us.size=0:=h4.length
 cases xs with
 | nil =>
  have ee:=fun j (_:j < vs.size) (q2:j < us.size)=>(absurd (e2▸q2) (Nat.not_lt_zero j):SeqAt.EqAt A.in1 s vs[j] us[j] true)
  have hz:(List.range vs.size).all (fun uu=>true)=true:=by rw[e1];rfl
  have p:=SeqAt.RcAt.lists (e:=fun uu=>true) h1.isList h3.isList (e1.trans e2.symm) hu ee
  have q:=SeqAt.RcNeAt.lists (e:=fun uu=>true) h1.isList h3.isList (e1.trans e2.symm) hu ee
  rw[hz] at p q
  exact ⟨p,q⟩
 | cons =>
  have z:(vs.size != us.size)=true:=by rw[e1,e2];rfl
  exact ⟨SeqAt.RcAt.lists_lengths h1.isList h3.isList z hu,SeqAt.RcNeAt.lists_lengths h1.isList h3.isList z hu⟩
theorem yy8 (hs:Sub H s.heap) (ra:Rep prog w H a da) (rb:Rep prog w H b db) (hu:A.units < cLine) (h:yU0 da db=some r) :
  SeqAt.RcAt A s a b r∧SeqAt.RcNeAt A s a b (!r):=by
 cases db with
 | str y =>
  refine xe (Option.map_eq_some_iff.mp h) fun x Y0=>?_;have e:=Y0.1;obtain rfl:=Y0.2;try clear Y0
  cases zX8 e
  refine xe ra.inv fun uu Y0=>?_;obtain rfl:=Y0;try clear Y0
  refine xe rb.inv fun uu Y0=>?_;obtain rfl:=Y0;try clear Y0
  exact ⟨SeqAt.RcAt.str_str _ _ _ _,SeqAt.RcNeAt.str_str _ _ _ _⟩
 | int y =>
  refine xe (Option.map_eq_some_iff.mp h) fun x Y0=>?_;have e:=Y0.1;obtain rfl:=Y0.2;try clear Y0
  cases zG4 e
  refine xe ra.inv fun uu Y0=>?_;obtain rfl:=Y0;try clear Y0
  refine xe rb.inv fun uu Y0=>?_;obtain rfl:=Y0;try clear Y0
  exact ⟨SeqAt.RcAt.int_int _ _ _ _,SeqAt.RcNeAt.int_int _ _ _ _⟩
 | tup ys =>
  have Y0:=Option.ite_none_right_eq_some.mp h;have c:=Y0.1;have h:=Y0.2;try clear Y0
  cases List.isEmpty_iff.mp c
  refine xe (yZ6 h) fun xs Y0=>?_;obtain rfl:=Y0.1;obtain rfl:=Y0.2;try clear Y0
  exact xE4 hs ra rb hu
 | list ys =>
  have Y0:=Option.ite_none_right_eq_some.mp h;have c:=Y0.1;have h:=Y0.2;try clear Y0
  cases List.isEmpty_iff.mp c
  refine xe (yL6 h) fun xs Y0=>?_;obtain rfl:=Y0.1;obtain rfl:=Y0.2;try clear Y0
  exact yy7 hs ra rb hu
 | _=>exact nS h
open Classical in
theorem xB8 (hs:Sub H s.heap) {vs:Array Value} {ds:List D} (rl:RepL prog w H vs.toList ds) (rb:Rep prog w H b db) (hu:A.units+402 < cLine) (h:zO0 db ds=some r) :
  ∃ e:Value→Bool,(∀ y,y∈vs→SeqAt.EqAt A.in1 s y b (e y))∧vs.any e=r:=by
 have key:∀ (vl:List Value) (ds:List D),RepL prog w H vl ds→∀ r,zO0 db ds=some r →
   (∀ y∈vl,∃ d c,Rep prog w H y d∧deq d db=some c)∧∀ e:Value→Bool,(∀ y∈vl,∀ d c,Rep prog w H y d→deq d db=some c→e y=c)→vl.any e=r:=by
  intro vl ds rl
  induction ds generalizing vl with
  | nil=>cases rl;intro r h;simp[zO0] at h;subst h;exact ⟨by simp,by simp⟩
  | cons d ds ih =>
   cases rl with
   | @cons v vs _ _ h1 h2 =>
    intro r h
    simp only[zO0,Option.bind_eq_some_iff] at h
    obtain ⟨c,hc,c',hc',h⟩:=h
    cases h
    obtain ⟨p1,p2⟩:=ih vs h2 c' hc'
    refine ⟨fun y hy=>?_,fun e he=>?_⟩
    ·rcases List.mem_cons.mp hy with rfl | hy
     ·exact ⟨d,c,h1,hc⟩
     ·exact p1 y hy
    ·rw[List.any_cons,he v (List.mem_cons_self ..) d c h1 hc,p2 e fun y hy=>he y (List.mem_cons_of_mem _ hy)]
 obtain ⟨p1,p2⟩:=key vs.toList ds rl r h
 have uniq:∀ y d c d' c',Rep prog w H y d→deq d db=some c→Rep prog w H y d'→deq d' db=some c'→c=c':=by
  intro y d c d' c' r1 e1 r2 e2
  obtain ⟨p,q,hp,hq,_,rfl⟩:=zS6 e1
  obtain ⟨p',q',hp',hq',_,rfl⟩:=zS6 e2
  obtain ⟨as,x1⟩:=r1.reads hs hp
  obtain ⟨bs,x2⟩:=r2.reads hs hp'
  rw[hq] at hq';cases hq'
  rw[(x1.unique _ _ x2).1]
 refine ⟨fun y=>if h:∃ d c,Rep prog w H y d∧deq d db=some c then h.choose_spec.choose else false,fun y hy=>?_,?_⟩
 ·have hy':=p1 y (by simpa using hy)
  show SeqAt.EqAt A.in1 s y b (if h:∃ d c,Rep prog w H y d∧deq d db=some c then h.choose_spec.choose else false)
  rw[dif_pos hy']
  have sp:=hy'.choose_spec.choose_spec
  exact yy6 hs sp.1 rb (by simp only[Around.in1_units];lia) sp.2
 ·rw[← Array.any_toList]
  refine p2 _ fun y hy d c h1 h2=>?_
  have hy':∃ d c,Rep prog w H y d∧deq d db=some c:=⟨d,c,h1,h2⟩
  show (if h:∃ d c,Rep prog w H y d∧deq d db=some c then h.choose_spec.choose else false)=c
  rw[dif_pos hy']
  have sp:=hy'.choose_spec.choose_spec
  exact uniq _ _ _ _ _ sp.1 sp.2 h1 h2
theorem yL7 {x y:Str} {t:Tok}:(PySem.strKind prog w).is x (.str y t)=decide (y=x):=show (y == x)=_ from rfl
theorem yD0 {is:Str→Value→Bool} {e:DictEntry} {es:List DictEntry} {x:Str}:findBy is (e::es).toArray x=if is x e.key then some e.val else findBy is es.toArray x:=by
 simp only[findBy,List.find?_toArray,List.find?_cons]
 cases is x e.key<;>rfl
theorem yD1 {es:List DictEntry} {kvs:List (D×D)} (r:RepE prog w H es kvs) {x:Str}:∀ {o:Option D},zE0 kvs x=some o →
  (∀ e∈es,∃ y,(PySem.strKind prog w).is y e.key=true∧e.hash=(PySem.strKind prog w).hash y)∧z46 prog w H (findBy (PySem.strKind prog w).is es.toArray x) o:=by
 refine r.ind (P:=fun es kvs=>∀ {o:Option D},zE0 kvs x=some o→(∀ e∈es,∃ y,(PySem.strKind prog w).is y e.key=true∧e.hash=(PySem.strKind prog w).hash y)∧z46 prog w H (findBy (PySem.strKind prog w).is es.toArray x) o) (fun h=>?_) (fun {y t v d es kvs} hv _ ih o h=>?_) (fun uu uu uu uu uu h=>nS h)
 ·cases h
  exact ⟨fun uu h=>(nomatch h),rfl⟩
 ·refine xe (Option.bind_eq_some_iff.mp (show ((zE0 kvs x).bind fun o=>if y=x then some (some d) else some o)=some o from h)) fun o' Y0=>?_;have ho':=Y0.1;have h:=Y0.2;try clear Y0
  have Y0:=ih ho';have q1:=Y0.1;have q2:=Y0.2;try clear Y0
  refine ⟨List.forall_mem_cons.mpr ⟨⟨y,by rw[yL7];exact decide_eq_true rfl,rfl⟩,q1⟩,?_⟩
  rw[yD0,yL7]
  by_cases hyx:y=x
  ·rw[if_pos (decide_eq_true hyx)]
   rw[if_pos hyx] at h
   exact Option.some.inj h▸⟨v,rfl,hv⟩
  ·rw[decide_eq_false hyx]
   rw[if_neg hyx] at h
   exact Option.some.inj h▸q2
theorem zz7 {h:Heap} {d:Addr} {es:Array DictEntry} {n:Nat} {kvs:List (D×D)} (ho:h.get? d=some { cls:=.type "dict",data:=.dict es n }) (r:RepE prog w H es.toList kvs) {x:Str} {o:Option D} (hl:zE0 kvs x=some o) :
  h.MapOf (PySem.strKind prog w) d (fun k=>findBy (PySem.strKind prog w).is es k) ∧
  z46 prog w H (findBy (PySem.strKind prog w).is es x) o:=by
 have Y0:=yD1 r hl;have q1:=Y0.1;have q2:=Y0.2;try clear Y0
 exact ⟨⟨_,es,n,ho,⟨rfl,rfl,rfl⟩,rfl,fun e he=>q1 e (by simpa using he),fun uu=>rfl⟩,q2⟩
theorem yD2 {x y:Value} {Q':Value→Shared→Prop} (h:wpAny (model prog w) A (compareOp .In x y) (fun v s'=>match v with | .bool c=>Q' (.bool (!c)) s' | _=>False) E s) :
  wpAny (model prog w) A (compareOp .NotIn x y) Q' E s:=by
 have h':wpAny (model prog w) A (contains y x >>= fun c=>pure (Value.bool c)) (fun v s'=>match v with | .bool c=>Q' (.bool (!c)) s' | _=>False) E s:=h
 show wpAny (model prog w) A (contains y x >>= fun c=>pure (Value.bool (!c))) Q' E s
 intro Γ p hΓ
 have:=h' Γ p hΓ
 rw[Sem.wp_bind'] at this ⊢
 exact this
theorem xP2 {r':Bool} (hs:Sub H s.heap) (ra:Rep prog w H a da) (rb:Rep prog w H b db) (hu:A.units+402 < cLine) {call:zB3} (hi:zA1 call (inP da db)=some r') :
  (∀ Q':Value→Shared→Prop,(∀ tk,Q' (.bool r') { s with toks:=tk })→wpAny (model prog w) A (compareOp .In a b) Q' E s) ∧
   (∀ Q':Value→Shared→Prop,(∀ tk,Q' (.bool (!r')) { s with toks:=tk })→wpAny (model prog w) A (compareOp .NotIn a b) Q' E s):=by
 cases db with
 | tup ys =>
  refine xe (iB hi) fun c Y0=>?_;have hc:=Y0.1;have hi:=Y0.2;try clear Y0
  cases hi
  refine xe rb.tup_ref fun y Y0=>?_;obtain rfl:=Y0;try clear Y0
  refine xe (rb.isTuple hs) fun us Y0=>?_;have h3:=Y0.1;have h4:=Y0.2;try clear Y0
  refine xe (xB8 hs h4 ra hu hc) fun e Y0=>?_;have he:=Y0.1;obtain rfl:=Y0.2;try clear Y0
  exact ⟨fun Q' hq=>SeqAt.in_tupleAt e h3 he (hq s.toks),fun Q' hq=>SeqAt.notIn_tupleAt e h3 he (hq s.toks)⟩
 | list ys =>
  refine xe (iB hi) fun c Y0=>?_;have hc:=Y0.1;have hi:=Y0.2;try clear Y0
  cases hi
  refine xe rb.list_ref fun y Y0=>?_;obtain rfl:=Y0;try clear Y0
  refine xe (rb.plainList hs) fun us Y0=>?_;have h3:=Y0.1;have h4:=Y0.2;try clear Y0
  refine xe (xB8 hs h4 ra hu hc) fun e Y0=>?_;have he:=Y0.1;obtain rfl:=Y0.2;try clear Y0
  exact ⟨fun Q' hq=>SeqAt.in_listAt e h3.isList he (hq s.toks),fun Q' hq=>SeqAt.notIn_listAt e h3.isList he (hq s.toks)⟩
 | dict kvs =>
  refine xe (Option.bind_eq_some_iff.mp (io hi)) fun x Y0=>?_;have e:=Y0.1;have hi:=Y0.2;try clear Y0
  refine xe (Option.map_eq_some_iff.mp hi) fun o Y0=>?_;have hl:=Y0.1;have hi:=Y0.2;try clear Y0
  cases zX8 e
  refine xe ra.inv fun t Y0=>?_;obtain rfl:=Y0;try clear Y0
  refine xe rb.inv fun y Y0=>?_;refine xe Y0 fun es Y1=>?_;refine xe Y1 fun n Y2=>?_;obtain rfl:=Y2.1;have h1:=Y2.2.1;have h2:=Y2.2.2.1;have hd:=Y2.2.2.2.2;try clear Y0 Y1 Y2
  have Y0:=zz7 (hs _ _ h1) h2 hl;have hm:=Y0.1;have hf:=Y0.2;try clear Y0
  have hv:(findBy (PySem.strKind prog w).is es x).isSome=r':=by
   cases o with
   | none=>exact (congrArg Option.isSome hf).trans hi
   | some d=>refine xe hf fun v Y0=>?_;have hv:=Y0.1;try clear hf;try clear Y0;exact (congrArg Option.isSome hv).trans hi
  subst hv
  have hk:(PySem.strKind prog w).is x (.str x t)=true:=by simp[PySem.strKind,Value.isStrOf]
  exact ⟨fun Q' hq=>wpAny_in_of hk hd hm (hq _),fun Q' hq=>yD2 (wpAny_in_of hk hd hm (hq _))⟩
 | _=>exact nS hi
theorem zd2 {call:zB3} {f:Int→Int→Bool} (ra:Rep prog w H a da) (rb:Rep prog w H b db) (h:zA1 call (z36 f da db)=some r):∃ i j t u,a=.int i t∧b=.int j u∧r=f i j:=by
 refine xe (iB h) fun c Y0=>?_;have hc:=Y0.1;have h:=Y0.2;try clear Y0
 cases h
 refine xe (Option.bind_eq_some_iff.mp hc) fun i Y0=>?_;have e1:=Y0.1;have hc:=Y0.2;try clear Y0
 refine xe (Option.map_eq_some_iff.mp hc) fun j Y0=>?_;have e2:=Y0.1;obtain rfl:=Y0.2;try clear Y0
 cases zG4 e1
 cases zG4 e2
 refine xe ra.inv fun t Y0=>?_;obtain rfl:=Y0;try clear Y0
 refine xe rb.inv fun u Y0=>?_;obtain rfl:=Y0;try clear Y0
 exact ⟨i,j,t,u,rfl,rfl,rfl⟩
theorem xB9 {plain:Bool} (hs:Sub H s.heap) (ra:Rep prog w H a da) (rb:Rep prog w H b db) (hu:A.units+402 < cLine) {call:zB3} (h:zA1 call (eqP plain da db)=some r) :
  (Q (.bool r) s→wpAny (model prog w) A (compareOp .Eq a b) Q E s)∧(Q (.bool (!r)) s→wpAny (model prog w) A (compareOp .NotEq a b) Q E s):=by
 cases plain with
 | true =>
  have p:=yy8 (A:=A) hs ra rb (by lia) (io h)
  exact ⟨p.1 prog w E Q,p.2 prog w E Q⟩
 | false =>
  refine xe (iB h) fun c Y0=>?_;have hc:=Y0.1;have h:=Y0.2;try clear Y0
  cases h
  exact ⟨xX7 hs ra rb (by lia) hc,xX8 hs ra rb (by lia) hc⟩
theorem zZ9 {plain:Bool} {op:CmpOp} (hs:Sub H s.heap) (ra:Rep prog w H a da) (rb:Rep prog w H b db) (hu:A.units+402 < cLine) {call:zB3} (h:zA1 call (zn0 plain op da db)=some r)
  (hq:∀ tk,Q (.bool r) { s with toks:=tk }):wpAny (model prog w) A (compareOp op a b) Q E s:=by
 cases op with
 | Eq=>exact (xB9 hs ra rb hu h).1 (hq s.toks)
 | NotEq =>
  obtain ⟨c,hc,h⟩:=ib h
  cases h
  exact (xB9 hs ra rb hu hc).2 (hq s.toks)
 | Lt =>
  obtain ⟨i,j,t,u,rfl,rfl,rfl⟩:=zd2 ra rb h
  exact lt_int (hq s.toks)
 | LtE =>
  obtain ⟨i,j,t,u,rfl,rfl,rfl⟩:=zd2 ra rb h
  exact le_int (hq s.toks)
 | Gt =>
  obtain ⟨i,j,t,u,rfl,rfl,rfl⟩:=zd2 ra rb h
  exact gt_int (hq s.toks)
 | In=>exact (xP2 hs ra rb hu h).1 Q hq
 | NotIn =>
  obtain ⟨c,hc,h⟩:=ib h
  cases h
  exact (xP2 hs ra rb hu hc).2 Q hq
 | IsNot =>
  unfold zn0 at h
  cases hb:zm9 db with
  | false=>rw[hb] at h;exact nS h
  | true =>
   rw[hb] at h
   cases zf6 hb
   cases rb.inv
   have h:=io h
   cases da with
   | none=>cases ra.inv;cases h;exact isnot_none_none (hq s.toks)
   | dict _=>obtain ⟨y,_,_,rfl,_⟩:=ra.inv;cases h;exact isnot_ref_none (hq s.toks)
   | tup _=>obtain ⟨y,rfl⟩:=ra.tup_ref;cases h;exact isnot_ref_none (hq s.toks)
   | _=>exact nS h
 | _=>exact nS h
end
end Mine
namespace Mine
open PySem PySem.W PyProof.Rows PySem.Calls
structure Ext (H:PH) (h:Heap) (H':PH) (h':Heap):Prop where
 ext:PLe H H'
 new:∀ a,H a=none→H' a≠none→h.get? a=none
 keep:∀ b o,h.get? b=some o→h'.get? b=some o
 sub:Sub H' h'
theorem zD7 (h:Heap):h.get? h.objs.size=none:=by
 cases e:h.get? h.objs.size with
 | none=>rfl
 | some o=>exact absurd (Heap.lt_size e) (Nat.lt_irrefl _)
theorem zd3 {h h':Heap} (hk:∀ b o,h.get? b=some o→h'.get? b=some o) {a:Addr} (q:h'.get? a=none):h.get? a=none:=by
 cases e:h.get? a with
 | none=>rfl
 | some o=>rw[hk a o e] at q;cases q
theorem Ext.refl {H:PH} {h:Heap} (hs:Sub H h):Ext H h H h:=⟨PLe.refl H,fun a e e'=>absurd e e',fun uu uu e=>e,hs⟩
theorem Ext.trans {H H' H'':PH} {h h' h'':Heap} (x:Ext H h H' h') (y:Ext H' h' H'' h''):Ext H h H'' h'' where
 ext:=x.ext.trans y.ext
 new:=fun a e e''=>by
  cases e':H' a with
  | some o=>exact x.new a e (by rw[e'];exact fun z=>nomatch z)
  | none=>exact zd3 x.keep (y.new a e' e'')
 keep:=fun b o e=>y.keep b o (x.keep b o e)
 sub:=y.sub
theorem Ext.grow {H:PH} {h h':Heap} (hs:Sub H h) (hk:∀ b o,h.get? b=some o→h'.get? b=some o):Ext H h H h':=⟨PLe.refl H,fun a e e'=>absurd e e',hk,fun a o e=>hk _ _ (hs _ _ e)⟩
noncomputable def zC5 (H:PH) (a:Addr) (o:Obj):PH:=fun b=>if b=a then some o else H b
theorem zF1 {H:PH} {h:Heap} (hs:Sub H h) {a:Addr} (ha:h.objs.size≤a):H a=none:=by
 cases e:H a with
 | none=>rfl
 | some o=>exact absurd (Heap.lt_size (hs _ _ e)) (Nat.not_lt.mpr ha)
theorem zS7 {H:PH} {h:Heap} (hs:Sub H h) {a:Addr} (ha:h.get? a=none):H a=none:=by
 cases e:H a with
 | none=>rfl
 | some o=>rw[hs _ _ e] at ha;cases ha
theorem zC5.le {H:PH} {a:Addr} {o:Obj} (h:H a=none):PLe H (zC5 H a o):=fun b o' e=>by
 unfold zC5;rw[if_neg (fun q=>by rw[q,h] at e;cases e)];exact e
theorem zC5.self {H:PH} {a:Addr} {o:Obj}:zC5 H a o a=some o:=by unfold zC5;rw[if_pos rfl]
theorem Ext.push {H:PH} {h:Heap} (hs:Sub H h) (o:Obj) (hf:o.isFreed=false:=by rfl):Ext H h (zC5 H h.objs.size o) (h.push o) where
 ext:=zC5.le (zF1 hs (Nat.le_refl _))
 new:=fun a e e'=>by
  unfold zC5 at e'
  by_cases q:a=h.objs.size
  ·rw[q];exact zD7 h
  ·rw[if_neg q] at e';exact absurd e e'
 keep:=fun b o' e=>Heap.get?_push_of_some _ e
 sub:=fun a o' e=>by
  unfold zC5 at e
  by_cases q:a=h.objs.size
  ·rw[if_pos q] at e;cases e;rw[q];exact Heap.get?_push_size _ hf
  ·rw[if_neg q] at e;exact Heap.get?_push_of_some _ (hs _ _ e)
theorem Ext.pushOut {H:PH} {h:Heap} (hs:Sub H h) (o:Obj):Ext H h H (h.push o):=Ext.grow hs fun b o' e=>Heap.get?_push_of_some _ e
section
variable (prog:Program) (w:World)
noncomputable def RAt (H:PH) (h:Heap) (h₀:Heap) (v:Value):R→Prop
 | .val d=>Rep prog w H v d
 | .ownL ds=>∃ a,v=.ref a∧h₀.get? a=none∧H a=none∧zE1 prog w H h a ds
 | .ownD es=>∃ a,v=.ref a∧h₀.get? a=none∧H a=none∧DictAt prog w H h a es
end
section
variable {prog:Program} {w:World} {H H':PH} {h h':Heap}
theorem zE1.keeps {a:Addr} {ds:List D} (x:zE1 prog w H h a ds) (hk:PLe H H') (hh:∀ o,h.get? a=some o→h'.get? a=some o):zE1 prog w H' h' a ds :=
 let ⟨vs,p,r⟩:=x;⟨vs,p.at hh,r.mono hk⟩
theorem DictAt.keeps {a:Addr} {ds:List (D×D)} (x:DictAt prog w H h a ds) (hk:PLe H H') (hh:∀ o,h.get? a=some o→h'.get? a=some o):DictAt prog w H' h' a ds :=
 let ⟨es,n,p,r,t⟩:=x;⟨es,n,hh _ p,r.mono hk,t⟩
theorem zE1.lt {a:Addr} {ds:List D} (x:zE1 prog w H h a ds):a < h.objs.size:=let ⟨vs,⟨n,p⟩,r⟩:=x;Heap.lt_size p
theorem DictAt.lt {a:Addr} {ds:List (D×D)} (x:DictAt prog w H h a ds):a < h.objs.size:=let ⟨es,n,p,r,t⟩:=x;Heap.lt_size p
theorem zE1.freeze {a:Addr} {ds:List D} (hs:Sub H h) (hn:H a=none) (x:zE1 prog w H h a ds):∃ o,Sub (zC5 H a o) h∧PLe H (zC5 H a o)∧Rep prog w (zC5 H a o) (.ref a) (.list ds):=by
 obtain ⟨vs,⟨n,p⟩,r⟩:=x
 have le:=zC5.le (o:={ cls:=.type "list",data:=.seq vs n }) hn
 exact ⟨_,fun b o e=>by
  unfold zC5 at e
  by_cases q:b=a
  ·rw[if_pos q] at e;cases e;rw[q];exact p
  ·rw[if_neg q] at e;exact hs _ _ e,le,.list zC5.self (r.mono le)⟩
theorem DictAt.freeze {a:Addr} {ds:List (D×D)} (hs:Sub H h) (hn:H a=none) (x:DictAt prog w H h a ds):∃ o,Sub (zC5 H a o) h∧PLe H (zC5 H a o)∧Rep prog w (zC5 H a o) (.ref a) (.dict ds):=by
 obtain ⟨es,n,p,r,t,m⟩:=x
 have le:=zC5.le (o:={ cls:=.type "dict",data:=.dict es n }) hn
 exact ⟨_,fun b o e=>by
  unfold zC5 at e
  by_cases q:b=a
  ·rw[if_pos q] at e;cases e;rw[q];exact p
  ·rw[if_neg q] at e;exact hs _ _ e,le,.dict zC5.self (r.mono le) t m⟩
theorem zC5.new {H:PH} {a b:Addr} {o:Obj} (e:H b=none) (e':zC5 H a o b≠none):b=a:=by
 unfold zC5 at e'
 by_cases q:b=a
 ·exact q
 ·rw[if_neg q] at e';exact absurd e e'
theorem Ext.put {H₀:PH} {h₀:Heap} (x:Ext H₀ h₀ H h) {a:Addr} {o:Obj} (hs:Sub (zC5 H a o) h) (le:PLe H (zC5 H a o)) (ha:h₀.get? a=none):Ext H₀ h₀ (zC5 H a o) h where
 ext:=x.ext.trans le
 new:=fun b e e'=>by
  cases e1:H b with
  | some o'=>exact x.new b e (by rw[e1];exact fun z=>nomatch z)
  | none=>rw[zC5.new e1 e'];exact ha
 keep:=x.keep
 sub:=hs
theorem RAt.freeze {H₀:PH} {h₀:Heap} {v:Value} {r:R} (x:Ext H₀ h₀ H h) (hr:RAt prog w H h h₀ v r):∃ H',Ext H₀ h₀ H' h∧PLe H H'∧Rep prog w H' v r.toD∧(∀ b,H b=none→H' b≠none→h₀.get? b=none):=by
 cases r with
 | val d=>exact ⟨H,x,PLe.refl H,hr,fun b e e'=>absurd e e'⟩
 | ownL ds =>
  obtain ⟨a,rfl,ha,hn,hl⟩:=hr
  obtain ⟨o,h1,h2,h3⟩:=hl.freeze x.sub hn
  exact ⟨_,x.put h1 h2 ha,h2,h3,fun b e e'=>by rw[zC5.new e e'];exact ha⟩
 | ownD es =>
  obtain ⟨a,rfl,ha,hn,hl⟩:=hr
  obtain ⟨o,h1,h2,h3⟩:=hl.freeze x.sub hn
  exact ⟨_,x.put h1 h2 ha,h2,h3,fun b e e'=>by rw[zC5.new e e'];exact ha⟩
end
theorem zS8 {i:Int}:small i=true ↔ -1000000000000 < i∧i < 1000000000000:=by
 unfold small
 rw[Nat.blt_eq];omega
theorem zD0 {α:Type} {l:List α} (h:zA0 l=true):l.length≤8000000:=by
 unfold zA0 at h;exact Nat.le_of_ble_eq_true h
set_option tactic.hygienic true in
theorem zv5 {a:Int} (h:a.natAbs < 2 ^ 64):Builtin.Int.intBits a≤64:=by
 unfold Builtin.Int.intBits
 split
 ·omega
 ·rename_i hz
  have:a.natAbs.log2 < 64:=(Nat.log2_lt (by simpa using hz)).mpr h
  omega
section
variable {prog:Program} {w:World} {A:Around} {E:Value→Shared→Prop} {s:Shared} {H:PH} {a b:Value} {da db d:D} {Q:Value→Shared→Prop} {r:R} {call:zB3}
noncomputable abbrev zL4 (prog:Program) (w:World) (H:PH) (s:Shared) (r:R) (Q:Value→Shared→Prop):Prop :=
 ∀ v H' h' tk,Ext H s.heap H' h'→RAt prog w H' h' s.heap v r→Q v { s with heap:=h',toks:=tk }
noncomputable abbrev yU5 (prog:Program) (w:World) (H:PH) (s:Shared) (r:R) (Q:Value→Shared→Prop):Prop :=
 ∀ v H' h' (tk:Tk),Ext H s.heap H' h'→RAt prog w H' h' s.heap v r→Q v { s with heap:=h',toks:=tk.1,drawn:=tk.2 }
theorem zv6 {vs:List Value} {ds:List D} (hs:Sub H s.heap) (rl:RepL prog w H vs ds) (hl:ds.length≤16000000) (hq:zL4 prog w H s (.val (.tup ds)) Q):wpAny (model prog w) A (newTuple vs) Q E s:=by
 refine wpAny_newObj_type (hq _ _ _ s.toks (Ext.push hs _) ?_) ?_
 ·exact .tup zC5.self rfl rfl (by simpa using rl.mono (zC5.le (zF1 hs (Nat.le_refl _)))) (.inl rfl)
 ·show vs.toArray.size≤sizeLine
  rw[List.size_toArray,rl.length,sizeLine_eq];omega
theorem z47 {vs:List Value} {ds:List D} (hs:Sub H s.heap) (rl:RepL prog w H vs ds) (hl:ds.length≤16000000) (hq:zL4 prog w H s (.ownL ds) Q):wpAny (model prog w) A (newList vs) Q E s:=by
 refine wpAny_newObj_type (hq _ _ _ s.toks (Ext.pushOut hs _) ⟨_,rfl,zD7 _,zF1 hs (Nat.le_refl _),vs.toArray,⟨0,Heap.get?_push_size _ rfl⟩,by simpa using rl⟩) ?_
 show vs.toArray.size≤sizeLine
 rw[List.size_toArray,rl.length,sizeLine_eq];omega
theorem zH6 {t:Addr} {ds:List D} (hs:Sub H s.heap) (ra:Rep prog w H (.ref t) (.tup ds)):∃ o vs n,s.heap.get? t=some o∧o.cls=.type "tuple"∧o.data=.seq vs n∧RepL prog w H vs.toList ds∧IsTup s.heap t vs:=by
 exact ra.onTup fun o vs n h1 h2 h3 h4=>⟨o,vs,n,hs _ _ h1,h2,h3,h4,⟨_,hs _ _ h1,h2,_,h3⟩⟩
theorem z48 {xs ys:List D} (hs:Sub H s.heap) (ra:Rep prog w H a (.tup xs)) (rb:Rep prog w H b (.tup ys)) (hl:xs.length+ys.length≤16000000) (hq:zL4 prog w H s (.val (.tup (xs++ys))) Q) :
  wpAny (model prog w) A (binaryOp .Add a b) Q E s:=by
 obtain ⟨x,rfl⟩:=ra.tup_ref
 obtain ⟨y,rfl⟩:=rb.tup_ref
 obtain ⟨⟨cls,dd,data,sl⟩,vs,n,ho,hc,hd,hr,_⟩:=zH6 hs ra
 obtain ⟨⟨cls2,dd2,data2,sl2⟩,us,n2,ho2,hc2,hd2,hr2,_⟩:=zH6 hs rb
 simp only at hc hd hc2 hd2
 subst hc hd hc2 hd2
 have e1:=hr.length
 have e2:=hr2.length
 simp only[Array.length_toList] at e1 e2
 by_cases hv:xs=[]
 ·subst hv
  exact concat_meets ⟨_,ho,rfl⟩ ⟨_,ho2,rfl⟩ noFill_tuple_add seq_tuple_add PySem.F.slot_tuple_add PySem.F.entry_tuple_add (PySem.F.args_tuple_add_2 _ _)
   (tuple_addW0 x y vs us n n2 dd dd2 sl sl2 (by simpa using e1)) ⟨ho,ho2,hq _ _ _ s.toks (Ext.refl hs) rb⟩
 ·have hv':vs.isEmpty=false:=by
   have:vs.size≠0:=by rw[e1];simpa using hv
   simpa using this
  by_cases hw:ys=[]
  ·subst hw
   exact concat_meets ⟨_,ho,rfl⟩ ⟨_,ho2,rfl⟩ noFill_tuple_add seq_tuple_add PySem.F.slot_tuple_add PySem.F.entry_tuple_add (PySem.F.args_tuple_add_2 _ _)
    (tuple_addW1 x y vs us n n2 dd dd2 sl sl2 (by simpa using hv') (by simpa using e2)) ⟨ho,ho2,hq _ _ _ s.toks (Ext.refl hs) (by rw[List.append_nil];exact ra)⟩
  ·have hw':us.isEmpty=false:=by
    have:us.size≠0:=by rw[e2];simpa using hw
    simpa using this
   refine concat_meets ⟨_,ho,rfl⟩ ⟨_,ho2,rfl⟩ noFill_tuple_add seq_tuple_add PySem.F.slot_tuple_add PySem.F.entry_tuple_add (PySem.F.args_tuple_add_2 _ _)
    (tuple_addW2 x y vs us n n2 dd dd2 sl sl2 (by simpa using hv') (by simpa using hw') (by rw[e1,e2,sizeLine_eq];omega)) ⟨ho,ho2,?_⟩
   have le:=zC5.le (o:={ cls:=.type "tuple",data:=.seq (vs++us) }) (zF1 hs (Nat.le_refl _))
   exact hq _ _ _ s.toks (Ext.push hs _) (.tup zC5.self rfl rfl (by simpa using (hr.mono le).append (hr2.mono le)) (.inl rfl))
theorem yD3 {xs ys:List D} (hs:Sub H s.heap) (ra:Rep prog w H a (.list xs)) (rb:Rep prog w H b (.list ys)) (hl:xs.length+ys.length≤16000000) (hq:zL4 prog w H s (.ownL (xs++ys)) Q) :
  wpAny (model prog w) A (binaryOp .Add a b) Q E s:=by
 obtain ⟨x,rfl⟩:=ra.list_ref
 obtain ⟨y,rfl⟩:=rb.list_ref
 obtain ⟨vs,⟨n,ho⟩,hr⟩:=ra.plainList hs
 obtain ⟨us,⟨n2,ho2⟩,hr2⟩:=rb.plainList hs
 have e1:=hr.length
 have e2:=hr2.length
 simp only[Array.length_toList] at e1 e2
 refine concat_meets ⟨_,ho,rfl⟩ ⟨_,ho2,rfl⟩ noFill_list_add seq_list_add PySem.F.slot_list_add PySem.F.entry_list_add (PySem.F.args_list_add_2 _ _)
  (AutoSeq1.list___add___list_list_0 x vs n y us n2 (by rw[e1,e2,sizeLine_eq];omega)) ⟨ho,ho2,?_⟩
 exact hq _ _ _ s.toks (Ext.pushOut hs _) ⟨_,rfl,zD7 _,zF1 hs (Nat.le_refl _),vs++us,⟨0,Heap.get?_push_size _ rfl⟩,by simpa using hr.append hr2⟩
theorem zk1 {d:D} {x:List D} (h:zh2 d=some x):d=.tup x:=by
 cases d with
 | tup y=>exact congrArg D.tup (Option.some.inj h)
 | _=>exact nS h
theorem zO5 {d:D} {x:List D} (h:zf0 d=some x):d=.list x:=by
 cases d with
 | list y=>exact congrArg D.list (Option.some.inj h)
 | _=>exact nS h
theorem zh7 {ok:Int→Int→Bool} {f:Int→Int→Int} (ra:Rep prog w H a da) (rb:Rep prog w H b db) (h:zA1 call (yT9 ok f da db)=some r):∃ i j t u,a=.int i t∧b=.int j u∧ok i j=true∧r=.val (.int (f i j)):=by
 obtain ⟨i,e1,g1⟩:=ib h
 obtain ⟨j,e2,g2⟩:=ib g1
 obtain ⟨h1,g3⟩:=iN g2
 cases zG4 (io e1)
 cases zG4 (io e2)
 obtain ⟨t,rfl⟩:=ra.inv
 obtain ⟨u,rfl⟩:=rb.inv
 exact ⟨i,j,t,u,rfl,rfl,h1,(Option.some.inj g3).symm⟩
theorem yk0 {xs ys:List D} (h:(zA0 xs&&zA0 ys)=true):xs.length+ys.length≤16000000 :=
 Nat.add_le_add (zD0 (Bool.and_eq_true_iff.mp h).1) (zD0 (Bool.and_eq_true_iff.mp h).2)
theorem zf7 {i:Int} (hs:Sub H s.heap) (hq:zL4 prog w H s (.val (.int i)) Q) (tk tk':Tok):Q (.int i tk) { s with toks:=tk' }:=hq _ _ _ _ (Ext.refl hs) (.int i tk)
theorem yy9 {op:Operator} (hs:Sub H s.heap) (ra:Rep prog w H a da) (rb:Rep prog w H b db) (h:zA1 call (yC0 op da db)=some r) (hq:zL4 prog w H s r Q) :
  wpAny (model prog w) A (binaryOp op a b) Q E s:=by
 cases op with
 | Add =>
  cases da with
  | int i =>
   obtain ⟨j,e,g⟩:=ib h
   cases zG4 (io e)
   obtain ⟨_,rfl⟩:=ra.inv
   obtain ⟨_,rfl⟩:=rb.inv
   cases (iN g).2
   exact add_int (zf7 hs hq _ _)
  | tup xs =>
   obtain ⟨ys,e,g⟩:=ib h
   cases zk1 (io e)
   cases (iN g).2
   exact z48 hs ra rb (yk0 (iN g).1) hq
  | list xs =>
   obtain ⟨ys,e,g⟩:=ib h
   cases zO5 (io e)
   cases (iN g).2
   exact yD3 hs ra rb (yk0 (iN g).1) hq
  | _=>exact nS h
 | Sub =>
  obtain ⟨i,j,t,u,rfl,rfl,_,rfl⟩:=zh7 ra rb h
  exact sub_int (zf7 hs hq _ _)
 | Mult =>
  obtain ⟨i,j,t,u,rfl,rfl,hb,rfl⟩:=zh7 ra rb h
  exact PyProof.Rows.mul_int (zf7 hs hq _ _) (IntMulOk.of_left (zv5 (by have:=zS8.mp (Bool.and_eq_true_iff.mp hb).1;omega)))
 | Mod =>
  obtain ⟨i,j,t,u,rfl,rfl,hb,rfl⟩:=zh7 ra rb h
  have h0:=of_decide_eq_true (Bool.and_eq_true_iff.mp hb).1
  refine mod_int (Int.ne_of_gt h0) ?_
  rw[Int.fmod_eq_emod_of_nonneg _ (Int.le_of_lt h0)]
  exact zf7 hs hq _ _
 | _=>exact nS h
end
end Mine
namespace Mine
open PySem PySem.W PyProof.Rows PySem.Calls
section
variable {prog:Program} {w:World} {A:Around} {E:Value→Shared→Prop} {s:Shared} {H:PH} {a b:Value} {da db d:D} {Q:Value→Shared→Prop} {r:R} {call:zB3}
set_option tactic.hygienic true in
theorem z49 {n:Nat} {i:Int} {j:Nat} (h:idx n i=some j):seqIndex? i n=some j∧j < n∧((0≤i∧j=i.toNat)∨(i < 0∧-(n:Int)≤i∧j=(i+n).toNat)):=by
 unfold idx at h
 unfold seqIndex?
 split at h
 ·split at h
  ·rename_i h0 h1;cases h
   refine ⟨?_,by lia,.inl ⟨h0,rfl⟩⟩
   simp only[show ¬ i < 0 by lia,if_false]
   rw[if_pos (by simp;lia)]
  ·cases h
 ·split at h
  ·rename_i h0 h1;cases h
   refine ⟨?_,by lia,.inr ⟨by lia,by lia,rfl⟩⟩
   simp only[show i < 0 by lia,if_true]
   rw[if_pos (by simp;lia)]
  ·cases h
theorem yk1 {n:Nat} {i:Int} {j:Nat} (h:idx n i=some j):i < n:=by
 unfold idx at h
 split at h
 ·split at h
  ·assumption
  ·cases h
 ·lia
theorem yk2 {n:Nat} {i:Int} {j:Nat} (h:idx n i=some j):-(n:Int)≤i:=by
 have:=(z49 h).2.2
 lia
theorem zk2 {ds:List D} {i:Int} (h:zC3 ds i=some d):∃ j,idx ds.length i=some j∧ds[j]?=some d:=by
 unfold zC3 at h
 rw[Option.bind_eq_some_iff] at h
 exact h
theorem yZ7 {x:Addr} {ds:List D} {i:Int} {t:Tok} (hl:zE1 prog w H s.heap x ds) (hs:ds.length≤8000000) (h:zC3 ds i=some d) (hq:∀ v,Rep prog w H v d→Q v s) :
  wpAny (model prog w) A (getItem (.ref x) (.int i t)) Q E s:=by
 refine xe (zk2 h) fun j Y0=>?_;have hj:=Y0.1;have hd:=Y0.2;try clear Y0
 refine xe hl fun vs Y0=>?_;have hp:=Y0.1;have hr:=Y0.2;try clear hl;try clear Y0
 refine xe (hr.get hd) fun v Y0=>?_;have hv:=Y0.1;have rv:=Y0.2;try clear Y0
 have e1:=hr.length
 simp only[Array.length_toList] at e1
 have Y0:=z49 hj;have h2:=Y0.2.1;have h3:=Y0.2.2;try clear Y0
 have:=yk1 hj
 have:=yk2 hj
 rcases h3 with ⟨h3,h4⟩ | ⟨h3,h3',h4⟩
 ·exact wpAny_getItem_list hp.isList h3 (by lia) (by rw[← h4];simpa using hv) (hq v rv)
 ·exact wpAny_getItem_list_neg hp.isList h3 (by rw[e1];lia) (by lia) (by rw[e1,← h4];simpa using hv) (hq v rv)
theorem Rep.listAt {h:Heap} {x:Addr} {ds:List D} (hs:Sub H h) (ra:Rep prog w H (.ref x) (.list ds)):zE1 prog w H h x ds:=ra.plainList hs
theorem Rep.dictAt {h:Heap} {x:Addr} {ds:List (D×D)} (hs:Sub H h) (ra:Rep prog w H (.ref x) (.dict ds)):DictAt prog w H h x ds:=ra.onDict fun es n h1 h2 h3 h4=>⟨es,n,hs _ _ h1,h2,h3,h4⟩
theorem yL8 {ds:List D} {i:Int} {t:Tok} (hS:Sub H s.heap) (ra:Rep prog w H a (.tup ds)) (hs:ds.length≤8000000) (h:zC3 ds i=some d) (hq:∀ v,Rep prog w H v d→Q v s) :
  wpAny (model prog w) A (getItem a (.int i t)) Q E s:=by
 refine xe ra.tup_ref fun x Y0=>?_;obtain rfl:=Y0;try clear Y0
 refine xe (zk2 h) fun j Y0=>?_;have hj:=Y0.1;have hd:=Y0.2;try clear Y0
 refine xe (zH6 hS ra) fun o Y0=>?_;refine xe Y0 fun vs Y1=>?_;refine xe Y1 fun n Y2=>?_;have h1:=Y2.1;have h2:=Y2.2.1;have h3:=Y2.2.2.1;have hr:=Y2.2.2.2.1;have hT:=Y2.2.2.2.2;try clear Y0 Y1 Y2
 refine xe (hr.get hd) fun v Y0=>?_;have hv:=Y0.1;have rv:=Y0.2;try clear Y0
 have e1:=hr.length
 simp only[Array.length_toList] at e1
 have:=yk1 hj
 have:=yk2 hj
 exact PyProof.Rows.getItem_tuple hT (by lia) (by lia) (by rw[e1];exact (z49 hj).1) (by simpa using hv) (hq v rv)
theorem yL9 {x:Addr} {es:List (D×D)} {k:Str} {t:Tok} (hd:DictAt prog w H s.heap x es) (h:zE0 es k=some (some d)) (hq:∀ v tk,Rep prog w H v d→Q v { s with toks:=tk }) :
  wpAny (model prog w) A (getItem (.ref x) (.str k t)) Q E s:=by
 refine xe hd fun es' Y0=>?_;refine xe Y0 fun n Y1=>?_;have ho:=Y1.1;have hr:=Y1.2.1;try clear hd;try clear Y0 Y1
 have Y0:=zz7 ho hr h;have hm:=Y0.1;refine xe Y0.2 fun v Y1=>?_;have hv:=Y1.1;have rv:=Y1.2;try clear Y0 Y1
 exact wpAny_getItem_of (knd:=PySem.strKind prog w) (by simp[PySem.strKind,Value.isStrOf]) hm hv (hq v _ rv)
theorem zd4 {ds:List D}:∀ {is:List Int},zX2 ds=some is→ds=is.map .int:=by
 induction ds with
 | nil=>exact fun h=>Option.some.inj h▸rfl
 | cons d ds ih =>
  intro is h
  cases d with
  | int i =>
   refine xe (Option.bind_eq_some_iff.mp h) fun js Y0=>?_;have hj:=Y0.1;have h:=Y0.2;try clear Y0
   exact Option.some.inj h▸congrArg (D.int i::·) (ih hj)
  | _=>exact nS h
theorem zR3 (is:List Int):zX2 (is.map .int)=some is:=by
 induction is with
 | nil=>rfl
 | cons i is ih=>exact congrArg (fun o=>o.bind fun js=>some (i::js)) ih
theorem yD4:∀ {is:List Int} {vs:List Value},RepL prog w H vs (is.map .int)→ItemsAre (intKind prog w) is vs:=by
 intro is
 induction is with
 | nil=>intro vs h;cases h;exact .nil
 | cons i is ih =>
  intro vs h
  cases h with
  | cons h1 h2 =>
   refine xe h1.inv fun t Y0=>?_;obtain rfl:=Y0;try clear Y0
   exact .cons (decide_eq_true rfl) (ih h2)
theorem zX9 {x:Addr} {is:List Int} {h:Heap} (hs:Sub H h) (ra:Rep prog w H (.ref x) (.tup (is.map .int))):IsTupleKey (intKind prog w) h is x :=
 ra.onTup fun o vs n h1 h2 h3 h4=>⟨o,vs,n,hs _ _ h1,h2,h3,yD4 h4⟩
inductive Trip (prog:Program) (w:World) (H:PH):List (List Int×Addr×Value)→List (D×D)→Prop
 | nil:Trip prog w H [] []
 | cons {is a v d xs kvs}:Rep prog w H (.ref a) (.tup (is.map .int))→Rep prog w H v d→Trip prog w H xs kvs→Trip prog w H ((is,a,v)::xs) ((.tup (is.map .int),d)::kvs)
inductive Twin (prog:Program) (w:World) (H:PH):List (Str×Value)→List (D×D)→Prop
 | nil:Twin prog w H [] []
 | cons {x v d xs kvs}:Rep prog w H v d→Twin prog w H xs kvs→Twin prog w H ((x,v)::xs) ((.str x,d)::kvs)
theorem RepE.trip {es:List DictEntry} {kvs:List (D×D)} (r:RepE prog w H es kvs) {is:List Int}:∀ {o:Option D},zJ3 kvs is=some o →
  ∃ xs,es=xs.map (entryOfKey (tupleKind (intKind prog w)))∧Trip prog w H xs kvs :=
 r.ind (P:=fun es kvs=>∀ {o:Option D},zJ3 kvs is=some o→∃ xs,es=xs.map (entryOfKey (tupleKind (intKind prog w)))∧Trip prog w H xs kvs) (fun uu=>⟨[],rfl,.nil⟩) (fun uu uu uu uu h=>nS h)
  fun {js a v _ _ _} h0 hv _ ih _ h=>by
   refine xe (Option.bind_eq_some_iff.mp h) fun k' Y0=>?_;have h:=Y0.2;try clear Y0
   refine xe (Option.bind_eq_some_iff.mp h) fun o' Y0=>?_;have ho':=Y0.1;try clear Y0
   refine xe (ih ho') fun xs Y0=>?_;have e:=Y0.1;have t:=Y0.2;try clear Y0
   exact ⟨(js,a,v)::xs,congrArg (_::·) e,.cons h0 hv t⟩
theorem Trip.repE {xs:List (List Int×Addr×Value)} {kvs:List (D×D)} (r:Trip prog w H xs kvs):RepE prog w H (xs.map (entryOfKey (tupleKind (intKind prog w)))) kvs:=by
 induction r with
 | nil=>exact .nil
 | cons h1 h2 _ ih=>exact .tup h1 h2 ih
set_option tactic.hygienic true in
theorem Trip.keys {xs:List (List Int×Addr×Value)} {kvs:List (D×D)} (r:Trip prog w H xs kvs):(kvs.filterMap fun p=>zN4 p.1)=xs.map (·.1)∧(kvs.filterMap fun p=>zD1 p.1)=[]:=by
 induction r with
 | nil=>exact ⟨rfl,rfl⟩
 | cons h1 h2 _ ih =>
  rename_i js _ _ _ _ _ _
  refine ⟨?_,?_⟩
  ·rw[List.filterMap_cons_some (b:=js) (by exact zR3 js),ih.1];rfl
  ·rw[List.filterMap_cons_none (by rfl),ih.2]
theorem Trip.isKey {h:Heap} (hs:Sub H h) {xs:List (List Int×Addr×Value)} {kvs:List (D×D)} (r:Trip prog w H xs kvs):∀ x∈xs,IsTupleKey (intKind prog w) h x.1 x.2.1:=by
 induction r with
 | nil=>simp
 | cons h1 h2 _ ih =>
  intro x hx
  rcases List.mem_cons.mp hx with e | hx
  ·subst e;exact zX9 hs h1
  ·exact ih x hx
noncomputable def xE5 (prog:Program) (w:World) (H:PH) (f:Option (Addr×Value)):Option D→Prop
 | none=>f=none
 | some d=>∃ a v,f=some (a,v)∧Rep prog w H v d
theorem Trip.look {xs:List (List Int×Addr×Value)} {kvs:List (D×D)} (r:Trip prog w H xs kvs) {is:List Int}:∀ {o:Option D},zJ3 kvs is=some o →
  xE5 prog w H (atKey xs is) o:=by
 induction r with
 | nil=>exact fun h=>Option.some.inj h▸rfl
 | @cons js a v d xs kvs h1 h2 _ ih =>
  intro o h
  refine xe (Option.bind_eq_some_iff.mp h) fun k' Y0=>?_;have hk':=Y0.1;have h:=Y0.2;try clear Y0
  refine xe (Option.bind_eq_some_iff.mp h) fun o' Y0=>?_;have ho':=Y0.1;have h:=Y0.2;try clear Y0
  cases (zR3 js).symm.trans hk'
  have e2:atKey ((js,a,v)::xs) is=if js=is then some (a,v) else atKey xs is:=by
   simp only[atKey,List.find?_cons]
   by_cases e:js=is
   ·rw[if_pos e,decide_eq_true e];rfl
   ·rw[if_neg e,decide_eq_false e]
  rw[e2]
  by_cases e:js=is
  ·rw[if_pos e] at h ⊢
   exact Option.some.inj h▸⟨a,v,rfl,h2⟩
  ·rw[if_neg e] at h ⊢
   exact Option.some.inj h▸ih ho'
theorem DictAt.dictOfH {h:Heap} (hs:Sub H h) {x:Addr} {kvs:List (D×D)} (hd:DictAt prog w H h x kvs) {is:List Int} {o:Option D} (hl:zJ3 kvs is=some o) :
  ∃ xs,h.DictOfH (tupleKind (intKind prog w)) x xs∧Trip prog w H xs kvs:=by
 refine xe hd fun es Y0=>?_;refine xe Y0 fun n Y1=>?_;have ho:=Y1.1;have hr:=Y1.2.1;have ht:=Y1.2.2.1;have hm:=Y1.2.2.2;try clear hd;try clear Y0 Y1
 refine xe (hr.trip hl) fun xs Y0=>?_;have e:=Y0.1;have t:=Y0.2;try clear Y0
 exact ⟨xs,⟨_,es,n,ho,⟨rfl,rfl,rfl⟩,rfl,e,t.isKey hs,by rw[← t.keys.1];exact ht.2⟩,t⟩
theorem yM0 {x:Addr} {es:List (D×D)} {ds:List D} (hS:Sub H s.heap) (hu:A.units+1 < cLine) (hd:DictAt prog w H s.heap x es) (rb:Rep prog w H b (.tup ds)) (h:zD8 es ds=some d) (hq:∀ v tk,Rep prog w H v d→Q v { s with toks:=tk }) :
  wpAny (model prog w) A (getItem (.ref x) b) Q E s:=by
 refine xe rb.tup_ref fun y Y0=>?_;obtain rfl:=Y0;try clear Y0
 refine xe (Option.bind_eq_some_iff.mp h) fun is Y0=>?_;have hi:=Y0.1;have g:=Y0.2;try clear Y0
 cases zd4 hi
 refine xe (Option.bind_eq_some_iff.mp g) fun o Y0=>?_;have ho:=Y0.1;obtain rfl:=Y0.2;try clear Y0
 refine xe (hd.dictOfH hS ho) fun xs Y0=>?_;have hD:=Y0.1;have ht:=Y0.2;try clear Y0
 refine xe (ht.look ho) fun a' Y0=>?_;refine xe Y0 fun v Y1=>?_;have e:=Y1.1;have rv:=Y1.2;try clear Y0 Y1
 exact wpAny_getItem_heap (knd:=tupleKind (intKind prog w)) (by show A.in1.units < cLine;show A.units+1 < cLine;lia) (zX9 hS rb) hD e (hq v _ rv)
theorem zz8 {ds:List D} (rb:Rep prog w H b db) (h:zA1 call (yj0 ds db)=some d):∃ i t,b=.int i t∧ds.length≤8000000∧zC3 ds i=some d:=by
 refine xe (ib h) fun i Y0=>?_;have e:=Y0.1;have h1:=Y0.2;try clear Y0
 have Y0:=iN h1;have hs:=Y0.1;have h2:=Y0.2;try clear Y0
 refine xe (iD h2) fun d' Y0=>?_;have h3:=Y0.1;have h4:=Y0.2;try clear Y0
 refine xe ((zG4 (io e)▸rb).inv) fun t Y0=>?_;obtain rfl:=Y0;try clear Y0
 exact ⟨i,t,rfl,zD0 hs,h3.trans h4⟩
theorem yU6 {x:Addr} {ds:List D} (hl:zE1 prog w H s.heap x ds) (rb:Rep prog w H b db) (h:zA1 call (zb6 (.list ds) db)=some d) (hq:∀ v tk,Rep prog w H v d→Q v { s with toks:=tk }) :
  wpAny (model prog w) A (getItem (.ref x) b) Q E s:=by
 refine xe (zz8 rb h) fun i Y0=>?_;refine xe Y0 fun t Y1=>?_;obtain rfl:=Y1.1;have h1:=Y1.2.1;have h2:=Y1.2.2;try clear Y0 Y1
 exact yZ7 hl h1 h2 fun v rv=>hq v s.toks rv
theorem zz9 {x:Addr} {es:List (D×D)} (hS:Sub H s.heap) (hu:A.units+1 < cLine) (hd:DictAt prog w H s.heap x es) (rb:Rep prog w H b db) (h:zA1 call (zb6 (.dict es) db)=some d) (hq:∀ v tk,Rep prog w H v d→Q v { s with toks:=tk }) :
  wpAny (model prog w) A (getItem (.ref x) b) Q E s:=by
 cases db with
 | str k =>
  refine xe (Option.bind_eq_some_iff.mp (io h)) fun o Y0=>?_;have hl:=Y0.1;have e:=Y0.2;try clear Y0
  refine xe rb.inv fun t Y0=>?_;obtain rfl:=Y0;try clear Y0
  exact yL9 hd (hl.trans (congrArg some e)) hq
 | tup ds =>
  refine xe (iD h) fun d' Y0=>?_;have h1:=Y0.1;have h2:=Y0.2;try clear Y0
  exact yM0 hS hu hd rb (h1.trans h2) hq
 | _=>exact nS h
theorem xE6 (hS:Sub H s.heap) (hu:A.units+1 < cLine) (ra:Rep prog w H a da) (rb:Rep prog w H b db) (h:zA1 call (zb6 da db)=some d) (hq:∀ v tk,Rep prog w H v d→Q v { s with toks:=tk }) :
  wpAny (model prog w) A (getItem a b) Q E s:=by
 cases da with
 | tup ds =>
  refine xe (zz8 rb h) fun i Y0=>?_;refine xe Y0 fun t Y1=>?_;obtain rfl:=Y1.1;have h1:=Y1.2.1;have h2:=Y1.2.2;try clear Y0 Y1
  exact yL8 hS ra h1 h2 fun v rv=>hq v s.toks rv
 | list ds =>
  refine xe ra.list_ref fun x Y0=>?_;obtain rfl:=Y0;try clear Y0
  exact yU6 (ra.listAt hS) rb h hq
 | dict es =>
  refine xe ra.dict_ref fun x Y0=>?_;obtain rfl:=Y0;try clear Y0
  exact zz9 hS hu (ra.dictAt hS) rb h hq
 | _=>exact nS h
end
end Mine
namespace Mine
open PySem PySem.W PyProof.Rows PySem.Calls PySem.Builtin
noncomputable def zb5 {α:Type} (l u:Option Int) (xs:List α):List α:=(match u with | some u=>xs.take u.toNat | none=>xs).drop (l.getD 0).toNat
theorem zp3 {α:Type} {l u:Option Int} {xs ys:List α} {call:zB3} (h:zA1 call (cut l u xs)=some ys):ys=zb5 l u xs∧(∀ i,l=some i→0≤i)∧(∀ i,u=some i→0≤i):=by
 have Y0:=iN h;have hb:=Y0.1;have h:=Y0.2;try clear Y0
 rw[Bool.and_eq_true,Bool.and_eq_true,Bool.and_eq_true] at hb
 exact ⟨(Option.some.inj h).symm,fun i e=>by have:=of_decide_eq_true hb.1.1.1;rw[e] at this;exact this,fun i e=>by have:=of_decide_eq_true hb.1.1.2;rw[e] at this;exact this⟩
theorem zp4 {α:Type} (l u:Option Int) (xs:List α):(zb5 l u xs).Sublist xs:=by
 cases u with
 | none=>exact List.drop_sublist ..
 | some u=>exact (List.drop_sublist ..).trans (List.take_sublist ..)
noncomputable def loN (l:Option Int) (n:Nat):Nat:=l.elim 0 fun i=>min i.toNat n
noncomputable def hiN (u:Option Int) (n:Nat):Nat:=u.elim n fun i=>min i.toNat n
theorem xE7 (u:Option Int) (n:Nat):hiN u n≤n:=by
 cases u with
 | none=>exact Nat.le_refl n
 | some u=>exact Nat.min_le_right ..
theorem yk3 {α:Type} (a b:Nat) (xs:List α):(xs.drop (min a xs.length)).take (min b xs.length - min a xs.length)=(xs.take b).drop a:=by
 rw[← List.drop_take,← List.take_eq_take_min]
 rcases Nat.le_total a xs.length with h | h
 ·rw[Nat.min_eq_left h]
 ·rw[Nat.min_eq_right h,List.drop_of_length_le (List.length_take_le' b xs),List.drop_of_length_le (Nat.le_trans (List.length_take_le' b xs) h)]
theorem za0 {α:Type} (l u:Option Int) (xs:List α):(xs.drop (loN l xs.length)).take (hiN u xs.length - loN l xs.length)=zb5 l u xs:=by
 have hl:loN l xs.length=min (l.getD 0).toNat xs.length:=by
  cases l with
  | none=>exact (Nat.zero_min _).symm
  | some i=>rfl
 rw[hl]
 cases u with
 | none =>
  have:=yk3 (l.getD 0).toNat xs.length xs
  rw[Nat.min_self,List.take_length] at this
  exact this
 | some u=>exact yk3 ..
theorem zp5 {α:Type} {l u:Option Int} {xs:List α} (h:hiN u xs.length - loN l xs.length=xs.length):zb5 l u xs=xs:=by
 refine (zp4 l u xs).eq_of_length ?_
 rw[← za0,List.length_take,List.length_drop,h,Nat.min_eq_right (Nat.sub_le ..)]
 have:=xE7 u xs.length
 omega
theorem yD5 {n:Nat} {i:Int} (h:0≤i):clipAt n i=min i.toNat n:=by
 refine xe (Int.eq_ofNat_of_zero_le h) fun k Y0=>?_;obtain rfl:=Y0;try clear Y0
 exact clipAt_nat n k
theorem yU7 {l:Option Int} {n:Nat} (hl:∀ i,l=some i→0≤i):l.elim 0 (clipAt n)=loN l n:=by
 cases l with
 | none=>rfl
 | some i=>exact yD5 (hl i rfl)
theorem yU8 {l:Option Int} {n:Nat} (hl:∀ i,l=some i→0≤i):l.elim n (clipAt n)=hiN l n:=by
 cases l with
 | none=>rfl
 | some i=>exact yD5 (hl i rfl)
theorem zv7 (items:Array Value) (l u:Option Int) (hl:∀ i,l=some i→0≤i) (hu:∀ i,u=some i→0≤i):slicePick items l u none=(zb5 l u items.toList).toArray:=by
 rw[slicePick_plain,← za0,yU7 hl,yU8 hu];rfl
theorem yZ8 (l u:Option Int) (n:Nat) (hl:∀ i,l=some i→0≤i) (hu:∀ i,u=some i→0≤i):Str.strSliceIndices l u 1 n=(List.range (hiN u n - loN l n)).map (loN l n+·):=by
 show sliceRange (sliceBounds l u none n).1 (sliceBounds l u none n).2.1 (sliceBounds l u none n).2.2=_
 rw[sliceBounds_plain,yU7 hl,yU8 hu,sliceRange_one]
theorem RepL.cut {prog:Program} {w:World} {H:PH} {vs:List Value} {ds:List D} (l u:Option Int) (r:RepL prog w H vs ds):RepL prog w H (zb5 l u vs) (zb5 l u ds):=by
 unfold zb5
 cases u with
 | none=>exact r.drop _
 | some u=>exact (r.take _).drop _
noncomputable def zO1 (v:Value) (l:Option Int):Prop:=match l with
 | none=>v=.none
 | some i=>∃ t,v=.int i t
theorem zO1.is {v:Value} {l:Option Int} (h:zO1 v l):IsPart v l:=by
 cases l with
 | none=>rw[show v=.none from h];exact .none
 | some i=>obtain ⟨t,rfl⟩:=h;exact .int i t
theorem zO1.pv {v:Value} {l:Option Int} (h:zO1 v l):∃ p:Option (Int×Tok),v=partValue p∧p.map (·.1)=l:=by
 cases l with
 | none=>rw[show v=.none from h];exact ⟨none,rfl,rfl⟩
 | some i=>obtain ⟨t,rfl⟩:=h;exact ⟨some (i,t),rfl,rfl⟩
section
variable {prog:Program} {w:World} {A:Around} {E:Value→Shared→Prop} {s:Shared} {H:PH} {a b:Value} {da db d:D} {Q:Value→Shared→Prop} {r:R} {call:zB3}
theorem zp6 {v:Value} {k:Option Int} {Q:Option Int→Shared→Prop} (hk:zO1 v k) (hq:Q k s):wpAny (model prog w) A (Builtin.Slice.slicePartIndex v) Q E s:=by
 cases k with
 | none=>exact (show v=.none from hk)▸slicePart_none hq
 | some i=>obtain ⟨t,rfl⟩:=hk;exact slicePart_int hq
theorem yU9 {i:Int} {n:Nat} (h:0≤i):(if i < 0 then max (i+n) 0 else min i (n:Int))=((min i.toNat n:Nat):Int):=by
 refine xe (Int.eq_ofNat_of_zero_le h) fun k Y0=>?_;obtain rfl:=Y0;try clear Y0
 rw[if_neg (Int.not_lt.mpr h),Int.toNat_natCast]
 rcases Nat.le_total k n with h | h
 ·rw[Nat.min_eq_left h,Int.min_eq_left (Int.ofNat_le.mpr h)]
 ·rw[Nat.min_eq_right h,Int.min_eq_right (Int.ofNat_le.mpr h)]
theorem z50 {l u:Option Int} {n:Nat} (hl:∀ i,l=some i→0≤i) (hu:∀ i,u=some i→0≤i):Builtin.Slice.sliceAdjust l u 1 (n:Int)=(((loN l n:Nat):Int),((hiN u n:Nat):Int)):=by
 refine Prod.ext ?_ ?_
 ·cases l with
  | none=>rfl
  | some i=>exact yU9 (hl i rfl)
 ·cases u with
  | none=>rfl
  | some i=>exact yU9 (hu i rfl)
theorem z51 (a b:Nat):Builtin.Slice.slicePlaces (a:Int) (b:Int) 1=b - a:=by
 show (if (a:Int) < b then ((b:Int) - a - 1) / 1+1 else 0).toNat=_
 rw[Int.ediv_one,Int.sub_add_cancel]
 by_cases h:(a:Int) < b
 ·rw[if_pos h];exact Int.toNat_sub b a
 ·rw[if_neg h,Nat.sub_eq_zero_of_le (Int.ofNat_le.mp (Int.not_lt.mp h))];rfl
theorem zd5 {sl:Addr} {vl vu:Value} {l u:Option Int} {n:Nat} {Q:Int×Int×Nat→Shared→Prop} (hs:s.heap.IsSliceOf sl vl vu .none) (pl:zO1 vl l) (pu:zO1 vu u)
  (hl:∀ i,l=some i→0≤i) (hu:∀ i,u=some i→0≤i) (h:Q ((loN l n:Nat),1,hiN u n - loN l n) s) :
  wpAny (model prog w) A (Builtin.Slice.sliceApplied (.ref sl) (pure (n:Int))) Q E s:=by
 refine xe hs fun os Y0=>?_;have hos:=Y0.1;have hcs:=Y0.2.1;have hds:=Y0.2.2;try clear hs;try clear Y0
 unfold Builtin.Slice.sliceApplied Builtin.Slice.sliceFields
 refine wpAny_bind (wpAny_bind (wpAny_field hos hds (x:=vl) rfl (wpAny_bind (wpAny_field hos hds (x:=vu) rfl (wpAny_bind (wpAny_field hos hds (x:=.none) rfl (wpAny_pure ?_)))))))
 refine wpAny_bind (slicePart_none ?_)
 show wpAny _ _ (if ((1:Int) == 0)=true then _ else _) _ _ s
 rw[if_neg (by decide)]
 refine wpAny_bind (zp6 pl (wpAny_bind (zp6 pu (wpAny_bind (wpAny_pure ?_)))))
 show wpAny _ _ (match Builtin.Slice.sliceAdjust l u 1 (n:Int) with | (lo,hi)=>pure (lo,(1:Int),Builtin.Slice.slicePlaces lo hi 1)) _ _ s
 rw[z50 hl hu]
 exact wpAny_pure ((z51 ..).symm▸h)
theorem yM1 (xs:Array Value) (l u:Option Int):((List.range (hiN u xs.size - loN l xs.size)).filterMap fun (k:Nat)=>xs[(((loN l xs.size:Nat):Int)+(k:Int) * 1).toNat]?).toArray=(zb5 l u xs.toList).toArray:=by
 have e:(fun (k:Nat)=>xs[(((loN l xs.size:Nat):Int)+(k:Int) * 1).toNat]?)=fun k=>xs[loN l xs.size+k]?:=by
  funext k
  rw[Int.mul_one];rfl
 have:=pick_run xs (loN l xs.size) (hiN u xs.size - loN l xs.size)
 rw[List.filterMap_map] at this
 rw[e]
 exact congrArg List.toArray (this.trans (za0 l u xs.toList))
theorem yD6 {ds:List D} {sl:Addr} {vl vu:Value} {l u:Option Int} (hS:Sub H s.heap) (ra:Rep prog w H a (.tup ds)) (hlen:ds.length≤8000000) (hs:s.heap.IsSliceOf sl vl vu .none) (pl:zO1 vl l) (pu:zO1 vu u)
  (hl:∀ i,l=some i→0≤i) (hu:∀ i,u=some i→0≤i) (hq:zL4 prog w H s (.val (.tup (zb5 l u ds))) Q):wpAny (model prog w) A (getItem a (.ref sl)) Q E s:=by
 refine xe ra.tup_ref fun t Y0=>?_;obtain rfl:=Y0;try clear Y0
 refine xe (zH6 hS ra) fun o Y0=>?_;refine xe Y0 fun items Y1=>?_;refine xe Y1 fun nn Y2=>?_;have g1:=Y2.1;have g2:=Y2.2.1;have g3:=Y2.2.2.1;have hr:=Y2.2.2.2.1;have ht:=Y2.2.2.2.2;try clear Y0 Y1 Y2
 have e1:=hr.length
 simp only[Array.length_toList] at e1
 refine xe (id hs) fun os Y0=>?_;have hos:=Y0.1;have hcs:=Y0.2.1;have hds:=Y0.2.2;try clear Y0
 have hTs:s.TypeIs (.ref sl) "slice":=⟨os,hos,hcs⟩
 unfold getItem
 try with_reducible refine wpAny_holding ?_
 first | refine wpAny_bind (wpAny_pure ?_) | skip
 refine wpAny_bind (wpAny_sequenceKey ht.typeIs (by decide) ?_)
 refine wpAny_bind (wpAny_callSpecial?_slot (name:=Str.ofString "__getitem__") ht.typeIs slot_tuple_getitem
  (wpAny_call_entry slot_tuple_getitem ht.typeIs entry_tuple_getitem ?_ (args_tuple_getitem _ _)))
 show wpAny _ _ (Builtin.Tuple.tupleItemsOf (.ref t) >>= _) _ _ s
 refine wpAny_bind (tupleItemsOf_ ht ?_)
 refine wpAny_bind (wpAny_typeOf hTs ?_)
 rw[if_pos (by decide)]
 refine wpAny_bind (zd5 hs pl pu hl hu ?_)
 show wpAny _ _ (if (((loN l items.size:Nat):Int) == 0&&(1:Int) == 1&&(hiN u items.size - loN l items.size) == items.size)=true then _ else _) _ _ s
 by_cases hw:(((loN l items.size:Nat):Int) == 0&&(1:Int) == 1&&(hiN u items.size - loN l items.size) == items.size)=true
 ·rw[if_pos hw]
  refine wpAny_bind (m:=Builtin.Tuple.tupleIsExact _) (wpAny_bind (wpAny_typeOf ht.typeIs (wpAny_pure ?_)))
  rw[zp5 (show hiN u ds.length - loN l ds.length=ds.length by rw[← e1];exact beq_iff_eq.mp (Bool.and_eq_true_iff.mp hw).2)] at hq
  have fin:=hq (.ref t) H s.heap s.toks (Ext.refl hS) ra
  show wpAny _ _ (if _ then _ else _) _ _ s
  rw[if_pos (by decide)]
  exact wpAny_bind (wpAny_rule (wpAny_pure ⟨_,rfl,wpAny_pure fin⟩))
 ·rw[if_neg hw,yM1 items l u]
  have hsz:sizeOk (.seq (zb5 l u items.toList).toArray):=by
   show (zb5 l u items.toList).toArray.size≤sizeLine
   rw[List.size_toArray,sizeLine_eq]
   exact Nat.le_trans (zp4 l u items.toList).length_le (by rw[Array.length_toList];omega)
  have fin:=hq (.ref s.heap.objs.size) _ _ s.toks (Ext.push hS { cls:=.type "tuple",data:=.seq (zb5 l u items.toList).toArray })
   (.tup zC5.self rfl rfl (by simpa using (hr.mono (zC5.le (zF1 hS (Nat.le_refl _)))).cut l u) (.inl rfl))
  exact wpAny_bind (m:=Builtin.Tuple.tupleExact _) (wpAny_newObj_type (wpAny_pure ⟨_,rfl,wpAny_pure fin⟩) hsz)
theorem zp7 {x:Addr} {ds:List D} {sl:Addr} {vl vu vs:Value} {l u st:Option Int} (hS:Sub H s.heap) (hl':zE1 prog w H s.heap x ds) (hlen:ds.length≤8000000) (hs:s.heap.IsSliceOf sl vl vu vs) (pl:IsPart vl l) (pu:IsPart vu u) (ps:IsPart vs st) (h0:st≠some 0)
  {ys:List D} (hy:∀ items:Array Value,RepL prog w H items.toList ds→RepL prog w H (slicePick items l u st).toList ys)
  (hq:zL4 prog w H s (.ownL ys) Q):wpAny (model prog w) A (getItem (.ref x) (.ref sl)) Q E s:=by
 refine xe hl' fun items Y0=>?_;have hp:=Y0.1;have hr:=Y0.2;try clear hl';try clear Y0
 have e1:=hr.length
 simp only[Array.length_toList] at e1
 refine wpAny_getItem_list_slice hp.isList hs pl pu ps h0 ?_ (by rw[sizeLine_eq];omega)
 exact hq _ _ _ s.toks (Ext.pushOut hS _) ⟨_,rfl,zD7 _,zF1 hS (Nat.le_refl _),_,⟨0,Heap.get?_push_size _ rfl⟩,hy items hr⟩
set_option tactic.hygienic true in
theorem yZ9 {x:Str} {t:Tok} {sl:Addr} {vl vu:Value} {l u:Option Int} (hS:Sub H s.heap) (hlen:x.cps.toList.length≤8000000) (hs:s.heap.IsSliceOf sl vl vu .none) (pl:zO1 vl l) (pu:zO1 vu u)
  (hl:∀ i,l=some i→0≤i) (hu:∀ i,u=some i→0≤i) (hq:zL4 prog w H s (.val (.str ⟨(zb5 l u x.cps.toList).toArray⟩)) Q):wpAny (model prog w) A (getItem (.str x t) (.ref sl)) Q E s:=by
 refine xe pl.pv fun p Y0=>?_;obtain rfl:=Y0.1;obtain rfl:=Y0.2;try clear Y0
 refine xe pu.pv fun q Y0=>?_;obtain rfl:=Y0.1;obtain rfl:=Y0.2;try clear Y0
 refine xe (id hs) fun os Y0=>?_;have hos:=Y0.1;have hcs:=Y0.2.1;have hds:=Y0.2.2;try clear Y0
 refine wpAny_getItem_str_slice (l:=p) (u:=q) (st:=none) ⟨os,hos,hcs,hds⟩ rfl ?_
 have ei:slicePicked x p q none=(List.range (hiN (q.map (·.1)) x.length - loN (p.map (·.1)) x.length)).map (loN (p.map (·.1)) x.length+·):=yZ8 _ _ _ hl hu
 have ep:(slicePicked x p q none).filterMap (x.cps[·]?)=zb5 (p.map (·.1)) (q.map (·.1)) x.cps.toList:=by
  rw[ei,pick_run,← za0,Array.length_toList];rfl
 unfold sliceMade
 split
 ·rename_i hw
  have hw':(slicePicked x p q none).length=x.length:=by simpa using hw
  rw[ei,List.length_map,List.length_range] at hw'
  rw[zp5 (l:=p.map (·.1)) (u:=q.map (·.1)) (xs:=x.cps.toList) hw'] at hq
  exact hq _ H s.heap s.toks (Ext.refl hS) (.str _ _)
 ·refine ⟨?_,?_⟩
  ·rw[ep]
   show (zb5 _ _ _).toArray.size≤sizeLine
   rw[List.size_toArray,sizeLine_eq]
   exact Nat.le_trans (zp4 ..).length_le (by omega)
  ·rw[ep]
   exact hq _ H s.heap _ (Ext.refl hS) (.str _ _)
theorem yz0 {sl:Addr} {vl vu:Value} {l u:Option Int} (hS:Sub H s.heap) (ra:Rep prog w H a da) (hs:s.heap.IsSliceOf sl vl vu .none) (pl:zO1 vl l) (pu:zO1 vu u) (h:zA1 call (z38 l u da)=some r)
  (hq:zL4 prog w H s r Q):wpAny (model prog w) A (getItem a (.ref sl)) Q E s:=by
 cases da with
 | tup ds =>
  have Y0:=iN h;have hb:=Y0.1;have h1:=Y0.2;try clear Y0
  refine xe (ib h1) fun xs Y0=>?_;have hx:=Y0.1;have h2:=Y0.2;try clear Y0
  cases h2
  have Y0:=zp3 hx;obtain rfl:=Y0.1;have h1:=Y0.2.1;have h2:=Y0.2.2;try clear Y0
  exact yD6 hS ra (zD0 hb) hs pl pu h1 h2 hq
 | list ds =>
  have Y0:=iN h;have hb:=Y0.1;have h1:=Y0.2;try clear Y0
  refine xe (ib h1) fun xs Y0=>?_;have hx:=Y0.1;have h2:=Y0.2;try clear Y0
  cases h2
  have Y0:=zp3 hx;obtain rfl:=Y0.1;have h1:=Y0.2.1;have h2:=Y0.2.2;try clear Y0
  refine xe ra.list_ref fun x Y0=>?_;obtain rfl:=Y0;try clear Y0
  exact zp7 hS (ra.listAt hS) (zD0 hb) hs pl.is pu.is .none (by simp) (fun items hr=>by
   rw[zv7 items l u h1 h2];exact hr.cut l u) hq
 | str x =>
  have Y0:=iN h;have hb:=Y0.1;have h1:=Y0.2;try clear Y0
  refine xe (ib h1) fun xs Y0=>?_;have hx:=Y0.1;have h2:=Y0.2;try clear Y0
  cases h2
  have Y0:=zp3 hx;obtain rfl:=Y0.1;have h1:=Y0.2.1;have h2:=Y0.2.2;try clear Y0
  refine xe ra.inv fun t Y0=>?_;obtain rfl:=Y0;try clear Y0
  exact yZ9 hS (zD0 hb) hs pl pu h1 h2 hq
 | _=>exact nS h
theorem xP3 {sl:Addr} {vs:Value} {ds:List D} (hS:Sub H s.heap) (ra:Rep prog w H a (.list ds)) (hlen:ds.length≤8000000) (hs:s.heap.IsSliceOf sl .none .none vs) (ps:zO1 vs (some (-1)))
  (hq:zL4 prog w H s (.ownL ds.reverse) Q):wpAny (model prog w) A (getItem a (.ref sl)) Q E s:=by
 refine xe ra.list_ref fun x Y0=>?_;obtain rfl:=Y0;try clear Y0
 exact zp7 hS (ra.listAt hS) hlen hs .none .none ps.is (by simp) (fun items hr=>by rw[krv_pick];simpa using hr.reverse) hq
end
end Mine
namespace Mine
open PySem PySem.W PyProof.Rows PySem.Calls PySem.Builtin
theorem Rho.lookup_set (ρ:Rho) (x y:Str) (e:Ent):(ρ.set x e).lookup y=if y=x then some e else ρ.lookup y:=by
 induction ρ with
 | nil =>
  by_cases h:y=x
  ·subst h;simp[Rho.set]
  ·have hb:(y == x)=false:=beq_eq_false_iff_ne.mpr h
   simp[Rho.set,List.lookup_cons,h,hb]
 | cons p r ih =>
  obtain ⟨z,f⟩:=p
  unfold Rho.set
  by_cases hzx:z=x
  ·subst hzx
   by_cases h:y=z
   ·subst h;simp
   ·have hb:(y == z)=false:=beq_eq_false_iff_ne.mpr h
    simp[List.lookup_cons,h,hb]
  ·rw[if_neg (by simpa using hzx)]
   by_cases h:y=z
   ·subst h;simp[hzx]
   ·have hb:(y == z)=false:=beq_eq_false_iff_ne.mpr h
    simp only[List.lookup_cons,hb,ih]
set_option tactic.hygienic true in
theorem zB6.keeps {env:Env} {h h':Heap} {x:Str} {v:Value} (n:zB6 env h x v) (hk:∀ b o,(b=env.locals∨∃ y,env.cells.lookup y=some b)→h.get? b=some o→h'.get? b=some o):zB6 env h' x v:=by
 unfold zB6 at n ⊢
 split at n
 ·rename_i e;refine xe n fun m Y0=>?_;have h1:=Y0.1;have h2:=Y0.2;try clear n;try clear Y0;exact ⟨m,h1.at fun o q=>hk _ o (.inl rfl) q,h2⟩
 ·refine xe n fun c Y0=>?_;have h1:=Y0.1;refine xe Y0.2 fun o Y1=>?_;have h2:=Y1.1;have h3:=Y1.2;try clear n;try clear Y0 Y1;exact ⟨c,h1,o,hk _ o (.inr ⟨_,h1⟩) h2,h3⟩
 ·refine xe n fun c Y0=>?_;have h1:=Y0.1;refine xe Y0.2 fun o Y1=>?_;have h2:=Y1.1;have h3:=Y1.2;try clear n;try clear Y0 Y1;exact ⟨c,h1,o,hk _ o (.inr ⟨_,h1⟩) h2,h3⟩
 ·exact n
section
variable {prog:Program} {w:World} {H H':PH} {h h':Heap} {env:Env} {ρ:Rho} {O:zB1}
theorem zQ4.keeps {O':zB1} {x:Str} {v:Value} {e:Ent} (n:zQ4 prog w H h O x v e) (le:PLe H H') (hO:O' x=O x) (hk:∀ b o,O x=some b→h.get? b=some o→h'.get? b=some o):zQ4 prog w H' h' O' x v e:=by
 cases e with
 | val d=>exact Rep.mono le n
 | ownL ds=>obtain ⟨a,h1,h2,h3⟩:=n;exact ⟨a,h1,by rw[hO];exact h2,h3.keeps le fun o q=>hk _ o h2 q⟩
 | bor ds=>obtain ⟨a,h1,h2,h3⟩:=n;exact ⟨a,h1,by rw[hO];exact h2,h3.keeps le fun o q=>hk _ o h2 q⟩
 | ownD es=>obtain ⟨a,h1,h2,h3⟩:=n;exact ⟨a,h1,by rw[hO];exact h2,h3.keeps le fun o q=>hk _ o h2 q⟩
 | newO c fs=>obtain ⟨dx,h2,a,es,n,h3,h4,h5,h6⟩:=n;exact ⟨dx,by rw[hO];exact h2,a,es,n,h3,le _ _ h4,hk _ _ h2 h5,h6.mono le⟩
theorem Heap.Ns.live {h:Heap} {a:Addr} {m} (x:h.Ns a m):h.get? a≠none:=by refine xe x fun o Y0=>?_;refine xe Y0 fun uu Y1=>?_;refine xe Y1 fun uu Y2=>?_;have e:=Y2.1;try clear x;try clear Y0 Y1 Y2;rw[e];exact fun z=>nomatch z
theorem zE8 {h:Heap} {a:Addr} {v} (x:h.IsCell a v):h.get? a≠none:=by refine xe x fun o Y0=>?_;have e:=Y0.1;try clear x;try clear Y0;rw[e];exact fun z=>nomatch z
theorem zL5 {h h':Heap} (hk:∀ b o,h.get? b=some o→h'.get? b=some o) {a:Addr} (x:h.get? a≠none):h'.get? a≠none:=by
 cases e:h.get? a with
 | none=>exact absurd e x
 | some o=>rw[hk a o e];exact fun z=>nomatch z
theorem St.ext (x:St prog w H env ρ O h) (e:Ext H h H' h'):St prog w H' env ρ O h' where
 sub:=e.sub
 ns:=let ⟨m,q⟩:=x.ns;⟨m,q.at fun o q=>e.keep _ o q⟩
 names:=fun y f hy hf=>let ⟨v,q1,q2⟩:=x.names y f hy hf;⟨v,q1.keeps fun b o uu q=>e.keep b o q,q2.keeps e.ext rfl fun b o uu q=>e.keep b o q⟩
 frL:=by
  cases q:H' env.locals with
  | none=>rfl
  | some o =>
   have:=e.new _ x.frL (by rw[q];exact fun z=>nomatch z)
   refine xe x.ns fun m q=>?_
   exact absurd this (Heap.Ns.live q)
 cells:=fun y c hy=>by
  have Y0:=x.cells y c hy;have q1:=Y0.1;have q2:=Y0.2.1;refine xe Y0.2.2 fun v q3=>?_;try clear Y0
  refine ⟨?_,q2,v,q3.keeps e.keep⟩
  cases q:H' c with
  | none=>rfl
  | some o =>
   have:=e.new _ q1 (by rw[q];exact fun z=>nomatch z)
   exact absurd this (zE8 q3)
 apC:=x.apC
 hasC:=x.hasC
 owns:=fun y a hy=>by
  have Y0:=x.owns y a hy;have q1:=Y0.1;have q2:=Y0.2.1;have q3:=Y0.2.2.1;have q4:=Y0.2.2.2;try clear Y0
  refine ⟨?_,q2,q3,zL5 e.keep q4⟩
  cases q:H' a with
  | none=>rfl
  | some o =>
   have:=e.new _ q1 (by rw[q];exact fun z=>nomatch z)
   exact absurd this q4
 apO:=x.apO
theorem Ext.go {T:Addr→Prop} (e:Ext H h H' h'):Go T H O h H' O h' :=
 ⟨e.ext,fun a q1 q2=>.inl (e.new a q1 q2),fun b o q uu=>e.keep b o q,fun b q=>zL5 e.keep q,fun x a q=>.inl ⟨x,q⟩⟩
theorem St.upd (st:St prog w H env ρ O h) {x:Str} {e:Ent} {a':Option Addr} (le:PLe H H') (sub:Sub H' h')
  (new:∀ b,H b=none→H' b≠none→b≠env.locals∧(∀ y,env.cells.lookup y≠some b)∧∀ y,y≠x→O y≠some b)
  (nm:∀ y v,y≠x→zB6 env h y v→zB6 env h' y v)
  (obj:∀ y b o,y≠x→O y=some b→h.get? b=some o→h'.get? b=some o)
  (ns:∃ m,h'.Ns env.locals m) (cl:∀ y c,env.cells.lookup y=some c→∃ v,h'.IsCell c v)
  (sz:∀ b,h.get? b≠none→h'.get? b≠none)
  (hx:seen env x→∃ v,zB6 env h' x v∧zQ4 prog w H' h' (O.upd x a') x v e)
  (ha:∀ b,a'=some b→H' b=none∧b≠env.locals∧(∀ y,env.cells.lookup y≠some b)∧h'.get? b≠none∧∀ y,y≠x→O y≠some b) :
  St prog w H' env (ρ.set x e) (O.upd x a') h' where
 sub:=sub
 ns:=ns
 names:=fun y f hy hf=>by
  rw[Rho.lookup_set] at hf
  by_cases q:y=x
  ·rw[if_pos q] at hf;cases hf;subst q;exact hx hy
  ·rw[if_neg q] at hf
   refine xe (st.names y f hy hf) fun v Y0=>?_;have q1:=Y0.1;have q2:=Y0.2;try clear Y0
   exact ⟨v,nm y v q q1,q2.keeps le (by unfold zB1.upd;rw[if_neg q]) fun b o=>obj y b o q⟩
 frL:=by
  cases q:H' env.locals with
  | none=>rfl
  | some o=>exact absurd rfl (new _ st.frL (by rw[q];exact fun z=>nomatch z)).1
 cells:=fun y c hy=>by
  have Y0:=st.cells y c hy;have q1:=Y0.1;have q2:=Y0.2.1;refine xe Y0.2.2 fun v q3=>?_;try clear Y0
  refine ⟨?_,q2,cl y c hy⟩
  cases q:H' c with
  | none=>rfl
  | some o=>exact absurd hy ((new _ q1 (by rw[q];exact fun z=>nomatch z)).2.1 y)
 apC:=st.apC
 hasC:=st.hasC
 owns:=fun y a hy=>by
  unfold zB1.upd at hy
  by_cases q:y=x
  ·rw[if_pos q] at hy
   have Y0:=ha a hy;have h1:=Y0.1;have h2:=Y0.2.1;have h3:=Y0.2.2.1;have h4:=Y0.2.2.2.1;try clear Y0
   exact ⟨h1,h2,h3,h4⟩
  ·rw[if_neg q] at hy
   have Y0:=st.owns y a hy;have q1:=Y0.1;have q2:=Y0.2.1;have q3:=Y0.2.2.1;have q4:=Y0.2.2.2;try clear Y0
   refine ⟨?_,q2,q3,sz _ q4⟩
   cases q':H' a with
   | none=>rfl
   | some o=>exact absurd hy ((new _ q1 (by rw[q'];exact fun z=>nomatch z)).2.2 y q)
 apO:=fun y z a hy hz=>by
  unfold zB1.upd at hy hz
  by_cases q:y=x<;>by_cases q':z=x
  ·rw[q,q']
  ·rw[if_pos q] at hy;rw[if_neg q'] at hz;exact absurd hz ((ha a hy).2.2.2.2 z q')
  ·rw[if_neg q] at hy;rw[if_pos q'] at hz;exact absurd hy ((ha a hz).2.2.2.2 y q)
  ·rw[if_neg q] at hy;rw[if_neg q'] at hz;exact st.apO y z a hy hz
theorem St.own_get (st:St prog w H env ρ O h) {x:Str} {ds:List D} (hs:seen env x) (hl:ρ.lookup x=some (.ownL ds)):∃ a,zB6 env h x (.ref a)∧O x=some a∧zE1 prog w H h a ds:=by
 refine xe (st.names x _ hs hl) fun v Y0=>?_;have h1:=Y0.1;refine xe Y0.2 fun a Y1=>?_;obtain rfl:=Y1.1;have h2:=Y1.2.1;have h3:=Y1.2.2;try clear Y0 Y1
 exact ⟨a,h1,h2,h3⟩
theorem St.bor_get (st:St prog w H env ρ O h) {x:Str} {ds:List D} (hs:seen env x) (hl:ρ.lookup x=some (.bor ds)):∃ a,zB6 env h x (.ref a)∧O x=some a∧zE1 prog w H h a ds:=by
 refine xe (st.names x _ hs hl) fun v Y0=>?_;have h1:=Y0.1;refine xe Y0.2 fun a Y1=>?_;obtain rfl:=Y1.1;have h2:=Y1.2.1;have h3:=Y1.2.2;try clear Y0 Y1
 exact ⟨a,h1,h2,h3⟩
theorem St.ownD_get (st:St prog w H env ρ O h) {x:Str} {ds:List (D×D)} (hs:seen env x) (hl:ρ.lookup x=some (.ownD ds)):∃ a,zB6 env h x (.ref a)∧O x=some a∧DictAt prog w H h a ds:=by
 refine xe (st.names x _ hs hl) fun v Y0=>?_;have h1:=Y0.1;refine xe Y0.2 fun a Y1=>?_;obtain rfl:=Y1.1;have h2:=Y1.2.1;have h3:=Y1.2.2;try clear Y0 Y1
 exact ⟨a,h1,h2,h3⟩
theorem St.freeze (st:St prog w H env ρ O h) {x:Str} {a:Addr} {o:Obj} {d:D} (hn:zB6 env h x (.ref a)) (ho:O x=some a) (hs:Sub (zC5 H a o) h) (le:PLe H (zC5 H a o)) (hr:Rep prog w (zC5 H a o) (.ref a) d) :
  St prog w (zC5 H a o) env (ρ.set x (.val d)) (O.upd x none) h∧Go (TO O) H O h (zC5 H a o) (O.upd x none) h:=by
 have Y0:=st.owns x a ho;have q1:=Y0.1;have q2:=Y0.2.1;have q3:=Y0.2.2.1;have q4:=Y0.2.2.2;try clear Y0
 refine ⟨st.upd le hs (fun b e e'=>?_) (fun y v uu n=>n) (fun y b o' uu uu e=>e) st.ns (fun y c hy=>(st.cells y c hy).2.2) (fun uu e=>e) (fun uu=>⟨_,hn,hr⟩) (fun b e=>nomatch e),?_⟩
 ·have:=zC5.new e e';subst this
  exact ⟨q2,q3,fun y hy q=>hy (st.apO _ _ _ q ho)⟩
 ·refine ⟨le,fun b e e'=>.inr ⟨x,by rw[zC5.new e e'];exact ho⟩,fun b o' e uu=>e,fun uu e=>e,fun y b q=>.inl ⟨y,?_⟩⟩
  unfold zB1.upd at q
  split at q
  ·cases q
  ·exact q
set_option tactic.hygienic true in
theorem St.mutate (st:St prog w H env ρ O h) {x:Str} {a:Addr} {e:Ent} {v:Value} (hn:zB6 env h x v) (ho:O x=some a) (sb:Heap.SameBut a h h') (hlv:h'.get? a≠none) (he:∀ O':zB1,O' x=some a→zQ4 prog w H h' O' x v e) :
  St prog w H env (ρ.set x e) O h'∧Go (TO O) H O h H O h':=by
 have Y0:=st.owns x a ho;have q1:=Y0.1;have q2:=Y0.2.1;have q3:=Y0.2.2.1;have q4:=Y0.2.2.2;try clear Y0
 have sub':Sub H h':=fun b o q=>by
  rw[sb.2 b (fun e'=>by rw[e',q1] at q;cases q)];exact st.sub b o q
 have keepN:∀ b o,(b=env.locals∨∃ y,env.cells.lookup y=some b)→h.get? b=some o→h'.get? b=some o:=fun b o hb q=>by
  rw[sb.2 b (fun e'=>by
   subst e'
   rcases hb with hb | ⟨y,hb⟩
   ·exact q2 hb
   ·exact q3 y hb)];exact q
 have lv:∀ b,h.get? b≠none→h'.get? b≠none:=fun b q=>by
  by_cases e:b=a
  ·rw[e];exact hlv
  ·rw[sb.2 b e];exact q
 have eO:O.upd x (some a)=O:=by
  funext y;unfold zB1.upd;split
  ·rename_i q;rw[q];exact ho.symm
  ·rfl
 have:=st.upd (h':=h') (x:=x) (e:=e) (a':=some a) (PLe.refl H) sub' (fun b q q'=>absurd q q') (fun y v uu n=>n.keeps keepN)
  (fun y b o hy hb q=>by rw[sb.2 b (fun e'=>by subst e';exact hy (st.apO _ _ _ hb ho))];exact q)
  (let ⟨m,q⟩:=st.ns;⟨m,q.at fun o q=>keepN _ o (.inl rfl) q⟩) (fun y c hy=>by
   have Y0:=st.cells y c hy;refine xe Y0.2.2 fun v Y1=>?_;refine xe Y1 fun o Y2=>?_;have h1:=Y2.1;have h2:=Y2.2;try clear Y0 Y1 Y2
   exact ⟨v,o,keepN _ o (.inr ⟨y,hy⟩) h1,h2⟩) lv
  (fun uu=>⟨v,hn.keeps keepN,he _ (by rw[eO];exact ho)⟩)
  (fun b e=>by cases e;exact ⟨q1,q2,q3,hlv,fun y hy q=>hy (st.apO _ _ _ q ho)⟩)
 rw[eO] at this
 refine ⟨this,PLe.refl H,fun b q q'=>absurd q q',fun b o q hb=>?_,lv,fun y b q=>.inl ⟨y,q⟩⟩
 rw[sb.2 b (fun e'=>by subst e';exact hb ⟨x,ho⟩)];exact q
end
end Mine
namespace Mine
open PySem PySem.W PyProof.Rows PySem.Calls PySem.Builtin
structure EnvOK (env:Env) (sc:Scope):Prop where
 fk:env.scope.kind=.function
 kind:∀ x,env.kindOf x=sc.names.lookup x∨(sc.names.lookup x=some .free∧env.kindOf x=some .cell)
 glob:env.globals=mainGlobals
 blt:env.builtins=builtinsNs
 nm:∀ x,seen env x→(x == ("__debug__":Str))=false∧(x == ("__classdict__":Str))=false
noncomputable def yk4 (h:Heap) (x:Str) (v:Value):Prop :=
 (∃ mg,h.Ns mainGlobals mg∧mg x=some v)∨(∃ mg mb,h.Ns mainGlobals mg∧mg x=none∧h.Ns builtinsNs mb∧mb x=some v)
noncomputable def TE (st:Bool) (O:zB1):Addr→Prop:=fun b=>st=true∧∃ x,O x=some b
section
variable (prog:Program) (w:World)
structure After (sf:Bool) (env:Env) (H:PH) (ρ:Rho) (O:zB1) (h:Heap) (H':PH) (ρ':Rho) (O':zB1) (h':Heap):Prop where
 go:Go (TE sf O) H O h H' O' h'
 st:St prog w H' env ρ' O' h'
 sub:∀ x a,O' x=some a→O x=some a
 same:sf=false→ρ'=ρ∧O'=O
 bound:∀ x a,O x=some a→h.get? a≠none
 bor:∀ x e',ρ'.lookup x=some e'→zG8 e'=true→∃ e,ρ.lookup x=some e∧zG8 e=true
end
section
variable {prog:Program} {w:World} {sf:Bool} {env:Env} {H H' H'':PH} {ρ ρ' ρ'':Rho} {O O' O'':zB1} {h h' h'':Heap} {v:Value} {r:R}
theorem After.refl (x:St prog w H env ρ O h):After prog w sf env H ρ O h H ρ O h:=⟨Go.refl,x,fun uu uu e=>e,fun uu=>⟨rfl,rfl⟩,fun uu uu e=>(x.owns _ _ e).2.2.2,fun uu e h1 h2=>⟨e,h1,h2⟩⟩
theorem After.trans (x:After prog w sf env H ρ O h H' ρ' O' h') (y:After prog w sf env H' ρ' O' h' H'' ρ'' O'' h''):After prog w sf env H ρ O h H'' ρ'' O'' h'' where
 go:=x.go.trans y.go fun b hb uu=>⟨hb.1,let ⟨n,q⟩:=hb.2;⟨n,x.sub n b q⟩⟩
 st:=y.st
 sub:=fun n a e=>x.sub n a (y.sub n a e)
 same:=fun e=>by
  have Y0:=x.same e;have h1:=Y0.1;have h2:=Y0.2;try clear Y0
  have Y0:=y.same e;have h3:=Y0.1;have h4:=Y0.2;try clear Y0
  exact ⟨h3.trans h1,h4.trans h2⟩
 bound:=x.bound
 bor:=fun n e' h1 h2=>by
  refine xe (y.bor n e' h1 h2) fun e Y0=>?_;have h3:=Y0.1;have h4:=Y0.2;try clear Y0
  exact x.bor n e h3 h4
theorem After.of_ext (x:St prog w H env ρ O h) (e:Ext H h H' h'):After prog w sf env H ρ O h H' ρ O h' :=
 ⟨e.go,x.ext e,fun uu uu q=>q,fun uu=>⟨rfl,rfl⟩,fun uu uu e=>(x.owns _ _ e).2.2.2,fun uu e h1 h2=>⟨e,h1,h2⟩⟩
theorem After.ext (x:After prog w sf env H ρ O h H' ρ' O' h') (e:Ext H' h' H'' h''):After prog w sf env H ρ O h H'' ρ' O' h'' :=
 x.trans (After.of_ext x.st e)
theorem RAt.lo {h₀ h₁:Heap} (x:RAt prog w H h h₁ v r) (hl:∀ b,h₀.get? b≠none→h₁.get? b≠none):RAt prog w H h h₀ v r:=by
 cases r with
 | val d=>exact x
 | ownL ds=>refine xe x fun a Y0=>?_;have h1:=Y0.1;have h2:=Y0.2.1;have h3:=Y0.2.2;try clear x;try clear Y0;exact ⟨a,h1,Classical.byContradiction fun z=>hl a z h2,h3⟩
 | ownD ds=>refine xe x fun a Y0=>?_;have h1:=Y0.1;have h2:=Y0.2.1;have h3:=Y0.2.2;try clear x;try clear Y0;exact ⟨a,h1,Classical.byContradiction fun z=>hl a z h2,h3⟩
theorem St.put (x:St prog w H env ρ O h) {a:Addr} {o:Obj} (h1:Sub (zC5 H a o) h) (le:PLe H (zC5 H a o)) (hO:∀ y,O y≠some a) (hl:a≠env.locals) (hc:∀ y,env.cells.lookup y≠some a):St prog w (zC5 H a o) env ρ O h where
 sub:=h1
 ns:=x.ns
 names:=fun y f hy hf=>let ⟨v,q1,q2⟩:=x.names y f hy hf;⟨v,q1,q2.keeps le rfl fun uu uu uu q=>q⟩
 frL:=by
  cases q:zC5 H a o env.locals with
  | none=>rfl
  | some o'=>exact absurd (zC5.new x.frL (by rw[q];exact fun z=>nomatch z)).symm hl
 cells:=fun y c hy=>by
  have Y0:=x.cells y c hy;have q1:=Y0.1;have q2:=Y0.2.1;have q3:=Y0.2.2;try clear Y0
  refine ⟨?_,q2,q3⟩
  cases q:zC5 H a o c with
  | none=>rfl
  | some o' =>
   have e:c=a:=zC5.new q1 (o:=o) (by rw[q];exact fun z=>nomatch z)
   subst e;exact absurd hy (hc y)
 apC:=x.apC
 hasC:=x.hasC
 owns:=fun y b hy=>by
  have Y0:=x.owns y b hy;have q1:=Y0.1;have q2:=Y0.2.1;have q3:=Y0.2.2.1;have q4:=Y0.2.2.2;try clear Y0
  refine ⟨?_,q2,q3,q4⟩
  cases q:zC5 H a o b with
  | none=>rfl
  | some o' =>
   have e:b=a:=zC5.new q1 (o:=o) (by rw[q];exact fun z=>nomatch z)
   subst e;exact absurd hy (hO y)
 apO:=x.apO
theorem After.put (x:After prog w sf env H ρ O h H' ρ' O' h') {a:Addr} {o:Obj} (hs:St prog w H env ρ O h) (ha:h.get? a=none) (h1:Sub (zC5 H' a o) h') (le:PLe H' (zC5 H' a o)) :
  After prog w sf env H ρ O h (zC5 H' a o) ρ' O' h' where
 go:=⟨x.go.ext.trans le,fun b e e'=>by
  cases q:H' b with
  | some o'=>exact x.go.new b e (by rw[q];exact fun z=>nomatch z)
  | none=>rw[zC5.new q e'];exact .inl ha,x.go.keep,x.go.live,x.go.own⟩
 st:=x.st.put h1 le (fun y e=>x.bound y a (x.sub y a e) ha) (fun e=>by
   refine xe hs.ns fun m q=>?_
   exact Heap.Ns.live q (by rw[← e];exact ha)) (fun y e=>by
   have Y0:=hs.cells y a e;refine xe Y0.2.2 fun v q=>?_;try clear Y0
   exact zE8 q ha)
 sub:=x.sub
 same:=x.same
 bound:=x.bound
 bor:=x.bor
theorem After.freeze (x:After prog w sf env H ρ O h H' ρ' O' h') (hs:St prog w H env ρ O h) (hr:RAt prog w H' h' h v r):∃ H'',After prog w sf env H ρ O h H'' ρ' O' h'∧Rep prog w H'' v r.toD∧PLe H' H'':=by
 cases r with
 | val d=>exact ⟨H',x,hr,PLe.refl _⟩
 | ownL ds =>
  refine xe hr fun a Y0=>?_;obtain rfl:=Y0.1;have ha:=Y0.2.1;have hn:=Y0.2.2.1;have hl:=Y0.2.2.2;try clear hr;try clear Y0
  refine xe (hl.freeze x.st.sub hn) fun o Y0=>?_;have h1:=Y0.1;have h2:=Y0.2.1;have h3:=Y0.2.2;try clear Y0
  exact ⟨_,x.put hs ha h1 h2,h3,h2⟩
 | ownD es =>
  refine xe hr fun a Y0=>?_;obtain rfl:=Y0.1;have ha:=Y0.2.1;have hn:=Y0.2.2.1;have hl:=Y0.2.2.2;try clear hr;try clear Y0
  refine xe (hl.freeze x.st.sub hn) fun o Y0=>?_;have h1:=Y0.1;have h2:=Y0.2.1;have h3:=Y0.2.2;try clear Y0
  exact ⟨_,x.put hs ha h1 h2,h3,h2⟩
end
section
variable (prog:Program) (w:World) (KH:PH) (call:zB3) (k:Nat)
noncomputable def OnR (sf:Bool) (env:Env) (H:PH) (ρ:Rho) (O:zB1) (s:Shared) (ρ':Rho) (r:R) (Q:Value→Shared→Prop):Prop :=
 ∀ v H' O' h' (tk:Tk),After prog w sf env H ρ O s.heap H' ρ' O' h'→RAt prog w H' h' s.heap v r→Q v { s with heap:=h',toks:=tk.1,drawn:=tk.2 }
noncomputable def OnV (sf:Bool) (env:Env) (H:PH) (ρ:Rho) (O:zB1) (s:Shared) (ρ':Rho) (d:D) (Q:Value→Shared→Prop):Prop :=
 ∀ v H' O' h' (tk:Tk),After prog w sf env H ρ O s.heap H' ρ' O' h'→Rep prog w H' v d→Q v { s with heap:=h',toks:=tk.1,drawn:=tk.2 }
noncomputable def OnS (sf:Bool) (env:Env) (H:PH) (ρ:Rho) (O:zB1) (s:Shared) (ρ':Rho) (Q:Shared→Prop):Prop :=
 ∀ H' O' h' (tk:Tk),After prog w sf env H ρ O s.heap H' ρ' O' h'→Q { s with heap:=h',toks:=tk.1,drawn:=tk.2 }
noncomputable def Sim (sf:Bool) (sc:Scope) (m:Env→Sem Value) (p:Rho→Prc (R×Rho)):Prop :=
 ∀ (A:Around) (env:Env) (H:PH) (ρ:Rho) (O:zB1) (s:Shared) (r:R) (ρ':Rho) (Q:Value→Shared→Prop) (E:Value→Shared→Prop),
  zA1 call (p ρ)=some (r,ρ')→EnvOK env sc→Room A k→PLe KH H→St prog w H env ρ O s.heap→OnR prog w sf env H ρ O s ρ' r Q→wpAny (model prog w) A (m env) Q E s
noncomputable def zS9 (sf:Bool) (sc:Scope) (m:Env→Sem Value) (p:Rho→Prc (R×Rho)):Prop :=
 ∀ (A:Around) (env:Env) (H:PH) (ρ:Rho) (O:zB1) (s:Shared) (r:R) (ρ':Rho) (Q:Value→Shared→Prop) (E:Value→Shared→Prop),
  zA1 call (p ρ)=some (r,ρ')→EnvOK env sc→Room A k→PLe KH H→St prog w H env ρ O s.heap→OnV prog w sf env H ρ O s ρ' r.toD Q→wpAny (model prog w) A (m env) Q E s
noncomputable def zR4 (sf:Bool) (sc:Scope) (m:Env→Sem Bool) (p:Rho→Prc (Bool×Rho)):Prop :=
 ∀ (A:Around) (env:Env) (H:PH) (ρ:Rho) (O:zB1) (s:Shared) (b:Bool) (ρ':Rho) (Q:Bool→Shared→Prop) (E:Value→Shared→Prop),
  zA1 call (p ρ)=some (b,ρ')→EnvOK env sc→Room A k→PLe KH H→St prog w H env ρ O s.heap→OnS prog w sf env H ρ O s ρ' (Q b)→wpAny (model prog w) A (m env) Q E s
end
section
variable {prog:Program} {w:World} {KH:PH} {call:zB3} {k:Nat} {sf:Bool} {sc:Scope}
theorem Sim.v {m:Env→Sem Value} {p:Rho→Prc (R×Rho)} (x:Sim prog w KH call k sf sc m p):zS9 prog w KH call k sf sc m p:=by
 intro A env H ρ O s r ρ' Q E hi he hr hk hs hq
 refine x A env H ρ O s r ρ' Q E hi he hr hk hs fun v H' O' h' tk a rr=>?_
 refine xe (a.freeze hs rr) fun H'' Y0=>?_;have a':=Y0.1;have rep:=Y0.2.1;have le:=Y0.2.2;try clear Y0
 exact hq v H'' O' h' tk a' rep
theorem After.back {env:Env} {H H':PH} {ρ ρ':Rho} {O O':zB1} {s:Shared} {h':Heap} {tk:Tk} {r:R} {Q:Value→Shared→Prop} (a:After prog w sf env H ρ O s.heap H' ρ' O' h')
  (hq:OnR prog w sf env H ρ O s ρ' r Q):zL4 prog w H' { s with heap:=h',toks:=tk.1,drawn:=tk.2 } r Q:=by
 intro v H2 h2 tk2 e rr
 exact hq v H2 O' h2 (tk2,tk.2) (a.ext e) (rr.lo a.go.live)
theorem After.backT {env:Env} {H H':PH} {ρ ρ':Rho} {O O':zB1} {s:Shared} {h':Heap} {tk:Tk} {r:R} {Q:Value→Shared→Prop} (a:After prog w sf env H ρ O s.heap H' ρ' O' h')
  (hq:OnR prog w sf env H ρ O s ρ' r Q):yU5 prog w H' { s with heap:=h',toks:=tk.1,drawn:=tk.2 } r Q:=by
 intro v H2 h2 tk2 e rr
 exact hq v H2 O' h2 tk2 (a.ext e) (rr.lo a.go.live)
theorem OnR.of {env:Env} {H:PH} {ρ ρ' ρ'':Rho} {O:zB1} {s:Shared} {r r':R} {Q:Value→Shared→Prop} (hq:OnR prog w sf env H ρ O s ρ'' r' Q) (e:zA1 call (.pure (r,ρ'))=some (r',ρ'')):OnR prog w sf env H ρ O s ρ' r Q:=by
 cases e;exact hq
theorem OnS.of {env:Env} {H:PH} {ρ ρ' ρ'':Rho} {O:zB1} {s:Shared} {r r':Bool} {Q:Bool→Shared→Prop} (hq:OnS prog w sf env H ρ O s ρ'' (Q r')) (e:zA1 call (.pure (r,ρ'))=some (r',ρ'')):OnS prog w sf env H ρ O s ρ' (Q r):=by
 cases e;exact hq
theorem OnR.t {env:Env} {H H':PH} {ρ ρ' ρ'':Rho} {O O':zB1} {s:Shared} {h':Heap} {tk:Tk} {r:R} {Q:Value→Shared→Prop} (hq:OnR prog w sf env H ρ O s ρ'' r Q) (a:After prog w sf env H ρ O s.heap H' ρ' O' h') :
  OnR prog w sf env H' ρ' O' { s with heap:=h',toks:=tk.1,drawn:=tk.2 } ρ'' r Q:=fun v H2 O2 h2 t2 a2 rr=>hq v H2 O2 h2 t2 (a.trans a2) (rr.lo a.go.live)
theorem OnS.t {env:Env} {H H':PH} {ρ ρ' ρ'':Rho} {O O':zB1} {s:Shared} {h':Heap} {tk:Tk} {Q:Shared→Prop} (hq:OnS prog w sf env H ρ O s ρ'' Q) (a:After prog w sf env H ρ O s.heap H' ρ' O' h') :
  OnS prog w sf env H' ρ' O' { s with heap:=h',toks:=tk.1,drawn:=tk.2 } ρ'' Q:=fun H2 O2 h2 t2 a2=>hq H2 O2 h2 t2 (a.trans a2)
theorem ya0 {ev:Rho→Expr→Prc (R×Rho)} {l r:Expr} {op:Operator} {pos:Pos} (hl:Sim prog w KH call k sf sc (eval l) (fun ρ=>ev ρ l)) (hr:Sim prog w KH call k sf sc (eval r) (fun ρ=>ev ρ r)) :
  Sim prog w KH call k sf sc (eval (.BinOp l op r pos)) (fun ρ=>(ev ρ l).bind fun p=>(ev p.2 r).bind fun q=>(yC0 op p.1.toD q.1.toD).bind fun d=>.pure (d,q.2)):=by
 intro A env H ρ O s r₀ ρ' Q E hi he hro hk hs hq
 refine ibk hi fun p h1 hi=>?_
 refine ibk hi fun q h2 hi=>?_
 refine ibk hi fun d h3 hi=>?_
 cases hi
 refine wpAny_BinOp (hl.v A env H ρ O s p.1 p.2 _ E h1 he hro hk hs fun v1 H1 O1 g1 t1 a1 r1=>?_)
 refine hr.v A env H1 p.2 O1 _ q.1 q.2 _ E h2 he hro (hk.trans a1.go.ext) a1.st fun v2 H2 O2 g2 t2 a2 r2=>?_
 exact yy9 (s:={ s with heap:=g2,toks:=t2.1,drawn:=t2.2 }) a2.st.sub (r1.mono a2.go.ext) r2 h3 (After.back (a1.trans a2) hq)
end
end Mine
namespace Mine
open PySem PySem.W PyProof.Rows PySem.Calls PySem.Builtin
structure KOK (G:PG) (K:Frag) (KH:PH):Prop where
 kh:∀ a o,K.lookup a=some o→KH a=some o
 glob:∀ x v,G.glob x=some v→(x == ("__debug__":Str))=false∧∀ h,Sub KH h→yk4 h x v
 sysm:zp1 KH
 field:∀ c x,G.field c x=true→plainGet K c x=true∧hasDictIn K c=true∧∃ attr,findIn K (.ref c) x=some attr∧noGet K attr=true
 fnk:∀ a F,G.fn a=some F→keepIn K (.ref a)=true
 cls:∀ c g,G.meth c (Str.ofString "__init__")=some g→keepIn K (.ref c)=true∧makesIn K c=true∧findIn K (.ref c) "__init__"=some (some (.ref g))∧typeIn K (.ref g)=some (.type "function")
 sets:∀ c x,G.field c x=true→findIn K (.ref c) "__setattr__"=some (some (.builtin "object.__setattr__"))∧plainOver K c=true∧takerIn K c x=some none∧(clsIn K c).any (·.hasDict)=true
 meth:∀ c m g,G.meth c m=some g→keepIn K (.ref g)=true∧plainGet K c m=true∧findIn K (.ref c) m=some (some (.ref g))∧isFn K (.ref g)=true
theorem KOK.isIn {G:PG} {K:Frag} {KH H:PH} {h:Heap} (kok:KOK G K KH) (le:PLe KH H) (hs:Sub H h):K.In h:=fun a o e=>hs _ _ (le _ _ (kok.kh a o e))
theorem yk5 {KH H:PH} {h:Heap} (le:PLe KH H) (hs:Sub H h):Sub KH h:=fun a o e=>hs _ _ (le _ _ e)
section
variable {prog:Program} {w:World} {G:PG} {K:Frag} {KH:PH} {call:zB3} {k:Nat} {sf:Bool} {sc:Scope} {A:Around} {E:Value→Shared→Prop} {env:Env} {H:PH} {ρ:Rho} {O:zB1} {s:Shared}
set_option tactic.hygienic true in
theorem zJ0 {x:Str} {v:Value} {Q:Value→Shared→Prop} (he:EnvOK env sc) (hn:zB6 env s.heap x v) (hq:Q v s) {pos:Pos} :
  wpAny (model prog w) A (eval (.Name x pos) env) Q E s:=by
 have hsn:seen env x:=by
  unfold zB6 at hn
  unfold Mine.seen
  split at hn
  ·rename_i e;exact .inl e
  ·rename_i e;exact .inr (.inl e)
  ·rename_i e;exact .inr (.inr e)
  ·exact hn.elim
 refine wpAny_Name ?_ (he.nm x hsn).1
 unfold zB6 at hn
 split at hn
 ·rename_i e;refine xe hn fun m Y0=>?_;have h1:=Y0.1;have h2:=Y0.2;try clear hn;try clear Y0;exact wpAny_loadName_local he.fk e h1 h2 hq
 ·rename_i e;refine xe hn fun c Y0=>?_;have h1:=Y0.1;have h2:=Y0.2;try clear hn;try clear Y0;exact wpAny_loadName_cell he.fk e h1 h2 hq
 ·rename_i e;refine xe hn fun c Y0=>?_;have h1:=Y0.1;have h2:=Y0.2;try clear hn;try clear Y0;exact wpAny_loadName_free he.fk e h1 h2 hq (he.nm x hsn).2
 ·exact hn.elim
set_option tactic.hygienic true in
theorem EnvOK.seen (he:EnvOK env sc) {x:Str} (h:zH0 sc x=true):seen env x:=by
 unfold zH0 at h
 rcases he.kind x with e | ⟨_,e⟩
 ·rw[← e] at h
  unfold Mine.seen
  split at h
  ·rename_i q;exact .inl q
  ·rename_i q;exact .inr (.inl q)
  ·rename_i q;exact .inr (.inr q)
  ·cases h
 ·exact .inr (.inl e)
theorem Rep.mono' {H':PH} {v:Value} {d:D} (r:Rep prog w H v d) (le:PLe H H'):Rep prog w H' v d:=Rep.mono le r
theorem yk6 (kok:KOK G K KH) {x:Str} {pos:Pos} (hd:(x == ("__debug__":Str))=false) (hg:sc.names.lookup x=some .globalImplicit) {v:Value} (h1:G.glob x=some v) {Q:Value→Shared→Prop}
  (he:EnvOK env sc) (hk:PLe KH H) (hs:St prog w H env ρ O s.heap) (fin:Q v s):wpAny (model prog w) A (eval (.Name x pos) env) Q E s:=by
 have hk':env.kindOf x=some .globalImplicit:=by
  rcases he.kind x with e | ⟨e,_⟩
  ·exact e.trans hg
  ·rw[hg] at e;cases e
 refine Name_function_global he.fk hk' ?_ hd
 rcases (kok.glob x v h1).2 s.heap (yk5 hk hs.sub) with ⟨mg,q1,q2⟩ | ⟨mg,mb,q1,q2,q3,q4⟩
 ·exact loadGlobal_global (he.glob▸q1) q2 fin
 ·exact loadGlobal_builtin (he.glob▸q1) q2 (he.blt▸q3) q4 fin
theorem After.own {x:Str} {a:Addr} {o:Obj} {d:D} (hs:St prog w H env ρ O s.heap) (q1:zB6 env s.heap x (.ref a)) (q2:O x=some a) (z1:Sub (zC5 H a o) s.heap) (z2:PLe H (zC5 H a o)) (z3:Rep prog w (zC5 H a o) (.ref a) d) :
  After prog w true env H ρ O s.heap (zC5 H a o) (ρ.set x (.val d)) (O.upd x none) s.heap:=by
 have Y0:=hs.freeze q1 q2 z1 z2 z3;have st':=Y0.1;have go:=Y0.2;try clear Y0
 refine ⟨go.weaken fun b hb=>⟨rfl,hb⟩,st',fun y b e=>?_,fun e=>Bool.noConfusion e,fun y b e=>(hs.owns _ _ e).2.2.2,fun y e' h1 h2=>?_⟩
 ·unfold zB1.upd at e
  by_cases q:y=x
  ·rw[if_pos q] at e;cases e
  ·rw[if_neg q] at e;exact e
 ·rw[Rho.lookup_set] at h1
  by_cases q:y=x
  ·rw[if_pos q] at h1;cases h1;cases h2
  ·rw[if_neg q] at h1;exact ⟨e',h1,h2⟩
theorem yk7 (kok:KOK G K KH) {x:Str} {pos:Pos} (hd:(x == ("__debug__":Str))=false):Sim prog w KH call k sf sc (eval (.Name x pos)) (fun ρ=>yC1 G sf sc ρ x):=by
 intro A env H ρ O s r ρ' Q E hi he hro hk hs hq
 rcases iI hi with ⟨hg,hi⟩ | ⟨_,hi⟩
 ·refine ibk hi fun v h1 hi=>?_
  have hq:=hq.of hi
  exact yk6 kok hd hg (io h1) he hk hs (hq v H O s.heap (s.toks,s.drawn) (After.refl hs) (.val v))
 ·refine iTk hi fun hv hi=>?_
  refine ibk hi fun e hl hi=>?_
  have hl:=io hl
  have own:=he.seen hv
  cases e with
  | val d =>
   have hq:=hq.of hi
   refine xe (hs.names x _ own hl) fun v Y0=>?_;have q1:=Y0.1;have q2:=Y0.2;try clear Y0
   exact zJ0 he q1 (hq v H O s.heap (s.toks,s.drawn) (After.refl hs) q2)
  | ownL ds =>
   have Y0:=iT hi;obtain rfl:=Y0.1;have hi:=Y0.2;try clear Y0
   have hq:=hq.of hi
   refine xe (hs.own_get own hl) fun a Y0=>?_;have q1:=Y0.1;have q2:=Y0.2.1;have q3:=Y0.2.2;try clear Y0
   refine xe (q3.freeze hs.sub (hs.owns x a q2).1) fun o Y0=>?_;have z1:=Y0.1;have z2:=Y0.2.1;have z3:=Y0.2.2;try clear Y0
   exact zJ0 he q1 (hq _ _ _ s.heap (s.toks,s.drawn) (.own hs q1 q2 z1 z2 z3) z3)
  | ownD ds =>
   have Y0:=iT hi;obtain rfl:=Y0.1;have hi:=Y0.2;try clear Y0
   have hq:=hq.of hi
   refine xe (hs.ownD_get own hl) fun a Y0=>?_;have q1:=Y0.1;have q2:=Y0.2.1;have q3:=Y0.2.2;try clear Y0
   refine xe (q3.freeze hs.sub (hs.owns x a q2).1) fun o Y0=>?_;have z1:=Y0.1;have z2:=Y0.2.1;have z3:=Y0.2.2;try clear Y0
   exact zJ0 he q1 (hq _ _ _ s.heap (s.toks,s.drawn) (.own hs q1 q2 z1 z2 z3) z3)
  | _=>exact nS hi
theorem z52 {c:Const} {n:Nat} {pos:Pos}:Sim prog w KH call k sf sc (eval (.Constant c n pos)) (fun ρ=>match c with
   | .none=>.pure (.val .none,ρ)
   | .bool b=>.pure (.val (.bool b),ρ)
   | .int i=>.pure (.val (.int i),ρ)
   | .str s=>.pure (.val (.str s),ρ)
   | _=>.fail):=by
 intro A env H ρ O s r ρ' Q E hi he hro hk hs hq
 cases c with
 | none=>cases hi;exact wpAny_Constant_none (hq _ H O s.heap (s.toks,s.drawn) (After.refl hs) .none)
 | bool b=>cases hi;exact wpAny_Constant_bool (hq _ H O s.heap (s.toks,s.drawn) (After.refl hs) (.bool _))
 | int b=>cases hi;exact wpAny_Constant_int (hq _ H O s.heap (_,_) (After.refl hs) (.int _ _))
 | str b=>cases hi;exact wpAny_Constant_str (hq _ H O s.heap (_,_) (After.refl hs) (.str _ _))
 | _=>exact nS hi
theorem yM2 {r:R} {b:Bool} (h:xA9 r=some b):r=.val (.bool b):=by
 cases r with
 | val d =>
  cases d with
  | bool c=>exact Option.some.inj h▸rfl
  | _=>exact nS h
 | _=>exact nS h
theorem z00 {r:R} {b:Int} (h:yy1 r=some b):r=.val (.int b):=by
 cases r with
 | val d=>exact zG4 h▸rfl
 | _=>exact nS h
theorem z53 {t:Prc (R×Rho)} {b:Bool} {ρ':Rho} (h:zA1 call (zM4 t)=some (b,ρ')):zA1 call t=some (.val (.bool b),ρ'):=by
 refine ibp h fun q1 q2 h1 h=>?_
 refine ibk h fun c h2 h=>?_
 cases h
 cases yM2 (io h2)
 exact h1
theorem Sim.bool {m:Env→Sem Value} {p:Rho→Prc (R×Rho)} {b:Bool} {ρ':Rho} {Q:Value→Shared→Prop} (x:Sim prog w KH call k sf sc m p) (hi:zA1 call (zM4 (p ρ))=some (b,ρ')) (he:EnvOK env sc) (hro:Room A k) (hk:PLe KH H) (hs:St prog w H env ρ O s.heap)
  (hq:OnS prog w sf env H ρ O s ρ' (Q (.bool b))):wpAny (model prog w) A (m env) Q E s :=
 x.v A env H ρ O s _ ρ' _ E (z53 hi) he hro hk hs fun v H' O' h' tk a rr=>(show v=.bool b from rr.inv)▸hq H' O' h' tk a
theorem yz1 {ev:Rho→Expr→Prc (R×Rho)} {x:Expr} {pos:Pos} (hx:Sim prog w KH call k sf sc (eval x) (fun ρ=>ev ρ x)) :
  Sim prog w KH call k sf sc (eval (.UnaryOp .Not x pos)) (fun ρ=>(zM4 (ev ρ x)).bind fun p=>.pure (.val (.bool (!p.1)),p.2)):=by
 intro A env H ρ O s r ρ' Q E hi he hro hk hs hq
 refine ibk hi fun q h1 hi=>?_
 have hq:=hq.of hi
 exact wpAny_UnaryOp (hx.bool (ρ:=ρ) h1 he hro hk hs fun H' O' h' tk a=>not_value (wpAny_truthy_bool (hq _ H' O' h' tk a (.bool _))))
theorem yk8 {ev:Rho→Expr→Prc (R×Rho)} {x:Expr} {pos:Pos} (hx:Sim prog w KH call k sf sc (eval x) (fun ρ=>ev ρ x)) :
  Sim prog w KH call k sf sc (eval (.UnaryOp .USub x pos)) (fun ρ=>(ev ρ x).bind fun p=>(zB5 (yy1 p.1)).bind fun i=>.need (small i) (.pure (.val (.int (-i)),p.2))):=by
 intro A env H ρ O s r ρ' Q E hi he hro hk hs hq
 refine ibk hi fun q h1 hi=>?_
 refine ibk hi fun i h2 hi=>?_
 cases (iN hi).2
 refine wpAny_UnaryOp (hx.v A env H ρ O s q.1 q.2 _ E h1 he hro hk hs fun v H' O' h' tk a rr=>?_)
 rw[z00 (io h2)] at rr
 refine xe rr.inv fun t Y0=>?_;obtain rfl:=Y0;try clear Y0
 exact PyProof.Rows.neg_int (hq _ H' O' h' (_,_) a (.int _ _))
theorem zk3 {e:Expr} {p:Rho→Prc (R×Rho)} (x:Sim prog w KH call k sf sc (eval e) p) (he':∀ env whole,isTrue e env whole=(do let v ← whole;standAt e.pos;holding [v] (truthy v))) :
  zR4 prog w KH call k sf sc (fun env=>isTrue e env (eval e env)) (fun ρ=>zM4 (p ρ)):=fun A env H ρ O s b ρ' Q E hi he hro hk hs hq =>
 wpAny_isTrue_value (x.bool hi he hro hk hs fun H' O' h' tk a=>wpAny_truthy_bool (hq H' O' h' tk a)) (he' _ _)
theorem ya1 {ev:Rho→Expr→Prc (R×Rho)} {et:Rho→Expr→Prc (Bool×Rho)} {t b o:Expr} {pos:Pos} (ht:zR4 prog w KH call k sf sc (fun env=>isTrue t env (eval t env)) (fun ρ=>et ρ t))
  (hb:Sim prog w KH call k sf sc (eval b) (fun ρ=>ev ρ b)) (ho:Sim prog w KH call k sf sc (eval o) (fun ρ=>ev ρ o)) :
  Sim prog w KH call k sf sc (eval (.IfExp t b o pos)) (fun ρ=>(et ρ t).bind fun p=>if p.1 then ev p.2 b else ev p.2 o):=by
 intro A env H ρ O s r ρ' Q E hi he hro hk hs hq
 refine ibk hi fun q h1 hi=>?_
 refine wpAny_IfExp (ht A env H ρ O s q.1 q.2 _ E h1 he hro hk hs fun H' O' h' tk a=>?_)
 cases hb':q.1 with
 | true =>
  rw[hb'] at hi
  exact hb A env H' q.2 O' _ r ρ' Q E hi he hro (hk.trans a.go.ext) a.st (hq.t a)
 | false =>
  rw[hb'] at hi
  exact ho A env H' q.2 O' _ r ρ' Q E hi he hro (hk.trans a.go.ext) a.st (hq.t a)
theorem yM3 {ev:Rho→Expr→Prc (R×Rho)} {op:BoolOp} {pos:Pos}:∀ {vs:List Expr},(∀ x∈vs,Sim prog w KH call k sf sc (eval x) (fun ρ=>ev ρ x)) →
  Sim prog w KH call k sf sc (fun env=>boolOp pos op (evalEach vs env)) (fun ρ=>zn1 ev op vs ρ):=by
 intro vs
 induction vs with
 | nil=>exact fun uu A env H ρ O s r ρ' Q E hi=>nS hi
 | cons x rest ih =>
  intro h A env H ρ O s r ρ' Q E hi he hro hk hs hq
  have hx:=h x (List.mem_cons_self ..)
  cases rest with
  | nil=>exact hx A env H ρ O s r ρ' Q E hi he hro hk hs hq
  | cons y rest =>
   refine ibp hi fun b ρ1 h1 hi=>?_
   show wpAny _ _ (do
    let v ← eval x env
    standAt pos
    let t ← holding [v] (truthy v)
    match op,t with
    | .And,false | .Or,true=>pure v
    | _,_=>boolOp pos op (evalEach (y::rest) env)) _ _ _
   refine wpAny_bind (hx.bool (ρ:=ρ) h1 he hro hk hs fun H' O' h' tk a=>wpAny_bind (wpAny_standAt (wpAny_bind (wpAny_holding (wpAny_truthy_bool ?_)))))
   have more:zA1 call (zn1 ev op (y::rest) ρ1)=some (r,ρ')→wpAny (model prog w) A (boolOp pos op (evalEach (y::rest) env)) Q E { s with heap:=h',toks:=tk.1,drawn:=tk.2 }:=fun hi =>
    ih (fun z hz=>h z (List.mem_cons_of_mem _ hz)) A env H' ρ1 O' _ r ρ' Q E hi he hro (hk.trans a.go.ext) a.st (hq.t a)
   cases op<;>cases b
   ·cases hi;exact wpAny_pure (hq _ H' O' h' tk a (.bool _))
   ·exact more hi
   ·exact more hi
   ·cases hi;exact wpAny_pure (hq _ H' O' h' tk a (.bool _))
theorem z54 {et:Rho→Expr→Prc (Bool×Rho)} {op:BoolOp}:∀ {vs:List Expr},(∀ x∈vs,zR4 prog w KH call k sf sc (fun env=>isTrue x env (eval x env)) (fun ρ=>et ρ x)) →
  zR4 prog w KH call k sf sc (fun env=>allTrue op vs env) (fun ρ=>zf2 et op vs ρ):=by
 intro vs
 induction vs with
 | nil =>
  intro _ A env H ρ O s b ρ' Q E hi he hro hk hs hq
  have hq:=hq.of hi
  exact wpAny_pure (hq H O s.heap (s.toks,s.drawn) (After.refl hs))
 | cons x rest ih =>
  intro h A env H ρ O s b ρ' Q E hi he hro hk hs hq
  refine ibp hi fun b' ρ1 h1 hi=>?_
  show wpAny _ _ (do
   match op,← isTrue x env (eval x env) with
   | .And,false=>pure false
   | .Or,true=>pure true
   | _,_=>allTrue op rest env) _ _ _
  refine wpAny_bind (h x (List.mem_cons_self ..) A env H ρ O s b' ρ1 _ E h1 he hro hk hs fun H' O' h' tk a=>?_)
  have more:zA1 call (zf2 et op rest ρ1)=some (b,ρ')→wpAny (model prog w) A (allTrue op rest env) Q E { s with heap:=h',toks:=tk.1,drawn:=tk.2 }:=fun hi =>
   ih (fun z hz=>h z (List.mem_cons_of_mem _ hz)) A env H' ρ1 O' _ b ρ' Q E hi he hro (hk.trans a.go.ext) a.st (hq.t a)
  cases op<;>cases b'
  ·cases hi;exact wpAny_pure (hq H' O' h' tk a)
  ·exact more hi
  ·exact more hi
  ·cases hi;exact wpAny_pure (hq H' O' h' tk a)
end
end Mine
namespace Mine
open PySem PySem.W PyProof.Rows PySem.Calls PySem.Builtin
section
variable {prog:Program} {w:World} {G:PG} {K:Frag} {KH:PH} {call:zB3} {k:Nat} {sf:Bool} {sc:Scope}
theorem zh8 {ev:Rho→Expr→Prc (R×Rho)} {pos:Pos}:∀ {cs:List Expr} {ops:List CmpOp},(∀ x∈cs,zS9 prog w KH call k sf sc (eval x) (fun ρ=>ev ρ x)) →
  ∀ (A:Around) (env:Env) (H:PH) (ρ:Rho) (O:zB1) (s:Shared) (zE2:Value) (dl:D) (b:Bool) (ρ':Rho) (Q:Value→Shared→Prop) (E:Value→Shared→Prop),
   Rep prog w H zE2 dl→zA1 call (zz3 ev dl ops cs ρ)=some (b,ρ')→EnvOK env sc→Room A k→PLe KH H→St prog w H env ρ O s.heap→OnS prog w sf env H ρ O s ρ' (Q (.bool b)) →
   wpAny (model prog w) A (compareChain pos zE2 ops (markedEach ops cs (evalEach cs env))) Q E s:=by
 intro cs
 induction cs with
 | nil=>exact fun uu A env H ρ O s zE2 dl b ρ' Q E rl hi=>nS hi
 | cons r rs ih =>
  intro ops h A env H ρ O s zE2 dl b ρ' Q E rl hi he hro hk hs hq
  have hr:=h r (List.mem_cons_self ..)
  have hu:A.units+402 < cLine:=by have:=hro.units;lia
  cases ops with
  | nil=>exact nS hi
  | cons op ops =>
   cases ops with
   | nil =>
    obtain ⟨⟨hn,hm⟩,g⟩:=iT hi
    cases rs with
    | cons=>exact Bool.noConfusion hn
    | nil =>
     refine ibk g fun q h1 g1=>?_
     refine ibk g1 fun c h2 g2=>?_
     cases g2
     show wpAny _ _ (do
      let rv ← holding [zE2] (markedBehindIn op r (eval r env))
      standAt pos
      operate [zE2,rv] (compareOp op zE2 rv)) _ _ _
     rw[markedBehindIn_of_false hm]
     exact wpAny_bind (wpAny_holding (hr A env H ρ O s q.1 q.2 _ E h1 he hro hk hs fun v H' O' h' tk a rr=>wpAny_bind (wpAny_standAt (wpAny_operating
      (zZ9 (s:={ s with heap:=h',toks:=tk.1,drawn:=tk.2 }) a.st.sub (rl.mono' a.go.ext) rr hu h2 fun tk'=>hq H' O' h' (tk',tk.2) a)))))
   | cons op2 ops =>
    refine ibk hi fun q h1 hi=>?_
    refine ibk hi fun c h2 hi=>?_
    show wpAny _ _ (do
     let rv ← holding [zE2] (eval r env)
     standAt pos
     let c ← holding [zE2,rv] (compareOp op zE2 rv)
     release [zE2,rv] [c]
     if ← holding [c,rv] (truthy c) then compareChain pos rv (op2::ops) (markedEach (op2::ops) rs (evalEach rs env)) else pure c) _ _ _
    refine wpAny_bind (wpAny_holding (hr A env H ρ O s q.1 q.2 _ E h1 he hro hk hs fun v H' O' h' tk a rr=>wpAny_bind (wpAny_standAt (wpAny_bind (wpAny_holding ?_)))))
    refine zZ9 (s:={ s with heap:=h',toks:=tk.1,drawn:=tk.2 }) a.st.sub (rl.mono' a.go.ext) rr hu h2 fun tk'=>wpAny_bind (wpAny_release (wpAny_bind (wpAny_holding (wpAny_truthy_bool ?_))))
    cases c with
    | true=>exact ih (fun z hz=>h z (List.mem_cons_of_mem _ hz)) A env H' q.2 O' { s with heap:=h',toks:=tk',drawn:=tk.2 } v q.1.toD b ρ' Q E rr hi he hro (hk.trans a.go.ext) a.st (hq.t (tk:=(tk',tk.2)) a)
    | false =>
     cases hi
     exact wpAny_pure (hq H' O' h' (tk',tk.2) a)
theorem zv8 {ev:Rho→Expr→Prc (R×Rho)} {pos:Pos}:∀ {cs:List Expr} {ops:List CmpOp},(∀ x∈cs,zS9 prog w KH call k sf sc (eval x) (fun ρ=>ev ρ x)) →
  ∀ (A:Around) (env:Env) (H:PH) (ρ:Rho) (O:zB1) (s:Shared) (zE2:Value) (dl:D) (b:Bool) (ρ':Rho) (Q:Bool→Shared→Prop) (E:Value→Shared→Prop),
   Rep prog w H zE2 dl→zA1 call (zz3 ev dl ops cs ρ)=some (b,ρ')→EnvOK env sc→Room A k→PLe KH H→St prog w H env ρ O s.heap→OnS prog w sf env H ρ O s ρ' (Q b) →
   wpAny (model prog w) A (testChain pos zE2 ops (markedEach ops cs (evalEach cs env))) Q E s:=by
 intro cs
 induction cs with
 | nil=>exact fun uu A env H ρ O s zE2 dl b ρ' Q E rl hi=>nS hi
 | cons r rs ih =>
  intro ops h A env H ρ O s zE2 dl b ρ' Q E rl hi he hro hk hs hq
  have hr:=h r (List.mem_cons_self ..)
  have hu:A.units+402 < cLine:=by have:=hro.units;lia
  cases ops with
  | nil=>exact nS hi
  | cons op ops =>
   cases ops with
   | nil =>
    obtain ⟨⟨hn,hm⟩,g⟩:=iT hi
    cases rs with
    | cons=>exact Bool.noConfusion hn
    | nil =>
     refine ibk g fun q h1 g1=>?_
     refine ibk g1 fun c h2 g2=>?_
     cases g2
     show wpAny _ _ (do
      let rv ← holding [zE2] (markedBehindIn op r (eval r env))
      standAt pos
      let c ← operate [zE2,rv] (compareOp op zE2 rv)
      holding [c] (truthy c)) _ _ _
     rw[markedBehindIn_of_false hm]
     exact wpAny_bind (wpAny_holding (hr A env H ρ O s q.1 q.2 _ E h1 he hro hk hs fun v H' O' h' tk a rr=>wpAny_bind (wpAny_standAt (wpAny_bind (wpAny_operating
      (zZ9 (s:={ s with heap:=h',toks:=tk.1,drawn:=tk.2 }) a.st.sub (rl.mono' a.go.ext) rr hu h2 fun tk'=>wpAny_holding (wpAny_truthy_bool (hq H' O' h' (tk',tk.2) a))))))))
   | cons op2 ops =>
    refine ibk hi fun q h1 hi=>?_
    refine ibk hi fun c h2 hi=>?_
    show wpAny _ _ (do
     let rv ← holding [zE2] (eval r env)
     standAt pos
     let c ← holding [zE2,rv] (compareOp op zE2 rv)
     release [zE2,rv] [c]
     if ← holding [c,rv] (truthy c) then testChain pos rv (op2::ops) (markedEach (op2::ops) rs (evalEach rs env)) else pure false) _ _ _
    refine wpAny_bind (wpAny_holding (hr A env H ρ O s q.1 q.2 _ E h1 he hro hk hs fun v H' O' h' tk a rr=>wpAny_bind (wpAny_standAt (wpAny_bind (wpAny_holding ?_)))))
    refine zZ9 (s:={ s with heap:=h',toks:=tk.1,drawn:=tk.2 }) a.st.sub (rl.mono' a.go.ext) rr hu h2 fun tk'=>wpAny_bind (wpAny_release (wpAny_bind (wpAny_holding (wpAny_truthy_bool ?_))))
    cases c with
    | true=>exact ih (fun z hz=>h z (List.mem_cons_of_mem _ hz)) A env H' q.2 O' { s with heap:=h',toks:=tk',drawn:=tk.2 } v q.1.toD b ρ' Q E rr hi he hro (hk.trans a.go.ext) a.st (hq.t (tk:=(tk',tk.2)) a)
    | false =>
     have hq:=hq.of hi
     exact wpAny_pure (hq H' O' h' (tk',tk.2) a)
theorem yD7 {ev:Rho→Expr→Prc (R×Rho)} {l:Expr} {ops:List CmpOp} {cs:List Expr} {pos:Pos} (hl:zS9 prog w KH call k sf sc (eval l) (fun ρ=>ev ρ l)) (h:∀ x∈cs,zS9 prog w KH call k sf sc (eval x) (fun ρ=>ev ρ x)) :
  Sim prog w KH call k sf sc (eval (.Compare l ops cs pos)) (fun ρ=>(ev ρ l).bind fun p=>(zz3 ev p.1.toD ops cs p.2).bind fun q=>.pure (.val (.bool q.1),q.2)):=by
 intro A env H ρ O s r ρ' Q E hi he hro hk hs hq
 refine ibk hi fun p h1 hi=>?_
 refine ibk hi fun q h2 hi=>?_
 have hq:=hq.of hi
 rw[arm_eval_Compare]
 refine wpAny_bind (hl A env H ρ O s p.1 p.2 _ E h1 he hro hk hs fun v H' O' h' tk a rr=>?_)
 exact zh8 h A env H' p.2 O' _ v p.1.toD q.1 q.2 Q E rr h2 he hro (hk.trans a.go.ext) a.st fun H2 O2 h2 t2 a2=>hq _ H2 O2 h2 t2 (a.trans a2) (.bool _)
theorem z55 {ev:Rho→Expr→Prc (R×Rho)} {l:Expr} {ops:List CmpOp} {cs:List Expr} {pos:Pos} (hl:zS9 prog w KH call k sf sc (eval l) (fun ρ=>ev ρ l)) (h:∀ x∈cs,zS9 prog w KH call k sf sc (eval x) (fun ρ=>ev ρ x)) :
  zR4 prog w KH call k sf sc (fun env=>isTrue (.Compare l ops cs pos) env (eval (.Compare l ops cs pos) env)) (fun ρ=>(ev ρ l).bind fun p=>zz3 ev p.1.toD ops cs p.2):=by
 intro A env H ρ O s r ρ' Q E hi he hro hk hs hq
 refine ibk hi fun p h1 hi=>?_
 show wpAny _ _ (isTrue (.Compare l ops cs pos) env (eval (.Compare l ops cs pos) env)) _ _ _
 rw[arm_isTrue_Compare]
 refine wpAny_bind (hl A env H ρ O s p.1 p.2 _ E h1 he hro hk hs fun v H' O' h' tk a rr=>?_)
 exact zv8 h A env H' p.2 O' _ v p.1.toD r ρ' Q E rr hi he hro (hk.trans a.go.ext) a.st fun H2 O2 h2 t2 a2=>hq H2 O2 h2 t2 (a.trans a2)
theorem zE5 {o:Expr} (h:¬ zL3 o=false) (attr:Str) (env:Env) (whole:Sem Value):attributeBase o attr env whole=whole:=by
 cases o<;>first | rfl | (exact absurd rfl h)
theorem zn6 (x:Str) (es:List DictEntry):getL x es=(match es.find? (fun d=>d.key.isStr x) with
 | some e=>some (some e.val)
 | none=>if es.any (fun d=>d.refKey) then none else some none):=rfl
theorem yk9 {x:Str} {e:DictEntry} {es:List DictEntry} (h:e.key.isStr x=true):getL x (e::es)=some (some e.val):=by rw[zn6,List.find?_cons_of_pos (p:=fun d:DictEntry=>d.key.isStr x) h]
theorem z01 {x y:Str} {t:Tok} {hh:Int} {v:Value} {es:List DictEntry} (e:x≠y):getL x (⟨hh,.str y t,v⟩::es)=getL x es:=by
 have hb:(Value.str y t).isStr x=false:=beq_eq_false_iff_ne.mpr fun q=>e q.symm
 rw[zn6,List.find?_cons_of_neg (p:=fun d:DictEntry=>d.key.isStr x) (show ¬ (Value.str y t).isStr x=true by rw[hb];exact Bool.false_ne_true),List.any_cons,show (DictEntry.refKey ⟨hh,Value.str y t,v⟩)=false from rfl,Bool.false_or,zn6]
theorem yz2 {x:Str} {es:List DictEntry} (h:(getL x es).isSome=true):(∃ e,e∈es∧e.key.isStr x=true)∨es.any (fun d=>d.refKey)=false:=by
 cases q:es.find? (fun d=>d.key.isStr x) with
 | some e=>exact .inl ⟨e,List.mem_of_find?_eq_some q,List.find?_some (p:=fun d:DictEntry=>d.key.isStr x) q⟩
 | none =>
  rw[zn6,q] at h
  cases z:es.any (fun d=>d.refKey) with
  | false=>exact .inr rfl
  | true=>rw[z] at h;exact nomatch h
theorem zk4 {α:Type} {x y:Str} {d:α} {l:List (Str×α)} (e:x≠y):((y,d)::l).lookup x=l.lookup x:=by rw[List.lookup_cons,beq_eq_false_iff_ne.mpr e]
theorem zk5 {α:Type} {x:Str} {d:α} {l:List (Str×α)}:((x,d)::l).lookup x=some d:=by rw[List.lookup_cons,beq_self_eq_true]
theorem RepF.find {prog:Program} {w:World} {H:PH} {es:List DictEntry} {fs:List (Str×D)} (r:RepF prog w H es fs) {x:Str}:∀ {d:D},fs.lookup x=some d→∃ v,getL x es=some (some v)∧Rep prog w H v d :=
 r.ind (P:=fun es fs=>∀ {d:D},fs.lookup x=some d→∃ v,getL x es=some (some v)∧Rep prog w H v d) (fun h=>nS h) fun {_ y _ v _ _ _} hv _ ih _ h=>by
  by_cases e:x=y
  ·subst e
   rw[zk5] at h
   exact Option.some.inj h▸⟨v,yk9 (beq_self_eq_true x),hv⟩
  ·rw[zk4 e] at h
   rw[z01 e]
   exact ih h
theorem RepF.missing {prog:Program} {w:World} {H:PH} {es:List DictEntry} {fs:List (Str×D)} (r:RepF prog w H es fs) {x:Str}:fs.lookup x=none→getL x es=some none :=
 r.ind (P:=fun es fs=>fs.lookup x=none→getL x es=some none) (fun uu=>rfl) fun {_ y _ v _ _ _} hv _ ih h=>by
  by_cases e:x=y
  ·subst e
   rw[zk5] at h
   exact nS h.symm
  ·rw[zk4 e] at h
   rw[z01 e]
   exact ih h
theorem Rep.handed {H:PH} {v:Value} {d:D} (r:Rep prog w H v d) (h:yj1 d=false):handedIn v=true :=
 r.casesOn (motive_1:=fun v d uu=>yj1 d=false→handedIn v=true) (fun uu=>rfl) (fun uu uu=>rfl) (fun uu uu uu=>rfl) (fun uu uu uu=>rfl) (fun uu h=>Bool.noConfusion h) (fun uu uu uu uu uu uu=>rfl) (fun uu uu uu=>rfl) (fun uu uu uu uu uu=>rfl) (fun uu uu uu uu=>rfl) h
theorem ya2 (kok:KOK G K KH) {A:Around} {E:Value→Shared→Prop} {s:Shared} {H:PH} {v:Value} {dO d:D} {x:Str} {Q:Value→Shared→Prop} {expr:Bool} (hk:PLe KH H) (hs:Sub H s.heap) (rr:Rep prog w H v dO) (hf:yL3 G dO x=some d)
  (hq:∀ u tk,Rep prog w H u d→Q u { s with toks:=tk }):wpAny (model prog w) A (getAttr v x expr) Q E s:=by
 cases dO with
 | obj c fs =>
  obtain ⟨hg,hf⟩:=Option.ite_none_right_eq_some.mp hf
  obtain ⟨d',h1,h2⟩:=Option.bind_eq_some_iff.mp hf
  obtain ⟨hv,h2⟩:=Option.ite_none_left_eq_some.mp h2
  cases h2
  obtain ⟨a,dx,es,n,rfl,h3,h4,h5⟩:=rr.inv
  obtain ⟨u,q1,q2⟩:=h5.find h1
  obtain ⟨g1,g2,attr,g3,g4⟩:=kok.field c x hg
  exact get_value (kok.isIn hk hs) (show PySem.W.InstAt s.heap a (instObj c dx) c (some (dictOf es n)) from ⟨hs _ _ h3,rfl,rfl,hs _ _ h4⟩) (plainGet_of g1).1 (findObj_own g2 g3 g4 q1) (q2.handed (Bool.eq_false_iff.mpr hv)) (hq u _ q2)
 | _=>exact nS hf
theorem zv9 (kok:KOK G K KH) {ev:Rho→Expr→Prc (R×Rho)} {o:Expr} {x:Str} {pos:Pos} (ho:zS9 prog w KH call k sf sc (eval o) (fun ρ=>ev ρ o)) :
  Sim prog w KH call k sf sc (eval (.Attribute o x pos)) (fun ρ=>if zL3 o=false then .fail else (ev ρ o).bind fun p=>(zB5 (yL3 G p.1.toD x)).bind fun d=>.pure (.val d,p.2)):=by
 intro A env H ρ O s r ρ' Q E hi he hro hk hs hq
 rcases iI hi with ⟨_,hi⟩ | ⟨hp,hi⟩
 ·exact nS hi
 ·refine ibk hi fun p h1 hi=>?_
  refine ibk hi fun d h2 hi=>?_
  have hq:=hq.of hi
  rw[arm_eval_Attribute,zE5 hp]
  refine wpAny_bind (ho A env H ρ O s p.1 p.2 _ E h1 he hro hk hs fun v H' O' h' tk a rr=>wpAny_bind (wpAny_standAt (wpAny_bind (wpAny_holding ?_))))
  refine ya2 kok (s:={ s with heap:=h',toks:=tk.1,drawn:=tk.2 }) (hk.trans a.go.ext) a.st.sub rr (io h2) fun u tk' ru=>?_
  exact wpAny_bind (wpAny_letTemporaryGo (wpAny_pure (hq u H' O' h' (tk',tk.2) a ru)))
end
end Mine
namespace Mine
open PySem PySem.W PyProof.Rows PySem.Calls PySem.Builtin
section
variable {prog:Program} {w:World} {G:PG} {K:Frag} {KH:PH} {call:zB3} {k:Nat} {sf:Bool} {sc:Scope}
theorem zG0 {e:Expr} {rest:List Expr} {env:Env} (h:¬ zE3 e=true):starEach (e::rest) env=(false,eval e env)::starEach rest env:=by
 cases e<;>first | rfl | exact absurd rfl h
noncomputable def OnL (prog:Program) (w:World) (sf:Bool) (env:Env) (H:PH) (ρ:Rho) (O:zB1) (s:Shared) (ρ':Rho) (ds:List D) (Q:List Value→Shared→Prop):Prop :=
 ∀ vs H' O' h' (tk:Tk),After prog w sf env H ρ O s.heap H' ρ' O' h'→RepL prog w H' vs ds→Q vs { s with heap:=h',toks:=tk.1,drawn:=tk.2 }
theorem zY0 {ev:Rho→Expr→Prc (R×Rho)} {pos:Pos}:∀ {es:List Expr},(∀ x∈es,zS9 prog w KH call k sf sc (eval x) (fun ρ=>ev ρ x)) →
  ∀ (A:Around) (env:Env) (H:PH) (ρ:Rho) (O:zB1) (s:Shared) (ds:List D) (ρ':Rho) (Q:List Value→Shared→Prop) (E:Value→Shared→Prop),
   zA1 call (evalArgs ev es ρ)=some (ds,ρ')→EnvOK env sc→Room A k→PLe KH H→St prog w H env ρ O s.heap→OnL prog w sf env H ρ O s ρ' ds Q →
   wpAny (model prog w) A (spliced (backTo pos (starEach es env))) Q E s:=by
 intro es
 induction es with
 | nil =>
  intro _ A env H ρ O s ds ρ' Q E hi he hro hk hs hq
  cases hi
  exact spliced_none (hq [] H O s.heap (s.toks,s.drawn) (After.refl hs) .nil)
 | cons e es ih =>
  intro h A env H ρ O s ds ρ' Q E hi he hro hk hs hq
  rcases iI hi with ⟨_,hi⟩ | ⟨hst,hi⟩
  ·exact nS hi
  ·refine ibk hi fun p h1 hi=>?_
   refine ibk hi fun q h2 hi=>?_
   cases hi
   exact spliced_more (h e (List.mem_cons_self ..) A env H ρ O s p.1 p.2 _ E h1 he hro hk hs fun v H' O' h' tk a rr =>
    ih (fun z hz=>h z (List.mem_cons_of_mem _ hz)) A env H' p.2 O' _ q.1 q.2 _ E h2 he hro (hk.trans a.go.ext) a.st fun vs H2 O2 h2 t2 a2 r2 =>
     hq (v::vs) H2 O2 h2 t2 (a.trans a2) (.cons (rr.mono' a2.go.ext) r2)) (zG0 hst)
theorem zY1 {ev:Rho→Expr→Prc (R×Rho)}:∀ {es:List Expr} {ρ:Rho} {q:List D×Rho},zA1 call (evalArgs ev es ρ)=some q→q.1.length=es.length:=by
 intro es
 induction es with
 | nil=>exact fun h=>Option.some.inj h▸rfl
 | cons e es ih =>
  intro ρ q h
  rcases iI h with ⟨_,h⟩ | ⟨_,h⟩
  ·exact nS h
  ·refine ibk h fun p uu h=>?_
   refine ibk h fun q' h2 h=>?_
   exact Option.some.inj h▸congrArg (·+1) (ih h2)
theorem zp8 {ev:Rho→Expr→Prc (R×Rho)} {es:List Expr} {ρ:Rho} {q:List D×Rho} (h:zA1 call (evalArgs ev es ρ)=some q) (hs:zA0 es=true):q.1.length≤16000000:=by
 rw[zY1 h]
 exact Nat.le_trans (zD0 hs) (by decide)
theorem ya3 {ev:Rho→Expr→Prc (R×Rho)} {es:List Expr} {n:Nat} {pos:Pos} (h:∀ x∈es,zS9 prog w KH call k sf sc (eval x) (fun ρ=>ev ρ x)) :
  Sim prog w KH call k sf sc (eval (.Tuple es n pos)) (fun ρ=>(evalArgs ev es ρ).bind fun q=>if zA0 es then .pure (.val (.tup q.1),q.2) else .fail):=by
 intro A env H ρ O s r ρ' Q E hi he hro hk hs hq
 refine ibk hi fun q h1 hi=>?_
 refine iTk hi fun hsh hi=>?_
 have hq:=hq.of hi
 rw[arm_eval_Tuple]
 exact wpAny_bind (wpAny_standAt (wpAny_bind (zY0 h A env H ρ O s q.1 q.2 _ E h1 he hro hk hs fun vs H' O' h' tk a rl =>
  zv6 (s:={ s with heap:=h',toks:=tk.1,drawn:=tk.2 }) a.st.sub rl (zp8 h1 hsh) (After.back a hq))))
theorem yl0 {ev:Rho→Expr→Prc (R×Rho)} {es:List Expr} {pos:Pos} (h:∀ x∈es,zS9 prog w KH call k sf sc (eval x) (fun ρ=>ev ρ x)) :
  Sim prog w KH call k sf sc (eval (.List es pos)) (fun ρ=>(evalArgs ev es ρ).bind fun q=>if zA0 es then .pure (.ownL q.1,q.2) else .fail):=by
 intro A env H ρ O s r ρ' Q E hi he hro hk hs hq
 refine ibk hi fun q h1 hi=>?_
 refine iTk hi fun hsh hi=>?_
 have hq:=hq.of hi
 rw[arm_eval_List]
 exact wpAny_bind (wpAny_standAt (wpAny_bind (zY0 h A env H ρ O s q.1 q.2 _ E h1 he hro hk hs fun vs H' O' h' tk a rl =>
  z47 (s:={ s with heap:=h',toks:=tk.1,drawn:=tk.2 }) a.st.sub rl (zp8 h1 hsh) (After.back a hq))))
theorem yz3 {G:PG} (kok:KOK G K KH) {H:PH} {h:Heap} (hk:PLe KH H) (hs:Sub H h):(h.objs.size == sysModules)=false:=by
 refine xe kok.sysm fun a Y0=>?_;refine xe Y0 fun o Y1=>?_;have ho:=Y1.1;have hle:=Y1.2;try clear Y0 Y1
 have:=Nat.lt_of_le_of_lt hle (Heap.lt_size (hs _ _ (hk _ _ ho)))
 rw[beq_eq_false_iff_ne]
 exact Nat.ne_of_gt this
theorem ya4 (kok:KOK G K KH) {pos:Pos}:Sim prog w KH call k sf sc (eval (.Dict [] [] pos)) (fun ρ=>.pure (.ownD [],ρ)):=by
 intro A env H ρ O s r ρ' Q E hi he hro hk hs hq
 have hq:=hq.of hi
 refine wpAny_Dict_empty ?_
 exact hq _ H O _ (s.toks,s.drawn) (After.of_ext hs (Ext.pushOut hs.sub _)) ⟨_,rfl,zD7 _,zF1 hs.sub (Nat.le_refl _),#[],0,Heap.get?_push_size _ rfl,.nil,⟨by simp,by simp⟩,yz3 kok hk hs.sub⟩
theorem zT0 {A:Around} {E:Value→Shared→Prop} {s:Shared} {value slice:Expr} {o i:Value} {T id:String} {Q:Value→Shared→Prop} (hT:s.TypeIs o T)
  (hl:typeLookup (.type T) "__getitem__"=pure (some (.builtin id))) (hg:wpAny (model prog w) A (getItem o i) Q E s):wpAny (model prog w) A (subscriptTail value slice o i) Q E s:=by
 have:∃ ops,subscripted slice false o i=operate ops (getItem o i):=by
  cases slice with
  | Slice l u st p =>
   cases st with
   | none=>exact ⟨[i,o],rfl⟩
   | some m=>exact ⟨[o,i],rfl⟩
  | _=>exact ⟨[o,i],rfl⟩
 refine xe this fun ops e=>?_;try clear this
 exact tail_any hT hl hg e
noncomputable def xE8 (d:D):Prop:=(∃ x,d=.tup x)∨(∃ x,d=.list x)∨(∃ x,d=.dict x)∨∃ x,d=.str x
theorem zp9 {H:PH} {s:Shared} {a:Value} {da:D} (hs:Sub H s.heap) (r:Rep prog w H a da) (hd:xE8 da) :
  ∃ T id,s.TypeIs a T∧typeLookup (.type T) "__getitem__"=pure (some (.builtin id)):=by
 rcases hd with ⟨x,rfl⟩ | ⟨x,rfl⟩ | ⟨x,rfl⟩ | ⟨x,rfl⟩
 ·obtain ⟨_,_,_,_,rfl,h1,h2,_⟩:=r.inv;exact ⟨"tuple",_,⟨_,hs _ _ h1,h2⟩,PySem.F.slot_tuple_getitem.lookup⟩
 ·obtain ⟨_,_,_,rfl,h1,_⟩:=r.inv;exact ⟨"list",_,⟨_,hs _ _ h1,rfl⟩,PySem.F.slot_list_getitem.lookup⟩
 ·obtain ⟨_,_,_,rfl,h1,_⟩:=r.inv;exact ⟨"dict",_,⟨_,hs _ _ h1,rfl⟩,PySem.F.slot_dict_getitem.lookup⟩
 ·obtain ⟨_,rfl⟩:=r.inv;exact ⟨"str",_,typeIs_str _ _ _,PySem.F.slot_str_getitem.lookup⟩
theorem ya5 {da db d:D} (h:zA1 call (zb6 da db)=some d):xE8 da:=by
 cases da with
 | tup=>exact .inl ⟨_,rfl⟩
 | list=>exact .inr (.inl ⟨_,rfl⟩)
 | dict=>exact .inr (.inr (.inl ⟨_,rfl⟩))
 | _=>exact nS h
theorem yM4 {da:D} {l u:Option Int} {r:R} (h:zA1 call (z38 l u da)=some r):xE8 da:=by
 cases da with
 | tup=>exact .inl ⟨_,rfl⟩
 | list=>exact .inr (.inl ⟨_,rfl⟩)
 | str=>exact .inr (.inr (.inr ⟨_,rfl⟩))
 | _=>exact nS h
theorem zF7 {e:Expr} {x:Str} (h:zN6 e=some x):∃ p,e=.Name x p:=by
 cases e with
 | Name y p=>exact ⟨p,Option.some.inj h▸rfl⟩
 | _=>exact nS h
theorem z56 {env:Env} {H:PH} {ρ:Rho} {O:zB1} {h:Heap} {x:Str} {e:Ent} {ds:List D} (hv:seen env x) (hs:St prog w H env ρ O h) (hl:ρ.lookup x=some e) (he:yZ3 e=some ds) :
  ∃ a,zB6 env h x (.ref a)∧O x=some a∧zE1 prog w H h a ds:=by
 cases e with
 | ownL=>cases he;exact hs.own_get hv hl
 | bor=>cases he;exact hs.bor_get hv hl
 | _=>exact nS he
theorem yz4 {env:Env} {H:PH} {ρ:Rho} {O:zB1} {h:Heap} {x:Str} {e:Ent} {ds:List (D×D)} (hv:seen env x) (hs:St prog w H env ρ O h) (hl:ρ.lookup x=some e) (he:xN9 e=some ds) :
  ∃ a,zB6 env h x (.ref a)∧O x=some a∧DictAt prog w H h a ds:=by
 cases e with
 | ownD=>cases he;exact hs.ownD_get hv hl
 | _=>exact nS he
theorem zf8 {env:Env} {H:PH} {ρ:Rho} {O:zB1} {h:Heap} {o:Expr} {ds:List D} (he:EnvOK env sc) (hs:St prog w H env ρ O h) (hp:zX4 sc ρ o=some ds) :
  ∃ x p a,o=.Name x p∧zH0 sc x=true∧zB6 env h x (.ref a)∧O x=some a∧zE1 prog w H h a ds:=by
 refine xe (Option.bind_eq_some_iff.mp hp) fun x Y0=>?_;have h1:=Y0.1;have h2:=Y0.2;try clear Y0
 have Y0:=Option.ite_none_right_eq_some.mp h2;have hv:=Y0.1;have h3:=Y0.2;try clear Y0
 refine xe (Option.bind_eq_some_iff.mp h3) fun e Y0=>?_;have hl:=Y0.1;have h4:=Y0.2;try clear Y0
 refine xe (zF7 h1) fun p Y0=>?_;obtain rfl:=Y0;try clear Y0
 refine xe (z56 (he.seen hv) hs hl h4) fun a h=>?_
 exact ⟨x,p,a,rfl,hv,h⟩
theorem yD8 {env:Env} {H:PH} {ρ:Rho} {O:zB1} {h:Heap} {o:Expr} {ds:List (D×D)} (he:EnvOK env sc) (hs:St prog w H env ρ O h) (hp:zz2 sc ρ o=some ds) :
  ∃ x p a,o=.Name x p∧zH0 sc x=true∧zB6 env h x (.ref a)∧O x=some a∧DictAt prog w H h a ds:=by
 refine xe (Option.bind_eq_some_iff.mp hp) fun x Y0=>?_;have h1:=Y0.1;have h2:=Y0.2;try clear Y0
 have Y0:=Option.ite_none_right_eq_some.mp h2;have hv:=Y0.1;have h3:=Y0.2;try clear Y0
 refine xe (Option.bind_eq_some_iff.mp h3) fun e Y0=>?_;have hl:=Y0.1;have h4:=Y0.2;try clear Y0
 refine xe (zF7 h1) fun p Y0=>?_;obtain rfl:=Y0;try clear Y0
 refine xe (yz4 (he.seen hv) hs hl h4) fun a h=>?_
 exact ⟨x,p,a,rfl,hv,h⟩
theorem ya6 {ev:Rho→Expr→Prc (R×Rho)} {o i:Expr} {pos:Pos} (ho:zS9 prog w KH call k sf sc (eval o) (fun ρ=>ev ρ o)) (hi':zS9 prog w KH call k sf sc (eval i) (fun ρ=>ev ρ i)) :
  Sim prog w KH call k sf sc (eval (.Subscript o i pos)) (fun ρ=>match zX4 sc ρ o with
   | some _=>(ev ρ i).bind fun q=>(zB5 (zX4 sc q.2 o)).bind fun ds=>(zb6 (.list ds) q.1.toD).bind fun d=>.pure (.val d,q.2)
   | none=>(match zz2 sc ρ o with
     | some _=>(ev ρ i).bind fun q=>(zB5 (zz2 sc q.2 o)).bind fun es=>(zb6 (.dict es) q.1.toD).bind fun d=>.pure (.val d,q.2)
     | none=>(ev ρ o).bind fun p=>(ev p.2 i).bind fun q=>(zb6 p.1.toD q.1.toD).bind fun d=>.pure (.val d,q.2))):=by
 intro A env H ρ O s r ρ' Q E hi he hro hk hs hq
 have hu:A.units+1 < cLine:=by have:=hro.units;omega
 dsimp only at hi
 cases hp:zX4 sc ρ o with
 | some ds0 =>
  rw[hp] at hi
  refine xe (zf8 he hs hp) fun x Y0=>?_;refine xe Y0 fun px Y1=>?_;refine xe Y1 fun a Y2=>?_;obtain rfl:=Y2.1;have hv:=Y2.2.1;have n1:=Y2.2.2.1;have n2:=Y2.2.2.2.1;have n3:=Y2.2.2.2.2;try clear Y0 Y1 Y2
  refine ibk hi fun q h1 hi=>?_
  refine ibk hi fun ds h2 hi=>?_
  refine ibk hi fun d h3 hi=>?_
  have hq:=hq.of hi
  refine Subscript_ (zJ0 he n1 (hi' A env H ρ O s q.1 q.2 _ E h1 he hro hk hs fun v H' O' h' tk af rr=>?_))
  refine xe (zf8 he af.st (io h2)) fun x2 Y0=>?_;refine xe Y0 fun p2 Y1=>?_;refine xe Y1 fun a2 Y2=>?_;have e2:=Y2.1;have hv2:=Y2.2.1;have m1:=Y2.2.2.1;have m2:=Y2.2.2.2.1;have m3:=Y2.2.2.2.2;try clear Y0 Y1 Y2
  cases e2
  cases n2.symm.trans (af.sub _ _ m2)
  exact zT0 (s:={ s with heap:=h',toks:=tk.1,drawn:=tk.2 }) (m3.elim fun uu pl=>pl.1.isList.typeIs) PySem.F.slot_list_getitem.lookup
   (yU6 (s:={ s with heap:=h',toks:=tk.1,drawn:=tk.2 }) m3 rr h3 fun u tk' ru=>hq u H' O' h' (tk',tk.2) af ru)
 | none =>
  rw[hp] at hi
  dsimp only at hi
  cases hp:zz2 sc ρ o with
  | some ds0 =>
   rw[hp] at hi
   refine xe (yD8 he hs hp) fun x Y0=>?_;refine xe Y0 fun px Y1=>?_;refine xe Y1 fun a Y2=>?_;obtain rfl:=Y2.1;have hv:=Y2.2.1;have n1:=Y2.2.2.1;have n2:=Y2.2.2.2.1;have n3:=Y2.2.2.2.2;try clear Y0 Y1 Y2
   refine ibk hi fun q h1 hi=>?_
   refine ibk hi fun ds h2 hi=>?_
   refine ibk hi fun d h3 hi=>?_
   have hq:=hq.of hi
   refine Subscript_ (zJ0 he n1 (hi' A env H ρ O s q.1 q.2 _ E h1 he hro hk hs fun v H' O' h' tk af rr=>?_))
   refine xe (yD8 he af.st (io h2)) fun x2 Y0=>?_;refine xe Y0 fun p2 Y1=>?_;refine xe Y1 fun a2 Y2=>?_;have e2:=Y2.1;have hv2:=Y2.2.1;have m1:=Y2.2.2.1;have m2:=Y2.2.2.2.1;have m3:=Y2.2.2.2.2;try clear Y0 Y1 Y2
   cases e2
   cases n2.symm.trans (af.sub _ _ m2)
   exact zT0 (s:={ s with heap:=h',toks:=tk.1,drawn:=tk.2 }) (m3.elim fun uu m=>m.elim fun uu pl=>⟨_,pl.1,rfl⟩) PySem.F.slot_dict_getitem.lookup
    (zz9 (s:={ s with heap:=h',toks:=tk.1,drawn:=tk.2 }) af.st.sub hu m3 rr h3 fun u tk' ru=>hq u H' O' h' (tk',tk.2) af ru)
  | none =>
   rw[hp] at hi
   refine ibk hi fun p h1 hi=>?_
   refine ibk hi fun q h2 hi=>?_
   refine ibk hi fun d h3 hi=>?_
   have hq:=hq.of hi
   refine Subscript_ (ho A env H ρ O s p.1 p.2 _ E h1 he hro hk hs fun v H' O' h' tk a1 r1=>?_)
   refine hi' A env H' p.2 O' _ q.1 q.2 _ E h2 he hro (hk.trans a1.go.ext) a1.st fun v2 H2 O2 h2' t2 a2 r2=>?_
   refine xe (zp9 (s:={ s with heap:=h2',toks:=t2.1,drawn:=t2.2 }) a2.st.sub (r1.mono' a2.go.ext) (ya5 h3)) fun T Y0=>?_;refine xe Y0 fun id Y1=>?_;have hT:=Y1.1;have hl:=Y1.2;try clear Y0 Y1
   exact zT0 hT hl (xE6 (s:={ s with heap:=h2',toks:=t2.1,drawn:=t2.2 }) a2.st.sub hu (r1.mono' a2.go.ext) r2 h3 fun u tk' ru=>hq u H2 O2 h2' (tk',t2.2) (a1.trans a2) ru)
theorem yD9 {ev:Rho→Expr→Prc (R×Rho)} {l:Option Expr} (hl:∀ e,l=some e→zS9 prog w KH call k sf sc (eval e) (fun ρ=>ev ρ e)) :
  ∀ (A:Around) (env:Env) (H:PH) (ρ:Rho) (O:zB1) (s:Shared) (o:Option Int) (ρ':Rho) (Q:Value→Shared→Prop) (E:Value→Shared→Prop),
   zA1 call (zo5 ev l ρ)=some (o,ρ')→EnvOK env sc→Room A k→PLe KH H→St prog w H env ρ O s.heap →
   (∀ v H' O' h' (tk:Tk),After prog w sf env H ρ O s.heap H' ρ' O' h'→zO1 v o→Q v { s with heap:=h',toks:=tk.1,drawn:=tk.2 }) →
   wpAny (model prog w) A (evalPart l env) Q E s:=by
 intro A env H ρ O s o ρ' Q E hi he hro hk hs hq
 cases l with
 | none =>
  cases hi
  rw[evalPart_none]
  exact wpAny_pure (hq .none H O s.heap (s.toks,s.drawn) (After.refl hs) rfl)
 | some e =>
  refine ibk hi fun p h1 hi=>?_
  refine ibk hi fun i h2 hi=>?_
  cases hi
  rw[evalPart_some]
  refine hl e rfl A env H ρ O s p.1 p.2 _ E h1 he hro hk hs fun v H' O' h' tk a rr=>?_
  rw[z00 (io h2)] at rr
  exact hq _ H' O' h' tk a rr.inv
theorem zw0 {e:Expr} {i:Int} (h:yC2 e=some i):∃ n p,e=.Constant (.int i) n p:=by
 cases e with
 | Constant c n p =>
  cases c with
  | int j=>exact ⟨n,p,Option.some.inj h▸rfl⟩
  | _=>exact nS h
 | _=>exact nS h
theorem yE0 {e:Expr} (h:zc6 e=true):∃ p1 p2 n,e=.UnaryOp .USub (.Constant (.int 1) n p1) p2:=by
 cases e with
 | UnaryOp op e p =>
  have Y0:=Bool.and_eq_true_iff.mp h;have h1:=Y0.1;have h2:=Y0.2;try clear Y0
  refine xe (zw0 (beq_iff_eq.mp h2)) fun n Y0=>?_;refine xe Y0 fun p1 Y1=>?_;obtain rfl:=Y1;try clear Y0 Y1
  cases beq_iff_eq.mp h1
  exact ⟨p1,p,n,rfl⟩
 | _=>exact Bool.noConfusion h
theorem yl1 {call:zB3} {l u:Option Expr} {m:Expr} {d:D} {r:R} (h:zA1 call (xD9 l u m d)=some r):l=none∧u=none∧zc6 m=true∧∃ ds,d=.list ds∧zA0 ds=true∧r=.ownL ds.reverse:=by
 refine iTk h fun hb h=>?_
 refine ibk h fun ds e h=>?_
 refine iNk h fun hsh h=>?_
 rw[Bool.and_eq_true,Bool.and_eq_true,Option.isNone_iff_eq_none,Option.isNone_iff_eq_none] at hb
 exact ⟨hb.1.1,hb.1.2,hb.2,ds,zO5 (io e),hsh,(Option.some.inj h).symm⟩
theorem ya7 {ev:Rho→Expr→Prc (R×Rho)} {o:Expr} {l u st:Option Expr} {pos pos':Pos} (ho:zS9 prog w KH call k sf sc (eval o) (fun ρ=>ev ρ o))
  (hl:∀ e,l=some e→zS9 prog w KH call k sf sc (eval e) (fun ρ=>ev ρ e)) (hu:∀ e,u=some e→zS9 prog w KH call k sf sc (eval e) (fun ρ=>ev ρ e)) :
  Sim prog w KH call k sf sc (eval (.Subscript o (.Slice l u st pos') pos)) (fun ρ=>(ev ρ o).bind fun p=>(match st with
   | none=>(zo5 ev l p.2).bind fun a=>(zo5 ev u a.2).bind fun b=>(z38 a.1 b.1 p.1.toD).bind fun r=>.pure (r,b.2)
   | some m=>(xD9 l u m p.1.toD).bind fun r=>.pure (r,p.2))):=by
 intro A env H ρ O s r ρ' Q E hi he hro hk hs hq
 refine ibk hi fun p h1 hi=>?_
 refine Subscript_ (ho A env H ρ O s p.1 p.2 _ E h1 he hro hk hs fun v H' O' h' tk a1 r1=>?_)
 cases st with
 | none =>
  refine ibk hi fun x h2 hi=>?_
  refine ibk hi fun y h3 hi=>?_
  refine ibk hi fun z h4 hi=>?_
  have hq:=hq.of hi
  refine wpAny_Slice (yD9 hl A env H' p.2 O' _ x.1 x.2 _ E h2 he hro (hk.trans a1.go.ext) a1.st fun vl H2 O2 g2 t2 a2 pl=>?_)
  refine yD9 hu A env H2 x.2 O2 _ y.1 y.2 _ E h3 he hro ((hk.trans a1.go.ext).trans a2.go.ext) a2.st fun vu H3 O3 g3 t3 a3 pu=>?_
  rw[evalPart_none]
  refine wpAny_pure ?_
  have a4:=((a1.trans a2).trans a3).ext (Ext.pushOut a3.st.sub { cls:=.type "slice",data:=.fields #[vl,vu,.none] })
  have rv:=(r1.mono' a2.go.ext).mono' a3.go.ext
  refine xe (zp9 (s:={ s with heap:=g3.push { cls:=.type "slice",data:=.fields #[vl,vu,.none] },toks:=t3.1,drawn:=t3.2 }) a4.st.sub rv (yM4 h4)) fun T Y0=>?_;refine xe Y0 fun id Y1=>?_;have hT:=Y1.1;have hl':=Y1.2;try clear Y0 Y1
  exact zT0 hT hl' (yz0 (s:={ s with heap:=g3.push { cls:=.type "slice",data:=.fields #[vl,vu,.none] },toks:=t3.1,drawn:=t3.2 }) a4.st.sub rv (Heap.IsSliceOf.new ..) pl pu h4 (After.back a4 hq))
 | some m =>
  refine ibk hi fun z h4 hi=>?_
  have hq:=hq.of hi
  have Y0:=yl1 h4;obtain rfl:=Y0.1;obtain rfl:=Y0.2.1;have hm:=Y0.2.2.1;refine xe Y0.2.2.2 fun ds Y1=>?_;have hd:=Y1.1;have hsh:=Y1.2.1;obtain rfl:=Y1.2.2;try clear Y0 Y1
  refine xe (yE0 hm) fun q1 Y0=>?_;refine xe Y0 fun q2 Y1=>?_;refine xe Y1 fun n Y2=>?_;obtain rfl:=Y2;try clear Y0 Y1 Y2
  rw[hd] at r1
  have key:∀ (vs:Value) (t2:Tok),zO1 vs (some (-1))→wpAny (model prog w) A (subscriptTail o (.Slice none none (some (.UnaryOp .USub (.Constant (.int 1) n q1) q2)) pos') v (.ref h'.objs.size)) Q E
    { s with heap:=h'.push { cls:=.type "slice",data:=.fields #[.none,.none,vs] },toks:=t2,drawn:=tk.2 }:=by
   intro vs t2 pv
   have a4:=a1.ext (Ext.pushOut a1.st.sub { cls:=.type "slice",data:=.fields #[.none,.none,vs] })
   refine xe (zp9 (s:={ s with heap:=h'.push { cls:=.type "slice",data:=.fields #[.none,.none,vs] },toks:=t2,drawn:=tk.2 }) a4.st.sub r1 (.inr (.inl ⟨_,rfl⟩))) fun T Y0=>?_;refine xe Y0 fun id Y1=>?_;have hT:=Y1.1;have hl':=Y1.2;try clear Y0 Y1
   exact zT0 hT hl' (xP3 (s:={ s with heap:=h'.push { cls:=.type "slice",data:=.fields #[.none,.none,vs] },toks:=t2,drawn:=tk.2 }) a4.st.sub r1 (zD0 hsh) (Heap.IsSliceOf.new ..) pv (After.back (tk:=(t2,tk.2)) a4 hq))
  refine wpAny_Slice ?_
  rw[evalPart_none]
  refine wpAny_pure (wpAny_pure ?_)
  rw[evalPart_some]
  exact wpAny_UnaryOp (wpAny_Constant_int (PyProof.Rows.neg_int (key _ _ ⟨_,rfl⟩)))
end
end Mine
namespace Mine
open PySem PySem.W PyProof.Rows PySem.Calls PySem.Builtin
section
variable {prog:Program} {w:World} {G:PG} {K:Frag} {KH:PH} {call:zB3} {k:Nat} {sf:Bool} {sc:Scope}
set_option tactic.hygienic true in
theorem zT1 {ev:Rho→Expr→Prc (R×Rho)}:∀ {es:List Expr} {ρ:Rho} {q:List D×Rho},zA1 call (evalArgs ev es ρ)=some q→∀ e∈es,¬ zE3 e=true
 | [],_,_,_=>by simp
 | e::es,ρ,q,h=>by
  simp only[evalArgs] at h
  split at h
  ·cases h
  ·rename_i hs
   obtain ⟨p,_,h⟩:=ib h
   obtain ⟨q',h2,h⟩:=ib h
   intro z hz
   rcases List.mem_cons.mp hz with rfl | hz
   ·exact hs
   ·exact zT1 h2 z hz
theorem zM7 {env:Env} {pos:Pos}:∀ {es:List Expr},(∀ e∈es,¬ zE3 e=true)→(backTo pos (starEach es env)).any (·.1)=false
 | [],_=>rfl
 | e::es,h=>by
  rw[zG0 (h e (by simp))]
  show (false || (backTo pos (starEach es env)).any (·.1))=false
  rw[zM7 fun z hz=>h z (List.mem_cons_of_mem _ hz)];rfl
theorem zQ5 {A:Around} {E:Value→Shared→Prop} {s:Shared} {env:Env} {pos:Pos} {f:Value} {Q:Args→Shared→Prop} {es:List Expr} (hs:∀ e∈es,¬ zE3 e=true)
  (h:wpAny (model prog w) A (spliced (backTo pos (starEach es env))) (fun vs s'=>Q ⟨vs,[]⟩ s') E s):wpAny (model prog w) A (PySem.evalArgs f true (backTo pos (starEach es env)) []) Q E s:=by
 cases es with
 | nil =>
  unfold PySem.evalArgs
  show wpAny (model prog w) A (spliced [] >>= _) Q E s
  refine wpAny_bind (wpAny_mono h (fun vs s' h'=>?_) fun uu uu x=>x)
  refine wpAny_bind (wpAny_pure (wpAny_holding ?_))
  exact wpAny_bind (wpAny_pure (wpAny_bind (wpAny_pure (wpAny_pure h'))))
 | cons e es =>
  rw[zG0 (hs e (by simp))] at h ⊢
  exact evalArgs_plain h
set_option tactic.hygienic true in
theorem za1 (kok:KOK G K KH) {A:Around} {E:Value→Shared→Prop} {s:Shared} {env:Env} {H:PH} {x:Str} {v:Value} {Q:Value→Shared→Prop} {pos:Pos} (he:EnvOK env sc) (hk:PLe KH H) (hs:Sub H s.heap) (h:zF4 G sc x=some v) (hq:Q v s) :
  wpAny (model prog w) A (eval (.Name x pos) env) Q E s:=by
 unfold zF4 at h
 split at h
 ·rename_i hg
  have hk':env.kindOf x=some .globalImplicit:=by
   rcases he.kind x with e | ⟨e,_⟩
   ·rw[e,hg]
   ·rw[hg] at e;cases e
  obtain ⟨hd,gi⟩:=kok.glob x v h
  refine Name_function_global he.fk hk' ?_ hd
  rcases gi s.heap (yk5 hk hs) with ⟨mg,q1,q2⟩ | ⟨mg,mb,q1,q2,q3,q4⟩
  ·exact loadGlobal_global (by rw[he.glob];exact q1) q2 hq
  ·exact loadGlobal_builtin (by rw[he.glob];exact q1) q2 (by rw[he.blt];exact q3) q4 hq
 ·cases h
theorem zd6 (kok:KOK G K KH) {ev:Rho→Expr→Prc (R×Rho)} {x:Str} {p pos:Pos} {args:List Expr} {v:Value} (hv:(∃ id,v=.builtin id)∨∃ t,v=.type t) (h:∀ x∈args,zS9 prog w KH call k sf sc (eval x) (fun ρ=>ev ρ x)) (hx:zF4 G sc x=some v)
  {A:Around} {env:Env} {H:PH} {ρ:Rho} {O:zB1} {s:Shared} {ds:List D} {ρ':Rho} {Q:Value→Shared→Prop} {E:Value→Shared→Prop}
  (hi:zA1 call (evalArgs ev args ρ)=some (ds,ρ')) (he:EnvOK env sc) (hro:Room A k) (hk:PLe KH H) (hs:St prog w H env ρ O s.heap)
  (hq:∀ vs H' O' h' (tk:Tk),After prog w sf env H ρ O s.heap H' ρ' O' h'→RepL prog w H' vs ds→wpAny (model prog w) A (PySem.call v vs) Q E { s with heap:=h',toks:=tk.1,drawn:=tk.2 }) :
  wpAny (model prog w) A (eval (.Call (.Name x p) args [] pos) env) Q E s:=by
 refine PyProof.Rows.Call_Name rfl (za1 kok he hk hs.sub hx ?_)
 have hns:=zT1 hi
 have main:wpAny (model prog w) A (PySem.evalArgs v true (backTo pos (starEach args env)) []) (fun a s₁=>wpAny (model prog w) A (PySem.call v ([]++a.pos) a.kw) Q E s₁) E s:=by
  refine zQ5 hns (zY0 h A env H ρ O s ds ρ' _ E hi he hro hk hs fun vs H' O' h' tk a rl=>?_)
  exact hq vs H' O' h' tk a rl
 rcases hv with ⟨id,rfl⟩ | ⟨t,rfl⟩
 ·exact callWith_builtin (zM7 hns) main
 ·exact PyProof.Rows.callWith_type (zM7 hns) main
section
variable {A:Around} {E:Value→Shared→Prop} {s:Shared} {H:PH} {Q:Value→Shared→Prop} {r:R}
theorem yE1 {a:Value} {xs:List D} (hS:Sub H s.heap) (ra:Rep prog w H a (.tup xs)) (hl:xs.length≤8000000) (hq:∀ t tk,Q (.int (xs.length:Nat) t) { s with toks:=tk }):wpAny (model prog w) A (PySem.call (.builtin "len") [a]) Q E s:=by
 obtain ⟨x,rfl⟩:=ra.tup_ref
 obtain ⟨o,vs,n,h1,h2,h3,hr,hT⟩:=zH6 hS ra
 have e1:=hr.length
 simp only[Array.length_toList] at e1
 refine Calls.call_function_entry kind_len plain_len entry_len (args_len1 _) (len_body_tuple hT (by omega) ?_)
 rw[e1]
 exact hq _ _
theorem zq0 {x:Addr} {xs:List D} (hl':zE1 prog w H s.heap x xs) (hl:xs.length≤8000000) (hq:∀ t tk,Q (.int (xs.length:Nat) t) { s with toks:=tk }):wpAny (model prog w) A (PySem.call (.builtin "len") [.ref x]) Q E s:=by
 obtain ⟨vs,hp,hr⟩:=hl'
 have e1:=hr.length
 simp only[Array.length_toList] at e1
 refine call_len_list hp.isList (by omega) ?_
 rw[e1]
 exact hq _ _
theorem z57 {x:Addr} {xs:List D} (hS:Sub H s.heap) (hl':zE1 prog w H s.heap x xs) (hl:xs.length≤8000000) (hq:zL4 prog w H s (.val (.tup xs)) Q):wpAny (model prog w) A (PySem.call (.type "tuple") [.ref x]) Q E s:=by
 obtain ⟨vs,hp,hr⟩:=hl'
 have e1:=hr.length
 simp only[Array.length_toList] at e1
 refine call_tuple_list hp.isList (fun h' hk=>?_) (by rw[sizeLine_eq];omega)
 have hS':Sub H h':=fun a o e=>hk _ _ (hS _ _ e)
 have e:Ext H s.heap (zC5 H h'.objs.size { cls:=.type "tuple",data:=.seq vs }) (h'.push { cls:=.type "tuple",data:=.seq vs }) :=
  Ext.trans (Ext.grow hS hk) (Ext.push hS' _)
 exact hq _ _ _ s.toks e (.tup zC5.self rfl rfl (hr.mono (zC5.le (zF1 hS' (Nat.le_refl _)))) (.inl rfl))
theorem z58 {a:Value} {xs:List D} (hS:Sub H s.heap) (ra:Rep prog w H a (.tup xs)) (hl:xs.length≤8000000) (hq:zL4 prog w H s (.ownL xs) Q):wpAny (model prog w) A (PySem.call (.type "list") [a]) Q E s:=by
 obtain ⟨x,rfl⟩:=ra.tup_ref
 obtain ⟨o,vs,n,h1,h2,h3,hr,hT⟩:=zH6 hS ra
 have e1:=hr.length
 simp only[Array.length_toList] at e1
 refine call_list_seq x (.inr rfl) h1 h2 h3 (fun h' c' hk hn=>?_) (by rw[sizeLine_eq];omega)
 exact hq _ H h' s.toks (Ext.grow hS hk) ⟨_,rfl,zD7 _,zF1 hS (Nat.le_refl _),vs,⟨c',hn⟩,hr⟩
structure SetI (w:World) (h:Heap) (a:Addr) (es:Array (Int×Value)) (ep:Nat) (t:SetTable) (ks:List Str):Prop where
 at_:h.get? a=some { cls:=.type "set",dict:=none,data:=.set es ep t }
 fits:t.fits es.size=true
 led:t.led=!w.params.followText "set-order"
 plain:es.size=0∨t.plain=false
 elems:∃ ls:List (Str×Tok),es.toList=ls.map (fun p=>(hashStr w p.1,Value.str p.1 p.2))∧(ls.map (·.1)).Perm ks
noncomputable def yE2 (w:World) (h:Heap) (u:Value) (ss:List Str):Prop:=∃ a es ep t ks,u=.ref a∧SetI w h a es ep t ks∧ks.Nodup∧∀ x,x∈ks ↔ x∈ss
structure Hard (prog:Program) (w:World):Prop where
 sorted:∀ (A:Around) (E:Value→Shared→Prop) (s:Shared) (H:PH) (Q:Value→Shared→Prop) (v:Value) (es:List (D×D)) (l:List D) (k:Nat),Room A k→Sub H s.heap→Rep prog w H v (.dict es)→es.length < 64→zF0 zD1 (es.map (·.1))=some l→zL4 prog w H s (.ownL l) Q →
  wpAny (model prog w) A (PySem.call (.builtin "sorted") [v]) Q E s
 dict:∀ (A:Around) (E:Value→Shared→Prop) (s:Shared) (H:PH) (Q:Value→Shared→Prop) (v:Value) (ds:List D) (es:List (D×D)) (k:Nat),Room A k→Sub H s.heap→zp1 H→(Rep prog w H v (.list ds)∨Rep prog w H v (.tup ds))→ds.length≤8000000→zB8 ds=some es→zL4 prog w H s (.ownD es) Q →
  wpAny (model prog w) A (PySem.call (.type "dict") [v]) Q E s
 setOf:∀ (A:Around) (E:Value→Shared→Prop) (s:Shared) (H:PH) (Q:Value→Shared→Prop) (v:Value) (ds:List D) (ss:List Str) (k:Nat),Room A k→Sub H s.heap→Rep prog w H v (.list ds)→ds.length < 64→zh3 ds=some ss →
  (∀ u h' tk,(∀ b o,s.heap.get? b=some o→h'.get? b=some o)→yE2 w h' u ss→Q u { s with heap:=h',toks:=tk })→wpAny (model prog w) A (PySem.call (.type "set") [v]) Q E s
 sortSet:∀ (A:Around) (E:Value→Shared→Prop) (s:Shared) (H:PH) (Q:Value→Shared→Prop) (u:Value) (ss:List Str) (l:List D) (k:Nat),Room A k→Sub H s.heap→yE2 w s.heap u ss→ss.length < 64→zF0 zD1 ((zN5 ss).map .str)=some l→yU5 prog w H s (.ownL l) Q →
  wpAny (model prog w) A (PySem.call (.builtin "sorted") [u]) Q E s
 sortItems:∀ (A:Around) (E:Value→Shared→Prop) (s:Shared) (H:PH) (Q:Value→Shared→Prop) (r d:Addr) (es:List (D×D)) (l:List D) (k:Nat),Room A k→Sub H s.heap→s.heap.IsItemsView r d→Rep prog w H (.ref d) (.dict es)→es.length≤2→zF0 zI4 (zJ4 es)=some l→zL4 prog w H s (.ownL l) Q →
  wpAny (model prog w) A (PySem.call (.builtin "sorted") [.ref r]) Q E s
 listItems:∀ (A:Around) (E:Value→Shared→Prop) (s:Shared) (H:PH) (Q:Value→Shared→Prop) (r d:Addr) (es:List (D×D)) (o:Option D) (k:Nat),Room A k→Sub H s.heap→s.heap.IsItemsView r d→Rep prog w H (.ref d) (.dict es)→es.length≤8000000→zE0 es ⟨#[]⟩=some o→zL4 prog w H s (.ownL (zJ4 es)) Q →
  wpAny (model prog w) A (PySem.call (.type "list") [.ref r]) Q E s
theorem zU4 {d:D} {x:List (D×D)} (h:zm8 d=some x):d=.dict x:=by
 cases d with
 | dict y=>exact congrArg D.dict (Option.some.inj h)
 | _=>exact nS h
theorem za2 {d:D} {x:List D} (h:yj2 d=some x):d=.tup x∨d=.list x:=by
 cases d with
 | tup y=>exact .inl (congrArg D.tup (Option.some.inj h))
 | list y=>exact .inr (congrArg D.list (Option.some.inj h))
 | _=>exact nS h
theorem yl2 {d:D} {x:String} (h:tyD d=some x):d=.val (.type x)∧(x="tuple"∨x="str"):=by
 cases d with
 | val v =>
  unfold tyD at h
  dsimp only at h
  by_cases h1:(v == .type "tuple")=true
  ·rw[if_pos h1] at h;cases h;exact ⟨by rw[beq_iff_eq.mp h1],.inl rfl⟩
  ·rw[if_neg h1] at h
   by_cases h2:(v == .type "str")=true
   ·rw[if_pos h2] at h;cases h;exact ⟨by rw[beq_iff_eq.mp h2],.inr rfl⟩
   ·rw[if_neg h2] at h;exact nS h
 | _=>exact nS h
theorem z59 {u v:Value} {d t:D} (hS:Sub H s.heap) (h1:Rep prog w H u d) (h2:Rep prog w H v t) (h:((xB3 d).bind fun k=>(tyD t).map fun t=>R.val (.bool (k == t)))=some r) (hq:zL4 prog w H s r Q) :
  wpAny (model prog w) A (PySem.call (.builtin "isinstance") [u,v]) Q E s:=by
 obtain ⟨k,e,h⟩:=Option.bind_eq_some_iff.mp h
 obtain ⟨x,e2,rfl⟩:=Option.map_eq_some_iff.mp h
 obtain ⟨rfl,hx⟩:=yl2 e2
 cases h2.inv
 have q:=fun tk=>hq _ H s.heap tk (Ext.refl hS) (.bool _)
 cases d with
 | tup xs =>
  cases e
  obtain ⟨a,o,vs,n,rfl,g1,g2,_⟩:=h1.inv
  rcases hx with rfl | rfl
  ·exact IsiPair.tuple_tuple (hS _ _ g1) g2 (q _)
  ·exact IsiPair.tuple_str (hS _ _ g1) g2 (q _)
 | str y =>
  cases e
  obtain ⟨t,rfl⟩:=h1.inv
  rcases hx with rfl | rfl
  ·exact IsiPair.str_tuple (q _)
  ·exact IsiPair.str_str (q _)
 | _=>exact nS e
theorem ya8 (hard:Hard prog w) {id:String} {vs:List Value} {ds:List D} (hro:Room A k) (hS:Sub H s.heap) (hsys:zp1 H) (rl:RepL prog w H vs ds) (h:zA1 call (zo7 id ds)=some r) (hq:zL4 prog w H s r Q) :
  wpAny (model prog w) A (PySem.call (.builtin id) vs) Q E s:=by
 cases rl with
 | nil=>exact nS h
 | @cons v _ d _ h1 h2 =>
  cases h2 with
  | nil =>
   rcases iI h with ⟨rfl,h⟩ | ⟨_,h⟩
   ·obtain ⟨xs,e,h⟩:=ib h
    obtain ⟨hs,h⟩:=iN h
    cases h
    rcases za2 (io e) with rfl | rfl
    ·exact yE1 hS h1 (zD0 hs) fun t tk=>hq _ H s.heap tk (Ext.refl hS) (.int _ t)
    ·obtain ⟨x,rfl⟩:=h1.list_ref
     exact zq0 (h1.listAt hS) (zD0 hs) fun t tk=>hq _ H s.heap tk (Ext.refl hS) (.int _ t)
   ·obtain ⟨rfl,h⟩:=iT h
    obtain ⟨es,e,h⟩:=ib h
    obtain ⟨hs,h⟩:=iN h
    obtain ⟨l,h5,rfl⟩:=Option.map_eq_some_iff.mp (io h)
    exact hard.sorted A E s H Q _ _ l k hro hS (zU4 (io e)▸h1) (Nat.le_of_ble_eq_true hs) h5 hq
  | cons h3 h4 =>
   obtain ⟨⟨rfl,hn⟩,h⟩:=iT h
   cases h4 with
   | nil=>exact z59 hS h1 h3 (io h) hq
   | cons=>exact Bool.noConfusion hn
theorem xE9 (hard:Hard prog w) {t:String} {vs:List Value} {ds:List D} (hro:Room A k) (hS:Sub H s.heap) (hsys:zp1 H) (rl:RepL prog w H vs ds) (h:zA1 call (xB4 t ds)=some r) (hq:zL4 prog w H s r Q) :
  wpAny (model prog w) A (PySem.call (.type t) vs) Q E s:=by
 cases rl with
 | nil=>exact nS h
 | @cons v _ d _ h1 h2 =>
  obtain ⟨hn,h⟩:=iT h
  cases h2 with
  | cons=>exact Bool.noConfusion hn
  | nil =>
   cases d with
   | list xs =>
    rcases iI h with ⟨rfl,h⟩ | ⟨_,h⟩
    ·obtain ⟨hs,h⟩:=iN h
     cases h
     obtain ⟨x,rfl⟩:=h1.list_ref
     exact z57 hS (h1.listAt hS) (zD0 hs) hq
    ·obtain ⟨rfl,h⟩:=iT h
     obtain ⟨hs,h⟩:=iN h
     obtain ⟨es,h5,rfl⟩:=Option.map_eq_some_iff.mp (io h)
     exact hard.dict A E s H Q _ _ es k hro hS hsys (.inl h1) (zD0 hs) h5 hq
   | tup xs =>
    rcases iI h with ⟨rfl,h⟩ | ⟨_,h⟩
    ·cases h
     obtain ⟨x,rfl⟩:=h1.tup_ref
     obtain ⟨us,h3,h4⟩:=h1.isTuple hS
     exact call_tuple_same h3 (hq _ H s.heap s.toks (Ext.refl hS) h1)
    ·rcases iI h with ⟨rfl,h⟩ | ⟨_,h⟩
     ·obtain ⟨hs,h⟩:=iN h
      cases h
      exact z58 hS h1 (zD0 hs) hq
     ·obtain ⟨rfl,h⟩:=iT h
      obtain ⟨hs,h⟩:=iN h
      obtain ⟨es,h5,rfl⟩:=Option.map_eq_some_iff.mp (io h)
      exact hard.dict A E s H Q _ _ es k hro hS hsys (.inr h1) (zD0 hs) h5 hq
   | int i =>
    obtain ⟨rfl,h⟩:=iT h
    cases h
    obtain ⟨t,rfl⟩:=h1.inv
    exact call_int_int (hq _ H s.heap s.toks (Ext.refl hS) (.int _ _))
   | _=>exact nS h
end
end
end Mine
namespace Mine
open PySem PySem.W PyProof.Rows PySem.Calls PySem.Builtin
section
variable {prog:Program} {w:World} {G:PG} {K:Frag} {KH:PH} {call:zB3} {k:Nat} {sf:Bool} {sc:Scope}
theorem RepE.twin {H:PH} {es:List DictEntry} {kvs:List (D×D)} (r:RepE prog w H es kvs) {x:Str}:∀ {o:Option D},zE0 kvs x=some o →
  ∃ xs,Pairs (PySem.strKind prog w) es xs∧(∀ e∈es,∃ y,(PySem.strKind prog w).is y e.key=true∧e.hash=(PySem.strKind prog w).hash y)∧Twin prog w H xs kvs :=
 r.ind (P:=fun es kvs=>∀ {o:Option D},zE0 kvs x=some o→∃ xs,Pairs (PySem.strKind prog w) es xs∧(∀ e∈es,∃ y,(PySem.strKind prog w).is y e.key=true∧e.hash=(PySem.strKind prog w).hash y)∧Twin prog w H xs kvs)
  (fun uu=>⟨[],.nil,fun uu h=>(nomatch h),.nil⟩) (fun {y t u _ _ kvs} hv _ ih _ h=>by
   refine xe (Option.bind_eq_some_iff.mp (show ((zE0 kvs x).bind fun o=>_)=some _ from h)) fun o' Y0=>?_;have ho':=Y0.1;try clear Y0
   refine xe (ih ho') fun xs Y0=>?_;have q1:=Y0.1;have q2:=Y0.2.1;have q3:=Y0.2.2;try clear Y0
   have hy:(PySem.strKind prog w).is y (.str y t)=true:=yL7.trans (decide_eq_true rfl)
   exact ⟨(y,u)::xs,.cons hy rfl q1,List.forall_mem_cons.mpr ⟨⟨y,hy,rfl⟩,q2⟩,.cons hv q3⟩) fun uu uu uu uu uu h=>nS h
set_option tactic.hygienic true in
theorem Twin.keys {H:PH} {xs:List (Str×Value)} {kvs:List (D×D)} (r:Twin prog w H xs kvs):(kvs.filterMap fun p=>zD1 p.1)=xs.map (·.1)∧(kvs.filterMap fun p=>zN4 p.1)=[]:=by
 induction r with
 | nil=>exact ⟨rfl,rfl⟩
 | cons h1 _ ih =>
  rename_i x _ _ _ _ _
  refine ⟨?_,?_⟩
  ·rw[List.filterMap_cons_some (f:=fun p:D×D=>zD1 p.1) (b:=x) rfl,ih.1];rfl
  ·rw[List.filterMap_cons_none (f:=fun p:D×D=>zN4 p.1) rfl,ih.2]
theorem Twin.length {H:PH} {xs:List (Str×Value)} {kvs:List (D×D)} (r:Twin prog w H xs kvs):xs.length=kvs.length:=by
 induction r with
 | nil=>rfl
 | cons _ _ ih=>exact congrArg (·+1) ih
theorem Twin.repE {H:PH} {es:List DictEntry} {xs:List (Str×Value)} {kvs:List (D×D)} (p:Pairs (PySem.strKind prog w) es xs) (hk:∀ e∈es,∃ y,(PySem.strKind prog w).is y e.key=true∧e.hash=(PySem.strKind prog w).hash y)
  (r:Twin prog w H xs kvs):RepE prog w H es kvs:=by
 induction p generalizing kvs with
 | nil=>cases r;exact .nil
 | @cons e kv es xs h1 h2 _ ih =>
  cases r with
  | @cons x v d _ kvs' hv hr =>
   refine xe (hk e (by simp)) fun y Y0=>?_;have q1:=Y0.1;have q2:=Y0.2;try clear Y0
   have exy:x=y:=(PySem.strKind prog w).inj _ _ _ h1 q1
   subst exy
   refine xe (Value.isStrOf_shape (show Value.isStrOf x e.key=true from h1)) fun t q3=>?_
   obtain ⟨hh,kk,vv⟩:=e
   simp only at h1 h2 q1 q2 q3
   subst q3;subst h2;subst q2
   exact .str hv (ih (fun e he=>hk e (List.mem_cons_of_mem _ he)) hr)
theorem DictAt.dictOf {H:PH} {h:Heap} {x:Addr} {kvs:List (D×D)} (hd:DictAt prog w H h x kvs) {s:Str} {o:Option D} (hl:zE0 kvs s=some o):∃ xs n,h.DictAt (PySem.strKind prog w) x xs n∧Twin prog w H xs kvs:=by
 refine xe hd fun es Y0=>?_;refine xe Y0 fun n Y1=>?_;have ho:=Y1.1;have hr:=Y1.2.1;have ht:=Y1.2.2.1;have hm:=Y1.2.2.2;try clear hd;try clear Y0 Y1
 refine xe (hr.twin hl) fun xs Y0=>?_;have q1:=Y0.1;have q2:=Y0.2.1;have q3:=Y0.2.2;try clear Y0
 exact ⟨xs,n,⟨_,es,ho,⟨rfl,rfl,rfl⟩,rfl,fun e he=>q2 e (by simpa using he),q1,by rw[← q3.keys.1];exact ht.1⟩,q3⟩
theorem yE3 {h:Heap} {x:Addr} {xs:List (Str×Value)} {n:Nat} (a:h.DictAt (PySem.strKind prog w) x xs n):h.DictOf (PySem.strKind prog w) x xs:=by
 refine xe a fun o Y0=>?_;refine xe Y0 fun es r=>?_;try clear a;try clear Y0;exact ⟨o,es,n,r⟩
theorem zY2 {f:D→Option Str} {ds:List D}:∀ {l:List D},zF0 f ds=some l→∀ d∈ds,∃ s,f d=some s:=by
 induction ds with
 | nil=>exact fun uu uu h=>nomatch h
 | cons d ds ih =>
  intro l h
  refine xe (Option.bind_eq_some_iff.mp h) fun s Y0=>?_;have h1:=Y0.1;have h:=Y0.2;try clear Y0
  refine xe (Option.bind_eq_some_iff.mp h) fun r Y0=>?_;have h2:=Y0.1;try clear Y0
  exact List.forall_mem_cons.mpr ⟨⟨s,h1⟩,ih h2⟩
theorem zY3 {es:List (D×D)} (h:∀ p∈es,∃ s,zD1 p.1=some s) (x:Str):∃ o,zE0 es x=some o:=by
 induction es with
 | nil=>exact ⟨_,rfl⟩
 | cons p es ih =>
  have Y0:=List.forall_mem_cons.mp h;refine xe Y0.1 fun s h1=>?_;have h2:=Y0.2;try clear Y0
  refine xe (ih h2) fun o h2=>?_
  have e:zE0 (p::es) x=if s=x then some (some p.2) else some o:=by
   show ((zD1 p.1).bind fun k'=>(zE0 es x).bind fun o=>if k'=x then some (some p.2) else some o)=_
   rw[h1,h2];rfl
  by_cases c:s=x
  ·exact ⟨_,e.trans (if_pos c)⟩
  ·exact ⟨_,e.trans (if_neg c)⟩
theorem zM8 {e f:Expr} {args:List Expr} {p:Pos} (h:zh4 e=some (f,args,p)):e=.Call f args [] p:=by
 cases e with
 | Call f' a' k' p' =>
  have Y0:=Option.ite_none_right_eq_some.mp h;have h1:=Y0.1;have h2:=Y0.2;try clear Y0
  cases h2
  cases List.isEmpty_iff.mp h1
  rfl
 | _=>exact nS h
theorem zk6 {e o:Expr} {m:Str} {q:Pos} (h:yL4 e=some (o,m,q)):e=.Attribute o m q:=by
 cases e with
 | Attribute=>cases h;rfl
 | _=>exact nS h
theorem zG1 {α:Type} {l:List α} {x:α} (h:zX3 l=some x):l=[x]:=by
 cases l with
 | nil=>exact nS h
 | cons y l =>
  have Y0:=Option.ite_none_right_eq_some.mp h;have h1:=Y0.1;have h2:=Y0.2;try clear Y0
  cases h2
  cases List.isEmpty_iff.mp h1
  rfl
theorem zW3 {e o:Expr} (h:zZ8 e=some o):∃ q p,e=.Call (.Attribute o (Str.ofString "items") q) [] [] p∧zL3 o=true∧(q.endLine == p.line)=true:=by
 refine xe (Option.bind_eq_some_iff.mp h) fun Y0 Y1=>?_;obtain ⟨f,as,p⟩:=Y0;have h1:=Y1.1;have h2:=Y1.2;try clear Y1
 refine xe (Option.bind_eq_some_iff.mp h2) fun Y0 Y1=>?_;obtain ⟨o',m,q⟩:=Y0;have h3:=Y1.1;have h4:=Y1.2;try clear Y1
 have Y0:=Option.ite_none_right_eq_some.mp h4;have hc:=Y0.1;have h5:=Y0.2;try clear Y0
 rw[Bool.and_eq_true,Bool.and_eq_true,Bool.and_eq_true] at hc
 have c1:=hc.1.1.1;have c2:=hc.1.1.2;have c3:=hc.1.2;have c4:=hc.2;try clear hc
 cases h5
 cases zM8 h1
 cases zk6 h3
 cases List.isEmpty_iff.mp c1
 cases beq_iff_eq.mp c2
 exact ⟨q,p,rfl,c3,c4⟩
theorem z02 (kok:KOK G K KH) {ev:Rho→Expr→Prc (R×Rho)} {o e:Expr} (ho:zS9 prog w KH call k sf sc (eval o) (fun ρ=>ev ρ o)) (hic:zZ8 e=some o)
  {A:Around} {env:Env} {H:PH} {ρ:Rho} {O:zB1} {s:Shared} {r:R} {ρ':Rho} {Q:Value→Shared→Prop} {E:Value→Shared→Prop} {es:List (D×D)} {x:Str} {od:Option D}
  (hi:zA1 call (ev ρ o)=some (r,ρ')) (hd:r.toD=.dict es) (hl:zE0 es x=some od) (he:EnvOK env sc) (hro:Room A k) (hk:PLe KH H) (hs:St prog w H env ρ O s.heap)
  (hq:∀ v d H' O' h' (tk:Tk),After prog w sf env H ρ O s.heap H' ρ' O' h'→h'.IsItemsView v d→Rep prog w H' (.ref d) (.dict es)→Q (.ref v) { s with heap:=h',toks:=tk.1,drawn:=tk.2 }) :
  wpAny (model prog w) A (eval e env) Q E s:=by
 refine xe (zW3 hic) fun q Y0=>?_;refine xe Y0 fun p Y1=>?_;obtain rfl:=Y1.1;have hpb:=Y1.2.1;have hline:=Y1.2.2;try clear Y0 Y1
 refine wpAny_Call_method (T:="dict") (id:="dict.items") (zE5 (by rw[hpb];exact Bool.noConfusion) _ _ _) rfl hline PySem.F.plainAttrs_dict PySem.F.slot_dict_items PySem.F.type_dict_items ?_
 refine ho A env H ρ O s r ρ' _ E hi he hro hk hs fun v H' O' h' tk a rr=>?_
 rw[hd] at rr
 refine xe rr.dict_ref fun y Y0=>?_;obtain rfl:=Y0;try clear Y0
 have hD:=rr.dictAt a.st.sub
 refine xe (hD.dictOf hl) fun xs Y0=>?_;refine xe Y0 fun n Y1=>?_;have q1:=Y1.1;have q2:=Y1.2;try clear Y0 Y1
 have hdo:=yE3 q1
 refine ⟨hdo.typeIs (s:={ s with heap:=h',toks:=tk.1,drawn:=tk.2 }),hdo.mapOf.noDict,?_⟩
 have hsys:(y == sysModules)=false:=hD.elim fun uu h=>h.elim fun uu h=>h.2.2.2
 refine method_meetsIn PySem.F.slot_dict_items PySem.F.entry_dict_items rfl (PySem.evalArgs_none ⟨rfl,hdo.typeIs,PySem.F.args_dict_items_1 _,_,meets_dict_items (PySem.strKind prog w) y hsys,⟨xs,hdo⟩,?_⟩)
 exact hq _ y H' O' _ tk (a.ext (Ext.pushOut a.st.sub { cls:=.type "dict_items",data:=.fields #[.ref y] })) ⟨_,Heap.get?_push_size _ rfl,rfl,rfl⟩ rr
end
end Mine
namespace Mine
open PySem PySem.W PyProof.Rows PySem.Calls PySem.Builtin
section
variable {prog:Program} {w:World} {G:PG} {K:Frag} {KH:PH} {call:zB3} {k:Nat} {sf:Bool} {sc:Scope}
theorem yl3 {G:PG} (kok:KOK G K KH) {H:PH} (hk:PLe KH H):zp1 H:=let ⟨a,o,h,l⟩:=kok.sysm;⟨a,o,hk _ _ h,l⟩
theorem zM9 (kok:KOK G K KH) {x:Str} {p pos:Pos} {e:Expr} {v:Value} (hv:(∃ id,v=.builtin id)∨∃ t,v=.type t) (hst:¬ zE3 e=true) (hx:zF4 G sc x=some v)
  {A:Around} {env:Env} {H:PH} {s:Shared} {Q:Value→Shared→Prop} {E:Value→Shared→Prop} (he:EnvOK env sc) (hk:PLe KH H) (hs:Sub H s.heap)
  (hq:wpAny (model prog w) A (eval e env) (fun u s'=>wpAny (model prog w) A (PySem.call v [u]) Q E s') E s) :
  wpAny (model prog w) A (eval (.Call (.Name x p) [e] [] pos) env) Q E s:=by
 refine PyProof.Rows.Call_Name rfl (za1 kok he hk hs hx ?_)
 have hns:∀ z∈[e],¬ zE3 z=true:=by intro z hz;rw[List.mem_singleton] at hz;rw[hz];exact hst
 have main:wpAny (model prog w) A (PySem.evalArgs v true (backTo pos (starEach [e] env)) []) (fun a s₁=>wpAny (model prog w) A (PySem.call v ([]++a.pos) a.kw) Q E s₁) E s:=by
  refine zQ5 hns (spliced_more (wpAny_mono hq (fun u s' h'=>spliced_none h') fun uu uu x=>x) (zG0 hst))
 rcases hv with ⟨id,rfl⟩ | ⟨t,rfl⟩
 ·exact callWith_builtin (zM7 hns) main
 ·exact PyProof.Rows.callWith_type (zM7 hns) main
theorem zw1 {ds:List D}:∀ {ss:List Str},zh3 ds=some ss→ss.length=ds.length:=by
 induction ds with
 | nil=>exact fun h=>Option.some.inj h▸rfl
 | cons d ds ih =>
  intro ss h
  cases d with
  | str x =>
   obtain ⟨r,h1,h2⟩:=Option.bind_eq_some_iff.mp h
   exact Option.some.inj h2▸congrArg (·+1) (ih h1)
  | _=>exact nS h
theorem zU5 {f:Expr} {args:List Expr} {kws:List Keyword} {p:Pos}:¬ zE3 (.Call f args kws p)=true:=fun h=>nomatch h
theorem zU6 {x:Str} {p:Pos}:¬ zE3 (.Name x p)=true:=fun h=>nomatch h
theorem zw2 {e e':Expr} (h:yU1 G sc e=some e'):∃ f p p',e=.Call (.Name f p) [e'] [] p'∧zF4 G sc f=some (.type "set")∧¬ zE3 e'=true:=by
 obtain ⟨⟨f,as,p⟩,h1,h2⟩:=Option.bind_eq_some_iff.mp h
 obtain ⟨g,h3,h4⟩:=Option.bind_eq_some_iff.mp h2
 obtain ⟨x,h5,h6⟩:=Option.bind_eq_some_iff.mp h4
 obtain ⟨hc,h7⟩:=Option.ite_none_right_eq_some.mp h6
 cases h7
 cases zM8 h1
 obtain ⟨q,rfl⟩:=zF7 h3
 cases zG1 h5
 exact ⟨g,q,p,rfl,hc⟩
theorem yl4 {p:D×D} {s:Str} (h:zI4 (.tup [p.1,p.2])=some s):zD1 p.1=some s:=h
theorem zk7 {f id:String} {args:List Expr} {o:Expr} (h:zS5 f id args=some o):id=f∧∃ q p,args=[.Call (.Attribute o (Str.ofString "items") q) [] [] p]∧zZ8 (.Call (.Attribute o (Str.ofString "items") q) [] [] p)=some o:=by
 obtain ⟨e,h1⟩:=Option.ite_none_right_eq_some.mp h
 obtain ⟨x,h2,h3⟩:=Option.bind_eq_some_iff.mp h1
 obtain ⟨q,p,rfl,_⟩:=zW3 h3
 exact ⟨e,q,p,zG1 h2,h3⟩
theorem yE4 (kok:KOK G K KH) (hard:Hard prog w) {ev:Rho→Expr→Prc (R×Rho)} (hE:∀ e,Sim prog w KH call k sf sc (eval e) (fun ρ=>ev ρ e)) {x:Str} {p pos:Pos} {args:List Expr} {id:String} {e:Expr} (hx:zF4 G sc x=some (.builtin id)) (hc:zh5 G sc id args=some e) :
  Sim prog w KH call k sf sc (eval (.Call (.Name x p) args [] pos)) (fun ρ=>(ev ρ e).bind fun p=>(yC4 p.1.toD).bind fun r=>.pure (r,p.2)):=by
 intro A env H ρ O s r ρ' Q E hi he hro hk hs hq
 obtain ⟨rfl,h1⟩:=Option.ite_none_right_eq_some.mp hc
 obtain ⟨y,h2,h3⟩:=Option.bind_eq_some_iff.mp h1
 cases zG1 h2
 obtain ⟨f2,p2,p3,rfl,hset,hst⟩:=zw2 h3
 refine ibk hi fun q g1 hi=>?_
 refine ibk hi fun z g2 hi=>?_
 have hq:=hq.of hi
 refine ibk g2 fun ds hds g2=>?_
 refine iNk g2 fun hlen g2=>?_
 refine ibk g2 fun l g3 g2=>?_
 cases g2
 refine obk (io g3) fun ss g4 g5=>?_
 have hl64:ds.length < 64:=Nat.le_of_ble_eq_true hlen
 refine zM9 kok (.inl ⟨_,rfl⟩) zU5 hx he hk hs.sub (zM9 kok (.inr ⟨_,rfl⟩) hst hset he hk hs.sub ((hE _).v A env H ρ O s q.1 q.2 _ E g1 he hro hk hs fun v H' O' h' tk a rr=>?_))
 rw[zO5 (io hds)] at rr
 refine hard.setOf A E { s with heap:=h',toks:=tk.1,drawn:=tk.2 } H' _ v ds ss k hro a.st.sub rr hl64 g4 fun u h2 tk2 hk2 hu=>?_
 have a2:=a.ext (Ext.grow a.st.sub hk2)
 exact hard.sortSet A E { s with heap:=h2,toks:=tk2,drawn:=tk.2 } H' _ u ss l k hro a2.st.sub hu (by rw[zw1 g4];exact hl64) g5 (After.backT (tk:=(tk2,tk.2)) a2 hq)
theorem zw3 (kok:KOK G K KH) (hard:Hard prog w) {ev:Rho→Expr→Prc (R×Rho)} (hE:∀ e,Sim prog w KH call k sf sc (eval e) (fun ρ=>ev ρ e)) {x:Str} {p pos:Pos} {args:List Expr} {id:String} {o:Expr} (hx:zF4 G sc x=some (.builtin id)) (hc:zS5 "sorted" id args=some o) :
  Sim prog w KH call k sf sc (eval (.Call (.Name x p) args [] pos)) (fun ρ=>(ev ρ o).bind fun p=>(zo8 p.1.toD).bind fun r=>.pure (r,p.2)):=by
 intro A env H ρ O s r ρ' Q E hi he hro hk hs hq
 obtain ⟨rfl,q2,p2,rfl,hic⟩:=zk7 hc
 refine ibk hi fun q g1 hi=>?_
 refine ibk hi fun z g2 hi=>?_
 have hq:=hq.of hi
 refine ibk g2 fun es hes g2=>?_
 refine iNk g2 fun hlen g2=>?_
 refine ibk g2 fun l g3 g2=>?_
 cases g2
 have hkeys:∀ p∈es,∃ s,zD1 p.1=some s:=fun p hp=>zY2 (io g3) (.tup [p.1,p.2]) (List.mem_map.mpr ⟨p,hp,rfl⟩)
 obtain ⟨od,hod⟩:=zY3 hkeys ⟨#[]⟩
 refine zM9 kok (.inl ⟨_,rfl⟩) zU5 hx he hk hs.sub (z02 kok (hE o).v hic g1 (zU4 (io hes)) hod he hro hk hs fun v d H' O' h' tk a hv rr=>?_)
 exact hard.sortItems A E { s with heap:=h',toks:=tk.1,drawn:=tk.2 } H' _ v d es l k hro a.st.sub hv rr (Nat.le_of_ble_eq_true hlen) (io g3) (After.back a hq)
theorem yE5 (kok:KOK G K KH) {x:Str} {p pos:Pos} {args:List Expr} {id:String} (hx:zF4 G sc x=some (.builtin id)) {A:Around} {env:Env} {H:PH} {ρ:Rho} {O:zB1} {s:Shared} {ds:List D} {Q:Value→Shared→Prop} {E:Value→Shared→Prop}
  (hc:z41 sc ρ id args=some ds) (hsh:zA0 ds=true) (he:EnvOK env sc) (hk:PLe KH H) (hs:St prog w H env ρ O s.heap) (hq:OnR prog w sf env H ρ O s ρ (.val (.int (ds.length:Nat))) Q):wpAny (model prog w) A (eval (.Call (.Name x p) args [] pos) env) Q E s:=by
 obtain ⟨rfl,h1⟩:=Option.ite_none_right_eq_some.mp hc
 obtain ⟨e,h2,h3⟩:=Option.bind_eq_some_iff.mp h1
 cases zG1 h2
 obtain ⟨y,py,a,rfl,hv,n1,n2,n3⟩:=zf8 he hs h3
 exact zM9 kok (.inl ⟨_,rfl⟩) zU6 hx he hk hs.sub (zJ0 he n1 (zq0 n3 (zD0 hsh) fun t tk=>hq _ H O s.heap (tk,s.drawn) (After.refl hs) (.int _ t)))
theorem yE6 (kok:KOK G K KH) (hard:Hard prog w) {ev:Rho→Expr→Prc (R×Rho)} (hE:∀ e,Sim prog w KH call k sf sc (eval e) (fun ρ=>ev ρ e)) {x:Str} {p pos:Pos} {args:List Expr} {id:String} (hx:zF4 G sc x=some (.builtin id)) :
  Sim prog w KH call k sf sc (eval (.Call (.Name x p) args [] pos)) (fun ρ=>zX6 G ev sc ρ id args):=by
 intro A env H ρ O s r ρ' Q E hi he hro hk hs hq
 dsimp only[zX6] at hi
 cases h1:z41 sc ρ id args with
 | some ds =>
  rw[h1] at hi
  exact iNk hi fun hsh hi=>yE5 kok hx h1 hsh he hk hs (hq.of hi)
 | none =>
  rw[h1] at hi
  cases h2:zh5 G sc id args with
  | some e =>
   rw[h2] at hi
   exact yE4 kok hard hE hx h2 A env H ρ O s r ρ' Q E hi he hro hk hs hq
  | none =>
   rw[h2] at hi
   cases h3:zS5 "sorted" id args with
   | some o =>
    rw[h3] at hi
    exact zw3 kok hard hE hx h3 A env H ρ O s r ρ' Q E hi he hro hk hs hq
   | none =>
    rw[h3] at hi
    refine ibk hi fun q h1 hi=>?_
    refine ibk hi fun z h2 hi=>?_
    have hq:=hq.of hi
    exact zd6 kok (.inl ⟨_,rfl⟩) (fun e uu=>(hE e).v) hx h1 he hro hk hs fun vs H' O' h' tk a rl =>
     ya8 hard (s:={ s with heap:=h',toks:=tk.1,drawn:=tk.2 }) hro a.st.sub (yl3 kok (hk.trans a.go.ext)) rl h2 (After.back a hq)
theorem yl5 (kok:KOK G K KH) (hard:Hard prog w) {ev:Rho→Expr→Prc (R×Rho)} (hE:∀ e,Sim prog w KH call k sf sc (eval e) (fun ρ=>ev ρ e)) {x:Str} {p pos:Pos} {args:List Expr} {t:String} (hx:zF4 G sc x=some (.type t)) :
  Sim prog w KH call k sf sc (eval (.Call (.Name x p) args [] pos)) (fun ρ=>zo9 ev ρ t args):=by
 intro A env H ρ O s r ρ' Q E hi he hro hk hs hq
 dsimp only[zo9] at hi
 cases hc:zS5 "list" t args with
 | some o =>
  rw[hc] at hi
  obtain ⟨rfl,q2,p2,rfl,hic⟩:=zk7 hc
  refine ibk hi fun q g1 hi=>?_
  refine ibk hi fun z g2 hi=>?_
  have hq:=hq.of hi
  refine ibk g2 fun es hes g2=>?_
  refine iNk g2 fun hlen g2=>?_
  refine ibk g2 fun l g3 g2=>?_
  cases g2
  refine zM9 kok (.inr ⟨_,rfl⟩) zU5 hx he hk hs.sub (z02 kok (hE o).v hic g1 (zU4 (io hes)) (io g3) he hro hk hs fun v d H' O' h' tk a hv rr=>?_)
  exact hard.listItems A E { s with heap:=h',toks:=tk.1,drawn:=tk.2 } H' _ v d es l k hro a.st.sub hv rr (zD0 hlen) (io g3) (After.back a hq)
 | none =>
  rw[hc] at hi
  refine ibk hi fun q h1 hi=>?_
  refine ibk hi fun z h2 hi=>?_
  have hq:=hq.of hi
  exact zd6 kok (.inr ⟨_,rfl⟩) (fun e uu=>(hE e).v) hx h1 he hro hk hs fun vs H' O' h' tk a rl =>
   xE9 hard (s:={ s with heap:=h',toks:=tk.1,drawn:=tk.2 }) hro a.st.sub (yl3 kok (hk.trans a.go.ext)) rl h2 (After.back a hq)
end
end Mine
namespace Mine
open PySem PySem.W PyProof.Rows PySem.Calls PySem.Builtin
structure CallGo (ow:Option Addr) (H:PH) (h:Heap) (H':PH) (h':Heap):Prop where
 ext:PLe H H'
 new:∀ a,H a=none→H' a≠none→h.get? a=none
 keep:∀ b o,h.get? b=some o→ow≠some b→h'.get? b=some o
 live:∀ b,h.get? b≠none→h'.get? b≠none
 sub:Sub H' h'
theorem CallGo.ext' {H H':PH} {h h':Heap} (x:CallGo none H h H' h'):Ext H h H' h':=⟨x.ext,x.new,fun b o e=>x.keep b o e (fun z=>nomatch z),x.sub⟩
section
variable (prog:Program) (w:World)
inductive ArgsAt (H:PH) (h:Heap):Option Addr→List Value→List Ent→Prop
 | vals {vs ds}:RepL prog w H vs ds→ArgsAt H h none vs (vals ds)
 | bor {a ds₀ vs ds}:H a=none→zE1 prog w H h a ds₀→RepL prog w H vs ds→ArgsAt H h (some a) (.ref a::vs) (.bor ds₀::vals ds)
 | new {x dx c vs ds}:H dx=none→xB7 prog w H h (.ref x) dx c []→RepL prog w H vs ds→ArgsAt H h (some dx) (.ref x::vs) (.newO c []::vals ds)
noncomputable def yl6 (H:PH) (h:Heap) (ow:Option Addr):Option Ent→Prop
 | some (.bor ds)=>∃ a,ow=some a∧zE1 prog w H h a ds
 | some (.newO c fs)=>∃ dx es n,ow=some dx∧h.get? dx=some (dictOf es n)∧RepF prog w H es fs
 | _=>True
noncomputable def zE4 (G:PG) (KH:PH) (k:Nat) (call:zB3):Prop :=
 ∀ (f:Addr) (args:List Ent) (r:R) (re:Option Ent),call f args=some (r,re)→∀ (A:Around) (H:PH) (s:Shared) (ow:Option Addr) (vs:List Value) (RR:Result→Shared→Prop),
  Room A k→PLe KH H→Sub H s.heap→ArgsAt prog w H s.heap ow vs args →
  (∀ v H' h' (tk:Tk),CallGo ow H s.heap H' h'→RAt prog w H' h' s.heap v r→yl6 prog w H' h' ow re→RR (.ok (.ret v)) { s with heap:=h',toks:=tk.1,drawn:=tk.2 }) →
  codeAny (model prog w) A (.call (.ref f) ⟨vs,[]⟩) RR s
end
theorem zq1 (A:Around) (C:Addr) (rest:List Value):(A.under (.builtin "type.__call__" ⟨.ref C::rest,[]⟩)).depth≤A.depth+1∧(A.under (.builtin "type.__call__" ⟨.ref C::rest,[]⟩)).units≤A.units+19 ∧
  (A.under (.builtin "type.__call__" ⟨.ref C::rest,[]⟩)).handled=A.handled:=by
 have h1:(Code.builtin "type.__call__" ⟨.ref C::rest,[]⟩).weight=1:=by kernel_rfl
 have h2:(Code.builtin "type.__call__" ⟨.ref C::rest,[]⟩).cUnits=1:=by kernel_rfl
 exact ⟨by show A.depth+_≤_;lia,by show A.units+_≤_;lia,rfl⟩
theorem Room.creation {A:Around} {k:Nat} (r:Room A (k+1)) (C:Addr) (rest:List Value):Room (A.under (.builtin "type.__call__" ⟨.ref C::rest,[]⟩)) k:=by
 have Y0:=zq1 A C rest;have h1:=Y0.1;have h2:=Y0.2.1;have h3:=Y0.2.2;try clear Y0
 exact ⟨h3.trans r.hh,by have:=r.depth;lia,by have:=r.units;lia⟩
theorem Room.mono {A:Around} {k k':Nat} (r:Room A k) (h:k'≤k):Room A k':=⟨r.hh,by have:=r.depth;lia,by have:=r.units;lia⟩
section
variable {prog:Program} {w:World} {G:PG} {K:Frag} {KH:PH} {call:zB3} {k:Nat} {sf:Bool} {sc:Scope}
set_option tactic.hygienic true in
theorem St.lend {env:Env} {H H':PH} {ρ:Rho} {O:zB1} {h h':Heap} {x:Str} {a:Addr} {v:Value} {e:Ent} (st:St prog w H env ρ O h) (hn:zB6 env h x v) (ho:O x=some a) (cg:CallGo (some a) H h H' h')
  (he:∀ O':zB1,O' x=some a→zQ4 prog w H' h' O' x v e):St prog w H' env (ρ.set x e) O h'∧Go (TO O) H O h H' O h':=by
 have Y0:=st.owns x a ho;have q1:=Y0.1;have q2:=Y0.2.1;have q3:=Y0.2.2.1;have q4:=Y0.2.2.2;try clear Y0
 have keepN:∀ b o,(b=env.locals∨∃ y,env.cells.lookup y=some b)→h.get? b=some o→h'.get? b=some o:=fun b o hb q =>
  cg.keep b o q fun e'=>by
   cases e'
   rcases hb with hb | ⟨y,hb⟩
   ·exact q2 hb
   ·exact q3 y hb
 have eO:O.upd x (some a)=O:=by
  funext y;unfold zB1.upd;split
  ·rename_i q;rw[q];exact ho.symm
  ·rfl
 have hl:h.get? env.locals≠none:=let ⟨m,q⟩:=st.ns;Heap.Ns.live q
 have:=st.upd (h':=h') (x:=x) (e:=e) (a':=some a) cg.ext cg.sub (fun b q q'=>by
   have hb:=cg.new b q q'
   refine ⟨fun e'=>hl (by rw[← e'];exact hb),fun y e'=>?_,fun y uu e'=>(st.owns y b e').2.2.2 hb⟩
   have Y0:=st.cells y b e';refine xe Y0.2.2 fun v c=>?_;try clear Y0
   exact zE8 c hb) (fun y v uu n=>n.keeps keepN)
  (fun y b o hy hb q=>cg.keep b o q fun e'=>by cases e';exact hy (st.apO _ _ _ hb ho))
  (let ⟨m,q⟩:=st.ns;⟨m,q.at fun o q=>keepN _ o (.inl rfl) q⟩) (fun y c hy=>by
   have Y0:=st.cells y c hy;refine xe Y0.2.2 fun v Y1=>?_;refine xe Y1 fun o Y2=>?_;have h1:=Y2.1;have h2:=Y2.2;try clear Y0 Y1 Y2
   exact ⟨v,o,keepN _ o (.inr ⟨y,hy⟩) h1,h2⟩) cg.live
  (fun uu=>⟨v,hn.keeps keepN,he _ (by rw[eO];exact ho)⟩)
  (fun b e=>by
   cases e
   refine ⟨?_,q2,q3,cg.live _ q4,fun y hy q=>hy (st.apO _ _ _ q ho)⟩
   cases q:H' a with
   | none=>rfl
   | some o=>exact absurd (cg.new a q1 (by rw[q];exact fun z=>nomatch z)) q4)
 rw[eO] at this
 refine ⟨this,cg.ext,fun b q q'=>.inl (cg.new b q q'),fun b o q hb=>cg.keep b o q fun e'=>by cases e';exact hb ⟨x,ho⟩,cg.live,fun y b q=>.inl ⟨y,q⟩⟩
theorem zU7 (kok:KOK G K KH) {ev:Rho→Expr→Prc (R×Rho)} {pos:Pos} {args:List Expr} {f:Addr} {first:List Value} (hkp:keepIn K (.ref f)=true) (h:∀ x∈args,zS9 prog w KH call k sf sc (eval x) (fun ρ=>ev ρ x))
  {A:Around} {env:Env} {H:PH} {ρ:Rho} {O:zB1} {s:Shared} {ds:List D} {ρ':Rho} {Q:Value→Shared→Prop} {E:Value→Shared→Prop}
  (hi:zA1 call (evalArgs ev args ρ)=some (ds,ρ')) (he:EnvOK env sc) (hro:Room A k) (hk:PLe KH H) (hs:St prog w H env ρ O s.heap)
  (hq:∀ vs H' O' h' (tk:Tk),After prog w sf env H ρ O s.heap H' ρ' O' h'→RepL prog w H' vs ds→wpAny (model prog w) A (PySem.call (.ref f) (first++vs)) Q E { s with heap:=h',toks:=tk.1,drawn:=tk.2 }) :
  wpAny (model prog w) A (callWith pos (.ref f) first (backTo pos (starEach args env)) []) Q E s:=by
 have hns:=zT1 hi
 refine callWith_of (P:=K.In) (by rw[zM7 hns];rfl) (keeps_K hkp) (zQ5 hns (zY0 h A env H ρ O s ds ρ' _ E hi he hro hk hs fun vs H' O' h' tk a rl=>?_))
 exact ⟨kok.isIn (hk.trans a.go.ext) a.st.sub,hq vs H' O' h' tk a rl⟩
theorem zq2 (gc:zE4 prog w G KH k call) {A:Around} {H:PH} {s:Shared} {f:Addr} {vs:List Value} {ds:List D} {r:R} {re:Option Ent} {Q:Value→Shared→Prop} {E:Value→Shared→Prop}
  (hi:call f (vals ds)=some (r,re)) (hro:Room A k) (hk:PLe KH H) (hs:Sub H s.heap) (rl:RepL prog w H vs ds) (hq:yU5 prog w H s r Q):wpAny (model prog w) A (PySem.call (.ref f) vs) Q E s:=by
 refine wpAny_call (gc f _ r re hi A H s none vs _ hro hk hs (.vals rl) fun v H' h' tk cg rr uu=>?_)
 exact hq v H' h' tk cg.ext' rr
theorem ya9 {e:Option Ent} {ds:List D} (h:e.bind xE1=some ds):e=some (.bor ds):=by
 refine xe (Option.bind_eq_some_iff.mp h) fun e Y0=>?_;obtain rfl:=Y0.1;have h:=Y0.2;try clear Y0
 cases e with
 | bor=>exact congrArg (fun d=>some (Ent.bor d)) (Option.some.inj h)
 | _=>exact nS h
theorem yl7 {H:PH} {h:Heap} {O:zB1} {x:Str} {a:Addr} {e:Ent} {l:List D} (ho:O x=some a) (hl:zE1 prog w H h a l):zQ4 prog w H h O x (.ref a) (zz4 e l):=by
 cases e<;>exact ⟨a,rfl,ho,hl⟩
theorem yb0 {e:Ent} {ds l:List D} (he:yZ3 e=some ds) (h:zG8 (zz4 e l)=true):zG8 e=true:=by
 cases e with
 | bor=>rfl
 | ownL=>exact Bool.noConfusion h
 | _=>exact nS he
theorem After.lend {env:Env} {H H':PH} {ρ:Rho} {O:zB1} {h h':Heap} {x:Str} {a:Addr} {e:Ent} {ds l:List D} (st:St prog w H env ρ O h) (hn:zB6 env h x (.ref a)) (ho:O x=some a) (cg:CallGo (some a) H h H' h') (hl:ρ.lookup x=some e) (he:yZ3 e=some ds) (ml:zE1 prog w H' h' a l) :
  After prog w true env H ρ O h H' (ρ.set x (zz4 e l)) O h':=by
 have Y0:=st.lend hn ho cg (e:=zz4 e l) fun O2 ho2=>yl7 ho2 ml;have st2:=Y0.1;have go2:=Y0.2;try clear Y0
 refine ⟨go2.weaken fun b hb=>⟨rfl,hb⟩,st2,fun uu uu e=>e,fun e=>Bool.noConfusion e,fun uu uu e=>(st.owns _ _ e).2.2.2,fun n e' g1 g2=>?_⟩
 rw[Rho.lookup_set] at g1
 by_cases hn:n=x
 ·rw[if_pos hn] at g1
  cases g1
  exact ⟨e,hn▸hl,yb0 he g2⟩
 ·rw[if_neg hn] at g1;exact ⟨e',g1,g2⟩
theorem yl8 (kok:KOK G K KH) (gc:zE4 prog w G KH k call) {ev:Rho→Expr→Prc (R×Rho)} (hE:∀ e,Sim prog w KH call k sf sc (eval e) (fun ρ=>ev ρ e)) {pos:Pos} {args:List Expr} {f:Addr} (hkp:keepIn K (.ref f)=true) {y:Str}
  {A:Around} {env:Env} {H:PH} {ρ:Rho} {O:zB1} {s:Shared} {r:R} {ρ':Rho} {Q:Value→Shared→Prop} {E:Value→Shared→Prop} (hy:xE2 G sf sc ρ f args=some y)
  (hi:zA1 call ((evalArgs ev args.tail ρ).bind fun q=>(zB5 (q.2.lookup y)).bind fun e=>(zB5 (yZ3 e)).bind fun ds' =>
   .call f (.bor ds'::vals q.1) fun r=>(zB5 (r.2.bind xE1)).bind fun ds''=>.pure (r.1,q.2.set y (zz4 e ds'')))=some (r,ρ'))
  (he:EnvOK env sc) (hro:Room A k) (hk:PLe KH H) (hs:St prog w H env ρ O s.heap) (hq:OnR prog w sf env H ρ O s ρ' r Q):wpAny (model prog w) A (callWith pos (.ref f) [] (backTo pos (starEach args env)) []) Q E s:=by
 refine xe (Option.bind_eq_some_iff.mp hy) fun z Y0=>?_;have hz:=Y0.1;have h1:=Y0.2;try clear Y0
 refine xe (Option.bind_eq_some_iff.mp hz) fun e0 Y0=>?_;have hz1:=Y0.1;have hz2:=Y0.2;try clear Y0
 have Y0:=Option.ite_none_right_eq_some.mp h1;have hc:=Y0.1;have h2:=Y0.2;try clear Y0
 cases h2
 rw[Bool.and_eq_true,Bool.and_eq_true,Option.isSome_iff_exists] at hc
 obtain rfl:=hc.1.1;refine xe hc.2 fun ds0 hp=>?_;try clear hc
 refine xe (zF7 hz2) fun py Y0=>?_;obtain rfl:=Y0;try clear Y0
 have Y0:=Option.ite_none_right_eq_some.mp hp;have hv:=Y0.1;have h3:=Y0.2;try clear Y0
 refine xe (Option.bind_eq_some_iff.mp h3) fun e1 Y0=>?_;have g1:=Y0.1;have g2:=Y0.2;try clear Y0
 refine xe (z56 (he.seen hv) hs g1 g2) fun a Y0=>?_;have n1:=Y0.1;have n2:=Y0.2.1;have n3:=Y0.2.2;try clear Y0
 cases args with
 | nil=>exact nS hz1
 | cons z rest =>
  cases hz1
  refine ibp hi fun qd ρ1 h1 hi=>?_
  refine ibk hi fun e hl0 hi=>?_
  refine ibk hi fun ds' he0 hi=>?_
  refine xe (iC hi) fun Y0 Y1=>?_;obtain ⟨zr,ze⟩:=Y0;have h2:=Y1.1;have hi:=Y1.2;try clear Y1
  refine ibk hi fun ds'' hz hi=>?_
  have hq:=hq.of hi
  cases ya9 (io hz)
  have hns:∀ e∈(Expr.Name y py::rest),¬ zE3 e=true:=List.forall_mem_cons.mpr ⟨zU6,zT1 h1⟩
  refine callWith_of (P:=K.In) (by rw[zM7 hns];rfl) (keeps_K hkp) (zQ5 hns (spliced_more (zJ0 he n1 (zY0 (fun e uu=>(hE e).v) A env H ρ O s qd ρ1 _ E h1 he hro hk hs fun vs H' O' h' tk a1 rl=>?_)) (zG0 zU6)))
  refine ⟨kok.isIn (hk.trans a1.go.ext) a1.st.sub,?_⟩
  refine xe (z56 (he.seen hv) a1.st (io hl0) (io he0)) fun a' Y0=>?_;have m1:=Y0.1;have m2:=Y0.2.1;have m3:=Y0.2.2;try clear Y0
  cases n2.symm.trans (a1.sub _ _ m2)
  refine wpAny_call (gc f _ zr _ h2 A H' _ (some a) (.ref a::vs) _ hro (hk.trans a1.go.ext) a1.st.sub (.bor (a1.st.owns _ _ m2).1 m3 rl) fun v H2 h2' t2 cg rr ow=>?_)
  refine xe ow fun a2 Y0=>?_;have e2:=Y0.1;have ml:=Y0.2;try clear ow;try clear Y0
  cases e2
  exact hq v H2 O' h2' t2 (a1.trans (.lend a1.st m1 m2 cg (io hl0) (io he0) ml)) (rr.lo a1.go.live)
theorem yz5 (kok:KOK G K KH) (gc:zE4 prog w G KH k call) {ev:Rho→Expr→Prc (R×Rho)} (hE:∀ e,Sim prog w KH call k sf sc (eval e) (fun ρ=>ev ρ e)) {x:Str} {p pos:Pos} {args:List Expr} {f:Addr} {F:Fn}
  (hx:zF4 G sc x=some (.ref f)) (hf:G.fn f=some F):Sim prog w KH call k sf sc (eval (.Call (.Name x p) args [] pos)) (fun ρ=>z40 G sf ev sc ρ f args):=by
 intro A env H ρ O s r ρ' Q E hi he hro hk hs hq
 have hkp:=kok.fnk f F hf
 refine PyProof.Rows.Call_Name rfl (za1 kok he hk hs.sub hx ?_)
 dsimp only[z40] at hi
 cases hy:xE2 G sf sc ρ f args with
 | some y =>
  rw[hy] at hi
  exact yl8 kok gc hE hkp hy hi he hro hk hs hq
 | none =>
  rw[hy] at hi
  refine ibk hi fun q h1 hi=>?_
  refine xe (iC hi) fun z Y0=>?_;have h2:=Y0.1;have hi:=Y0.2;try clear Y0
  have hq:=hq.of hi
  exact zU7 kok hkp (fun e uu=>(hE e).v) h1 he hro hk hs fun vs H' O' h' tk a rl =>
   zq2 gc (s:={ s with heap:=h',toks:=tk.1,drawn:=tk.2 }) h2 hro (hk.trans a.go.ext) a.st.sub rl (After.backT a hq)
theorem yb1 {r:R} {o:Addr×List (Str×D)} (h:xO6 r=some o):r=.val (.obj o.1 o.2):=by
 cases r with
 | val d =>
  cases d with
  | obj=>cases h;rfl
  | _=>exact nS h
 | _=>exact nS h
theorem yb2 {args:List Expr} {env:Env} {pos:Pos} (hns:∀ e∈args,¬ zE3 e=true) (hlen:args.length < 30):methodCallForm (args.length+([]:List Keyword).length) (backTo pos (starEach args env)) (backToKw pos (keywordEach [] env))=true:=by
 unfold methodCallForm
 have e1:(backTo pos (starEach args env)).all (fun x=>!x.1)=true:=by
  have:=zM7 (env:=env) (pos:=pos) hns
  rw[List.all_eq_not_any_not];simpa using this
 rw[e1,show (backToKw pos (keywordEach [] env))=[] from rfl]
 simp;lia
theorem yl9 (kok:KOK G K KH) (gc:zE4 prog w G KH k call) {ev:Rho→Expr→Prc (R×Rho)} (hE:∀ e,Sim prog w KH call k sf sc (eval e) (fun ρ=>ev ρ e)) {o:Expr} {m:Str} {q pos:Pos} {args:List Expr} :
  Sim prog w KH call k sf sc (eval (.Call (.Attribute o m q) args [] pos)) (fun ρ=>if zL3 o&&(q.endLine == pos.line)&&decide (args.length < 30) then (ev ρ o).bind fun p=>yC5 G ev p m args else .fail):=by
 intro A env H ρ O s r ρ' Q E hi he hro hk hs hq
 have Y0:=iT hi;have hc:=Y0.1;have hi:=Y0.2;try clear Y0
 rw[Bool.and_eq_true,Bool.and_eq_true,decide_eq_true_eq] at hc
 have hp:=hc.1.1;have hline:=hc.1.2;have hlen:=hc.2;try clear hc
 refine ibk hi fun p h1 hi=>?_
 refine ibk hi fun ob h0 hi=>?_
 refine iTk hi fun hno hi=>?_
 refine ibk hi fun g h2 hi=>?_
 refine ibk hi fun q' h3 hi=>?_
 refine xe (iC hi) fun z Y0=>?_;have h4:=Y0.1;have hi:=Y0.2;try clear Y0
 have hq:=hq.of hi
 have Y0:=kok.meth ob.1 m g (io h2);have m0:=Y0.1;have m1:=Y0.2.1;have m2:=Y0.2.2.1;have m3:=Y0.2.2.2;try clear Y0
 rw[arm_eval_Call,zE5 (by rw[hp];exact Bool.noConfusion)]
 refine wpAny_bind ((hE o).v A env H ρ O s p.1 p.2 _ E h1 he hro hk hs fun v H' O' h' tk a rr=>wpAny_bind (wpAny_standAt ?_))
 rw[yb1 (io h0)] at rr
 refine xe rr.inv fun ax Y0=>?_;refine xe Y0 fun dx Y1=>?_;refine xe Y1 fun es Y2=>?_;refine xe Y2 fun n Y3=>?_;obtain rfl:=Y3.1;have g1:=Y3.2.1;have g2:=Y3.2.2.1;have g3:=Y3.2.2.2;try clear Y0 Y1 Y2 Y3
 have X:=kok.isIn (hk.trans a.go.ext) a.st.sub
 have I:PySem.W.InstAt h' ax (instObj ob.1 dx) ob.1 (some (dictOf es n)):=⟨a.st.sub _ _ g1,rfl,rfl,a.st.sub _ _ g2⟩
 have hpos:methodCallPos true o env q pos=pure pos:=by unfold methodCallPos;simp[beq_iff_eq.mp hline]
 unfold methodCall
 rw[yb2 (zT1 h3) hlen,hpos]
 refine wpAny_bind (wpAny_holding ?_)
 show wpAny _ _ (getMethod _ _ _) _ _ _
 refine method_fn (s:={ s with heap:=h',toks:=tk.1,drawn:=tk.2 }) X I (plainGet_of m1).1 (plainGet_of m1).2 m2 (beq_iff_eq.mp m3) (by
  show (lookIn m (dictOf es n)).map _=_
  rw[lookIn_dict,g3.missing (Option.isNone_iff_eq_none.mp hno)];rfl) (wpAny_bind (wpAny_pure ?_))
 refine zU7 kok m0 (fun e uu=>(hE e).v) h3 he hro (hk.trans a.go.ext) a.st fun vs H2 O2 h2 t2 a2 rl=>?_
 have a3:=a.trans a2
 exact zq2 gc (s:={ s with heap:=h2,toks:=t2.1,drawn:=t2.2 }) h4 hro (hk.trans a3.go.ext) a3.st.sub (.cons (rr.mono' a2.go.ext) rl) (After.backT a3 hq)
theorem yb3 {c:Addr} {e:Option Ent} {fs:List (Str×D)} (h:e.bind (xO5 c)=some fs):e=some (.newO c fs):=by
 refine xe (Option.bind_eq_some_iff.mp h) fun e Y0=>?_;obtain rfl:=Y0.1;have h:=Y0.2;try clear Y0
 cases e with
 | newO c' fs' =>
  have Y0:=Option.ite_none_right_eq_some.mp h;have hc:=Y0.1;have h2:=Y0.2;try clear Y0
  cases h2
  rw[hc]
 | _=>exact nS h
theorem z60 {r:R} (h:yU2 r=true):r=.val .none:=by
 cases r with
 | val d=>exact congrArg R.val (zf6 h)
 | _=>exact Bool.noConfusion h
theorem yz6 {H' H3:PH} {h' h3':Heap} {c:Addr} {es:List DictEntry} {n:Nat} (hs:Sub H' h') (e12:Ext H' h' (zC5 H' (h'.objs.size+1) (instObj c h'.objs.size)) ((h'.push emptyDict).push (instObj c h'.objs.size)))
  (cg:CallGo (some h'.objs.size) (zC5 H' (h'.objs.size+1) (instObj c h'.objs.size)) ((h'.push emptyDict).push (instObj c h'.objs.size)) H3 h3') (le4:PLe H3 (zC5 H3 h'.objs.size (dictOf es n))) (ow2:h3'.get? h'.objs.size=some (dictOf es n)) :
  Ext H' h' (zC5 H3 h'.objs.size (dictOf es n)) h3':=by
 refine ⟨(e12.ext.trans cg.ext).trans le4,fun b q1 q2=>?_,fun b o q=>cg.keep b o (e12.keep b o q) fun e=>?_,fun b o q=>?_⟩
 ·by_cases hb:b=h'.objs.size
  ·rw[hb];exact zD7 _
  ·have q3:H3 b≠none:=by unfold zC5 at q2;rwa [if_neg hb] at q2
   cases q4:zC5 H' (h'.objs.size+1) (instObj c h'.objs.size) b with
   | none=>exact zd3 e12.keep (cg.new b q4 q3)
   | some o=>exact e12.new b q1 (by rw[q4];exact fun z=>nomatch z)
 ·cases e
  rw[zD7] at q;cases q
 ·unfold zC5 at q
  by_cases hb:b=h'.objs.size
  ·rw[if_pos hb] at q;cases q;rw[hb];exact ow2
  ·rw[if_neg hb] at q;exact cg.sub b o q
theorem ym0 {H':PH} {h':Heap} (hs:Sub H' h') (c:Addr):Ext H' h' (zC5 H' (h'.objs.size+1) (instObj c h'.objs.size)) ((h'.push emptyDict).push (instObj c h'.objs.size)):=by
 have e1:Ext H' h' H' (h'.push emptyDict):=Ext.pushOut hs _
 have:=Ext.push e1.sub (instObj c h'.objs.size)
 rw[show (h'.push emptyDict).objs.size=h'.objs.size+1 from Heap.size_push ..] at this
 exact e1.trans this
theorem yz7 (kok:KOK G K KH) (gc:zE4 prog w G KH k call) {ev:Rho→Expr→Prc (R×Rho)} (hE:∀ e,Sim prog w KH call (k+1) sf sc (eval e) (fun ρ=>ev ρ e)) {x:Str} {p pos:Pos} {args:List Expr} {c:Addr}
  (hx:zF4 G sc x=some (.ref c)):Sim prog w KH call (k+1) sf sc (eval (.Call (.Name x p) args [] pos)) (fun ρ=>yU3 G ev ρ c args):=by
 intro A env H ρ O s r ρ' Q E hi he hro hk hs hq
 refine ibk hi fun g h1 hi=>?_
 refine ibk hi fun q h2 hi=>?_
 refine xe (iC hi) fun Y0 Y1=>?_;obtain ⟨z1,z2⟩:=Y0;have h3:=Y1.1;have hi:=Y1.2;try clear Y1
 refine iTk hi fun hz1 hi=>?_
 refine ibk hi fun fs hz2 hi=>?_
 have hq:=hq.of hi
 cases z60 hz1
 cases yb3 (io hz2)
 have Y0:=kok.cls c g (io h1);have c1:=Y0.1;have c2:=Y0.2.1;have c3:=Y0.2.2.1;have c4:=Y0.2.2.2;try clear Y0
 refine PyProof.Rows.Call_Name rfl (za1 kok he hk hs.sub hx ?_)
 refine zU7 kok c1 (fun e uu=>(hE e).v) h2 he hro hk hs fun vs H' O' h' tk a rl=>wpAny_call ?_
 have X:=kok.isIn (hk.trans a.go.ext) a.st.sub
 obtain ⟨hp,g0,d0,t0,os0⟩:=s
 refine make_core (makes_of X c2) (looks_findIn X c3) (fun self=>bind_fn X self c4) (.inl rfl) ?_
 have e12:=ym0 a.st.sub c
 have hdx:zC5 H' (h'.objs.size+1) (instObj c h'.objs.size) h'.objs.size=none:=by
  unfold zC5
  rw[if_neg (Nat.ne_of_lt (Nat.lt_succ_self _))]
  exact zF1 a.st.sub (Nat.le_refl _)
 have gdx:((h'.push emptyDict).push (instObj c h'.objs.size)).get? h'.objs.size=some emptyDict:=Heap.get?_push_of_some _ (Heap.get?_push_size _ rfl)
 refine gc g _ _ _ h3 (A.under (.builtin "type.__call__" ⟨.ref c::([]++vs),[]⟩)) (zC5 H' (h'.objs.size+1) (instObj c h'.objs.size)) _ (some h'.objs.size) (.ref (h'.objs.size+1)::([]++vs)) _ (hro.creation _ _) ((hk.trans a.go.ext).trans e12.ext) e12.sub
  (.new hdx ⟨_,[],0,rfl,zC5.self,gdx,.nil⟩ (rl.mono e12.ext)) fun v H3 h3' t3 cg rr ow=>?_
 refine xe ow fun dx Y0=>?_;refine xe Y0 fun es Y1=>?_;refine xe Y1 fun n Y2=>?_;have ow1:=Y2.1;have ow2:=Y2.2.1;have ow3:=Y2.2.2;try clear ow;try clear Y0 Y1 Y2
 cases ow1
 cases (show v=.none from Rep.inv rr)
 refine ⟨rfl,?_⟩
 have h3n:H3 h'.objs.size=none:=by
  cases q:H3 h'.objs.size with
  | none=>rfl
  | some o =>
   have:=cg.new _ hdx (by rw[q];exact fun z=>nomatch z)
   rw[gdx] at this;cases this
 have le4:PLe H3 (zC5 H3 h'.objs.size (dictOf es n)):=zC5.le h3n
 exact hq _ _ O' h3' t3 (a.ext (yz6 a.st.sub e12 cg le4 ow2)) (.obj (le4 _ _ (cg.ext _ _ zC5.self)) zC5.self (ow3.mono le4))
end
end Mine
namespace Mine
open PySem PySem.W PyProof.Rows PySem.Calls PySem.Builtin
theorem zB4 {h:Heap} {b:Addr} {o:Obj} (e:h.get? b=some o):h.get? b≠none:=by rw[e];exact fun z=>nomatch z
theorem zN0 {h:Heap} {b:Addr} (hb:h.objs.size≤b):h.get? b=none:=by
 cases e:h.get? b with
 | none=>rfl
 | some o=>exact absurd (Heap.lt_size e) (Nat.not_lt.mpr hb)
theorem za3 {a b:Addr} {P:Addr→Prop} (ha:P a) (hb:P b):∀ x∈[a,b],P x:=List.forall_mem_cons.mpr ⟨ha,List.forall_mem_cons.mpr ⟨hb,fun uu h=>nomatch h⟩⟩
theorem zf9 {a b c d e:Addr} {P:Addr→Prop} (ha:P a) (hb:P b) (hc:P c) (hd:P d) (he:P e):∀ x∈[a,b,c,d,e],P x :=
 List.forall_mem_cons.mpr ⟨ha,List.forall_mem_cons.mpr ⟨hb,List.forall_mem_cons.mpr ⟨hc,List.forall_mem_cons.mpr ⟨hd,List.forall_mem_cons.mpr ⟨he,fun uu h=>nomatch h⟩⟩⟩⟩⟩
theorem zQ6 {a:Addr} {P:Addr→Prop} (ha:P a):∀ x∈[a],P x:=List.forall_mem_cons.mpr ⟨ha,fun uu h=>nomatch h⟩
theorem yb4 {prog:Program} {w:World} {H:PH} {us:Array Value} {xs:List D} (g:RepL prog w H us.toList xs) {i:Nat} {v:Value} {d:D} (hv:us[i]?=some v) (hd:xs[i]?=some d):Rep prog w H v d:=by
 refine xe (g.get hd) fun v' Y0=>?_;have q1:=Y0.1;have q2:=Y0.2;try clear Y0
 rw[Array.getElem?_toList,hv] at q1
 exact Option.some.inj q1▸q2
structure YGo (fp:List Addr) (H:PH) (h:Heap) (H':PH) (h':Heap):Prop where
 ext:PLe H H'
 new:∀ a,H a=none→H' a≠none→h.get? a=none
 keep:∀ b o,h.get? b=some o→b ∉ fp→h'.get? b=some o
 live:∀ b,h.get? b≠none→h'.get? b≠none
 sub:Sub H' h'
section
variable (prog:Program) (w:World) (A:Around) (target:Expr) (it:Value) (fp:List Addr)
noncomputable def zU8 (s:Shared) (Qn:Shared→Prop) (Qs:Value→Shared→Prop) (E:Value→Shared→Prop):Prop :=
 wpAny (model prog w) A (pyNext it) (fun r s1=>match r with
  | none=>Qn s1
  | some v=>wpAny (model prog w) A (letOwnedTupleGo target it v) (fun uu s2=>Qs v s2) E s1) E s
noncomputable def zE6:List D→PH→Heap→Prop
 | [],H₀,h=>∀ (s:Shared) (H:PH) (Qn:Shared→Prop) (Qs:Value→Shared→Prop) (E:Value→Shared→Prop),(∀ b∈fp,∀ o,h.get? b=some o→s.heap.get? b=some o)→PLe H₀ H→Sub H s.heap→(∀ b∈fp,H b=none) →
   (∀ h' tk,(∀ b o,s.heap.get? b=some o→b ∉ fp→h'.get? b=some o)→Qn { s with heap:=h',toks:=tk })→zU8 prog w A target it s Qn Qs E
 | d::ds,H₀,h=>∀ (s:Shared) (H:PH) (Qn:Shared→Prop) (Qs:Value→Shared→Prop) (E:Value→Shared→Prop),(∀ b∈fp,∀ o,h.get? b=some o→s.heap.get? b=some o)→PLe H₀ H→Sub H s.heap→(∀ b∈fp,H b=none) →
   (∀ v H' h' tk,YGo fp H s.heap H' h'→Rep prog w H' v d→zE6 ds H' h'→Qs v { s with heap:=h',toks:=tk })→zU8 prog w A target it s Qn Qs E
end
noncomputable def ym1 (prog:Program) (w:World) (A:Around) (it:Value) (fp:List Addr) (h:Heap):Prop :=
 ∀ (s:Shared) (Q:Value→Shared→Prop) (E:Value→Shared→Prop),(∀ b∈fp,∀ o,h.get? b=some o→s.heap.get? b=some o)→Q it s→wpAny (model prog w) A (pyIter it) Q E s
noncomputable def zq3:List String:=["enumerate","zip","dict_itemiterator","dict_reverseitemiterator","odict_iterator","itertools.zip_longest","itertools.pairwise"]
section
variable {prog:Program} {w:World} {A:Around} {E:Value→Shared→Prop} {s:Shared}
theorem yE7 {target:Expr} {I:Addr} {v:Value} {o:Obj} {n:String} {Q:Unit→Shared→Prop} (ho:s.heap.get? I=some o) (hc:o.cls=.type n) (hn:zq3.contains n=false) (hq:Q () s) :
  wpAny (model prog w) A (letOwnedTupleGo target (.ref I) v) Q E s:=by
 have main:wpAny (model prog w) A (do
   let (.ref r,.ref a):=(Value.ref I,v) | return
   let o ← load r
   match o.cls,o.data with
   | .type n,.fields vs =>
    if ["enumerate","zip","dict_itemiterator","dict_reverseitemiterator","odict_iterator","itertools.zip_longest","itertools.pairwise"].contains n&&vs[0]? == some (rawInt a) then
     rule "for.unpacks-the-owned-tuple"
     updateField r 0 .none
   | _,_=>pure ():Sem Unit) Q E s:=by
  cases v with
  | ref a =>
   refine wpAny_bind (wpAny_load ho ?_)
   rw[hc]
   have hn':(["enumerate","zip","dict_itemiterator","dict_reverseitemiterator","odict_iterator","itertools.zip_longest","itertools.pairwise"].contains n)=false:=hn
   cases o.data<;>first | exact wpAny_pure hq | (simp only[hn',Bool.false_and,Bool.false_eq_true,if_false];exact wpAny_pure hq)
  | _=>exact wpAny_pure hq
 cases target with
 | Tuple=>exact main
 | List=>exact main
 | _=>exact wpAny_pure hq
end
section
variable {prog:Program} {w:World} {A:Around} {target:Expr}
theorem zO6 {I:Addr} {fp fpW wr:List Addr} {ds:List D} {P:Nat→Value→Prop} {Stt:Nat→Heap→Prop} {H₀:PH} (W:Walks prog w A I fpW wr ds.length P Stt) (hwr:∀ b∈wr,b∈fp)
  (frame:∀ i h h' H,Stt i h→(∀ b∈fp,∀ o,h.get? b=some o→h'.get? b=some o)→PLe H₀ H→Sub H h'→Stt i h')
  (cls:∀ i h,Stt i h→∃ o n,h.get? I=some o∧o.cls=.type n∧zq3.contains n=false)
  (live:∀ i h,Stt i h→∀ b∈fp,h.get? b≠none)
  (PD:∀ i v,P i v→∀ d,ds[i]?=some d→∀ H,PLe H₀ H→Rep prog w H v d) :
  ∀ (m i:Nat) (h:Heap) (H₁:PH),i+m=ds.length→PLe H₀ H₁→Stt i h→zE6 prog w A target (.ref I) fp (ds.drop i) H₁ h:=by
 intro m
 induction m with
 | zero =>
  intro i h H₁ hi le st
  have e:ds.drop i=[]:=List.drop_of_length_le (by lia)
  rw[e]
  intro s H Qn Qs E hk le2 hs hfp hq
  have st':=frame i h s.heap H st hk (le.trans le2) hs
  have ei:i=ds.length:=by lia
  rw[ei] at st'
  exact W.done s _ E st' fun h' tk hk'=>hq h' tk fun b o q hb=>hk' b o (fun z=>hb (hwr b z)) q
 | succ m ih =>
  intro i h H₁ hi le st
  have hlt:i < ds.length:=by lia
  rw[List.drop_eq_getElem_cons hlt]
  intro s H Qn Qs E hk le2 hs hfp hq
  have st':=frame i h s.heap H st hk (le.trans le2) hs
  refine W.item i s _ E hlt st' fun v h' tk hP hst hk'=>?_
  refine xe (cls _ _ hst) fun o Y0=>?_;refine xe Y0 fun n Y1=>?_;have ho:=Y1.1;have hc:=Y1.2.1;have hn:=Y1.2.2;try clear Y0 Y1
  refine yE7 (s:={ s with heap:=h',toks:=tk }) ho hc hn ?_
  have hk2:∀ b o,b ∉ fp→s.heap.get? b=some o→h'.get? b=some o:=fun b o hb q=>hk' b o (fun z=>hb (hwr b z)) q
  refine hq v H h' tk ⟨PLe.refl H,fun a q q'=>absurd q q',fun b o q hb=>hk2 b o hb q,fun b q=>?_,fun a o q=>?_⟩ (PD i v hP _ (List.getElem?_eq_getElem hlt) H (le.trans le2)) (ih (i+1) h' H (by lia) (le.trans le2) hst)
  ·by_cases hb:b∈fp
   ·exact live _ _ hst b hb
   ·cases e:s.heap.get? b with
    | none=>exact absurd e q
    | some o=>rw[hk2 b o hb e];exact fun z=>nomatch z
  ·exact hk2 a o (fun hb=>by rw[hfp a hb] at q;cases q) (hs _ _ q)
theorem zM2 {I:Addr} {fp fpW wr:List Addr} {ds:List D} {Pt:Nat→Array Value→Prop} {Stt:Nat→Heap→Prop} {Mid:Nat→Addr→Heap→Prop} {H₀:PH} {elts:List Expr} {kk:Nat} {pos:Pos}
  (W:WalksT prog w A I fpW wr ds.length Pt Stt Mid) (hwr:∀ b∈wr,b∈fp)
  (frame:∀ i h h' H,Stt i h→(∀ b∈fp,∀ o,h.get? b=some o→h'.get? b=some o)→PLe H₀ H→Sub H h'→Stt i h')
  (live:∀ i h,Stt i h→∀ b∈fp,h.get? b≠none)
  (PD:∀ i vals,Pt i vals→∀ d,ds[i]?=some d→∃ es,d=.tup es∧zB8 es=none∧∀ H,PLe H₀ H→RepL prog w H vals.toList es) :
  ∀ (m i:Nat) (h:Heap) (H₁:PH),i+m=ds.length→PLe H₀ H₁→Stt i h→zE6 prog w A (.Tuple elts kk pos) (.ref I) fp (ds.drop i) H₁ h:=by
 intro m
 induction m with
 | zero =>
  intro i h H₁ hi le st
  have e:ds.drop i=[]:=List.drop_of_length_le (by lia)
  rw[e]
  intro s H Qn Qs E hk le2 hs hfp hq
  have st':=frame i h s.heap H st hk (le.trans le2) hs
  have ei:i=ds.length:=by lia
  rw[ei] at st'
  exact W.done s _ E st' fun h' tk hk'=>hq h' tk fun b o q hb=>hk' b o (fun z=>hb (hwr b z)) q
 | succ m ih =>
  intro i h H₁ hi le st
  have hlt:i < ds.length:=by lia
  rw[List.drop_eq_getElem_cons hlt]
  intro s H Qn Qs E hk le2 hs hfp hq
  have st':=frame i h s.heap H st hk (le.trans le2) hs
  refine W.item i s _ E hlt st' fun T vals h' tk hP hT hIT hM hk'=>?_
  refine W.go elts kk pos i T { s with heap:=h',toks:=tk } _ E hM fun h2 hst hk2=>?_
  have hTw:T ∉ wr:=W.apart i T h' hM
  refine xe hIT fun o Y0=>?_;have ho:=Y0.1;have hc:=Y0.2.1;refine xe Y0.2.2 fun n hd=>?_;try clear hIT;try clear Y0
  have ho2:h2.get? T=some o:=hk2 T o hTw ho
  have hTf:s.heap.get? T=none:=by
   cases e:s.heap.get? T with
   | none=>rfl
   | some o=>exact absurd (Heap.lt_size e) (Nat.not_lt.mpr hT)
  have hTn:H T=none:=zS7 hs hTf
  have hTfp:T ∉ fp:=fun hb=>live _ _ st' T hb hTf
  refine xe (PD i vals hP _ (List.getElem?_eq_getElem hlt)) fun es Y0=>?_;have ed:=Y0.1;have hno:=Y0.2.1;have hr:=Y0.2.2;try clear Y0
  have keep2:∀ b o,b ∉ fp→s.heap.get? b=some o→h2.get? b=some o:=fun b o hb q=>hk2 b o (fun z=>hb (hwr b z)) (hk' b o (fun z=>hb (hwr b z)) q)
  have leT:=zC5.le (o:=o) hTn
  rw[ed] at hq
  refine hq (.ref T) (zC5 H T o) h2 tk ⟨leT,fun a q q'=>by rw[zC5.new q q'];exact hTf,fun b o q hb=>keep2 b o hb q,fun b q=>?_,fun a o' q=>?_⟩
   (.tup zC5.self hc hd (hr _ ((le.trans le2).trans leT)) (.inr hno)) (ih (i+1) h2 (zC5 H T o) (by lia) ((le.trans le2).trans leT) hst)
  ·by_cases hb:b∈fp
   ·exact live _ _ hst b hb
   ·cases e:s.heap.get? b with
    | none=>exact absurd e q
    | some o=>rw[keep2 b o hb e];exact fun z=>nomatch z
  ·unfold zC5 at q
   by_cases hb:a=T
   ·rw[if_pos hb] at q;cases q;rw[hb];exact ho2
   ·rw[if_neg hb] at q
    exact keep2 a o' (fun hb=>by rw[hfp a hb] at q;cases q) (hs _ _ q)
end
section
variable {prog:Program} {w:World} {A:Around} {target:Expr} {H:PH} {h:Heap}
theorem yE8 {I x:Addr} {ds:List D} (hh:A.handled=none) (hr:Rep prog w H (.ref x) (.list ds)) (hne:x≠I) (hit:h.IsListIter I x 0) (hs:Sub H h):zE6 prog w A target (.ref I) [I] ds H h:=by
 refine xe hr.inv fun uu Y0=>?_;refine xe Y0 fun vs Y1=>?_;refine xe Y1 fun n Y2=>?_;have e0:=Y2.1;have h1:=Y2.2.1;have h2:=Y2.2.2;try clear Y0 Y1 Y2
 cases e0
 have e1:vs.size=ds.length:=h2.length
 have W:=Walks.list (prog:=prog) (w:=w) hh I x hne vs
 rw[e1] at W
 have:=zO6 (target:=target) (fp:=[I]) (H₀:=H) (P:=fun i v=>vs[i]?=some v) (Stt:=fun i h=>h.IsListIter I x i∧h.IsList x vs) W (fun b hb=>hb)
  (fun i h h' H' st hk le hs'=>⟨st.1.at fun o e=>hk I (.head _) o e,⟨_,hs' _ _ (le _ _ h1),rfl,_,rfl⟩⟩)
  (fun i h st=>let ⟨o,ho,hc,_⟩:=st.1;⟨o,_,ho,hc,by decide⟩)
  (fun i h st=>zQ6 (st.1.elim fun uu q=>zB4 q.1))
  (fun i v hP d hd H' le=>(yb4 h2 hP hd).mono le)
  ds.length 0 h H (Nat.zero_add _) (PLe.refl H) ⟨hit,⟨_,hs _ _ h1,rfl,_,rfl⟩⟩
 exact this
theorem z61 {I x:Addr} {ds:List D} (hh:A.handled=none) (hr:Rep prog w H (.ref x) (.tup ds)) (hne:x≠I) (hit:h.IsTupleIter I x 0) (hs:Sub H h):zE6 prog w A target (.ref I) [I] ds H h:=by
 refine xe hr.inv fun uu Y0=>?_;refine xe Y0 fun o Y1=>?_;refine xe Y1 fun vs Y2=>?_;refine xe Y2 fun n Y3=>?_;have e0:=Y3.1;have h1:=Y3.2.1;have hc:=Y3.2.2.1;have hd:=Y3.2.2.2.1;have h2:=Y3.2.2.2.2.1;try clear Y0 Y1 Y2 Y3
 cases e0
 have e1:vs.size=ds.length:=h2.length
 have W:=Walks.tuple (prog:=prog) (w:=w) hh I x hne vs
 rw[e1] at W
 have:=zO6 (target:=target) (fp:=[I]) (H₀:=H) (P:=fun i v=>vs[i]?=some v) (Stt:=fun i h=>h.IsTupleIter I x i∧h.IsTuple x vs) W (fun b hb=>hb)
  (fun i h h' H' st hk le hs'=>⟨st.1.at fun o e=>hk I (.head _) o e,⟨_,hs' _ _ (le _ _ h1),hc,_,hd⟩⟩)
  (fun i h st=>let ⟨o,ho,hc,_⟩:=st.1;⟨o,_,ho,hc,by decide⟩)
  (fun i h st=>zQ6 (st.1.elim fun uu q=>zB4 q.1))
  (fun i v hP d hd H' le=>(yb4 h2 hP hd).mono le)
  ds.length 0 h H (Nat.zero_add _) (PLe.refl H) ⟨hit,⟨_,hs _ _ h1,hc,_,hd⟩⟩
 exact this
theorem yM5 {I x:Addr} {ds:List D} (hh:A.handled=none) (hr:Rep prog w H (.ref x) (.list ds)) (hne:x≠I) (hit:h.IsRevIter I x ((ds.length:Int) - 1)) (hs:Sub H h):zE6 prog w A target (.ref I) [I] ds.reverse H h:=by
 refine xe hr.inv fun uu Y0=>?_;refine xe Y0 fun vs Y1=>?_;refine xe Y1 fun n Y2=>?_;have e0:=Y2.1;have h1:=Y2.2.1;have h2:=Y2.2.2;try clear Y0 Y1 Y2
 cases e0
 have e1:vs.size=ds.length:=h2.length
 have W:=Walks.listRev (prog:=prog) (w:=w) hh I x hne vs
 have e2:vs.size=ds.reverse.length:=by rw[List.length_reverse];exact e1
 rw[e2] at W
 have:=zO6 (target:=target) (fp:=[I]) (H₀:=H) (P:=fun i v=>vs[ds.reverse.length - 1 - i]?=some v) (Stt:=fun i h=>i≤ds.reverse.length∧h.IsRevIter I x ((ds.reverse.length:Int) - 1 - (i:Int))∧h.IsList x vs) W (fun b hb=>hb)
  (fun i h h' H' st hk le hs'=>⟨st.1,st.2.1.at fun o e=>hk I (.head _) o e,⟨_,hs' _ _ (le _ _ h1),rfl,_,rfl⟩⟩)
  (fun i h st=>let ⟨o,ho,hc,_⟩:=st.2.1;⟨o,_,ho,hc,by decide⟩)
  (fun i h st=>zQ6 (st.2.1.elim fun uu q=>zB4 q.1))
  (fun i v hP d hd H' le=>by
   have hi:i < ds.length:=by have:=(List.getElem?_eq_some_iff.mp hd).1;rwa [List.length_reverse] at this
   rw[List.getElem?_reverse hi] at hd
   rw[List.length_reverse] at hP
   exact (yb4 h2 hP hd).mono le)
  ds.reverse.length 0 h H (Nat.zero_add _) (PLe.refl H) ⟨by lia,by rw[List.length_reverse];simpa using hit,⟨_,hs _ _ h1,rfl,_,rfl⟩⟩
 exact this
theorem z62 {I:Addr} {a c:Int} {n:Nat} (hh:A.handled=none) (hit:IsRangeIter h I a (n:Int) c) (hs:Sub H h):zE6 prog w A target (.ref I) [I] ((List.range n).map fun k=>D.int (a+(k:Nat) * c)) H h:=by
 have W:=Walks.range (prog:=prog) (w:=w) hh I a c n
 have e2:n=((List.range n).map fun k=>D.int (a+(k:Nat) * c)).length:=by simp
 have:=zO6 (prog:=prog) (w:=w) (A:=A) (target:=target) (fp:=[I]) (ds:=(List.range n).map fun k=>D.int (a+(k:Nat) * c)) (H₀:=H) (P:=fun i v=>∃ t,v=.int (a+i * c) t) (Stt:=fun i h=>IsRangeIter h I (a+(i:Nat) * c) ((n:Int) - (i:Nat)) c) (fpW:=[I]) (wr:=[I]) (by rw[← e2];exact W) (fun b hb=>hb)
  (fun i h h' H' st hk le hs'=>hk I (.head _) _ st)
  (fun i h st=>⟨_,_,st,rfl,by decide⟩)
  (fun i h st=>zQ6 (zB4 st))
  (fun i v hP d hd H' le=>by
   refine xe hP fun t Y0=>?_;obtain rfl:=Y0;try clear hP;try clear Y0
   rw[List.getElem?_map] at hd
   refine xe (Option.map_eq_some_iff.mp hd) fun j Y0=>?_;have e:=Y0.1;obtain rfl:=Y0.2;try clear Y0
   refine xe (List.getElem?_eq_some_iff.mp e) fun uu q=>?_
   rw[List.getElem_range] at q
   exact q▸.int _ t)
  ((List.range n).map fun k=>D.int (a+(k:Nat) * c)).length 0 h H (Nat.zero_add _) (PLe.refl H) (by simpa using hit)
 exact this
theorem ym2 {ds:List D} {i:Nat} {d:D} (h:(zW2 ds)[i]?=some d):∃ x,ds[i]?=some x∧d=.tup [.int (i:Nat),x]:=by
 unfold zW2 at h
 rw[List.getElem?_map,List.getElem?_zipIdx,Nat.zero_add] at h
 refine xe (Option.map_eq_some_iff.mp h) fun p Y0=>?_;have h1:=Y0.1;obtain rfl:=Y0.2;try clear Y0
 refine xe (Option.map_eq_some_iff.mp h1) fun x Y0=>?_;have h2:=Y0.1;obtain rfl:=Y0.2;try clear Y0
 exact ⟨x,h2,rfl⟩
theorem zk8 {ds:List D}:(zW2 ds).length=ds.length:=by simp[zW2]
theorem yV0 {us:Array Value} {xs:List D} (g2:RepL prog w H us.toList xs) {i:Nat} {vals:Array Value} (hP:∃ t y,us[i]?=some y∧vals=#[.int (i:Nat) t,y]) {d:D} (hd:(zW2 xs)[i]?=some d) :
  ∃ es,d=.tup es∧zB8 es=none∧∀ H',PLe H H'→RepL prog w H' vals.toList es:=by
 refine xe hP fun t Y0=>?_;refine xe Y0 fun y Y1=>?_;have q1:=Y1.1;obtain rfl:=Y1.2;try clear hP;try clear Y0 Y1
 refine xe (ym2 hd) fun z Y0=>?_;have q2:=Y0.1;obtain rfl:=Y0.2;try clear Y0
 exact ⟨_,rfl,rfl,fun H' le=>.cons (.int _ t) (.cons ((yb4 g2 q1 q2).mono le) .nil)⟩
theorem yE9 {e it x:Addr} {ds:List D} {elts:List Expr} {kk:Nat} {pos:Pos} (hh:A.handled=none) (hr:Rep prog w H (.ref x) (.list ds)) (h1:e≠it) (h2:x≠e) (h3:x≠it) (he:IsEnum h e it 0 .none) (hit:h.IsListIter it x 0) (hs:Sub H h) :
  zE6 prog w A (.Tuple elts kk pos) (.ref e) [e,it] (zW2 ds) H h:=by
 refine xe hr.inv fun uu Y0=>?_;refine xe Y0 fun vs Y1=>?_;refine xe Y1 fun n Y2=>?_;have e0:=Y2.1;have g1:=Y2.2.1;have g2:=Y2.2.2;try clear Y0 Y1 Y2
 cases e0
 have W:=WalksT.enumerate (prog:=prog) (w:=w) hh e it x h1 h2 h3 vs
 rw[show vs.size=(zW2 ds).length from (show vs.size=ds.length from g2.length).trans zk8.symm] at W
 exact zM2 (elts:=elts) (kk:=kk) (pos:=pos) (fp:=[e,it]) (H₀:=H) W (fun b hb=>hb)
  (fun i h h' H' st hk le hs'=>⟨st.1.imp fun uu q=>hk e (.head _) _ q,st.2.1.at fun o z=>hk it (.tail _ (.head _)) o z,⟨_,hs' _ _ (le _ _ g1),rfl,_,rfl⟩⟩)
  (fun i h st=>za3 (st.1.elim fun uu q=>zB4 q) (st.2.1.elim fun uu q=>zB4 q.1))
  (fun i vals hP d hd=>yV0 g2 hP hd)
  (zW2 ds).length 0 h H (Nat.zero_add _) (PLe.refl H) ⟨⟨_,he⟩,hit,⟨_,hs _ _ g1,rfl,_,rfl⟩⟩
theorem yz8 {xs ys:List D} {i:Nat} {d:D} (h:(zX5 xs ys)[i]?=some d):∃ x y,xs[i]?=some x∧ys[i]?=some y∧d=.tup [x,y]:=by
 unfold zX5 at h
 rw[List.getElem?_map] at h
 refine xe (Option.map_eq_some_iff.mp h) fun p Y0=>?_;have e:=Y0.1;obtain rfl:=Y0.2;try clear Y0
 have Y0:=List.getElem?_zip_eq_some.mp e;have q1:=Y0.1;have q2:=Y0.2;try clear Y0
 exact ⟨_,_,q1,q2,rfl⟩
theorem zq4 {xs ys:List D}:(zX5 xs ys).length=min xs.length ys.length:=by simp[zX5]
theorem yb5 {xs ys:List D} {i:Nat} {es:List D} (hz:zM5 xs ys=true) (h:(zX5 xs ys)[i]?=some (.tup es)):zB8 es=none:=by
 have:=List.all_eq_true.mp hz _ (List.mem_of_getElem? h)
 simpa using this
theorem ym3 {us vs:Array Value} {xs ys:List D} (g2:RepL prog w H us.toList xs) (g4:RepL prog w H vs.toList ys) (hz:zM5 xs ys=true) {i:Nat} {vals:Array Value} (hP:∃ x y,us[i]?=some x∧vs[i]?=some y∧vals=#[x,y]) {d:D} (hd:(zX5 xs ys)[i]?=some d) :
  ∃ es,d=.tup es∧zB8 es=none∧∀ H',PLe H H'→RepL prog w H' vals.toList es:=by
 refine xe hP fun x Y0=>?_;refine xe Y0 fun y Y1=>?_;have p1:=Y1.1;have p2:=Y1.2.1;obtain rfl:=Y1.2.2;try clear hP;try clear Y0 Y1
 refine xe (yz8 hd) fun dx Y0=>?_;refine xe Y0 fun dy Y1=>?_;have p3:=Y1.1;have p4:=Y1.2.1;obtain rfl:=Y1.2.2;try clear Y0 Y1
 exact ⟨_,rfl,yb5 hz hd,fun H' le=>.cons ((yb4 g2 p1 p3).mono le) (.cons ((yb4 g4 p2 p4).mono le) .nil)⟩
theorem ym4 {z TI i1 i2 TO:Addr}:∀ b∈[z,TO,i1,i2],b∈[z,TI,TO,i1,i2] :=
 List.forall_mem_cons.mpr ⟨.head _,fun b h=>.tail _ (.tail _ h)⟩
theorem yM6 {z TI TO i1 i2 l1 l2:Addr} {xs ys:List D} {elts:List Expr} {kk:Nat} {pos:Pos} (hh:A.handled=none) (hr1:Rep prog w H (.ref l1) (.list xs)) (hr2:Rep prog w H (.ref l2) (.list ys)) (DD:ZipApart z TI TO i1 i2 l1 l2)
  (q1:IsZip h z TI TO .none) (q2:IsPair h TI (.ref i1) (.ref i2)) (q3:IsPair h TO .none .none) (q4:h.IsListIter i1 l1 0) (q5:h.IsListIter i2 l2 0) (hs:Sub H h) (hz:zM5 xs ys=true) :
  zE6 prog w A (.Tuple elts kk pos) (.ref z) [z,TI,TO,i1,i2] (zX5 xs ys) H h:=by
 refine xe hr1.inv fun uu Y0=>?_;refine xe Y0 fun us Y1=>?_;refine xe Y1 fun n Y2=>?_;have e0:=Y2.1;have g1:=Y2.2.1;have g2:=Y2.2.2;try clear Y0 Y1 Y2
 cases e0
 refine xe hr2.inv fun uu Y0=>?_;refine xe Y0 fun vs Y1=>?_;refine xe Y1 fun n2 Y2=>?_;have e0:=Y2.1;have g3:=Y2.2.1;have g4:=Y2.2.2;try clear Y0 Y1 Y2
 cases e0
 have W:=WalksT.zip2 (prog:=prog) (w:=w) hh z TI TO i1 i2 l1 l2 DD us vs
 rw[show min us.size vs.size=(zX5 xs ys).length by rw[zq4,show us.size=xs.length from g2.length,show vs.size=ys.length from g4.length]] at W
 exact zM2 (elts:=elts) (kk:=kk) (pos:=pos) (fp:=[z,TI,TO,i1,i2]) (H₀:=H) W ym4
  (fun i h h' H' st hk le hs'=>⟨hk z (.head _) _ st.1,hk TI (.tail _ (.head _)) _ st.2.1,st.2.2.1.imp fun uu r=>r.imp fun uu r=>hk TO (.tail _ (.tail _ (.head _))) _ r,st.2.2.2.1.at fun o z=>hk i1 (.tail _ (.tail _ (.tail _ (.head _)))) o z,st.2.2.2.2.1.at fun o z=>hk i2 (.tail _ (.tail _ (.tail _ (.tail _ (.head _))))) o z,⟨_,hs' _ _ (le _ _ g1),rfl,_,rfl⟩,⟨_,hs' _ _ (le _ _ g3),rfl,_,rfl⟩⟩)
  (fun i h st=>zf9 (zB4 st.1) (zB4 st.2.1) (st.2.2.1.elim fun uu r=>r.elim fun uu r=>zB4 r) (st.2.2.2.1.elim fun uu r=>zB4 r.1) (st.2.2.2.2.1.elim fun uu r=>zB4 r.1))
  (fun i vals hP d hd=>ym3 g2 g4 hz hP hd)
  (zX5 xs ys).length 0 h H (Nat.zero_add _) (PLe.refl H) ⟨q1,q2,⟨_,_,q3⟩,q4,q5,⟨_,hs _ _ g1,rfl,_,rfl⟩,⟨_,hs _ _ g3,rfl,_,rfl⟩⟩
end
end Mine
namespace Mine
open PySem PySem.W PyProof.Rows PySem.Calls PySem.Builtin
section
variable {prog:Program} {w:World} {A:Around} {E:Value→Shared→Prop} {s:Shared}
theorem zg0 {it l:Addr} {i:Nat} {items:Array Value} {x:Value} {Q:Value→Shared→Prop} (hit:s.heap.IsTupleIter it l i)
  (hl:s.heap.IsTuple l items) (hx:items[i]?=some x)
  (hQ:∀ h',h'.IsTupleIter it l (i+1)→Heap.SameBut it s.heap h'→Q x { s with heap:=h' }) :
  wpAny (model prog w) A (Builtin.SmallTypes.nextOf (.ref it)) Q E s:=by
 refine xe (id hit) fun o Y0=>?_;have ho:=Y0.1;have hc:=Y0.2.1;have hd:=Y0.2.2;try clear Y0
 refine xe hl fun ol Y0=>?_;have hol:=Y0.1;refine xe Y0.2.2 fun nl hdl=>?_;try clear hl;try clear Y0
 unfold Builtin.SmallTypes.nextOf
 refine wpAny_bind (wpAny_callSpecial?_slot (name:=Str.ofString "__next__") hit.typeIs PySem.F.slot_tuple_iterator_next
  (wpAny_call_entry PySem.F.slot_tuple_iterator_next hit.typeIs PySem.F.entry_tuple_iterator_next ?_ (PySem.F.args_tuple_iterator_next_1 _)))
 show wpAny _ _ (field (.ref it) 0 >>= _) _ _ s
 refine wpAny_bind (wpAny_field ho hd (x:=.ref l) rfl ?_)
 show wpAny _ _ (if (Value.ref l == Value.none)=true then _ else _) _ _ s
 rw[if_neg (show ¬ ((Value.ref l == Value.none)=true) from Bool.false_ne_true)]
 show wpAny _ _ (field (.ref it) 1 >>= _) _ _ s
 refine wpAny_bind (wpAny_field ho hd (x:=.int i 0) rfl ?_)
 show wpAny _ _ (seqItems? (.ref l) >>= _) _ _ s
 refine wpAny_bind (wpAny_seqItems hol hdl ?_)
 simp only[Int.toNat_natCast,hx]
 refine wpAny_bind (wpAny_setField ho hd (by simp) (wpAny_pure ⟨x,rfl,wpAny_pure (hQ _ ?_ (Heap.SameBut.update ..))⟩))
 exact ⟨_,Heap.get?_update_self _ ho (Obj.isFreed_of_fields (Obj.data_mapFields hd _)),(Obj.cls_mapFields ..).trans hc,by
  rw[Obj.data_mapFields hd];simp[rawInt]⟩
theorem zh9 {it l:Addr} {i:Nat} {items:Array Value} {Q:Value→Shared→Prop} (hh:A.handled=none)
  (hit:s.heap.IsTupleIter it l i) (hl:s.heap.IsTuple l items) (hx:items[i]?=none)
  (hE:∀ h' e,Heap.ExtBut it s.heap h'→(∃ o,h'.get? e=some o∧o.cls=.type "StopIteration")→E (.ref e) { s with heap:=h' }) :
  wpAny (model prog w) A (Builtin.SmallTypes.nextOf (.ref it)) Q E s:=by
 refine xe (id hit) fun o Y0=>?_;have ho:=Y0.1;have hc:=Y0.2.1;have hd:=Y0.2.2;try clear Y0
 refine xe hl fun ol Y0=>?_;have hol:=Y0.1;refine xe Y0.2.2 fun nl hdl=>?_;try clear hl;try clear Y0
 unfold Builtin.SmallTypes.nextOf
 refine wpAny_bind (wpAny_callSpecial?_slot (name:=Str.ofString "__next__") hit.typeIs PySem.F.slot_tuple_iterator_next
  (wpAny_call_entry PySem.F.slot_tuple_iterator_next hit.typeIs PySem.F.entry_tuple_iterator_next ?_ (PySem.F.args_tuple_iterator_next_1 _)))
 show wpAny _ _ (field (.ref it) 0 >>= _) _ _ s
 refine wpAny_bind (wpAny_field ho hd (x:=.ref l) rfl ?_)
 show wpAny _ _ (if (Value.ref l == Value.none)=true then _ else _) _ _ s
 rw[if_neg (show ¬ ((Value.ref l == Value.none)=true) from Bool.false_ne_true)]
 show wpAny _ _ (field (.ref it) 1 >>= _) _ _ s
 refine wpAny_bind (wpAny_field ho hd (x:=.int i 0) rfl ?_)
 show wpAny _ _ (seqItems? (.ref l) >>= _) _ _ s
 refine wpAny_bind (wpAny_seqItems hol hdl ?_)
 simp only[Int.toNat_natCast,hx]
 refine wpAny_bind (wpAny_rule (wpAny_bind (wpAny_setField ho hd (by simp) ?_)))
 show wpAny _ _ (newExc (.type "StopIteration") [] >>= _) _ _ _
 refine wpAny_bind ?_
 simp only[newExc,newTuple]
 refine wpAny_bind (wpAny_newObj_type ?_ (by size_fits))
 refine wpAny_bind (m:=firstArgMember _ _) (wpAny_of_eq (a:=Value.none) (by first | rfl | (simp only[firstArgMember];rfl)) ?_)
 refine wpAny_newObj_type ?_ (by size_fits)
 simp only[raiseNew]
 refine wpAny_bind (wpAny_handled ?_)
 first | rw[show A.in1.handled=none from hh] | rw[hh]
 refine wpAny_bind (wpAny_pure (wpAny_throw ?_))
 exact hE _ _ (((Heap.SameBut.update ..).extBut.push _).push _) ⟨_,Heap.get?_push_size _ rfl,rfl⟩
end
theorem zY4 {prog:Program} {w:World} {A:Around} (hh:A.handled=none) (it l:Addr) (hne:l≠it) (items:Array Value) :
  Draws prog w A it [it,l] items.size (fun i v=>items[i]?=some v) (fun i h=>h.IsTupleIter it l i∧h.IsTuple l items) where
 live:=fun uu uu st=>let ⟨o,ho,_⟩:=st.1;⟨o,ho⟩
 frame:=fun uu uu uu st hk=>⟨st.1.at fun o e=>hk it (by simp) o e,st.2.at fun o e=>hk l (by simp) o e⟩
 item:=fun i s Q E hi st hQ=>by
  refine zg0 st.1 st.2 (x:=items[i]) (by simp[hi]) fun h' hit' hs'=>?_
  exact hQ _ h' s.toks (by simp[hi]) ⟨hit',st.2.extBut hs'.extBut hne⟩ hs'
 done:=fun s Q E st hE=>zh9 hh st.1 st.2 (by simp) hE
section
variable {prog:Program} {w:World} {A:Around} {E:Value→Shared→Prop} {s:Shared} {i1 i2:Addr} {fp1 fp2:List Addr} {n1 n2:Nat} {P1 P2:Nat→Value→Prop} {S1 S2:Nat→Heap→Prop}
structure Apart5 (z TI TO i1 i2:Addr) (fp1 fp2:List Addr):Prop where
 TIz:TI≠z
 TOz:TO≠z
 i1z:i1≠z
 i2z:i2≠z
 TITO:TI≠TO
 TIi1:TI≠i1
 TIi2:TI≠i2
 TOi1:TO≠i1
 TOi2:TO≠i2
 i12:i1≠i2
 f1:∀ b∈fp1,b≠z∧b≠TO∧b≠i2
 f2:∀ b∈fp2,b≠z∧b≠TO∧b≠i1
theorem yb6 {z TI TO:Addr} {k:Nat} {a b:Value} {Q:Value→Shared→Prop} (D:Apart5 z TI TO i1 i2 fp1 fp2) (D1:Draws prog w A i1 fp1 n1 P1 S1) (D2:Draws prog w A i2 fp2 n2 P2 S2)
  (hz:IsZip s.heap z TI TO .none) (hTI:IsPair s.heap TI (.ref i1) (.ref i2)) (hTO:IsPair s.heap TO a b) (h1:S1 k s.heap) (h2:S2 k s.heap) (hk1:k < n1) (hk2:k < n2)
  (hQ:∀ x y h' tk,P1 k x→P2 k y→IsZip h' z TI TO (rawInt s.heap.objs.size)→IsPair h' TO x y→S1 (k+1) h'→S2 (k+1) h'→IsPair h' s.heap.objs.size x y →
   (∀ c o,c≠z→c≠TO→c≠i1→c≠i2→s.heap.get? c=some o→h'.get? c=some o)→Q (.ref s.heap.objs.size) { s with heap:=h',toks:=tk }) :
  wpAny (model prog w) A (Builtin.«zip.__next__» ⟨[.ref z],[]⟩) (fun fin s'=>∃ v,fin=.done (.ret v)∧Q v s') E s:=by
 have fr1:∀ {c h h'} {k},c ∉ fp1→Heap.SameBut c h h'→S1 k h→S1 k h':=fun hc hs st=>D1.frame _ _ _ st fun b hb o e=>(hs.2 b fun q=>hc (q▸hb)).trans e
 have fr2:∀ {c h h'} {k},c ∉ fp2→Heap.SameBut c h h'→S2 k h→S2 k h':=fun hc hs st=>D2.frame _ _ _ st fun b hb o e=>(hs.2 b fun q=>hc (q▸hb)).trans e
 have z1:z ∉ fp1:=fun hb=>(D.f1 _ hb).1 rfl
 have z2:z ∉ fp2:=fun hb=>(D.f2 _ hb).1 rfl
 have t1:TO ∉ fp1:=fun hb=>(D.f1 _ hb).2.1 rfl
 have t2:TO ∉ fp2:=fun hb=>(D.f2 _ hb).2.1 rfl
 have u1:i2 ∉ fp1:=fun hb=>(D.f1 _ hb).2.2 rfl
 have u2:i1 ∉ fp2:=fun hb=>(D.f2 _ hb).2.2 rfl
 show wpAny _ _ (field (.ref z) 2 >>= _) _ _ _
 refine wpAny_bind (wpAny_field hz rfl (x:=.bool false) rfl ?_)
 show wpAny _ _ (field (.ref z) 3 >>= _) _ _ _
 refine wpAny_bind (wpAny_field hz rfl (x:=.ref TI) rfl ?_)
 refine wpAny_bind (wpAny_seqItems hTI rfl ?_)
 show wpAny _ _ (Builtin.SmallTypes.ownedTupleIsFree (.ref z) >>= _) _ _ _
 refine wpAny_bind ?_
 unfold Builtin.SmallTypes.ownedTupleIsFree
 refine wpAny_bind (wpAny_field hz rfl (x:=.none) rfl (wpAny_pure ?_))
 simp only[if_true]
 refine wpAny_bind (wpAny_rule ?_)
 refine wpAny_bind (wpAny_field hz rfl (x:=.ref TO) rfl ?_)
 refine wpAny_bind (wpAny_setField_rec hz (by simp) fun h₁ hz₁ hs₁=>?_)
 replace hz₁:IsZip h₁ z TI TO .ellipsis:=hz₁
 refine wpAny_bind ?_
 simp only[List.zipIdx_cons,List.zipIdx_nil,List.forIn_cons,List.forIn_nil]
 refine wpAny_bind (wpAny_bind (wpAny_onRaise ?_))
 show wpAny _ _ (Builtin.SmallTypes.nextOf (.ref i1) >>= _) _ _ _
 refine wpAny_bind (D1.item k _ _ _ hk1 (fr1 z1 hs₁ h1) fun x h₂ tk₂ hP1 h1₂ hs₂=>wpAny_pure ?_)
 dsimp only at hs₂
 have hTO₂:IsPair h₂ TO a b:=hs₂.extBut _ _ D.TOi1 (hs₁.extBut _ _ D.TOz hTO)
 refine wpAny_bind (wpAny_seqItems (s:={ s with heap:=h₂,toks:=tk₂ }) hTO₂ rfl ?_)
 refine wpAny_bind (wpAny_updateSeq_pair (s:={ s with heap:=h₂,toks:=tk₂ }) hTO₂ fun h₃ hTO₃ hs₃=>?_)
 replace hTO₃:IsPair h₃ TO x b:=hTO₃
 refine wpAny_bind (wpAny_letGo (wpAny_pure ?_))
 refine wpAny_bind (wpAny_bind (wpAny_onRaise ?_))
 show wpAny _ _ (Builtin.SmallTypes.nextOf (.ref i2) >>= _) _ _ _
 refine wpAny_bind (D2.item k _ _ _ hk2 (fr2 t2 hs₃ (fr2 u2 hs₂ (fr2 z2 hs₁ h2))) fun y h₄ tk₄ hP2 h2₄ hs₄=>wpAny_pure ?_)
 dsimp only at hs₄ hs₃
 have hTO₄:IsPair h₄ TO x b:=hs₄.extBut _ _ D.TOi2 hTO₃
 refine wpAny_bind (wpAny_seqItems (s:={ s with heap:=h₄,toks:=tk₄ }) hTO₄ rfl ?_)
 refine wpAny_bind (wpAny_updateSeq_pair (s:={ s with heap:=h₄,toks:=tk₄ }) hTO₄ fun h₅ hTO₅ hs₅=>?_)
 replace hTO₅:IsPair h₅ TO x y:=hTO₅
 dsimp only at hs₅
 refine wpAny_bind (wpAny_letGo (wpAny_pure (wpAny_pure ?_)))
 refine wpAny_bind (wpAny_seqItems hTO₅ rfl ?_)
 refine wpAny_bind (wpAny_newTuple ?_)
 have hsz:h₅.objs.size=s.heap.objs.size:=by rw[hs₅.1,hs₄.1,hs₃.1,hs₂.1,hs₁.1]
 have hz₅:IsZip h₅ z TI TO .ellipsis:=hs₅.extBut _ _ D.TOz.symm (hs₄.extBut _ _ D.i2z.symm (hs₃.extBut _ _ D.TOz.symm (hs₂.extBut _ _ D.i1z.symm hz₁)))
 have hk₅:∀ c o,c≠z→c≠TO→c≠i1→c≠i2→s.heap.get? c=some o→h₅.get? c=some o:=fun c o c1 c2 c3 c4 e =>
  hs₅.extBut _ _ c2 (hs₄.extBut _ _ c4 (hs₃.extBut _ _ c2 (hs₂.extBut _ _ c3 (hs₁.extBut _ _ c1 e))))
 have h1₅:S1 (k+1) h₅:=fr1 t1 hs₅ (fr1 u1 hs₄ (fr1 t1 hs₃ h1₂))
 have h2₅:S2 (k+1) h₅:=fr2 t2 hs₅ h2₄
 have hzlt:z < h₅.objs.size:=Heap.lt_size hz₅
 show wpAny _ _ (Builtin.SmallTypes.ownedTupleHandOut (.ref z) (.ref h₅.objs.size) >>= _) _ _ _
 refine wpAny_bind ?_
 unfold Builtin.SmallTypes.ownedTupleHandOut
 have hz₆:IsZip (h₅.push { cls:=.type "tuple",data:=.seq #[x,y] }) z TI TO .ellipsis:=Heap.get?_push_of_some _ hz₅
 refine wpAny_bind (wpAny_setField_rec hz₆ (by simp) fun h₇ hz₇ hs₇=>?_)
 replace hz₇:IsZip h₇ z TI TO (rawInt h₅.objs.size):=hz₇
 refine wpAny_setField_rec hz₇ (by simp) fun h₈ hz₈ hs₈=>?_
 replace hz₈:IsZip h₈ z TI TO (rawInt h₅.objs.size):=hz₈
 have up:∀ c o,c≠z→h₅.get? c=some o→h₈.get? c=some o:=fun c o c1 e=>hs₈.extBut _ _ c1 (hs₇.extBut _ _ c1 (Heap.get?_push_of_some _ e))
 have hT₈:IsPair h₈ h₅.objs.size x y:=hs₈.extBut _ _ (Nat.ne_of_gt hzlt) (hs₇.extBut _ _ (Nat.ne_of_gt hzlt) (Heap.get?_push_size _ rfl))
 rw[hsz] at hz₈ hT₈
 refine wpAny_pure ⟨_,rfl,?_⟩
 show Q (.ref h₅.objs.size) _
 rw[hsz]
 exact hQ x y h₈ tk₄ hP1 hP2 hz₈ (up _ _ D.TOz hTO₅) (D1.frame _ _ _ h1₅ fun b hb o e=>up b o (fun q=>z1 (q▸hb)) e) (D2.frame _ _ _ h2₅ fun b hb o e=>up b o (fun q=>z2 (q▸hb)) e) hT₈
  fun c o c1 c2 c3 c4 e=>up c o c1 (hk₅ c o c1 c2 c3 c4 e)
theorem ym5 {z TI TO:Addr} {k:Nat} {a b:Value} {Q:PySem.Fin→Shared→Prop} (D:Apart5 z TI TO i1 i2 fp1 fp2) (D1:Draws prog w A i1 fp1 n1 P1 S1) (D2:Draws prog w A i2 fp2 n2 P2 S2)
  (hz:IsZip s.heap z TI TO .none) (hTI:IsPair s.heap TI (.ref i1) (.ref i2)) (hTO:IsPair s.heap TO a b) (h1:S1 k s.heap) (h2:S2 k s.heap) (hk:k=min n1 n2)
  (hE:∀ h' e tk,(∀ c o,c≠z→c≠TO→c≠i1→c≠i2→s.heap.get? c=some o→h'.get? c=some o)→(∃ o,h'.get? e=some o∧o.cls=.type "StopIteration")→E (.ref e) { s with heap:=h',toks:=tk }) :
  wpAny (model prog w) A (Builtin.«zip.__next__» ⟨[.ref z],[]⟩) Q E s:=by
 have fr1:∀ {c h h'} {k},c ∉ fp1→Heap.SameBut c h h'→S1 k h→S1 k h':=fun hc hs st=>D1.frame _ _ _ st fun b hb o e=>(hs.2 b fun q=>hc (q▸hb)).trans e
 have fr2:∀ {c h h'} {k},c ∉ fp2→Heap.SameBut c h h'→S2 k h→S2 k h':=fun hc hs st=>D2.frame _ _ _ st fun b hb o e=>(hs.2 b fun q=>hc (q▸hb)).trans e
 have z1:z ∉ fp1:=fun hb=>(D.f1 _ hb).1 rfl
 have z2:z ∉ fp2:=fun hb=>(D.f2 _ hb).1 rfl
 have t1:TO ∉ fp1:=fun hb=>(D.f1 _ hb).2.1 rfl
 have t2:TO ∉ fp2:=fun hb=>(D.f2 _ hb).2.1 rfl
 have u1:i2 ∉ fp1:=fun hb=>(D.f1 _ hb).2.2 rfl
 have u2:i1 ∉ fp2:=fun hb=>(D.f2 _ hb).2.2 rfl
 show wpAny _ _ (field (.ref z) 2 >>= _) _ _ _
 refine wpAny_bind (wpAny_field hz rfl (x:=.bool false) rfl ?_)
 show wpAny _ _ (field (.ref z) 3 >>= _) _ _ _
 refine wpAny_bind (wpAny_field hz rfl (x:=.ref TI) rfl ?_)
 refine wpAny_bind (wpAny_seqItems hTI rfl ?_)
 show wpAny _ _ (Builtin.SmallTypes.ownedTupleIsFree (.ref z) >>= _) _ _ _
 refine wpAny_bind ?_
 unfold Builtin.SmallTypes.ownedTupleIsFree
 refine wpAny_bind (wpAny_field hz rfl (x:=.none) rfl (wpAny_pure ?_))
 simp only[if_true]
 refine wpAny_bind (wpAny_rule ?_)
 refine wpAny_bind (wpAny_field hz rfl (x:=.ref TO) rfl ?_)
 refine wpAny_bind (wpAny_setField_rec hz (by simp) fun h₁ hz₁ hs₁=>?_)
 replace hz₁:IsZip h₁ z TI TO .ellipsis:=hz₁
 refine wpAny_bind ?_
 simp only[List.zipIdx_cons,List.zipIdx_nil,List.forIn_cons,List.forIn_nil]
 refine wpAny_bind (wpAny_bind (wpAny_onRaise ?_))
 show wpAny _ _ (Builtin.SmallTypes.nextOf (.ref i1) >>= _) _ _ _
 rcases Nat.lt_or_ge n2 n1 with hlt | hge
 ·have hk':k=n2:=by lia
  refine wpAny_bind (D1.item k _ _ _ (by lia) (fr1 z1 hs₁ h1) fun x h₂ tk₂ hP1 h1₂ hs₂=>wpAny_pure ?_)
  dsimp only at hs₂
  have hTO₂:IsPair h₂ TO a b:=hs₂.extBut _ _ D.TOi1 (hs₁.extBut _ _ D.TOz hTO)
  refine wpAny_bind (wpAny_seqItems (s:={ s with heap:=h₂,toks:=tk₂ }) hTO₂ rfl ?_)
  refine wpAny_bind (wpAny_updateSeq_pair (s:={ s with heap:=h₂,toks:=tk₂ }) hTO₂ fun h₃ hTO₃ hs₃=>?_)
  refine wpAny_bind (wpAny_letGo (wpAny_pure ?_))
  refine wpAny_bind (wpAny_bind (wpAny_onRaise ?_))
  show wpAny _ _ (Builtin.SmallTypes.nextOf (.ref i2) >>= _) _ _ _
  have h2₃:=fr2 t2 hs₃ (fr2 u2 hs₂ (fr2 z2 hs₁ h2))
  rw[hk'] at h2₃
  refine wpAny_bind (D2.done _ _ _ h2₃ fun h₄ e hs₄ he=>?_)
  refine xe he fun oe Y0=>?_;have hoe:=Y0.1;have hce:=Y0.2;try clear he;try clear Y0
  dsimp only at hs₃ hs₄
  have hz₄:IsZip h₄ z TI TO .ellipsis:=hs₄ _ _ D.i2z.symm (hs₃.extBut _ _ D.TOz.symm (hs₂.extBut _ _ D.i1z.symm hz₁))
  have hez:e≠z:=fun x=>by subst x;rw[hz₄] at hoe;cases hoe;simp at hce
  refine wpAny_setField_rec (s:={ s with heap:=h₄,toks:=tk₂ }) hz₄ (by simp) fun h₅ uu hs₅=>hE h₅ e tk₂ (fun c o c1 c2 c3 c4 x=>hs₅.extBut _ _ c1 (hs₄ _ _ c4 (hs₃.extBut _ _ c2 (hs₂.extBut _ _ c3 (hs₁.extBut _ _ c1 x))))) ⟨oe,hs₅.extBut _ _ hez hoe,hce⟩
 ·have hk':k=n1:=by lia
  have h1₁:=fr1 z1 hs₁ h1
  rw[hk'] at h1₁
  refine wpAny_bind (D1.done _ _ _ h1₁ fun h₂ e hs₂ he=>?_)
  refine xe he fun oe Y0=>?_;have hoe:=Y0.1;have hce:=Y0.2;try clear he;try clear Y0
  dsimp only at hs₂
  have hz₂:IsZip h₂ z TI TO .ellipsis:=hs₂ _ _ D.i1z.symm hz₁
  have hez:e≠z:=fun x=>by subst x;rw[hz₂] at hoe;cases hoe;simp at hce
  refine wpAny_setField_rec hz₂ (by simp) fun h₃ uu hs₃=>hE h₃ e s.toks (fun c o c1 uu c3 uu x=>hs₃.extBut _ _ c1 (hs₂ _ _ c3 (hs₁.extBut _ _ c1 x))) ⟨oe,hs₃.extBut _ _ hez hoe,hce⟩
theorem yM7 {z TI TO:Addr} (D:Apart5 z TI TO i1 i2 fp1 fp2) (D1:Draws prog w A.in1 i1 fp1 n1 P1 S1) (D2:Draws prog w A.in1 i2 fp2 n2 P2 S2) :
  WalksT prog w A z (z::TI::TO::i1::i2::(fp1++fp2)) [z,TO,i1,i2] (min n1 n2)
   (fun i vals=>∃ x y,P1 i x∧P2 i y∧vals=#[x,y])
   (fun i h=>IsZip h z TI TO .none∧IsPair h TI (.ref i1) (.ref i2)∧(∃ a b,IsPair h TO a b)∧S1 i h∧S2 i h)
   (fun i T h=>IsZip h z TI TO (rawInt T)∧IsPair h TI (.ref i1) (.ref i2)∧(∃ a b,IsPair h TO a b)∧S1 (i+1) h∧S2 (i+1) h∧T≠z∧T≠TO∧T≠i1∧T≠i2) where
 sub:=List.forall_mem_cons.mpr ⟨.head _,List.forall_mem_cons.mpr ⟨.tail _ (.tail _ (.head _)),List.forall_mem_cons.mpr ⟨.tail _ (.tail _ (.tail _ (.head _))),zQ6 (.tail _ (.tail _ (.tail _ (.tail _ (.head _)))))⟩⟩⟩
 frame:=fun i h h' hst hk=>by
  have hz:=hst.1;have hTI:=hst.2.1;refine xe hst.2.2.1 fun a Y0=>?_;refine xe Y0 fun b hTO=>?_;have h1:=hst.2.2.2.1;have h2:=hst.2.2.2.2;try clear hst;try clear Y0
  exact ⟨hk z (.head _) _ hz,hk TI (.tail _ (.head _)) _ hTI,⟨a,b,hk TO (.tail _ (.tail _ (.head _))) _ hTO⟩,D1.frame _ _ _ h1 fun b hb o e=>hk b (.tail _ (.tail _ (.tail _ (.tail _ (.tail _ (List.mem_append_left _ hb)))))) o e,D2.frame _ _ _ h2 fun b hb o e=>hk b (.tail _ (.tail _ (.tail _ (.tail _ (.tail _ (List.mem_append_right _ hb)))))) o e⟩
 item:=fun i s Q E hi hst hQ=>by
  have hz:=hst.1;have hTI:=hst.2.1;refine xe hst.2.2.1 fun a Y0=>?_;refine xe Y0 fun b hTO=>?_;have h1:=hst.2.2.2.1;have h2:=hst.2.2.2.2;try clear hst;try clear Y0
  have hT:s.TypeIs (.ref z) "zip":=⟨_,hz,rfl⟩
  have lt:∀ {c o},s.heap.get? c=some o→s.heap.objs.size≠c:=fun e=>Nat.ne_of_gt (Heap.lt_size e)
  unfold pyNext
  refine wpAny_bind (wpAny_attempt (wpAny_callSpecial?_slot (name:=Str.ofString "__next__") hT PySem.F.slot_zip_next
   (wpAny_call_entry PySem.F.slot_zip_next hT PySem.F.entry_zip_next
    (yb6 D D1 D2 hz hTI hTO h1 h2 (Nat.lt_of_lt_of_le hi (Nat.min_le_left ..)) (Nat.lt_of_lt_of_le hi (Nat.min_le_right ..)) fun x y h' tk p1 p2 a1 a2 a3 a4 a5 hk=>wpAny_pure ?_) (PySem.F.args_zip_next_1 _))))
  exact hQ s.heap.objs.size #[x,y] h' tk ⟨x,y,p1,p2,rfl⟩ (Nat.le_refl _) ⟨_,a5,rfl,_,rfl⟩
   ⟨a1,hk _ _ D.TIz D.TITO D.TIi1 D.TIi2 hTI,⟨_,_,a2⟩,a3,a4,lt hz,lt hTO,(by refine xe (D1.live _ _ h1) fun uu e=>?_;exact lt e),(by refine xe (D2.live _ _ h2) fun uu e=>?_;exact lt e)⟩
   fun c o hc e=>hk c o (fun x=>hc (x▸.head _)) (fun x=>hc (x▸.tail _ (.head _))) (fun x=>hc (x▸.tail _ (.tail _ (.head _)))) (fun x=>hc (x▸.tail _ (.tail _ (.tail _ (.head _))))) e
 go:=fun elts k pos i T s Q E hm hQ=>by
  have hz:=hm.1;have hTI:=hm.2.1;refine xe hm.2.2.1 fun a Y0=>?_;refine xe Y0 fun b hTO=>?_;have h1:=hm.2.2.2.1;have h2:=hm.2.2.2.2.1;try clear hm;try clear Y0
  refine wpAny_letOwnedTupleGo_zip hz fun h' hz' hs'=>hQ h' ⟨hz',hs'.extBut _ _ D.TIz hTI,⟨a,b,hs'.extBut _ _ D.TOz hTO⟩,D1.frame _ _ _ h1 fun b hb o e=>hs'.extBut _ _ (D.f1 b hb).1 e,D2.frame _ _ _ h2 fun b hb o e=>hs'.extBut _ _ (D.f2 b hb).1 e⟩
   fun c o hc e=>hs'.extBut _ _ (fun x=>hc (x▸.head _)) e
 apart:=fun i T h hm hT=>by
  have t1:=hm.2.2.2.2.2.1;have t2:=hm.2.2.2.2.2.2.1;have t3:=hm.2.2.2.2.2.2.2.1;have t4:=hm.2.2.2.2.2.2.2.2;try clear hm
  rcases List.mem_cons.mp hT with e | hT
  ·exact t1 e
  ·rcases List.mem_cons.mp hT with e | hT
   ·exact t2 e
   ·rcases List.mem_cons.mp hT with e | hT
    ·exact t3 e
    ·exact t4 (List.mem_singleton.mp hT)
 done:=fun s Q E hst hQ=>by
  have hz:=hst.1;have hTI:=hst.2.1;refine xe hst.2.2.1 fun a Y0=>?_;refine xe Y0 fun b hTO=>?_;have h1:=hst.2.2.2.1;have h2:=hst.2.2.2.2;try clear hst;try clear Y0
  have hT:s.TypeIs (.ref z) "zip":=⟨_,hz,rfl⟩
  unfold pyNext
  refine wpAny_bind (wpAny_attempt (wpAny_callSpecial?_slot (name:=Str.ofString "__next__") hT PySem.F.slot_zip_next
   (wpAny_call_entry PySem.F.slot_zip_next hT PySem.F.entry_zip_next (ym5 D D1 D2 hz hTI hTO h1 h2 rfl fun h' e tk hk he=>?_) (PySem.F.args_zip_next_1 _))))
  refine xe he fun o Y0=>?_;have ho:=Y0.1;have hc:=Y0.2;try clear he;try clear Y0
  refine wpAny_bind (wpAny_isInstance (T:="StopIteration") (b:=true) ⟨o,ho,hc⟩ isSubtype_stop ?_)
  exact wpAny_pure (hQ _ _ fun c o hc e=>hk c o (fun x=>hc (x▸.head _)) (fun x=>hc (x▸.tail _ (.head _))) (fun x=>hc (x▸.tail _ (.tail _ (.head _)))) (fun x=>hc (x▸.tail _ (.tail _ (.tail _ (.head _))))) e)
 self:=fun i s Q E hst hQ=>wpAny_pyIter_zip hst.1 hQ
open AutoSeq1 (wpAny_loadPart') in
set_option tactic.hygienic true in
theorem zW9 (l:Addr) (items:Array Value) (n:Nat) (dct:Option Addr) (sl:Array (Option Value)) :
  Meets (Builtin.«enumerate.__new__» ⟨[.type "enumerate",.ref l],[]⟩) (fun uu R s=>s.heap.get? l=some { cls:=.type "tuple",dict:=dct,data:=.seq items n,slots:=sl } ∧
   R (.ok (.ret (.ref (s.heap.push { cls:=.type "tuple_iterator",data:=.fields #[.ref l,.int 0 0] }).objs.size)))
    { s with heap:=(s.heap.push { cls:=.type "tuple_iterator",data:=.fields #[.ref l,.int 0 0] }).push { cls:=.type "enumerate",data:=.fields #[.none,.bool false,.ref s.heap.objs.size,rawInt 0,.none,.none] } }) :=
 .of_wp fun prog w A R s h=>by
  obtain ⟨hp,g,d,tk,os⟩:=s;obtain ⟨hl,h⟩:=h
  have hsub:=sub_enumerate
  have hL:Heap.IsTuple (Shared.heap ⟨hp,g,d,tk,os⟩) l items:=⟨_,hl,rfl,n,rfl⟩
  wp_walk using wpAny_loadPart' hl
  refine wpAny_stack_any fun st=>wpAny_pure ?_
  split
  ·rename_i c _ _ _ _ _
   cases (c == Value.type "enumerate")
   ·wp_walk using wpAny_loadPart' hl,wpAny_pyIter_tuple hL
    exact ⟨_,rfl,h⟩
   ·wp_walk using wpAny_loadPart' hl,wpAny_pyIter_tuple hL
    exact ⟨_,rfl,h⟩
  ·wp_walk using wpAny_loadPart' hl,wpAny_pyIter_tuple hL
   exact ⟨_,rfl,h⟩
theorem zY5 {l:Addr} {items:Array Value} {Q:Value→Shared→Prop} (hL:s.heap.IsTuple l items)
  (h:∀ h',IsEnum h' (s.heap.objs.size+1) s.heap.objs.size 0 .none→h'.IsTupleIter s.heap.objs.size l 0 →
   (∀ b o,s.heap.get? b=some o→h'.get? b=some o)→Q (.ref (s.heap.objs.size+1)) { s with heap:=h' }) :
  wpAny (model prog w) A (PySem.call (.type "enumerate") [.ref l]) Q E s:=by
 refine xe hL fun Y0 Y1=>?_;obtain ⟨c,dct,dt,sl⟩:=Y0;have hl:=Y1.1;have hc:=Y1.2.1;refine xe Y1.2.2 fun n hd=>?_;try clear hL;try clear Y1
 replace hc:c=.type "tuple":=hc
 replace hd:dt=.seq items n:=hd
 subst hc hd
 refine callType_new PySem.F.called_enumerate (by decide) (PySem.F.typeCall_enumerate_1 _) (PySem.F.newCall_enumerate_1 _) (fun obj=>PySem.F.args_object_init_2 obj _) PySem.F.entry_enumerate_new
  (zW9 l items n dct sl) ⟨hl,?_⟩
 have hz:(s.heap.push { cls:=.type "tuple_iterator",data:=.fields #[.ref l,.int 0 0] }).objs.size=s.heap.objs.size+1:=Heap.size_push ..
 show _∧_
 rw[hz]
 have he:IsEnum ((s.heap.push { cls:=.type "tuple_iterator",data:=.fields #[.ref l,.int 0 0] }).push
   { cls:=.type "enumerate",data:=.fields #[.none,.bool false,.ref s.heap.objs.size,rawInt 0,.none,.none] }) (s.heap.objs.size+1) s.heap.objs.size 0 .none:=by
  have:=Heap.get?_push_size (s.heap.push { cls:=.type "tuple_iterator",data:=.fields #[.ref l,.int 0 0] })
   (o:={ cls:=.type "enumerate",data:=.fields #[.none,.bool false,.ref s.heap.objs.size,rawInt 0,.none,.none] }) rfl
  rw[hz] at this;exact this
 exact ⟨⟨_,he,rfl⟩,h _ he ⟨_,Heap.get?_push_of_some _ (Heap.get?_push_size _ rfl),rfl,rfl⟩ fun b o x=>Heap.get?_push_of_some _ (Heap.get?_push_of_some _ x)⟩
noncomputable def zT2 (l:Addr):Obj:={ cls:=.type "tuple_iterator",data:=.fields #[.ref l,.int 0 0] }
noncomputable def zt3 (h:Heap) (l1 l2:Addr):Heap:=((h.push (zT2 l1)).push (zT2 l2)).push { cls:=.type "tuple",data:=.seq #[.ref h.objs.size,.ref (h.push (zT2 l1)).objs.size] }
noncomputable def zt4 (h:Heap) (l1 l2:Addr):Heap:=(zt3 h l1 l2).push { cls:=.type "tuple",data:=.seq #[.none,.none] }
noncomputable def zt5 (h:Heap) (l1 l2:Addr):Heap:=(zt4 h l1 l2).push { cls:=.type "zip",data:=.fields #[.none,.bool false,.bool false,.ref ((h.push (zT2 l1)).push (zT2 l2)).objs.size,.ref (zt3 h l1 l2).objs.size] }
theorem zm2 (l1 l2:Addr) (xs ys:Array Value) :
  Meets (Builtin.«zip.__new__» ⟨[.type "zip",.ref l1,.ref l2],[]⟩) (fun uu R s=>s.heap.IsTuple l1 xs∧s.heap.IsTuple l2 ys ∧
   R (.ok (.ret (.ref (zt4 s.heap l1 l2).objs.size))) { s with heap:=zt5 s.heap l1 l2 }) :=
 .of_wp fun prog w A R s h=>by
  obtain ⟨hp,g,d,tk,os⟩:=s;obtain ⟨hl1,hl2,h⟩:=h
  have hsub:=sub_zip
  have hL1:Heap.IsTuple (Shared.heap ⟨hp,g,d,tk,os⟩) l1 xs:=hl1
  have hL2:Heap.IsTuple (Shared.heap ⟨hp.push { cls:=.type "tuple_iterator",data:=.fields #[.ref l1,.int 0 0] },g,d,tk,os⟩) l2 ys:=by
   obtain ⟨o,ho,r⟩:=hl2;exact ⟨o,Heap.get?_push_of_some _ ho,r⟩
  wp_walk using wpAny_pyIter_tuple hL1,wpAny_pyIter_tuple hL2
  exact ⟨_,rfl,h⟩
theorem zm3 {l1 l2:Addr} {xs ys:Array Value} {Q:Value→Shared→Prop} (hl1:s.heap.IsTuple l1 xs) (hl2:s.heap.IsTuple l2 ys)
  (h:∀ h',IsZip h' (s.heap.objs.size+4) (s.heap.objs.size+2) (s.heap.objs.size+3) .none→IsPair h' (s.heap.objs.size+2) (.ref s.heap.objs.size) (.ref (s.heap.objs.size+1)) →
   IsPair h' (s.heap.objs.size+3) .none .none→h'.IsTupleIter s.heap.objs.size l1 0→h'.IsTupleIter (s.heap.objs.size+1) l2 0 →
   (∀ c o,s.heap.get? c=some o→h'.get? c=some o)→Q (.ref (s.heap.objs.size+4)) { s with heap:=h' }) :
  wpAny (model prog w) A (PySem.call (.type "zip") [.ref l1,.ref l2]) Q E s:=by
 refine callType_new PySem.F.called_zip (by decide) (PySem.F.typeCall_zip_2 _ _) (PySem.F.newCall_zip_2 _ _) (fun obj=>PySem.F.args_object_init_3 obj _ _) PySem.F.entry_zip_new
  (zm2 l1 l2 xs ys) ⟨hl1,hl2,?_⟩
 have z1:(s.heap.push (zT2 l1)).objs.size=s.heap.objs.size+1:=Heap.size_push ..
 have z2:((s.heap.push (zT2 l1)).push (zT2 l2)).objs.size=s.heap.objs.size+2:=by rw[Heap.size_push,z1]
 have z3:(zt3 s.heap l1 l2).objs.size=s.heap.objs.size+3:=by unfold zt3;rw[Heap.size_push,z2]
 have z4:(zt4 s.heap l1 l2).objs.size=s.heap.objs.size+4:=by unfold zt4;rw[Heap.size_push,z3]
 have g5:(zt5 s.heap l1 l2).get? (zt4 s.heap l1 l2).objs.size=some _:=Heap.get?_push_size _ rfl
 have g4:(zt5 s.heap l1 l2).get? (zt3 s.heap l1 l2).objs.size=some _:=Heap.get?_push_of_some _ (Heap.get?_push_size _ rfl)
 have g3:(zt5 s.heap l1 l2).get? ((s.heap.push (zT2 l1)).push (zT2 l2)).objs.size=some _:=Heap.get?_push_of_some _ (Heap.get?_push_of_some _ (Heap.get?_push_size _ rfl))
 have g2:(zt5 s.heap l1 l2).get? (s.heap.push (zT2 l1)).objs.size=some (zT2 l2):=Heap.get?_push_of_some _ (Heap.get?_push_of_some _ (Heap.get?_push_of_some _ (Heap.get?_push_size _ rfl)))
 have g1:(zt5 s.heap l1 l2).get? s.heap.objs.size=some (zT2 l1):=Heap.get?_push_of_some _ (Heap.get?_push_of_some _ (Heap.get?_push_of_some _ (Heap.get?_push_of_some _ (Heap.get?_push_size _ rfl))))
 show _∧_
 rw[z2,z3,z4] at g5
 rw[z1,z2] at g3
 rw[z3] at g4
 rw[z1] at g2
 rw[z4]
 exact ⟨⟨_,g5,rfl⟩,h _ g5 g3 g4 ⟨_,g1,rfl,rfl⟩ ⟨_,g2,rfl,rfl⟩ fun c o x =>
  Heap.get?_push_of_some _ (Heap.get?_push_of_some _ (Heap.get?_push_of_some _ (Heap.get?_push_of_some _ (Heap.get?_push_of_some _ x))))⟩
end
end Mine
namespace Mine
open PySem PySem.W PyProof.Rows PySem.Calls PySem.Builtin
section
variable {prog:Program} {w:World} {A:Around} {target:Expr} {H:PH} {h:Heap}
theorem z63 {e it x:Addr} {ds:List D} {elts:List Expr} {kk:Nat} {pos:Pos} (hh:A.handled=none) (hr:Rep prog w H (.ref x) (.tup ds)) (h1:e≠it) (h2:x≠e) (h3:x≠it) (he:IsEnum h e it 0 .none) (hit:h.IsTupleIter it x 0) (hs:Sub H h) :
  zE6 prog w A (.Tuple elts kk pos) (.ref e) [e,it] (zW2 ds) H h:=by
 refine xe hr.inv fun uu Y0=>?_;refine xe Y0 fun o Y1=>?_;refine xe Y1 fun vs Y2=>?_;refine xe Y2 fun n Y3=>?_;have e0:=Y3.1;have g1:=Y3.2.1;have hc:=Y3.2.2.1;have hd:=Y3.2.2.2.1;have g2:=Y3.2.2.2.2.1;try clear Y0 Y1 Y2 Y3
 cases e0
 have W:=WalksT.enumerateD (zY4 (prog:=prog) (w:=w) (A:=A.in1) hh it x h3 vs) e h1 (by simp;exact ⟨h1,fun q=>h2 q.symm⟩) (by simp)
 rw[show vs.size=(zW2 ds).length from (show vs.size=ds.length from g2.length).trans zk8.symm] at W
 exact zM2 (elts:=elts) (kk:=kk) (pos:=pos) (fp:=[e,it]) (H₀:=H) W (fun b hb=>hb)
  (fun i h h' H' st hk le hs'=>⟨st.1.imp fun uu q=>hk e (.head _) _ q,st.2.1.at fun o z=>hk it (.tail _ (.head _)) o z,⟨_,hs' _ _ (le _ _ g1),hc,_,hd⟩⟩)
  (fun i h st=>za3 (st.1.elim fun uu q=>zB4 q) (st.2.1.elim fun uu q=>zB4 q.1))
  (fun i vals hP d hd=>yV0 g2 hP hd)
  (zW2 ds).length 0 h H (Nat.zero_add _) (PLe.refl H) ⟨⟨_,he⟩,hit,⟨_,hs _ _ g1,hc,_,hd⟩⟩
theorem yF0 {z TI TO i1 i2 l1 l2:Addr} {xs ys:List D} {elts:List Expr} {kk:Nat} {pos:Pos} (hh:A.handled=none) (hr1:Rep prog w H (.ref l1) (.tup xs)) (hr2:Rep prog w H (.ref l2) (.tup ys)) (DD:Apart5 z TI TO i1 i2 [i1,l1] [i2,l2]) (n1:l1≠i1) (n2:l2≠i2)
  (q1:IsZip h z TI TO .none) (q2:IsPair h TI (.ref i1) (.ref i2)) (q3:IsPair h TO .none .none) (q4:h.IsTupleIter i1 l1 0) (q5:h.IsTupleIter i2 l2 0) (hs:Sub H h) (hz:zM5 xs ys=true) :
  zE6 prog w A (.Tuple elts kk pos) (.ref z) [z,TI,TO,i1,i2] (zX5 xs ys) H h:=by
 refine xe hr1.inv fun uu Y0=>?_;refine xe Y0 fun o1 Y1=>?_;refine xe Y1 fun us Y2=>?_;refine xe Y2 fun n Y3=>?_;have e0:=Y3.1;have g1:=Y3.2.1;have c1:=Y3.2.2.1;have d1:=Y3.2.2.2.1;have g2:=Y3.2.2.2.2.1;try clear Y0 Y1 Y2 Y3
 cases e0
 refine xe hr2.inv fun uu Y0=>?_;refine xe Y0 fun o2 Y1=>?_;refine xe Y1 fun vs Y2=>?_;refine xe Y2 fun m Y3=>?_;have e0:=Y3.1;have g3:=Y3.2.1;have c2:=Y3.2.2.1;have d2:=Y3.2.2.2.1;have g4:=Y3.2.2.2.2.1;try clear Y0 Y1 Y2 Y3
 cases e0
 have W:=yM7 DD (zY4 (prog:=prog) (w:=w) (A:=A.in1) hh i1 l1 n1 us) (zY4 (prog:=prog) (w:=w) (A:=A.in1) hh i2 l2 n2 vs)
 rw[show min us.size vs.size=(zX5 xs ys).length by rw[zq4,show us.size=xs.length from g2.length,show vs.size=ys.length from g4.length]] at W
 exact zM2 (elts:=elts) (kk:=kk) (pos:=pos) (fp:=[z,TI,TO,i1,i2]) (H₀:=H) W ym4
  (fun i h h' H' st hk le hs'=>⟨hk z (.head _) _ st.1,hk TI (.tail _ (.head _)) _ st.2.1,st.2.2.1.imp fun uu r=>r.imp fun uu r=>hk TO (.tail _ (.tail _ (.head _))) _ r,⟨st.2.2.2.1.1.at fun o z=>hk i1 (.tail _ (.tail _ (.tail _ (.head _)))) o z,⟨_,hs' _ _ (le _ _ g1),c1,_,d1⟩⟩,
   st.2.2.2.2.1.at fun o z=>hk i2 (.tail _ (.tail _ (.tail _ (.tail _ (.head _))))) o z,⟨_,hs' _ _ (le _ _ g3),c2,_,d2⟩⟩)
  (fun i h st=>zf9 (zB4 st.1) (zB4 st.2.1) (st.2.2.1.elim fun uu r=>r.elim fun uu r=>zB4 r) (st.2.2.2.1.1.elim fun uu r=>zB4 r.1) (st.2.2.2.2.1.elim fun uu r=>zB4 r.1))
  (fun i vals hP d hd=>ym3 g2 g4 hz hP hd)
  (zX5 xs ys).length 0 h H (Nat.zero_add _) (PLe.refl H) ⟨q1,q2,⟨_,_,q3⟩,⟨q4,⟨_,hs _ _ g1,c1,_,d1⟩⟩,q5,⟨_,hs _ _ g3,c2,_,d2⟩⟩
end
end Mine
namespace Mine
open PySem PySem.W PyProof.Rows PySem.Calls PySem.Builtin
theorem zi0 {e:Expr} {env:Env} (h:¬ zo6 e=true) (x:Value):foldedSetIterable e env x=pure x:=by
 cases e<;>first | rfl | exact absurd rfl h
theorem zN1 {a:Int} (h:small a=true):-(2 ^ 62)≤a∧a < 2 ^ 62 :=
 ⟨Int.le_trans (by decide) (Int.le_of_lt (zS8.mp h).1),Int.lt_trans (zS8.mp h).2 (by decide)⟩
theorem zY6 {a b:Int} (ha:small a=true) (hb:small b=true):Builtin.Range.small a b 1=true∧Builtin.Range.small a b (-1)=true :=
 ⟨small_one (zN1 ha).1 (zN1 ha).2 (zN1 hb).1 (zN1 hb).2,small_down (zN1 ha).1 (zN1 ha).2 (zN1 hb).1 (zN1 hb).2⟩
theorem zY7 (n a b:Nat) (h:a≠b):n+a≠n+b:=by lia
theorem zM3 (n b:Nat) (h:b≠0):n≠n+b:=by lia
theorem zP1 {l n:Nat} (b:Nat) (h:l < n):l≠n+b:=by lia
theorem yb7 {n l1 l2:Addr} (h1:l1 < n) (h2:l2 < n):Apart5 (n+4) (n+2) (n+3) n (n+1) [n,l1] [n+1,l2] where
 TIz:=zY7 n 2 4 (by decide)
 TOz:=zY7 n 3 4 (by decide)
 i1z:=zM3 n 4 (by decide)
 i2z:=zY7 n 1 4 (by decide)
 TITO:=zY7 n 2 3 (by decide)
 TIi1:=(zM3 n 2 (by decide)).symm
 TIi2:=zY7 n 2 1 (by decide)
 TOi1:=(zM3 n 3 (by decide)).symm
 TOi2:=zY7 n 3 1 (by decide)
 i12:=zM3 n 1 (by decide)
 f1:=fun b hb=>by
  simp only[List.mem_cons,List.not_mem_nil,or_false] at hb
  rcases hb with rfl | rfl
  ·exact ⟨zM3 b 4 (by decide),zM3 b 3 (by decide),zM3 b 1 (by decide)⟩
  ·exact ⟨zP1 4 h1,zP1 3 h1,zP1 1 h1⟩
 f2:=fun b hb=>by
  simp only[List.mem_cons,List.not_mem_nil,or_false] at hb
  rcases hb with rfl | rfl
  ·exact ⟨zY7 n 1 4 (by decide),zY7 n 1 3 (by decide),(zM3 n 1 (by decide)).symm⟩
  ·exact ⟨zP1 4 h2,zP1 3 h2,zP1 0 h2⟩
section
variable {prog:Program} {w:World} {G:PG} {K:Frag} {KH:PH} {call:zB3} {k:Nat} {sf:Bool} {sc:Scope}
noncomputable def OnI (prog:Program) (w:World) (A:Around) (target:Expr) (sf:Bool) (env:Env) (H:PH) (ρ:Rho) (O:zB1) (s:Shared) (ρ':Rho) (ds:List D) (Q:Value→Shared→Prop):Prop :=
 ∀ it fp H' O' h' (tk:Tk),After prog w sf env H ρ O s.heap H' ρ' O' h'→zE6 prog w A target it fp ds H' h'→ym1 prog w A it fp h'→(∀ b∈fp,s.heap.get? b=none∧H' b=none∧h'.get? b≠none)→Q it { s with heap:=h',toks:=tk.1,drawn:=tk.2 }
noncomputable def zk9 (prog:Program) (w:World) (A:Around) (target:Expr) (H:PH) (s:Shared) (ds:List D) (Q:Value→Shared→Prop):Prop :=
 ∀ it fp h2 tk2,Ext H s.heap H h2→zE6 prog w A target it fp ds H h2→ym1 prog w A it fp h2→(∀ b∈fp,s.heap.get? b=none∧h2.get? b≠none)→Q it { s with heap:=h2,toks:=tk2 }
theorem OnI.back {A:Around} {target:Expr} {env:Env} {H H':PH} {ρ ρ':Rho} {O O':zB1} {s:Shared} {h':Heap} {tk:Tk} {ds:List D} {Q:Value→Shared→Prop} (hq:OnI prog w A target sf env H ρ O s ρ' ds Q) (a:After prog w sf env H ρ O s.heap H' ρ' O' h') :
  zk9 prog w A target H' { s with heap:=h',toks:=tk.1,drawn:=tk.2 } ds Q:=fun it fp h2 tk2 e y self hf =>
 hq it fp H' O' h2 (tk2,tk.2) (a.ext e) y self fun b hb=>⟨Classical.byContradiction fun z=>a.go.live _ z (hf b hb).1,zS7 a.st.sub (hf b hb).1,(hf b hb).2⟩
theorem OnI.of {A:Around} {target:Expr} {env:Env} {H:PH} {ρ ρ' ρ'':Rho} {O:zB1} {s:Shared} {ds ds':List D} {Q:Value→Shared→Prop} (hq:OnI prog w A target sf env H ρ O s ρ'' ds' Q) (e:zA1 call (.pure (ds,ρ'))=some (ds',ρ'')):OnI prog w A target sf env H ρ O s ρ' ds Q:=by
 cases e;exact hq
theorem zw4 {v:Option Value} {t:String} (h:yC3 v=some t):v=some (.type t):=by
 cases v with
 | none=>exact nS h
 | some v =>
  cases v with
  | type=>cases h;rfl
  | _=>exact nS h
theorem zg1 {e:Expr} {c:String×List Expr} (h:z39 G sc e=some c):∃ f p p',e=.Call (.Name f p) c.2 [] p'∧zF4 G sc f=some (.type c.1)∧(c.1 == "range" || c.1 == "enumerate" || c.1 == "zip" || c.1 == "reversed")=true:=by
 refine xe (Option.bind_eq_some_iff.mp h) fun Y0 Y1=>?_;obtain ⟨f,as⟩:=Y0;have h1:=Y1.1;have h2:=Y1.2;try clear Y1
 refine xe (Option.bind_eq_some_iff.mp h2) fun t Y0=>?_;have h3:=Y0.1;have h4:=Y0.2;try clear Y0
 have Y0:=Option.ite_none_right_eq_some.mp h4;have hc:=Y0.1;have h5:=Y0.2;try clear Y0
 refine xe (Option.bind_eq_some_iff.mp h1) fun Y0 Y1=>?_;obtain ⟨f',as',p'⟩:=Y0;have h6:=Y1.1;have h7:=Y1.2;try clear Y1
 refine xe (Option.map_eq_some_iff.mp h7) fun x Y0=>?_;have h8:=Y0.1;have h9:=Y0.2;try clear Y0
 cases h5
 cases h9
 refine xe (zF7 h8) fun p Y0=>?_;obtain rfl:=Y0;try clear Y0
 exact ⟨f,p,p',zM8 h6,zw4 h3,hc⟩
theorem ym6 {ev:Rho→Expr→Prc (R×Rho)} {tup:Bool} {e:Expr} {ρ:Rho} {q:List D×Rho} (h:zA1 call (zC0 G ev sc tup ρ e)=some q):¬ zo6 e=true:=by
 unfold zC0 at h
 cases hc:z39 G sc e with
 | some c=>refine xe (zg1 hc) fun f Y0=>?_;refine xe Y0 fun p Y1=>?_;refine xe Y1 fun p' Y2=>?_;obtain rfl:=Y2.1;try clear Y0 Y1 Y2;exact fun h=>nomatch h
 | none=>rw[hc] at h;exact fun hs=>by rw[if_pos hs] at h;exact nS h
section
variable {A:Around} {E:Value→Shared→Prop} {s:Shared} {H:PH} {Q:Value→Shared→Prop} {target:Expr} {vs:List Value} {ds l:List D}
theorem RepL.k1 {v:List Value} {d:D} {P:List Value→Prop} (r:RepL prog w H v [d]) (k:∀ x,Rep prog w H x d→P [x]):P v:=by
 cases r with | cons a b=>cases b;exact k _ a
theorem RepL.k2 {v:List Value} {d e:D} {P:List Value→Prop} (r:RepL prog w H v [d,e]) (k:∀ x y,Rep prog w H x d→Rep prog w H y e→P [x,y]):P v:=by
 cases r with | cons a b=>exact b.k1 (P:=fun v=>P (_::v)) fun y hy=>k _ y a hy
theorem yM8 {h2:Heap} {tk2:Tok} {r:Addr} {x b c:Int} {t1 t2 t3:Tok} {n:Nat} (hh:A.handled=none) (hs:Sub H s.heap) (hk2:∀ b o,s.heap.get? b=some o→h2.get? b=some o) (hr:IsRange h2 r x b c t1 t2 t3) (hsm:Builtin.Range.small x b c=true) (hsz:Builtin.Range.rangeSize x b c=(n:Int))
  (hq:zk9 prog w A target H s ((List.range n).map fun k=>D.int (x+(k:Nat) * c)) Q):wpAny (model prog w) A (pyIter (.ref r)) Q E { s with heap:=h2,toks:=tk2 }:=by
 refine wpAny_pyIter_range (s:={ s with heap:=h2,toks:=tk2 }) hr hsm ?_
 have e1:=Ext.grow hs hk2
 have e2:=e1.trans (Ext.pushOut e1.sub { cls:=.type "range_iterator",data:=.fields #[rawInt x,rawInt (Builtin.Range.rangeSize x b c),rawInt c] })
 have hit:IsRangeIter (h2.push { cls:=.type "range_iterator",data:=.fields #[rawInt x,rawInt (Builtin.Range.rangeSize x b c),rawInt c] }) h2.objs.size x (n:Int) c:=by
  rw[← hsz];exact Heap.get?_push_size _ rfl
 refine hq _ _ _ tk2 e2 (z62 hh hit e2.sub) (fun s2 Q2 E2 hk q=>wpAny_pyIter_rangeiter (hk _ (List.mem_singleton.mpr rfl) _ hit) q) fun b hb=>?_
 rw[List.mem_singleton] at hb
 subst hb
 exact ⟨zd3 hk2 (zD7 _),zB4 hit⟩
theorem ym7 (a:Int) (n:Nat):upL a n=(List.range n).map fun k=>D.int (a+(k:Nat) * 1):=by simp[upL]
theorem ym8 (a:Int) (n:Nat):zo3 a n=(List.range n).map fun k=>D.int (a+(k:Nat) * (-1)):=by
 unfold zo3
 congr 1
 funext k
 congr 1
 lia
theorem z03 {a b:Int} (h:zA1 call (zo4 a b 1)=some l):(small a=true∧small b=true)∧upL a (b - a).toNat=l:=⟨Bool.and_eq_true_iff.mp (iN h).1,Option.some.inj (iN h).2⟩
theorem yF1 {a b:Int} (h:zA1 call (zo4 a b (-1))=some l):(small a=true∧small b=true)∧zo3 a (a - b).toNat=l:=⟨Bool.and_eq_true_iff.mp (iN h).1,Option.some.inj (iN h).2⟩
theorem ym9 (hh:A.handled=none) (hs:Sub H s.heap) (rl:RepL prog w H vs ds) (h:zA1 call (yj3 ds)=some l) (hq:zk9 prog w A target H s l Q):wpAny (model prog w) A (PySem.call (.type "range") vs) (fun x s1=>wpAny (model prog w) A (pyIter x) Q E s1) E s:=by
 refine ibk h fun is e g=>?_
 cases zd4 (io e)
 cases is with
 | nil=>exact nS g
 | cons a is =>
  cases is with
  | nil =>
   have Y0:=z03 g;have hb:=Y0.1;obtain rfl:=Y0.2;try clear Y0
   refine rl.k1 (P:=fun vs=>wpAny (model prog w) A (PySem.call (.type "range") vs) (fun x s1=>wpAny (model prog w) A (pyIter x) Q E s1) E s) fun x q1=>?_
   refine xe q1.inv fun t Y0=>?_;obtain rfl:=Y0;try clear Y0
   exact call_range_1 (yM8 hh hs (fun b o e=>Heap.get?_push_of_some _ e) (IsRange.new ..) (zY6 hb.1 hb.2).1 (rangeSize_nat 0 a) (ym7 ..▸hq))
  | cons b is =>
   cases is with
   | nil =>
    have Y0:=z03 g;have hb:=Y0.1;obtain rfl:=Y0.2;try clear Y0
    refine rl.k2 (P:=fun vs=>wpAny (model prog w) A (PySem.call (.type "range") vs) (fun x s1=>wpAny (model prog w) A (pyIter x) Q E s1) E s) fun x y q1 q2=>?_
    refine xe q1.inv fun t Y0=>?_;obtain rfl:=Y0;try clear Y0
    refine xe q2.inv fun u Y0=>?_;obtain rfl:=Y0;try clear Y0
    exact call_range_2 (yM8 hh hs (fun b o e=>Heap.get?_push_of_some _ e) (IsRange.new ..) (zY6 hb.1 hb.2).1 (rangeSize_nat a b) (ym7 ..▸hq))
   | cons c is =>
    have Y0:=iT g;have hn:=Y0.1.1;obtain rfl:=Y0.1.2;have g2:=Y0.2;try clear Y0
    cases List.isEmpty_iff.mp hn
    have Y0:=yF1 g2;have hb:=Y0.1;obtain rfl:=Y0.2;try clear Y0
    cases rl with | cons q0 rl =>
    refine xe q0.inv fun t Y0=>?_;obtain rfl:=Y0;try clear Y0
    refine rl.k2 (P:=fun vs=>wpAny (model prog w) A (PySem.call (.type "range") (.int a t::vs)) (fun x s1=>wpAny (model prog w) A (pyIter x) Q E s1) E s) fun x y q1 q2=>?_
    refine xe q1.inv fun u Y0=>?_;obtain rfl:=Y0;try clear Y0
    refine xe q2.inv fun v Y0=>?_;obtain rfl:=Y0;try clear Y0
    exact call_range_3 (by decide) (yM8 hh hs (fun b o e=>Heap.get?_push_of_some _ e) (IsRange.new ..) (zY6 hb.1 hb.2).2 (rangeSize_downNat a b) (ym8 ..▸hq)) (Or.inl (PyProof.noPylong_small (by
     have h1:=zS8.mp hb.1;have h2:=zS8.mp hb.2;lia)))
theorem yz9 {elts:List Expr} {kk:Nat} {pos:Pos} (hh:A.handled=none) (hs:Sub H s.heap) (rl:RepL prog w H vs ds) (h:zA1 call (xB2 ds)=some l) (hq:zk9 prog w A (.Tuple elts kk pos) H s l Q):wpAny (model prog w) A (PySem.call (.type "enumerate") vs) (fun x s1=>wpAny (model prog w) A (pyIter x) Q E s1) E s:=by
 refine ibk h fun xs e h=>?_
 refine iNk h fun hsh h=>?_
 cases h
 refine xe (Option.bind_eq_some_iff.mp (io e)) fun d Y0=>?_;have e1:=Y0.1;have e2:=Y0.2;try clear Y0
 cases zG1 e1
 refine rl.k1 (P:=fun vs=>wpAny (model prog w) A (PySem.call (.type "enumerate") vs) (fun x s1=>wpAny (model prog w) A (pyIter x) Q E s1) E s) fun v q1=>?_
 rcases za2 e2 with rfl | rfl
 ·refine xe q1.tup_ref fun x Y0=>?_;obtain rfl:=Y0;try clear Y0
  refine xe (q1.isTuple hs) fun vs Y0=>?_;have it1:=Y0.1;try clear Y0
  have hlt:x < s.heap.objs.size:=it1.elim fun uu h=>Heap.lt_size h.1
  refine zY5 it1 fun h2 e1 e2 hk2=>wpAny_pyIter_enum (s:={ s with heap:=h2 }) e1 ?_
  exact hq _ _ h2 s.toks (Ext.grow hs hk2) (z63 hh q1 (zM3 _ 1 (by decide)).symm (zP1 1 hlt) (zP1 0 hlt) e1 e2 (Ext.grow hs hk2).sub) (fun s2 Q2 E2 hk q=>wpAny_pyIter_enum (hk _ (List.mem_cons_self ..) _ e1) q)
   (za3 ⟨zN0 (Nat.le_succ _),zB4 e1⟩ ⟨zD7 _,e2.elim fun uu g=>zB4 g.1⟩)
 ·refine xe q1.list_ref fun x Y0=>?_;obtain rfl:=Y0;try clear Y0
  refine xe (q1.listAt hs) fun vs Y0=>?_;have pl:=Y0.1;try clear Y0
  have hlt:x < s.heap.objs.size:=(q1.listAt hs).lt
  refine call_enumerate_list pl.isList fun h2 e1 e2 uu hk2=>wpAny_pyIter_enum (s:={ s with heap:=h2 }) e1 ?_
  exact hq _ _ h2 s.toks (Ext.grow hs hk2) (yE9 hh q1 (zM3 _ 1 (by decide)).symm (zP1 1 hlt) (zP1 0 hlt) e1 e2 (Ext.grow hs hk2).sub) (fun s2 Q2 E2 hk q=>wpAny_pyIter_enum (hk _ (List.mem_cons_self ..) _ e1) q)
   (za3 ⟨zN0 (Nat.le_succ _),zB4 e1⟩ ⟨zD7 _,e2.elim fun uu g=>zB4 g.1⟩)
theorem xF0 {elts:List Expr} {kk:Nat} {pos:Pos} (hh:A.handled=none) (hs:Sub H s.heap) (rl:RepL prog w H vs ds) (h:zA1 call (xO2 ds)=some l) (hq:zk9 prog w A (.Tuple elts kk pos) H s l Q):wpAny (model prog w) A (PySem.call (.type "zip") vs) (fun x s1=>wpAny (model prog w) A (pyIter x) Q E s1) E s:=by
 refine ibk h fun p e h=>?_
 refine ibk h fun q e' h=>?_
 refine iNk h fun hsh h=>?_
 cases h
 have hz:=(Bool.and_eq_true_iff.mp hsh).2
 obtain ⟨p1,p2⟩:=p
 have hds:ds=[p1,p2]:=by
  have e:=io e
  cases ds with
  | nil=>exact nS e
  | cons d ds =>
   refine xe (Option.map_eq_some_iff.mp e) fun y Y0=>?_;have e1:=Y0.1;have e2:=Y0.2;try clear Y0
   cases e2
   rw[zG1 e1]
 subst hds
 have Y0:=Option.ite_none_right_eq_some.mp (io e');have hsame:=Y0.1;have e3:=Y0.2;try clear Y0
 refine xe (Option.bind_eq_some_iff.mp e3) fun xs Y0=>?_;have e4:=Y0.1;have e5:=Y0.2;try clear Y0
 refine xe (Option.map_eq_some_iff.mp e5) fun ys Y0=>?_;have e6:=Y0.1;have e7:=Y0.2;try clear Y0
 subst e7
 refine rl.k2 (P:=fun vs=>wpAny (model prog w) A (PySem.call (.type "zip") vs) (fun x s1=>wpAny (model prog w) A (pyIter x) Q E s1) E s) fun u v q1 q2=>?_
 have frs:∀ b,s.heap.objs.size≤b→s.heap.get? b=none:=fun b hb=>zN0 hb
 rcases za2 e4 with rfl | rfl<;>rcases za2 e6 with rfl | rfl
 ·refine xe q1.tup_ref fun x Y0=>?_;obtain rfl:=Y0;try clear Y0
  refine xe q2.tup_ref fun y Y0=>?_;obtain rfl:=Y0;try clear Y0
  refine xe (q1.isTuple hs) fun vs Y0=>?_;have it1:=Y0.1;try clear Y0
  refine xe (q2.isTuple hs) fun us Y0=>?_;have it2:=Y0.1;try clear Y0
  have l1:x < s.heap.objs.size:=it1.elim fun uu h=>Heap.lt_size h.1
  have l2:y < s.heap.objs.size:=it2.elim fun uu h=>Heap.lt_size h.1
  refine zm3 it1 it2 fun h2 e1 e2 e3 e4 e5 hk2=>wpAny_pyIter_zip (s:={ s with heap:=h2 }) e1 ?_
  exact hq _ _ h2 s.toks (Ext.grow hs hk2) (yF0 hh q1 q2 (yb7 l1 l2) (zP1 0 l1) (zP1 1 l2) e1 e2 e3 e4 e5 (Ext.grow hs hk2).sub hz) (fun s2 Q2 E2 hk q=>wpAny_pyIter_zip (hk _ (List.mem_cons_self ..) _ e1) q)
   (zf9 ⟨frs _ (Nat.le_add_right _ _),zB4 e1⟩ ⟨frs _ (Nat.le_add_right _ _),zB4 e2⟩ ⟨frs _ (Nat.le_add_right _ _),zB4 e3⟩ ⟨frs _ (Nat.le_refl _),e4.elim fun uu g=>zB4 g.1⟩ ⟨frs _ (Nat.le_add_right _ _),e5.elim fun uu g=>zB4 g.1⟩)
 ·exact Bool.noConfusion hsame
 ·exact Bool.noConfusion hsame
 ·refine xe q1.list_ref fun x Y0=>?_;obtain rfl:=Y0;try clear Y0
  refine xe q2.list_ref fun y Y0=>?_;obtain rfl:=Y0;try clear Y0
  have l1:=(q1.listAt hs).lt
  have l2:=(q2.listAt hs).lt
  refine xe (q1.listAt hs) fun vs Y0=>?_;have pl:=Y0.1;try clear Y0
  refine xe (q2.listAt hs) fun us Y0=>?_;have pl2:=Y0.1;try clear Y0
  refine call_zip_2 pl.isList pl2.isList fun h2 e1 e2 e3 e4 e5 uu hk2=>wpAny_pyIter_zip (s:={ s with heap:=h2 }) e1 ?_
  exact hq _ _ h2 s.toks (Ext.grow hs hk2) (yM6 hh q1 q2 (zipApart_new l1 l2) e1 e2 e3 e4 e5 (Ext.grow hs hk2).sub hz) (fun s2 Q2 E2 hk q=>wpAny_pyIter_zip (hk _ (List.mem_cons_self ..) _ e1) q)
   (zf9 ⟨frs _ (Nat.le_add_right _ _),zB4 e1⟩ ⟨frs _ (Nat.le_add_right _ _),zB4 e2⟩ ⟨frs _ (Nat.le_add_right _ _),zB4 e3⟩ ⟨frs _ (Nat.le_refl _),e4.elim fun uu g=>zB4 g.1⟩ ⟨frs _ (Nat.le_add_right _ _),e5.elim fun uu g=>zB4 g.1⟩)
theorem xF1 (hh:A.handled=none) (hs:Sub H s.heap) (rl:RepL prog w H vs ds) (h:zA1 call (xO3 ds)=some l) (hq:zk9 prog w A target H s l Q):wpAny (model prog w) A (PySem.call (.type "reversed") vs) (fun x s1=>wpAny (model prog w) A (pyIter x) Q E s1) E s:=by
 refine ibk h fun xs e h=>?_
 refine iNk h fun hsh h=>?_
 cases h
 refine xe (Option.bind_eq_some_iff.mp (io e)) fun d Y0=>?_;have e1:=Y0.1;have e2:=Y0.2;try clear Y0
 cases zG1 e1
 cases zO5 e2
 refine rl.k1 (P:=fun vs=>wpAny (model prog w) A (PySem.call (.type "reversed") vs) (fun x s1=>wpAny (model prog w) A (pyIter x) Q E s1) E s) fun v q1=>?_
 refine xe q1.list_ref fun x Y0=>?_;obtain rfl:=Y0;try clear Y0
 have l1:=(q1.listAt hs).lt
 refine xe (q1.listAt hs) fun vs Y0=>?_;have pl:=Y0.1;have hr:=Y0.2;try clear Y0
 have e1:vs.size=xs.length:=hr.length
 have hit:(s.heap.push (revObj x ((vs.size:Int) - 1))).IsRevIter s.heap.objs.size x ((xs.length:Int) - 1):=by
  rw[← e1];exact ⟨_,Heap.get?_push_size _ rfl,rfl,rfl⟩
 have e3:=Ext.pushOut hs (revObj x ((vs.size:Int) - 1))
 exact call_reversed_list pl.isList (wpAny_pyIter_revIter (s:={ s with heap:=s.heap.push (revObj x ((vs.size:Int) - 1)) }) hit (hq _ _ _ s.toks e3 (yM5 hh q1 (zP1 0 l1) hit e3.sub) (fun s2 Q2 E2 hk q=>wpAny_pyIter_revIter (hit.at fun o e=>hk _ (List.mem_cons_self ..) o e) q)
  (zQ6 ⟨zD7 _,hit.elim fun uu g=>zB4 g.1⟩)))
theorem y00 {v:Value} {d:D} (hh:A.handled=none) (hs:Sub H s.heap) (rr:Rep prog w H v d) (h:zA1 call (xB1 d)=some l) (hq:zk9 prog w A target H s l Q):wpAny (model prog w) A (pyIter v) Q E s:=by
 refine ibk h fun xs e h=>?_
 refine iNk h fun hsh h=>?_
 cases h
 cases d with
 | tup xs =>
  cases io e
  refine xe rr.tup_ref fun x Y0=>?_;obtain rfl:=Y0;try clear Y0
  refine xe (rr.isTuple hs) fun vs Y0=>?_;have it1:=Y0.1;try clear Y0
  have l1:x < s.heap.objs.size:=it1.elim fun uu h=>Heap.lt_size h.1
  have e3:=Ext.pushOut hs { cls:=.type "tuple_iterator",data:=.fields #[.ref x,.int 0 0] }
  have hit:(s.heap.push { cls:=.type "tuple_iterator",data:=.fields #[.ref x,.int 0 0] }).IsTupleIter s.heap.objs.size x 0:=⟨_,Heap.get?_push_size _ rfl,rfl,rfl⟩
  exact wpAny_pyIter_tuple it1 (hq _ _ _ s.toks e3 (z61 hh rr (zP1 0 l1) hit e3.sub) (fun s2 Q2 E2 hk q=>wpAny_pyIter_tupleiter (hit.at fun o e=>hk _ (List.mem_cons_self ..) o e) q) (zQ6 ⟨zD7 _,hit.elim fun uu g=>zB4 g.1⟩))
 | list xs =>
  cases io e
  refine xe rr.list_ref fun x Y0=>?_;obtain rfl:=Y0;try clear Y0
  have l1:=(rr.listAt hs).lt
  refine xe (rr.listAt hs) fun vs Y0=>?_;have pl:=Y0.1;try clear Y0
  have e3:=Ext.pushOut hs { cls:=.type "list_iterator",data:=.fields #[.ref x,.int 0 0] }
  have hit:(s.heap.push { cls:=.type "list_iterator",data:=.fields #[.ref x,.int 0 0] }).IsListIter s.heap.objs.size x 0:=⟨_,Heap.get?_push_size _ rfl,rfl,rfl⟩
  exact wpAny_pyIter_list pl.isList (hq _ _ _ s.toks e3 (yE8 hh rr (zP1 0 l1) hit e3.sub) (fun s2 Q2 E2 hk q=>wpAny_pyIter_listiter (hit.at fun o e=>hk _ (List.mem_cons_self ..) o e) q) (zQ6 ⟨zD7 _,hit.elim fun uu g=>zB4 g.1⟩))
 | _=>exact nS (io e)
theorem zq5 {e:Expr} (h:zE7 e=true):∃ elts kk pos,e=.Tuple elts kk pos:=by
 cases e with
 | Tuple a b c=>exact ⟨a,b,c,rfl⟩
 | _=>exact Bool.noConfusion h
theorem xF2 {t:String} (ht:(t == "range" || t == "enumerate" || t == "zip" || t == "reversed")=true) (htup:(zE7 target || t == "range" || t == "reversed")=true) (hh:A.handled=none) (hs:Sub H s.heap) (rl:RepL prog w H vs ds) (h:zA1 call (xO4 t ds)=some l) (hq:zk9 prog w A target H s l Q) :
  wpAny (model prog w) A (PySem.call (.type t) vs) (fun x s1=>wpAny (model prog w) A (pyIter x) Q E s1) E s:=by
 refine iIk h (fun e h=>?_) fun n1 h=>?_
 ·subst e;exact ym9 hh hs rl h hq
 refine iIk h (fun e h=>?_) fun n2 h=>?_
 ·subst e
  refine xe (zq5 (e:=target) (by rw[Bool.or_eq_true,Bool.or_eq_true] at htup;exact htup.elim (fun h=>h.elim id fun h=>Bool.noConfusion h) fun h=>Bool.noConfusion h)) fun elts Y0=>?_;refine xe Y0 fun kk Y1=>?_;refine xe Y1 fun pos Y2=>?_;obtain rfl:=Y2;try clear Y0 Y1 Y2
  exact yz9 hh hs rl h hq
 refine iIk h (fun e h=>?_) fun n3 h=>?_
 ·subst e
  refine xe (zq5 (e:=target) (by rw[Bool.or_eq_true,Bool.or_eq_true] at htup;exact htup.elim (fun h=>h.elim id fun h=>Bool.noConfusion h) fun h=>Bool.noConfusion h)) fun elts Y0=>?_;refine xe Y0 fun kk Y1=>?_;refine xe Y1 fun pos Y2=>?_;obtain rfl:=Y2;try clear Y0 Y1 Y2
  exact xF0 hh hs rl h hq
 ·rw[Bool.or_eq_true,Bool.or_eq_true,Bool.or_eq_true,beq_iff_eq,beq_iff_eq,beq_iff_eq,beq_iff_eq] at ht
  obtain rfl:=ht.resolve_left fun h=>h.elim (fun h=>h.elim n1 n2) n3
  exact xF1 hh hs rl h hq
end
theorem zq6 (kok:KOK G K KH) {ev:Rho→Expr→Prc (R×Rho)} (hE:∀ e,Sim prog w KH call k sf sc (eval e) (fun ρ=>ev ρ e)) {target e:Expr}
  {A:Around} {env:Env} {H:PH} {ρ:Rho} {O:zB1} {s:Shared} {ds:List D} {ρ':Rho} {Q:Value→Shared→Prop} {E:Value→Shared→Prop}
  (hi:zA1 call (zC0 G ev sc (zE7 target) ρ e)=some (ds,ρ')) (he:EnvOK env sc) (hro:Room A k) (hk:PLe KH H) (hs:St prog w H env ρ O s.heap)
  (hq:OnI prog w A target sf env H ρ O s ρ' ds Q) :
  wpAny (model prog w) A (eval e env) (fun x s1=>wpAny (model prog w) A (pyIter x) Q E s1) E s:=by
 unfold zC0 at hi
 cases hc:z39 G sc e with
 | some c =>
  rw[hc] at hi
  refine xe (zg1 hc) fun f Y0=>?_;refine xe Y0 fun p Y1=>?_;refine xe Y1 fun p' Y2=>?_;obtain rfl:=Y2.1;have hx:=Y2.2.1;have ht:=Y2.2.2;try clear Y0 Y1 Y2
  refine iTk hi fun htup hi=>?_
  refine ibk hi fun q h1 hi=>?_
  refine ibk hi fun l h2 hi=>?_
  have hq:=hq.of hi
  exact zd6 kok (.inr ⟨_,rfl⟩) (fun e uu=>(hE e).v) hx h1 he hro hk hs fun vs H' O' h' tk a rl=>xF2 (s:={ s with heap:=h',toks:=tk.1,drawn:=tk.2 }) ht htup hro.hh a.st.sub rl h2 (hq.back a)
 | none =>
  rw[hc] at hi
  refine iIk hi (fun uu hi=>nS hi) fun uu hi=>?_
  refine ibk hi fun q h1 hi=>?_
  refine ibk hi fun l h2 hi=>?_
  have hq:=hq.of hi
  exact (hE e).v A env H ρ O s q.1 q.2 _ E h1 he hro hk hs fun v H' O' h' tk a rr=>y00 (s:={ s with heap:=h',toks:=tk.1,drawn:=tk.2 }) hro.hh a.st.sub rr h2 (hq.back a)
end
end Mine
namespace Mine
open PySem PySem.W PyProof.Rows PySem.Calls PySem.Builtin
section
variable (prog:Program) (w:World)
structure AfterS (env:Env) (H:PH) (ρ:Rho) (O:zB1) (h:Heap) (H':PH) (ρ':Rho) (O':zB1) (h':Heap):Prop where
 go:Go (TS env O) H O h H' O' h'
 st:St prog w H' env ρ' O' h'
 bor:∀ x e',seen env x→ρ'.lookup x=some e'→zG8 e'=true→(∃ e,ρ.lookup x=some e∧zG8 e=true)∧O' x=O x
end
section
variable {prog:Program} {w:World} {env:Env} {H H' H'':PH} {ρ ρ' ρ'':Rho} {O O' O'':zB1} {h h' h'':Heap}
theorem AfterS.refl (x:St prog w H env ρ O h):AfterS prog w env H ρ O h H ρ O h:=⟨Go.refl,x,fun x e uu h1 h2=>⟨⟨e,h1,h2⟩,rfl⟩⟩
theorem AfterS.trans (x:AfterS prog w env H ρ O h H' ρ' O' h') (y:AfterS prog w env H' ρ' O' h' H'' ρ'' O'' h''):AfterS prog w env H ρ O h H'' ρ'' O'' h'' where
 go:=x.go.trans y.go fun b hb hl=>by
  rcases hb with hb | hb | ⟨n,hb⟩
  ·exact .inl hb
  ·exact .inr (.inl hb)
  ·rcases x.go.own n b hb with ⟨m,q⟩ | q
   ·exact .inr (.inr ⟨m,q⟩)
   ·exact absurd q hl
 st:=y.st
 bor:=fun n e' hs h1 h2=>by
  have Y0:=y.bor n e' hs h1 h2;refine xe Y0.1 fun e Y1=>?_;have h3:=Y1.1;have h4:=Y1.2;have h5:=Y0.2;try clear Y0 Y1
  have Y0:=x.bor n e hs h3 h4;have h6:=Y0.1;have h7:=Y0.2;try clear Y0
  exact ⟨h6,h5.trans h7⟩
theorem St.entOwn (st:St prog w H env ρ O h) {x:Str} {e:Ent} (hs:seen env x) (hl:ρ.lookup x=some e) (hb:zG8 e=true):∃ a,O x=some a:=by
 refine xe (st.names x e hs hl) fun v Y0=>?_;have h1:=Y0.1;have h2:=Y0.2;try clear Y0
 cases e with
 | bor ds=>refine xe h2 fun a Y0=>?_;have h3:=Y0.2.1;try clear h2;try clear Y0;exact ⟨a,h3⟩
 | newO c fs=>refine xe h2 fun a Y0=>?_;have h3:=Y0.1;try clear h2;try clear Y0;exact ⟨a,h3⟩
 | _=>cases hb
theorem After.s {sf:Bool} (x:After prog w sf env H ρ O h H' ρ' O' h'):AfterS prog w env H ρ O h H' ρ' O' h' where
 go:=x.go.weaken fun b hb=>.inr (.inr hb.2)
 st:=x.st
 bor:=fun n e' hs h1 h2=>by
  refine ⟨x.bor n e' h1 h2,?_⟩
  refine xe (x.st.entOwn hs h1 h2) fun a ha=>?_
  rw[ha,x.sub n a ha]
end
section
variable {prog:Program} {w:World} {env:Env} {H H':PH} {ρ ρ':Rho} {O O':zB1} {h h':Heap} {sc:Scope}
theorem St.store (st:St prog w H env ρ O h) {x:Str} {v:Value} {e:Ent} {a':Option Addr} {b:Addr} (hb:b=env.locals∨∃ y,env.cells.lookup y=some b) (sb:Heap.SameBut b h h')
  (hlive:h'.get? b≠none) (hns:∃ m,h'.Ns env.locals m) (hcl:∀ y c,env.cells.lookup y=some c→∃ v,h'.IsCell c v)
  (nm:∀ y u,y≠x→zB6 env h y u→zB6 env h' y u) (hx:zB6 env h' x v) (he:zQ4 prog w H h' (O.upd x a') x v e) (hbor:zG8 e=false)
  (ha:∀ c,a'=some c→H c=none∧c≠env.locals∧(∀ y,env.cells.lookup y≠some c)∧h.get? c≠none∧∀ y,y≠x→O y≠some c) :
  St prog w H env (ρ.set x e) (O.upd x a') h'∧(∀ c,h.get? c≠none→h'.get? c≠none):=by
 have hbO:∀ y,O y≠some b:=fun y q=>by
  have Y0:=st.owns y b q;have q2:=Y0.2.1;have q3:=Y0.2.2.1;try clear Y0
  rcases hb with hb | ⟨z,hb⟩
  ·exact q2 hb
  ·exact q3 z hb
 have hbH:H b=none:=by
  rcases hb with hb | ⟨z,hb⟩
  ·rw[hb];exact st.frL
  ·exact (st.cells z b hb).1
 have lv:∀ c,h.get? c≠none→h'.get? c≠none:=fun c q=>by
  by_cases e:c=b
  ·rw[e];exact hlive
  ·rw[sb.2 c e];exact q
 refine ⟨st.upd (PLe.refl H) (fun a o q=>by rw[sb.2 a (fun e=>by rw[e,hbH] at q;cases q)];exact st.sub a o q) (fun c q q'=>absurd q q') nm
  (fun y c o uu hc q=>by rw[sb.2 c (fun e=>hbO y (by rw[← e];exact hc))];exact q) hns hcl lv (fun uu=>⟨v,hx,he⟩) (fun c hc=>?_),lv⟩
 have Y0:=ha c hc;have q1:=Y0.1;have q2:=Y0.2.1;have q3:=Y0.2.2.1;have q4:=Y0.2.2.2.1;have q5:=Y0.2.2.2.2;try clear Y0
 exact ⟨q1,q2,q3,lv c q4,q5⟩
noncomputable def storable (env:Env) (x:Str):Prop:=env.kindOf x=some .local∨env.kindOf x=some .cell
theorem EnvOK.storable (he:EnvOK env sc) {x:Str} (h:(sc.names.lookup x == some .local || sc.names.lookup x == some .cell)=true):storable env x:=by
 rw[Bool.or_eq_true,beq_iff_eq,beq_iff_eq] at h
 rcases he.kind x with e | ⟨e,_⟩
 ·unfold Mine.storable;rw[e];exact h
 ·rw[e] at h;rcases h with h | h<;>cases h
theorem zU9 {A:Around} {E:Value→Shared→Prop} {s:Shared} {x:Str} {v:Value} {e:Ent} {a':Option Addr} {Q:Unit→Shared→Prop} (he:EnvOK env sc) (st:St prog w H env ρ O s.heap) (hx:storable env x)
  (hold:∀ e0,ρ.lookup x=some e0→zG8 e0=false)
  (hent:∀ h',(∀ b o,s.heap.get? b=some o→(b≠env.locals∧∀ y,env.cells.lookup y≠some b)→h'.get? b=some o)→zQ4 prog w H h' (O.upd x a') x v e) (hbor:zG8 e=false)
  (ha:∀ c,a'=some c→H c=none∧c≠env.locals∧(∀ y,env.cells.lookup y≠some c)∧s.heap.get? c≠none∧∀ y,y≠x→O y≠some c)
  (hq:∀ h' tk,(env.kindOf x=some .local→Heap.SameBut env.locals s.heap h')→St prog w H env (ρ.set x e) (O.upd x a') h'→(∀ b o,s.heap.get? b=some o→¬ TS env O b→h'.get? b=some o)→(∀ b,s.heap.get? b≠none→h'.get? b≠none)→Q () { s with heap:=h',toks:=tk }) :
  wpAny (model prog w) A (storeName env x v) Q E s:=by
 have hp:(env.scope.kind == .class || (env.scope.kind == .module&&env.locals != env.globals))=false:=by rw[he.fk];rfl
 obtain ⟨m,hm⟩:=st.ns
 rcases hx with hx | hx
 ·refine wpAny_storeName_local hx hm (fun h' hn' hs'=>?_) hp
  have ent:=hent h' fun b o q hb=>by rw[hs'.2 b hb.1];exact q
  have nm:∀ y u,y≠x→zB6 env s.heap y u→zB6 env h' y u:=by
   intro y u hy hu
   unfold zB6 at hu ⊢
   split at hu
   ·obtain ⟨m',q1,q2⟩:=hu
    refine ⟨_,hn',?_⟩
    simp only[if_neg hy]
    rw[← q1.agree hm y];exact q2
   ·obtain ⟨c,q1,q2⟩:=hu;exact ⟨c,q1,q2.sameBut hs' (st.cells y c q1).2.1⟩
   ·obtain ⟨c,q1,q2⟩:=hu;exact ⟨c,q1,q2.sameBut hs' (st.cells y c q1).2.1⟩
   ·exact hu
  have nx:zB6 env h' x v:=by unfold zB6;rw[hx];exact ⟨_,hn',by simp⟩
  obtain ⟨s1,lv⟩:=st.store (.inl rfl) hs' (Heap.Ns.live hn') ⟨_,hn'⟩ (fun y c hc=>by
   obtain ⟨_,q2,v',q3⟩:=st.cells y c hc
   exact ⟨v',q3.sameBut hs' q2⟩) nm nx ent hbor ha
  exact hq h' _ (fun uu=>hs') s1 (fun b o q hb=>by rw[hs'.2 b (fun e=>hb (.inl e))];exact q) lv
 ·have hc:=st.hasC x (.inl hx)
  rw[Option.isSome_iff_exists] at hc
  obtain ⟨c,hc⟩:=hc
  obtain ⟨g1,g2,v0,g3⟩:=st.cells x c hc
  refine wpAny_storeName_cell he.fk hx hc g3 fun h' hv' hs'=>?_
  have ent:=hent h' fun b o q hb=>by rw[hs'.2 b (fun e=>hb.2 x (by rw[e];exact hc))];exact q
  have nm:∀ y u,y≠x→zB6 env s.heap y u→zB6 env h' y u:=by
   intro y u hy hu
   unfold zB6 at hu ⊢
   split at hu
   ·obtain ⟨m',q1,q2⟩:=hu;exact ⟨m',q1.sameBut hs' (Ne.symm g2),q2⟩
   ·obtain ⟨c',q1,q2⟩:=hu;exact ⟨c',q1,q2.sameBut hs' (fun e=>hy (st.apC y x c' q1 (by rw[e];exact hc)))⟩
   ·obtain ⟨c',q1,q2⟩:=hu;exact ⟨c',q1,q2.sameBut hs' (fun e=>hy (st.apC y x c' q1 (by rw[e];exact hc)))⟩
   ·exact hu
  have nx:zB6 env h' x v:=by unfold zB6;rw[hx];exact ⟨c,hc,hv'⟩
  obtain ⟨s1,lv⟩:=st.store (.inr ⟨x,hc⟩) hs' (zE8 hv') ⟨m,hm.sameBut hs' (Ne.symm g2)⟩ (fun y c' hc'=>by
   obtain ⟨_,q2,v',q3⟩:=st.cells y c' hc'
   by_cases e:c'=c
   ·rw[e];exact ⟨_,hv'⟩
   ·exact ⟨v',q3.sameBut hs' e⟩) nm nx ent hbor ha
  exact hq h' s.toks (fun e=>by rw[hx] at e;cases e) s1 (fun b o q hb=>by rw[hs'.2 b (fun e=>hb (.inr (.inl ⟨x,by rw[e];exact hc⟩)))];exact q) lv
set_option tactic.hygienic true in
theorem z64 {A:Around} {E:Value→Shared→Prop} {s:Shared} {s₀:Heap} {H₀:PH} {ρ₀:Rho} {O₀:zB1} {sf:Bool} {x:Str} {v:Value} {r:R} {Q:Unit→Shared→Prop} (he:EnvOK env sc) (st₀:St prog w H₀ env ρ₀ O₀ s₀) (a0:After prog w sf env H₀ ρ₀ O₀ s₀ H ρ O s.heap) (hx:storable env x)
  (hold:∀ e0,ρ.lookup x=some e0→zG8 e0=false) (rr:RAt prog w H s.heap s₀ v r)
  (hq:∀ h' O' tk,(env.kindOf x=some .local→Heap.SameBut env.locals s.heap h')→(∀ y a,O' y=some a→O y=some a∨v=.ref a)→AfterS prog w env H₀ ρ₀ O₀ s₀ H (ρ.set x r.toEnt) O' h'→Q () { s with heap:=h',toks:=tk }):wpAny (model prog w) A (storeName env x v) Q E s:=by
 have st:=a0.st
 have hL:s₀.get? env.locals≠none:=let ⟨m,q⟩:=st₀.ns;Heap.Ns.live q
 have hC:∀ y c,env.cells.lookup y=some c→s₀.get? c≠none:=fun y c q=>let ⟨_,_,v,q⟩:=st₀.cells y c q;zE8 q
 have fin:∀ {a':Option Addr} {e:Ent},zG8 e=false→(∀ c,a'=some c→s₀.get? c=none)→∀ h',St prog w H env (ρ.set x e) (O.upd x a') h'→(∀ b o,s.heap.get? b=some o→¬ TS env O b→h'.get? b=some o)→(∀ b,s.heap.get? b≠none→h'.get? b≠none) →
   AfterS prog w env H₀ ρ₀ O₀ s₀ H (ρ.set x e) (O.upd x a') h':=by
  intro a' e hb hfr h' s1 k1 k2
  have a0s:=a0.s
  refine ⟨⟨a0.go.ext,fun a q q'=>?_,fun b o q hb=>?_,fun b q=>k2 b (a0.go.live b q),fun y a q=>?_⟩,s1,fun y e' hs g1 g2=>?_⟩
  ·rcases a0s.go.new a q q' with q | ⟨y,q⟩
   ·exact .inl q
   ·exact .inr ⟨y,q⟩
  ·refine k1 b o (a0s.go.keep b o q hb) fun hb'=>hb ?_
   rcases hb' with hb' | hb' | ⟨y,hb'⟩
   ·exact .inl hb'
   ·exact .inr (.inl hb')
   ·exact .inr (.inr ⟨y,a0.sub y b hb'⟩)
  ·unfold zB1.upd at q
   split at q
   ·exact .inr (hfr a q)
   ·exact .inl ⟨y,a0.sub y a q⟩
  ·rw[Rho.lookup_set] at g1
   split at g1
   ·cases g1;rw[hb] at g2;cases g2
   ·rename_i hn
    have Y0:=a0s.bor y e' hs g1 g2;have q1:=Y0.1;have q2:=Y0.2;try clear Y0
    exact ⟨q1,by unfold zB1.upd;rw[if_neg hn];exact q2⟩
 cases r with
 | val d =>
  refine zU9 (a':=none) (e:=.val d) he st hx hold (fun h' uu=>rr) rfl (fun c hc=>by cases hc) fun h' tk ks s1 k1 k2=>?_
  exact hq h' _ tk ks (fun y a q=>by unfold zB1.upd at q;split at q;cases q;exact .inl q) (fin rfl (fun c hc=>by cases hc) h' s1 k1 k2)
 | ownL ds =>
  refine xe rr fun a Y0=>?_;obtain rfl:=Y0.1;have ha:=Y0.2.1;have hn:=Y0.2.2.1;have hl:=Y0.2.2.2;try clear rr;try clear Y0
  have d1:a≠env.locals:=fun e=>hL (by rw[← e];exact ha)
  have d2:∀ y,env.cells.lookup y≠some a:=fun y e=>hC y a e ha
  refine zU9 (a':=some a) (e:=.ownL ds) he st hx hold (fun h' hk=>⟨a,rfl,by unfold zB1.upd;rw[if_pos rfl],hl.keeps (PLe.refl H) fun o q=>hk a o q ⟨d1,d2⟩⟩) rfl
   (fun c hc=>by cases hc;exact ⟨hn,d1,d2,by refine xe hl fun vs Y0=>?_;refine xe Y0.1 fun n p=>?_;try clear hl;try clear Y0;exact zB4 p,fun y uu q=>a0.bound y a (a0.sub y a q) ha⟩) fun h' tk ks s1 k1 k2=>?_
  exact hq h' _ tk ks (fun y b q=>by unfold zB1.upd at q;split at q;(cases q;exact .inr rfl);exact .inl q) (fin rfl (fun c hc=>by cases hc;exact ha) h' s1 k1 k2)
 | ownD es =>
  refine xe rr fun a Y0=>?_;obtain rfl:=Y0.1;have ha:=Y0.2.1;have hn:=Y0.2.2.1;have hl:=Y0.2.2.2;try clear rr;try clear Y0
  have d1:a≠env.locals:=fun e=>hL (by rw[← e];exact ha)
  have d2:∀ y,env.cells.lookup y≠some a:=fun y e=>hC y a e ha
  refine zU9 (a':=some a) (e:=.ownD es) he st hx hold (fun h' hk=>⟨a,rfl,by unfold zB1.upd;rw[if_pos rfl],hl.keeps (PLe.refl H) fun o q=>hk a o q ⟨d1,d2⟩⟩) rfl
   (fun c hc=>by cases hc;exact ⟨hn,d1,d2,by refine xe hl fun es' Y0=>?_;refine xe Y0 fun n Y1=>?_;have p:=Y1.1;try clear hl;try clear Y0 Y1;exact zB4 p,fun y uu q=>a0.bound y a (a0.sub y a q) ha⟩) fun h' tk ks s1 k1 k2=>?_
  exact hq h' _ tk ks (fun y b q=>by unfold zB1.upd at q;split at q;(cases q;exact .inr rfl);exact .inl q) (fin rfl (fun c hc=>by cases hc;exact ha) h' s1 k1 k2)
end
end Mine
namespace Mine
open PySem PySem.W PyProof.Rows PySem.Calls PySem.Builtin
section
variable {prog:Program} {w:World} {A:Around} {E:Value→Shared→Prop} {s:Shared}
theorem z04 {it t:Addr} {items:Array Value} (hne:t≠it):∀ (n i:Nat) (s:Shared) (Q:List Value→Shared→Prop),s.heap.IsListIter it t i→s.heap.IsList t items→i+n≤items.size →
  (∀ h',h'.IsListIter it t (i+n)→Heap.SameBut it s.heap h'→Q ((items.toList.drop i).take n) { s with heap:=h' })→wpAny (model prog w) A (draw (.ref it) n) Q E s
 | 0,i,s,Q,hit,_,_,hQ=>by
  show wpAny _ _ (pure []) Q E s
  exact wpAny_pure (by simpa using hQ s.heap hit (Heap.SameBut.refl ..))
 | n+1,i,s,Q,hit,ht,hle,hQ=>by
  have hlt:i < items.size:=Nat.lt_of_lt_of_le (Nat.lt_add_of_pos_right (Nat.succ_pos n)) hle
  show wpAny _ _ (pyNext (.ref it) >>= _) Q E s
  refine wpAny_bind (wpAny_pyNext_list_item hit ht (x:=items[i]) (by simp[hlt]) fun h₁ hit₁ hs₁=>?_)
  refine wpAny_bind (wpAny_holding (z04 hne n (i+1) _ _ hit₁ (ht.extBut hs₁.extBut hne) (by lia) fun h₂ hit₂ hs₂=>wpAny_pure ?_))
  have hd:items.toList.drop i=items[i]::items.toList.drop (i+1):=by simp[List.drop_eq_getElem_cons,hlt]
  have:=hQ h₂ (by rw[show i+(n+1)=i+1+n by lia];exact hit₂) (hs₁.trans hs₂)
  rw[hd,List.take_succ_cons] at this
  exact this
theorem zi1 {t:Addr} {items:Array Value} {Q:List Value→Shared→Prop} (hh:A.handled=none) (ht:s.heap.IsList t items)
  (hQ:∀ h',Heap.ExtBut s.heap.objs.size s.heap h'→Q items.toList { s with heap:=h' }):wpAny (model prog w) A (unpackItems (.ref t) items.size none) Q E s:=by
 have hlt:t≠s.heap.objs.size:=by refine xe ht fun o Y0=>?_;have ho:=Y0.1;try clear ht;try clear Y0;exact Nat.ne_of_lt (Heap.lt_size ho)
 unfold unpackItems
 refine wpAny_bind ?_
 ·unfold notIterableAtAll
  refine wpAny_bind (wpAny_specialOf ht.typeIs slot_list_iter.lookup ?_)
  refine wpAny_pure ?_
  simp only[Bool.false_eq_true,if_false]
  refine wpAny_bind (wpAny_holding (wpAny_pyIter_list ht ?_))
  refine wpAny_bind (wpAny_holding (z04 hlt items.size 0 _ _ ⟨_,Heap.get?_push_size _ rfl,rfl,rfl⟩ (ht.push _) (by lia) fun h₁ hit₁ hs₁=>?_))
  have hall:List.take items.size (List.drop 0 items.toList)=items.toList:=by
   rw[List.drop_zero];exact List.take_of_length_le (by simp)
  rw[hall]
  rw[if_neg (by simp)]
  have ht₁:h₁.IsList t items:=(ht.push _).extBut hs₁.extBut hlt
  refine wpAny_bind (wpAny_holding (wpAny_pyNext_list_end hh hit₁ ht₁ (by simp) fun h₂ he₂=>?_))
  simp only[Option.isSome_none,Bool.false_eq_true,if_false]
  refine wpAny_pure (hQ h₂ fun b o hb e=>he₂ b o hb (hs₁.extBut b o hb (Heap.get?_push_of_some _ e)))
theorem zl0 {t:Addr} {items:Array Value} {targets:List (Bool×(Value→Sem Unit))} {Q:Unit→Shared→Prop} (hh:A.handled=none) (ht:s.heap.IsList t items)
  (hn:targets.length=items.size) (hstar:targets.findIdx? (·.1)=none)
  (h:∀ h',Heap.ExtBut s.heap.objs.size s.heap h'→wpAny (model prog w) A (assignInOrder (targets.map (·.2)) items.toList) Q E { s with heap:=h' }) :
  wpAny (model prog w) A (unpack (.ref t) targets) Q E s:=by
 unfold unpack
 rw[hn,hstar]
 exact wpAny_bind (wpAny_holding (zi1 hh ht h))
end
theorem zQ7 {h h':Heap} (x:Heap.ExtBut h.objs.size h h'):∀ b o,h.get? b=some o→h'.get? b=some o:=fun b o e=>x b o (Nat.ne_of_lt (Heap.lt_size e)) e
section
variable {prog:Program} {w:World} {sc:Scope} {env:Env}
theorem zW4 {t:Expr} {ts:List Expr} (h:¬ zE3 t=true):assignEach (t::ts) env=(false,assign t env)::assignEach ts env:=by
 cases t<;>first | rfl | exact absurd rfl h
theorem zV0 {α:Type} {l:List α} {q:α×List α} (h:z37 l=some q):l=q.1::q.2:=by
 cases l with
 | nil=>exact nS h
 | cons a l=>cases h;rfl
theorem isEmpty_nil {α:Type} {l:List α} (h:l.isEmpty=true):l=[]:=by
 cases l with
 | nil=>rfl
 | cons a l=>exact Bool.noConfusion h
theorem yF2 {o:Option Ent} (h:¬ xD8 o=true):∀ e0,o=some e0→zG8 e0=false:=fun e0 e=>Bool.eq_false_iff.mpr fun z=>h (e.symm▸z)
theorem oTk {α:Type} {c:Prop} [Decidable c] {p:Option α} {z:α} {P:Prop} (h:(if c then p else none)=some z) (k:c→p=some z→P):P :=
 (Classical.em c).elim (fun hc=>k hc ((if_pos hc).symm.trans h)) fun hc=>nS ((if_neg hc).symm.trans h)
theorem oFk {α:Type} {c:Prop} [Decidable c] {p:Option α} {z:α} {P:Prop} (h:(if c then none else p)=some z) (k:¬ c→p=some z→P):P :=
 (Classical.em c).elim (fun hc=>nS ((if_pos hc).symm.trans h)) fun hc=>k hc ((if_neg hc).symm.trans h)
structure AsgI (sc:Scope) (P:Expr→D→Rho→Rho→Prop) (PL:List Expr→List D→Rho→Rho→Prop):Prop where
 name:∀ x p d ρ,(sc.names.lookup x == some .local || sc.names.lookup x == some .cell)=true→(∀ e0,ρ.lookup x=some e0→zG8 e0=false)→P (.Name x p) d ρ (ρ.set x (.val d))
 tuple:∀ ts k p d ds ρ ρ',zZ7 d=some ds→PL ts ds ρ ρ'→P (.Tuple ts k p) d ρ ρ'
 nil:∀ ρ,PL [] [] ρ ρ
 cons:∀ t ts d ds ρ ρ1 ρ2,¬ zE3 t=true→P t d ρ ρ1→PL ts ds ρ1 ρ2→PL (t::ts) (d::ds) ρ ρ2
section
variable {P:Expr→D→Rho→Rho→Prop} {PL:List Expr→List D→Rho→Rho→Prop}
mutual
theorem AsgI.t (I:AsgI sc P PL):∀ (t:Expr) {d:D} {ρ ρ':Rho},zB9 sc t d ρ=some ρ'→¬ zE3 t=true∧P t d ρ ρ':=fun t {d ρ ρ'} h=>by
 cases t with
 | Name x p=>exact oTk h fun hx h=>oFk h fun hh h=>⟨Bool.false_ne_true,Option.some.inj h▸I.name x p d ρ hx (yF2 hh)⟩
 | Tuple ts k p=>exact obk h fun ds h1 h=>oTk h fun uu h=>⟨Bool.false_ne_true,I.tuple ts k p d ds ρ ρ' h1 (AsgI.ts I ts h)⟩
 | _=>exact nS h
theorem AsgI.ts (I:AsgI sc P PL):∀ (ts:List Expr) {ds:List D} {ρ ρ':Rho},zS3 sc ts ds ρ=some ρ'→PL ts ds ρ ρ':=fun ts {ds ρ ρ'} h=>by
 cases ts with
 | nil=>exact oTk h fun hd h=>isEmpty_nil hd▸Option.some.inj h▸I.nil ρ
 | cons t ts=>exact obk h fun q h1 h=>obk h fun ρ1 h2 h=>zV0 h1▸I.cons t ts q.1 q.2 ρ ρ1 ρ' (AsgI.t I t h2).1 (AsgI.t I t h2).2 (AsgI.ts I ts h)
end
end
section
variable (prog:Program) (w:World)
noncomputable def OnT (env:Env) (H:PH) (ρ:Rho) (O:zB1) (s:Shared) (ρ':Rho) (xs:List Str) (Q:Unit→Shared→Prop):Prop :=
 ∀ O' h' tk,((∀ x∈xs,env.kindOf x=some .local)→∀ b o,s.heap.get? b=some o→b≠env.locals→h'.get? b=some o)→AfterS prog w env H ρ O s.heap H ρ' O' h'→Q () { s with heap:=h',toks:=tk }
noncomputable def yF3 (env:Env) (t:Expr) (d:D) (ρ ρ':Rho):Prop:=∀ (A:Around) (H:PH) (O:zB1) (s:Shared) (v:Value) (Q:Unit→Shared→Prop) (E:Value→Shared→Prop),
  A.handled=none→St prog w H env ρ O s.heap→Rep prog w H v d→OnT prog w env H ρ O s ρ' (zc7 t) Q→wpAny (model prog w) A (assign t env v) Q E s
noncomputable def zi2 (env:Env) (ts:List Expr) (ds:List D) (ρ ρ':Rho):Prop:=((assignEach ts env).length=ds.length∧(assignEach ts env).findIdx? (·.1)=none)∧∀ (A:Around) (H:PH) (O:zB1) (s:Shared) (vs:List Value) (Q:Unit→Shared→Prop) (E:Value→Shared→Prop),
  A.handled=none→St prog w H env ρ O s.heap→RepL prog w H vs ds→OnT prog w env H ρ O s ρ' (zn2 ts) Q→wpAny (model prog w) A (assignInOrder ((assignEach ts env).map (·.2)) vs) Q E s
end
theorem yn0 (he:EnvOK env sc) {x:Str} {p:Pos} {d:D} {ρ:Rho} (hx:(sc.names.lookup x == some .local || sc.names.lookup x == some .cell)=true) (hold:∀ e0,ρ.lookup x=some e0→zG8 e0=false):yF3 prog w env (.Name x p) d ρ (ρ.set x (.val d)) :=
 fun A H O s v Q E hh st rv hq=>wpAny_assign_Name (z64 he st (sf:=false) (r:=.val d) (After.refl st) (he.storable hx) hold rv fun h' O' tk ks uu a=>hq O' h' tk (fun hn b o q hb=>((ks (hn x (.head _))).2 b hb).trans q) a)
theorem yb8 {ts:List Expr} {k:Nat} {p:Pos} {d:D} {ds:List D} {ρ ρ':Rho} (h1:zZ7 d=some ds) (ih:zi2 prog w env ts ds ρ ρ'):yF3 prog w env (.Tuple ts k p) d ρ ρ':=by
 intro A H O s v Q E hh st rv hq
 obtain ⟨⟨q1,q2⟩,ih⟩:=ih
 rw[arm_assign_Tuple]
 refine wpAny_bind (wpAny_standAt ?_)
 have fin:∀ vs h',RepL prog w H vs ds→Heap.ExtBut s.heap.objs.size s.heap h'→wpAny (model prog w) A (assignInOrder ((assignEach ts env).map (·.2)) vs) Q E { s with heap:=h' }:=fun vs h' hr hx=>by
  have hk:=zQ7 hx
  have e1:=Ext.grow st.sub hk
  exact ih A H O { s with heap:=h' } vs Q E hh (st.ext e1) hr fun O' h2 tk kl a=>hq O' h2 tk (fun hn b o q hb=>kl hn b o (hk b o q) hb) ((After.of_ext (sf:=false) st e1).s.trans a)
 cases d with
 | tup xs =>
  cases h1
  obtain ⟨x,rfl⟩:=rv.tup_ref
  obtain ⟨vs,it1,hr⟩:=rv.isTuple st.sub
  exact wpAny_unpack_tuple hh it1 (q1.trans hr.length.symm) q2 fun h' hx=>fin _ h' hr hx
 | list xs =>
  cases h1
  obtain ⟨x,rfl⟩:=rv.list_ref
  obtain ⟨vs,it1,hr⟩:=rv.listAt st.sub
  exact zl0 hh it1.isList (q1.trans hr.length.symm) q2 fun h' hx=>fin _ h' hr hx
 | _=>exact nS h1
theorem yn1 {t:Expr} {ts:List Expr} {d:D} {ds:List D} {ρ ρ1 ρ2:Rho} (hst:¬ zE3 t=true) (i1:yF3 prog w env t d ρ ρ1) (i2:zi2 prog w env ts ds ρ1 ρ2):zi2 prog w env (t::ts) (d::ds) ρ ρ2:=by
 obtain ⟨⟨q1,q2⟩,i2⟩:=i2
 unfold zi2
 rw[zW4 hst]
 refine ⟨⟨congrArg (·+1) q1,by rw[List.findIdx?_cons,q2];rfl⟩,fun A H O s vs Q E hh st rv hq=>?_⟩
 cases rv with
 | @cons v vs' _ _ r1 r2 =>
  refine wpAny_bind (wpAny_holding (i1 A H O s v _ E hh st r1 fun O' h' tk kl a=>?_))
  exact i2 A H O' { s with heap:=h',toks:=tk } vs' Q E hh a.st r2 fun O2 h2' t2 kl2 a2=>hq O2 h2' t2 (fun hn b o q hb=>kl2 (fun x hx=>hn x (List.mem_append_right _ hx)) b o (kl (fun x hx=>hn x (List.mem_append_left _ hx)) b o q hb) hb) (a.trans a2)
theorem yV1 (he:EnvOK env sc):AsgI sc (yF3 prog w env) (zi2 prog w env) where
 name _ _ _ _:=yn0 he
 tuple _ _ _ _ _ _ _:=yb8
 nil ρ:=⟨⟨rfl,rfl⟩,fun A H O s vs Q E hh st rv hq=>by
  cases rv
  exact wpAny_pure (hq O s.heap s.toks (fun uu uu uu q uu=>q) (AfterS.refl st))⟩
 cons _ _ _ _ _ _ _:=yn1
theorem zN2 (he:EnvOK env sc) (t:Expr) (d:D) (ρ ρ':Rho) (h:zB9 sc t d ρ=some ρ'):yF3 prog w env t d ρ ρ':=((yV1 he).t t h).2
theorem z65 (he:EnvOK env sc) (ts:List Expr) (ds:List D) (ρ ρ':Rho) (h:zS3 sc ts ds ρ=some ρ'):zi2 prog w env ts ds ρ ρ':=(yV1 he).ts ts h
end
end Mine
namespace Mine
open PySem PySem.W PyProof.Rows PySem.Calls PySem.Builtin
section
variable (prog:Program) (w:World) (KH:PH) (call:zB3) (k:Nat)
noncomputable def yb9 (H:PH) (h h₀:Heap) (f:Flow):Fl→Prop
 | .next=>f=.next
 | .ret r=>∃ v,f=.ret v∧RAt prog w H h h₀ v r
noncomputable def OnF (env:Env) (H:PH) (ρ:Rho) (O:zB1) (s:Shared) (ρ':Rho) (fl:Fl) (Q:Flow→Shared→Prop):Prop :=
 ∀ f H' O' h' (tk:Tk),AfterS prog w env H ρ O s.heap H' ρ' O' h'→yb9 prog w H' h' s.heap f fl→Q f { s with heap:=h',toks:=tk.1,drawn:=tk.2 }
noncomputable def zL0 (sc:Scope) (m:Env→Sem Flow) (p:Rho→Prc (Fl×Rho)):Prop :=
 ∀ (A:Around) (env:Env) (H:PH) (ρ:Rho) (O:zB1) (s:Shared) (fl:Fl) (ρ':Rho) (Q:Flow→Shared→Prop) (E:Value→Shared→Prop),
  zA1 call (p ρ)=some (fl,ρ')→EnvOK env sc→Room A k→PLe KH H→St prog w H env ρ O s.heap →
  OnF prog w env H ρ O s ρ' fl Q→wpAny (model prog w) A (m env) Q E s
end
section
variable {prog:Program} {w:World} {G:PG} {K:Frag} {KH:PH} {call:zB3} {k:Nat} {sc:Scope} {env:Env} {H H':PH} {ρ ρ':Rho} {O O':zB1} {h h':Heap}
set_option tactic.hygienic true in
theorem yb9.lo {h₀ h₁:Heap} {f:Flow} {fl:Fl} (x:yb9 prog w H h h₁ f fl) (hl:∀ b,h₀.get? b≠none→h₁.get? b≠none):yb9 prog w H h h₀ f fl:=by
 cases fl with
 | next=>exact x
 | ret r=>refine xe x fun v Y0=>?_;have e:=Y0.1;have rr:=Y0.2;try clear x;try clear Y0;exact ⟨v,e,rr.lo hl⟩
theorem OnF.t {s:Shared} {ρ'':Rho} {fl:Fl} {tk:Tk} {Q:Flow→Shared→Prop} (hq:OnF prog w env H ρ O s ρ'' fl Q) (a:AfterS prog w env H ρ O s.heap H' ρ' O' h') :
  OnF prog w env H' ρ' O' { s with heap:=h',toks:=tk.1,drawn:=tk.2 } ρ'' fl Q:=fun f H2 O2 h2 t2 a2 hf=>hq f H2 O2 h2 t2 (a.trans a2) (hf.lo a.go.live)
theorem zn7 {b:Addr} (x:H b=none) (new:∀ a,H a=none→H' a≠none→h.get? a=none) (l:h.get? b≠none):H' b=none:=Classical.byContradiction fun z=>l (new b x z)
theorem Go.ygo {X:Addr→Prop} {H0:PH} {O0:zB1} {h0:Heap} (x:Go X H0 O0 h0 H O h) {fp:List Addr} (hfr:∀ b∈fp,h0.get? b=none) (ext:PLe H H') (new:∀ a,H a=none→H' a≠none→h.get? a=none) (keep:∀ b o,h.get? b=some o→b ∉ fp→h'.get? b=some o):Go X H0 O0 h0 H' O h' where
 ext:=x.ext.trans ext
 new a q q':=(Classical.em (H a=none)).elim (fun q1=>.inl (Classical.byContradiction fun z=>x.live a z (new a q1 q'))) (x.new a q)
 keep b o q hb:=keep b o (x.keep b o q hb) fun hm=>nS ((hfr b hm).symm.trans q)
 live b q:=by
  cases q1:h.get? b with
  | none=>exact absurd q1 (x.live b q)
  | some o=>exact zB4 (keep b o q1 fun hm=>q (hfr b hm))
 own:=x.own
theorem St.ygo (x:St prog w H env ρ O h) {fp:List Addr} (hf:∀ b∈fp,b≠env.locals∧(∀ y,env.cells.lookup y≠some b)∧∀ y,O y≠some b)
  (ext:PLe H H') (new:∀ a,H a=none→H' a≠none→h.get? a=none) (keep:∀ b o,h.get? b=some o→b ∉ fp→h'.get? b=some o) (sub:Sub H' h'):St prog w H' env ρ O h':=by
 have kn:∀ b o,(b=env.locals∨∃ y,env.cells.lookup y=some b)→h.get? b=some o→h'.get? b=some o:=fun b o hb q=>keep b o q fun hm=>hb.elim (hf b hm).1 fun ⟨y,hb⟩=>(hf b hm).2.1 y hb
 have ko:∀ y b o,O y=some b→h.get? b=some o→h'.get? b=some o:=fun y b o hb q=>keep b o q fun hm=>(hf b hm).2.2 y hb
 refine ⟨sub,let ⟨m,q⟩:=x.ns;⟨m,q.at fun o q=>kn _ o (.inl rfl) q⟩,fun y f hy hf'=>let ⟨v,q1,q2⟩:=x.names y f hy hf';⟨v,q1.keeps kn,q2.keeps ext rfl fun b o q=>ko y b o q⟩,zn7 x.frL new (let ⟨m,q⟩:=x.ns;Heap.Ns.live q),
  fun y c hy=>let ⟨q1,q2,v,o,q3,q4⟩:=x.cells y c hy;⟨zn7 q1 new (zB4 q3),q2,v,o,kn c o (.inr ⟨y,hy⟩) q3,q4⟩,x.apC,x.hasC,fun y a hy=>let ⟨q1,q2,q3,q4⟩:=x.owns y a hy;⟨zn7 q1 new q4,q2,q3,?_⟩,x.apO⟩
 cases q:h.get? a with
 | none=>exact absurd q q4
 | some o=>exact zB4 (ko y a o hy q)
theorem AfterS.ygo {H₀:PH} {ρ₀:Rho} {O₀:zB1} {h₀:Heap} (x:AfterS prog w env H₀ ρ₀ O₀ h₀ H ρ O h) {fp:List Addr} (hf:∀ b∈fp,b≠env.locals∧(∀ y,env.cells.lookup y≠some b)∧∀ y,O y≠some b) (hfr:∀ b∈fp,h₀.get? b=none)
  (ext:PLe H H') (new:∀ a,H a=none→H' a≠none→h.get? a=none) (keep:∀ b o,h.get? b=some o→b ∉ fp→h'.get? b=some o) (sub:Sub H' h'):AfterS prog w env H₀ ρ₀ O₀ h₀ H' ρ O h' :=
 ⟨x.go.ygo hfr ext new keep,x.st.ygo hf ext new keep sub,x.bor⟩
set_option genInjectivity false in
set_option genSizeOf false in
structure FX where
 A:Around
 t:Expr
 it:Value
 fp:List Addr
 env:Env
 H:PH
 ρ:Rho
 O:zB1
 h:Heap
 s:Shared
noncomputable def FX.at (c:FX) (h:Heap) (tk:Tk):Shared:={ c.s with heap:=h,toks:=tk.1,drawn:=tk.2 }
structure FW (c:FX):Prop where
 loc:c.h.get? c.env.locals≠none
 cell:∀ y b,c.env.cells.lookup y=some b→c.h.get? b≠none
structure FI (prog:Program) (w:World) (c:FX) (ds:List D) (H1:PH) (ρ1:Rho) (O1:zB1) (h1:Heap):Prop where
 a:AfterS prog w c.env c.H c.ρ c.O c.h H1 ρ1 O1 h1
 y:∃ Hit hit,zE6 prog w c.A c.t c.it c.fp ds Hit hit∧(∀ b∈c.fp,∀ o,hit.get? b=some o→h1.get? b=some o)∧PLe Hit H1
 fp:∀ b∈c.fp,c.h.get? b=none∧H1 b=none∧h1.get? b≠none
 own:∀ y b,O1 y=some b→b ∉ c.fp
section
variable {c:FX} {ds:List D} {d:D} {H1 H2 H4:PH} {ρ1 ρ4:Rho} {O1 O4:zB1} {h1 h2 h4:Heap} {tk:Tk} {Qn:Shared→Prop} {Qs E:Value→Shared→Prop}
theorem FI.apart (i:FI prog w c ds H1 ρ1 O1 h1) (cw:FW c):∀ b∈c.fp,b≠c.env.locals∧(∀ y,c.env.cells.lookup y≠some b)∧∀ y,O1 y≠some b:=fun b hm =>
 ⟨fun e=>cw.loc (e▸(i.fp b hm).1),fun y e=>cw.cell y b e (i.fp b hm).1,fun y e=>i.own y b e hm⟩
theorem FI.last (i:FI prog w c [] H1 ρ1 O1 h1) (cw:FW c) (q:∀ h2 (t2:Tk),AfterS prog w c.env c.H c.ρ c.O c.h H1 ρ1 O1 h2→Qn (c.at h2 t2)):zU8 prog w c.A c.t c.it (c.at h1 tk) Qn Qs E:=by
 refine xe i.y fun Hit Y0=>?_;refine xe Y0 fun hit Y1=>?_;have y:=Y1.1;have f1:=Y1.2.1;have f2:=Y1.2.2;try clear Y0 Y1
 exact y (c.at h1 tk) H1 _ _ _ f1 f2 i.a.st.sub (fun b hm=>(i.fp b hm).2.1) fun h2 t2 hk2=>q h2 (t2,tk.2) (i.a.ygo (i.apart cw) (fun b hm=>(i.fp b hm).1) (PLe.refl H1) (fun a q q'=>absurd q q') hk2 fun a o q=>hk2 a o (i.a.st.sub _ _ q) fun hm=>nS ((i.fp a hm).2.1.symm.trans q))
theorem FI.draw (i:FI prog w c (d::ds) H1 ρ1 O1 h1) (cw:FW c) (q:∀ v H2 h2 (t2:Tk),PLe H1 H2→FI prog w c ds H2 ρ1 O1 h2→zE6 prog w c.A c.t c.it c.fp ds H2 h2→Rep prog w H2 v d→Qs v (c.at h2 t2)):zU8 prog w c.A c.t c.it (c.at h1 tk) Qn Qs E:=by
 refine xe i.y fun Hit Y0=>?_;refine xe Y0 fun hit Y1=>?_;have y:=Y1.1;have f1:=Y1.2.1;have f2:=Y1.2.2;try clear Y0 Y1
 exact y (c.at h1 tk) H1 _ _ _ f1 f2 i.a.st.sub (fun b hm=>(i.fp b hm).2.1) fun v H2 h2 t2 yg rv hy2=>q v H2 h2 (t2,tk.2) yg.ext ⟨i.a.ygo (i.apart cw) (fun b hm=>(i.fp b hm).1) yg.ext yg.new yg.keep yg.sub,⟨H2,h2,hy2,fun uu uu uu e=>e,PLe.refl H2⟩,
  fun b hm=>⟨(i.fp b hm).1,zn7 (i.fp b hm).2.1 yg.new (i.fp b hm).2.2,yg.live b (i.fp b hm).2.2⟩,i.own⟩ hy2 rv
theorem FI.next (i:FI prog w c ds H2 ρ1 O1 h2) (cw:FW c) (hy:zE6 prog w c.A c.t c.it c.fp ds H2 h2) (a:AfterS prog w c.env H2 ρ1 O1 h2 H4 ρ4 O4 h4):FI prog w c ds H4 ρ4 O4 h4 where
 a:=i.a.trans a
 y:=⟨H2,h2,hy,fun b hm o q=>a.go.keep b o q fun ht=>ht.elim (i.apart cw b hm).1 fun ht=>ht.elim (fun ⟨y,ht⟩=>(i.apart cw b hm).2.1 y ht) fun ⟨y,ht⟩=>(i.apart cw b hm).2.2 y ht,a.go.ext⟩
 fp b hm:=⟨(i.fp b hm).1,Classical.byContradiction fun z=>(a.go.new b (i.fp b hm).2.1 z).elim (i.fp b hm).2.2 fun ⟨y,e⟩=>i.own y b e hm,a.go.live b (i.fp b hm).2.2⟩
 own y b e hm:=(a.go.own y b e).elim (fun ⟨z,q⟩=>i.own z b q hm) (i.fp b hm).2.2
inductive FL (prog:Program) (w:World) (call:zB3) (KH:PH) (c:FX) (f:List D→Rho→Prc (Fl×Rho)) (out:Fl×Rho):Nat→Shared→Prop
 | mk (ds:List D) (H1:PH) (ρ1:Rho) (O1:zB1) (h1:Heap) (tk:Tk) (i:FI prog w c ds H1 ρ1 O1 h1) (hk:PLe KH H1) (hi:zA1 call (f ds ρ1)=some out):FL prog w call KH c f out ds.length (c.at h1 tk)
end
set_option tactic.hygienic true in
theorem yn2 {c:FX} (cw:FW c) (he:EnvOK c.env sc) (hro:Room c.A k) {body:List Stmt} {pbody:Rho→Prc (Fl×Rho)} (hb:zL0 prog w KH call k sc (execs body) pbody) {fl:Fl} {ds:List D} (i0:FI prog w c ds H' ρ' O' c.s.heap) (hk:PLe KH H')
  {ρ'':Rho} (hi:zA1 call (zc8 (zB9 sc c.t) pbody ds ρ')=some (fl,ρ'')) {R:Result→Shared→Prop}
  (hq:∀ f H2 O2 h2 (tk:Tk),AfterS prog w c.env c.H c.ρ c.O c.h H2 ρ'' O2 h2→yb9 prog w H2 h2 c.h f fl→R (.ok f) (c.at h2 tk)) :
  codeAny (model prog w) c.A (.forLoop c.t c.it body [] c.env) R c.s:=by
 refine codeAny_forLoop_any (FL prog w call KH c (zc8 (zB9 sc c.t) pbody) (fl,ρ'')) (fun n s' x=>?_) ds.length (.mk ds H' ρ' O' c.s.heap (c.s.toks,c.s.drawn) i0 hk hi)
 cases x with
 | mk ds H1 ρ1 O1 h1 tk i hk hi =>
  cases ds with
  | nil =>
   cases hi
   exact i.last cw fun h2 t2 a=>wpAny_execs_nil (hq .next H1 O1 h2 t2 a rfl)
  | cons d ds =>
   refine ibk hi fun ρ2 g1 hi=>ibk hi fun p g2 hi=>i.draw cw fun v H2 h2 t2 le i2 hy2 rv=>?_
   refine zN2 he c.t d ρ1 ρ2 (io g1) c.A H2 O1 (c.at h2 t2) v _ _ hro.hh i2.a.st rv fun O3 h3 t3 uu a3=>?_
   refine hb c.A c.env H2 ρ2 O3 (c.at h3 (t3,t2.2)) p.1 p.2 _ _ g2 he hro (hk.trans le) a3.st fun f H4 O4 h4 t4 a4 hfl=>?_
   obtain ⟨p1,p2⟩:=p
   cases p1 with
   | ret r =>
    cases hi
    refine xe hfl fun u Y0=>?_;obtain rfl:=Y0.1;have rr:=Y0.2;try clear hfl;try clear Y0
    exact hq (.ret u) H4 O4 h4 t4 ((i2.a.trans a3).trans a4) ⟨u,rfl,rr.lo (i2.a.trans a3).go.live⟩
   | next =>
    obtain rfl:f=.next:=hfl
    exact ⟨ds.length,Nat.lt_succ_self _,.mk ds H4 p2 O4 h4 t4 (i2.next cw hy2 (a3.trans a4)) ((hk.trans le).trans a4.go.ext) hi⟩
theorem yn3 (kok:KOK G K KH) {ev:Rho→Expr→Prc (R×Rho)} (hE:∀ e,Sim prog w KH call k true sc (eval e) (fun ρ=>ev ρ e)) {t i:Expr} {b:List Stmt} {p:Pos} {pbody:Rho→Prc (Fl×Rho)} (hb:zL0 prog w KH call k sc (execs b) pbody) :
  zL0 prog w KH call k sc (exec (.For t i b [] p)) (fun ρ=>(zC0 G ev sc (zE7 t) ρ i).bind fun q=>zc8 (zB9 sc t) pbody q.1 q.2):=by
 intro A env H ρ O s fl ρ' Q E hi he hro hk hs hq
 refine ibk hi fun q h1 h2=>?_
 refine wpAny_For (zq6 kok hE h1 he hro hk hs fun it fp H' O' h' tk a hy uu hfp=>?_) (fun x=>zi0 (ym6 h1) x)
 exact yn2 (c:=⟨A,t,it,fp,env,H,ρ,O,s.heap,{ s with heap:=h',toks:=tk.1,drawn:=tk.2 }⟩) ⟨let ⟨m,q⟩:=hs.ns;Heap.Ns.live q,fun y c q=>let ⟨_,_,v,q⟩:=hs.cells y c q;zE8 q⟩ he hro hb
  ⟨a.s,⟨H',h',hy,fun uu uu uu e=>e,PLe.refl H'⟩,hfp,fun y b hO hm=>a.bound y b (a.sub y b hO) (hfp b hm).1⟩ (hk.trans a.go.ext) h2 fun f H2 O2 h2 t2 a2 hfl=>hq f H2 O2 h2 t2 a2 hfl
end
end Mine
namespace Mine
open PySem PySem.W PyProof.Rows PySem.Calls PySem.Builtin
section
variable {prog:Program} {w:World} {G:PG} {K:Frag} {KH:PH} {call:zB3} {k:Nat} {sc:Scope} {env:Env} {H H':PH} {ρ ρ':Rho} {O O':zB1} {h h':Heap}
theorem z66 {f:Flow} {h₀:Heap} (x:yb9 prog w H h h₀ f .next):f=.next:=x
set_option tactic.hygienic true in
theorem zP2 {ex:Rho→Stmt→Prc (Fl×Rho)} (hE:∀ st,zL0 prog w KH call k sc (exec st) (fun ρ=>ex ρ st)):∀ (ss:List Stmt),zL0 prog w KH call k sc (execs ss) (fun ρ=>zB2 ex ss ρ)
 | []=>by
  intro A env H ρ O s fl ρ' Q E hi he hro hk hs hq
  cases hi
  exact wpAny_execs_nil (hq .next H O s.heap (s.toks,s.drawn) (AfterS.refl hs) rfl)
 | st::ss=>by
  intro A env H ρ O s fl ρ' Q E hi he hro hk hs hq
  refine ibk hi fun p h1 hi=>?_
  refine wpAny_execs_cons (hE st A env H ρ O s p.1 p.2 _ E h1 he hro hk hs fun f H' O' h' tk a hf=>?_)
  obtain ⟨p1,p2⟩:=p
  cases p1 with
  | next =>
   obtain rfl:=z66 hf
   exact zP2 hE ss A env H' p2 O' _ fl ρ' Q E hi he hro (hk.trans a.go.ext) a.st (hq.t a)
  | ret r =>
   cases hi
   refine xe hf fun v Y0=>?_;obtain rfl:=Y0.1;have rr:=Y0.2;try clear hf;try clear Y0
   exact hq (.ret v) H' O' h' tk a ⟨v,rfl,rr⟩
theorem y01 {et:Rho→Prc (Bool×Rho)} {t:Expr} {b o:List Stmt} {p:Pos} {pb po:Rho→Prc (Fl×Rho)} (ht:zR4 prog w KH call k true sc (fun env=>isTrue t env (eval t env)) et) (hb:zL0 prog w KH call k sc (execs b) pb) (ho:zL0 prog w KH call k sc (execs o) po) :
  zL0 prog w KH call k sc (exec (.If t b o p)) (fun ρ=>(et ρ).bind fun p=>if p.1 then pb p.2 else po p.2):=by
 intro A env H ρ O s fl ρ' Q E hi he hro hk hs hq
 refine ibk hi fun q h1 hi=>wpAny_If (ht A env H ρ O s q.1 q.2 _ E h1 he hro hk hs fun H' O' h' tk a=>?_)
 obtain ⟨q1,q2⟩:=q
 cases q1 with
 | true=>exact hb A env H' q2 O' _ fl ρ' Q E hi he hro (hk.trans a.go.ext) a.st (hq.t a.s)
 | false=>exact ho A env H' q2 O' _ fl ρ' Q E hi he hro (hk.trans a.go.ext) a.st (hq.t a.s)
inductive WL (prog:Program) (w:World) (call:zB3) (env:Env) (H:PH) (ρ:Rho) (O:zB1) (s:Shared) (f:Nat→Rho→Prc (Fl×Rho)) (out:Fl×Rho):Nat→Shared→Prop
 | mk (n:Nat) (H1:PH) (ρ1:Rho) (O1:zB1) (h1:Heap) (tk:Tk) (a:AfterS prog w env H ρ O s.heap H1 ρ1 O1 h1) (hi:zA1 call (f n ρ1)=some out):WL prog w call env H ρ O s f out n { s with heap:=h1,toks:=tk.1,drawn:=tk.2 }
set_option tactic.hygienic true in
theorem yM9 {et:Rho→Prc (Bool×Rho)} {t:Expr} {b:List Stmt} {p:Pos} {pb:Rho→Prc (Fl×Rho)} (ht:zR4 prog w KH call k true sc (fun env=>isTrue t env (eval t env)) et) (hb:zL0 prog w KH call k sc (execs b) pb) (N:Nat) :
  zL0 prog w KH call k sc (exec (.While t b [] p)) (fun ρ=>zh6 et pb N ρ):=by
 intro A env H ρ O s fl ρ' Q E hi he hro hk hs hq
 refine wpAny_While (codeAny_whileLoop (WL prog w call env H ρ O s (zh6 et pb) (fl,ρ')) (fun n s' x=>?_) N (.mk N H ρ O s.heap (s.toks,s.drawn) (AfterS.refl hs) hi))
 clear hi
 cases x with
 | mk H1 ρ1 O1 h1 tk a1 hi =>
  cases n with
  | zero=>exact nS hi
  | succ n =>
   refine ibk hi fun q g1 hi=>?_
   refine ht A env H1 ρ1 O1 _ q.1 q.2 _ _ g1 he hro (hk.trans a1.go.ext) a1.st fun H2 O2 h2 t2 a2=>?_
   obtain ⟨q1,q2⟩:=q
   cases q1 with
   | false =>
    cases hi
    exact wpAny_execs_nil (hq .next H2 O2 h2 t2 (a1.trans a2.s) rfl)
   | true =>
    refine ibk hi fun r g2 hi=>?_
    refine hb A env H2 q2 O2 _ r.1 r.2 _ _ g2 he hro ((hk.trans a1.go.ext).trans a2.go.ext) a2.st fun f H3 O3 h3 t3 a3 hf=>?_
    obtain ⟨r1,r2⟩:=r
    cases r1 with
    | next =>
     obtain rfl:=z66 hf
     exact ⟨n,Nat.lt_succ_self n,.mk n H3 r2 O3 h3 t3 ((a1.trans a2.s).trans a3) hi⟩
    | ret rr =>
     cases hi
     refine xe hf fun v Y0=>?_;obtain rfl:=Y0.1;have hr:=Y0.2;try clear hf;try clear Y0
     exact hq (.ret v) H3 O3 h3 t3 ((a1.trans a2.s).trans a3) ⟨v,rfl,hr.lo (a1.trans a2.s).go.live⟩
theorem yF4 {ev:Rho→Prc (R×Rho)} {e:Expr} {p:Pos} (hv:Sim prog w KH call k true sc (eval e) ev):zL0 prog w KH call k sc (exec (.Return (some e) p)) (fun ρ=>(ev ρ).bind fun p=>.pure (.ret p.1,p.2)):=by
 intro A env H ρ O s fl ρ' Q E hi he hro hk hs hq
 refine ibk hi fun q h1 hi=>?_
 cases hi
 exact wpAny_Return_some (hv A env H ρ O s q.1 q.2 _ E h1 he hro hk hs fun v H' O' h' tk a rr=>hq (.ret v) H' O' h' tk a.s ⟨v,rfl,rr⟩)
set_option tactic.hygienic true in
theorem yn4 {b:List Stmt} {hs':List ExceptHandler} {p:Pos} {pb:Rho→Prc (Fl×Rho)} (hb:zL0 prog w KH call k sc (execs b) pb):zL0 prog w KH call k sc (exec (.Try b hs' [] [] p)) pb:=by
 intro A env H ρ O s fl ρ' Q E hi he hro hk hs hq
 rw[arm_exec_Try]
 refine wpAny_bind (wpAny_standAt ?_)
 show wpAny _ _ (tryStmt false (execs b env) hs' (execs [] env) [] env) _ _ _
 unfold tryStmt
 simp only[List.isEmpty_nil,if_true]
 refine wpAny_bind (wpAny_attempt ?_)
 refine hb A env H ρ O s fl ρ' _ _ hi he hro hk hs fun f H' O' h' tk a hf=>?_
 cases fl with
 | next =>
  have:f=.next:=hf
  subst this
  exact wpAny_execs_nil (hq .next H' O' h' tk a rfl)
 | ret r =>
  refine xe hf fun v Y0=>?_;obtain rfl:=Y0.1;have rr:=Y0.2;try clear hf;try clear Y0
  exact wpAny_pure ((hq (.ret v) H' O' h' tk a ⟨v,rfl,rr⟩))
end
end Mine
namespace Mine
open PySem PySem.W PyProof.Rows PySem.Calls PySem.Builtin
section
variable {prog:Program} {w:World} {A:Around} {R:Result→Shared→Prop} {s:Shared} {elt iter target:Expr} {gens:List Comprehension} {csc:Scope} {pos:Pos} {it acc:Value} {env:Env} {ifs:List Expr} {j:Nat}
noncomputable def zq7 (prog:Program) (w:World) (A:Around) (elt:Expr) (gens:List Comprehension) (csc:Scope) (pos:Pos) (j:Nat) (acc:Value) (env:Env) (P:Shared→Prop) (E:Value→Shared→Prop) (s:Shared):Prop :=
 match gens[j+1]? with
 | some g'=>wpAny (model prog w) A (eval g'.iter env) (fun x s₁=>wpAny (model prog w) A (pyIter x) (fun it' s₂=>codeAny (model prog w) A (.compStart (.ListComp elt gens csc pos) (j+1) it' acc env) (fun r s'=>match r with | .ok _=>P s' | .error e=>cameBackBy (model prog w) A env E e s') s₂) E s₁) E s
 | none=>wpAny (model prog w) A (eval elt env) (fun x s₁=>wpAny (model prog w) A (PySem.call (.builtin "list.append") [acc,x]) (fun uu s₂=>P s₂) E s₁) E s
theorem zw5 (hg:gens[j]?=some ⟨target,iter,ifs,0⟩) (hn:∀ g',gens[j+1]?=some g'→g'.is_async=0∧¬ zo6 g'.iter=true) (I:Nat→Shared→Prop)
  (turn:∀ n s,I n s→zU8 prog w A target it s (R (.ok .next)) (fun v s₁=>wpAny (model prog w) A (assign target env v) (fun uu s₂ =>
   wpAny (model prog w) A (forIn ifs true fun c r=>if r=true then do let ok ← isTrue c env (eval c env);pure (ForInStep.yield ok) else pure (ForInStep.yield r)) (fun ok s₃ =>
    if ok=true then zq7 prog w A elt gens csc pos j acc env (fun s₄=>∃ m,m < n∧I m s₄) (notedBy (model prog w) A env fun e s'=>R (.error e) s') s₃
    else ∃ m,m < n∧I m s₃) (notedBy (model prog w) A env fun e s'=>R (.error e) s') s₂) (notedBy (model prog w) A env fun e s'=>R (.error e) s') s₁) (notedBy (model prog w) A env fun e s'=>R (.error e) s'))
  (n:Nat) (h:I n s):codeAny (model prog w) A (.compLoop (.ListComp elt gens csc pos) j it acc env) R s:=by
 refine codeAny_loop rfl I (fun n s hI=>?_) n h
 show wpAny _ A ((compTurn (.ListComp elt gens csc pos) j it acc env).onRaise (fun x=>do noteFrame x env;theTreesLotGoes x)) _ _ s
 refine wpAny_noted ?_
 unfold compTurn
 simp only[hg]
 refine wpAny_bind (wpAny_standAt ?_)
 refine wpAny_bind (wpAny_mono (turn n s hI) (fun r s₁ h₁=>?_) fun uu uu h'=>h')
 cases r with
 | none=>exact wpAny_pure h₁
 | some v =>
  refine wpAny_bind (wpAny_mono h₁ (fun uu s₂ h₂=>wpAny_bind (wpAny_mono h₂ (fun uu s₃ h₃=>?_) fun uu uu h'=>h')) fun uu uu h'=>h')
  refine wpAny_bind (wpAny_mono h₃ (fun ok s₄ h₄=>?_) fun uu uu h'=>h')
  cases ok with
  | false=>exact wpAny_pure ⟨rfl,h₄⟩
  | true =>
   simp only[if_true] at h₄ ⊢
   unfold zq7 at h₄
   cases hn2:gens[j+1]? with
   | none =>
    rw[hn2] at h₄
    simp only at h₄ ⊢
    exact wpAny_bind (wpAny_bind (wpAny_mono h₄ (fun x s₅ h₅=>wpAny_bind (wpAny_mono h₅ (fun uu s₆ h₆=>wpAny_pure (wpAny_pure ⟨rfl,h₆⟩)) fun uu uu h'=>h')) fun uu uu h'=>h'))
   | some g' =>
    rw[hn2] at h₄
    obtain ⟨ha,hset⟩:=hn g' hn2
    simp only at h₄ ⊢
    have hf:(g'.is_async != 0)=false:=by rw[ha];rfl
    simp only[hf,Bool.false_eq_true,if_false]
    refine wpAny_bind (wpAny_mono h₄ (fun x s₅ h₅=>wpAny_bind (wpAny_standAt (wpAny_bind (wpAny_of_eq (zi0 hset x) (wpAny_bind (wpAny_holding (wpAny_mono h₅ (fun it' s₆ h₆=>?_) fun uu uu h'=>h'))))))) fun uu uu h'=>h')
    refine wpAny_bind (wpAny_runOwn (Q:=fun uu s'=>_) (codeAny_mono h₆ fun r s' hr=>?_))
    cases r with
    | ok f=>exact wpAny_pure ⟨rfl,hr⟩
    | error e=>exact hr
theorem zY8 (hg:gens[j]?=some ⟨target,iter,ifs,0⟩) (h0:codeAny (model prog w) A (.compLoop (.ListComp elt gens csc pos) j it acc env) R s)
  (h:wpAny (model prog w) A (pyIter it) (fun it' s'=>codeAny (model prog w) A (.compLoop (.ListComp elt gens csc pos) j it' acc env) R s') (notedBy (model prog w) A env fun x s'=>R (.error x) s') s) :
  codeAny (model prog w) A (.compStart (.ListComp elt gens csc pos) j it acc env) R s:=by
 refine codeAny_of_tree ?_
 show wpAny _ _ ((compStart (.ListComp elt gens csc pos) j it acc env).onRaise (fun x=>do noteFrame x env;standAt theWindowsPlace)) _ _ s
 refine wpAny_notedAt ?_
 unfold compStart
 have hc:(clausesOf (.ListComp elt gens csc pos))[j]?=some ⟨target,iter,ifs,0⟩:=hg
 simp only[hc,Option.elim_some]
 have hz:(((0:Int) != 0)=true)=False:=by simp
 show wpAny _ _ (ask >>= _) _ _ s
 refine wpAny_bind (wpAny_askSetting (wpAny_ite ?_))
 split
 ·first
   | exact wpAny_bind (wpAny_pure (wpAny_pure (And.intro rfl h0)))
   | exact wpAny_pure (And.intro rfl h0)
 ·first
   | exact wpAny_bind (wpAny_rule (wpAny_bind (wpAny_standAt (wpAny_bind (wpAny_mono h (fun it' s' h'=>wpAny_pure (And.intro rfl h')) fun uu uu x=>x)))))
   | (refine wpAny_bind (wpAny_rule ?_);exact wpAny_bind (wpAny_standAt (wpAny_bind (wpAny_mono h (fun it' s' h'=>wpAny_pure (And.intro rfl h')) fun uu uu x=>x))))
theorem zw6 {kx vx:Expr} {d:Addr} (I:Nat→Shared→Prop)
  (turn:∀ n s,I n s→zU8 prog w A target it s (R (.ok .next)) (fun v s₁=>wpAny (model prog w) A (assign target env v) (fun uu s₂ =>
   wpAny (model prog w) A (eval kx env) (fun kv s₃=>wpAny (model prog w) A (eval vx env) (fun vv s₄=>wpAny (model prog w) A (dictSet d kv vv) (fun uu s₅=>∃ m,m < n∧I m s₅)
    (notedBy (model prog w) A env fun e s'=>R (.error e) s') s₄) (notedBy (model prog w) A env fun e s'=>R (.error e) s') s₃) (notedBy (model prog w) A env fun e s'=>R (.error e) s') s₂) (notedBy (model prog w) A env fun e s'=>R (.error e) s') s₁) (notedBy (model prog w) A env fun e s'=>R (.error e) s'))
  (n:Nat) (h:I n s):codeAny (model prog w) A (.compLoop (.DictComp kx vx [⟨target,iter,[],0⟩] csc pos) 0 it (.ref d) env) R s:=by
 refine codeAny_loop rfl I (fun n s hI=>?_) n h
 show wpAny _ A ((compTurn (.DictComp kx vx [⟨target,iter,[],0⟩] csc pos) 0 it (.ref d) env).onRaise (fun x=>do noteFrame x env;theTreesLotGoes x)) _ _ s
 refine wpAny_noted ?_
 unfold compTurn
 simp only[List.getElem?_cons_zero]
 refine wpAny_bind (wpAny_standAt ?_)
 refine wpAny_bind (wpAny_mono (turn n s hI) (fun r s₁ h₁=>?_) fun uu uu h'=>h')
 cases r with
 | none=>exact wpAny_pure h₁
 | some v =>
  refine wpAny_bind (wpAny_mono h₁ (fun uu s₂ h₂=>wpAny_bind (wpAny_mono h₂ (fun uu s₃ h₃=>?_) fun uu uu h'=>h')) fun uu uu h'=>h')
  simp only[List.forIn_nil,List.getElem?_cons_succ,List.getElem?_nil]
  refine wpAny_bind (wpAny_pure ?_)
  simp only[if_true]
  exact wpAny_bind (wpAny_bind (wpAny_mono h₃ (fun kv s₄ h₄=>wpAny_bind (wpAny_holding (wpAny_mono h₄ (fun vv s₅ h₅=>wpAny_bind (wpAny_standAt (wpAny_holding (wpAny_mono h₅ (fun uu s₆ h₆=>wpAny_pure ⟨rfl,h₆⟩) fun uu uu h'=>h')))) fun uu uu h'=>h'))) fun uu uu h'=>h'))
theorem zq8 {kx vx:Expr} {d:Value} (h0:codeAny (model prog w) A (.compLoop (.DictComp kx vx [⟨target,iter,[],0⟩] csc pos) 0 it d env) R s)
  (h:wpAny (model prog w) A (pyIter it) (fun it' s'=>codeAny (model prog w) A (.compLoop (.DictComp kx vx [⟨target,iter,[],0⟩] csc pos) 0 it' d env) R s') (notedBy (model prog w) A env fun x s'=>R (.error x) s') s) :
  codeAny (model prog w) A (.compStart (.DictComp kx vx [⟨target,iter,[],0⟩] csc pos) 0 it d env) R s:=by
 refine codeAny_of_tree ?_
 show wpAny _ _ ((compStart (.DictComp kx vx [⟨target,iter,[],0⟩] csc pos) 0 it d env).onRaise (fun x=>do noteFrame x env;standAt theWindowsPlace)) _ _ s
 refine wpAny_notedAt ?_
 unfold compStart
 show wpAny _ _ (ask >>= _) _ _ s
 refine wpAny_bind (wpAny_askSetting (wpAny_ite ?_))
 split
 ·first
   | exact wpAny_bind (wpAny_pure (wpAny_pure (And.intro rfl h0)))
   | exact wpAny_pure (And.intro rfl h0)
 ·first
   | exact wpAny_bind (wpAny_rule (wpAny_bind (wpAny_standAt (wpAny_bind (wpAny_mono h (fun it' s' h'=>wpAny_pure (And.intro rfl h')) fun uu uu x=>x)))))
   | (refine wpAny_bind (wpAny_rule ?_);show wpAny _ _ (standAt iter.pos >>= _) _ _ s;exact wpAny_bind (wpAny_standAt (wpAny_bind (wpAny_mono h (fun it' s' h'=>wpAny_pure (And.intro rfl h')) fun uu uu x=>x))))
end
end Mine
namespace Mine
open PySem PySem.W PyProof.Rows PySem.Calls PySem.Builtin
section
variable {prog:Program} {w:World} {K:Frag} {KH:PH} {call:zB3} {k:Nat} {csc:Scope} {cenv:Env} {H H':PH} {ρ ρ':Rho} {O O':zB1} {h h':Heap}
theorem St.restrict (x:St prog w H cenv ρ' O h) (hr:∀ y e,ρ.lookup y=some e→ρ'.lookup y=some e):St prog w H cenv ρ O h :=
 ⟨x.sub,x.ns,fun y e hs hl=>x.names y e hs (hr y e hl),x.frL,x.cells,x.apC,x.hasC,x.owns,x.apO⟩
theorem yN0 {sc:Scope}:AsgI sc (fun t uu ρ ρ'=>∀ y,y ∉ zc7 t→ρ'.lookup y=ρ.lookup y) (fun ts uu ρ ρ'=>∀ y,y ∉ zn2 ts→ρ'.lookup y=ρ.lookup y) where
 name x p d ρ _ _ y hy:=(Rho.lookup_set ..).trans (if_neg (fun e=>hy (List.mem_singleton.mpr e)))
 tuple ts k p d ds ρ ρ' _ ih:=ih
 nil ρ y _:=rfl
 cons t ts d ds ρ ρ1 ρ2 _ i1 i2 y hy:=(i2 y fun m=>hy (List.mem_append_right _ m)).trans (i1 y fun m=>hy (List.mem_append_left _ m))
theorem zq9 {t:Expr} {x:Str} (hf:zN7 csc t ρ=true) (hx:x∈zc7 t):csc.names.lookup x=some .local∧ρ.lookup x=none :=
 have h:=Bool.and_eq_true_iff.mp (List.all_eq_true.mp hf x hx)
 ⟨eq_of_beq h.1,Option.isNone_iff_eq_none.mp h.2⟩
theorem z05 {t:Expr} {d:D} (hf:zN7 csc t ρ=true) (ha:zB9 csc t d ρ=some ρ'):∀ y e,ρ.lookup y=some e→ρ'.lookup y=some e:=fun y e hl =>
 (Classical.em (y∈zc7 t)).elim (fun hy=>nS ((zq9 hf hy).2.symm.trans hl)) fun hy=>((yN0.t t ha).2 y hy).trans hl
theorem zl1 (he:EnvOK cenv csc) {t:Expr} (hf:zN7 csc t ρ=true):∀ x∈zc7 t,cenv.kindOf x=some .local:=fun x hx =>
 (he.kind x).elim (fun e=>e.trans (zq9 hf hx).1) fun e=>NameKind.noConfusion (Option.some.inj ((zq9 hf hx).1.symm.trans e.1))
theorem zl2 {A:Around} {E:Value→Shared→Prop} {s:Shared} {Q:Bool→Shared→Prop}:∀ (cs:List Expr),Q false s →
  wpAny (model prog w) A (forIn cs false fun c r=>if r=true then do let ok ← isTrue c cenv (eval c cenv);pure (ForInStep.yield ok) else pure (ForInStep.yield r)) Q E s
 | [],q=>wpAny_pure q
 | c::cs,q=>by
  rw[List.forIn_cons]
  simp only[Bool.false_eq_true,if_false]
  exact wpAny_bind (wpAny_pure (zl2 cs q))
theorem After.f {env:Env} (a:After prog w false env H ρ O h H' ρ' O' h'):After prog w false env H ρ O h H' ρ O h':=by
 obtain ⟨rfl,rfl⟩:=a.same rfl
 exact a
theorem z06 {et:Rho→Expr→Prc (Bool×Rho)} (hT:∀ e,zR4 prog w KH call k false csc (fun env=>isTrue e env (eval e env)) (fun ρ=>et ρ e)):∀ (cs:List Expr) (A:Around) (H:PH) (s:Shared) (b:Bool) (Q:Bool→Shared→Prop) (E:Value→Shared→Prop),
  zA1 call (zS4 et cs ρ)=some b→EnvOK cenv csc→Room A k→PLe KH H→St prog w H cenv ρ O s.heap →
  (∀ H' h' (tk:Tk),After prog w false cenv H ρ O s.heap H' ρ O h'→Q b { s with heap:=h',toks:=tk.1,drawn:=tk.2 }) →
  wpAny (model prog w) A (forIn cs true fun c r=>if r=true then do let ok ← isTrue c cenv (eval c cenv);pure (ForInStep.yield ok) else pure (ForInStep.yield r)) Q E s
 | [],A,H,s,b,Q,E,hi,he,hro,hk,hs,hq=>by
  cases hi
  exact wpAny_pure (hq H s.heap (s.toks,s.drawn) (After.refl hs))
 | c::cs,A,H,s,b,Q,E,hi,he,hro,hk,hs,hq=>by
  refine ibk hi fun p h1 hi=>?_
  rw[List.forIn_cons]
  refine wpAny_bind (wpAny_bind (hT c A cenv H ρ O s p.1 p.2 _ E h1 he hro hk hs fun H' O' h' tk a=>wpAny_pure ?_))
  have e2:=(a.same rfl).1
  have a1:=a.f
  clear a h1
  obtain ⟨p1,p2⟩:=p
  cases p1 with
  | true=>exact z06 hT cs A H' _ b Q E (e2▸hi) he hro (hk.trans a1.go.ext) a1.st fun H2 h2 t2 a2=>hq H2 h2 t2 (a1.trans a2)
  | false =>
   obtain rfl:=Option.some.inj hi
   exact zl2 cs (hq H' h' tk a1)
noncomputable def zd7 (env:Env) (H:PH) (O:zB1) (h:Heap) (b:Addr):Prop:=b≠env.locals∧(∀ y,env.cells.lookup y≠some b)∧(∀ y,O y≠some b)∧H b=none∧h.get? b≠none
theorem zd7.go {T:Addr→Prop} {env:Env} {b:Addr} (p:zd7 env H O h b) (g:Go T H O h H' O' h'):zd7 env H' O' h' b:=by
 exact ⟨p.1,p.2.1,fun y e=>(g.own y b e).elim (fun e=>e.elim p.2.2.1) p.2.2.2.2,Classical.byContradiction fun z=>(g.new b p.2.2.2.1 z).elim p.2.2.2.2 fun e=>e.elim p.2.2.1,g.live b p.2.2.2.2⟩
end
end Mine
namespace Mine
open PySem PySem.W PyProof.Rows PySem.Calls PySem.Builtin
section
variable {prog:Program} {w:World} {G:PG} {K:Frag} {KH:PH} {call:zB3} {k:Nat} {csc:Scope} {cenv:Env} {H H':PH} {ρ ρ':Rho} {O O':zB1} {h h':Heap}
theorem YGo.go {X:Addr→Prop} {fp:List Addr} (y:YGo fp H h H' h') (hX:∀ b∈fp,X b):Go X H O h H' O h' :=
 ⟨y.ext,fun a q q'=>.inl (y.new a q q'),fun b o q hb=>y.keep b o q fun hm=>hb (hX b hm),y.live,fun x a q=>.inl ⟨x,q⟩⟩
theorem AfterS.goL {X:Addr→Prop} (a:AfterS prog w cenv H ρ O h H' ρ' O' h') (kl:∀ b o,h.get? b=some o→b≠cenv.locals→h'.get? b=some o) (hX:X cenv.locals):Go X H O h H' O' h' :=
 ⟨a.go.ext,a.go.new,fun b o q hb=>kl b o q fun e=>hb (by rw[e];exact hX),a.go.live,a.go.own⟩
theorem After.goF {X:Addr→Prop} (a:After prog w false cenv H ρ O h H' ρ' O' h'):Go X H O h H' O' h':=a.go.weaken fun b hb=>nomatch hb.1
theorem Go.t {X:Addr→Prop} {H'':PH} {O'':zB1} {h'':Heap} (x:Go X H O h H' O' h') (y:Go X H' O' h' H'' O'' h''):Go X H O h H'' O'' h'':=x.trans y fun uu q uu=>q
theorem z67 {α β:Type} {f:α→Prc β} {a:α} {as:List α} {l:List β} {P:Prop} (h:zA1 call (zM0 f (a::as))=some l) (q:∀ b bs,zA1 call (f a)=some b→zA1 call (zM0 f as)=some bs→b::bs=l→P):P :=
 ibk h fun b h1 h=>ibk h fun bs h2 h=>q b bs h1 h2 (Option.some.inj h)
theorem Sim.f {m:Env→Sem Value} {p:Rho→Prc (R×Rho)} (x:Sim prog w KH call k false csc m p) {A:Around} {s:Shared} {r:R×Rho} {Q:Value→Shared→Prop} {E:Value→Shared→Prop} (hi:zA1 call (p ρ)=some r) (he:EnvOK cenv csc) (hro:Room A k) (hk:PLe KH H) (hs:St prog w H cenv ρ O s.heap)
  (hq:∀ v H' h' (tk:Tk),After prog w false cenv H ρ O s.heap H' ρ O h'→Rep prog w H' v r.1.toD→Q v { s with heap:=h',toks:=tk.1,drawn:=tk.2 }):wpAny (model prog w) A (m cenv) Q E s :=
 x.v A cenv H ρ O s r.1 r.2 Q E hi he hro hk hs fun v H' uu h' tk a rr=>hq v H' h' tk a.f rr
noncomputable def yF5 (et:Rho→Expr→Prc (Bool×Rho)) (it:Bool→Rho→Expr→Prc (List D×Rho)) (sc:Scope) (emit:Rho→Prc (List D)) (ρ':Rho):List Comprehension→Prc (List D)
 | []=>emit ρ'
 | ⟨t',i',f',a'⟩::rest'=>(it (zE7 t') ρ' i').bind fun q=>zM6 et it sc emit (⟨t',i',f',a'⟩::rest') q.1 ρ'
noncomputable def zi3 (et:Rho→Expr→Prc (Bool×Rho)) (it:Bool→Rho→Expr→Prc (List D×Rho)) (sc:Scope) (emit:Rho→Prc (List D)) (t:Expr) (ifs:List Expr) (rest:List Comprehension) (ρ:Rho) (d:D):Prc (List D) :=
 (zB5 (zB9 sc t d ρ)).bind fun ρ'=>(zS4 et ifs ρ').bind fun ok=>if ok then yF5 et it sc emit ρ' rest else .pure []
theorem zR5 {et:Rho→Expr→Prc (Bool×Rho)} {it:Bool→Rho→Expr→Prc (List D×Rho)} {sc:Scope} {emit:Rho→Prc (List D)} {t i:Expr} {ifs:List Expr} {a:Int} {rest:List Comprehension} {items:List D} {ρ:Rho} :
  zM6 et it sc emit (⟨t,i,ifs,a⟩::rest) items ρ=if zN7 sc t ρ=true then (zM0 (zi3 et it sc emit t ifs rest ρ) items).bind fun l=>.pure l.flatten else .fail:=by
 cases rest with
 | nil=>rfl
 | cons g r=>obtain ⟨t',i',f',a'⟩:=g;rfl
structure YW (fp:List Addr) (H:PH) (h:Heap) (H':PH) (h':Heap):Prop where
 ext:PLe H H'
 new:∀ a,H a=none→H' a≠none→h.get? a=none
 keep:∀ b o,h.get? b=some o→b ∉ fp→h'.get? b=some o
theorem After.newF {env:Env} (a:After prog w false env H ρ O h H' ρ' O h'):∀ b,H b=none→H' b≠none→h.get? b=none:=fun b q q' =>
 (a.go.new b q q').resolve_right fun ⟨x,e⟩=>q' (a.st.owns x b e).1
theorem zV1 {H1 H2:PH} {h0 h1:Heap} (x:∀ b,H b=none→H1 b≠none→h0.get? b=none) (y:∀ b,H1 b=none→H2 b≠none→h1.get? b=none) (lv:∀ b,h0.get? b≠none→h1.get? b≠none):∀ b,H b=none→H2 b≠none→h0.get? b=none:=fun b q q' =>
 (Classical.em (H1 b=none)).elim (fun e=>Classical.byContradiction fun z=>lv b z (y b e q')) (x b q)
noncomputable def CB (env:Env) (da:Addr):Addr→Prop:=fun b=>b=env.locals∨b=da
noncomputable def CB3 (env:Env) (da:Addr) (fp:List Addr):Addr→Prop:=fun b=>b=env.locals∨b=da∨b∈fp
theorem CB3.mem {env:Env} {da:Addr} {fp:List Addr} {b:Addr}:CB3 env da fp b→b∈env.locals::da::fp
 | .inl e=>e▸.head _
 | .inr (.inl e)=>e▸.tail _ (.head _)
 | .inr (.inr m)=>.tail _ (.tail _ m)
noncomputable def zl3 (da:Addr) (P:PH→Heap→Prop):Prop:=∀ (H H':PH) (h h':Heap),PLe H H'→(∀ o,h.get? da=some o→h'.get? da=some o)→P H h→P H' h'
theorem St.aside {env:Env} (x:St prog w H env ρ O h) {da:Addr} (p:zd7 env H O h da) (sb:Heap.SameBut da h h') (lv:h'.get? da≠none):St prog w H env ρ O h'∧Go (CB env da) H O h H O h':=by
 have keep6:∀ b o,h.get? b=some o→b ∉ [da]→h'.get? b=some o:=fun b o q hb=>(sb.2 b fun e=>hb (e▸.head _)).trans q
 have sub6:Sub H h':=fun b o q=>keep6 b o (x.sub _ _ q) fun hb=>nS ((List.mem_singleton.mp hb▸p.2.2.2.1:H b=none).symm.trans q)
 refine ⟨x.ygo (fp:=[da]) (fun b hm=>List.mem_singleton.mp hm▸⟨p.1,p.2.1,p.2.2.1⟩) (PLe.refl H) (fun a q q'=>absurd q q') keep6 sub6,
  PLe.refl H,fun a q q'=>absurd q q',fun b o q hb=>keep6 b o q fun hm=>hb (.inr (List.mem_singleton.mp hm)),fun b q=>?_,fun x a q=>.inl ⟨x,q⟩⟩
 by_cases e:b=da
 ·exact e▸lv
 ·exact sb.2 b e▸q
set_option genInjectivity false in
set_option genSizeOf false in
structure CX where
 A:Around
 t:Expr
 it:Value
 fp:List Addr
 env:Env
 ρ:Rho
 da:Addr
 H:PH
 O:zB1
 s:Shared
 H0:PH
 O0:zB1
 h0:Heap
noncomputable def CX.at (c:CX) (h:Heap) (tk:Tk):Shared:={ c.s with heap:=h,toks:=tk.1,drawn:=tk.2 }
structure CW (c:CX):Prop where
 fr:∀ b∈c.fp,c.h0.get? b=none
 pf:∀ b∈c.fp,zd7 c.env c.H c.O c.s.heap b∧b≠c.da
 pD:zd7 c.env c.H c.O c.s.heap c.da
structure CI (prog:Program) (w:World) (c:CX) (P:PH→Heap→Prop) (ds:List D) (H1:PH) (O1:zB1) (h1:Heap):Prop where
 g:Go (CB3 c.env c.da c.fp) c.H c.O c.s.heap H1 O1 h1
 gB:Go (CB c.env c.da) c.H0 c.O0 c.h0 H1 O1 h1
 nf:∀ b,c.H b=none→H1 b≠none→c.s.heap.get? b=none
 st:St prog w H1 c.env c.ρ O1 h1
 y:∃ Hit hit,zE6 prog w c.A c.t c.it c.fp ds Hit hit∧(∀ b∈c.fp,∀ o,hit.get? b=some o→h1.get? b=some o)∧PLe Hit H1
 acc:P H1 h1
noncomputable def z07 (prog:Program) (w:World) (c:CX) (P:PH→Heap→Prop) (RR:Shared→Prop):Prop :=
 ∀ H' O' h' (tk:Tk),Go (CB c.env c.da) c.H0 c.O0 c.h0 H' O' h'→YW (c.env.locals::c.da::c.fp) c.H c.s.heap H' h'→St prog w H' c.env c.ρ O' h'→P H' h'→RR (c.at h' tk)
structure CM (prog:Program) (w:World) (c:CX) (ρ2:Rho) (P:PH→Heap→Prop) (H2:PH) (O2:zB1) (h2:Heap) (H4:PH) (O4:zB1) (h4:Heap):Prop where
 go:Go (CB c.env c.da) H2 O2 h2 H4 O4 h4
 nf:∀ b,H2 b=none→H4 b≠none→h2.get? b=none
 st:St prog w H4 c.env ρ2 O4 h4
 acc:P H4 h4
section
variable {c:CX} {P P':PH→Heap→Prop} {ds:List D} {d:D} {H1 H2 H4 H5:PH} {O1 O2 O4:zB1} {h1 h2 h4 h5:Heap} {ρ2:Rho} {tk:Tk} {Qn:Shared→Prop} {Qs E:Value→Shared→Prop}
theorem CI.pf (i:CI prog w c P ds H1 O1 h1) (cw:CW c) {b:Addr} (hm:b∈c.fp):zd7 c.env H1 O1 h1 b:=(cw.pf b hm).1.go i.g
theorem CI.pD (i:CI prog w c P ds H1 O1 h1) (cw:CW c):zd7 c.env H1 O1 h1 c.da:=cw.pD.go i.g
theorem CI.apart (i:CI prog w c P ds H1 O1 h1) (cw:CW c):∀ b∈c.fp,b≠c.env.locals∧(∀ y,c.env.cells.lookup y≠some b)∧∀ y,O1 y≠some b:=fun b hm=>⟨(i.pf cw hm).1,(i.pf cw hm).2.1,(i.pf cw hm).2.2.1⟩
theorem CI.last (i:CI prog w c P [] H1 O1 h1) (cw:CW c) (mono:zl3 c.da P) (hq:z07 prog w c P Qn):zU8 prog w c.A c.t c.it (c.at h1 tk) Qn Qs E:=by
 refine xe i.y fun Hit Y0=>?_;refine xe Y0 fun hit Y1=>?_;have y:=Y1.1;have f1:=Y1.2.1;have f2:=Y1.2.2;try clear Y0 Y1
 refine y (c.at h1 tk) H1 _ _ _ f1 f2 i.st.sub (fun b hm=>(i.pf cw hm).2.2.2.1) fun h2 t2 hk2=>?_
 have no:=fun a (q:H1 a=none) (q':H1 a≠none)=>(absurd q q':h1.get? a=none)
 exact hq H1 O1 h2 (t2,tk.2) (i.gB.ygo cw.fr (PLe.refl H1) no hk2)
  ⟨i.g.ext,i.nf,fun b o q hb=>hk2 b o (i.g.keep b o q fun hc=>hb hc.mem) fun m=>hb (.tail _ (.tail _ m))⟩
  (i.st.ygo (i.apart cw) (PLe.refl H1) no hk2 fun a o q=>hk2 a o (i.st.sub _ _ q) fun hm=>nS ((i.pf cw hm).2.2.2.1.symm.trans q))
  (mono _ _ _ _ (PLe.refl H1) (fun o q=>hk2 _ o q fun hm=>(cw.pf _ hm).2 rfl) i.acc)
theorem CI.draw (i:CI prog w c P (d::ds) H1 O1 h1) (cw:CW c) (mono:zl3 c.da P) (q:∀ v H2 h2 (t2:Tk),CI prog w c P ds H2 O1 h2→zE6 prog w c.A c.t c.it c.fp ds H2 h2→Rep prog w H2 v d→Qs v (c.at h2 t2)):zU8 prog w c.A c.t c.it (c.at h1 tk) Qn Qs E:=by
 refine xe i.y fun Hit Y0=>?_;refine xe Y0 fun hit Y1=>?_;have y:=Y1.1;have f1:=Y1.2.1;have f2:=Y1.2.2;try clear Y0 Y1
 refine y (c.at h1 tk) H1 _ _ _ f1 f2 i.st.sub (fun b hm=>(i.pf cw hm).2.2.2.1) fun v H2 h2 t2 yg rv hy2=>q v H2 h2 (t2,tk.2) ?_ hy2 rv
 exact ⟨i.g.t (yg.go fun b hm=>.inr (.inr hm)),i.gB.ygo cw.fr yg.ext yg.new yg.keep,zV1 i.nf yg.new i.g.live,i.st.ygo (i.apart cw) yg.ext yg.new yg.keep yg.sub,⟨H2,h2,hy2,fun uu uu uu e=>e,PLe.refl H2⟩,
  mono _ _ _ _ yg.ext (fun o q=>yg.keep _ o q fun hm=>(cw.pf _ hm).2 rfl) i.acc⟩
theorem CI.bound (i:CI prog w c P ds H2 O2 h2) (cw:CW c) (mono:zl3 c.da P) (kl:∀ b o,h2.get? b=some o→b≠c.env.locals→h4.get? b=some o) (a:AfterS prog w c.env H2 c.ρ O2 h2 H2 ρ2 O4 h4):CM prog w c ρ2 P H2 O2 h2 H2 O4 h4 :=
 ⟨a.goL kl (.inl rfl),fun b q q'=>absurd q q',a.st,mono _ _ _ _ (PLe.refl _) (fun o q=>kl _ o q (i.pD cw).1) i.acc⟩
theorem CM.after (m:CM prog w c ρ2 P H2 O2 h2 H4 O4 h4) (mono:zl3 c.da P) (a:After prog w false c.env H4 ρ2 O4 h4 H5 ρ2 O4 h5):CM prog w c ρ2 P H2 O2 h2 H5 O4 h5 :=
 ⟨m.go.t a.goF,zV1 m.nf a.newF m.go.live,a.st,mono _ _ _ _ a.go.ext (fun o q=>a.go.keep _ o q fun hb=>nomatch hb.1) m.acc⟩
theorem CM.aside (m:CM prog w c ρ2 P H2 O2 h2 H4 O4 h4) (p:zd7 c.env H2 O2 h2 c.da) (sb:Heap.SameBut c.da h4 h5) (lv:h5.get? c.da≠none) (acc:P' H4 h5):CM prog w c ρ2 P' H2 O2 h2 H4 O4 h5 :=
 let x:=m.st.aside (p.go m.go) sb lv
 ⟨m.go.t x.2,m.nf,x.1,acc⟩
theorem CI.fin (i:CI prog w c P ds H2 O2 h2) (cw:CW c) (hy:zE6 prog w c.A c.t c.it c.fp ds H2 h2) (m:CM prog w c ρ2 P' H2 O2 h2 H4 O4 h4) (hr:∀ y e,c.ρ.lookup y=some e→ρ2.lookup y=some e):CI prog w c P' ds H4 O4 h4 :=
 ⟨i.g.t (m.go.weaken fun b hb=>hb.elim .inl fun h=>.inr (.inl h)),i.gB.t m.go,zV1 i.nf m.nf i.g.live,m.st.restrict hr,
  ⟨H2,h2,hy,fun b hm o q=>m.go.keep b o q fun hc=>hc.elim (i.pf cw hm).1 (cw.pf b hm).2,m.go.ext⟩,m.acc⟩
inductive CL (prog:Program) (w:World) (call:zB3) (c:CX) {β:Type} (P:β→PH→Heap→Prop) (f:D→Prc (List D)) (T:β→List (List D)→Prop):Nat→Shared→Prop
 | mk (ds:List D) (ls:List (List D)) (acc:β) (H1:PH) (O1:zB1) (h1:Heap) (tk:Tk) (i:CI prog w c (P acc) ds H1 O1 h1) (hb:zA1 call (zM0 f ds)=some ls) (ht:T acc ls):CL prog w call c P f T ds.length (c.at h1 tk)
variable {β:Type} {Pb:β→PH→Heap→Prop} {f:D→Prc (List D)} {T:β→List (List D)→Prop} {n:Nat} {s':Shared} {b0:β} {ls:List (List D)}
theorem CL.turn (x:CL prog w call c Pb f T n s') (cw:CW c) (mono:∀ acc,zl3 c.da (Pb acc)) (hend:∀ acc,T acc []→z07 prog w c (Pb acc) Qn)
  (hgo:∀ d ds b bs acc H2 O2 h2 (t2:Tk) v,zA1 call (f d)=some b→zA1 call (zM0 f ds)=some bs→T acc (b::bs)→CI prog w c (Pb acc) ds H2 O2 h2→zE6 prog w c.A c.t c.it c.fp ds H2 h2→Rep prog w H2 v d→n=ds.length+1→Qs v (c.at h2 t2)) :
  zU8 prog w c.A c.t c.it s' Qn Qs E:=by
 cases x with
 | mk ds ls acc H1 O1 h1 tk i hb ht =>
  cases ds with
  | nil=>cases hb;exact i.last cw (mono acc) (hend acc ht)
  | cons d ds=>exact i.draw cw (mono acc) fun v H2 h2 t2 i2 y2 rv=>z67 hb fun b bs e1 e2 e3=>hgo d ds b bs acc H2 O1 h2 t2 v e1 e2 (e3▸ht) i2 y2 rv rfl
theorem CL.again (i:CI prog w c P ds H2 O2 h2) (cw:CW c) (hy:zE6 prog w c.A c.t c.it c.fp ds H2 h2) (m:CM prog w c ρ2 (Pb b0) H2 O2 h2 H4 O4 h4) (hr:∀ y e,c.ρ.lookup y=some e→ρ2.lookup y=some e) (hb:zA1 call (zM0 f ds)=some ls) (ht:T b0 ls) (hn:n=ds.length+1) :
  ∃ m,m < n∧CL prog w call c Pb f T m (c.at h4 tk) :=
 ⟨ds.length,hn▸Nat.lt_succ_self _,.mk ds ls b0 H4 O4 h4 tk (i.fin cw hy m hr) hb ht⟩
end
noncomputable def zY9 (prog:Program) (w:World) (da:Addr) (acc:List D):PH→Heap→Prop:=fun H h=>zE1 prog w H h da acc
theorem zY9.mono {da:Addr} (acc:List D):zl3 da (zY9 prog w da acc):=fun uu uu uu uu hk hh x=>zE1.keeps x hk hh
theorem yc0 {fe:Rho→Expr→Prc (R×Rho)} (hF:∀ e,Sim prog w KH call k false csc (eval e) (fun ρ=>fe ρ e)) {c:CX} (he:EnvOK c.env csc) (hro:Room c.A k) {elt:Expr} {acc b:List D} {H2 H4:PH} {O2 O4:zB1} {h2 h4:Heap} {ρ2:Rho} {t4:Tk} {Q:Shared→Prop} {E:Value→Shared→Prop} (hk:PLe KH H4)
  (m:CM prog w c ρ2 (zY9 prog w c.da acc) H2 O2 h2 H4 O4 h4) (p:zd7 c.env H2 O2 h2 c.da) (e:zA1 call ((fe ρ2 elt).bind fun r=>.pure [r.1.toD])=some b) (hl:acc.length+b.length≤8000000)
  (q:∀ H5 h6 (t5:Tk),CM prog w c ρ2 (zY9 prog w c.da (acc++b)) H2 O2 h2 H5 O4 h6→Q (c.at h6 t5)) :
  wpAny (model prog w) c.A (eval elt c.env) (fun x s1=>wpAny (model prog w) c.A (PySem.call (.builtin "list.append") [.ref c.da,x]) (fun uu s2=>Q s2) E s1) E (c.at h4 t4):=by
 refine ibk e fun r e1 e2=>?_
 obtain rfl:=Option.some.inj e2
 refine (hF elt).f e1 he hro hk (s:=c.at h4 t4) m.st fun v5 H5 h5 t5 a5 r5=>?_
 have m5:=m.after (zY9.mono acc) a5
 refine xe m5.acc fun vs Y0=>?_;have pl:=Y0.1;have hr:=Y0.2;try clear Y0
 have hvs:vs.size=acc.length:=hr.length
 refine wpAny_list_append_plain (s:=c.at h5 t5) pl (fun h6 pl6 sb6=>q H5 h6 t5 (m5.aside p sb6 (let ⟨_,z⟩:=pl6;zB4 z) ⟨vs.push v5,pl6,?_⟩)) (hvs▸Nat.le_trans (Nat.le_add_right _ _) (Nat.le_trans hl (by unfold sizeLine;decide)))
 rw[Array.toList_push]
 exact hr.append (.cons r5 .nil)
theorem yN1 {ft:Rho→Expr→Prc (Bool×Rho)} (hT:∀ e,zR4 prog w KH call k false csc (fun env=>isTrue e env (eval e env)) (fun ρ=>ft ρ e)) {c:CX} (cw:CW c) (he:EnvOK c.env csc) (hro:Room c.A k) {P:PH→Heap→Prop} (mono:zl3 c.da P) {ds:List D} {d:D} {v:Value} {ifs:List Expr} {ok:Bool} {H2:PH} {O2:zB1} {h2:Heap} {ρ2:Rho} {t2:Tk} {Q:Bool→Shared→Prop} {E:Value→Shared→Prop} (hk:PLe KH c.H)
  (i:CI prog w c P ds H2 O2 h2) (rv:Rep prog w H2 v d) (hfresh:zN7 csc c.t c.ρ=true) (ha:zB9 csc c.t d c.ρ=some ρ2) (ht:zA1 call (zS4 ft ifs ρ2)=some ok)
  (q:∀ H4 O4 h4 (t4:Tk),PLe KH H4→CM prog w c ρ2 P H2 O2 h2 H4 O4 h4→Q ok (c.at h4 t4)) :
  wpAny (model prog w) c.A (assign c.t c.env v) (fun uu s₂=>wpAny (model prog w) c.A (forIn ifs true fun c' r=>if r=true then do let ok ← isTrue c' c.env (eval c' c.env);pure (ForInStep.yield ok) else pure (ForInStep.yield r)) Q E s₂) E (c.at h2 t2):=by
 refine zN2 he c.t d c.ρ ρ2 ha c.A H2 O2 (c.at h2 t2) v _ _ hro.hh i.st rv fun O3 h3 t3 kl a3=>?_
 have m3:=i.bound cw mono (kl (zl1 he hfresh)) a3
 have hk2:PLe KH H2:=hk.trans i.g.ext
 exact z06 hT ifs c.A H2 (c.at h3 (t3,t2.2)) ok _ _ ht he hro hk2 m3.st fun H4 h4 t4 a4=>q H4 O3 h4 t4 (hk2.trans a4.go.ext) (m3.after mono a4)
theorem za4 {gens:List Comprehension} (h:zI9 gens=true) {n:Nat} {g:Comprehension} (hg:gens[n]?=some g):g.is_async=0∧¬ zo6 g.iter=true:=by
 have e:=Bool.and_eq_true_iff.mp (List.all_eq_true.mp h g (List.mem_of_getElem? hg))
 exact ⟨eq_of_beq e.1,fun z=>by rw[z] at e;exact Bool.noConfusion e.2⟩
theorem z68 {α:Type} {l tl:List α} {j:Nat} {g:α} (h:l.drop j=g::tl):l[j]?=some g∧l.drop (j+1)=tl :=
 ⟨(List.getElem?_drop (xs:=l) (i:=j) (j:=0)).symm.trans (h▸rfl),(List.drop_drop (l:=l) (i:=1) (j:=j)).symm.trans (h▸rfl)⟩
theorem y02 {acc acc0 b:List D} {bs ls:List (List D)} {N:Nat} (h:acc++(b::bs).flatten=acc0++ls.flatten) (hl:acc0.length+ls.flatten.length≤N):acc.length+b.length≤N:=by
 rw[← List.length_append,← h,List.flatten_cons,← List.append_assoc,List.length_append,List.length_append] at hl
 exact Nat.le_trans (Nat.le_add_right _ _) hl
theorem yN2 {env:Env} {b:Addr} (st:St prog w H env ρ O h) (k1:h.get? b=none) (k2:H' b=none) (k3:h'.get? b≠none):zd7 env H' O h' b :=
 ⟨fun e=>(let ⟨_,z⟩:=st.ns;Heap.Ns.live z (e▸k1)),fun y e=>(let ⟨_,_,_,z⟩:=st.cells y b e;zE8 z k1),fun y e=>(st.owns y b e).2.2.2 k1,k2,k3⟩
theorem yN3 {A:Around} {elt:Expr} {gens:List Comprehension} {pos:Pos} {j:Nat} {acc:Value} {env:Env} {P:Shared→Prop} {E:Value→Shared→Prop} {s:Shared} (h:gens[j+1]?=none)
  (x:wpAny (model prog w) A (eval elt env) (fun x s₁=>wpAny (model prog w) A (PySem.call (.builtin "list.append") [acc,x]) (fun uu s₂=>P s₂) E s₁) E s):zq7 prog w A elt gens csc pos j acc env P E s:=by
 unfold zq7;rw[h];exact x
theorem yN4 {A:Around} {elt:Expr} {gens:List Comprehension} {pos:Pos} {j:Nat} {acc:Value} {env:Env} {P:Shared→Prop} {E:Value→Shared→Prop} {s:Shared} {g':Comprehension} (h:gens[j+1]?=some g')
  (x:wpAny (model prog w) A (eval g'.iter env) (fun x s₁=>wpAny (model prog w) A (pyIter x) (fun it' s₂=>codeAny (model prog w) A (.compStart (.ListComp elt gens csc pos) (j+1) it' acc env) (fun r s'=>match r with | .ok _=>P s' | .error e=>cameBackBy (model prog w) A env E e s') s₂) E s₁) E s):zq7 prog w A elt gens csc pos j acc env P E s:=by
 unfold zq7;rw[h];exact x
section
variable {fe:Rho→Expr→Prc (R×Rho)} {ft:Rho→Expr→Prc (Bool×Rho)} {itf:Bool→Rho→Expr→Prc (List D×Rho)} {em:Rho→Prc (List D)} {elt:Expr} {gens:List Comprehension} {pos:Pos}
theorem zr0 (hT:∀ e,zR4 prog w KH call k false csc (fun env=>isTrue e env (eval e env)) (fun ρ=>ft ρ e)) (hsync:zI9 gens=true) {tl:List Comprehension} {j:Nat} {i:Expr} {ifs:List Expr} {c:CX} {items out acc0:List D} {RR:Result→Shared→Prop} (hgj:gens[j]?=some ⟨c.t,i,ifs,0⟩) (he:EnvOK c.env csc) (hro:Room c.A k)
  (hi:zA1 call (zM6 ft itf csc em (⟨c.t,i,ifs,0⟩::tl) items c.ρ)=some out) (hk:PLe KH c.H) (cw:CW c) (ci:CI prog w c (zY9 prog w c.da acc0) items c.H c.O c.s.heap) (hlen:acc0.length+out.length≤8000000) (hq:z07 prog w c (zY9 prog w c.da (acc0++out)) (RR (.ok .next)))
  (hw:∀ (acc b:List D) (H2:PH) (O2:zB1) (h2:Heap) (H4:PH) (O4:zB1) (h4:Heap) (t4:Tk) (ρ2:Rho) (Q:Shared→Prop) (E:Value→Shared→Prop),PLe KH H4→zd7 c.env H2 O2 h2 c.da→CM prog w c ρ2 (zY9 prog w c.da acc) H2 O2 h2 H4 O4 h4→zA1 call (yF5 ft itf csc em ρ2 tl)=some b→acc.length+b.length≤8000000 →
   (∀ H6 O6 h6 t6,CM prog w c ρ2 (zY9 prog w c.da (acc++b)) H2 O2 h2 H6 O6 h6→Q (c.at h6 t6))→zq7 prog w c.A elt gens csc pos j (.ref c.da) c.env Q E (c.at h4 t4)) :
  codeAny (model prog w) c.A (.compLoop (.ListComp elt gens csc pos) j c.it (.ref c.da) c.env) RR c.s:=by
 rw[zR5] at hi
 refine iTk hi fun hfresh hi=>ibk hi fun ls hb0 hi=>?_
 obtain rfl:=Option.some.inj hi
 refine zw5 hgj (fun g' hg'=>za4 hsync hg') (CL prog w call c (zY9 prog w c.da) (zi3 ft itf csc em c.t ifs tl c.ρ) (fun acc l=>acc++l.flatten=acc0++ls.flatten)) (fun n s' x=>?_) items.length (.mk items ls acc0 c.H c.O c.s.heap (c.s.toks,c.s.drawn) ci hb0 rfl)
 refine x.turn cw zY9.mono (fun acc e=>((List.append_nil acc).symm.trans e:acc=_)▸hq) fun d ds b bs acc H2 O2 h2 t2 v e1 e2 ht i2 y2 rv hn=>?_
 refine ibk e1 fun ρ2 g4 g5=>ibk g5 fun ok g6 g7=>?_
 refine yN1 hT cw he hro (zY9.mono acc) hk i2 rv hfresh (io g4) g6 fun H4 O4 h4 t4 hk4 m4=>?_
 have again:=fun H6 O6 h6 t6 (m:CM prog w c ρ2 (zY9 prog w c.da (acc++b)) H2 O2 h2 H6 O6 h6)=>CL.again (tk:=t6) (T:=fun acc l=>acc++l.flatten=acc0++ls.flatten) i2 cw y2 m (z05 hfresh (io g4)) e2 ((List.append_assoc acc b _).trans ht) hn
 cases ok with
 | false =>
  obtain rfl:=Option.some.inj g7
  exact again H4 O4 h4 t4 ((List.append_nil acc).symm▸m4)
 | true=>exact hw acc b H2 O2 h2 H4 O4 h4 t4 ρ2 _ _ hk4 (i2.pD cw) m4 g7 (y02 ht hlen) again
theorem yc1 (kok:KOK G K KH) (hF:∀ e,Sim prog w KH call k false csc (eval e) (fun ρ=>fe ρ e))
  (hT:∀ e,zR4 prog w KH call k false csc (fun env=>isTrue e env (eval e env)) (fun ρ=>ft ρ e)) (hsync:zI9 gens=true) :
  ∀ (tl:List Comprehension) (j:Nat) (i:Expr) (ifs:List Expr) (a:Int) (c:CX) (items out acc0:List D) (RR:Result→Shared→Prop),gens.drop j=⟨c.t,i,ifs,a⟩::tl→EnvOK c.env csc→Room c.A k →
   zA1 call (zM6 ft (fun tp ρ' i'=>zC0 G fe csc tp ρ' i') csc (fun ρ'=>(fe ρ' elt).bind fun r=>.pure [r.1.toD]) (⟨c.t,i,ifs,a⟩::tl) items c.ρ)=some out →
   PLe KH c.H→CW c→CI prog w c (zY9 prog w c.da acc0) items c.H c.O c.s.heap→acc0.length+out.length≤8000000→z07 prog w c (zY9 prog w c.da (acc0++out)) (RR (.ok .next)) →
   codeAny (model prog w) c.A (.compLoop (.ListComp elt gens csc pos) j c.it (.ref c.da) c.env) RR c.s:=by
 intro tl
 induction tl with
 | nil =>
  intro j i ifs a c items out acc0 RR hd he hro hi hk cw ci hlen hq
  have Y0:=z68 hd;have hgj:=Y0.1;have hdrop:=Y0.2;try clear Y0
  obtain rfl:a=0:=(za4 hsync hgj).1
  refine zr0 hT hsync hgj he hro hi hk cw ci hlen hq fun acc b H2 O2 h2 H4 O4 h4 t4 ρ2 Q E hk4 p m4 e hl hQ=>yN3 (List.getElem?_eq_none (List.drop_eq_nil_iff.mp hdrop)) (yc0 hF he hro hk4 m4 p e hl fun H5 h6 t5 m=>hQ H5 O4 h6 t5 m)
 | cons g tl ih =>
  intro j i ifs a c items out acc0 RR hd he hro hi hk cw ci hlen hq
  have Y0:=z68 hd;have hgj:=Y0.1;have hdrop:=Y0.2;try clear Y0
  obtain rfl:a=0:=(za4 hsync hgj).1
  refine zr0 hT hsync hgj he hro hi hk cw ci hlen hq fun acc b H2 O2 h2 H4 O4 h4 t4 ρ2 Q E hk4 p m4 e hl hQ=>?_
  clear hi ci hq
  obtain ⟨t',i',f',a'⟩:=g
  have hg1:=(z68 hdrop).1
  obtain rfl:a'=0:=(za4 hsync hg1).1
  refine yN4 hg1 (ibk e fun q e1 e2=>zq6 kok hF e1 he hro hk4 (s:=c.at h4 t4) m4.st fun it' fp' H5 O5 h5 t5 a5 hy5 self5 hfp5=>?_)
  have m5:=m4.after (zY9.mono acc) a5.f
  refine (fun x=>zY8 hg1 x (self5 (c.at h5 t5) _ _ (fun uu uu uu q=>q) x)) ?_
  exact ih (j+1) i' f' 0 ⟨c.A,t',it',fp',c.env,ρ2,c.da,H5,O4,c.at h5 t5,H2,O2,h2⟩ q.1 b acc _ hdrop he hro e2 (hk4.trans a5.go.ext)
   ⟨fun b hm=>Classical.byContradiction fun z=>m4.go.live b z (hfp5 b hm).1,fun b hm=>⟨yN2 m4.st (hfp5 b hm).1 (hfp5 b hm).2.1 (hfp5 b hm).2.2,fun e=>(p.go m4.go).2.2.2.2 (e▸(hfp5 b hm).1)⟩,p.go m5.go⟩
   ⟨Go.refl,m5.go,fun b q q'=>absurd q q',m5.st,⟨H5,h5,hy5,fun uu uu uu e=>e,PLe.refl H5⟩,m5.acc⟩ hl fun H6 O6 h6 t6 go6 y6 st6 acc6=>hQ H6 O6 h6 t6 ⟨go6,zV1 m5.nf y6.new m5.go.live,st6,acc6⟩
end
end
end Mine
namespace Mine
open PySem PySem.W PyProof.Rows PySem.Calls PySem.Builtin
section
variable {prog:Program} {w:World} {H:PH} {h:Heap} {A:Around} {E:Value→Shared→Prop} {s:Shared}
theorem yc2 {xs:List (Str×Value)} {x s:Str} {u v:Value} (h:x≠s):PySem.stored ((x,u)::xs) s v=(x,u)::PySem.stored xs s v:=by
 unfold PySem.stored
 rw[List.any_cons,decide_eq_false h,Bool.false_or,List.map_cons,if_neg h]
 exact (apply_ite (fun l=>(x,u)::l) _ _ _).symm
theorem yn5 {xs:List (Str×Value)} {s:Str} {v:Value} (h:s ∉ xs.map (·.1)):xs.map (fun kv=>if kv.1=s then (kv.1,v) else kv)=xs :=
 (List.map_congr_left fun kv hm=>if_neg (show ¬ kv.1=s from fun e=>h (e▸List.mem_map_of_mem hm))).trans (List.map_id _)
theorem yc3 {xs:List (Str×Value)} {s:Str} {u v:Value} (h:s ∉ xs.map (·.1)):PySem.stored ((s,u)::xs) s v=(s,v)::xs:=by
 unfold PySem.stored
 rw[List.any_cons,decide_eq_true rfl,Bool.true_or,if_pos rfl,List.map_cons,if_pos rfl]
 exact congrArg _ (yn5 h)
theorem Twin.stored {xs:List (Str×Value)} {kvs kvs':List (D×D)} {s:Str} {v:Value} {d:D} (r:Twin prog w H xs kvs) (hn:(xs.map (·.1)).Nodup) (h:zI8 kvs s d=some kvs') (rv:Rep prog w H v d):Twin prog w H (PySem.stored xs s v) kvs':=by
 induction r generalizing kvs' with
 | nil=>simp only[zI8] at h;cases h;exact .cons rv .nil
 | @cons x u e xs kvs h1 h2 ih =>
  rw[List.map_cons,List.nodup_cons] at hn
  simp only[zI8,zD1,Option.bind_some,Option.bind_eq_some_iff] at h
  obtain ⟨r',e1,e2⟩:=h
  by_cases q:x=s
  ·subst q
   rw[if_pos rfl,Option.bind_eq_some_iff] at e2
   obtain ⟨_,_,e2⟩:=e2
   cases e2
   rw[yc3 hn.1]
   exact .cons rv h2
  ·rw[if_neg q] at e2
   cases e2
   rw[yc2 q]
   exact .cons h1 (ih hn.2 e1)
theorem zd8 {kvs:List (D×D)} {k v:D} {k' s:Str} {o:Option D} (h1:zD1 k=some k') (h3:zE0 kvs s=some o):zE0 ((k,v)::kvs) s=if k'=s then some (some v) else some o:=by
 show (zD1 k).bind _=_
 rw[h1,Option.bind_some,h3];rfl
theorem zg2:∀ {kvs kvs':List (D×D)} {s:Str} {d:D},zI8 kvs s d=some kvs'→∃ o,zE0 kvs s=some o
 | [],_,_,_,_=>⟨_,rfl⟩
 | (_,_)::_,_,s,_,h=>obk h fun k' h1 h=>obk h fun r' h2 uu=>(zg2 h2).elim fun o h3=>(Classical.em (k'=s)).elim (fun e=>⟨_,(zd8 h1 h3).trans (if_pos e)⟩) fun e=>⟨_,(zd8 h1 h3).trans (if_neg e)⟩
theorem z08 {x:Addr} {xs:List (Str×Value)} {kvs:List (D×D)} (hm:(x == sysModules)=false) (hd:h.DictOf (PySem.strKind prog w) x xs) (tw:Twin prog w H xs kvs):DictAt prog w H h x kvs:=by
 refine xe hd fun Y0 Y1=>?_;obtain ⟨c,dd,dt,sl⟩:=Y0;refine xe Y1 fun es Y2=>?_;refine xe Y2 fun ep Y3=>?_;have ho:=Y3.1;have hx:=Y3.2.1;have hdat:=Y3.2.2.1;have hk:=Y3.2.2.2.1;have hp:=Y3.2.2.2.2.1;have hn:=Y3.2.2.2.2.2;try clear hd;try clear Y1 Y2 Y3
 have x1:=hx.1;have x2:=hx.2.1;have x3:=hx.2.2;try clear hx
 simp only at x1 x2 x3 hdat
 subst x1 x2 x3 hdat
 refine ⟨es,ep,ho,tw.repE hp (fun e he=>hk e (by simpa using he)),⟨?_,?_⟩,hm⟩
 ·rw[tw.keys.1];exact hn
 ·rw[tw.keys.2];exact List.nodup_nil
theorem yF6 {x:Addr} {xs:List (Str×Value)} (hd:h.DictOf (PySem.strKind prog w) x xs):(xs.map (·.1)).Nodup:=by refine xe hd fun uu Y0=>?_;refine xe Y0 fun uu Y1=>?_;refine xe Y1 fun uu Y2=>?_;have hn:=Y2.2.2.2.2.2;try clear hd;try clear Y0 Y1 Y2;exact hn
theorem yN5 {x:Addr} {kvs kvs':List (D×D)} {k:Str} {t:Tok} {v:Value} {d:D} {Q:Unit→Shared→Prop} (hd:DictAt prog w H s.heap x kvs) (hst:zI8 kvs k d=some kvs') (hsz:kvs.length≤8000000) (rv:Rep prog w H v d)
  (hq:∀ h' tk,DictAt prog w H h' x kvs'→Heap.SameBut x s.heap h'→Q () { s with heap:=h',toks:=tk }):wpAny (model prog w) A (setItem (.ref x) (.str k t) v) Q E s∧wpAny (model prog w) A (dictSet x (.str k t) v) Q E s:=by
 refine xe (zg2 hst) fun o hl=>?_
 refine xe (hd.dictOf hl) fun xs Y0=>?_;refine xe Y0 fun n Y1=>?_;have hD:=Y1.1;have tw:=Y1.2;try clear Y0 Y1
 have hD:=yE3 hD
 have hm:(x == sysModules)=false:=by refine xe hd fun uu Y0=>?_;refine xe Y0 fun uu Y1=>?_;have hm:=Y1.2.2.2;try clear hd;try clear Y0 Y1;exact hm
 have len:xs.length≤sizeLine:=by rw[tw.length];unfold sizeLine;omega
 have tw':=tw.stored (yF6 hD) hst rv
 exact ⟨wpAny_setItem_pairs (hsz:=len) (by simp[PySem.strKind,Value.isStrOf]) hD fun h' h1 h2=>hq h' _ (z08 hm h1 tw') h2,
  wpAny_dictSet_pairs (hsz:=len) (by simp[PySem.strKind,Value.isStrOf]) hD fun h' h1 h2=>hq h' _ (z08 hm h1 tw') h2⟩
theorem yN6 {xs:List (List Int×Addr×Value)} {x s:List Int} {b a:Addr} {u v:Value} (h:x≠s):PySem.storedH ((x,b,u)::xs) s a v=(x,b,u)::PySem.storedH xs s a v:=by
 have e2:atKey ((x,b,u)::xs) s=atKey xs s:=by simp[atKey,h]
 unfold PySem.storedH
 rw[e2]
 by_cases q:(atKey xs s).isSome=true
 ·rw[if_pos q,if_pos q,List.map_cons];simp[PySem.putAt,h]
 ·rw[if_neg q,if_neg q];rfl
theorem yN7 {xs:List (List Int×Addr×Value)} {s:List Int} {b a:Addr} {u v:Value} (h:s ∉ xs.map (·.1)):PySem.storedH ((s,b,u)::xs) s a v=(s,b,v)::xs:=by
 unfold PySem.storedH
 rw[if_pos (by simp[atKey]),List.map_cons,map_putAt_of_not_mem xs s v h]
 simp[PySem.putAt]
theorem Trip.stored {xs:List (List Int×Addr×Value)} {kvs kvs':List (D×D)} {s:List Int} {a:Addr} {v:Value} {d:D} (r:Trip prog w H xs kvs) (hn:(xs.map (·.1)).Nodup) (h:zQ3 kvs s d=some kvs') (ra:Rep prog w H (.ref a) (.tup (s.map .int))) (rv:Rep prog w H v d) :
  Trip prog w H (PySem.storedH xs s a v) kvs':=by
 induction r generalizing kvs' with
 | nil=>simp only[zQ3] at h;cases h;exact .cons ra rv .nil
 | @cons x b u e xs kvs h1 h2 h3 ih =>
  rw[List.map_cons,List.nodup_cons] at hn
  simp only[zQ3,zN4,zR3,Option.bind_some,Option.bind_eq_some_iff] at h
  obtain ⟨r',e1,e2⟩:=h
  by_cases q:x=s
  ·subst q
   rw[if_pos rfl,Option.bind_eq_some_iff] at e2
   obtain ⟨_,_,e2⟩:=e2
   cases e2
   rw[yN7 hn.1]
   exact .cons h1 rv h3
  ·rw[if_neg q] at e2
   cases e2
   rw[yN6 q]
   exact .cons h1 h2 (ih hn.2 e1)
theorem zr1 {kvs:List (D×D)} {k v:D} {k' s:List Int} {o:Option D} (h1:zN4 k=some k') (h3:zJ3 kvs s=some o):zJ3 ((k,v)::kvs) s=if k'=s then some (some v) else some o:=by
 show (zN4 k).bind _=_
 rw[h1,Option.bind_some,h3];rfl
theorem zg3:∀ {kvs kvs':List (D×D)} {s:List Int} {d:D},zQ3 kvs s d=some kvs'→∃ o,zJ3 kvs s=some o
 | [],_,_,_,_=>⟨_,rfl⟩
 | (_,_)::_,_,s,_,h=>obk h fun k' h1 h=>obk h fun r' h2 uu=>(zg3 h2).elim fun o h3=>(Classical.em (k'=s)).elim (fun e=>⟨_,(zr1 h1 h3).trans (if_pos e)⟩) fun e=>⟨_,(zr1 h1 h3).trans (if_neg e)⟩
theorem Trip.length {xs:List (List Int×Addr×Value)} {kvs:List (D×D)} (r:Trip prog w H xs kvs):xs.length=kvs.length:=by
 induction r with
 | nil=>rfl
 | cons _ _ _ ih=>simp[ih]
theorem xF3 {x:Addr} {kvs kvs':List (D×D)} {ds:List D} {b v:Value} {d:D} {Q:Unit→Shared→Prop} (hS:Sub H s.heap) (hu:A.units+1 < cLine) (hd:DictAt prog w H s.heap x kvs) (rb:Rep prog w H b (.tup ds)) (hst:zD5 kvs ds d=some kvs') (hsz:kvs.length≤8000000) (rv:Rep prog w H v d)
  (hx:H x=none) (hq:∀ h' tk,DictAt prog w H h' x kvs'→Heap.SameBut x s.heap h'→Q () { s with heap:=h',toks:=tk }):wpAny (model prog w) A (setItem (.ref x) b v) Q E s:=by
 obtain ⟨y,rfl⟩:=rb.tup_ref
 unfold zD5 at hst
 rw[Option.bind_eq_some_iff] at hst
 obtain ⟨is,hi,hst⟩:=hst
 have:=zd4 hi;subst this
 obtain ⟨o,ho⟩:=zg3 hst
 have hm:(x == sysModules)=false:=by obtain ⟨_,_,_,_,_,hm⟩:=hd;exact hm
 obtain ⟨xs,hD,ht⟩:=hd.dictOfH hS ho
 have hn:(xs.map (·.1)).Nodup:=by obtain ⟨_,_,_,_,_,_,_,_,hn⟩:=hD;exact hn
 refine wpAny_setItem_heap (knd:=tupleKind (intKind prog w)) (hsz:=by rw[ht.length];unfold sizeLine;omega) (by show A.in1.units < cLine;show A.units+1 < cLine;omega) (zX9 hS rb) hD fun h' hD' sb=>hq h' _ ?_ sb
 have tr:=ht.stored hn hst rb rv
 obtain ⟨⟨c,dd,dt,sl⟩,es,ep,ho',hx',hdat,he,his,hn'⟩:=hD'
 obtain ⟨x1,x2,x3⟩:=hx'
 simp only at x1 x2 x3 hdat
 subst x1 x2 x3 hdat
 refine ⟨es,ep,ho',by rw[he];exact tr.repE,⟨?_,?_⟩,hm⟩
 ·rw[tr.keys.2];exact List.nodup_nil
 ·rw[tr.keys.1];exact hn'
theorem zl4:∀ {es:List (D×D)} {x:Str} {d:D},zE0 es x=some none→zI8 es x d=some (es++[(.str x,d)])
 | [],_,_,_=>rfl
 | (k,v)::es,x,d,h=>obk h fun k' h1 h=>obk h fun o h2 h=>by
  have hne:¬ k'=x:=fun e=>nS ((Option.some.inj ((if_pos e).symm.trans h)).symm)
  obtain rfl:=Option.some.inj ((if_neg hne).symm.trans h)
  show (zD1 k).bind _=_
  rw[h1,Option.bind_some,zl4 h2,Option.bind_some,if_neg hne];rfl
noncomputable def zT3 (es:List (D×D)) (ks:List Str):Prop:=es.map (·.1)=ks.map D.str
theorem zT3.uncons {p:D×D} {es:List (D×D)} {ks:List Str} (h:zT3 (p::es) ks):∃ y ks',ks=y::ks'∧p.1=.str y∧zT3 es ks':=by
 cases ks with
 | nil=>exact (List.cons_ne_nil _ _ h).elim
 | cons y ks=>exact ⟨y,ks,rfl,(List.cons.inj h).1,(List.cons.inj h).2⟩
theorem zT3.look:∀ {es:List (D×D)} {ks:List Str},zT3 es ks→∀ {x:Str},x ∉ ks→zE0 es x=some none
 | [],_,_,_,_=>rfl
 | (k,v)::es,ks,h,x,hx=>by
  refine xe h.uncons fun y Y0=>?_;refine xe Y0 fun ks' Y1=>?_;obtain rfl:=Y1.1;have hk:=Y1.2.1;have h1:=Y1.2.2;try clear Y0 Y1
  obtain rfl:k=.str y:=hk
  exact (zd8 rfl (h1.look fun m=>hx (.tail _ m))).trans (if_neg fun (e:y=x)=>hx (e▸.head _))
theorem zT3.not_mem:∀ {es:List (D×D)} {ks:List Str},zT3 es ks→∀ {x:Str},zE0 es x=some none→x ∉ ks
 | [],ks,h,_,_=>by
  cases ks with
  | nil=>exact fun m=>nomatch m
  | cons y ks=>exact (List.cons_ne_nil _ _ (Eq.symm h)).elim
 | (k,v)::es,ks,h,x,hl=>by
  refine xe h.uncons fun y Y0=>?_;refine xe Y0 fun ks' Y1=>?_;obtain rfl:=Y1.1;have hk:=Y1.2.1;have g:=Y1.2.2;try clear Y0 Y1
  obtain rfl:k=.str y:=hk
  refine obk hl fun k' h1 hl=>obk hl fun o h2 hl=>?_
  obtain rfl:=Option.some.inj h1
  have hne:¬ y=x:=fun e=>nS ((Option.some.inj ((if_pos e).symm.trans hl)).symm)
  obtain rfl:=Option.some.inj ((if_neg hne).symm.trans hl)
  exact fun m=>(List.mem_cons.mp m).elim (fun e=>hne e.symm) (g.not_mem h2)
theorem yN8 {d:D} {p:Str×D} (h:xA7 d=some p):d=.tup [.str p.1,p.2]:=obk h fun l h1 h=>by
 cases l with
 | nil=>exact nS h
 | cons a l =>
  refine obk h fun s h2 h=>omk h fun v h3 h=>?_
  rw[zk1 h1,zX8 h2,zG1 h3,← h]
theorem zb7 {d:D} {ds:List D} {es:List (D×D)} {P:Prop} (h:zB8 (d::ds)=some es) (k:∀ x v es',d=.tup [.str x,v]→zB8 ds=some es'→zE0 es' x=some none→(.str x,v)::es'=es→P):P :=
 obk h fun p h1 h=>obk h fun es' h2 h=>obk h fun uu h3 h=>oTk h fun hn h=>k p.1 p.2 es' (yN8 h1) h2 (h3.trans (congrArg some (Option.isNone_iff_eq_none.mp hn))) (Option.some.inj h)
theorem zL6:∀ {ds:List D} {es:List (D×D)},zB8 ds=some es→∃ ks,zT3 es ks∧ks.Nodup
 | [],_,h=>⟨[],Option.some.inj h▸rfl,List.nodup_nil⟩
 | d::ds,_,h=>zb7 h fun x v es' uu h1 h2 e=>(zL6 h1).elim fun ks q=>⟨x::ks,e▸congrArg (D.str x::·) q.1,List.nodup_cons.mpr ⟨q.1.not_mem h2,q.2⟩⟩
theorem zL7 {d:D} {ds:List D} {es:List (D×D)} (h:zB8 (d::ds)=some es):∃ x v es',d=.tup [.str x,v]∧zB8 ds=some es'∧es=(.str x,v)::es' :=
 zb7 h fun x v es' e1 h1 uu e=>⟨x,v,es',e1,h1,e.symm⟩
theorem zT4 {acc rest:List (D×D)} {ks:List Str} {x:Str} {d:D} (hk:zT3 (acc++(.str x,d)::rest) ks) (hn:ks.Nodup):zI8 acc x d=some (acc++[(.str x,d)]):=by
 unfold zT3 at hk
 rw[List.map_append,List.map_cons] at hk
 refine xe (List.map_eq_append_iff.mp hk.symm) fun k1 Y0=>?_;refine xe Y0 fun k2 Y1=>?_;obtain rfl:=Y1.1;have e1:=Y1.2.1;have e2:=Y1.2.2;try clear Y0 Y1
 refine xe (List.map_eq_cons_iff.mp e2) fun y Y0=>?_;refine xe Y0 fun k3 Y1=>?_;obtain rfl:=Y1.1;have e2:=Y1.2.1;try clear Y0 Y1
 obtain rfl:=D.str.inj e2
 exact zl4 (zT3.look e1.symm fun hm=>(List.nodup_append.mp hn).2.2 _ hm _ (.head _) rfl)
end
end Mine
namespace Mine
open PySem PySem.W PyProof.Rows PySem.Calls PySem.Builtin
section
variable {prog:Program} {w:World} {G:PG} {K:Frag} {KH:PH} {call:zB3} {k:Nat} {csc:Scope} {cenv:Env} {H H':PH} {ρ ρ':Rho} {O O':zB1} {h h':Heap}
theorem Rep.str_val {v:Value} {x:Str} (r:Rep prog w H v (.str x)):∃ t,v=.str x t:=r.inv
theorem DictAt.live {a:Addr} {es:List (D×D)}:DictAt prog w H h a es→h.get? a≠none:=fun ⟨_,_,h1,_⟩=>zB4 h1
noncomputable def zi4 (prog:Program) (w:World) (da:Addr) (acc:List (D×D)):PH→Heap→Prop:=fun H h=>DictAt prog w H h da acc
theorem zi4.mono {da:Addr} (acc:List (D×D)):zl3 da (zi4 prog w da acc):=fun uu uu uu uu hk hh x=>DictAt.keeps x hk hh
theorem zP3:∀ {ds:List D} {es:List (D×D)},zB8 ds=some es→es.length=ds.length
 | [],es,h=>by cases h;rfl
 | d::ds,es,h=>by
  obtain ⟨x,v,es',_,h2,rfl⟩:=zL7 h
  exact congrArg (·+1) (zP3 h2)
theorem yc4 {fe:Rho→Expr→Prc (R×Rho)} (hF:∀ e,Sim prog w KH call k false csc (eval e) (fun ρ=>fe ρ e)) {c:CX} (he:EnvOK c.env csc) (hro:Room c.A k) {kx vx:Expr} {acc:List (D×D)} {H2 H4:PH} {O2 O4:zB1} {h2 h4:Heap} {ρ2:Rho} {t4:Tk} {Q:Shared→Prop} {E:Value→Shared→Prop} {rk rv:R×Rho} {x:Str} {dv:D} (hk:PLe KH H4)
  (m:CM prog w c ρ2 (zi4 prog w c.da acc) H2 O2 h2 H4 O4 h4) (p:zd7 c.env H2 O2 h2 c.da) (e1:zA1 call (fe ρ2 kx)=some rk) (e2:zA1 call (fe ρ2 vx)=some rv) (hx:rk.1.toD=.str x) (hv:rv.1.toD=dv) (hst:zI8 acc x dv=some (acc++[(.str x,dv)])) (hl:acc.length≤8000000)
  (q:∀ H5 h6 (t5:Tk),CM prog w c ρ2 (zi4 prog w c.da (acc++[(.str x,dv)])) H2 O2 h2 H5 O4 h6→Q (c.at h6 t5)) :
  wpAny (model prog w) c.A (eval kx c.env) (fun kv s₃=>wpAny (model prog w) c.A (eval vx c.env) (fun vv s₄=>wpAny (model prog w) c.A (dictSet c.da kv vv) (fun uu s₅=>Q s₅) E s₄) E s₃) E (c.at h4 t4):=by
 refine (hF kx).f e1 he hro hk (s:=c.at h4 t4) m.st fun v4 H5 h5 t5 a5 r4=>?_
 have m5:=m.after (zi4.mono acc) a5
 refine (hF vx).f e2 he hro (hk.trans a5.go.ext) (s:=c.at h5 t5) m5.st fun v5 H6 h6 t6 a6 r5=>?_
 have m6:=m5.after (zi4.mono acc) a6
 obtain ⟨tt,rfl⟩:=Rep.str_val (hx▸r4.mono a6.go.ext)
 exact (yN5 (s:=c.at h6 t6) m6.acc hst hl (hv▸r5) fun h7 t7 d7 sb7=>q H6 h7 (t7,t6.2) (m6.aside p sb7 d7.live d7)).2
theorem yc5 {fe:Rho→Expr→Prc (R×Rho)} {ft:Rho→Expr→Prc (Bool×Rho)} {itf:Bool→Rho→Expr→Prc (List D×Rho)} (hF:∀ e,Sim prog w KH call k false csc (eval e) (fun ρ=>fe ρ e))
  {c:CX} (he:EnvOK c.env csc) (hro:Room c.A k) {kx vx:Expr} {pos:Pos} {i:Expr} {items:List D} {out:List D} {es:List (D×D)}
  (hi:zA1 call (zM6 ft itf csc (fun ρ'=>(fe ρ' kx).bind fun r=>(fe ρ' vx).bind fun r'=>.pure [.tup [r.1.toD,r'.1.toD]]) [⟨c.t,i,[],0⟩] items c.ρ)=some out)
  (hes:zB8 out=some es) (hlen:out.length≤8000000) {RR:Result→Shared→Prop} (hk:PLe KH c.H) (cw:CW c) (ci:CI prog w c (zi4 prog w c.da []) items c.H c.O c.s.heap) (hq:z07 prog w c (zi4 prog w c.da es) (RR (.ok .next))) :
  codeAny (model prog w) c.A (.compLoop (.DictComp kx vx [⟨c.t,i,[],0⟩] csc pos) 0 c.it (.ref c.da) c.env) RR c.s:=by
 rw[zR5] at hi
 refine iTk hi fun hfresh hi=>ibk hi fun ls hb0 hi=>?_
 obtain rfl:=Option.some.inj hi
 obtain ⟨ks,sk,nd⟩:=zL6 hes
 refine zw6 (CL prog w call c (zi4 prog w c.da) (zi3 ft itf csc (fun ρ'=>(fe ρ' kx).bind fun r=>(fe ρ' vx).bind fun r'=>.pure [.tup [r.1.toD,r'.1.toD]]) c.t [] [] c.ρ) (fun acc l=>∃ esr,zB8 l.flatten=some esr∧acc++esr=es)) (fun n s' x=>?_) items.length (.mk items ls [] c.H c.O c.s.heap (c.s.toks,c.s.drawn) ci hb0 ⟨es,hes,rfl⟩)
 refine x.turn cw zi4.mono (fun acc ⟨esr,e1,e2⟩=>?_) fun d ds b bs acc H2 O2 h2 t2 v e1 e2 ⟨esr,hpr,hcat⟩ i2 y2 rv hn=>?_
 ·obtain rfl:=Option.some.inj e1
  exact ((List.append_nil acc).symm.trans e2:acc=es)▸hq
 refine ibk e1 fun ρ2 g4 g5=>ibk g5 fun ok g6 g7=>?_
 obtain rfl:=Option.some.inj g6
 have g7:zA1 call ((fe ρ2 kx).bind fun r=>(fe ρ2 vx).bind fun r'=>.pure [.tup [r.1.toD,r'.1.toD]])=some b:=g7
 refine ibk g7 fun rk q1 g7=>ibk g7 fun rv' q2 g7=>?_
 obtain rfl:=Option.some.inj g7
 obtain ⟨x,dv,esr',q3,q4,rfl⟩:=zL7 hpr
 have q5:=List.cons.inj (D.tup.inj q3)
 refine zN2 he c.t d c.ρ ρ2 (io g4) c.A H2 O2 (c.at h2 t2) v _ _ hro.hh i2.st rv fun O3 h3 t3 kl a3=>?_
 have m3:=i2.bound cw (zi4.mono acc) (kl (zl1 he hfresh)) a3
 refine yc4 hF he hro (t4:=(t3,t2.2)) (hk.trans i2.g.ext) m3 (i2.pD cw) q1 q2 q5.1 (List.cons.inj q5.2).1 (zT4 (hcat.symm▸sk) nd) ?_ fun H5 h6 t5 m=>CL.again (P:=zi4 prog w c.da acc) (T:=fun acc l=>∃ esr,zB8 l.flatten=some esr∧acc++esr=es) i2 cw y2 m (z05 hfresh (io g4)) e2 ⟨esr',q4,(List.append_assoc acc _ _).trans hcat⟩ hn
 refine Nat.le_trans ?_ ((zP3 hes).symm▸hlen:es.length≤_)
 rw[← hcat,List.length_append]
 exact Nat.le_add_right _ _
end
end Mine
namespace Mine
open PySem PySem.W PyProof.Rows PySem.Calls PySem.Builtin
section
variable {prog:Program} {w:World} {G:PG} {K:Frag} {KH:PH} {call:zB3} {k:Nat} {sc csc:Scope} {env cenv:Env} {H H':PH} {ρ ρ':Rho} {O O':zB1} {h h':Heap}
theorem zr2 {α β:Type} {f:α→β→Sem (ForInStep β)} (g:α→β→β):∀ (l:List α) (r:β),(∀ x∈l,∀ r,f x r=pure (.yield (g x r)))→forIn l r f=(pure (l.foldl (fun r x=>g x r) r):Sem β)
 | [],r,h=>rfl
 | x::l,r,h=>by
  rw[List.forIn_cons,h x (by simp) r]
  show forIn l (g x r) f=_
  exact zr2 g l (g x r) fun y hy=>h y (List.mem_cons_of_mem _ hy)
theorem yF7 {env:Env} {n:Str} {c:Addr} (q:env.cells.lookup n=some c):cellOf env n=pure c:=by
 show (match env.cells.lookup n with
  | some a=>pure a
  | none=>unsupported "internal:no-cell-for-name")=_
 rw[q]
noncomputable def zH7 (env:Env) (x:Str×NameKind) (r:List (Str×Addr)):List (Str×Addr):=if x.2 == .free then (x.1,(env.cells.lookup x.1).getD 0)::r else r
set_option tactic.hygienic true in
theorem yF8 {names:List (Str×NameKind)} {r:List (Str×Addr)} (h:∀ p∈names,p.2=.free→(env.cells.lookup p.1).isSome=true) (hr:∀ x c,r.lookup x=some c→env.cells.lookup x=some c) :
  (∀ x c,(names.foldl (fun r x=>zH7 env x r) r).lookup x=some c→env.cells.lookup x=some c)∧(∀ x,(r.lookup x).isSome=true→((names.foldl (fun r x=>zH7 env x r) r).lookup x).isSome=true) ∧
  (∀ p∈names,p.2=.free→((names.foldl (fun r x=>zH7 env x r) r).lookup p.1).isSome=true):=by
 induction names generalizing r with
 | nil=>exact ⟨hr,fun uu e=>e,by simp⟩
 | cons p names ih =>
  obtain ⟨n,kd⟩:=p
  have hr':∀ x c,(zH7 env (n,kd) r).lookup x=some c→env.cells.lookup x=some c:=by
   intro x c e
   unfold zH7 at e
   split at e
   ·rename_i hk
    rw[List.lookup_cons] at e
    split at e
    ·rename_i hx
     rw[beq_iff_eq] at hx
     subst hx
     have:=h (x,kd) (by simp) (by simpa using hk)
     rw[Option.isSome_iff_exists] at this
     refine xe this fun c' q=>?_;try clear this
     simp only at q
     rw[q] at e ⊢
     simpa using e
    ·exact hr x c e
   ·exact hr x c e
  have Y0:=ih (r:=zH7 env (n,kd) r) (fun p hp=>h p (List.mem_cons_of_mem _ hp)) hr';have i1:=Y0.1;have i2:=Y0.2.1;have i3:=Y0.2.2;try clear Y0
  refine ⟨i1,fun x e=>i2 x ?_,fun p hp hk=>?_⟩
  ·unfold zH7
   split
   ·rw[List.lookup_cons]
    split
    ·rfl
    ·exact e
   ·exact e
  ·rcases List.mem_cons.mp hp with rfl | hp
   ·simp only at hk
    subst hk
    refine i2 n ?_
    simp[zH7]
   ·exact i3 p hp hk
theorem yN9 (h:∀ p∈csc.names,p.2=.free→(env.cells.lookup p.1).isSome=true) :
  ∃ cl,closureFor csc env=pure cl∧(∀ x c,cl.lookup x=some c→env.cells.lookup x=some c)∧(∀ p∈csc.names,p.2=.free→(cl.lookup p.1).isSome=true):=by
 have Y0:=yF8 (names:=csc.names) (r:=[]) h (by simp);have i1:=Y0.1;have i3:=Y0.2.2;try clear Y0
 refine ⟨_,?_,i1,i3⟩
 simp only[closureFor]
 rw[zr2 (zH7 env) csc.names [] ?_]
 ·rfl
 ·rintro ⟨n,kd⟩ hx r
  cases hk:(kd == NameKind.free) with
  | true =>
   have:=h (n,kd) hx (by simpa using hk)
   rw[Option.isSome_iff_exists] at this
   refine xe this fun c q=>?_;try clear this
   simp only at q
   simp only[if_true,yF7 q,q,zH7,hk,Option.getD_some]
   rfl
  | false =>
   simp only[Bool.false_eq_true,if_false,zH7,hk]
theorem zZ0 (h:zF6 sc csc=true):csc.kind=.function:=by
 unfold zF6 at h;rw[Bool.and_eq_true,beq_iff_eq] at h;exact h.1
theorem zJ8 (h:zF6 sc csc=true) {p:Str×NameKind} (hp:p∈csc.names) :
  (p.2=.local∧csc.names.lookup p.1=some .local∧p.1≠Str.ofString "__debug__"∧p.1≠Str.ofString "__classdict__") ∨
  (p.2=.free∧csc.names.lookup p.1=some .free∧p.1≠Str.ofString "__debug__"∧p.1≠Str.ofString "__classdict__"∧(sc.names.lookup p.1=some .cell∨sc.names.lookup p.1=some .free)) ∨
  p.2=.globalImplicit∨p.2=.globalExplicit:=by
 unfold zF6 at h
 rw[Bool.and_eq_true,List.all_eq_true] at h
 have:=h.2 p hp
 simp only[Bool.or_eq_true,Bool.and_eq_true,beq_iff_eq,bne_iff_ne,ne_eq] at this
 rcases this with ((⟨⟨⟨a,b⟩,c⟩,d⟩ | ⟨⟨⟨⟨a,b⟩,c⟩,d⟩,e⟩) | a) | a
 ·exact .inl ⟨a,b,c,d⟩
 ·exact .inr (.inl ⟨a,b,c,d,e⟩)
 ·exact .inr (.inr (.inl a))
 ·exact .inr (.inr (.inr a))
set_option tactic.hygienic true in
theorem zV2 {α:Type} {l:List (Str×α)} {x:Str} {v:α} (h:l.lookup x=some v):(x,v)∈l:=by
 induction l with
 | nil=>simp at h
 | cons p l ih =>
  obtain ⟨y,u⟩:=p
  rw[List.lookup_cons] at h
  split at h
  ·rename_i hx
   rw[beq_iff_eq] at hx
   cases h
   rw[hx];simp
  ·exact List.mem_cons_of_mem _ (ih h)
set_option tactic.hygienic true in
theorem zH8 {x:Str}:(relabel csc env).names.lookup x=csc.names.lookup x∨(csc.names.lookup x=some .free∧(relabel csc env).names.lookup x=some .cell):=by
 unfold relabel
 simp only
 induction csc.names with
 | nil=>exact .inl rfl
 | cons p l ih =>
  obtain ⟨n,kd⟩:=p
  rw[List.map_cons]
  simp only
  split
  ·rename_i hc
   simp only[Bool.and_eq_true,beq_iff_eq] at hc
   rw[List.lookup_cons,List.lookup_cons]
   split
   ·exact .inr ⟨by rw[hc.1.1],rfl⟩
   ·exact ih
  ·rw[List.lookup_cons,List.lookup_cons]
   split
   ·exact .inl rfl
   ·exact ih
set_option tactic.hygienic true in
theorem zw7 {p:Str→Bool} {ρ:Rho} {x:Str} {e:Ent} (h:(ρ.filter fun q=>p q.1).lookup x=some e):ρ.lookup x=some e∧p x=true:=by
 induction ρ with
 | nil=>simp at h
 | cons q ρ ih =>
  obtain ⟨y,f⟩:=q
  rw[List.filter_cons] at h
  split at h
  ·rename_i hp
   rw[List.lookup_cons] at h ⊢
   split at h
   ·rename_i hx
    rw[beq_iff_eq] at hx
    subst hx
    exact ⟨h,hp⟩
   ·exact ih h
  ·rename_i hp
   have Y0:=ih h;have i1:=Y0.1;have i2:=Y0.2;try clear Y0
   rw[List.lookup_cons]
   have:(x == y)=false:=by
    rw[beq_eq_false_iff_ne]
    rintro rfl
    exact hp i2
   rw[this]
   exact ⟨i1,i2⟩
theorem zi5 {x:Str} {e:Ent} (h:(zD2 csc ρ).lookup x=some e):ρ.lookup x=some e∧(x,NameKind.local) ∉ csc.names:=by
 unfold zD2 at h
 have Y0:=zw7 (p:=fun y=>!(zf3 csc).contains y) h;have h1:=Y0.1;have h2:=Y0.2;try clear Y0
 refine ⟨h1,fun hm=>?_⟩
 have:(zf3 csc).contains x=true:=by
  rw[List.contains_iff_mem]
  unfold zf3
  rw[List.mem_map]
  exact ⟨_,List.mem_filter.mpr ⟨hm,rfl⟩,rfl⟩
 rw[this] at h2
 cases h2
theorem yn6 (ok:zF6 sc csc=true) (he:EnvOK env sc) {cl:List (Str×Addr)} {C:Addr}:EnvOK (compEnvC csc cl C env) csc:=by
 refine ⟨(show csc.kind=.function from zZ0 ok),fun x=>zH8,he.glob,he.blt,fun x hx=>?_⟩
 have key:∀ kd,csc.names.lookup x=some kd→kd=.local∨kd=.cell∨kd=.free→(x == ("__debug__":Str))=false∧(x == ("__classdict__":Str))=false:=by
  intro kd hl hkd
  rcases zJ8 ok (zV2 hl) with ⟨_,_,a,b⟩ | ⟨_,_,a,b,_⟩ | a | a
  ·exact ⟨beq_eq_false_iff_ne.mpr a,beq_eq_false_iff_ne.mpr b⟩
  ·exact ⟨beq_eq_false_iff_ne.mpr a,beq_eq_false_iff_ne.mpr b⟩
  ·simp only at a;rw[a] at hkd;rcases hkd with q | q | q<;>cases q
  ·simp only at a;rw[a] at hkd;rcases hkd with q | q | q<;>cases q
 have hk:Env.kindOf (compEnvC csc cl C env) x=(relabel csc env).names.lookup x:=rfl
 unfold seen at hx
 rw[hk] at hx
 rcases zH8 (csc:=csc) (env:=env) (x:=x) with e | ⟨e,_⟩
 ·rw[e] at hx
  rcases hx with q | q | q
  ·exact key _ q (.inl rfl)
  ·exact key _ q (.inr (.inl rfl))
  ·exact key _ q (.inr (.inr rfl))
 ·exact key _ e (.inr (.inr rfl))
theorem z09 (ok:zF6 sc csc=true) (he:EnvOK env sc) {cl:List (Str×Addr)} {C:Addr} {x:Str} (hx:seen (compEnvC csc cl C env) x) (hl:(x,NameKind.local) ∉ csc.names) :
  (x,NameKind.free)∈csc.names∧(env.kindOf x=some .cell∨env.kindOf x=some .free)∧(Env.kindOf (compEnvC csc cl C env) x=some .cell∨Env.kindOf (compEnvC csc cl C env) x=some .free):=by
 have hk:Env.kindOf (compEnvC csc cl C env) x=(relabel csc env).names.lookup x:=rfl
 unfold seen at hx
 have fr:csc.names.lookup x=some .free:=by
  rw[hk] at hx
  rcases zH8 (csc:=csc) (env:=env) (x:=x) with e | ⟨e,_⟩
  ·rw[e] at hx
   rcases hx with q | q | q
   ·exact absurd (zV2 q) hl
   ·rcases zJ8 ok (zV2 q) with ⟨a,_⟩ | ⟨a,_⟩ | a | a<;>cases a
   ·exact q
  ·exact e
 have hm:=zV2 fr
 refine ⟨hm,?_,?_⟩
 ·rcases zJ8 ok hm with ⟨a,_⟩ | ⟨_,_,_,_,a⟩ | a | a
  ·cases a
  ·simp only at a
   rcases he.kind x with e | ⟨_,e⟩
   ·rw[e];exact a
   ·exact .inl e
  ·cases a
  ·cases a
 ·rcases hx with q | q | q
  ·rw[hk] at q
   rcases zH8 (csc:=csc) (env:=env) (x:=x) with e | ⟨_,e⟩
   ·rw[e,fr] at q;cases q
   ·rw[e] at q;cases q
  ·exact .inl q
  ·exact .inr q
theorem zB6.cell {x:Str} {v:Value} (hk:env.kindOf x=some .cell∨env.kindOf x=some .free) (n:zB6 env h x v):∃ c,env.cells.lookup x=some c∧h.IsCell c (some v):=by
 unfold zB6 at n
 rcases hk with e | e<;>rw[e] at n<;>exact n
theorem zB6.ofCell {x:Str} {v:Value} {c:Addr} (hk:env.kindOf x=some .cell∨env.kindOf x=some .free) (hc:env.cells.lookup x=some c) (n:h.IsCell c (some v)):zB6 env h x v:=by
 unfold zB6
 rcases hk with e | e<;>rw[e]<;>exact ⟨c,hc,n⟩
theorem y03 (ok:zF6 sc csc=true) (he:EnvOK env sc) (st:St prog w H env ρ O h) {cl:List (Str×Addr)} {C:Addr} {m:Str→Option Value} (h1:∀ x c,cl.lookup x=some c→env.cells.lookup x=some c) (h2:∀ p∈csc.names,p.2=.free→(cl.lookup p.1).isSome=true)
  (hC:h.Ns C m) (hH:H C=none) (hO:∀ y,O y≠some C) (hc:∀ y,env.cells.lookup y≠some C):St prog w H (compEnvC csc cl C env) (zD2 csc ρ) O h where
 sub:=st.sub
 ns:=⟨m,hC⟩
 names:=fun x e hs hl=>by
  have Y0:=zi5 hl;have l1:=Y0.1;have l2:=Y0.2;try clear Y0
  have Y0:=z09 ok he hs l2;have k1:=Y0.1;have k2:=Y0.2.1;have k3:=Y0.2.2;try clear Y0
  refine xe (st.names x e (.inr k2) l1) fun v Y0=>?_;have n:=Y0.1;have ea:=Y0.2;try clear Y0
  refine xe (n.cell k2) fun c Y0=>?_;have q1:=Y0.1;have q2:=Y0.2;try clear Y0
  have:=h2 _ k1 rfl
  rw[Option.isSome_iff_exists] at this
  refine xe this fun c' q3=>?_;try clear this
  have q4:=h1 x c' q3
  rw[q1] at q4
  cases q4
  exact ⟨v,zB6.ofCell k3 q3 q2,ea⟩
 frL:=hH
 cells:=fun x c hx=>by
  have hx':=h1 x c hx
  have Y0:=st.cells x c hx';have q1:=Y0.1;have q2:=Y0.2.1;have q3:=Y0.2.2;try clear Y0
  exact ⟨q1,fun e=>hc x (by rw[hx'];exact congrArg some e),q3⟩
 apC:=fun x y c hx hy=>st.apC x y c (h1 x c hx) (h1 y c hy)
 hasC:=fun x hx=>by
  have hl:(x,NameKind.local) ∉ csc.names:=fun hm=>by
   rcases zJ8 ok hm with ⟨_,b,_⟩ | ⟨a,_⟩ | a | a
   ·have hk:Env.kindOf (compEnvC csc cl C env) x=(relabel csc env).names.lookup x:=rfl
    rw[hk] at hx
    rcases zH8 (csc:=csc) (env:=env) (x:=x) with e | ⟨e,_⟩
    ·simp only at b
     rw[e,b] at hx
     rcases hx with q | q<;>cases q
    ·simp only at b;rw[b] at e;cases e
   ·cases a
   ·cases a
   ·cases a
  exact h2 _ (z09 ok he (.inr hx) hl).1 rfl
 owns:=fun x a hx=>by
  have Y0:=st.owns x a hx;have q1:=Y0.1;have q2:=Y0.2.1;have q3:=Y0.2.2.1;have q4:=Y0.2.2.2;try clear Y0
  exact ⟨q1,fun e=>hO x (by rw[hx];exact congrArg some e),fun y e=>q3 y (h1 y a e),q4⟩
 apO:=st.apO
set_option tactic.hygienic true in
theorem zR6:∀ (xs:List Str) (ρ:Rho) (O:zB1) (H:PH),St prog w H env ρ O h→(∀ x∈xs,seen env x)→∃ H' O',After prog w true env H ρ O h H' (zn4 xs ρ) O' h
 | [],ρ,O,H,st,_=>⟨H,O,After.refl st⟩
 | x::xs,ρ,O,H,st,hs=>by
  unfold zn4
  have hs':∀ y∈xs,seen env y:=fun y hy=>hs y (List.mem_cons_of_mem _ hy)
  split
  ·rename_i ds hl
   refine xe (st.own_get (hs x (by simp)) hl) fun a Y0=>?_;have n:=Y0.1;have ho:=Y0.2.1;have la:=Y0.2.2;try clear Y0
   refine xe (la.freeze st.sub (st.owns x a ho).1) fun o Y0=>?_;have f1:=Y0.1;have f2:=Y0.2.1;have f3:=Y0.2.2;try clear Y0
   have Y0:=st.freeze n ho f1 f2 f3;have st2:=Y0.1;have go2:=Y0.2;try clear Y0
   have a1:After prog w true env H ρ O h (zC5 H a o) (ρ.set x (.val (.list ds))) (O.upd x none) h:=by
    refine ⟨go2.weaken fun b hb=>⟨rfl,hb⟩,st2,fun y b q=>?_,(fun e=>by cases e),fun y b q=>(st.owns y b q).2.2.2,fun y e' g1 g2=>?_⟩
    ·unfold zB1.upd at q
     split at q
     ·cases q
     ·exact q
    ·rw[Rho.lookup_set] at g1
     split at g1
     ·cases g1;cases g2
     ·exact ⟨e',g1,g2⟩
   refine xe (zR6 xs _ _ _ st2 hs') fun H' Y0=>?_;refine xe Y0 fun O' a2=>?_;try clear Y0
   exact ⟨H',O',a1.trans a2⟩
  ·exact zR6 xs ρ O H st hs'
theorem z69 (ok:zF6 sc csc=true) (he:EnvOK env sc):∀ x∈zn3 csc,seen env x:=by
 intro x hx
 unfold zn3 at hx
 rw[List.mem_map] at hx
 refine xe hx fun p Y0=>?_;have hp:=Y0.1;obtain rfl:=Y0.2;try clear hx;try clear Y0
 rw[List.mem_filter] at hp
 have hk:p.2=.free:=by simpa using hp.2
 rcases zJ8 ok hp.1 with ⟨a,_⟩ | ⟨_,_,_,_,a⟩ | a | a
 ·rw[hk] at a;cases a
 ·unfold seen
  rcases he.kind p.1 with e | ⟨_,e⟩
  ·rw[e];exact .inr a
  ·exact .inr (.inl e)
 ·rw[hk] at a;cases a
 ·rw[hk] at a;cases a
end
end Mine
namespace Mine
open PySem PySem.W PyProof.Rows PySem.Calls PySem.Builtin
section
variable {prog:Program} {w:World} {G:PG} {K:Frag} {KH:PH} {call:zB3} {k:Nat} {sc csc:Scope} {env cenv:Env} {H H' H1 H2:PH} {ρ ρ' ρ1:Rho} {O O' O1:zB1} {h h' h1 h2:Heap}
theorem zE6.at {A:Around} {t:Expr} {it:Value} {fp:List Addr} {ds:List D} (y:zE6 prog w A t it fp ds H1 h1) (hk:∀ b∈fp,∀ o,h1.get? b=some o→h2.get? b=some o) (le:PLe H1 H2):zE6 prog w A t it fp ds H2 h2:=by
 cases ds with
 | nil=>exact fun s H Qn Qs E f1 f2=>y s H Qn Qs E (fun b hb o q=>f1 b hb o (hk b hb o q)) (le.trans f2)
 | cons d ds=>exact fun s H Qn Qs E f1 f2=>y s H Qn Qs E (fun b hb o q=>f1 b hb o (hk b hb o q)) (le.trans f2)
theorem yO0 (ok:zF6 sc csc=true) (he:EnvOK env sc) (hs:St prog w H env ρ O h) (a:After prog w true env H ρ O h H1 ρ1 O1 h1) {fp:List Addr} (hfp:∀ b∈fp,h.get? b=none∧H1 b=none∧h1.get? b≠none)
  (fz:Bool) {cl:List (Str×Addr)} (c1:∀ x c,cl.lookup x=some c→env.cells.lookup x=some c) (c2:∀ p∈csc.names,p.2=.free→(cl.lookup p.1).isSome=true) {o f:Obj} (no:o.isFreed=false) {m:Str→Option Value}
  (ns:h2.Ns (h1.push o).objs.size m) (sb:Heap.SameBut (h1.push o).objs.size ((h1.push o).push f) h2) :
  ∃ H2 O2,After prog w true env H ρ O h H2 (if fz=true then zC4 csc ρ1 else ρ1) O2 h2∧St prog w H2 (compEnvC csc cl (h1.push o).objs.size env) (zD2 csc (if fz=true then zC4 csc ρ1 else ρ1)) O2 h2∧PLe H1 H2 ∧
   (∀ b o,h1.get? b=some o→h2.get? b=some o)∧(∀ b∈fp,zd7 (compEnvC csc cl (h1.push o).objs.size env) H2 O2 h2 b∧b≠h1.objs.size)∧zd7 (compEnvC csc cl (h1.push o).objs.size env) H2 O2 h2 h1.objs.size∧h2.get? h1.objs.size=some o ∧
   (∀ b∈(h1.push o).objs.size::h1.objs.size::fp,h.get? b=none∧H2 b=none∧h2.get? b≠none):=by
 have hCs:(h1.push o).objs.size=h1.objs.size+1:=Heap.size_push ..
 have keep:∀ b o',h1.get? b=some o'→h2.get? b=some o':=fun b o' q=>by
  have hb:=Heap.lt_size q
  rw[sb.2 b (by rw[hCs];exact Nat.ne_of_lt (Nat.lt_succ_of_lt hb))]
  exact Heap.get?_push_of_some _ (Heap.get?_push_of_some _ q)
 have hda:h2.get? h1.objs.size=some o:=by
  rw[sb.2 _ (by rw[hCs];exact Nat.ne_of_lt (Nat.lt_succ_self _))]
  exact Heap.get?_push_of_some _ (Heap.get?_push_size _ no)
 obtain ⟨H2,O2,a2,leH,nw⟩:∃ H2 O2,After prog w true env H ρ O h H2 (if fz=true then zC4 csc ρ1 else ρ1) O2 h1∧PLe H1 H2∧∀ b,H1 b=none→H2 b≠none→∃ x,O1 x=some b:=by
  cases fz with
  | true =>
   refine xe (zR6 (zn3 csc) ρ1 O1 H1 a.st (z69 ok he)) fun H2 Y0=>?_;refine xe Y0 fun O2 a2=>?_;try clear Y0
   refine ⟨H2,O2,a.trans a2,a2.go.ext,fun b q q'=>?_⟩
   rcases a2.go.new b q q' with e | e
   ·exact absurd (a2.st.sub b) (fun z=>by
     cases e':H2 b with
     | none=>exact q' e'
     | some o'=>rw[a2.st.sub b o' e'] at e;cases e)
   ·exact e
  | false=>exact ⟨H1,O1,a,PLe.refl _,fun b q q'=>absurd q q'⟩
 have a3:After prog w true env H ρ O h H2 (if fz=true then zC4 csc ρ1 else ρ1) O2 h2:=a2.ext (Ext.grow a2.st.sub keep)
 have frs:∀ b,h1.objs.size≤b→h.get? b=none∧H2 b=none:=fun b hb=>⟨Classical.byContradiction fun z=>a.go.live _ z (zN0 hb),zF1 a2.st.sub hb⟩
 have lC:∀ b,h.get? b=none→b≠env.locals∧(∀ y,env.cells.lookup y≠some b)∧∀ y,O2 y≠some b:=fun b hb =>
  ⟨fun e=>by refine xe hs.ns fun mm q=>?_;exact Heap.Ns.live q (by rw[← e];exact hb),fun y e=>by have Y0:=hs.cells y b e;refine xe Y0.2.2 fun v q=>?_;try clear Y0;exact zE8 q hb,fun y e=>a3.bound y b (a3.sub y b e) hb⟩
 have fpH:∀ b∈fp,H2 b=none:=fun b hm=>by
  cases q:H2 b with
  | none=>rfl
  | some o' =>
   refine xe (nw b (hfp b hm).2.1 (by rw[q];exact fun z=>nomatch z)) fun x e=>?_
   exact absurd (hfp b hm).1 (a.bound x b (a.sub x b e))
 have hC0:h.get? (h1.push o).objs.size=none∧H2 (h1.push o).objs.size=none:=frs _ (by rw[hCs];exact Nat.le_succ _)
 have hD0:=frs _ (Nat.le_refl h1.objs.size)
 have ltC:∀ b,h1.get? b≠none→b≠(h1.push o).objs.size∧b≠h1.objs.size:=fun b hb=>by
  cases q:h1.get? b with
  | none=>exact absurd q hb
  | some o' =>
   have:=Heap.lt_size q
   exact ⟨by rw[hCs];exact Nat.ne_of_lt (Nat.lt_succ_of_lt this),Nat.ne_of_lt this⟩
 have livek:∀ b,h1.get? b≠none→h2.get? b≠none:=fun b hb=>zL5 keep hb
 have Y0:=lC _ hC0.1;have lC1:=Y0.1;have lC2:=Y0.2.1;have lC3:=Y0.2.2;try clear Y0
 have Y0:=lC _ hD0.1;have lD1:=Y0.1;have lD2:=Y0.2.1;have lD3:=Y0.2.2;try clear Y0
 refine ⟨H2,O2,a3,y03 ok he a3.st c1 c2 ns hC0.2 lC3 lC2,leH,keep,fun b hm=>?_,⟨?_,fun y e=>lD2 y (c1 y _ e),lD3,hD0.2,by rw[hda];exact fun z=>nomatch z⟩,hda,fun b hm=>?_⟩
 ·have Y0:=hfp b hm;have q1:=Y0.1;have q2:=Y0.2.1;have q3:=Y0.2.2;try clear Y0
  have Y0:=lC b q1;have z1:=Y0.1;have z2:=Y0.2.1;have z3:=Y0.2.2;try clear Y0
  exact ⟨⟨(ltC b q3).1,fun y e=>z2 y (c1 y b e),z3,fpH b hm,livek b q3⟩,(ltC b q3).2⟩
 ·show h1.objs.size≠(h1.push o).objs.size
  rw[hCs];exact Nat.ne_of_lt (Nat.lt_succ_self _)
 ·rcases List.mem_cons.mp hm with rfl | hm
  ·exact ⟨hC0.1,hC0.2,Heap.Ns.live ns⟩
  ·rcases List.mem_cons.mp hm with rfl | hm
   ·exact ⟨hD0.1,hD0.2,by rw[hda];exact fun z=>nomatch z⟩
   ·exact ⟨(hfp b hm).1,fpH b hm,livek b (hfp b hm).2.2⟩
theorem yF9 (hs:St prog w H env ρ O h) (a:After prog w true env H ρ O h H2 ρ1 O1 h2) {fp:List Addr} (hf:∀ b∈fp,h.get? b=none∧H2 b=none∧h2.get? b≠none) (y:YW fp H2 h2 H' h') (sub:Sub H' h') :
  After prog w true env H ρ O h H' ρ1 O1 h'∧∀ b∈fp,h.get? b=none∧H' b=none∧b≠env.locals∧(∀ y,env.cells.lookup y≠some b)∧∀ y,O1 y≠some b:=by
 have lC:∀ b,h.get? b=none→b≠env.locals∧(∀ y,env.cells.lookup y≠some b)∧∀ y,O1 y≠some b:=fun b hb =>
  ⟨fun e=>by refine xe hs.ns fun mm q=>?_;exact Heap.Ns.live q (by rw[← e];exact hb),fun y e=>by have Y0:=hs.cells y b e;refine xe Y0.2.2 fun v q=>?_;try clear Y0;exact zE8 q hb,fun y e=>a.bound y b (a.sub y b e) hb⟩
 refine ⟨⟨a.go.ygo (fun b hm=>(hf b hm).1) y.ext y.new y.keep,a.st.ygo (fun b hm=>lC b (hf b hm).1) y.ext y.new y.keep sub,a.sub,a.same,a.bound,a.bor⟩,fun b hm=>⟨(hf b hm).1,?_,lC b (hf b hm).1⟩⟩
 cases q:H' b with
 | none=>rfl
 | some o=>exact absurd (y.new b (hf b hm).2.1 (by rw[q];exact fun z=>nomatch z)) (hf b hm).2.2
theorem yn7 {X:Addr→Prop}:Go X (fun uu=>none) (fun uu=>none) { objs:=#[] } H O h:=by
 refine ⟨fun a o q=>(by cases q),fun a uu uu=>.inl (by simp[Heap.get?]),fun b o q uu=>?_,fun b q=>absurd (by simp[Heap.get?]) q,fun x a uu=>.inr (by simp[Heap.get?])⟩
 simp[Heap.get?] at q
end
end Mine
namespace Mine
open PySem PySem.W PyProof.Rows PySem.Calls PySem.Builtin
section
variable {prog:Program} {w:World} {G:PG} {K:Frag} {KH:PH} {call:zB3} {k:Nat} {sc csc:Scope} {env cenv:Env} {H H' H1 H2:PH} {ρ ρ' ρ1:Rho} {O O' O1:zB1} {h h' h1 h2:Heap}
theorem yG0 (ok:zF6 sc csc=true):∀ x∈csc.names,x.2≠.cell:=by
 intro x hx e
 rcases zJ8 ok hx with ⟨a,_⟩ | ⟨a,_⟩ | a | a<;>rw[e] at a<;>cases a
theorem z70 (ok:zF6 sc csc=true):∀ x∈csc.names,x.2=.local→csc.names.lookup x.1=some .local:=by
 intro x hx e
 rcases zJ8 ok hx with ⟨_,a,_⟩ | ⟨a,_⟩ | a | a
 ·exact a
 ·rw[e] at a;cases a
 ·rw[e] at a;cases a
 ·rw[e] at a;cases a
theorem yG1 (ok:zF6 sc csc=true) (he:EnvOK env sc) (hs:St prog w H env ρ O h):∀ p∈csc.names,p.2=.free→(env.cells.lookup p.1).isSome=true:=by
 intro p hp hk
 refine hs.hasC p.1 ?_
 rcases zJ8 ok hp with ⟨a,_⟩ | ⟨_,_,_,_,a⟩ | a | a
 ·rw[hk] at a;cases a
 ·rcases he.kind p.1 with e | ⟨_,e⟩
  ·rw[e];exact a
  ·exact .inl e
 ·rw[hk] at a;cases a
 ·rw[hk] at a;cases a
noncomputable def yn8 (prog:Program) (w:World) (A:Around) (E:Value→Shared→Prop) (use:Option (Value→Sem Unit)) (Q:Value→Shared→Prop) (env:Env) (H:PH) (ρ:Rho) (O:zB1) (s:Shared) (r:R) (ρ':Rho):Prop :=
 ∀ v H' O' h' (tk:Tk) C,After prog w true env H ρ O s.heap H' ρ' O' h'→RAt prog w H' h' s.heap v r→(∃ m,h'.Ns C m)→s.heap.get? C=none→H' C=none→(C≠env.locals∧(∀ y,env.cells.lookup y≠some C)∧∀ y,O' y≠some C)→(∀ a,v=.ref a→a≠C) →
  compPost (model prog w) A E use Q v C (.ok .next) { s with heap:=h',toks:=tk.1,drawn:=tk.2 }
noncomputable def mkC (A:Around) (t:Expr) (ρ:Rho) (it:Value) (fp:List Addr) (env:Env) (da:Addr) (H:PH) (O:zB1) (s:Shared):CX:=⟨A,t,it,fp,env,ρ,da,H,O,s,fun uu=>none,fun uu=>none,{ objs:=#[] }⟩
theorem yn9 (kok:KOK G K KH) (hs:Sub KH h):(h.objs.size == sysModules)=false :=
 beq_eq_false_iff_ne.mpr fun e=>let ⟨b,o,ho,hle⟩:=kok.sysm;Nat.lt_irrefl _ (e▸Nat.lt_of_le_of_lt hle (Heap.lt_size (hs _ _ ho)))
noncomputable def y04 (prog:Program) (w:World) (KH:PH) (csc:Scope) (A:Around) (t:Expr) (ρ2:Rho) (e:Expr) (o:Obj) (ds:List D) (P:Addr→PH→Heap→Prop):Prop :=
 ∀ it fp env da H O s (RR:Result→Shared→Prop),EnvOK env csc→PLe KH H→(da == sysModules)=false→CW (mkC A t ρ2 it fp env da H O s)→CI prog w (mkC A t ρ2 it fp env da H O s) (fun uu h=>h.get? da=some o) ds H O s.heap →
  z07 prog w (mkC A t ρ2 it fp env da H O s) (P da) (RR (.ok .next))→codeAny (model prog w) A (.compLoop e 0 it (.ref da) env) RR s
theorem zl5 (kok:KOK G K KH) {E0:Evs} (hE:∀ e,Sim prog w KH call k true sc (eval e) (fun ρ=>E0.e sc ρ e)) {e i t:Expr} {fs:List Expr} {rest:List Comprehension} {p0:Pos} {use:Option (Value→Sem Unit)} {nm:String} {data:Data} {P:Addr→PH→Heap→Prop} {q:List D×Rho}
  {A:Around} {s:Shared} {r:R} {Q:Value→Shared→Prop} {E:Value→Shared→Prop} (ok:zF6 sc csc=true) (hcl:clausesOf e=⟨t,i,fs,0⟩::rest) (hset:¬ zo6 i=true) (hsz:sizeOk data) (no:({ cls:=.type nm,dict:=none,data }:Obj).isFreed=false) (fz:Bool)
  (hr:∀ H' h' da,s.heap.get? da=none→H' da=none→P da H' h'→RAt prog w H' h' s.heap (.ref da) r)
  (start:∀ it da cenv (RR:Result→Shared→Prop) s1,codeAny (model prog w) A (.compLoop e 0 it (.ref da) cenv) RR s1→wpAny (model prog w) A (pyIter it) (fun it' s'=>codeAny (model prog w) A (.compLoop e 0 it' (.ref da) cenv) RR s') (notedBy (model prog w) A cenv fun x s'=>RR (.error x) s') s1→codeAny (model prog w) A (.compStart e 0 it (.ref da) cenv) RR s1)
  (loop:y04 prog w KH csc A t (zD2 csc (if fz=true then zC4 csc q.2 else q.2)) e { cls:=.type nm,dict:=none,data } q.1 P)
  (hi:zA1 call (zC0 G (E0.e sc) sc (zE7 t) ρ i)=some q) (he:EnvOK env sc) (hro:Room A k) (hk:PLe KH H) (hs:St prog w H env ρ O s.heap)
  (hq:yn8 prog w A E use Q env H ρ O s r (if fz=true then zC4 csc q.2 else q.2)) :
  wpAny (model prog w) A (comprehension e csc env p0 (newObj (.type nm) data) false (eval i env) use) Q E s:=by
 refine xe (yN9 (yG1 ok he hs)) fun cl Y0=>?_;have hclos:=Y0.1;have c1:=Y0.2.1;have c2:=Y0.2.2;try clear Y0
 refine wpAny_comprehension_free hcl (fun x=>zi0 hset x) hclos (zZ0 ok) (z70 ok) ?_
 refine zq6 kok hE hi he hro hk hs fun it fp H1 O1 h1 t1 a1 hy self hfp=>?_
 refine wpAny_newObj_type (hd:=hsz) (wpAny_newFunctionEnv (binds:=[]) (yG0 ok) (fun uu hy=>nomatch hy) (fun h2 ns sb=>?_) (zZ0 ok))
 refine xe (yO0 ok he hs a1 hfp fz c1 c2 no ns sb) fun H2 Y0=>?_;refine xe Y0 fun O2 Y1=>?_;have a2:=Y1.1;have cst:=Y1.2.1;have le12:=Y1.2.2.1;have keep:=Y1.2.2.2.1;have cfp:=Y1.2.2.2.2.1;have cda:=Y1.2.2.2.2.2.1;have hda:=Y1.2.2.2.2.2.2.1;have cfr:=Y1.2.2.2.2.2.2.2;try clear Y0 Y1
 have hk1:PLe KH H1:=hk.trans a1.go.ext
 refine (fun x=>start it _ _ _ _ x (self _ _ _ (fun b uu o q=>keep b o q) x)) (loop it fp _ _ H2 O2 _ _ (yn6 ok he) (hk1.trans le12) (yn9 kok fun a o x=>a1.st.sub _ _ (hk1 _ _ x)) ⟨fun b uu=>rfl,cfp,cda⟩
  ⟨Go.refl,yn7,fun b x y=>absurd x y,cst,⟨H2,h2,hy.at (fun b uu o q=>keep b o q) le12,fun uu uu uu x=>x,PLe.refl H2⟩,hda⟩ fun H' O' h' tk uu yw st' la=>?_)
 have Y0:=yF9 hs a2 cfr yw st'.sub;have a3:=Y0.1;have f3:=Y0.2;try clear Y0
 have u:=f3 _ (.head _)
 have v:=f3 h1.objs.size (.tail _ (.head _))
 exact hq _ H' O2 h' tk _ a3 (hr _ _ _ v.1 v.2.1 la) st'.ns u.1 u.2.1 u.2.2 fun a x=>Value.ref.inj x▸(Heap.size_push ..▸Nat.ne_of_lt (Nat.lt_succ_self _))
theorem CI.to {c:CX} {P P':PH→Heap→Prop} {ds:List D} (i:CI prog w c P ds H1 O1 h1) (f:P H1 h1→P' H1 h1):CI prog w c P' ds H1 O1 h1:=⟨i.g,i.gB,i.nf,i.st,i.y,f i.acc⟩
theorem zb8 (kok:KOK G K KH) {E0 F0:Evs} (hE:∀ e,Sim prog w KH call k true sc (eval e) (fun ρ=>E0.e sc ρ e)) (hF:∀ e,Sim prog w KH call k false csc (eval e) (fun ρ=>F0.e csc ρ e))
  (hT:∀ e,zR4 prog w KH call k false csc (fun env=>isTrue e env (eval e env)) (fun ρ=>F0.t csc ρ e)) {elt:Expr} {gens:List Comprehension} {pos p0:Pos} {use:Option (Value→Sem Unit)}
  {A:Around} {s:Shared} {r:R} {Q:Value→Shared→Prop} {E:Value→Shared→Prop}
  (hi:zA1 call (zO3 G E0 F0 sc ρ elt gens csc)=some (r,ρ')) (he:EnvOK env sc) (hro:Room A k) (hk:PLe KH H) (hs:St prog w H env ρ O s.heap)
  (hq:yn8 prog w A E use Q env H ρ O s r ρ') :
  wpAny (model prog w) A (comprehension (.ListComp elt gens csc pos) csc env p0 (newList []) (firstAsync gens) (firstIter gens env) use) Q E s:=by
 cases gens with
 | nil=>exact nS hi
 | cons g rest =>
  obtain ⟨t,i,fs,a0⟩:=g
  refine iTk hi fun hck hi=>ibk hi fun q e1 hi=>ibk hi fun out e2 hi=>iNk hi fun hsh hi=>?_
  have Y0:=Bool.and_eq_true_iff.mp hck;have hsync:=Y0.1;have ok:=Y0.2;try clear Y0
  cases hi
  have Y0:=za4 hsync (n:=0) (g:=⟨t,i,fs,a0⟩) rfl;have ha0:=Y0.1;have hset:=Y0.2;try clear Y0
  obtain rfl:a0=0:=ha0
  exact zl5 kok hE (r:=.ownL out) (data:=.seq #[]) (P:=fun da=>zY9 prog w da out) ok rfl hset (by size_fits) rfl true (fun H' h' da v1 v2 la=>⟨_,rfl,v1,v2,la⟩) (fun it da cenv RR s1=>zY8 rfl)
   (fun it fp env da H O s RR he' hk' uu cw ci cd=>yc1 kok hF hT hsync rest 0 i fs 0 _ q.1 out [] RR rfl he' hro e2 hk' cw (ci.to fun x=>⟨#[],⟨0,x⟩,.nil⟩) (Nat.le_trans (Nat.le_of_eq (Nat.zero_add _)) (zD0 hsh)) cd) e1 he hro hk hs hq
theorem zb9 (kok:KOK G K KH) {E0 F0:Evs} (hE:∀ e,Sim prog w KH call k true sc (eval e) (fun ρ=>E0.e sc ρ e)) (hF:∀ e,Sim prog w KH call k false csc (eval e) (fun ρ=>F0.e csc ρ e))
  {kx vx:Expr} {gens:List Comprehension} {pos p0:Pos} {use:Option (Value→Sem Unit)}
  {A:Around} {s:Shared} {r:R} {Q:Value→Shared→Prop} {E:Value→Shared→Prop}
  (hi:zA1 call (zO4 G E0 F0 sc ρ kx vx gens csc)=some (r,ρ')) (he:EnvOK env sc) (hro:Room A k) (hk:PLe KH H) (hs:St prog w H env ρ O s.heap)
  (hq:yn8 prog w A E use Q env H ρ O s r ρ') :
  wpAny (model prog w) A (comprehension (.DictComp kx vx gens csc pos) csc env p0 newDict (firstAsync gens) (firstIter gens env) use) Q E s:=by
 match gens with
 | []=>exact nS hi
 | ⟨t,i,f::fs,a0⟩::_=>exact nS hi
 | ⟨t,i,[],a0⟩::g::_=>exact nS hi
 | [⟨t,i,[],a0⟩] =>
  refine iTk hi fun hck hi=>ibk hi fun q e1 hi=>ibk hi fun out e2 hi=>iNk hi fun hsh hi=>ibk hi fun es e3 hi=>?_
  have Y0:=Bool.and_eq_true_iff.mp hck;have hsync:=Y0.1;have ok:=Y0.2;try clear Y0
  cases hi
  have Y0:=za4 hsync (n:=0) (g:=⟨t,i,[],a0⟩) rfl;have ha0:=Y0.1;have hset:=Y0.2;try clear Y0
  obtain rfl:a0=0:=ha0
  exact zl5 kok hE (r:=.ownD es) (data:=.dict #[]) (P:=fun da=>zi4 prog w da es) ok rfl hset (by size_fits) rfl false (fun H' h' da v1 v2 la=>⟨_,rfl,v1,v2,la⟩) (fun it da cenv RR s1=>zq8)
   (fun it fp env da H O s RR he' hk' sm cw ci cd=>yc5 hF he' hro e2 (io e3) (zD0 hsh) hk' cw (ci.to fun x=>⟨#[],0,x,.nil,⟨List.nodup_nil,List.nodup_nil⟩,sm⟩) cd) e1 he hro hk hs hq
theorem z10 {A:Around} {s:Shared} {r:R} {Q:Value→Shared→Prop} {E:Value→Shared→Prop}
  (hq:∀ v H' O' h' (tk:Tk),After prog w true env H ρ O s.heap H' ρ' O' h'→RAt prog w H' h' s.heap v r→Q v { s with heap:=h',toks:=tk.1,drawn:=tk.2 }):yn8 prog w A E none Q env H ρ O s r ρ':=by
 intro v H' O' h' tk C a rr hn hC hH hap hv
 refine xe hn fun m ns=>?_;try clear hn
 refine ⟨m,ns,fun h'' sb=>?_⟩
 have keep:∀ b o,h'.get? b=some o→b ∉ [C]→h''.get? b=some o:=fun b o q hb=>by rw[sb.2 b (fun e=>hb (by simp[e]))];exact q
 have sub:Sub H' h'':=fun b o q=>keep b o (a.st.sub _ _ q) fun hb=>by
  rw[List.mem_singleton] at hb
  rw[hb,hH] at q;cases q
 refine hq v H' O' h'' tk ⟨a.go.ygo (fp:=[C]) (fun b hm=>by rw[List.mem_singleton] at hm;rw[hm];exact hC) (PLe.refl H') (fun b q q'=>absurd q q') keep,a.st.ygo (fp:=[C]) (fun b hm=>by rw[List.mem_singleton] at hm;rw[hm];exact hap) (PLe.refl H') (fun b q q'=>absurd q q') keep sub,a.sub,a.same,a.bound,a.bor⟩ ?_
 cases r with
 | val d=>exact rr
 | ownL ds=>refine xe rr fun x Y0=>?_;have e:=Y0.1;have h1:=Y0.2.1;have h2:=Y0.2.2.1;have h3:=Y0.2.2.2;try clear rr;try clear Y0;exact ⟨x,e,h1,h2,h3.keeps (PLe.refl H') fun o q=>by rw[sb.2 x (hv x e)];exact q⟩
 | ownD ds=>refine xe rr fun x Y0=>?_;have e:=Y0.1;have h1:=Y0.2.1;have h2:=Y0.2.2.1;have h3:=Y0.2.2.2;try clear rr;try clear Y0;exact ⟨x,e,h1,h2,DictAt.keeps h3 (PLe.refl H') fun o q=>by rw[sb.2 x (hv x e)];exact q⟩
theorem z71 (kok:KOK G K KH) {E0 F0:Evs} (hE:∀ e,Sim prog w KH call k true sc (eval e) (fun ρ=>E0.e sc ρ e)) (hF:∀ csc e,Sim prog w KH call k false csc (eval e) (fun ρ=>F0.e csc ρ e))
  (hT:∀ csc e,zR4 prog w KH call k false csc (fun env=>isTrue e env (eval e env)) (fun ρ=>F0.t csc ρ e)) {elt:Expr} {gens:List Comprehension} {csc:Scope} {pos:Pos} :
  Sim prog w KH call k true sc (eval (.ListComp elt gens csc pos)) (fun ρ=>zO3 G E0 F0 sc ρ elt gens csc):=by
 intro A env H ρ O s r ρ' Q E hi he hro hk hs hq
 rw[eval_ListComp]
 exact zb8 kok hE (hF csc) (hT csc) hi he hro hk hs (z10 hq)
theorem z72 (kok:KOK G K KH) {E0 F0:Evs} (hE:∀ e,Sim prog w KH call k true sc (eval e) (fun ρ=>E0.e sc ρ e)) (hF:∀ csc e,Sim prog w KH call k false csc (eval e) (fun ρ=>F0.e csc ρ e))
  {kx vx:Expr} {gens:List Comprehension} {csc:Scope} {pos:Pos} :
  Sim prog w KH call k true sc (eval (.DictComp kx vx gens csc pos)) (fun ρ=>zO4 G E0 F0 sc ρ kx vx gens csc):=by
 intro A env H ρ O s r ρ' Q E hi he hro hk hs hq
 rw[arm_eval_DictComp]
 exact zb9 kok hE (hF csc) hi he hro hk hs (z10 hq)
end
end Mine
namespace Mine
open PySem PySem.W PyProof.Rows PySem.Calls PySem.Builtin
noncomputable def zR7:Expr→Bool
 | .ListComp ..=>true
 | .SetComp ..=>true
 | .DictComp ..=>true
 | _=>false
theorem zT5 {value:Expr} {t:Option Expr} {l:Nat} {env:Env} (h:zR7 value=false):swapsWith value t l env=pure false:=by
 cases value<;>first | rfl | cases h
theorem yO1 {value:Expr} {x:Str} {p:Pos} {l:Nat} {env:Env}:∃ b,swapsWith value (some (.Name x p)) l env=pure b∧(b=true→env.kindOf x=some .local):=by
 cases hc:zR7 value with
 | false=>exact ⟨false,zT5 hc,fun e=>by cases e⟩
 | true =>
  cases value<;>first
   | (cases hc;done)
   | exact ⟨_,rfl,fun e=>beq_iff_eq.mp (Bool.and_eq_true_iff.mp (Bool.and_eq_true_iff.mp (Bool.and_eq_true_iff.mp e).1).1).2⟩
theorem zZ1 {value t:Expr} {l:Nat} {env:Env} (h:∀ x p,t≠.Name x p):swapsWith value (some t) l env=pure false:=by
 cases hc:zR7 value with
 | false=>exact zT5 hc
 | true =>
  cases value<;>first
   | (cases hc;done)
   | (cases t<;>first | rfl | exact absurd rfl (h _ _))
section
variable (prog:Program) (w:World) (KH:PH) (call:zB3) (k:Nat)
noncomputable def yO2 (sc:Scope) (value:Expr) (p:Rho→Prc (R×Rho)):Prop :=
 ∀ (A:Around) (env:Env) (H:PH) (ρ:Rho) (O:zB1) (s:Shared) (r:R) (ρ':Rho) (Q:Unit→Shared→Prop) (E:Value→Shared→Prop) (use:Value→Sem Unit),
  zA1 call (p ρ)=some (r,ρ')→EnvOK env sc→Room A k→PLe KH H→St prog w H env ρ O s.heap→yn8 prog w A E (some use) (fun uu s'=>Q () s') env H ρ O s r ρ'→wpAny (model prog w) A (evalThenUse value env use) Q E s
end
section
variable {prog:Program} {w:World} {G:PG} {K:Frag} {KH:PH} {call:zB3} {k:Nat} {sc:Scope} {env:Env} {H H':PH} {ρ ρ':Rho} {O O':zB1} {h h':Heap}
theorem zw8 (kok:KOK G K KH) {E0 F0:Evs} (hE:∀ e,Sim prog w KH call k true sc (eval e) (fun ρ=>E0.e sc ρ e)) (hF:∀ csc e,Sim prog w KH call k false csc (eval e) (fun ρ=>F0.e csc ρ e))
  (hT:∀ csc e,zR4 prog w KH call k false csc (fun env=>isTrue e env (eval e env)) (fun ρ=>F0.t csc ρ e)) {elt:Expr} {gens:List Comprehension} {csc:Scope} {pos:Pos} :
  yO2 prog w KH call k sc (.ListComp elt gens csc pos) (fun ρ=>zO3 G E0 F0 sc ρ elt gens csc):=by
 intro A env H ρ O s r ρ' Q E use hi he hro hk hs hq
 show wpAny _ A (comprehension (.ListComp elt gens csc pos) csc env (firstIterPos gens pos) (newList []) (firstAsync gens) (firstIter gens env) (some use) >>= fun uu=>pure ()) Q E s
 exact wpAny_bind (wpAny_mono (zb8 (Q:=fun uu s'=>Q () s') kok hE (hF csc) (hT csc) hi he hro hk hs hq) (fun uu uu q=>wpAny_pure q) fun uu uu e=>e)
theorem zw9 (kok:KOK G K KH) {E0 F0:Evs} (hE:∀ e,Sim prog w KH call k true sc (eval e) (fun ρ=>E0.e sc ρ e)) (hF:∀ csc e,Sim prog w KH call k false csc (eval e) (fun ρ=>F0.e csc ρ e))
  {kx vx:Expr} {gens:List Comprehension} {csc:Scope} {pos:Pos} :
  yO2 prog w KH call k sc (.DictComp kx vx gens csc pos) (fun ρ=>zO4 G E0 F0 sc ρ kx vx gens csc):=by
 intro A env H ρ O s r ρ' Q E use hi he hro hk hs hq
 show wpAny _ A (comprehension (.DictComp kx vx gens csc pos) csc env (firstIterPos gens pos) newDict (firstAsync gens) (firstIter gens env) (some use) >>= fun uu=>pure ()) Q E s
 exact wpAny_bind (wpAny_mono (zb9 (Q:=fun uu s'=>Q () s') kok hE (hF csc) hi he hro hk hs hq) (fun uu uu q=>wpAny_pure q) fun uu uu e=>e)
theorem zr3 {x:Str} (h:zN8 sc ρ x=true):(sc.names.lookup x == some .local || sc.names.lookup x == some .cell)=true∧∀ e0,ρ.lookup x=some e0→zG8 e0=false :=
 have h:=Bool.and_eq_true_iff.mp h
 ⟨h.1,yF2 fun e=>Bool.noConfusion ((congrArg (!·) e).symm.trans h.2)⟩
set_option tactic.hygienic true in
theorem zm4 {x:Str} {p0 pos:Pos} {value:Expr} {ev:Rho→Prc (R×Rho)} (hE:Sim prog w KH call k true sc (eval value) ev) (hU:zR7 value=true→yO2 prog w KH call k sc value ev) :
  zL0 prog w KH call k sc (exec (.Assign [.Name x p0] value pos)) (fun ρ=>(ev ρ).bind fun q=>if zN8 sc q.2 x then .pure (.next,q.2.set x q.1.toEnt) else .fail):=by
 intro A env H ρ O s fl ρ' Q E hi he hro hk hs hq
 refine ibk hi fun q h1 hi=>?_
 split at hi
 ·rename_i hst
  cases hi
  obtain ⟨hloc,hold⟩:=zr3 hst
  obtain ⟨b,hb,hbl⟩:=yO1 (value:=value) (x:=x) (p:=p0) (l:=pos.line) (env:=env)
  cases b with
  | false =>
   refine wpAny_Assign_Name (hE A env H ρ O s q.1 q.2 _ E h1 he hro hk hs fun v H' O' h' tk a rr=>?_) hb
   exact z64 (s:={ s with heap:=h',toks:=tk.1,drawn:=tk.2 }) he hs a (he.storable hloc) hold rr fun h2 O2 t2 uu uu a2=>hq .next H' O2 h2 (t2,tk.2) a2 rfl
  | true =>
   have hkx:=hbl rfl
   have hcmp:zR7 value=true:=by
    cases hc:zR7 value with
    | true=>rfl
    | false =>
     rw[zT5 hc] at hb
     exact absurd (congrArg (fun m:Sem Bool=>match m with | .pure b=>b | _=>true) hb) (by simp[pure])
   rw[exec_Assign_Name_used _ _ _ _ hb]
   refine wpAny_bind (wpAny_standAt (wpAny_bind ?_))
   refine hU hcmp A env H ρ O s q.1 q.2 _ E _ h1 he hro hk hs fun v H' O' h' tk C a rr hn hC hH hap hv=>?_
   obtain ⟨m,ns⟩:=hn
   show wpAny _ A (assign (.Name x p0) env v) _ E _
   refine wpAny_assign_Name (z64 (s:={ s with heap:=h',toks:=tk.1,drawn:=tk.2 }) he hs a (he.storable hloc) hold rr fun h2 O2 t2 ks ow a2=>?_)
   have sb:=ks hkx
   refine ⟨m,ns.sameBut sb hap.1,fun h3 sb3=>wpAny_pure ?_⟩
   refine hq .next H' O2 h3 (t2,tk.2) (a2.ygo (fp:=[C]) (fun b hm=>?_) (fun b hm=>by rw[List.mem_singleton] at hm;rw[hm];exact hC) (PLe.refl H') (fun b q q'=>absurd q q') (fun b o q hb=>by rw[sb3.2 b (fun e=>hb (by simp[e]))];exact q) fun b o q=>?_) rfl
   ·rw[List.mem_singleton] at hm
    subst hm
    refine ⟨hap.1,hap.2.1,fun y e=>?_⟩
    rcases ow y b e with z | z
    ·exact hap.2.2 y z
    ·exact hv b z rfl
   ·rw[sb3.2 b (fun e=>by rw[e,hH] at q;cases q)]
    exact a2.st.sub b o q
 ·cases hi
end
end Mine
namespace Mine
open PySem PySem.W PyProof.Rows PySem.Calls PySem.Builtin
section
variable (prog:Program) (w:World) (KH:PH) (call:zB3) (k:Nat)
noncomputable def zX0 (sc:Scope) (m:Env→Sem Flow) (p:Rho→Prc Rho):Prop :=
 ∀ (A:Around) (env:Env) (H:PH) (ρ:Rho) (O:zB1) (s:Shared) (ρ':Rho) (Q:Flow→Shared→Prop) (E:Value→Shared→Prop),
  zA1 call (p ρ)=some ρ'→EnvOK env sc→Room A k→PLe KH H→St prog w H env ρ O s.heap →
  (∀ H' O' h' (tk:Tk),AfterS prog w env H ρ O s.heap H' ρ' O' h'→Q .next { s with heap:=h',toks:=tk.1,drawn:=tk.2 }) →
  wpAny (model prog w) A (m env) Q E s
end
section
variable {prog:Program} {w:World} {G:PG} {K:Frag} {KH:PH} {call:zB3} {k:Nat} {sc:Scope} {env:Env} {H H':PH} {ρ ρ':Rho} {O O':zB1} {h h':Heap}
theorem zX0.s {m:Env→Sem Flow} {p:Rho→Prc Rho} (x:zX0 prog w KH call k sc m p):zL0 prog w KH call k sc m (fun ρ=>(p ρ).bind fun ρ'=>.pure (.next,ρ')):=by
 intro A env H ρ O s fl ρ' Q E hi he hro hk hs hq
 refine ibk hi fun ρ1 h1 hi=>?_
 cases hi
 exact x A env H ρ O s _ Q E h1 he hro hk hs fun H' O' h' tk a=>hq .next H' O' h' tk a rfl
set_option tactic.hygienic true in
theorem yc6 {x:Str} {p0 pos:Pos} {value:Expr} {ev:Rho→Prc (R×Rho)} (hE:Sim prog w KH call k true sc (eval value) ev) (hU:zR7 value=true→yO2 prog w KH call k sc value ev) :
  zX0 prog w KH call k sc (exec (.Assign [.Name x p0] value pos)) (fun ρ=>(ev ρ).bind fun q=>if zN8 sc q.2 x then .pure (q.2.set x q.1.toEnt) else .fail):=by
 intro A env H ρ O s ρ' Q E hi he hro hk hs hq
 refine ibk hi fun q h1 hi=>?_
 split at hi
 ·rename_i hst
  cases hi
  refine zm4 hE hU A env H ρ O s Fl.next _ Q E (?_:zA1 call ((ev ρ).bind fun q=>if zN8 sc q.2 x then .pure (Fl.next,q.2.set x q.1.toEnt) else .fail)=some (Fl.next,q.2.set x q.1.toEnt)) he hro hk hs fun f H' O' h' tk a hf=>?_
  ·rw[zQ2,h1,Option.bind_some,if_pos hst];rfl
  ·have:f=.next:=hf
   subst this
   exact hq H' O' h' tk a
 ·cases hi
theorem yV2 {value:Expr} (hv:∀ vs k p,value≠.Tuple vs k p) {ts:List Expr} {k0:Nat} {p:Pos}:swappedStores [.Tuple ts k0 p] value env=pure none:=by
 cases value<;>first | rfl | exact absurd rfl (hv _ _ _)
theorem zV3 {value:Expr} {ts:List Expr} {k0:Nat} {p:Pos} {l:Nat}:swapsWithSole [.Tuple ts k0 p] value l env=pure false:=by
 show swapsWith value (some (.Tuple ts k0 p)) l env=pure false
 exact zZ1 fun uu uu e=>by cases e
theorem yO3 {ts:List Expr} {k0:Nat} {p pos:Pos} {value:Expr} {ev:Rho→Prc (R×Rho)} (hE:Sim prog w KH call k true sc (eval value) ev) (hv:∀ vs k p,value≠.Tuple vs k p) :
  zX0 prog w KH call k sc (exec (.Assign [.Tuple ts k0 p] value pos)) (fun ρ=>(ev ρ).bind fun q=>zB5 (zB9 sc (.Tuple ts k0 p) q.1.toD q.2)):=by
 intro A env H ρ O s ρ' Q E hi he hro hk hs hq
 refine ibk hi fun q h1 hi=>?_
 have hi:=io hi
 refine Assign_Tuple (hE.v A env H ρ O s q.1 q.2 _ E h1 he hro hk hs fun v H' O' h' tk a rr=>?_) zV3 (yV2 hv)
 exact zN2 he _ _ _ _ hi A H' O' { s with heap:=h',toks:=tk.1,drawn:=tk.2 } v _ _ hro.hh a.st rr fun O2 h2 t2 uu a2=>hq H' O2 h2 (t2,tk.2) (a.s.trans a2)
theorem zr4 {ts:List Expr} {k0:Nat} {p pos:Pos} {value:Expr} {ds:List D} (hp:zX4 sc ρ value=some ds) (hds:zS3 sc ts ds ρ=some ρ') {A:Around} {s:Shared} {Q:Flow→Shared→Prop} {E:Value→Shared→Prop}
  (he:EnvOK env sc) (hro:Room A k) (hk:PLe KH H) (hs:St prog w H env ρ O s.heap) (hq:∀ H' O' h' (tk:Tk),AfterS prog w env H ρ O s.heap H' ρ' O' h'→Q .next { s with heap:=h',toks:=tk.1,drawn:=tk.2 }) :
  wpAny (model prog w) A (exec (.Assign [.Tuple ts k0 p] value pos) env) Q E s:=by
 obtain ⟨y,py,a,rfl,hv,n1,n2,n3⟩:=zf8 he hs hp
 refine Assign_Tuple (zJ0 he n1 ?_) zV3 (yV2 fun uu uu uu e=>by cases e)
 rw[arm_assign_Tuple]
 refine wpAny_bind (wpAny_standAt ?_)
 obtain ⟨⟨q1,q2⟩,main⟩:=z65 (prog:=prog) (w:=w) he ts ds ρ ρ' hds
 obtain ⟨vs,pl,hr⟩:=n3
 refine zl0 hro.hh pl.isList (q1.trans hr.length.symm) q2 fun h' hx=>?_
 have e1:=Ext.grow hs.sub (zQ7 hx)
 refine main A H O { s with heap:=h' } vs.toList _ E hro.hh (hs.ext e1) hr fun O' h2 tk kl a=>?_
 exact hq H O' h2 (tk,s.drawn) ((After.of_ext (sf:=false) hs e1).s.trans a)
end
end Mine
namespace Mine
open PySem PySem.W PyProof.Rows PySem.Calls PySem.Builtin
inductive Fit {α β:Type} (P:α→β→Prop):List α→List β→Prop
 | nil:Fit P [] []
 | cons {a b as bs}:P a b→Fit P as bs→Fit P (a::as) (b::bs)
noncomputable def zK2:R→Value→Option Addr
 | .val _,_=>none
 | _,.ref a=>some a
 | _,_=>none
noncomputable def zV4 (ρ:Rho) (L:List (Str×Value×R)):Rho:=L.foldl (fun ρ t=>ρ.set t.1 t.2.2.toEnt) ρ
theorem zV5 {L:List (Str×Value×R)} {ρ:Rho} {y:Str} (h:y ∉ L.map (·.1)):(zV4 ρ L).lookup y=ρ.lookup y:=by
 induction L generalizing ρ with
 | nil=>rfl
 | cons t L ih =>
  simp only[List.map_cons,List.mem_cons,not_or] at h
  show (zV4 (ρ.set t.1 t.2.2.toEnt) L).lookup y=_
  rw[ih h.2,Rho.lookup_set,if_neg h.1]
theorem zd9 {L:List (Str×Value×R)} {ρ:Rho} (hn:(L.map (·.1)).Nodup) {t:Str×Value×R} (h:t∈L):(zV4 ρ L).lookup t.1=some t.2.2.toEnt:=by
 induction L generalizing ρ with
 | nil=>simp at h
 | cons u L ih =>
  rw[List.map_cons,List.nodup_cons] at hn
  show (zV4 (ρ.set u.1 u.2.2.toEnt) L).lookup t.1=_
  rcases List.mem_cons.mp h with rfl | h
  ·rw[zV5 hn.1,Rho.lookup_set,if_pos rfl]
  ·exact ih hn.2 h
theorem zr5 {L:List (Str×Value×R)} {ρ:Rho} (hn:(L.map (·.1)).Nodup) (y:Str):(zV4 ρ L.reverse).lookup y=(zV4 ρ L).lookup y:=by
 have hn':(L.reverse.map (·.1)).Nodup:=by rw[List.map_reverse];exact List.pairwise_reverse.mpr (hn.imp fun h e=>h e.symm)
 by_cases h:y∈L.map (·.1)
 ·rw[List.mem_map] at h
  refine xe h fun t Y0=>?_;have ht:=Y0.1;obtain rfl:=Y0.2;try clear h;try clear Y0
  rw[zd9 hn ht,zd9 hn' (List.mem_reverse.mpr ht)]
 ·rw[zV5 h,zV5 (by rw[List.map_reverse,List.mem_reverse];exact h)]
theorem z11 (r:R):zG8 r.toEnt=false:=by cases r<;>rfl
section
variable {prog:Program} {w:World} {G:PG} {K:Frag} {KH:PH} {call:zB3} {k:Nat} {sc:Scope} {env:Env} {H H' H1 H2:PH} {ρ ρ' ρ1 ρ2:Rho} {O O' O1 O2:zB1} {h h' h1 h2 h0:Heap}
theorem RAt.ownH {v:Value} {r:R} (x:RAt prog w H h h0 v r) {a:Addr} (ha:zK2 r v=some a):v=.ref a∧h0.get? a=none∧H a=none∧h.get? a≠none:=by
 cases r with
 | val d=>cases ha
 | ownL ds =>
  refine xe x fun b Y0=>?_;obtain rfl:=Y0.1;have q1:=Y0.2.1;have q2:=Y0.2.2.1;have q3:=Y0.2.2.2;try clear x;try clear Y0
  cases ha
  refine ⟨rfl,q1,q2,?_⟩
  refine xe q3 fun vs Y0=>?_;refine xe Y0.1 fun n p=>?_;try clear q3;try clear Y0;exact zB4 p
 | ownD es =>
  refine xe x fun b Y0=>?_;obtain rfl:=Y0.1;have q1:=Y0.2.1;have q2:=Y0.2.2.1;have q3:=Y0.2.2.2;try clear x;try clear Y0
  cases ha
  exact ⟨rfl,q1,q2,q3.live⟩
theorem RAt.keepR {v:Value} {r:R} (x:RAt prog w H h h0 v r) (le:PLe H H') (hn:∀ a,zK2 r v=some a→H' a=none) (hk:∀ a o,zK2 r v=some a→h.get? a=some o→h'.get? a=some o):RAt prog w H' h' h0 v r:=by
 cases r with
 | val d=>exact Rep.mono le x
 | ownL ds=>refine xe x fun b Y0=>?_;obtain rfl:=Y0.1;have q1:=Y0.2.1;have q2:=Y0.2.2.1;have q3:=Y0.2.2.2;try clear x;try clear Y0;exact ⟨b,rfl,q1,hn b rfl,q3.keeps le fun o q=>hk b o rfl q⟩
 | ownD es=>refine xe x fun b Y0=>?_;obtain rfl:=Y0.1;have q1:=Y0.2.1;have q2:=Y0.2.2.1;have q3:=Y0.2.2.2;try clear x;try clear Y0;exact ⟨b,rfl,q1,hn b rfl,q3.keeps le fun o q=>hk b o rfl q⟩
theorem RAt.entAt {v:Value} {r:R} (x:RAt prog w H h h0 v r) {y:Str} {O':zB1} (hO:O' y=zK2 r v):zQ4 prog w H h O' y v r.toEnt:=by
 cases r with
 | val d=>exact x
 | ownL ds=>refine xe x fun b Y0=>?_;obtain rfl:=Y0.1;have q1:=Y0.2.1;have q2:=Y0.2.2.1;have q3:=Y0.2.2.2;try clear x;try clear Y0;exact ⟨b,rfl,hO,q3⟩
 | ownD es=>refine xe x fun b Y0=>?_;obtain rfl:=Y0.1;have q1:=Y0.2.1;have q2:=Y0.2.2.1;have q3:=Y0.2.2.2;try clear x;try clear Y0;exact ⟨b,rfl,hO,q3⟩
theorem yG2 (he:EnvOK env sc) {A:Around} {E:Value→Shared→Prop}:∀ (L:List (Str×Value×R)) (fs:List (Value→Sem Unit)),Fit (fun f t=>∀ v (Q:Unit→Shared→Prop) s,wpAny (model prog w) A (storeName env t.1 v) Q E s→wpAny (model prog w) A (f v) Q E s) fs L →
  ∀ (ρ:Rho) (O:zB1) (s:Shared) (Q:Unit→Shared→Prop),St prog w H env ρ O s.heap→(∀ t∈L,env.kindOf t.1=some .local)→(∀ t∈L,∀ e0,ρ.lookup t.1=some e0→zG8 e0=false)→(L.map (·.1)).Nodup →
   (∀ t∈L,RAt prog w H s.heap h0 t.2.1 t.2.2∧∀ a,zK2 t.2.2 t.2.1=some a→a≠env.locals∧(∀ y,env.cells.lookup y≠some a)∧∀ y,O y≠some a) →
   L.Pairwise (fun t u=>∀ a,zK2 t.2.2 t.2.1=some a→zK2 u.2.2 u.2.1≠some a) →
   (∀ O' h' tk,St prog w H env (zV4 ρ L) O' h'→(∀ b o,s.heap.get? b=some o→b≠env.locals→h'.get? b=some o)→(∀ b,s.heap.get? b≠none→h'.get? b≠none)→(∀ y a,O' y=some a→O y=some a∨∃ t∈L,zK2 t.2.2 t.2.1=some a)→(∀ y,y ∉ L.map (·.1)→O' y=O y)→Q () { s with heap:=h',toks:=tk }) →
   wpAny (model prog w) A (assignInOrder fs (L.map (·.2.1))) Q E s
 | [],fs,hf,ρ,O,s,Q,st,_,_,_,_,_,hq=>by
  cases hf
  exact wpAny_pure (hq O s.heap s.toks st (fun uu uu q uu=>q) (fun uu q=>q) (fun y a q=>.inl q) fun uu uu=>rfl)
 | t::L,fs,hf,ρ,O,s,Q,st,hloc,hold,hnd,hr,hp,hq=>by
  cases hf with
  | @cons f _ fs' _ hft hfs =>
   rw[List.map_cons,List.nodup_cons] at hnd
   rw[List.pairwise_cons] at hp
   have Y0:=hr t (by simp);have hr1:=Y0.1;have hr2:=Y0.2;try clear Y0
   have hkl:=hloc t (by simp)
   refine wpAny_bind (wpAny_holding (hft _ _ _ ?_))
   refine zU9 (a':=zK2 t.2.2 t.2.1) (e:=t.2.2.toEnt) he st (.inl hkl) (hold t (by simp)) (fun h' hk=>?_) (z11 _) (fun c hc=>?_) fun h' tk ks s1 uu lv=>?_
   ·refine (hr1.keepR (PLe.refl H) (fun a ha=>(hr1.ownH ha).2.2.1) fun a o ha q=>hk a o q ⟨(hr2 a ha).1,(hr2 a ha).2.1⟩).entAt ?_
    unfold zB1.upd;rw[if_pos rfl]
   ·have Y0:=hr2 c hc;have z1:=Y0.1;have z2:=Y0.2.1;have z3:=Y0.2.2;try clear Y0
    exact ⟨(hr1.ownH hc).2.2.1,z1,z2,(hr1.ownH hc).2.2.2,fun y uu=>z3 y⟩
   ·have sb:=ks hkl
    have keep:∀ b o,s.heap.get? b=some o→b≠env.locals→h'.get? b=some o:=fun b o q hb=>by rw[sb.2 b hb];exact q
    refine yG2 he L fs' hfs (ρ.set t.1 t.2.2.toEnt) (O.upd t.1 (zK2 t.2.2 t.2.1)) { s with heap:=h',toks:=tk } Q s1 (fun u hu=>hloc u (List.mem_cons_of_mem _ hu)) (fun u hu e0 hl=>?_) hnd.2 (fun u hu=>?_) hp.2 fun O' h2 t2 s2 k2 lv2 o2 n2=>?_
    ·rw[Rho.lookup_set,if_neg (fun e=>hnd.1 (by rw[← e];exact List.mem_map.mpr ⟨u,hu,rfl⟩))] at hl
     exact hold u (List.mem_cons_of_mem _ hu) e0 hl
    ·have Y0:=hr u (List.mem_cons_of_mem _ hu);have u1:=Y0.1;have u2:=Y0.2;try clear Y0
     refine ⟨u1.keepR (PLe.refl H) (fun a ha=>(u1.ownH ha).2.2.1) fun a o ha q=>keep a o q (u2 a ha).1,fun a ha=>⟨(u2 a ha).1,(u2 a ha).2.1,fun y q=>?_⟩⟩
     unfold zB1.upd at q
     split at q
     ·exact hp.1 u hu a q ha
     ·exact (u2 a ha).2.2 y q
    ·refine hq O' h2 t2 s2 (fun b o q hb=>k2 b o (keep b o q hb) hb) (fun b q=>lv2 b (lv b q)) (fun y a q=>?_) fun y hy=>?_
     ·rcases o2 y a q with z | ⟨u,hu,z⟩
      ·unfold zB1.upd at z
       split at z
       ·exact .inr ⟨t,by simp,z⟩
       ·exact .inl z
      ·exact .inr ⟨u,List.mem_cons_of_mem _ hu,z⟩
     ·simp only[List.map_cons,List.mem_cons,not_or] at hy
      rw[n2 y hy.2];unfold zB1.upd;rw[if_neg hy.1]
set_option tactic.hygienic true in
theorem yo0 {ev:Rho→Expr→Prc (R×Rho)} {pos:Pos} (hE:∀ e,Sim prog w KH call k true sc (eval e) (fun ρ=>ev ρ e)):∀ (es:List Expr) (A:Around) (env:Env) (H:PH) (ρ:Rho) (O:zB1) (s:Shared) (rs:List R) (ρ':Rho) (Q:List Value→Shared→Prop) (E:Value→Shared→Prop),
   zA1 call (zc9 ev es ρ)=some (rs,ρ')→EnvOK env sc→Room A k→PLe KH H→St prog w H env ρ O s.heap →
   (∀ vs H' O' h' (tk:Tk),After prog w true env H ρ O s.heap H' ρ' O' h'→vs.length=rs.length→(∀ t∈vs.zip rs,RAt prog w H' h' s.heap t.1 t.2)→(vs.zip rs).Pairwise (fun t u=>∀ a,zK2 t.2 t.1=some a→zK2 u.2 u.1≠some a)→Q vs { s with heap:=h',toks:=tk.1,drawn:=tk.2 }) →
   wpAny (model prog w) A (spliced (backTo pos (starEach es env))) Q E s
 | []=>by
  intro A env H ρ O s rs ρ' Q E hi he hro hk hs hq
  cases hi
  exact spliced_none (hq [] H O s.heap (s.toks,s.drawn) (After.refl hs) rfl (by simp) (by simp))
 | e::es=>by
  intro A env H ρ O s rs ρ' Q E hi he hro hk hs hq
  simp only[zc9] at hi
  split at hi
  ·cases hi
  ·rename_i hst
   refine ibk hi fun p h1 hi=>?_
   refine ibk hi fun q h2 hi=>?_
   cases hi
   refine spliced_more ?_ (zG0 hst)
   refine hE e A env H ρ O s p.1 p.2 _ E h1 he hro hk hs fun v H1 O1 g1 t1 a1 r1=>?_
   refine yo0 hE es A env H1 p.2 O1 { s with heap:=g1,toks:=t1.1,drawn:=t1.2 } q.1 q.2 _ E h2 he hro (hk.trans a1.go.ext) a1.st fun vs H2 O2 g2 t2 a2 hl rr pw=>?_
   have nO:∀ a,zK2 p.1 v=some a→∀ x,O1 x≠some a:=fun a ha x e=>a1.bound x a (a1.sub x a e) (r1.ownH ha).2.1
   have r1':RAt prog w H2 g2 s.heap v p.1:=r1.keepR a2.go.ext (fun a ha=>by
     cases q':H2 a with
     | none=>rfl
     | some o =>
      rcases a2.go.new a (r1.ownH ha).2.2.1 (by rw[q'];exact fun z=>nomatch z) with z | ⟨x,z⟩
      ·exact absurd z (r1.ownH ha).2.2.2
      ·exact absurd z (nO a ha x)) fun a o ha q'=>a2.go.keep a o q' fun hb=>by
     refine xe hb.2 fun x z=>?_;try clear hb
     exact nO a ha x z
   refine hq (v::vs) H2 O2 g2 t2 (a1.trans a2) (by simp[hl]) (fun t ht=>?_) ?_
   ·simp only[List.zip_cons_cons,List.mem_cons] at ht
    rcases ht with rfl | ht
    ·exact r1'
    ·exact (rr t ht).lo a1.go.live
   ·simp only[List.zip_cons_cons,List.pairwise_cons]
    exact ⟨fun u hu a ha hb=>(r1.ownH ha).2.2.2 ((rr u hu).ownH hb).2.1,pw⟩
end
end Mine
namespace Mine
open PySem PySem.W PyProof.Rows PySem.Calls PySem.Builtin
theorem z73 {α β:Type} (f:α→Option β) (l:List α):(l.filterMap f).length≤l.length:=List.length_filterMap_le f l
theorem zc0 {f:Expr→Option Str} (hf:∀ t x,f t=some x→zN6 t=some x):∀ (ts:List Expr),(ts.filterMap f).length=ts.length→zU2 ts=some (ts.filterMap f)
 | [],_=>rfl
 | t::ts,h=>by
  cases ht:f t with
  | none =>
   rw[List.filterMap_cons_none ht] at h
   have:=z73 f ts
   simp only[List.length_cons] at h
   omega
  | some x =>
   rw[List.filterMap_cons_some ht] at h ⊢
   simp only[List.length_cons,Nat.add_right_cancel_iff] at h
   simp only[zU2,hf t x ht,zc0 hf ts h,Option.bind_some]
noncomputable def SwP (ts:List Expr) (m:Sem (Option (List Str))):Prop:=∃ o,m=pure o∧(o=none∨∃ names,o=some names∧zU2 ts=some names)
theorem z74 {ts:List Expr} {c:Prop} [Decidable c] {m:Sem (Option (List Str))} (h:¬ c→SwP ts m):SwP ts (if c then pure none else m):=by
 by_cases hc:c
 ·rw[if_pos hc];exact ⟨none,rfl,.inl rfl⟩
 ·rw[if_neg hc];exact h hc
theorem y05 {ts:List Expr} {c:Prop} [Decidable c] {x m:Sem (Option (List Str))} (hc:¬ c) (h:SwP ts m):SwP ts (if c then x else m):=by
 rw[if_neg hc];exact h
theorem xP4 {a b:Nat} {c:Bool} (h:¬ (a != b || c)=true):a=b:=Decidable.of_not_not fun e=>h (by rw[bne_iff_ne.mpr e];rfl)
theorem zx0 {ts vs:List Expr} {k0 k1:Nat} {p p1:Pos} {env:Env} (hc:vs.all (constantsAlone 8)=false):SwP ts (swappedStores [.Tuple ts k0 p] (.Tuple vs k1 p1) env):=by
 refine z74 fun uu=>z74 fun uu=>z74 fun hn=>z74 fun uu=>y05 (Bool.eq_false_iff.mp hc) ⟨_,rfl,.inr ⟨_,rfl,zc0 (fun t x h=>?_) ts (xP4 hn)⟩⟩
 cases t with
 | Name id pos=>exact oTk h fun uu e=>e
 | _=>exact nS h
section
variable {prog:Program} {w:World} {G:PG} {K:Frag} {KH:PH} {call:zB3} {k:Nat} {sc:Scope} {env:Env} {H H' H1 H2:PH} {ρ ρ' ρ1 ρ2:Rho} {O O' O1 O2:zB1} {h h' h1 h2 h0:Heap}
theorem zr6:∀ {ts:List Expr} {xs:List Str},zU2 ts=some xs→∃ ps:List Pos,ps.length=xs.length∧ts=(xs.zip ps).map fun q=>Expr.Name q.1 q.2
 | [],xs,h=>⟨[],Option.some.inj h▸⟨rfl,rfl⟩⟩
 | t::ts,xs,h=>obk h fun x h1 g=>obk g fun ys h2 g1=>by
  refine xe (zr6 h2) fun ps Y0=>?_;have l:=Y0.1;have e:=Y0.2;try clear Y0
  refine xe (zF7 h1) fun pp Y0=>?_;obtain rfl:=Y0;try clear Y0
  obtain rfl:=Option.some.inj g1
  exact ⟨pp::ps,congrArg (·+1) l,congrArg (Expr.Name x pp::·) e⟩
theorem zl6:∀ (xs:List Str) (ps:List Pos) (vs:List Value) (rs:List R) (ρ ρ':Rho),ps.length=xs.length→vs.length=rs.length→zf4 sc ((xs.zip ps).map fun q=>Expr.Name q.1 q.2) rs ρ=some ρ'→xs.Nodup →
  ρ'=zV4 ρ (xs.zip (vs.zip rs))∧(∀ t∈xs.zip (vs.zip rs),sc.names.lookup t.1=some .local∧∀ e0,ρ.lookup t.1=some e0→zG8 e0=false)∧rs.length=xs.length
 | [],ps,vs,rs,ρ,ρ',hl,hv,hs,hn=>oTk hs fun he hs=>isEmpty_nil he▸⟨(Option.some.inj hs).symm,fun uu m=>(nomatch m),rfl⟩
 | x::xs,[],vs,rs,ρ,ρ',hl,hv,hs,hn=>Nat.noConfusion hl
 | x::xs,p::ps,[],rs,ρ,ρ',hl,hv,hs,hn=>obk hs fun uu uu hs=>obk hs fun q h2 uu=>Nat.noConfusion (hv.trans (congrArg List.length (zV0 h2)))
 | x::xs,p::ps,v::vs,rs,ρ,ρ',hl,hv,hs,hn=>obk hs fun x' h1 g=>obk g fun q h2 g1=>oTk g1 fun hc g2=>by
  obtain rfl:=Option.some.inj h1
  obtain rfl:=zV0 h2
  have hn:=List.nodup_cons.mp hn
  have hc:=Bool.and_eq_true_iff.mp hc
  have Y0:=zl6 xs ps vs q.2 _ _ (Nat.succ.inj hl) (Nat.succ.inj hv) g2 hn.2;have i1:=Y0.1;have i2:=Y0.2.1;have i3:=Y0.2.2;try clear Y0
  refine ⟨i1,fun t ht=>(List.mem_cons.mp ht).elim (fun e=>e▸⟨eq_of_beq hc.2,(zr3 hc.1).2⟩) fun ht=>⟨(i2 t ht).1,fun e0 hl0=>(i2 t ht).2 e0 ((Rho.lookup_set ..).trans ((if_neg (show ¬ t.1=x from fun e=>hn.1 (e▸(List.of_mem_zip ht).1))).trans hl0))⟩,congrArg (·+1) i3⟩
theorem z12 {A:Around} {E:Value→Shared→Prop}:∀ (xs:List Str) (ps:List Pos) (us:List (Value×R)),ps.length=xs.length→us.length=xs.length →
  Fit (fun f (t:Str×Value×R)=>∀ v (Q:Unit→Shared→Prop) s,wpAny (model prog w) A (storeName env t.1 v) Q E s→wpAny (model prog w) A (f v) Q E s) ((assignEach ((xs.zip ps).map fun q=>Expr.Name q.1 q.2) env).map (·.2)) (xs.zip us) ∧
  (assignEach ((xs.zip ps).map fun q=>Expr.Name q.1 q.2) env).length=xs.length∧(assignEach ((xs.zip ps).map fun q=>Expr.Name q.1 q.2) env).findIdx? (·.1)=none
 | [],ps,us,hp,hu=>⟨by cases us<;>cases ps<;>exact .nil,by cases ps<;>rfl,by cases ps<;>rfl⟩
 | x::xs,[],us,hp,hu=>by simp at hp
 | x::xs,p::ps,[],hp,hu=>by simp at hu
 | x::xs,p::ps,u::us,hp,hu=>by
  obtain ⟨i1,i2,i3⟩:=z12 xs ps us (by simpa using hp) (by simpa using hu)
  simp only[List.zip_cons_cons,List.map_cons]
  rw[zW4 (show ¬ zE3 (.Name x p)=true from Bool.false_ne_true)]
  refine ⟨.cons (fun v Q s hq=>wpAny_assign_Name hq) i1,by simp[i2],?_⟩
  rw[List.findIdx?_cons]
  simp[i3]
theorem yG3 {A:Around} {E:Value→Shared→Prop}:∀ (xs:List Str) (us:List (Value×R)),us.length=xs.length →
  Fit (fun f (t:Str×Value×R)=>∀ v (Q:Unit→Shared→Prop) s,wpAny (model prog w) A (storeName env t.1 v) Q E s→wpAny (model prog w) A (f v) Q E s) (xs.map fun n=>bindName env n) (xs.zip us)
 | [],us,hu=>by cases us<;>exact .nil
 | x::xs,[],hu=>by simp at hu
 | x::xs,u::us,hu=>.cons (fun v Q s hq=>wpAny_bindName hq) (yG3 xs us (by simpa using hu))
theorem yO4 {α β:Type} {P:α→β→Prop} {as as':List α} {bs bs':List β} (h:Fit P as bs) (h':Fit P as' bs'):Fit P (as++as') (bs++bs'):=by
 induction h with
 | nil=>exact h'
 | cons h1 _ ih=>exact .cons h1 ih
theorem yG4 {α β:Type} {P:α→β→Prop} {as:List α} {bs:List β} (h:Fit P as bs):Fit P as.reverse bs.reverse:=by
 induction h with
 | nil=>exact .nil
 | cons h1 _ ih=>rw[List.reverse_cons,List.reverse_cons];exact yO4 ih (.cons h1 .nil)
set_option tactic.hygienic true in
theorem yO5 {ev:Rho→Expr→Prc (R×Rho)} (hE:∀ e,Sim prog w KH call k true sc (eval e) (fun ρ=>ev ρ e)) {ts vs:List Expr} {k0 k1:Nat} {p p1 pos:Pos} (hdn:zR2 ts=true) (hc:vs.all (constantsAlone 8)=false) (hsz:Nat.ble vs.length 1000=true) :
  zX0 prog w KH call k sc (exec (.Assign [.Tuple ts k0 p] (.Tuple vs k1 p1) pos)) (fun ρ=>(zc9 ev vs ρ).bind fun q=>zB5 (zf4 sc ts q.1 q.2)):=by
 intro A env H ρ O s ρ' Q E hi he hro hk hs hq
 refine ibk hi fun q h1 hi=>?_
 have hi:=io hi
 unfold zR2 at hdn
 split at hdn
 ·rename_i xs hxs
  rw[decide_eq_true_eq] at hdn
  refine xe (zr6 hxs) fun ps Y0=>?_;have hpl:=Y0.1;have hts:=Y0.2;try clear Y0
  have hlen:∀ (es:List Expr) (ρ:Rho) q,zA1 call (zc9 ev es ρ)=some q→q.1.length=es.length:=by
   intro es
   induction es with
   | nil=>intro ρ q h;cases h;rfl
   | cons e es ih =>
    intro ρ q h
    simp only[zc9] at h
    split at h
    ·cases h
    ·refine ibk h fun p uu h=>?_
     refine ibk h fun q' h2 h=>?_
     cases h
     simp[ih _ _ h2]
  have hq1:=hlen _ _ _ h1
  have hvl:vs.length≤1000:=Nat.le_of_ble_eq_true hsz
  have core:∀ (o:Option (List Str)),(o=none∨∃ names,o=some names∧zU2 ts=some names)→wpAny (model prog w) A (eval (.Tuple vs k1 p1) env) (fun v s₁=>match o with
    | none=>wpAny (model prog w) A (assign (.Tuple ts k0 p) env v) (fun uu=>Q .next) E s₁
    | some names=>wpAny (model prog w) A (unpackItems v names.length none) (fun items s₂=>wpAny (model prog w) A (assignInOrder (names.reverse.map fun n=>bindName env n) items.reverse) (fun uu=>Q .next) E s₂) E s₁) E s:=by
   intro o ho
   rw[arm_eval_Tuple]
   refine wpAny_bind (wpAny_standAt (wpAny_bind (yo0 hE vs A env H ρ O s q.1 q.2 _ E h1 he hro hk hs fun us H' O' h' tk a hul hus hpw=>?_)))
   have husz:us.length≤1000:=by rw[hul,hq1];exact hvl
   refine wpAny_newObj_type ?_ (by
    show us.toArray.size≤sizeLine
    rw[List.size_toArray,sizeLine_eq];omega)
   subst hts
   have Y0:=zl6 xs ps us q.1 q.2 ρ' hpl hul hi hdn;have e1:=Y0.1;have e2:=Y0.2.1;have e3:=Y0.2.2;try clear Y0
   have hzl:(us.zip q.1).length=xs.length:=by rw[List.length_zip,hul,Nat.min_self,e3]
   have nm:((xs.zip (us.zip q.1)).map (·.1))=xs:=by
    rw[List.map_fst_zip]
    omega
   have vl:((xs.zip (us.zip q.1)).map (·.2.1))=us:=by
    have:((xs.zip (us.zip q.1)).map (·.2.1))=((xs.zip (us.zip q.1)).map (·.2)).map (·.1):=by rw[List.map_map];rfl
    rw[this,List.map_snd_zip (by omega),List.map_fst_zip (by omega)]
   have pw:(xs.zip (us.zip q.1)).Pairwise (fun t u=>∀ a,zK2 t.2.2 t.2.1=some a→zK2 u.2.2 u.2.1≠some a):=by
    have h2:((xs.zip (us.zip q.1)).map (·.2)).Pairwise (fun t u=>∀ a,zK2 t.2 t.1=some a→zK2 u.2 u.1≠some a):=by rw[List.map_snd_zip (by omega)];exact hpw
    exact List.pairwise_map.mp h2
   have hr:∀ t∈xs.zip (us.zip q.1),RAt prog w H' h' s.heap t.2.1 t.2.2:=fun t ht=>hus _ (List.of_mem_zip ht).2
   have zN8:∀ (h2:Heap) (tk2:Tk) (fs:List (Value→Sem Unit)) (L:List (Str×Value×R)),(∀ b o,h'.get? b=some o→h2.get? b=some o)→L=xs.zip (us.zip q.1)∨L=(xs.zip (us.zip q.1)).reverse →
     Fit (fun f (t:Str×Value×R)=>∀ v (Q:Unit→Shared→Prop) s,wpAny (model prog w) A (storeName env t.1 v) Q E s→wpAny (model prog w) A (f v) Q E s) fs L →
     wpAny (model prog w) A (assignInOrder fs (L.map (·.2.1))) (fun uu=>Q .next) E { s with heap:=h2,toks:=tk2.1,drawn:=tk2.2 }:=by
    intro h2 tk2 fs L hk2 hL hfit
    have a2:=a.ext (Ext.grow a.st.sub hk2)
    have mem:∀ t∈L,t∈xs.zip (us.zip q.1):=fun t ht=>by
     rcases hL with rfl | rfl
     ·exact ht
     ·exact List.mem_reverse.mp ht
    have nmL:(L.map (·.1)).Nodup:=by
     rcases hL with rfl | rfl
     ·rw[nm];exact hdn
     ·rw[List.map_reverse,nm];exact List.pairwise_reverse.mpr (hdn.imp fun h e=>h e.symm)
    have pwL:L.Pairwise (fun t u=>∀ a,zK2 t.2.2 t.2.1=some a→zK2 u.2.2 u.2.1≠some a):=by
     rcases hL with rfl | rfl
     ·exact pw
     ·exact List.pairwise_reverse.mpr (pw.imp fun {t u} h a h1 h2=>h a h2 h1)
    have lk:∀ y,(zV4 q.2 L).lookup y=ρ'.lookup y:=fun y=>by
     rcases hL with rfl | rfl
     ·rw[e1]
     ·rw[e1,zr5 (by rw[nm];exact hdn)]
    have lC:∀ b,s.heap.get? b=none→b≠env.locals∧(∀ y,env.cells.lookup y≠some b)∧∀ y,O' y≠some b:=fun b hb =>
     ⟨fun e=>by refine xe hs.ns fun mm z=>?_;exact Heap.Ns.live z (by rw[← e];exact hb),fun y e=>by have Y0:=hs.cells y b e;refine xe Y0.2.2 fun v z=>?_;try clear Y0;exact zE8 z hb,fun y e=>a.bound y b (a.sub y b e) hb⟩
    refine yG2 he L fs hfit q.2 O' { s with heap:=h2,toks:=tk2.1,drawn:=tk2.2 } _ a2.st (fun t ht=>?_) (fun t ht=>(e2 t (mem t ht)).2) nmL (fun t ht=>⟨(hr t (mem t ht)).keepR (PLe.refl H') (fun a ha=>((hr t (mem t ht)).ownH ha).2.2.1) fun b o uu z=>hk2 b o z,fun b hb=>lC b ((hr t (mem t ht)).ownH hb).2.1⟩) pwL fun O2 h3 t3 s3 k3 lv3 o3 n3=>?_
    ·have:=(e2 t (mem t ht)).1
     rcases he.kind t.1 with z | ⟨z,_⟩
     ·rw[z];exact this
     ·rw[this] at z;cases z
    ·refine hq H' O2 h3 (t3,tk2.2) ⟨⟨a2.go.ext,a2.s.go.new,fun b o z hb=>k3 b o (a2.s.go.keep b o z hb) fun e=>hb (.inl e),fun b z=>lv3 b (a2.go.live b z),fun y b z=>?_⟩,s3.restrict fun y e z=>by rw[lk];exact z,fun y e' hsn z1 z2=>?_⟩
     ·rcases o3 y b z with z' | ⟨t,ht,z'⟩
      ·exact a2.go.own y b z'
      ·exact .inr ((hr t (mem t ht)).ownH z').2.1
     ·rw[← lk] at z1
      by_cases hy:y∈L.map (·.1)
      ·rw[List.mem_map] at hy
       refine xe hy fun t Y0=>?_;have ht:=Y0.1;obtain rfl:=Y0.2;try clear hy;try clear Y0
       rw[zd9 nmL ht] at z1
       cases z1
       rw[z11] at z2;cases z2
      ·rw[zV5 hy] at z1
       have Y0:=a2.s.bor y e' hsn z1 z2;have w1:=Y0.1;have w2:=Y0.2;try clear Y0
       exact ⟨w1,by rw[n3 y hy];exact w2⟩
   have kp:∀ (o:Obj) b o',h'.get? b=some o'→(h'.push o).get? b=some o':=fun o b o' z=>Heap.get?_push_of_some _ z
   have Y0:=z12 (prog:=prog) (w:=w) (env:=env) (A:=A) (E:=E) xs ps (us.zip q.1) hpl hzl;have f1:=Y0.1;have f2:=Y0.2.1;have f3:=Y0.2.2;try clear Y0
   rcases ho with rfl | ⟨names,rfl,hnm⟩
   ·simp only
    rw[arm_assign_Tuple]
    refine wpAny_bind (wpAny_standAt ?_)
    refine wpAny_unpack_tuple (items:=us.toArray) hro.hh ⟨_,Heap.get?_push_size _ rfl,rfl,0,rfl⟩ (by rw[f2];simp[hul,e3]) f3 fun h2 hx=>?_
    have:=zN8 h2 tk _ _ (fun b o z=>zQ7 hx b o (kp _ b o z)) (.inl rfl) f1
    rw[vl] at this
    exact this
   ·rw[hxs] at hnm
    cases hnm
    simp only
    have hn:xs.length=us.toArray.size:=by simp[hul,e3]
    rw[hn]
    refine unpackItems_tuple (items:=us.toArray) hro.hh ⟨_,Heap.get?_push_size _ rfl,rfl,0,rfl⟩ fun h2 hx=>?_
    have:=zN8 h2 tk _ _ (fun b o z=>zQ7 hx b o (kp _ b o z)) (.inr rfl) (yG4 (yG3 xs (us.zip q.1) hzl))
    rw[List.map_reverse,vl] at this
    rw[List.map_reverse]
    exact this
  refine xe (zx0 (ts:=ts) (k0:=k0) (k1:=k1) (p:=p) (p1:=p1) (env:=env) hc) fun o Y0=>?_;have hsw:=Y0.1;have ho:=Y0.2;try clear Y0
  have hcore:=core o ho
  rcases ho with rfl | ⟨names,rfl,hnm⟩
  ·exact Assign_Tuple hcore zV3 hsw
  ·exact Assign_Tuple_swapped hcore zV3 hsw
 ·cases hdn
end
end Mine
namespace Mine
open PySem PySem.W PyProof.Rows PySem.Calls PySem.Builtin
section
variable {prog:Program} {w:World} {G:PG} {K:Frag} {KH:PH} {call:zB3} {k:Nat} {sc:Scope} {env:Env} {H H' H1 H2:PH} {ρ ρ' ρ1 ρ2:Rho} {O O' O1 O2:zB1} {h h' h1 h2 h0:Heap}
theorem RepF.put {es:List DictEntry} {fs:List (Str×D)} (r:RepF prog w H es fs) (x:Str) (hh:Int) (t:Tok) {v:Value} {d:D} (rv:Rep prog w H v d):RepF prog w H (putL x hh (.str x t) v es) (zX7 fs x d):=by
 induction fs generalizing es with
 | nil=>cases r;exact .cons rv .nil
 | cons p fs ih =>
  obtain ⟨y,e⟩:=p
  cases r with
  | cons h1 h2 =>
   simp only[putL,zX7,Value.isStr]
   by_cases q:y=x
   ·subst q
    simp only[beq_self_eq_true,if_true]
    exact .cons rv h2
   ·have:(y == x)=false:=beq_eq_false_iff_ne.mpr q
    simp only[this,Bool.false_eq_true,if_false]
    exact .cons h1 (ih h2)
theorem RepF.length {es:List DictEntry} {fs:List (Str×D)} (r:RepF prog w H es fs):es.length=fs.length:=by
 induction fs generalizing es with
 | nil=>cases r;rfl
 | cons p fs ih=>cases r with | cons _ h2=>simp[ih h2]
theorem RepF.known {es:List DictEntry} {fs:List (Str×D)} (r:RepF prog w H es fs) (x:Str):(getL x es).isSome=true:=by
 cases h:fs.lookup x with
 | none=>rw[r.missing h];rfl
 | some d=>refine xe (r.find h) fun v Y0=>?_;have q:=Y0.1;try clear Y0;rw[q];rfl
theorem yc7 (kok:KOK G K KH) {A:Around} {E:Value→Shared→Prop} {s:Shared} {a dx c:Addr} {es:List DictEntry} {n:Nat} {x:Str} {v:Value} {Q:Unit→Shared→Prop} (X:K.In s.heap) (hx:s.heap.get? a=some (instObj c dx)) (hd:s.heap.get? dx=some (dictOf es n))
  (hg:G.field c x=true) (hl:(getL x es).isSome=true) (hz:(putL x (PyData.keyHash w.params x) (.str x s.toks) v es).length≤1000)
  (hq:∀ h' tk hh t,h'.get? dx=some (dictOf (putL x hh (.str x t) v es) (putN x es n))→Heap.SameBut dx s.heap h'→Q () { s with heap:=h',toks:=tk }):wpAny (model prog w) A (setAttr (.ref a) x v) Q E s:=by
 have Y0:=kok.sets c x hg;have g1:=Y0.1;have g2:=Y0.2.1;have g3:=Y0.2.2.1;have g4:=Y0.2.2.2;try clear Y0
 have I:PySem.W.InstAt s.heap a (instObj c dx) c (some (dictOf es n)):=⟨hx,rfl,rfl,hd⟩
 refine set_plain X I g1 (osa_open (s:={ s with toks:=s.toks+1 }) X I g2 g3 fun b=>?_)
 refine xe (any_some g4) fun cd Y0=>?_;have hc:=Y0.1;have hd':=Y0.2;try clear Y0
 refine wpAny_bind (wpAny_pure (wpAny_bind (wpAny_bind (wpAny_loadPart (s:={ s with toks:=s.toks+1 }) hx (wpAny_bind (looks_clsIn X hc _ _ _ _ (fun uu uu e=>e) ?_))))))
 rw[hd']
 refine wpAny_pure (a:=some dx) (wpAny_bind (wpAny_pure (wpAny_bind ?_)))
 unfold nsSet
 refine wpAny_bind (wpAny_bind (wpAny_askSetting (wpAny_pure (wpAny_bind (wpAny_mkText (wpAny_bind (wpAny_loadPart (s:={ s with toks:=s.toks+1+1 }) hd ?_)))))))
 have hno:aRefKeyMayBeTheName x es.toArray=false:=by
  rw[aRefKeyMayBeTheName_at,← Array.any_toList,← Array.any_toList]
  exact (yz2 hl).elim (fun g=>g.elim fun en g=>by rw[List.any_eq_true.mpr ⟨en,g.1,g.2⟩];rfl) fun z=>by
   show (!es.any _&&es.any _)=false
   rw[z,Bool.and_false]
 dsimp only[dictOf]
 rw[hno]
 refine wpAny_updatePart (s:={ s with toks:=s.toks+1+1 }) hd ?_
 have hput:(s.heap.update dx (Obj.putName x (PyData.keyHash w.params x) (.str x (s.toks+1)) v)).get? dx=some (dictOf (putL x (PyData.keyHash w.params x) (.str x (s.toks+1)) v es) (putN x es n)):=by
  rw[Heap.get?_update_self _ hd (by rw[putName_dict];rfl),putName_dict]
 have hlen:(putL x (PyData.keyHash w.params x) (.str x (s.toks+1)) v es).length≤1000:=by
  have:∀ (es:List DictEntry) t t',(putL x (PyData.keyHash w.params x) (.str x t) v es).length=(putL x (PyData.keyHash w.params x) (.str x t') v es).length:=by
   intro es t t'
   induction es with
   | nil=>rfl
   | cons e es ih =>
    simp only[putL]
    split
    ·rfl
    ·simp[ih]
  rw[this es _ s.toks];exact hz
 refine wpAny_bind (wpAny_lookBehind hput (by exact pastItsLine_dict (by rw[List.size_toArray,sizeLine_eq];omega)) ?_)
 exact wpAny_pure (hq _ _ _ _ hput (Heap.SameBut.update ..))
end
end Mine
namespace Mine
open PySem PySem.W PyProof.Rows PySem.Calls PySem.Builtin
section
variable {prog:Program} {w:World} {G:PG} {K:Frag} {KH:PH} {call:zB3} {k:Nat} {sc:Scope} {env:Env} {H H' H1 H2:PH} {ρ ρ' ρ1 ρ2:Rho} {O O' O1 O2:zB1} {h h' h1 h2 h0:Heap}
theorem zx1 {A:Around} {E:Value→Shared→Prop} {s:Shared} {l:Addr} {items:Array Value} {i:Int} {t:Tok} {v:Value} {Q:Unit→Shared→Prop} (hl:s.heap.PlainList l items) (h0:0≤i) (hn:i < items.size) (hfit:i < 2 ^ 63)
  (hQ:∀ h',h'.PlainList l (items.setIfInBounds i.toNat v)→Heap.SameBut l s.heap h'→Q () { s with heap:=h' }):wpAny (model prog w) A (setItem (.ref l) (.int i t) v) Q E s:=by
 refine xe hl fun n ho=>?_;try clear hl
 have hl':s.heap.IsList l items:=⟨_,ho,rfl,n,rfl⟩
 have hfs:=fitsIndex_of h0 hfit
 clear hfit
 unfold setItem
 try with_reducible refine wpAny_holding ?_
 first | refine wpAny_bind (wpAny_pure ?_) | skip
 refine wpAny_bind (wpAny_sequenceKey hl'.typeIs (by decide) ?_)
 refine wpAny_bind (wpAny_callSpecial?_slot (name:=Str.ofString "__setitem__") hl'.typeIs slot_list_setitem
  (wpAny_call_entry slot_list_setitem hl'.typeIs entry_list_setitem ?_ (args_list_setitem _ _ _)))
 show wpAny _ _ (Builtin.List.listSubscript? (.int i t) >>= _) _ _ s
 refine wpAny_bind (wpAny_listSubscript_int hfs ?_)
 refine xe (Int.eq_ofNat_of_zero_le h0) fun j Y0=>?_;obtain rfl:=Y0;try clear Y0
 have hj:j < items.size:=by omega
 have hx':items[j]?=some items[j]:=Array.getElem?_eq_getElem hj
 show wpAny _ _ ((seqItemAt l j >>= fun r=>pure (r.map (j,·))) >>= _) _ _ s
 refine wpAny_bind (wpAny_bind (wpAny_seqItemAt ho rfl (wpAny_pure ?_)))
 rw[hx']
 show wpAny _ _ (setSeqItemAt l j v >>= _) _ _ s
 refine wpAny_bind (wpAny_setSeqItemAt ho rfl ?_)
 have hfin:(s.heap.update l (Obj.mapSeq (·.setIfInBounds j v))).PlainList l (items.setIfInBounds j v):=⟨n,(Heap.get?_update_self _ ho rfl).trans (by simp[Obj.mapSeq])⟩
 first
  | exact wpAny_bind (wpAny_pure (wpAny_pure ⟨.none,rfl,wpAny_pure (hQ _ hfin (Heap.SameBut.update ..))⟩))
  | exact wpAny_pure ⟨.none,rfl,wpAny_pure (hQ _ hfin (Heap.SameBut.update ..))⟩
set_option tactic.hygienic true in
theorem zB6.agree {x:Str} {u v:Value} (a:zB6 env h x u) (b:zB6 env h x v):u=v:=by
 unfold zB6 at a b
 split at a<;>rename_i hkd<;>(try rw[hkd] at b)
 ·refine xe a fun m Y0=>?_;have a1:=Y0.1;have a2:=Y0.2;try clear a;try clear Y0;refine xe b fun m' Y0=>?_;have b1:=Y0.1;have b2:=Y0.2;try clear b;try clear Y0
  have:=a1.agree b1 x
  rw[a2,b2] at this;cases this;rfl
 ·refine xe a fun c Y0=>?_;have a1:=Y0.1;refine xe Y0.2 fun o Y1=>?_;have a2:=Y1.1;have a3:=Y1.2;try clear a;try clear Y0 Y1;refine xe b fun c' Y0=>?_;have b1:=Y0.1;refine xe Y0.2 fun o' Y1=>?_;have b2:=Y1.1;have b3:=Y1.2;try clear b;try clear Y0 Y1
  rw[a1] at b1;cases b1
  rw[a2] at b2;cases b2
  rw[a3] at b3;cases b3;rfl
 ·refine xe a fun c Y0=>?_;have a1:=Y0.1;refine xe Y0.2 fun o Y1=>?_;have a2:=Y1.1;have a3:=Y1.2;try clear a;try clear Y0 Y1;refine xe b fun c' Y0=>?_;have b1:=Y0.1;refine xe Y0.2 fun o' Y1=>?_;have b2:=Y1.1;have b3:=Y1.2;try clear b;try clear Y0 Y1
  rw[a1] at b1;cases b1
  rw[a2] at b2;cases b2
  rw[a3] at b3;cases b3;rfl
 ·exact a.elim
theorem After.nameAt {sf:Bool} (hs:St prog w H env ρ O h) (a:After prog w sf env H ρ O h H' ρ' O' h') {x:Str} {v:Value} (n:zB6 env h x v):zB6 env h' x v :=
 n.keeps fun b o hb q=>a.go.keep b o q fun ht=>by
  refine xe ht.2 fun y e=>?_;try clear ht
  have Y0:=hs.owns y b e;have q2:=Y0.2.1;have q3:=Y0.2.2.1;try clear Y0
  rcases hb with hb | ⟨z,hb⟩
  ·exact q2 hb
  ·exact q3 z hb
set_option tactic.hygienic true in
theorem AfterS.mut {x:Str} {e:Ent} {a:Addr} {H₀:PH} {ρ₀:Rho} {O₀:zB1} {h₀:Heap} (a0:AfterS prog w env H₀ ρ₀ O₀ h₀ H ρ O h) {u:Value} (hn:zB6 env h x u) (ho:O x=some a) (sb:Heap.SameBut a h h') (hlv:h'.get? a≠none)
  (he:∀ O':zB1,O' x=some a→zQ4 prog w H h' O' x u e) (hb:seen env x→zG8 e=true→∃ e0,ρ.lookup x=some e0∧zG8 e0=true):AfterS prog w env H₀ ρ₀ O₀ h₀ H (ρ.set x e) O h':=by
 have Y0:=a0.st.mutate hn ho sb hlv he;have st2:=Y0.1;have go2:=Y0.2;try clear Y0
 refine a0.trans ⟨go2.weaken fun b hb=>.inr (.inr hb),st2,fun y e' hs h1 h2=>⟨?_,rfl⟩⟩
 rw[Rho.lookup_set] at h1
 split at h1
 ·rename_i q
  cases h1
  subst q
  exact hb hs h2
 ·exact ⟨e',h1,h2⟩
theorem yG5 {A:Around} {E:Value→Shared→Prop} {s:Shared} {a:Addr} {ds ds':List D} {iv vv:Value} {kd vd:D} {Q:Unit→Shared→Prop} (la:zE1 prog w H s.heap a ds) (r2:Rep prog w H iv kd) (r1:Rep prog w H vv vd) (hi:zA1 call (putAt ds kd vd)=some ds')
  (hq:∀ h',zE1 prog w H h' a ds'→Heap.SameBut a s.heap h'→h'.get? a≠none→Q () { s with heap:=h' }):wpAny (model prog w) A (setItem (.ref a) iv vv) Q E s:=by
 cases kd with
 | int j =>
  refine iNk hi fun hc hi=>ibk hi fun m h4 hi=>?_
  obtain rfl:=Option.some.inj hi
  have hc:=Bool.and_eq_true_iff.mp hc
  have h0:=of_decide_eq_true hc.2
  refine oTk ((if_pos h0).symm.trans (io h4)) fun hlt h5=>?_
  obtain rfl:=Option.some.inj h5
  refine xe r2.inv fun tt Y0=>?_;obtain rfl:=Y0;try clear Y0
  refine xe la fun us Y0=>?_;have pl:=Y0.1;have hr:=Y0.2;try clear la;try clear Y0
  have hus:us.size=ds.length:=hr.length
  refine zx1 pl h0 (hus▸hlt) (Int.lt_of_lt_of_le hlt (Int.le_trans (Int.ofNat_le.mpr (zD0 hc.1)) (by decide))) fun h' pl' sb=>hq h' ⟨_,pl',?_⟩ sb (pl'.elim fun uu p=>zB4 p)
  rw[Array.toList_setIfInBounds]
  exact hr.set _ r1
 | _=>exact nS hi
theorem yo1 {A:Around} {E:Value→Shared→Prop} {s:Shared} {a:Addr} {es es':List (D×D)} {iv vv:Value} {kd vd:D} {Q:Unit→Shared→Prop} (hS:Sub H s.heap) (hu:A.units+1 < cLine) (hH:H a=none) (da:DictAt prog w H s.heap a es) (r2:Rep prog w H iv kd) (r1:Rep prog w H vv vd) (hi:zA1 call (yi8 es kd vd)=some es')
  (hq:∀ h' tk,DictAt prog w H h' a es'→Heap.SameBut a s.heap h'→Q () { s with heap:=h',toks:=tk }):wpAny (model prog w) A (setItem (.ref a) iv vv) Q E s:=by
 cases kd with
 | str kx =>
  refine iNk hi fun hsh hi=>?_
  refine xe r2.str_val fun tt Y0=>?_;obtain rfl:=Y0;try clear Y0
  exact (yN5 da (io hi) (zD0 hsh) r1 hq).1
 | tup ks=>exact iNk hi fun hsh hi=>obk hi fun es'' h4 h5=>xF3 hS hu da r2 (h4.trans h5) (zD0 hsh) r1 hH hq
 | _=>exact nS hi
theorem yo2 (kok:KOK G K KH) {ev:Rho→Expr→Prc (R×Rho)} (hE:∀ e,Sim prog w KH call k true sc (eval e) (fun ρ=>ev ρ e)) {x:Str} {px ps pos:Pos} {i value:Expr} :
  zX0 prog w KH call k sc (exec (.Assign [.Subscript (.Name x px) i ps] value pos)) (fun ρ=>(ev ρ value).bind fun v=>if (v.2.lookup x).isNone=true then .fail else (ev v.2 i).bind fun k =>
   if zH0 sc x=true then (zB5 (k.2.lookup x)).bind fun e=>(xO7 e k.1.toD v.1.toD).bind fun e'=>.pure (k.2.set x e') else .fail):=by
 intro A env H ρ O s ρ' Q E hi he hro hk hs hq
 refine ibk hi fun v h1 hi=>iIk hi (fun uu h=>nS h) fun hbd hi=>ibk hi fun kk h2 hi=>iTk hi fun hvis hi=>ibk hi fun e hl hi=>ibk hi fun e' h3 hi=>?_
 obtain rfl:=Option.some.inj hi
 have hl:=io hl
 have hsn:=he.seen hvis
 refine wpAny_Assign_Subscript ((hE value).v A env H ρ O s v.1 v.2 _ E h1 he hro hk hs fun vv H1 O1 g1 t1 a1 r1=>?_) (zZ1 fun uu uu e=>nomatch e)
 refine xe (Option.ne_none_iff_exists'.mp fun z=>hbd (Option.isNone_iff_eq_none.mpr z)) fun e0 he0=>?_
 refine xe (a1.st.names x e0 hsn he0) fun ov Y0=>?_;have n1:=Y0.1;try clear Y0
 refine zJ0 he n1 ((hE i).v A env H1 v.2 O1 { s with heap:=g1,toks:=t1.1,drawn:=t1.2 } kk.1 kk.2 _ E h2 he hro (hk.trans a1.go.ext) a1.st fun iv H2 O2 g2 t2 a2 r2=>?_)
 have n2:=a2.nameAt a1.st n1
 have a12:=(a1.trans a2).s
 have r1':=r1.mono' a2.go.ext
 clear hE h1 h2 n1 he0 a1 r1 hi hs
 cases e with
 | ownD es =>
  refine ibk h3 fun es' g3 hi=>?_
  obtain rfl:=Option.some.inj hi
  refine xe (a2.st.ownD_get hsn hl) fun a Y0=>?_;have na:=Y0.1;have oa:=Y0.2.1;have da:=Y0.2.2;try clear Y0
  obtain rfl:=n2.agree na
  exact yo1 a2.st.sub (Nat.lt_of_le_of_lt (Nat.add_le_add (Nat.le_add_right _ _) (show 1≤600 by decide)) hro.units) (a2.st.owns x a oa).1 da r2 r1' g3 fun h' tk d sb=>hq H2 O2 h' (tk,t2.2) (a12.mut na oa sb d.live (fun O' hO=>⟨a,rfl,hO,d⟩) fun uu hb=>Bool.noConfusion hb)
 | ownL ds =>
  refine ibk h3 fun ds' g3 hi=>?_
  obtain rfl:=Option.some.inj hi
  refine xe (a2.st.own_get hsn hl) fun a Y0=>?_;have na:=Y0.1;have oa:=Y0.2.1;have la:=Y0.2.2;try clear Y0
  obtain rfl:=n2.agree na
  exact yG5 la r2 r1' g3 fun h' l sb lv=>hq H2 O2 h' t2 (a12.mut na oa sb lv (fun O' hO=>⟨a,rfl,hO,l⟩) fun uu hb=>Bool.noConfusion hb)
 | bor ds =>
  refine ibk h3 fun ds' g3 hi=>?_
  obtain rfl:=Option.some.inj hi
  refine xe (a2.st.bor_get hsn hl) fun a Y0=>?_;have na:=Y0.1;have oa:=Y0.2.1;have la:=Y0.2.2;try clear Y0
  obtain rfl:=n2.agree na
  exact yG5 la r2 r1' g3 fun h' l sb lv=>hq H2 O2 h' t2 (a12.mut na oa sb lv (fun O' hO=>⟨a,rfl,hO,l⟩) fun uu uu=>⟨_,hl,rfl⟩)
 | _=>exact nS h3
end
end Mine
namespace Mine
open PySem PySem.W PyProof.Rows PySem.Calls PySem.Builtin
section
variable {prog:Program} {w:World} {G:PG} {K:Frag} {KH:PH} {call:zB3} {k:Nat} {sc:Scope} {env:Env} {H H' H1 H2:PH} {ρ ρ' ρ1 ρ2:Rho} {O O' O1 O2:zB1} {h h' h1 h2 h0:Heap}
theorem yO6 {o:Option Ent} {q:Addr×List (Str×D)} (h:o.bind yj5=some q):o=some (.newO q.1 q.2):=obk h fun e h1 g=>by
 cases e with
 | newO c fs=>exact h1.trans (Option.some.inj g▸rfl)
 | _=>exact nS g
theorem ze0 {o:Option Ent} {ds:List D} (h:o.bind zz6=some ds):o=some (.ownL ds):=obk h fun e h1 g=>by
 cases e with
 | ownL ds'=>exact h1.trans (congrArg (fun l=>some (Ent.ownL l)) (Option.some.inj g))
 | _=>exact nS g
theorem zl7 {f:Str} {n:Int} {t u:Value}:∀ (es:List DictEntry),(putL f n t u es).length≤es.length+1
 | []=>Nat.le_refl _
 | e::es=>by
  unfold putL
  split
  ·exact Nat.le_succ _
  ·exact Nat.succ_le_succ (zl7 es)
theorem yc8 (kok:KOK G K KH) {ev:Rho→Prc (R×Rho)} {x f:Str} {px ps pos:Pos} {value:Expr} (hE:Sim prog w KH call k true sc (eval value) ev) :
  zX0 prog w KH call k sc (exec (.Assign [.Attribute (.Name x px) f ps] value pos)) (fun ρ=>(ev ρ).bind fun v=>if zH0 sc x=true then (zB5 ((v.2.lookup x).bind yj5)).bind fun q =>
   if (G.field q.1 f&&decide (q.2.length < 900))=true then .pure (v.2.set x (.newO q.1 (zX7 q.2 f v.1.toD))) else .fail else .fail):=by
 intro A env H ρ O s ρ' Q E hi he hro hk hs hq
 refine ibk hi fun v h1 hi=>iTk hi fun hvis hi=>ibk hi fun c hl hi=>iTk hi fun hc hi=>?_
 obtain rfl:=Option.some.inj hi
 have hl:=yO6 (io hl)
 have hc:=Bool.and_eq_true_iff.mp hc
 refine plainObj_wpAny_Assign_Attribute (hE.v A env H ρ O s v.1 v.2 _ E h1 he hro hk hs fun vv H1 O1 g1 t1 a1 r1=>?_) (zZ1 fun uu uu e=>nomatch e)
 refine xe (a1.st.names x _ (he.seen hvis) hl) fun u Y0=>?_;have n1:=Y0.1;refine xe Y0.2 fun dx Y1=>?_;have o1:=Y1.1;refine xe Y1.2 fun a Y2=>?_;refine xe Y2 fun es Y3=>?_;refine xe Y3 fun n Y4=>?_;obtain rfl:=Y4.1;have q1:=Y4.2.1;have q2:=Y4.2.2.1;have q3:=Y4.2.2.2;try clear Y0 Y1 Y2 Y3 Y4
 refine zJ0 he n1 (yc7 kok (s:={ s with heap:=g1,toks:=t1.1,drawn:=t1.2 }) (kok.isIn (hk.trans a1.go.ext) a1.st.sub) (a1.st.sub _ _ q1) q2 hc.1 (q3.known f) (Nat.le_trans (zl7 es) (Nat.le_trans (Nat.succ_le_of_lt (Nat.lt_of_le_of_lt (Nat.le_of_eq q3.length) (of_decide_eq_true hc.2))) (by decide))) fun h' tk hh t hd sb=>?_)
 exact hq H1 O1 h' (tk,t1.2) (a1.s.mut n1 o1 sb (zB4 hd) (fun O' hO=>⟨dx,hO,a,_,_,rfl,q1,hd,q3.put f hh t r1⟩) fun uu uu=>⟨_,hl,rfl⟩)
set_option tactic.hygienic true in
theorem yO7 (xs:Array Value):(xs.eraseIdxIfInBounds (xs.size - 1)).toList=xs.toList.dropLast:=by
 obtain ⟨l⟩:=xs
 rw[← List.eraseIdx_length_sub_one]
 unfold Array.eraseIdxIfInBounds
 split
 ·rw[List.eraseIdx_toArray];rfl
 ·next hlt=>exact (List.eraseIdx_of_length_le (Nat.le_of_not_lt hlt)).symm
theorem RepL.dropLast {vs:List Value} {ds:List D} (r:RepL prog w H vs ds):RepL prog w H vs.dropLast ds.dropLast:=by
 rw[List.dropLast_eq_take,List.dropLast_eq_take,r.length];exact r.take _
theorem zW5 {l:Addr} {xs:Array Value} {n:Nat} (ho:h.get? l=some { cls:=.type "list",data:=.seq xs n }) (f:Array Value→Array Value):(h.update l (Obj.mapSeq f)).PlainList l (f xs) :=
 ⟨if (f xs).size == xs.size then n else n+1,(Heap.get?_update_self _ ho (by rfl)).trans (by simp only[Obj.mapSeq])⟩
theorem y06 {y:Str} {py q pp:Pos} (hline:(q.endLine == pp.line)=true) {d:D} {A:Around} {s:Shared} {Q:Value→Shared→Prop} {E:Value→Shared→Prop}
  (hi:zA1 call (z42 sc ρ y)=some (d,ρ')) (he:EnvOK env sc) (hs:St prog w H env ρ O s.heap)
  (hq:∀ v h',AfterS prog w env H ρ O s.heap H ρ' O h'→Rep prog w H v d→Q v { s with heap:=h' }):wpAny (model prog w) A (eval (.Call (.Attribute (.Name y py) (Str.ofString "pop") q) [] [] pp) env) Q E s:=by
 refine iTk hi fun hvis hi=>ibk hi fun ds hl hi=>iNk hi fun hsh hi=>obk hi fun d' hg hi=>?_
 obtain rfl:=(Prod.mk.inj (Option.some.inj hi)).1
 obtain rfl:=(Prod.mk.inj (Option.some.inj hi)).2
 refine xe (hs.own_get (he.seen hvis) (ze0 (io hl))) fun a Y0=>?_;have n1:=Y0.1;have o1:=Y0.2.1;refine xe Y0.2.2 fun vs Y1=>?_;have pl:=Y1.1;have hr:=Y1.2;try clear Y0 Y1
 have hl':=pl.isList
 refine xe pl fun n ho=>?_;try clear pl
 have hvs:vs.size=ds.length:=hr.length
 refine xe (hr.get (List.getLast?_eq_getElem?.symm.trans hg)) fun v Y0=>?_;have hv:=Y0.1;have rv:=Y0.2;try clear Y0
 refine wpAny_Call_method (T:="list") (id:="list.pop") (zE5 (o:=.Name y py) (fun e=>Bool.noConfusion (show true=false from e)) _ _ _) rfl hline PySem.F.plainAttrs_list PySem.F.slot_list_pop PySem.F.type_list_pop
  (zJ0 he n1 ⟨hl'.typeIs,fun b e=>Value.ref.inj e▸⟨_,ho,rfl⟩,PySem.P.pop_list (hsz:=Nat.le_trans (Nat.le_of_eq hvs) (Nat.le_trans (zD0 hsh) (by unfold sizeLine;decide))) ho (by rw[hvs,← Array.getElem?_toList];exact hv) ?_⟩)
 have pl':=zW5 ho (fun xs=>xs.eraseIdxIfInBounds (vs.size - 1))
 refine hq v _ ((AfterS.refl hs).mut n1 o1 (Heap.SameBut.update ..) (pl'.elim fun m p=>zB4 p) (fun O' hO=>⟨a,rfl,hO,_,pl',?_⟩) fun uu hb=>Bool.noConfusion hb) rv
 rw[yO7]
 exact hr.dropLast
theorem yG6 {y:Str} {py q pp pos:Pos} {t:Expr} (ht:(∃ x p,t=.Name x p)∨∃ ts k0 p,t=.Tuple ts k0 p) (hline:(q.endLine == pp.line)=true) :
  zX0 prog w KH call k sc (exec (.Assign [t] (.Call (.Attribute (.Name y py) (Str.ofString "pop") q) [] [] pp) pos)) (fun ρ=>(z42 sc ρ y).bind fun q=>zB5 (zB9 sc t q.1 q.2)):=by
 intro A env H ρ O s ρ' Q E hi he hro hk hs hq
 refine ibk hi fun r h1 hi=>?_
 have hi:=io hi
 have main:wpAny (model prog w) A (eval (.Call (.Attribute (.Name y py) (Str.ofString "pop") q) [] [] pp) env) (fun v s₁=>wpAny (model prog w) A (assign t env v) (fun uu=>Q .next) E s₁) E s:=by
  refine y06 hline h1 he hs fun v h' a rv=>?_
  exact zN2 he t r.1 r.2 ρ' hi A H O { s with heap:=h' } v _ _ hro.hh a.st rv fun O2 h2 t2 uu a2=>hq H O2 h2 (t2,s.drawn) (a.trans a2)
 rcases ht with ⟨x,p,rfl⟩ | ⟨ts,k0,p,rfl⟩
 ·exact wpAny_Assign_stores main (by rfl) (by rfl)
 ·exact wpAny_Assign_stores main (by rfl) (by rfl)
end
end Mine
namespace Mine
open PySem PySem.W PyProof.Rows PySem.Calls PySem.Builtin
section
variable {prog:Program} {w:World} {G:PG} {K:Frag} {KH:PH} {call:zB3} {k:Nat} {sc:Scope} {env:Env} {H H' H1 H2:PH} {ρ ρ' ρ1 ρ2:Rho} {O O' O1 O2:zB1} {h h' h1 h2 h0:Heap}
theorem zc1 {e:Expr} {c:Str×Str×List Expr} (h:zp0 e=some c):∃ px q p,e=.Call (.Attribute (.Name c.1 px) c.2.1 q) c.2.2 [] p∧(q.endLine == p.line)=true :=
 obk h fun a h1 g=>obk g fun b h2 g1=>obk g1 fun x h3 g2=>oTk g2 fun hl g3=>by
  refine xe (zF7 h3) fun px h4=>?_
  obtain rfl:=Option.some.inj g3
  exact ⟨px,b.2.2,a.2.2,by rw[zM8 h1,zk6 h2,h4],hl⟩
theorem zr7 {e:Expr} {c:Str×Str×List Expr} (h:zf5 e=some c):(∃ px q p,e=.Call (.Attribute (.Name c.1 px) c.2.1 q) c.2.2 [] p∧(q.endLine == p.line)=true)∧(c.2.1=Str.ofString "append"∨c.2.1=Str.ofString "extend"∨c.2.1=Str.ofString "reverse") :=
 obk h fun a h1 g=>oTk g fun hm g1=>by
  obtain rfl:=Option.some.inj g1
  exact ⟨zc1 h1,(Bool.or_eq_true_iff.mp hm).elim (fun h=>(Bool.or_eq_true_iff.mp h).elim (fun h=>.inl (eq_of_beq h)) fun h=>.inr (.inl (eq_of_beq h))) fun h=>.inr (.inr (eq_of_beq h))⟩
theorem zc2 {e:Expr} {y:Str} (h:zM1 e=some y):∃ py q pp,e=.Call (.Attribute (.Name y py) (Str.ofString "pop") q) [] [] pp∧(q.endLine == pp.line)=true :=
 obk h fun a h1 g=>oTk g fun hm g1=>by
  obtain rfl:=Option.some.inj g1
  refine xe (zc1 h1) fun px Y0=>?_;refine xe Y0 fun q Y1=>?_;refine xe Y1 fun p Y2=>?_;have e:=Y2.1;have hl:=Y2.2;try clear Y0 Y1 Y2
  have hm:=Bool.and_eq_true_iff.mp hm
  exact ⟨px,q,p,by rw[e,eq_of_beq hm.1,isEmpty_nil hm.2],hl⟩
theorem zW6 (he:EnvOK env sc):interactive env=false:=by
 unfold interactive
 rw[he.fk];rfl
theorem z75 (l:Addr) (items:Array Value) (n:Nat) (b:Addr) (items2:Array Value) (hs0:¬(!items.isEmpty&&Builtin.List.listTooLong (items.size+items2.size))=true) (hs1:items.size≤sizeLine) (hs2:items.size+items2.size≤sizeLine+1) :
  Meets (Builtin.«list.extend» ⟨[.ref l,.ref b],[]⟩) (fun uu R s=>s.heap.get? l=some { cls:=.type "list",data:=.seq items n }∧(∃ o n2,s.heap.get? b=some o∧o.cls=.type "tuple"∧o.data=.seq items2 n2)∧R (.ok (.ret Value.none)) { s with heap:=s.heap.update l (Obj.mapSeq fun x=>x++items2) }):=by
 intro prog w A R s h
 obtain ⟨hl,⟨o,n2,hb,hc,hd⟩,h⟩:=h
 show wpAny _ _ (Builtin.List.listExtendWith (.ref l) (.ref b) .none) _ _ s
 unfold Builtin.List.listExtendWith
 refine wpAny_bind (wpAny_typeOf (T:="tuple") ⟨o,hb,hc⟩ ?_)
 rw[if_pos (by simp)]
 refine wpAny_bind (wpAny_bind (wpAny_seqItems hb hd (wpAny_pure ?_)))
 refine wpAny_bind (wpAny_bind (wpAny_seqItems hl rfl (wpAny_pure ?_)))
 rw[if_neg hs0]
 have hz':(items++items2).size≤sizeLine+1:=by rw[Array.size_append];exact hs2
 refine wpAny_bind (wpAny_updateSeq hl rfl (hz:=hs1) (_hz':=hz') ?_)
 exact wpAny_pure h
end
end Mine
namespace Mine
open PySem PySem.W PyProof.Rows PySem.Calls PySem.Builtin
section
variable {prog:Program} {w:World} {G:PG} {K:Frag} {KH:PH} {call:zB3} {k:Nat} {sc:Scope} {env:Env} {H H' H1 H2:PH} {ρ ρ' ρ1 ρ2:Rho} {O O' O1 O2:zB1} {h h' h1 h2 h0:Heap}
theorem yG7 {A B:Array Value} (h1:A.size≤8000000) (h2:B.size≤8000000):¬ (!A.isEmpty&&Builtin.List.listTooLong (A.size+B.size))=true:=fun e=>by
 have e:=(Bool.and_eq_true_iff.mp e).2
 exact absurd (of_decide_eq_true e) (Nat.not_lt.mpr (Nat.le_trans (Nat.add_le_add h1 h2) (by unfold sizeLine;decide)))
theorem yV3 {n:Nat} (h:n≤8000000):n≤sizeLine:=Nat.le_trans h (by unfold sizeLine;decide)
theorem xC0 {n m:Nat} (h:n≤8000000) (h2:m≤8000000):n+m≤sizeLine+1:=Nat.le_trans (Nat.add_le_add h h2) (by unfold sizeLine;decide)
theorem zn8 {e:Expr} {pos:Pos} (h:¬ zE3 e=true):backTo pos (starEach [e] env)=[(false,eval e env)]:=by
 rw[zG0 h];rfl
structure LAt (prog:Program) (w:World) (a:Addr) (ds:List D) (H:PH) (h:Heap) (vs:Array Value) (n:Nat):Prop where
 at_:h.get? a=some { cls:=.type "list",data:=.seq vs n }
 rep:RepL prog w H vs.toList ds
 size:vs.size≤8000000
theorem zg4 {s:Shared} {x:Str} {a:Addr} {ds ds':List D} {ρ2:Rho} {g2:Heap} {t2:Tk} {Q:Flow→Shared→Prop} {P:Prop} (hs:St prog w H env ρ O s.heap) (hsn:seen env x) (n1:zB6 env s.heap x (.ref a)) (hl:ρ2.lookup x=some (.ownL ds)) (hsh:zA0 ds=true)
  (hq:∀ H' O' h' (tk:Tk),AfterS prog w env H ρ O s.heap H' (ρ2.set x (.ownL ds')) O' h'→Q .next { s with heap:=h',toks:=tk.1,drawn:=tk.2 }) (a2:After prog w true env H ρ O s.heap H2 ρ2 O2 g2)
  (k:∀ vs n,LAt prog w a ds H2 g2 vs n→(∀ f:Array Value→Array Value,RepL prog w H2 (f vs).toList ds'→Q .next { s with heap:=g2.update a (Obj.mapSeq f),toks:=t2.1,drawn:=t2.2 })→P):P:=by
 refine xe (a2.st.own_get hsn hl) fun b Y0=>?_;have n2:=Y0.1;have o2:=Y0.2.1;refine xe Y0.2.2 fun vs Y1=>?_;refine xe Y1.1 fun n p=>?_;have hr:=Y1.2;try clear Y0 Y1
 obtain rfl:=Value.ref.inj ((a2.nameAt hs n1).agree n2)
 refine k vs n ⟨p,hr,Nat.le_trans (Nat.le_of_eq hr.length) (zD0 hsh)⟩ fun f hr'=>?_
 have pl':=zW5 p f
 exact hq H2 O2 _ t2 (a2.s.mut n2 o2 (Heap.SameBut.update ..) (let ⟨_,z⟩:=pl';zB4 z) (fun O' hO=>⟨a,rfl,hO,_,pl',hr'⟩) fun uu hb=>Bool.noConfusion hb)
theorem zr8 {ev:Rho→Expr→Prc (R×Rho)} {args:List Expr} {q:List D×Rho} {d:D} {P:Prop} (h:zA1 call (evalArgs ev args ρ)=some q) (hd:q.1=[d])
  (k:∀ e p,args=[e]→¬ zE3 e=true→zA1 call (ev ρ e)=some p→p.1.toD=d→p.2=q.2→P):P:=by
 have hl:=zY1 h
 rw[hd] at hl
 refine xe (List.length_eq_one_iff.mp hl.symm) fun e Y0=>?_;obtain rfl:=Y0;try clear Y0
 refine iIk h (fun uu h=>nS h) fun hst h=>ibk h fun p z1 h=>?_
 obtain rfl:=Option.some.inj h
 exact k e p rfl hst z1 (List.cons.inj hd).1 rfl
theorem zr9 {ev:Rho→Expr→Prc (R×Rho)} {args:List Expr} {q:List D×Rho} (h:zA1 call (evalArgs ev args ρ)=some q) (hd:q.1=[]):args=[]∧q.2=ρ:=by
 have hl:=zY1 h
 rw[hd] at hl
 obtain rfl:=List.length_eq_zero_iff.mp hl.symm
 obtain rfl:=Option.some.inj h
 exact ⟨rfl,rfl⟩
theorem zi6 {A:Around} {E:Value→Shared→Prop} {s:Shared} {Q:Value→Shared→Prop} {x m:Str} {px q pp:Pos} {args:List Expr} {id:String} {a:Addr} {vs:Array Value} (he:EnvOK env sc) (n1:zB6 env s.heap x (.ref a)) (pl:s.heap.PlainList a vs) (hline:(q.endLine == pp.line)=true)
  (few:((backTo pp (starEach args env)).all (fun x=>!x.1)&&(backToKw pp (keywordEach [] env)).all (fun x=>x.1.isSome)&&decide (args.length+([]:List Keyword).length+(if ([]:List Keyword).isEmpty then 0 else 1) < 30))=true)
  (slot:Slot "list" m id) (hty:typeOf (.builtin id)=pure (.type "method_descriptor")) (h:wpAny (model prog w) A (callWith pp (.builtin id) [.ref a] (backTo pp (starEach args env)) []) Q E s) :
  wpAny (model prog w) A (eval (.Call (.Attribute (.Name x px) m q) args [] pp) env) Q E s :=
 wpAny_Call_method (zE5 (o:=.Name x px) (fun e=>Bool.noConfusion (show true=false from e)) _ _ _) few hline PySem.F.plainAttrs_list slot hty (zJ0 he n1 ⟨pl.isList.typeIs,fun b e=>(Value.ref.inj e▸let ⟨_,p⟩:=pl;⟨_,p,rfl⟩),h⟩)
section
variable {ev:Rho→Expr→Prc (R×Rho)} {A:Around} {E:Value→Shared→Prop} {s:Shared} {x m:Str} {px q pp:Pos} {e:Expr} {args:List Expr} {p:R×Rho} {ρ2:Rho} {a:Addr} {us:Array Value} {ds ds' xs:List D} {d:D} {Q:Flow→Shared→Prop}
theorem yc9 (hE:∀ e,Sim prog w KH call k true sc (eval e) (fun ρ=>ev ρ e)) (he:EnvOK env sc) (hro:Room A k) (hk:PLe KH H) (hs:St prog w H env ρ O s.heap) (hsn:seen env x) (n1:zB6 env s.heap x (.ref a)) (pl:s.heap.PlainList a us) (hline:(q.endLine == pp.line)=true) (em:m=Str.ofString "append") (ea:args=[e])
  (hst:¬ zE3 e=true) (z1:zA1 call (ev ρ e)=some p) (z2:p.1.toD=d) (z3:p.2=ρ2) (hl:ρ2.lookup x=some (.ownL ds)) (hsh:zA0 ds=true) (e3:ds++[d]=ds')
  (hq:∀ H' O' h' (tk:Tk),AfterS prog w env H ρ O s.heap H' (ρ2.set x (.ownL ds')) O' h'→Q .next { s with heap:=h',toks:=tk.1,drawn:=tk.2 }) :
  wpAny (model prog w) A (eval (.Call (.Attribute (.Name x px) m q) args [] pp) env) (fun uu s'=>Q .next s') E s:=by
 subst em ea z2 z3 e3
 refine zi6 he n1 pl hline (by rw[zn8 hst];rfl) PySem.F.slot_list_append PySem.F.type_list_append ?_
 rw[zn8 hst]
 refine PySem.P.append_list ((hE e).v A env H ρ O s p.1 p.2 _ E z1 he hro hk hs fun v H2 O2 g2 t2 a2 r2=>?_)
 refine zg4 (t2:=t2) hs hsn n1 hl hsh hq a2 fun vs n la fin=>⟨vs,n,yV3 la.size,la.at_,fin _ ?_⟩
 rw[Array.toList_push]
 exact la.rep.append (.cons r2 .nil)
theorem yd0 (hE:∀ e,Sim prog w KH call k true sc (eval e) (fun ρ=>ev ρ e)) (he:EnvOK env sc) (hro:Room A k) (hk:PLe KH H) (hs:St prog w H env ρ O s.heap) (hsn:seen env x) (n1:zB6 env s.heap x (.ref a)) (pl:s.heap.PlainList a us) (hline:(q.endLine == pp.line)=true) (em:m=Str.ofString "extend") (ea:args=[e])
  (hst:¬ zE3 e=true) (z1:zA1 call (ev ρ e)=some p) (z2:p.1.toD=d) (z3:p.2=ρ2) (hd:d=.list xs∨d=.tup xs) (hl:ρ2.lookup x=some (.ownL ds)) (hsh:zA0 ds=true) (hsx:zA0 xs=true) (e3:ds++xs=ds')
  (hq:∀ H' O' h' (tk:Tk),AfterS prog w env H ρ O s.heap H' (ρ2.set x (.ownL ds')) O' h'→Q .next { s with heap:=h',toks:=tk.1,drawn:=tk.2 }) :
  wpAny (model prog w) A (eval (.Call (.Attribute (.Name x px) m q) args [] pp) env) (fun uu s'=>Q .next s') E s:=by
 subst em ea z2 z3 e3
 refine zi6 he n1 pl hline (by rw[zn8 hst];rfl) PySem.F.slot_list_extend PySem.F.type_list_extend ?_
 rw[zn8 hst]
 have body:=fun (Q':Value→Shared→Prop) h=>(hE e).v A env H ρ O s p.1 p.2 Q' E z1 he hro hk hs h
 rcases hd with hd | hd
 ·rw[hd] at body
  refine PySem.P.extend_list (body _ fun v H2 O2 g2 t2 a2 r2=>?_)
  refine zg4 (t2:=t2) hs hsn n1 hl hsh hq a2 fun vs n la fin=>?_
  refine xe r2.list_ref fun b Y0=>?_;obtain rfl:=Y0;try clear Y0
  refine xe (r2.listAt a2.st.sub) fun us Y0=>?_;refine xe Y0.1 fun n2 p2=>?_;have hr2:=Y0.2;try clear Y0
  have hus:us.size≤8000000:=Nat.le_trans (Nat.le_of_eq hr2.length) (zD0 hsx)
  exact ⟨b,vs,us,n,n2,yV3 la.size,xC0 la.size hus,yG7 la.size hus,rfl,la.at_,p2,fin _ (by rw[Array.toList_append];exact la.rep.append hr2)⟩
 ·rw[hd] at body
  refine seqMethod1_meets F.slot_list_extend F.entry_list_extend (body _ fun v H2 O2 g2 t2 a2 r2=>?_)
  refine zg4 (t2:=t2) hs hsn n1 hl hsh hq a2 fun vs n la fin=>?_
  refine xe r2.tup_ref fun b Y0=>?_;obtain rfl:=Y0;try clear Y0
  refine xe (r2.isTuple a2.st.sub) fun us Y0=>?_;refine xe Y0.1 fun o2 Y1=>?_;have p2:=Y1.1;have c2:=Y1.2.1;refine xe Y1.2.2 fun n2 d2=>?_;have hr2:=Y0.2;try clear Y0 Y1
  have hus:us.size≤8000000:=Nat.le_trans (Nat.le_of_eq hr2.length) (zD0 hsx)
  exact ⟨⟨_,la.at_,rfl⟩,F.args_list_extend_2 _ _,_,z75 a vs n b us (yG7 la.size hus) (yV3 la.size) (xC0 la.size hus),la.at_,⟨o2,n2,p2,c2,d2⟩,fin _ (by rw[Array.toList_append];exact la.rep.append hr2)⟩
theorem yO8 (he:EnvOK env sc) (hs:St prog w H env ρ O s.heap) (hsn:seen env x) (n1:zB6 env s.heap x (.ref a)) (pl:s.heap.PlainList a us) (hline:(q.endLine == pp.line)=true) (em:m=Str.ofString "reverse") (ea:args=[]) (z3:ρ2=ρ) (hl:ρ2.lookup x=some (.ownL ds)) (hsh:zA0 ds=true) (e3:ds.reverse=ds')
  (hq:∀ H' O' h' (tk:Tk),AfterS prog w env H ρ O s.heap H' (ρ2.set x (.ownL ds')) O' h'→Q .next { s with heap:=h',toks:=tk.1,drawn:=tk.2 }) :
  wpAny (model prog w) A (eval (.Call (.Attribute (.Name x px) m q) args [] pp) env) (fun uu s'=>Q .next s') E s:=by
 subst em ea z3 e3
 refine zi6 he n1 pl hline rfl PySem.F.slot_list_reverse PySem.F.type_list_reverse ?_
 refine zg4 (t2:=(s.toks,s.drawn)) hs hsn n1 hl hsh hq (After.refl hs) fun vs n la fin=>PySem.P.reverse_list (hsz:=yV3 la.size) la.at_ (fin _ ?_)
 rw[Array.toList_reverse]
 exact la.rep.reverse
end
theorem z76 {d:D} {xs:List D} (h:zZ7 d=some xs):d=.list xs∨d=.tup xs:=by
 cases d with
 | tup ys=>exact .inr (congrArg D.tup (Option.some.inj h))
 | list ys=>exact .inl (congrArg D.list (Option.some.inj h))
 | _=>exact nS h
theorem zx2 {m:Str} {ds as ds':List D} {P:Prop} (h:zA1 call (z43 m ds as)=some ds') (hm:m=Str.ofString "append"∨m=Str.ofString "extend"∨m=Str.ofString "reverse")
  (k1:∀ d,zA0 ds=true→m=Str.ofString "append"→as=[d]→ds++[d]=ds'→P) (k2:∀ d xs,zA0 ds=true→m=Str.ofString "extend"→as=[d]→(d=.list xs∨d=.tup xs)→zA0 xs=true→ds++xs=ds'→P)
  (k3:zA0 ds=true→m=Str.ofString "reverse"→as=[]→ds.reverse=ds'→P):P :=
 iNk h fun hsh h=>iIk h (fun e h=>ibk h fun d h1 h=>k1 d hsh (eq_of_beq e) (zG1 (io h1)) (Option.some.inj h)) fun n1 h =>
  iIk h (fun e h=>ibk h fun d h1 h=>ibk h fun xs h2 h=>iNk h fun hx h=>k2 d xs hsh (eq_of_beq e) (zG1 (io h1)) (z76 (io h2)) hx (Option.some.inj h)) fun n2 h =>
   iTk h fun he h=>k3 hsh ((hm.resolve_left fun e=>n1 (beq_iff_eq.mpr e)).resolve_left fun e=>n2 (beq_iff_eq.mpr e)) (isEmpty_nil he) (Option.some.inj h)
theorem zx3 {ev:Rho→Expr→Prc (R×Rho)} (hE:∀ e,Sim prog w KH call k true sc (eval e) (fun ρ=>ev ρ e)) {e:Expr} {c:Str×Str×List Expr} {pos:Pos} (hlc:zf5 e=some c) :
  zX0 prog w KH call k sc (exec (.Expr e pos)) (fun ρ=>if zH0 sc c.1=true then (zB5 ((ρ.lookup c.1).bind zz6)).bind fun uu=>(evalArgs ev c.2.2 ρ).bind fun q=>(zB5 ((q.2.lookup c.1).bind zz6)).bind fun ds =>
   (z43 c.2.1 ds q.1).bind fun ds'=>.pure (q.2.set c.1 (.ownL ds')) else .fail):=by
 intro A env H ρ O s ρ' Q E hi he hro hk hs hq
 have Y0:=zr7 hlc;refine xe Y0.1 fun px Y1=>?_;refine xe Y1 fun q Y2=>?_;refine xe Y2 fun pp Y3=>?_;obtain rfl:=Y3.1;have hline:=Y3.2;have hm:=Y0.2;try clear Y0 Y1 Y2 Y3
 refine iTk hi fun hvis hi=>ibk hi fun ds0 hl0 hi=>ibk hi fun aq h1 hi=>ibk hi fun ds hl hi=>ibk hi fun ds' h2 hi=>?_
 obtain rfl:=Option.some.inj hi
 have hsn:=he.seen hvis
 have hl:=ze0 (io hl)
 refine xe (hs.own_get hsn (ze0 (io hl0))) fun a Y0=>?_;have n1:=Y0.1;have o1:=Y0.2.1;refine xe Y0.2.2 fun vs Y1=>?_;have pl:=Y1.1;try clear Y0 Y1
 exact wpAny_Expr_any (zx2 h2 hm (fun d hsh e1 e2 e3=>zr8 h1 e2 fun e p z0 hst z1 z2 z3=>yc9 hE he hro hk hs hsn n1 pl hline e1 z0 hst z1 z2 z3 hl hsh e3 hq)
  (fun d xs hsh e1 e2 hd hsx e3=>zr8 h1 e2 fun e p z0 hst z1 z2 z3=>yd0 hE he hro hk hs hsn n1 pl hline e1 z0 hst z1 z2 z3 hd hl hsh hsx e3 hq)
  fun hsh e1 e2 e3=>yO8 he hs hsn n1 pl hline e1 (zr9 h1 e2).1 (zr9 h1 e2).2 hl hsh e3 hq) (zW6 he) (zT5 rfl)
theorem yd1 {ev:Rho→Prc (R×Rho)} {f:Expr} {args:List Expr} {p pos:Pos} (hE:Sim prog w KH call k true sc (eval (.Call f args [] p)) ev) :
  zX0 prog w KH call k sc (exec (.Expr (.Call f args [] p) pos)) (fun ρ=>(ev ρ).bind fun q=>.pure q.2):=by
 intro A env H ρ O s ρ' Q E hi he hro hk hs hq
 refine ibk hi fun q h1 hi=>?_
 cases hi
 exact wpAny_Expr_any (hE A env H ρ O s q.1 q.2 _ E h1 he hro hk hs fun v H' O' h' tk a rr=>hq H' O' h' tk a.s) (zW6 he) (zT5 rfl)
end
end Mine
namespace Mine
open PySem PySem.W PyProof.Rows PySem.Calls PySem.Builtin
section
variable {prog:Program} {w:World} {G:PG} {K:Frag} {KH:PH} {call:zB3} {k:Nat} {sc:Scope} {env:Env} {H H' H1 H2:PH} {ρ ρ' ρ1 ρ2:Rho} {O O' O1 O2:zB1} {h h' h1 h2 h0:Heap}
theorem zE4.up (gc:zE4 prog w G KH k call):zE4 prog w G KH (k+1) call :=
 fun f args r re hi A H s ow vs RR hro hk hs ha hq=>gc f args r re hi A H s ow vs RR (hro.mono (Nat.le_succ k)) hk hs ha hq
theorem Sim.fail {sf:Bool} {m:Env→Sem Value}:Sim prog w KH call k sf sc m (fun uu=>.fail):=by
 intro A env H ρ O s r ρ' Q E hi;cases hi
theorem yd2 (kok:KOK G K KH) (hard:Hard prog w) (gc:zE4 prog w G KH k call) {st:Bool} {ev:Rho→Expr→Prc (R×Rho)} (hE:∀ e,Sim prog w KH call (k+1) st sc (eval e) (fun ρ=>ev ρ e)) {f:Expr} {args:List Expr} {p:Pos} :
  Sim prog w KH call (k+1) st sc (eval (.Call f args [] p)) (fun ρ=>yC6 G st ev sc ρ f args p):=by
 cases f with
 | Attribute o m q=>exact yl9 kok gc.up hE
 | Name x px =>
  show Sim prog w KH call (k+1) st sc (eval (.Call (.Name x px) args [] p)) (fun ρ=>zz5 G st ev sc ρ args (zF4 G sc x))
  cases hr:zF4 G sc x with
  | none=>exact Sim.fail
  | some v =>
   cases v with
   | builtin id=>exact yE6 kok hard hE hr
   | type t=>exact yl5 kok hard hE hr
   | ref a=>exact fun A env H ρ O s r ρ' Q E hi=>iIk hi (fun hf hi=>(Option.isSome_iff_exists.mp hf).elim fun F hf=>yz5 kok gc.up hE hr hf A env H ρ O s r ρ' Q E hi) fun uu hi=>yz7 kok gc hE hr A env H ρ O s r ρ' Q E hi
   | _=>exact Sim.fail
 | _=>exact Sim.fail
theorem yo3 (kok:KOK G K KH) (hard:Hard prog w) (gc:zE4 prog w G KH k call) {st:Bool} {E0 F0:Evs}
  (hE:∀ sc e,Sim prog w KH call (k+1) st sc (eval e) (fun ρ=>E0.e sc ρ e)) (hT:∀ sc e,zR4 prog w KH call (k+1) st sc (fun env=>isTrue e env (eval e env)) (fun ρ=>E0.t sc ρ e))
  (hF:∀ sc e,Sim prog w KH call (k+1) false sc (eval e) (fun ρ=>F0.e sc ρ e)) (hFT:∀ sc e,zR4 prog w KH call (k+1) false sc (fun env=>isTrue e env (eval e env)) (fun ρ=>F0.t sc ρ e)) (sc:Scope) (e:Expr) :
  Sim prog w KH call (k+1) st sc (eval e) (fun ρ=>yj4 G st E0 F0 sc ρ e):=by
 cases e with
 | Constant c a b=>exact z52
 | Name x p =>
  exact fun A env H ρ O s r ρ' Q E hi=>iIk hi (fun uu h=>nS h) fun hd hi=>yk7 kok (Bool.eq_false_iff.mpr hd) A env H ρ O s r ρ' Q E hi
 | Tuple es a b=>exact ya3 fun x uu=>(hE sc x).v
 | List es a=>exact yl0 fun x uu=>(hE sc x).v
 | Dict ks vs a =>
  cases ks with
  | nil=>cases vs with
   | nil=>exact ya4 kok
   | cons _ _=>exact Sim.fail
  | cons _ _=>exact Sim.fail
 | BinOp l op r p=>exact ya0 (hE sc l) (hE sc r)
 | UnaryOp op x p =>
  cases op with
  | Not=>exact yz1 (hE sc x)
  | USub=>exact yk8 (hE sc x)
  | _=>exact Sim.fail
 | BoolOp op vs p =>
  intro A env H ρ O s r ρ' Q E hi he hro hk hs hq
  exact yM3 (pos:=p) (fun x uu=>hE sc x) A env H ρ O s r ρ' Q E hi he hro hk hs hq
 | IfExp t b o p=>exact ya1 (hT sc t) (hE sc b) (hE sc o)
 | Compare l ops cs p=>exact yD7 (hE sc l).v fun x uu=>(hE sc x).v
 | Attribute o x p=>exact zv9 kok (hE sc o).v
 | Subscript o i p =>
  cases i with
  | Slice l u s q=>exact ya7 (hE sc o).v (fun e uu=>(hE sc e).v) fun e uu=>(hE sc e).v
  | _=>exact ya6 (hE sc o).v (hE sc _).v
 | Call f args kws p =>
  cases kws with
  | nil=>exact yd2 kok hard gc (hE sc)
  | cons _ _=>exact Sim.fail
 | ListComp elt gens csc p =>
  cases st with
  | true=>exact z71 kok (hE sc) hF hFT
  | false=>exact Sim.fail
 | DictComp kx vx gens csc p =>
  cases st with
  | true=>exact z72 kok (hE sc) hF
  | false=>exact Sim.fail
 | _=>exact Sim.fail
theorem yo4 {st:Bool} {E0:Evs} (hE:∀ sc e,Sim prog w KH call k st sc (eval e) (fun ρ=>E0.e sc ρ e)) (hT:∀ sc e,zR4 prog w KH call k st sc (fun env=>isTrue e env (eval e env)) (fun ρ=>E0.t sc ρ e)) (sc:Scope) (e:Expr) :
  zR4 prog w KH call k st sc (fun env=>isTrue e env (eval e env)) (fun ρ=>stepT E0 sc ρ e):=by
 cases e with
 | UnaryOp op x p =>
  cases op with
  | Not =>
   intro A env H ρ O s b ρ' Q E hi he hro hk hs hq
   refine ibk hi fun q h1 hi=>?_
   cases hi
   show wpAny _ _ (isTrue x env (eval x env) >>= fun r=>pure (!r)) _ _ _
   exact wpAny_bind (hT sc x A env H ρ O s q.1 q.2 _ E h1 he hro hk hs fun H' O' h' tk a=>wpAny_pure (hq H' O' h' tk a))
  | _=>exact zk3 (hE sc _) fun uu uu=>rfl
 | BoolOp op vs p =>
  intro A env H ρ O s b ρ' Q E hi he hro hk hs hq
  exact z54 (fun x uu=>hT sc x) A env H ρ O s b ρ' Q E hi he hro hk hs hq
 | Compare l ops cs p=>exact z55 (hE sc l).v fun x uu=>(hE sc x).v
 | IfExp t b o p=>intro A env H ρ O s b ρ' Q E hi;cases hi
 | _=>exact zk3 (hE sc _) fun uu uu=>rfl
theorem z77 (kok:KOK G K KH) (hard:Hard prog w) (gc:zE4 prog w G KH k call):∀ (n:Nat),(∀ sc e,Sim prog w KH call (k+1) false sc (eval e) (fun ρ=>(yC7 G n).e sc ρ e))∧∀ sc e,zR4 prog w KH call (k+1) false sc (fun env=>isTrue e env (eval e env)) (fun ρ=>(yC7 G n).t sc ρ e)
 | 0=>⟨fun uu uu=>Sim.fail,fun sc e=>by intro A env H ρ O s b ρ' Q E hi;cases hi⟩
 | n+1=>by
  obtain ⟨h1,h2⟩:=z77 kok hard gc n
  exact ⟨yo3 kok hard gc h1 h2 h1 h2,yo4 h1 h2⟩
theorem z78 (kok:KOK G K KH) (hard:Hard prog w) (gc:zE4 prog w G KH k call):∀ (n:Nat),(∀ sc e,Sim prog w KH call (k+1) true sc (eval e) (fun ρ=>(evs G n).e sc ρ e))∧∀ sc e,zR4 prog w KH call (k+1) true sc (fun env=>isTrue e env (eval e env)) (fun ρ=>(evs G n).t sc ρ e)
 | 0=>⟨fun uu uu=>Sim.fail,fun sc e=>by intro A env H ρ O s b ρ' Q E hi;cases hi⟩
 | n+1=>by
  obtain ⟨h1,h2⟩:=z78 kok hard gc n
  obtain ⟨h3,h4⟩:=z77 kok hard gc n
  exact ⟨yo3 kok hard gc h1 h2 h3 h4,yo4 h1 h2⟩
end
end Mine
namespace Mine
open PySem PySem.W PyProof.Rows PySem.Calls PySem.Builtin
section
variable {prog:Program} {w:World} {G:PG} {K:Frag} {KH:PH} {call:zB3} {k:Nat} {sc:Scope} {env:Env} {H H' H1 H2:PH} {ρ ρ' ρ1 ρ2:Rho} {O O' O1 O2:zB1} {h h' h1 h2 h0:Heap}
theorem zX0.fail {m:Env→Sem Flow}:zX0 prog w KH call k sc m (fun uu=>.fail):=by
 intro A env H ρ O s ρ' Q E hi;cases hi
theorem zL0.fail {m:Env→Sem Flow}:zL0 prog w KH call k sc m (fun uu=>.fail):=by
 intro A env H ρ O s fl ρ' Q E hi;cases hi
theorem yO9 {value:Expr} (h:yC8 value=none):∀ vs k p,value≠.Tuple vs k p:=fun vs k p e=>by
 subst e
 exact Option.some_ne_none vs h
theorem yP0 {value:Expr} {vs:List Expr} (h:yC8 value=some vs):∃ k p,value=.Tuple vs k p:=by
 cases value with
 | Tuple es k p=>exact ⟨k,p,Option.some.inj h▸rfl⟩
 | _=>exact nS h
theorem z79 (kok:KOK G K KH) {E0:Evs} (hE:∀ e,Sim prog w KH call k true sc (eval e) (fun ρ=>E0.e sc ρ e)) (hU:∀ e,zR7 e=true→yO2 prog w KH call k sc e (fun ρ=>E0.e sc ρ e)) (t value:Expr) (pos:Pos) :
  zX0 prog w KH call k sc (exec (.Assign [t] value pos)) (fun ρ=>zn5 G E0 sc ρ t value):=by
 cases t with
 | Name x p =>
  show zX0 prog w KH call k sc (exec (.Assign [.Name x p] value pos)) (fun ρ=>xO8 E0 sc ρ x p value (zM1 value))
  cases hp:zM1 value with
  | some y =>
   obtain ⟨py,q,pp,rfl,hl⟩:=zc2 hp
   exact fun A env H ρ O s ρ' Q E hi=>yG6 (call:=call) (.inl ⟨x,p,rfl⟩) hl A env H ρ O s ρ' Q E (ibk hi fun r h1 hi=>iIk hi (fun uu h=>nS h) fun uu hi=>(zQ2 ..).trans (by rw[h1];exact hi))
  | none=>exact yc6 (hE value) (hU value)
 | Tuple ts k0 p =>
  show zX0 prog w KH call k sc (exec (.Assign [.Tuple ts k0 p] value pos)) (fun ρ=>yj6 E0 sc ρ ts k0 p value (zM1 value))
  cases hp:zM1 value with
  | some y =>
   obtain ⟨py,q,pp,rfl,hl⟩:=zc2 hp
   exact yG6 (.inr ⟨ts,k0,p,rfl⟩) hl
  | none =>
   clear hp
   show zX0 prog w KH call k sc (exec (.Assign [.Tuple ts k0 p] value pos)) (fun ρ=>xP0 E0 sc ρ ts k0 p value (yC8 value))
   cases hv:yC8 value with
   | some vs =>
    obtain ⟨k1,p1,rfl⟩:=yP0 hv
    refine fun A env H ρ O s ρ' Q E hi=>iTk hi fun hc hi=>?_
    obtain ⟨hc,h4⟩:=Bool.and_eq_true_iff.mp hc
    obtain ⟨hc,h3⟩:=Bool.and_eq_true_iff.mp hc
    exact yO5 hE (Bool.and_eq_true_iff.mp hc).2 (Bool.not_eq_true' _▸h3) h4 A env H ρ O s ρ' Q E hi
   | none =>
    intro A env H ρ O s ρ' Q E hi he hro hk hs hq
    have hi:zA1 call (xO9 E0 sc ρ ts k0 p value (zX4 sc ρ value))=some ρ':=hi
    cases hpk:zX4 sc ρ value with
    | some ds =>
     rw[hpk] at hi
     exact iTk hi fun uu hi=>zr4 hpk (io hi) he hro hk hs hq
    | none =>
     rw[hpk] at hi
     exact yO3 (hE value) (yO9 hv) A env H ρ O s ρ' Q E hi he hro hk hs hq
 | Subscript o i p=>exact fun A env H ρ O s ρ' Q E hi=>ibk hi fun x h1 hi=>(zF7 (io h1)).elim fun px e=>e▸yo2 kok hE A env H ρ O s ρ' Q E hi
 | Attribute o f p=>exact fun A env H ρ O s ρ' Q E hi=>ibk hi fun x h1 hi=>(zF7 (io h1)).elim fun px e=>e▸yc8 kok (hE value) A env H ρ O s ρ' Q E hi
 | _=>exact zX0.fail
theorem yP1 {E0:Evs} (hE:∀ e,Sim prog w KH call k true sc (eval e) (fun ρ=>E0.e sc ρ e)) (e:Expr) (pos:Pos):zX0 prog w KH call k sc (exec (.Expr e pos)) (fun ρ=>yj7 E0 sc ρ e):=by
 unfold yj7
 cases hl:zf5 e with
 | some c=>exact zx3 hE hl
 | none =>
  intro A env H ρ O s ρ' Q E hi
  refine iTk hi fun hc hi=>?_
  obtain ⟨c,hc⟩:=Option.isSome_iff_exists.mp hc
  obtain rfl:=zM8 hc
  exact yd1 (hE _) A env H ρ O s ρ' Q E hi
theorem yV4 (kok:KOK G K KH) {E0:Evs} (hE:∀ sc e,Sim prog w KH call k true sc (eval e) (fun ρ=>E0.e sc ρ e)) (hT:∀ sc e,zR4 prog w KH call k true sc (fun env=>isTrue e env (eval e env)) (fun ρ=>E0.t sc ρ e)) (hU:∀ sc e,zR7 e=true→yO2 prog w KH call k sc e (fun ρ=>E0.e sc ρ e)) :
  ∀ (n:Nat) (sc:Scope) (st:Stmt),zL0 prog w KH call k sc (exec st) (fun ρ=>zK1 G E0 n sc ρ st)
 | 0,sc,st=>zL0.fail
 | n+1,sc,st=>by
  have ih:=yV4 kok hE hT hU n sc
  cases st with
  | Assign ts v p =>
   cases ts with
   | nil=>exact zL0.fail
   | cons t ts=>cases ts with
    | nil=>exact (z79 kok (hE sc) (hU sc) t v p).s
    | cons _ _=>exact zL0.fail
  | Expr e p=>exact (yP1 (hE sc) e p).s
  | If t b o p=>exact y01 (hT sc t) (zP2 ih b) (zP2 ih o)
  | For t i b o p =>
   cases o with
   | nil=>exact yn3 kok (hE sc) (zP2 ih b)
   | cons _ _=>exact zL0.fail
  | While t b o p =>
   cases o with
   | nil=>exact yM9 (hT sc t) (zP2 ih b) zd0
   | cons _ _=>exact zL0.fail
  | Return v p =>
   cases v with
   | some e=>exact yF4 (hE sc e)
   | none=>exact zL0.fail
  | Try b hs o f p =>
   cases o with
   | nil=>cases f with
    | nil=>exact yn4 (zP2 ih b)
    | cons _ _=>exact zL0.fail
   | cons _ _=>exact zL0.fail
  | _=>exact zL0.fail
theorem y07 (kok:KOK G K KH) (hard:Hard prog w) (gc:zE4 prog w G KH k call) (n:Nat) (sc:Scope) (e:Expr) (hc:zR7 e=true):yO2 prog w KH call (k+1) sc e (fun ρ=>(evs G n).e sc ρ e):=by
 cases n with
 | zero=>intro A env H ρ O s r ρ' Q E use hi;cases hi
 | succ n =>
  obtain ⟨h1,h2⟩:=z78 kok hard gc n
  obtain ⟨h3,h4⟩:=z77 kok hard gc n
  cases e with
  | ListComp elt gens csc p=>exact zw8 kok (h1 sc) h3 h4
  | DictComp kx vx gens csc p=>exact zw9 kok (h1 sc) h3
  | SetComp elt gens csc p=>intro A env H ρ O s r ρ' Q E use hi;cases hi
  | _=>cases hc
theorem zs0 (kok:KOK G K KH) (hard:Hard prog w) (gc:zE4 prog w G KH k call) (sc:Scope) (body:List Stmt):zL0 prog w KH call (k+1) sc (execs body) (fun ρ=>zB2 (zK1 G (evs G 40) 40 sc) body ρ):=by
 obtain ⟨h1,h2⟩:=z78 kok hard gc 40
 exact zP2 (yV4 kok h1 h2 (y07 kok hard gc 40) 40 sc) body
end
end Mine
namespace Mine
open PySem PySem.W PyProof.Rows PySem.Calls PySem.Builtin
theorem yP2 (e:Ent):zd1 e=zG8 e:=by cases e<;>rfl
structure DefOK (KH:PH) (f:Addr) (F:Fn):Prop where
 fn:∃ o fd,KH f=some o∧o.data=.func fd∧fd.scope=F.scope∧fd.body=.stmts F.body∧fd.closure=[]∧fd.globals=mainGlobals∧fd.builtins=builtinsNs ∧
  (∃ c oc vs t,fd.code=.ref c∧KH c=some oc∧oc.data=.fields vs∧vs[1]?=some (.str fd.qualname t))∧∀ vals:List Value,vals.length=F.params.length→bindArgs fd ⟨vals,[]⟩=pure (F.params.zip vals)
 kinds:F.scope.isCoroutine=false∧F.scope.isGenerator=false∧F.scope.kind=.function
 par:∀ x∈F.params,F.scope.names.lookup x=some .local∨F.scope.names.lookup x=some .cell
 nodup:F.params.Nodup
 cell:∀ x,F.scope.names.lookup x=some .cell→∀ n,((cellsFrom n F.scope.names []).lookup x).isSome=true
 noFree:∀ x,F.scope.names.lookup x≠some .free
 nm:∀ x,F.scope.names.lookup x=some .local∨F.scope.names.lookup x=some .cell→(x == ("__debug__":Str))=false∧(x == ("__classdict__":Str))=false
structure DefsOK (G:PG) (KH:PH):Prop where
 defs:∀ f F,G.fn f=some F→DefOK KH f F
 lim:∀ h,Sub KH h→h.NoLimit
section
variable {prog:Program} {w:World} {G:PG} {K:Frag} {KH:PH} {call:zB3} {k:Nat} {sc:Scope} {env:Env} {H H' H1 H2:PH} {ρ ρ' ρ1 ρ2:Rho} {O O' O1 O2:zB1} {h h' h1 h2 h0:Heap}
theorem yd3 {kindOf:Str→Option NameKind} (xs:List Str):∀ (vs:List Value) (m:Str→Option Value),xs.Nodup→vs.length=xs.length→∀ x,(x ∉ xs→bindL kindOf (xs.zip vs) m x=m x)∧∀ v,(x,v)∈xs.zip vs→kindOf x=some .local→bindL kindOf (xs.zip vs) m x=some v:=by
 induction xs with
 | nil=>exact fun vs m hn hl x=>⟨fun uu=>rfl,fun v hv=>nomatch hv⟩
 | cons y xs ih =>
  intro vs m hn hl x
  have hn:=List.nodup_cons.mp hn
  cases vs with
  | nil=>exact nomatch hl
  | cons u vs =>
   have i:=ih vs (if kindOf y=some .local then fun z=>if z=y then some u else m z else m) hn.2 (Nat.succ.inj hl) x
   refine ⟨fun hx=>?_,fun v hv hk=>(List.mem_cons.mp hv).elim (fun e=>?_) fun hv=>i.2 v hv hk⟩
   ·have hx:=not_or.mp fun z=>hx (List.mem_cons.mpr z)
    refine (i.1 hx.2).trans ?_
    by_cases hc:kindOf y=some .local
    ·rw[if_pos hc];exact if_neg hx.1
    ·rw[if_neg hc]
   ·obtain ⟨rfl,rfl⟩:=Prod.mk.inj e
    refine (i.1 hn.1).trans ?_
    rw[if_pos hk];exact if_pos rfl
theorem yd4 {kindOf:Str→Option NameKind} (xs:List Str):∀ (vs:List Value) (m:Str→Option Value),xs.Nodup→vs.length=xs.length→∀ x,(x ∉ xs→bindC kindOf (xs.zip vs) m x=m x)∧∀ v,(x,v)∈xs.zip vs→kindOf x≠some .local→bindC kindOf (xs.zip vs) m x=some v:=by
 induction xs with
 | nil=>exact fun vs m hn hl x=>⟨fun uu=>rfl,fun v hv=>nomatch hv⟩
 | cons y xs ih =>
  intro vs m hn hl x
  have hn:=List.nodup_cons.mp hn
  cases vs with
  | nil=>exact nomatch hl
  | cons u vs =>
   have i:=ih vs (if kindOf y=some .local then m else fun z=>if z=y then some u else m z) hn.2 (Nat.succ.inj hl) x
   refine ⟨fun hx=>?_,fun v hv hk=>(List.mem_cons.mp hv).elim (fun e=>?_) fun hv=>i.2 v hv hk⟩
   ·have hx:=not_or.mp fun z=>hx (List.mem_cons.mpr z)
    refine (i.1 hx.2).trans ?_
    by_cases hc:kindOf y=some .local
    ·rw[if_pos hc]
    ·rw[if_neg hc];exact if_neg hx.1
   ·obtain ⟨rfl,rfl⟩:=Prod.mk.inj e
    refine (i.1 hn.1).trans ?_
    rw[if_neg hk];exact if_pos rfl
end
end Mine
namespace Mine
open PySem PySem.W PyProof.Rows PySem.Calls PySem.Builtin
section
variable {prog:Program} {w:World} {G:PG} {K:Frag} {KH:PH} {call:zB3} {k:Nat} {sc:Scope} {env:Env} {H H' H1 H2:PH} {ρ ρ' ρ1 ρ2:Rho} {O O' O1 O2:zB1} {h h' h1 h2 h0:Heap}
theorem zs1 {ds:List D} {i:Nat} {e:Ent} (he:(vals ds)[i]?=some e):∃ d,ds[i]?=some d∧e=.val d:=by
 unfold vals at he
 rw[List.getElem?_map,Option.map_eq_some_iff] at he
 refine xe he fun d Y0=>?_;have h1:=Y0.1;have h2:=Y0.2;try clear he;try clear Y0
 exact ⟨d,h1,h2.symm⟩
theorem yV5 {ow:Option Addr} {vs:List Value} {args:List Ent} (ha:ArgsAt prog w H h ow vs args):vs.length=args.length∧∀ (i:Nat) (e:Ent),args[i]?=some e→∃ v,vs[i]?=some v∧∀ (O:zB1) (x:Str),(i=0→O x=ow)→zQ4 prog w H h O x v e:=by
 cases ha with
 | vals rl =>
  refine ⟨by rw[rl.length];simp[vals],fun i e he=>?_⟩
  refine xe (zs1 he) fun d Y0=>?_;have h1:=Y0.1;obtain rfl:=Y0.2;try clear Y0
  refine xe (rl.get h1) fun v Y0=>?_;have h2:=Y0.1;have h3:=Y0.2;try clear Y0
  exact ⟨v,h2,fun O x uu=>h3⟩
 | @bor a ds₀ vs ds hn la rl =>
  refine ⟨by simp[rl.length,vals],fun i e he=>?_⟩
  cases i with
  | zero =>
   simp only[List.getElem?_cons_zero,Option.some.injEq] at he
   subst he
   exact ⟨_,rfl,fun O x hO=>⟨a,rfl,hO rfl,la⟩⟩
  | succ i =>
   simp only[List.getElem?_cons_succ] at he
   refine xe (zs1 he) fun d Y0=>?_;have h1:=Y0.1;obtain rfl:=Y0.2;try clear Y0
   refine xe (rl.get h1) fun v Y0=>?_;have h2:=Y0.1;have h3:=Y0.2;try clear Y0
   exact ⟨v,by simpa using h2,fun O x uu=>h3⟩
 | @new y dx c vs ds hn na rl =>
  refine ⟨by simp[rl.length,vals],fun i e he=>?_⟩
  cases i with
  | zero =>
   simp only[List.getElem?_cons_zero,Option.some.injEq] at he
   subst he
   exact ⟨_,rfl,fun O x hO=>⟨dx,hO rfl,na⟩⟩
  | succ i =>
   simp only[List.getElem?_cons_succ] at he
   refine xe (zs1 he) fun d Y0=>?_;have h1:=Y0.1;obtain rfl:=Y0.2;try clear Y0
   refine xe (rl.get h1) fun v Y0=>?_;have h2:=Y0.1;have h3:=Y0.2;try clear Y0
   exact ⟨v,by simpa using h2,fun O x uu=>h3⟩
set_option tactic.hygienic true in
theorem zs2 {β:Type}:∀ (xs:List Str) (bs:List β) (x:Str) (b:β),(xs.zip bs).lookup x=some b→∃ i:Nat,xs[i]?=some x∧bs[i]?=some b
 | [],bs,x,b,h=>by simp at h
 | y::xs,[],x,b,h=>by simp at h
 | y::xs,c::bs,x,b,h=>by
  rw[List.zip_cons_cons,List.lookup_cons] at h
  split at h
  ·rename_i hx
   rw[beq_iff_eq] at hx
   cases h
   exact ⟨0,by rw[hx];rfl,rfl⟩
  ·refine xe (zs2 xs bs x b h) fun i Y0=>?_;have h1:=Y0.1;have h2:=Y0.2;try clear Y0
   exact ⟨i+1,by simpa using h1,by simpa using h2⟩
theorem y08 {β:Type} {xs:List Str} {bs:List β} {i:Nat} {x:Str} {b:β} (h1:xs[i]?=some x) (h2:bs[i]?=some b):(x,b)∈xs.zip bs:=by
 refine List.mem_of_getElem? (i:=i) ?_
 rw[List.getElem?_zip_eq_some]
 exact ⟨h1,h2⟩
theorem yG8 {ow:Option Addr} {vs:List Value} {args:List Ent} (ha:ArgsAt prog w H h ow vs args):(∀ a,ow=some a→H a=none∧h.get? a≠none∧∃ e rest,args=e::rest∧zd1 e=true)∧∀ e,e∈args→zd1 e=true→ow≠none:=by
 cases ha with
 | vals rl =>
  refine ⟨fun a e=>(by cases e),fun e he hl=>?_⟩
  unfold vals at he
  rw[List.mem_map] at he
  refine xe he fun d Y0=>?_;obtain rfl:=Y0.2;try clear he;try clear Y0
  cases hl
 | bor hn la rl =>
  refine ⟨fun a e=>?_,fun uu uu uu e=>by cases e⟩
  cases e
  refine xe la fun vs Y0=>?_;refine xe Y0.1 fun n p=>?_;try clear la;try clear Y0
  exact ⟨hn,zB4 p,_,_,rfl,rfl⟩
 | new hn na rl =>
  refine ⟨fun a e=>?_,fun uu uu uu e=>by cases e⟩
  cases e
  refine xe na fun uu Y0=>?_;refine xe Y0 fun es Y1=>?_;refine xe Y1 fun n Y2=>?_;have p:=Y2.2.2.1;try clear na;try clear Y0 Y1 Y2
  exact ⟨hn,zB4 p,_,_,rfl,rfl⟩
end
end Mine
namespace Mine
open PySem PySem.W PyProof.Rows PySem.Calls PySem.Builtin
section
variable {prog:Program} {w:World} {G:PG} {K:Frag} {KH:PH} {call:zB3} {k:Nat} {sc:Scope} {env:Env} {H H' H1 H2:PH} {ρ ρ' ρ1 ρ2:Rho} {O O' O1 O2:zB1} {h h' h1 h2 h0:Heap}
noncomputable def zK3 (F:Fn) (ow:Option Addr):zB1:=fun y=>if F.params.head?=some y then ow else none
set_option tactic.hygienic true in
theorem yo5 {f:Addr} {F:Fn} (d:DefOK KH f F) {s s₁:Shared} {ow:Option Addr} {vs:List Value} {args:List Ent} (hs:Sub H s.heap) (ha:ArgsAt prog w H s.heap ow vs args) (hlen:F.params.length=args.length)
  (hsc:env.scope=F.scope) {N:Nat} (hcl:env.cells=cellsFrom N F.scope.names [])
  (x:InCallC s env.locals (bindL env.kindOf (F.params.zip vs) fun uu=>none) env.cells (bindC env.kindOf (F.params.zip vs) fun uu=>none) s₁) :
  St prog w H env (F.params.zip args) (zK3 F ow) s₁.heap:=by
 have ko:∀ y,env.kindOf y=F.scope.names.lookup y:=fun y=>by show env.scope.names.lookup y=_;rw[hsc]
 have Y0:=yV5 ha;have vl:=Y0.1;have vg:=Y0.2;try clear Y0
 have Y0:=yG8 ha;have og:=Y0.1;try clear Y0
 have keep:=x.toInCall.keep
 have frs:∀ b,s.heap.objs.size≤b→H b=none:=fun b hb=>zF1 hs hb
 have hL:=x.toInCall.fresh
 have cellp:∀ y c,env.cells.lookup y=some c→env.locals < c:=fun y c hc=>x.above y c (mem_of_lookup hc)
 have ent:∀ y e,(F.params.zip args).lookup y=some e→∃ v,(y,v)∈F.params.zip vs∧y∈F.params∧zQ4 prog w H s₁.heap (zK3 F ow) y v e:=by
  intro y e hl
  refine xe (zs2 _ _ _ _ hl) fun i Y0=>?_;have i1:=Y0.1;have i2:=Y0.2;try clear Y0
  refine xe (vg i e i2) fun v Y0=>?_;have i3:=Y0.1;have i4:=Y0.2;try clear Y0
  refine ⟨v,y08 i1 i3,List.mem_of_getElem? i1,(i4 (zK3 F ow) y fun h0=>?_).keeps (PLe.refl H) rfl fun b o uu q=>keep b o q⟩
  subst h0
  unfold zK3
  rw[if_pos (by rw[List.head?_eq_getElem?];exact i1)]
 refine ⟨fun a o q=>keep a o (hs a o q),⟨_,x.toInCall.ns⟩,fun y e hy hl=>?_,frs _ hL,fun y c hc=>?_,fun y z c hy hz=>name_of_addr x.apart (mem_of_lookup hy) (mem_of_lookup hz),fun y hy=>?_,fun y a hy=>?_,fun y z a hy hz=>?_⟩
 ·refine xe (ent y e hl) fun v Y0=>?_;have m1:=Y0.1;have m2:=Y0.2.1;have m3:=Y0.2.2;try clear Y0
  refine ⟨v,?_,m3⟩
  unfold zB6
  rcases d.par y m2 with e1 | e1
  ·rw[ko,e1]
   exact ⟨_,x.toInCall.ns,(yd3 F.params vs _ d.nodup (by rw[vl,hlen]) y).2 v m1 (by rw[ko,e1])⟩
  ·rw[ko,e1]
   have:=d.cell y e1 N
   rw[← hcl,Option.isSome_iff_exists] at this
   refine xe this fun c hc=>?_;try clear this
   refine ⟨c,hc,?_⟩
   have hcell:=x.cell y c hc
   rw[(yd4 F.params vs _ d.nodup (by rw[vl,hlen]) y).2 v m1 (by rw[ko,e1];exact fun z=>by cases z)] at hcell
   exact hcell
 ·have:=cellp y c hc
  exact ⟨frs c (Nat.le_trans hL (Nat.le_of_lt this)),Nat.ne_of_gt this,_,x.cell y c hc⟩
 ·rw[ko] at hy
  rcases hy with e1 | e1
  ·rw[hcl];exact d.cell y e1 N
  ·exact absurd e1 (d.noFree y)
 ·unfold zK3 at hy
  split at hy
  ·have Y0:=og a hy;have q1:=Y0.1;have q2:=Y0.2.1;try clear Y0
   have hlt:a < s.heap.objs.size:=by
    cases e:s.heap.get? a with
    | none=>exact absurd e q2
    | some o=>exact Heap.lt_size e
   exact ⟨q1,Nat.ne_of_lt (Nat.lt_of_lt_of_le hlt hL),fun z e=>by
    have:=cellp z a e
    exact Nat.lt_irrefl _ (Nat.lt_trans (Nat.lt_of_lt_of_le hlt hL) this),zL5 keep q2⟩
  ·cases hy
 ·unfold zK3 at hy hz
  split at hy
  ·rename_i e1
   split at hz
   ·rename_i e2
    rw[e1] at e2;cases e2;rfl
   ·cases hz
  ·cases hy
theorem yd5 {f:Addr} {F:Fn} (d:DefOK KH f F) (hsc:env.scope=F.scope) (hg:env.globals=mainGlobals) (hb:env.builtins=builtinsNs):EnvOK env F.scope:=by
 have ko:∀ y,env.kindOf y=F.scope.names.lookup y:=fun y=>by show env.scope.names.lookup y=_;rw[hsc]
 refine ⟨by rw[hsc];exact d.kinds.2.2,fun y=>.inl (ko y),hg,hb,fun y hy=>?_⟩
 unfold seen at hy
 rw[ko] at hy
 rcases hy with e | e | e
 ·exact d.nm y (.inl e)
 ·exact d.nm y (.inr e)
 ·exact absurd e (d.noFree y)
end
end Mine
namespace Mine
open PySem PySem.W PyProof.Rows PySem.Calls PySem.Builtin
section
variable {prog:Program} {w:World} {G:PG} {K:Frag} {KH:PH} {call:zB3} {k:Nat}
section
variable {env:Env} {F:Fn} {ow:Option Addr} {args:List Ent} {ρ0 ρ':Rho} {H H':PH} {O':zB1} {h h₁ h':Heap}
noncomputable def yV6 (F:Fn) (ρ':Rho):Option Ent:=F.params.head?.bind fun x=>ρ'.lookup x
theorem yd6 {o:Option Ent} {e:Ent} {rest:List Ent} (hl:z44 args o=true) (ha:args=e::rest) (he:zd1 e=true):∃ e',o=some e'∧zG8 e'=true:=by
 subst ha
 cases o with
 | none=>exact Bool.noConfusion ((if_pos he).symm.trans hl)
 | some e'=>exact ⟨e',rfl,(yP2 e').symm.trans ((if_pos he).symm.trans hl)⟩
theorem yG9 (a:AfterS prog w env H ρ0 (zK3 F ow) h₁ H' ρ' O' h') (hsn:∀ y∈F.params,seen env y) {e:Ent} (hl:yV6 F ρ'=some e) (hb:zG8 e=true):∃ y,seen env y∧ρ'.lookup y=some e∧O' y=ow :=
 obk hl fun y hy hl=>⟨y,hsn y (List.mem_of_mem_head? hy),hl,(a.bor y e (hsn y (List.mem_of_mem_head? hy)) hl hb).2.trans (if_pos hy)⟩
theorem y09 (a:AfterS prog w env H ρ0 (zK3 F ow) h₁ H' ρ' O' h') (hsn:∀ y∈F.params,seen env y) (hlent:z44 args (yV6 F ρ')=true) (og:∀ b,ow=some b→H b=none∧h.get? b≠none∧∃ e rest,args=e::rest∧zd1 e=true):∀ b,ow=some b→H' b=none:=by
 intro b hb
 have Y0:=og b hb;refine xe Y0.2.2 fun e0 Y1=>?_;refine xe Y1 fun rest Y2=>?_;have hargs:=Y2.1;have hl0:=Y2.2;try clear Y0 Y1 Y2
 refine xe (yd6 hlent hargs hl0) fun e Y0=>?_;have he:=Y0.1;have hbor:=Y0.2;try clear Y0
 refine xe (yG9 a hsn he hbor) fun y Y0=>?_;have hO:=Y0.2.2;try clear Y0
 exact (a.st.owns y b (hO.trans hb)).1
theorem y10 (a:AfterS prog w env H ρ0 (zK3 F ow) h₁ H' ρ' O' h') (hL:h.get? env.locals=none) (hC:∀ y b,env.cells.lookup y=some b→h.get? b=none) (keep:∀ b o,h.get? b=some o→h₁.get? b=some o) (hf:∀ b,ow=some b→H' b=none):CallGo ow H h H' h' where
 ext:=a.go.ext
 new b q q':=(a.go.new b q q').elim (fun z=>Classical.byContradiction fun n=>zL5 keep n z) fun z=>z.elim fun y z=>oTk z fun uu z=>absurd (hf b z) q'
 keep b o q hb:=a.go.keep b o (keep b o q) fun ht=>ht.elim (fun z=>nS ((z▸hL:h.get? b=none).symm.trans q)) fun ht=>ht.elim (fun z=>z.elim fun y z=>nS ((hC y b z).symm.trans q)) fun z=>z.elim fun y z=>oTk z fun uu z=>hb z
 live b q:=a.go.live b (zL5 keep q)
 sub:=a.st.sub
theorem y11 (a:AfterS prog w env H ρ0 (zK3 F ow) h₁ H' ρ' O' h') (hsn:∀ y∈F.params,seen env y):yl6 prog w H' h' ow (yV6 F ρ'):=by
 cases he:yV6 F ρ' with
 | none=>trivial
 | some e =>
  have x:=yG9 a hsn he
  cases e with
  | bor ds =>
   refine xe (x rfl) fun y Y0=>?_;have s1:=Y0.1;have hl:=Y0.2.1;have hO:=Y0.2.2;try clear Y0
   refine xe (a.st.names y _ s1 hl) fun v Y0=>?_;refine xe Y0.2 fun b Y1=>?_;have e2:=Y1.2.1;have e3:=Y1.2.2;try clear Y0 Y1
   exact ⟨b,hO.symm.trans e2,e3⟩
  | newO c fs =>
   refine xe (x rfl) fun y Y0=>?_;have s1:=Y0.1;have hl:=Y0.2.1;have hO:=Y0.2.2;try clear Y0
   refine xe (a.st.names y _ s1 hl) fun v Y0=>?_;refine xe Y0.2 fun dx Y1=>?_;have e2:=Y1.1;refine xe Y1.2 fun b Y2=>?_;refine xe Y2 fun es Y3=>?_;refine xe Y3 fun n Y4=>?_;have e5:=Y4.2.2.1;have e6:=Y4.2.2.2;try clear Y0 Y1 Y2 Y3 Y4
   exact ⟨dx,es,n,hO.symm.trans e2,e5,e6⟩
  | _=>trivial
end
set_option tactic.hygienic true in
theorem yP3 (kok:KOK G K KH) (hard:Hard prog w) (defs:DefsOK G KH) (gc:zE4 prog w G KH k call):zE4 prog w G KH (k+2) (fun f args=>(G.fn f).bind fun F=>zA1 call (zC7 G F args)):=by
 intro f args r re hi A H s ow vs RR hro hk hs ha hq
 refine obk hi fun F hF hi=>iTk hi fun hlen hi=>ibk hi fun p h1 hi=>iTk hi fun hlent hi=>?_
 have d:=defs.defs f F hF
 refine xe d.fn fun o Y0=>?_;refine xe Y0 fun fd Y1=>?_;have ho:=Y1.1;have hdat:=Y1.2.1;have hsc:=Y1.2.2.1;have hbody:=Y1.2.2.2.1;have hclo:=Y1.2.2.2.2.1;have hglob:=Y1.2.2.2.2.2.1;have hblt:=Y1.2.2.2.2.2.2.1;refine xe Y1.2.2.2.2.2.2.2.1 fun c Y2=>?_;refine xe Y2 fun oc Y3=>?_;refine xe Y3 fun fvs Y4=>?_;refine xe Y4 fun t Y5=>?_;have hc1:=Y5.1;have hc2:=Y5.2.1;have hc3:=Y5.2.2.1;have hc4:=Y5.2.2.2;have hbind:=Y1.2.2.2.2.2.2.2.2;try clear Y0 Y1 Y2 Y3 Y4 Y5
 have get:∀ a o,KH a=some o→s.heap.get? a=some o:=fun a o q=>hs _ _ (hk _ _ q)
 refine codeAny_call_cells (fd:=fd) (body:=F.body) (binds:=F.params.zip vs) (Nat.lt_trans (Nat.lt_of_le_of_lt (Nat.le_add_right _ _) hro.depth) (by decide)) (get _ _ ho) hdat (defs.lim _ get) ⟨c,oc,fvs,t,hc1,get _ _ hc2,hc3,hc4⟩ hbody (hbind vs ((yV5 ha).1.trans hlen.symm)) hclo
  (fun x hx=>hsc▸(d.par x.1 (List.of_mem_zip hx).1).elim .inl fun e=>.inr ⟨e,d.cell _ e _⟩) (fun s₁ x=>?_) (hsc▸d.kinds.1) (hsc▸d.kinds.2.1) (hsc▸d.kinds.2.2)
 have hsc':(callEnvC fd s.heap.objs.size f).scope=F.scope:=hsc
 have st:=yo5 (prog:=prog) (w:=w) (env:=callEnvC fd s.heap.objs.size f) d hs ha hlen hsc' (N:=s.heap.objs.size+1) (congrArg (fun z:Scope=>cellsFrom (s.heap.objs.size+1) z.names []) hsc) x
 have he:=yd5 (env:=callEnvC fd s.heap.objs.size f) d hsc' hglob hblt
 have hLf:s.heap.get? (callEnvC fd s.heap.objs.size f).locals=none:=zN0 (Nat.le_refl _)
 have hCf:∀ y b,(callEnvC fd s.heap.objs.size f).cells.lookup y=some b→s.heap.get? b=none:=fun y b q=>zN0 (Nat.le_of_lt (x.above y b (mem_of_lookup q)))
 have hsn:∀ y∈F.params,seen (callEnvC fd s.heap.objs.size f) y:=fun y hy=>(d.par y hy).elim (fun z=>.inl ((congrArg (fun z:Scope=>z.names.lookup y) hsc').trans z)) fun z=>.inr (.inl ((congrArg (fun z:Scope=>z.names.lookup y) hsc').trans z))
 refine xe x.done fun h₁ Y0=>?_;refine xe Y0 fun tk₁ Y1=>?_;obtain rfl:=Y1.1;have keep:=Y1.2;try clear Y0 Y1
 have hroom':Room (A.deeper (callEnvC fd s.heap.objs.size f)) (k+1):=⟨hro.hh,by have:=hro.depth;show A.depth+1+2 * (k+1) < 900;lia,by have:=hro.units;show A.units+3+20 * (k+1)+600 < cLine;lia⟩
 clear x hbind hbody hclo hglob hblt hc1 hc2 hc3 hc4 hdat ho get
 generalize callEnvC fd s.heap.objs.size f=env at *
 refine zs0 kok hard gc F.scope F.body (A.deeper env) env H (F.params.zip args) (zK3 F ow) { s with heap:=h₁,toks:=tk₁ } p.1 p.2 _ _ h1 he hroom' hk st fun fl H' O' h' tk a hfl=>?_
 have cg:=y10 a hLf hCf keep (y09 a hsn hlent (yG8 ha).1)
 have post:=y11 a hsn
 obtain ⟨p1,p2⟩:=p
 obtain rfl:=(Prod.mk.inj (Option.some.inj hi)).2
 obtain rfl:=(Prod.mk.inj (Option.some.inj hi)).1
 cases p1 with
 | next =>
  obtain rfl:=z66 hfl
  exact hq .none H' h' tk cg .none post
 | ret r0 =>
  refine xe hfl fun v Y0=>?_;obtain rfl:=Y0.1;have rr:=Y0.2;try clear hfl;try clear Y0
  exact hq v H' h' tk cg (rr.lo fun b q=>zL5 keep q) post
theorem z13 (kok:KOK G K KH) (hard:Hard prog w) (defs:DefsOK G KH):∀ c,zE4 prog w G KH (2 * c) (run G c)
 | 0=>fun f args r re hi=>by cases hi
 | c+1=>yP3 kok hard defs (z13 kok hard defs c)
end
end Mine
namespace Mine
open PySem PySem.W PyProof.Rows PySem.Calls PySem.Builtin
section
variable {prog:Program} {w:World} {H H':PH} {h h':Heap}
noncomputable def zm5 (H:PH) (h':Heap) (as:List Addr):PH:=fun a=>if a∈as then h'.get? a else H a
set_option tactic.hygienic true in
theorem yH0 {as:List Addr} (hs:Sub H h) (hk:∀ b o,h.get? b=some o→h'.get? b=some o) (hn:∀ a∈as,h.get? a=none):Ext H h (zm5 H h' as) h':=by
 refine ⟨fun a o q=>?_,fun a q q'=>?_,hk,fun a o q=>?_⟩
 ·unfold zm5
  split
  ·exact hk a o (hs a o q)
  ·exact q
 ·unfold zm5 at q'
  split at q'
  ·rename_i hm;exact hn a hm
  ·exact absurd q q'
 ·unfold zm5 at q
  split at q
  ·exact q
  ·exact hk a o (hs a o q)
theorem RepL.ofGet {vs:List Value} {ds:List D} (hl:vs.length=ds.length) (hg:∀ (i:Nat) (v:Value),vs[i]?=some v→∃ d,ds[i]?=some d∧Rep prog w H v d):RepL prog w H vs ds:=by
 induction vs generalizing ds with
 | nil=>cases ds with | nil=>exact .nil | cons d ds=>simp at hl
 | cons v vs ih =>
  cases ds with
  | nil=>simp at hl
  | cons d ds =>
   obtain ⟨d',h1,h2⟩:=hg 0 v rfl
   simp only[List.getElem?_cons_zero,Option.some.injEq] at h1
   subst h1
   exact .cons h2 (ih (by simpa using hl) fun i u hu=>by simpa using hg (i+1) u (by simpa using hu))
theorem Twin.get {xs:List (Str×Value)} {kvs:List (D×D)} (t:Twin prog w H xs kvs) {j:Nat} {k:Str} {x:Value} (h:xs[j]?=some (k,x)):∃ d,kvs[j]?=some (.str k,d)∧Rep prog w H x d:=by
 induction t generalizing j with
 | nil=>simp at h
 | cons h1 _ ih =>
  cases j with
  | zero=>simp only[List.getElem?_cons_zero,Option.some.injEq,Prod.mk.injEq] at h;obtain ⟨rfl,rfl⟩:=h;exact ⟨_,rfl,h1⟩
  | succ j=>simp only[List.getElem?_cons_succ] at h ⊢;exact ih h
theorem z14 {xs:List (Str×Value)} {es:List (D×D)} {as:List Addr} {lo:Addr} (t:Twin prog w H xs es) (hl:as.length=xs.length) (g:KdxG (PySem.strKind prog w) xs lo h' as) (le:PLe H (zm5 H h' as)):RepL prog w (zm5 H h' as) (as.map Value.ref) (zJ4 es):=by
 refine RepL.ofGet (by simp[zJ4,hl,t.length]) fun i v hv=>?_
 rw[List.getElem?_map,Option.map_eq_some_iff] at hv
 obtain ⟨a,ha,rfl⟩:=hv
 obtain ⟨key,k,x,h1,h2,h3⟩:=g.pairs i a ha
 obtain ⟨d,h4,h5⟩:=t.get h1
 obtain ⟨tt,rfl⟩:=Value.isStrOf_shape (show Value.isStrOf k key=true from h2)
 refine ⟨.tup [.str k,d],by unfold zJ4;rw[List.getElem?_map,h4];rfl,.tup (o:={ cls:=.type "tuple",data:=.seq #[.str k tt,x] }) ?_ rfl rfl (.cons (.str k tt) (.cons (h5.mono le) .nil)) (.inl rfl)⟩
 unfold zm5
 rw[if_pos (List.mem_of_getElem? ha)]
 exact h3
set_option tactic.hygienic true in
theorem zs3 (A:Around) (E:Value→Shared→Prop) (s:Shared) (H:PH) (Q:Value→Shared→Prop) (r d:Addr) (es:List (D×D)) (o:Option D) (k:Nat) (hro:Room A k) (hs:Sub H s.heap) (hv:s.heap.IsItemsView r d) (rr:Rep prog w H (.ref d) (.dict es)) (hl:es.length≤8000000) (hlk:zE0 es ⟨#[]⟩=some o) (hq:zL4 prog w H s (.ownL (zJ4 es)) Q) :
  wpAny (model prog w) A (PySem.call (.type "list") [.ref r]) Q E s:=by
 obtain ⟨xs,n,hD,tw⟩:=(rr.dictAt hs).dictOf hlk
 refine kdx_call (knd:=PySem.strKind prog w) hro.hh hv hD (by rw[tw.length];unfold sizeLine;omega) fun h' tk acc c as hk hS hal hG hacc=>?_
 have hn:∀ a∈as,s.heap.get? a=none:=fun a ha=>zN0 (Nat.le_of_lt (hG.above a ha))
 have e:=yH0 hs hk hn
 refine hq _ _ h' tk e ⟨_,rfl,zD7 _,?_,acc,⟨c,hS⟩,?_⟩
 ·unfold zm5
  split
  ·rename_i hm;exact absurd (hG.above _ hm) (Nat.lt_irrefl _)
  ·exact zF1 hs (Nat.le_refl _)
 ·rw[hacc];exact z14 tw hal hG e.ext
end
end Mine
namespace Mine
open PySem PySem.W PyProof.Rows PySem.Calls PySem.Builtin
section
variable {prog:Program} {w:World} {H H':PH} {h h':Heap}
theorem zs4 {A:Around} {E:Value→Shared→Prop} {s:Shared} {D:Addr} {n:Nat} {vs:List Value} {ss:List Str} {Q:Value→Shared→Prop} (ho:s.heap.get? D=some (seqObj "list" vs.toArray n)) (hS:StrsAre vs ss) (h64:vs.length < 64)
  (hq:∀ (h':Heap) (vs':List Value) (ss':List Str) (c:Nat),StrsAre vs' ss'→ss'.Perm ss→sortedS ss'=true→h'.get? D=some (seqObj "list" vs'.toArray c)→(∀ b o,b≠D→s.heap.get? b=some o→h'.get? b=some o)→Q .none { s with heap:=h' }) :
  wpAny (model prog w) A (PySem.call (.builtin "list.sort") [.ref D]) Q E s:=by
 refine wpAny_call_entry PyProof.Rows.slot_list_sort ⟨_,ho,rfl⟩ PyProof.Rows.entry_list_sort (list_sort_treeK strKind_oneLt ho hS.keysOf (fun v₁ v₂ rest e=>keyKind_strs (by rw[← e];exact hS)) h64 fun st' hp hs=>⟨.none,rfl,?_⟩) (PyProof.Rows.args_list_sort _)
 refine xe (sorted_out_str hS hp hs) fun ss' Y0=>?_;have h1:=Y0.1;have h2:=Y0.2.1;have h3:=Y0.2.2;try clear Y0
 refine xe (sortedHeap_at (vs:=vs) (out:=(arrOf st').map (·.2)) ho) fun c hc=>?_
 exact hq _ _ ss' c h1 h2 h3 (by rw[Array.toArray_toList];exact hc) fun b o hb q=>(sortedHeap_old hb (Heap.lt_size q)).trans q
end
end Mine
namespace Mine
open PySem PySem.W PyProof.Rows PySem.Calls PySem.Builtin
theorem zc3 {s:Str}:∀ {l:List Str} {r:List D},zI3 zD1 (.str s) (l.map .str)=some r→∃ l':List Str,r=l'.map .str∧l'.Perm (s::l)
 | [],r,h=>by simp[zI3] at h;subst h;exact ⟨[s],rfl,List.Perm.refl _⟩
 | x::l,r,h=>by
  simp only[List.map_cons,zI3,zD1,Option.bind_some] at h
  split at h
  ·cases h
  ·split at h
   ·cases h;exact ⟨s::x::l,rfl,List.Perm.refl _⟩
   ·rw[Option.bind_eq_some_iff] at h
    refine xe h fun r' Y0=>?_;have h1:=Y0.1;have h2:=Y0.2;try clear h;try clear Y0
    cases h2
    refine xe (zc3 h1) fun l' Y0=>?_;obtain rfl:=Y0.1;have hp:=Y0.2;try clear Y0
    exact ⟨x::l',rfl,(hp.cons x).trans (List.Perm.swap s x l)⟩
theorem yH1:∀ {ss:List Str} {l:List D},zF0 zD1 (ss.map .str)=some l→∃ ls:List Str,l=ls.map .str∧ls.Perm ss
 | [],l,h=>by simp[zF0] at h;subst h;exact ⟨[],rfl,List.Perm.refl _⟩
 | s::ss,l,h=>by
  simp only[List.map_cons,zF0,zD1,Option.bind_some,Option.bind_eq_some_iff] at h
  refine xe h fun r Y0=>?_;have h1:=Y0.1;have h2:=Y0.2;try clear h;try clear Y0
  refine xe (yH1 h1) fun ls Y0=>?_;obtain rfl:=Y0.1;have hp:=Y0.2;try clear Y0
  refine xe (zc3 h2) fun l' Y0=>?_;obtain rfl:=Y0.1;have hp':=Y0.2;try clear Y0
  exact ⟨l',rfl,hp'.trans (hp.cons s)⟩
end Mine
namespace Mine
open PySem PySem.W PyProof.Rows PySem.Calls PySem.Builtin
noncomputable def SLe (a b:Str):Prop:=a.cps.toList≤b.cps.toList
theorem SLe.anti {a b:Str} (h:SLe a b) (h':SLe b a):a=b:=by
 have:=List.le_antisymm h h'
 obtain ⟨⟨x⟩⟩:=a
 obtain ⟨⟨y⟩⟩:=b
 simp only at this
 rw[this]
theorem SLe.trans {a b c:Str} (h:SLe a b) (h':SLe b c):SLe a c:=List.le_trans h h'
theorem SLe.total (a b:Str):SLe a b∨SLe b a:=List.le_total _ _
theorem z15 {a b:Str}:zf1 a b=true ↔ SLe a b:=by unfold zf1 SLe;exact decide_eq_true_iff
set_option tactic.hygienic true in
theorem zW7 {s:Str}:∀ {l:List Str} {r:List D},l.Pairwise SLe→zI3 zD1 (.str s) (l.map .str)=some r→∃ l':List Str,r=l'.map .str∧l'.Pairwise SLe∧l'.Perm (s::l)
 | [],r,hl,h=>by simp[zI3] at h;subst h;exact ⟨[s],rfl,by simp,List.Perm.refl _⟩
 | x::l,r,hl,h=>by
  rw[List.pairwise_cons] at hl
  simp only[List.map_cons,zI3,zD1,Option.bind_some] at h
  split at h
  ·cases h
  ·split at h
   ·rename_i hle
    cases h
    rw[z15] at hle
    refine ⟨s::x::l,rfl,?_,List.Perm.refl _⟩
    rw[List.pairwise_cons,List.pairwise_cons]
    refine ⟨fun y hy=>?_,hl.1,hl.2⟩
    rcases List.mem_cons.mp hy with rfl | hy
    ·exact hle
    ·exact hle.trans (hl.1 y hy)
   ·rename_i hle
    rw[z15] at hle
    have hxs:SLe x s:=(SLe.total s x).resolve_left hle
    rw[Option.bind_eq_some_iff] at h
    refine xe h fun r' Y0=>?_;have h1:=Y0.1;have h2:=Y0.2;try clear h;try clear Y0
    cases h2
    refine xe (zW7 hl.2 h1) fun l' Y0=>?_;obtain rfl:=Y0.1;have hs:=Y0.2.1;have hp:=Y0.2.2;try clear Y0
    refine ⟨x::l',rfl,?_,(hp.cons x).trans (List.Perm.swap s x l)⟩
    rw[List.pairwise_cons]
    refine ⟨fun y hy=>?_,hs⟩
    rcases List.mem_cons.mp (hp.mem_iff.mp hy) with rfl | hy
    ·exact hxs
    ·exact hl.1 y hy
theorem zc4:∀ {ss:List Str} {l:List D},zF0 zD1 (ss.map .str)=some l→∃ ls:List Str,l=ls.map .str∧ls.Pairwise SLe∧ls.Perm ss
 | [],l,h=>by simp[zF0] at h;subst h;exact ⟨[],rfl,List.Pairwise.nil,List.Perm.refl _⟩
 | s::ss,l,h=>by
  simp only[List.map_cons,zF0,zD1,Option.bind_some,Option.bind_eq_some_iff] at h
  refine xe h fun r Y0=>?_;have h1:=Y0.1;have h2:=Y0.2;try clear h;try clear Y0
  refine xe (zc4 h1) fun ls Y0=>?_;obtain rfl:=Y0.1;have hs:=Y0.2.1;have hp:=Y0.2.2;try clear Y0
  refine xe (zW7 hs h2) fun l' Y0=>?_;obtain rfl:=Y0.1;have hs':=Y0.2.1;have hp':=Y0.2.2;try clear Y0
  exact ⟨l',rfl,hs',hp'.trans (hp.cons s)⟩
theorem zl8:∀ (p:Str) (l:List Str),risingS p l=true→(p::l).Pairwise SLe
 | p,[],_=>by simp
 | p,x::r,h=>by
  have h':(!Spec.ltCps x.cps.toList p.cps.toList&&risingS x r)=true:=h
  rw[Bool.and_eq_true,Bool.not_eq_true',ltCps_eq,decide_eq_false_iff_not] at h'
  have hpx:SLe p x:=List.not_lt.mp h'.1
  have ih:=zl8 x r h'.2
  rw[List.pairwise_cons]
  refine ⟨fun y hy=>?_,ih⟩
  rcases List.mem_cons.mp hy with rfl | hy
  ·exact hpx
  ·exact hpx.trans (List.rel_of_pairwise_cons ih hy)
theorem yH2:∀ (l:List Str),sortedS l=true→l.Pairwise SLe
 | [],_=>List.Pairwise.nil
 | x::r,h=>zl8 x r h
theorem z16 {ss ss':List Str} {l:List D} (h:zF0 zD1 (ss.map .str)=some l) (hp:ss'.Perm ss) (hs:sortedS ss'=true):l=ss'.map .str:=by
 refine xe (zc4 h) fun ls Y0=>?_;obtain rfl:=Y0.1;have h1:=Y0.2.1;have h2:=Y0.2.2;try clear Y0
 rw[List.Perm.eq_of_pairwise (le:=SLe) (fun a b uu uu x y=>x.anti y) h1 (yH2 _ hs) (h2.trans hp.symm)]
end Mine
namespace Mine
open PySem PySem.W PyProof.Rows PySem.Calls PySem.Builtin
section
variable {prog:Program} {w:World} {H H':PH} {h h':Heap}
theorem yP4 {A:Around} {E:Value→Shared→Prop} {s:Shared} {Q:Value→Shared→Prop} {T:String} {r d:Addr} {n:Nat} {P:Nat→Value→Prop} {OK:Heap→Prop} (K:KdlSrc prog w T r d n P OK) (hh:A.handled=none) (hok:OK s.heap) (hn:n < 64) (hs:Sub H s.heap)
  {ss:List Str} {l:List D} (hP:∀ vs:List Value,vs.length=n→(∀ (j:Nat) (v:Value),vs[j]?=some v→P j v)→∃ ss',StrsAre vs ss'∧ss'.Perm ss) (hl:zF0 zD1 (ss.map .str)=some l) (hq:zL4 prog w H s (.ownL l) Q) :
  wpAny (model prog w) A (PySem.call (.builtin "sorted") [.ref r]) Q E s:=by
 refine call_function_entry kind_sorted plain_sorted entry_sorted (args_sorted1 _) ?_
 unfold Builtin.«sorted»
 refine wpAny_bind (m:=checkCount "sorted" 1 1 _) (wpAny_pure ?_)
 refine wpAny_bind (kdu_collect (A:=A.in1) K hh hok (by unfold sizeLine;lia) fun h' tk acc hk hacc=>?_)
 have hlen:acc.toList.length=n:=by rw[Array.length_toList];exact hacc.1
 refine xe (hP acc.toList hlen fun j v e=>hacc.2 j v (by rw[← Array.getElem?_toList];exact e)) fun ss1 Y0=>?_;have hS:=Y0.1;have hp1:=Y0.2;try clear Y0
 refine wpAny_bind (wpAny_newList ?_ (by rw[hlen];unfold sizeLine;lia))
 refine wpAny_bind (wpAny_holding (zs4 (s:={ s with heap:=h'.push { cls:=.type "list",data:=.seq acc.toList.toArray },toks:=tk }) (n:=0) (Heap.get?_push_size _ rfl) hS (by lia) fun h2 vs' ss' c h1 hp hsd hD hk2=>?_))
 refine wpAny_pure ⟨_,rfl,?_⟩
 have hl':=z16 hl (hp.trans hp1) hsd
 have fr:s.heap.get? h'.objs.size=none:=by
  cases e:s.heap.get? h'.objs.size with
  | none=>rfl
  | some o=>exact absurd (Heap.lt_size (hk _ _ e)) (Nat.lt_irrefl _)
 have keep:∀ b o,s.heap.get? b=some o→h2.get? b=some o:=fun b o q=>hk2 b o (fun e=>by rw[e,fr] at q;cases q) (Heap.get?_push_of_some _ (hk b o q))
 refine hq _ H h2 _ (Ext.grow hs keep) ⟨_,rfl,fr,zS7 hs fr,vs'.toArray,⟨c,hD⟩,?_⟩
 rw[hl']
 clear hl' hq hD hp hsd hl
 induction h1 with
 | nil=>exact .nil
 | cons x t _ ih=>exact .cons (.str x t) ih
end
end Mine
namespace Mine
open PySem PySem.W PyProof.Rows PySem.Calls PySem.Builtin
section
variable {prog:Program} {w:World} {H H':PH} {h h':Heap}
theorem ze1:∀ {vs:List Value} {ss:List Str},vs.length=ss.length→(∀ (j:Nat) (v:Value),vs[j]?=some v→∃ x,ss[j]?=some x∧Value.isStrOf x v=true)→StrsAre vs ss
 | [],[],_,_=>.nil
 | [],_::_,h,_=>by simp at h
 | _::_,[],h,_=>by simp at h
 | v::vs,s::ss,h,hg=>by
  refine xe (hg 0 v rfl) fun x Y0=>?_;have h1:=Y0.1;have h2:=Y0.2;try clear Y0
  simp only[List.getElem?_cons_zero,Option.some.injEq] at h1
  subst h1
  refine xe (Value.isStrOf_shape h2) fun t Y0=>?_;obtain rfl:=Y0;try clear Y0
  exact .cons _ t (ze1 (by simpa using h) fun j v hv=>by simpa using hg (j+1) v (by simpa using hv))
theorem Twin.keysD {xs:List (Str×Value)} {kvs:List (D×D)} (t:Twin prog w H xs kvs):kvs.map (·.1)=(xs.map (·.1)).map .str:=by
 induction t with
 | nil=>rfl
 | cons _ _ ih=>simp[ih]
theorem yH3 (A:Around) (E:Value→Shared→Prop) (s:Shared) (H:PH) (Q:Value→Shared→Prop) (v:Value) (es:List (D×D)) (l:List D) (k:Nat) (hro:Room A k) (hs:Sub H s.heap) (rr:Rep prog w H v (.dict es)) (hl:es.length < 64) (hsort:zF0 zD1 (es.map (·.1))=some l) (hq:zL4 prog w H s (.ownL l) Q) :
  wpAny (model prog w) A (PySem.call (.builtin "sorted") [v]) Q E s:=by
 refine xe rr.dict_ref fun y Y0=>?_;obtain rfl:=Y0;try clear Y0
 have hd:=rr.dictAt hs
 have lo:(y == sysModules)=false:=hd.choose_spec.choose_spec.2.2.2
 refine xe (zY3 (es:=es) (fun p hp=>zY2 hsort p.1 (List.mem_map_of_mem hp)) ⟨#[]⟩) fun o hlk=>?_
 refine xe (hd.dictOf hlk) fun xs Y0=>?_;refine xe Y0 fun n Y1=>?_;have hD:=Y1.1;have tw:=Y1.2;try clear Y0 Y1
 rw[tw.keysD] at hsort
 refine yP4 (K:=kdl_dict (knd:=PySem.strKind prog w) (kvs:=xs) (ep:=n) lo) hro.hh hD (by rw[tw.length];exact hl) hs (ss:=xs.map (·.1)) (fun vs hvl hP=>⟨xs.map (·.1),ze1 (by simpa using hvl) fun j v hv=>?_,List.Perm.refl _⟩) hsort hq
 refine xe (hP j v hv) fun k Y0=>?_;refine xe Y0 fun x Y1=>?_;have h1:=Y1.1;have h2:=Y1.2;try clear Y0 Y1
 exact ⟨k,by rw[List.getElem?_map,h1];rfl,h2⟩
end
end Mine
namespace Mine
open PySem PySem.W PyProof.Rows PySem.Calls PySem.Builtin
section
variable {prog:Program} {w:World} {A:Around} {E:Value→Shared→Prop} {s:Shared} {Q:Option Value→Shared→Prop}
theorem yH4:typeLookup (.type "list") "keys"=pure none:=by rw[typeLookup_type,builtinLookup_eq_fast];kernel_rfl
theorem z80:typeLookup (.type "tuple") "keys"=pure none:=by rw[typeLookup_type,builtinLookup_eq_fast];kernel_rfl
theorem yd7 {a:Addr} {xs:Array Value} {k:Nat} {sl:Array (Option Value)} (hx:s.heap.get? a=some { cls:=.type "list",dict:=none,data:=.seq xs k,slots:=sl }) (hA:A.handled=none)
  (h:∀ h' tk,(∀ b o,s.heap.get? b=some o→h'.get? b=some o)→Q none { s with heap:=h',toks:=tk }) :
  wpAny (model prog w) A (getAttr? (.ref a) "keys") Q E s:=by
 obtain ⟨hp,g,d,tk,os⟩:=s
 have hT:∀ tk',(⟨hp,g,d,tk',os⟩:Shared).TypeIs (.ref a) "list":=fun uu=>⟨_,hx,rfl⟩
 have f1:=sub_AttributeError
 have f3:=F.slot_list_getattribute.lookup
 have f4:=F.slot_list_getattribute.bind (.ref a)
 have f5:=am_list_getattr_none
 unfold getAttr? getAttrBy? getAttrBy
 repeat (any_goals (first | assumption | exact hT _ | ((with_reducible show wpAny _ _ (call (Value.builtin "list.__getattribute__") _ _) _ _ _);refine call_meets F.slot_list_getattribute (hT _) am_entry_list_getattribute (F.args_list_getattribute_2 _ _) (meets_getattribute_miss_list a xs k sl "keys" _ yH4 (by decide +kernel) (by decide +kernel)) ⟨hx,hA,fun h' tk' e hx'=>?_⟩) | wp_step))
 refine xe hx'.there fun t' Y0=>?_;refine xe Y0 fun u' he=>?_;try clear Y0
 show wpAny _ _ (getattributeRaised _ _ _ _ _ _ _) _ _ _
 unfold getattributeRaised
 repeat (any_goals (first | assumption | wp_step))
 exact h _ _ hx'.keeps
theorem yP5 {a:Addr} {xs:Array Value} {k:Nat} {sl:Array (Option Value)} (hx:s.heap.get? a=some { cls:=.type "tuple",dict:=none,data:=.seq xs k,slots:=sl }) (hA:A.handled=none)
  (h:∀ h' tk,(∀ b o,s.heap.get? b=some o→h'.get? b=some o)→Q none { s with heap:=h',toks:=tk }) :
  wpAny (model prog w) A (getAttr? (.ref a) "keys") Q E s:=by
 obtain ⟨hp,g,d,tk,os⟩:=s
 have hT:∀ tk',(⟨hp,g,d,tk',os⟩:Shared).TypeIs (.ref a) "tuple":=fun uu=>⟨_,hx,rfl⟩
 have f1:=sub_AttributeError
 have f3:=F.slot_tuple_getattribute.lookup
 have f4:=F.slot_tuple_getattribute.bind (.ref a)
 have f5:=am_tuple_getattr_none
 unfold getAttr? getAttrBy? getAttrBy
 repeat (any_goals (first | assumption | exact hT _ | ((with_reducible show wpAny _ _ (call (Value.builtin "tuple.__getattribute__") _ _) _ _ _);refine call_meets F.slot_tuple_getattribute (hT _) am_entry_tuple_getattribute (F.args_tuple_getattribute_2 _ _) (meets_getattribute_miss_tuple a xs k sl "keys" _ z80 (by decide +kernel) (by decide +kernel)) ⟨hx,hA,fun h' tk' e hx'=>?_⟩) | wp_step))
 refine xe hx'.there fun t' Y0=>?_;refine xe Y0 fun u' he=>?_;try clear Y0
 show wpAny _ _ (getattributeRaised _ _ _ _ _ _ _) _ _ _
 unfold getattributeRaised
 repeat (any_goals (first | assumption | wp_step))
 exact h _ _ hx'.keeps
end
end Mine
namespace Mine
open PySem PySem.W PyProof.Rows PySem.Calls PySem.Builtin
theorem zQ8:entryFor table "dict.update.loop"=some Builtin.«dict.update.loop»:=entryFor_of_tree (by kernel_rfl)
theorem zH1:plainId "dict.update.loop"=true:=by decide +kernel
section
variable {prog:Program} {w:World} {A:Around} {R:Result→Shared→Prop} {I:Addr} {fp wr:List Addr} {n:Nat} {P:Nat→Value→Prop} {St:Nat→Heap→Prop} {H:PH}
theorem zx4 {E:Value→Shared→Prop} {s:Shared} {Q:List Value→Shared→Prop} {v:Value} {ds:List D} (hs:Sub H s.heap) (r:Rep prog w H v (.tup ds))
  (hq:∀ vs,RepL prog w H vs ds→Q vs s):wpAny (model prog w) A (Builtin.Dict.pairItems v) Q E s:=by
 refine xe r.tup_ref fun a Y0=>?_;obtain rfl:=Y0;try clear Y0
 refine xe (zH6 hs r) fun o Y0=>?_;refine xe Y0 fun vs Y1=>?_;refine xe Y1 fun k Y2=>?_;have h1:=Y2.1;have h2:=Y2.2.1;have h3:=Y2.2.2.1;have hr:=Y2.2.2.2.1;have hT:=Y2.2.2.2.2;try clear Y0 Y1 Y2
 unfold Builtin.Dict.pairItems
 refine wpAny_bind (wpAny_typeOf (T:="tuple") ⟨_,h1,h2⟩ ?_)
 rw[if_pos (by decide)]
 refine wpAny_bind (wpAny_seqItems h1 h3 ?_)
 exact wpAny_pure (hq _ hr)
theorem zx5 {E:Value→Shared→Prop} {s:Shared} {Q:List Value→Shared→Prop} {v:Value} {x:Str} {d:D} (hs:Sub H s.heap) (r:Rep prog w H v (.tup [.str x,d]))
  (hq:∀ tx vv,Rep prog w H vv d→Q [.str x tx,vv] s):wpAny (model prog w) A (Builtin.Dict.pairItems v) Q E s :=
 zx4 hs r fun vs hvs=>hvs.k2 (P:=fun vs=>Q vs s) fun a b r1 r2=>r1.str_val.elim fun tx e=>e▸hq tx b r2
theorem yo6 {es:List (D×D)} {ks:List Str} (hes:zT3 es ks) (hnd:ks.Nodup) {i:Nat} {p:D×D} (he:es[i]?=some p):∃ x,p.1=.str x∧zI8 (es.take i) x p.2=some (es.take (i+1)):=by
 refine xe (List.getElem?_eq_some_iff.mp he) fun hl hg=>?_
 have hm:p.1∈ks.map D.str:=hes▸List.mem_map.mpr ⟨p,List.mem_of_getElem? he,rfl⟩
 refine xe (List.mem_map.mp hm) fun x Y0=>?_;have e:=Y0.2;try clear Y0
 have h1:es.take i++(D.str x,p.2)::es.drop (i+1)=es:=by rw[e,← hg,← List.drop_eq_getElem_cons hl];exact List.take_append_drop i es
 refine ⟨x,e.symm,?_⟩
 rw[List.take_add_one,he]
 exact (zT4 (rest:=es.drop (i+1)) (h1.symm▸hes) hnd).trans (by rw[e];rfl)
structure UpdC (prog:Program) (w:World) (A:Around) (H:PH) (I:Addr) (fp wr:List Addr) (n:Nat) (P:Nat→Value→Prop) (St:Nat→Heap→Prop) (D₀:Addr) (es:List (D×D)):Prop where
 W:Walks prog w A.in1 I fp wr n P St
 hD:D₀ ∉ fp
 hn:n=es.length
 hlen:n≤8000000
 hHD:H D₀=none
 hHw:∀ b∈wr,H b=none
 hP:∀ i v,P i v→∃ x d,Rep prog w H v (.tup [.str x,d])∧zI8 (es.take i) x d=some (es.take (i+1))
theorem UpdC.keepS {D₀:Addr} {es:List (D×D)} (C:UpdC prog w A H I fp wr n P St D₀ es) {h h':Heap} (hs:Sub H h) (hk:∀ b o,b ∉ wr→h.get? b=some o→h'.get? b=some o):Sub H h':=fun a o q=>hk a o (fun hw=>nS ((C.hHw a hw).symm.trans q)) (hs _ _ q)
noncomputable def y12 (prog:Program) (w:World) (A:Around) (R:Result→Shared→Prop) (H:PH) (I:Addr) (wr:List Addr) (n:Nat) (St:Nat→Heap→Prop) (D₀:Addr) (es:List (D×D)) (res:Value) (i:Nat):Prop:=∀ (s:Shared) (t:Tok),St i s.heap→Sub H s.heap→DictAt prog w H s.heap D₀ (es.take i) →
 (∀ h' tk,(∀ b o,b≠D₀→b ∉ wr→s.heap.get? b=some o→h'.get? b=some o)→DictAt prog w H h' D₀ es→R (.ok (.ret res)) { s with heap:=h',toks:=tk }) →
 codeAny (model prog w) A (.builtin "dict.update.loop" ⟨[.ref D₀,.ref I,.int i t,res],[]⟩) R s
theorem y13 {D₀:Addr} {es:List (D×D)} {res:Value} (C:UpdC prog w A H I fp wr n P St D₀ es):y12 prog w A R H I wr n St D₀ es res n:=by
 intro s t hst hs hd hR
 refine codeAny_builtin zQ8 ?_
 rw[Around.under_plainId zH1 _]
 show wpAny _ A.in1 (pyNext (.ref I) >>= _) _ _ s
 refine wpAny_bind (C.W.done s _ _ hst fun h' tk hm=>?_)
 show wpAny _ A.in1 (Builtin.Dict.addKeywords D₀ [] >>= _) _ _ _
 refine wpAny_bind (wpAny_pure (wpAny_pure (hR h' tk (fun b o uu hb q=>hm b o hb q) ?_)))
 rw[C.hn,List.take_length] at hd
 exact hd.keeps (PLe.refl H) fun o q=>hm D₀ o (fun h=>C.hD (C.W.sub _ h)) q
theorem yo7 {D₀:Addr} {es:List (D×D)} {res:Value} (C:UpdC prog w A H I fp wr n P St D₀ es) {i:Nat} (hlt:i < n) (ih:y12 prog w A R H I wr n St D₀ es res (i+1)):y12 prog w A R H I wr n St D₀ es res i:=by
 intro s t hst hs hd hR
 refine codeAny_builtin zQ8 ?_
 rw[Around.under_plainId zH1 _]
 show wpAny _ A.in1 (pyNext (.ref I) >>= _) _ _ s
 refine wpAny_bind (C.W.item i s _ _ hlt hst fun v h' tk hPv hst' hm=>(C.hP i v hPv).elim fun x g=>g.elim fun d g=>?_)
 have hs':=C.keepS hs hm
 refine wpAny_bind (wpAny_holding (wpAny_bind (wpAny_tryCatch (zx5 (s:={ s with heap:=h',toks:=tk }) hs' g.1 fun tx vv r2=>?_))))
 refine wpAny_holding ?_
 refine (yN5 (s:={ s with heap:=h',toks:=tk }) (E:=_) (hd.keeps (PLe.refl H) fun o q=>hm D₀ o (fun h=>C.hD (C.W.sub _ h)) q) g.2 (Nat.le_trans (List.length_take_le _ _) (Nat.le_trans (Nat.le_of_lt hlt) C.hlen)) r2 fun h2 tk2 hd2 hsb=>?_).2
 refine wpAny_pure ⟨plainId_quiet zH1 _,?_⟩
 have hb2:∀ b o,b≠D₀→h'.get? b=some o→h2.get? b=some o:=fun b o hb q=>(hsb.2 b hb).trans q
 exact ih { s with heap:=h2,toks:=tk2 } _ (C.W.frame _ h' h2 hst' fun b hb o q=>hb2 b o (fun e=>C.hD (e▸hb)) q) (fun a o q=>hb2 a o (fun e=>nS (C.hHD.symm.trans (e▸q))) (hs' _ _ q)) hd2 fun h3 tk3 hk3 hd3 =>
  hR h3 tk3 (fun b o hb hw q=>hk3 b o hb hw (hb2 b o hb (hm b o hw q))) hd3
theorem yo8 {D₀:Addr} {es:List (D×D)} (C:UpdC prog w A H I fp wr n P St D₀ es) (res:Value) (k:Nat):∀ i,i+k=n→y12 prog w A R H I wr n St D₀ es res i:=by
 induction k with
 | zero=>exact fun i h=>by rw[show i=n from h];exact y13 C
 | succ k ih=>exact fun i h=>yo7 C (h▸Nat.lt_add_of_pos_right (Nat.succ_pos k)) (ih (i+1) ((Nat.succ_add_eq_add_succ i k).trans h))
end
end Mine
namespace Mine
open PySem PySem.W PyProof.Rows PySem.Calls PySem.Builtin
section
variable {prog:Program} {w:World} {A:Around} {E:Value→Shared→Prop} {s:Shared} {n:Nat} {P:Nat→Value→Prop} {H:PH}
theorem z17 {x:Addr} {T:String} {es:List (D×D)} {ks:List Str} {oI:Obj} {St:Addr→Nat→Heap→Prop} {Q:Value→Shared→Prop} (hT:s.TypeIs (.ref x) T) (hTd:(Value.type T != Value.type "dict")=true) (hs:Sub H s.heap) (hh:A.handled=none)
  (hsys:zp1 H)
  (keys:∀ (A:Around) (E:Value→Shared→Prop) (s':Shared) (Q:Option Value→Shared→Prop),A.handled=none→(∀ b o,s.heap.get? b=some o→s'.heap.get? b=some o)→(∀ h' tk,(∀ b o,s'.heap.get? b=some o→h'.get? b=some o)→Q none { s' with heap:=h',toks:=tk })→wpAny (model prog w) A (getAttr? (.ref x) "keys") Q E s')
  (iter:∀ (A:Around) (E:Value→Shared→Prop) (s':Shared) (Q:Value→Shared→Prop),(∀ b o,s.heap.get? b=some o→s'.heap.get? b=some o)→Q (.ref s'.heap.objs.size) { s' with heap:=s'.heap.push oI }→wpAny (model prog w) A (pyIter (.ref x)) Q E s')
  (walks:∀ (A:Around) (I:Addr),A.handled=none→x≠I→Walks prog w A I [I,x] [I] n P (St I))
  (st0:∀ h:Heap,(∀ b o,s.heap.get? b=some o→h.get? b=some o)→St h.objs.size 0 (h.push oI))
  (hes:zT3 es ks) (hnd:ks.Nodup) (hn:n=es.length) (hlen:n≤8000000) (hP:∀ i v,P i v→∃ p,es[i]?=some p∧Rep prog w H v (.tup [p.1,p.2])) (hq:zL4 prog w H s (.ownD es) Q) :
  wpAny (model prog w) A (PySem.call (.type "dict") [.ref x]) Q E s:=by
 have hxlt:x < s.heap.objs.size:=by obtain ⟨o,ho,_⟩:=hT;exact Heap.lt_size ho
 have lo:(s.heap.objs.size == sysModules)=false:=by
  obtain ⟨b,o,ho,hle⟩:=hsys
  have:=Nat.lt_of_le_of_lt hle (Heap.lt_size (hs _ _ ho))
  rw[beq_eq_false_iff_ne];exact Nat.ne_of_gt this
 have fresh:∀ b,s.heap.objs.size≤b→H b=none:=fun b hb=>zF1 hs hb
 refine callType_codes (Q₁:=fun obj s₁=>obj=.ref s.heap.objs.size∧s₁={ s with heap:=s.heap.push { cls:=.type "dict",data:=.dict #[] } }) F.kt_called_dict (F.kt_typeCall_dict_1 _) F.entry_dict_init (kt_code_dict_new _ ⟨rfl,rfl⟩) ?_
 rintro obj s₁ ⟨rfl,rfl⟩
 have hget:(s.heap.push { cls:=.type "dict",data:=.dict #[] }).get? s.heap.objs.size=some { cls:=.type "dict",data:=.dict #[] }:=Heap.get?_push_size _ rfl
 have hTd':Shared.TypeIs { s with heap:=s.heap.push { cls:=.type "dict",data:=.dict #[] } } (.ref s.heap.objs.size) "dict":=⟨_,hget,rfl⟩
 have kp:∀ b o,s.heap.get? b=some o→(s.heap.push { cls:=.type "dict",data:=.dict #[] }).get? b=some o:=fun b o q=>Heap.get?_push_of_some _ q
 refine ⟨hTd',F.args_dict_init_2 _ _,?_⟩
 unfold Builtin.«dict.__init__»
 refine wpAny_bind ?_
 unfold Builtin.Dict.selfAndRest
 refine wpAny_bind (wpAny_notOrdered_dict hTd' ?_)
 show wpAny _ _ (pure (s.heap.objs.size,[Value.ref x])) _ _ _
 refine wpAny_pure ?_
 show wpAny _ _ (Builtin.Dict.updateFrom "dict.__init__" s.heap.objs.size (.ref x) [] .none) _ _ _
 unfold Builtin.Dict.updateFrom
 refine wpAny_bind (wpAny_typeOf (T:=T) (by obtain ⟨o,ho,hc⟩:=hT;exact ⟨o,kp _ _ ho,hc⟩) ?_)
 rw[if_pos hTd]
 refine wpAny_bind (keys _ _ _ _ hh kp fun h1 tk1 hk1=>?_)
 simp only[Option.isNone_none,if_true]
 refine wpAny_bind (wpAny_rule ?_)
 have kp1:∀ b o,s.heap.get? b=some o→h1.get? b=some o:=fun b o q=>hk1 b o (kp b o q)
 refine wpAny_bind (iter _ _ { s with heap:=h1,toks:=tk1 } _ kp1 ?_)
 have hlt1:s.heap.objs.size < h1.objs.size:=Heap.lt_size (hk1 _ _ hget)
 have hD1:(h1.push oI).get? s.heap.objs.size=some { cls:=.type "dict",data:=.dict #[] }:=Heap.get?_push_of_some _ (hk1 _ _ hget)
 have kp2:∀ b o,s.heap.get? b=some o→(h1.push oI).get? b=some o:=fun b o q=>Heap.get?_push_of_some _ (kp1 b o q)
 refine wpAny_pure ⟨plainId_quiet zH1 _,?_⟩
 refine yo8 (H:=H) (A:=A.in1) ⟨walks A.in1.in1 h1.objs.size hh (Nat.ne_of_lt (Nat.lt_trans hxlt hlt1)),by simp only[List.mem_cons,List.not_mem_nil,or_false,not_or];exact ⟨Nat.ne_of_lt hlt1,Nat.ne_of_gt hxlt⟩,hn,hlen,fresh _ (Nat.le_refl _),fun b hb=>by rw[List.mem_singleton.mp hb];exact fresh _ (Nat.le_of_lt hlt1),
  fun i v h=>(hP i v h).elim fun p g=>(yo6 hes hnd g.1).elim fun x k=>⟨x,p.2,k.1▸g.2,k.2⟩⟩ .none n 0 (Nat.zero_add n) { s with heap:=h1.push oI,toks:=tk1 } 0 (st0 h1 kp1) (fun a o q=>kp2 a o (hs _ _ q)) ?_ fun h' tk hk hd=>?_
 ·exact ⟨#[],0,hD1,by rw[List.take_zero];exact .nil,by rw[List.take_zero];exact ⟨List.nodup_nil,List.nodup_nil⟩,lo⟩
 ·refine ⟨rfl,hq _ H h' tk (Ext.grow hs fun b o q=>hk b o (Nat.ne_of_lt (Heap.lt_size q)) (by rw[List.mem_singleton];exact Nat.ne_of_lt (Nat.lt_trans (Heap.lt_size q) hlt1)) (kp2 b o q)) ⟨_,rfl,zD7 _,fresh _ (Nat.le_refl _),hd⟩⟩
theorem yH5 {vs:List Value} {ds:List D} (rl:RepL prog w H vs ds) {es:List (D×D)} (hd:zB8 ds=some es):es.length=ds.length∧∀ (i:Nat) (v:Value),vs[i]?=some v→∃ p,es[i]?=some p∧Rep prog w H v (.tup [p.1,p.2]):=by
 induction ds generalizing vs es with
 | nil=>cases rl;simp[zB8] at hd;subst hd;exact ⟨rfl,fun i v h=>by simp at h⟩
 | cons d ds ih =>
  obtain ⟨x,u,es',rfl,h2,rfl⟩:=zL7 hd
  cases rl with | cons r1 r2 =>
  obtain ⟨e1,e2⟩:=ih r2 h2
  refine ⟨by simp[e1],fun i v h=>?_⟩
  cases i with
  | zero=>simp only[List.getElem?_cons_zero,Option.some.injEq] at h;subst h;exact ⟨_,rfl,r1⟩
  | succ i=>simp only[List.getElem?_cons_succ] at h ⊢;exact e2 i v h
theorem yd8 (A:Around) (E:Value→Shared→Prop) (s:Shared) (H:PH) (Q:Value→Shared→Prop) (v:Value) (ds:List D) (es:List (D×D)) (k:Nat) (hro:Room A k) (hs:Sub H s.heap) (hsys:zp1 H) (rr:Rep prog w H v (.list ds)∨Rep prog w H v (.tup ds)) (hl:ds.length≤8000000) (hd:zB8 ds=some es) (hq:zL4 prog w H s (.ownD es) Q) :
  wpAny (model prog w) A (PySem.call (.type "dict") [v]) Q E s:=by
 obtain ⟨ks,hk1,hk2⟩:=zL6 hd
 rcases rr with rr | rr
 ·cases rr with
  | @list x vs n _ h1 h2 =>
   obtain ⟨e1,e2⟩:=yH5 h2 hd
   have e3:=h2.length
   simp only[Array.length_toList] at e3
   have hp:=hs _ _ h1
   refine z17 (T:="list") (n:=vs.size) (P:=fun i v=>vs[i]?=some v) (St:=fun I i h=>h.IsListIter I x i∧h.IsList x vs) (oI:={ cls:=.type "list_iterator",data:=.fields #[.ref x,.int 0 0] }) ⟨_,hp,rfl⟩ (by decide) hs hro.hh hsys
    (fun A' E' s' Q' hA hk hq'=>yd7 (hk _ _ hp) hA hq') (fun A' E' s' Q' hk hq'=>wpAny_pyIter_list ⟨_,hk _ _ hp,rfl,_,rfl⟩ hq') (fun A' I hA hne=>Walks.list hA I x hne vs) (fun h hk=>⟨⟨_,Heap.get?_push_size _ rfl,rfl,rfl⟩,⟨_,Heap.get?_push_of_some _ (hk _ _ hp),rfl,_,rfl⟩⟩)
    hk1 hk2 (by rw[e1,e3]) (by lia) (fun i v h=>e2 i v (by rw[Array.getElem?_toList];exact h)) hq
 ·cases rr with
  | @tup x o vs n _ h1 hc hdat h2 hno =>
   have hnd:o.dict=none:=by
    rcases hno with q | q
    ·exact q
    ·rw[hd] at q;cases q
   obtain ⟨c,dct,dt,sl⟩:=o
   simp only at hc hdat hnd
   subst hc hdat hnd
   obtain ⟨e1,e2⟩:=yH5 h2 hd
   have e3:=h2.length
   simp only[Array.length_toList] at e3
   have hp:=hs _ _ h1
   refine z17 (T:="tuple") (n:=vs.size) (P:=fun i v=>vs[i]?=some v) (St:=fun I i h=>h.IsTupleIter I x i∧h.IsTuple x vs) (oI:={ cls:=.type "tuple_iterator",data:=.fields #[.ref x,.int 0 0] }) ⟨_,hp,rfl⟩ (by decide) hs hro.hh hsys
    (fun A' E' s' Q' hA hk hq'=>yP5 (hk _ _ hp) hA hq') (fun A' E' s' Q' hk hq'=>wpAny_pyIter_tuple ⟨_,hk _ _ hp,rfl,_,rfl⟩ hq') (fun A' I hA hne=>Walks.tuple hA I x hne vs) (fun h hk=>⟨⟨_,Heap.get?_push_size _ rfl,rfl,rfl⟩,⟨_,Heap.get?_push_of_some _ (hk _ _ hp),rfl,_,rfl⟩⟩)
    hk1 hk2 (by rw[e1,e3]) (by lia) (fun i v h=>e2 i v (by rw[Array.getElem?_toList];exact h)) hq
end
end Mine
namespace Mine
open PySem PySem.W PyProof.Rows PySem.Calls PySem.Builtin
theorem zs5 {α β:Type} {f:α→β} {l r:List β} (p:l.Perm r):∀ m:List α,r=m.map f→∃ n:List α,l=n.map f∧n.Perm m:=by
 induction p with
 | nil=>intro m h;exact ⟨m,by simpa using h,.refl _⟩
 | @cons x l r _ ih =>
  intro m h
  cases m with
  | nil=>simp at h
  | cons y m =>
   simp only[List.map_cons,List.cons.injEq] at h
   refine xe (ih m h.2) fun n Y0=>?_;have h1:=Y0.1;have h2:=Y0.2;try clear Y0
   exact ⟨y::n,by simp[h.1,h1],h2.cons y⟩
 | swap x y l =>
  intro m h
  cases m with
  | nil=>simp at h
  | cons a m =>
   cases m with
   | nil=>simp at h
   | cons b m =>
    simp only[List.map_cons,List.cons.injEq] at h
    exact ⟨b::a::m,by simp[h.1,h.2.1,h.2.2],List.Perm.swap a b m⟩
 | trans _ _ ih1 ih2 =>
  intro m h
  refine xe (ih2 m h) fun n Y0=>?_;have h1:=Y0.1;have h2:=Y0.2;try clear Y0
  refine xe (ih1 n h1) fun n' Y0=>?_;have h3:=Y0.1;have h4:=Y0.2;try clear Y0
  exact ⟨n',h3,h4.trans h2⟩
theorem zx6 (t:SetTable) (n:Nat):(t.orStandIn n).led=t.led∧(t.plain=false→(t.orStandIn n).plain=false):=by
 unfold SetTable.orStandIn
 split
 ·exact ⟨rfl,id⟩
 ·exact ⟨rfl,fun uu=>rfl⟩
theorem yP6 (t:SetTable) (es:Array (Int×Value)) (h:Int) (x:Value):(layNew t es h x).2.1.led=t.led∧(t.plain=false→(layNew t es h x).2.1.plain=false):=by
 unfold layNew
 split
 ·exact zx6 _ _
 ·exact ⟨rfl,fun uu=>rfl⟩
theorem yo9 {mask finger moves:Nat} {led plain:Bool} {hashes:Array Int} {t:SetTable} {o:Array Nat} (h:SetTable.laid mask finger moves led plain hashes=some (t,o)):t.led=led∧t.plain=plain:=by
 unfold SetTable.laid at h
 simp only[Option.bind_eq_bind,Option.bind_eq_some_iff] at h
 obtain ⟨_,_,h⟩:=h
 cases h
 exact ⟨rfl,rfl⟩
set_option tactic.hygienic true in
theorem z81 (t:SetTable) (es:Array (Int×Value)) (n:Nat):(relayAll t es n).2.1.led=t.led∧(t.plain=false→(relayAll t es n).2.1.plain=false):=by
 unfold relayAll
 split
 ·rename_i t' o he
  have:=yo9 he
  dsimp only
  split
  ·exact ⟨this.1,fun h=>by rw[this.2];exact h⟩
  ·exact ⟨rfl,fun uu=>rfl⟩
 ·exact ⟨rfl,fun uu=>rfl⟩
noncomputable def zm6 (w:World) (p:Str×Tok):Int×Value:=(hashStr w p.1,Value.str p.1 p.2)
section
variable {prog:Program} {w:World} {A:Around} {E:Value→Shared→Prop} {s:Shared}
theorem yH6 (ls:List (Str×Tok)):ElemsOf (PySem.strKind prog w) (ls.map (zm6 w)):=by
 intro e he
 rw[List.mem_map] at he
 refine xe he fun p Y0=>?_;obtain rfl:=Y0.2;try clear he;try clear Y0
 exact ⟨⟨p.1,by simp[zm6,PySem.strKind,Value.isStrOf],rfl⟩,rfl⟩
theorem yp0 (ls:List (Str×Tok)) (k:Str):((ls.map (zm6 w)).findIdx? fun e=>(PySem.strKind prog w).is k e.2)=(ls.map (·.1)).findIdx? (· == k):=by
 rw[List.findIdx?_map,List.findIdx?_map]
 congr 1
theorem SetI.put {h:Heap} {a:Addr} {es:Array (Int×Value)} {ep:Nat} {t:SetTable} {ks:List Str} (x:SetI w h a es ep t ks) {es':Array (Int×Value)} {t':SetTable} :
  (h.update a (Obj.putSet es' t')).get? a=some { cls:=.type "set",dict:=none,data:=.set es' (ep+1) t' }:=by
 have:=Heap.get?_update_self (Obj.putSet es' t') x.at_ (by rw[putSet_of es' t' rfl];rfl)
 rw[putSet_of es' t' rfl] at this
 exact this
set_option tactic.hygienic true in
theorem y14 {a:Addr} {es:Array (Int×Value)} {ep:Nat} {t:SetTable} {ks:List Str} {k:Str} {tk:Tok} {Q:Bool→Shared→Prop} (x:SetI w s.heap a es ep t ks) (hroom:ks.length+1 < scanBound)
  (h:∀ h' b es' ep' t' ks',Heap.SameBut a s.heap h'→SetI w h' a es' ep' t' ks'→ks'=(if k∈ks then ks else ks++[k])→Q b { s with heap:=h' }) :
  wpAny (model prog w) A (setAddHashed a (.str k tk) (hashStr w k)) Q E s:=by
 refine xe x.elems fun ls Y0=>?_;have hls:=Y0.1;have hperm:=Y0.2;try clear Y0
 have hel:ElemsOf (PySem.strKind prog w) es.toList:=by rw[hls];exact yH6 ls
 have hsz:es.size=ks.length:=by rw[← Array.length_toList,hls,List.length_map,← hperm.length_eq,List.length_map]
 have hkey:(PySem.strKind prog w).is k (.str k tk)=true:=by simp[PySem.strKind,Value.isStrOf]
 unfold setAddHashed setAddHashedIn
 refine wpAny_holding (wpAny_bind (wpAny_setState_of x.at_ rfl x.fits ?_))
 dsimp only
 rw[byScan_of (knd:=PySem.strKind prog w) (x:=.str k tk) rfl (by omega) hel]
 simp only[↓reduceIte]
 unfold setAddByScan
 refine wpAny_bind (wpAny_bind (wpAny_rule (wpAny_bind (wpAny_setScan_of (knd:=PySem.strKind prog w) (k:=k) hkey x.at_ rfl x.fits hel ?_))))
 rw[hls,show (ls.map fun p=>(hashStr w p.1,Value.str p.1 p.2))=ls.map (zm6 w) from rfl,yp0]
 cases hr:(ls.map (·.1)).findIdx? (· == k) with
 | some j =>
  dsimp only
  have hm:k∈ks:=by
   rw[List.findIdx?_eq_some_iff_getElem] at hr
   refine xe hr fun hj Y0=>?_;have hp:=Y0.1;try clear hr;try clear Y0
   rw[← hperm.mem_iff,← (by simpa using hp:(ls.map (·.1))[j]=k)]
   exact List.getElem_mem hj
  refine wpAny_pure (wpAny_pure ?_)
  exact h s.heap _ es ep t ks (Heap.SameBut.refl a s.heap) x (by rw[if_pos hm])
 | none =>
  dsimp only
  have hm:k ∉ ks:=by
   intro hk
   rw[← hperm.mem_iff] at hk
   rw[List.findIdx?_eq_none_iff] at hr
   simpa using hr k hk
  have hlp:=layNew_perm t es (hashStr w k) (.str k tk)
  have hlf:=layNew_fits t es (hashStr w k) (.str k tk)
  have hll:=yP6 t es (hashStr w k) (.str k tk)
  have hplain:t.plain=true∨t.plain=false:=by cases t.plain<;>simp
  generalize hL:layNew t es (hashStr w k) (.str k tk)=L at hlp hlf hll ⊢
  have hL':layNew t es ((PySem.strKind prog w).hash k) (.str k tk)=L:=hL
  obtain ⟨es1,t1,wd,gave⟩:=L
  dsimp only at hlp hlf hll ⊢
  rw[Array.toList_push,hls] at hlp
  refine xe (zs5 (f:=zm6 w) hlp (ls++[(k,tk)]) (by simp[zm6])) fun ls1 Y0=>?_;have hls1:=Y0.1;have hp1:=Y0.2;try clear Y0
  have hks1:(ls1.map (·.1)).Perm (ks++[k]):=(hp1.map (·.1)).trans (by rw[List.map_append];exact hperm.append (.refl _))
  have hsz1:es1.size=ks.length+1:=by rw[← Array.length_toList,hls1,List.length_map,← List.length_map (f:=(·.1)),hks1.length_eq];simp
  have hgw:∀ (b:Bool) {s₁:Shared} {Q':Unit→Shared→Prop},Q' () s₁→wpAny (model prog w) A (match b with | true=>rule "set.scan.the-table-gave-way" | false=>pure ()) Q' E s₁ :=
   fun b s₁ Q' hq=>by cases b<;>first | exact wpAny_pure hq | exact wpAny_rule hq
  refine wpAny_bind (hgw _ ?_)
  have fin:∀ t2:SetTable,t2.led=t.led→t2.plain=false→t2.fits es1.size=true→∀ R:Option Bool→Shared→Prop,(∀ h' es' ep' t',Heap.SameBut a s.heap h'→SetI w h' a es' ep' t' (ks++[k])→R (some true) { s with heap:=h' })→wpAny (model prog w) A (do
    storeSet a es1 t2
    if (!wd&&t2.tooFull)=true then do
      (match (relayAll t2 es1 (SetTable.grown es1.size)).2.2 with | true=>rule "set.scan.the-table-gave-way" | false=>pure ())
      storeSet a (relayAll t2 es1 (SetTable.grown es1.size)).1 (relayAll t2 es1 (SetTable.grown es1.size)).2.1
      pure (some true)
     else pure (some true)) R E s:=by
   intro t2 h1 h2 h3 R hR
   refine wpAny_bind (wpAny_storeSet_of x.at_ rfl ?_ (fits_of_scanBound (by rw[hsz1];exact hroom)))
   have x1:SetI w (s.heap.update a (Obj.putSet es1 t2)) a es1 (ep+1) t2 (ks++[k]):=⟨x.put,h3,h1.trans x.led,.inr h2,ls1,hls1,hks1⟩
   have sb1:=Heap.SameBut.update s.heap a (Obj.putSet es1 t2)
   split
   ·have r1:=relayAll_perm t2 es1 (SetTable.grown es1.size)
    have r2:=relayAll_fits t2 es1 (SetTable.grown es1.size)
    have r3:=z81 t2 es1 (SetTable.grown es1.size)
    generalize relayAll t2 es1 (SetTable.grown es1.size)=L2 at r1 r2 r3 ⊢
    obtain ⟨es2,t3,g2⟩:=L2
    dsimp only at r1 r2 r3 ⊢
    rw[hls1] at r1
    refine xe (zs5 (f:=zm6 w) r1 ls1 rfl) fun ls2 Y0=>?_;have hls2:=Y0.1;have hp2:=Y0.2;try clear Y0
    have hsz2:es2.size=es1.size:=by rw[← Array.length_toList,← Array.length_toList,hls2,hls1,List.length_map,List.length_map,hp2.length_eq]
    refine wpAny_bind (hgw _ ?_)
    refine wpAny_bind (wpAny_storeSet_of x1.at_ rfl ?_ (fits_of_scanBound (by rw[hsz2,hsz1];exact hroom)))
    exact wpAny_pure (hR _ es2 (ep+2) t3 (sb1.trans (Heap.SameBut.update _ a _)) ⟨x1.put,r2,r3.1.trans x1.led,.inr (r3.2 h2),ls2,hls2,(hp2.map (·.1)).trans hks1⟩)
   ·exact wpAny_pure (hR _ es1 (ep+1) t2 sb1 x1)
  have fin2:∀ (h':Heap) es' ep' t',Heap.SameBut a s.heap h'→SetI w h' a es' ep' t' (ks++[k])→∀ b,Q b { s with heap:=h' }:=fun h' es' ep' t' sb x' b=>h h' b es' ep' t' (ks++[k]) sb x' (by rw[if_neg hm])
  split
  ·rename_i hpl
   refine wpAny_bind ?_
   rw[hashByValue_scannable 8 rfl]
   refine wpAny_pure ?_
   refine fin { t1 with plain:=false } hll.1 rfl (SetTable.fits_plain_off hlf) _ fun h' es' ep' t' sb x'=>?_
   dsimp only
   exact wpAny_pure (fin2 h' es' ep' t' sb x' _)
  ·rename_i hpl
   refine wpAny_bind (wpAny_pure ?_)
   simp only[↓reduceIte]
   refine fin _ hll.1 (by simpa using hpl) hlf _ fun h' es' ep' t' sb x'=>?_
   dsimp only
   exact wpAny_pure (fin2 h' es' ep' t' sb x' _)
end
end Mine
namespace Mine
open PySem PySem.W PyProof.Rows PySem.Calls PySem.Builtin
section
variable {prog:Program} {w:World} {A:Around} {E:Value→Shared→Prop} {s:Shared}
noncomputable def zi7 (ks ss:List Str):Prop:=ks.Nodup∧(∀ x,x∈ks ↔ x∈ss)∧ks.length≤ss.length
set_option tactic.hygienic true in
theorem zi7.add {ks ss:List Str} (x:zi7 ks ss) (k:Str):zi7 (if k∈ks then ks else ks++[k]) (ss++[k]):=by
 have h1:=x.1;have h2:=x.2.1;have h3:=x.2.2;try clear x
 split
 ·rename_i h
  refine ⟨h1,fun y=>?_,by simp;lia⟩
  rw[h2 y,List.mem_append,List.mem_singleton]
  exact ⟨.inl,fun z=>z.elim id fun e=>e▸(h2 k).mp h⟩
 ·rename_i h
  refine ⟨?_,fun y=>?_,by simp;lia⟩
  ·rw[List.nodup_append]
   exact ⟨h1,by simp,fun a ha b hb e=>h (by rw[List.mem_singleton] at hb;rw[← hb,← e];exact ha)⟩
  ·rw[List.mem_append,List.mem_append,h2 y]
theorem yp1 {R:Result→Shared→Prop} {I:Addr} {fp wr:List Addr} {n:Nat} {P:Nat→Value→Prop} {St:Nat→Heap→Prop} (W:Walks prog w A.in1 I fp wr n P St) (S:Addr) (hSf:S ∉ fp) {ss:List Str} (hn:n=ss.length) (hP:∀ i v,P i v→∃ x,ss[i]?=some x∧Value.isStrOf x v=true) (hb:n+1 < scanBound) :
  ∀ (k i:Nat) (s:Shared) (es:Array (Int×Value)) (ep:Nat) (t:SetTable) (ks:List Str),n - i=k→i≤n→St i s.heap→SetI w s.heap S es ep t ks→zi7 ks (ss.take i) →
   (∀ h' tk es' ep' t' ks',(∀ b o,b≠S→b ∉ wr→s.heap.get? b=some o→h'.get? b=some o)→SetI w h' S es' ep' t' ks'→zi7 ks' ss→R (.ok (.ret .none)) { s with heap:=h',toks:=tk }) →
   codeAny (model prog w) A (.builtin "set.update.loop" ⟨[.ref S,.ref I],[]⟩) R s:=by
 have hSw:S ∉ wr:=fun h=>hSf (W.sub _ h)
 intro k
 induction k with
 | zero =>
  intro i s es ep t ks hk hi hst x hks hR
  have hin:i=n:=by lia
  subst hin
  refine codeAny_builtin PyProof.Rows.F.entry_set_update_loop ?_
  rw[Around.under_plainId PyProof.Rows.F.plain_set_update_loop _]
  show wpAny _ A.in1 (pyNext (.ref I) >>= _) _ _ s
  refine wpAny_bind (W.done s _ _ hst fun h' tk hm=>?_)
  show wpAny _ A.in1 (ret Value.none) _ _ _
  refine wpAny_pure (hR h' tk es ep t ks (fun b o uu hb q=>hm b o hb q) ⟨hm S _ hSw x.at_,x.fits,x.led,x.plain,x.elems⟩ ?_)
  rw[hn,List.take_length] at hks
  exact hks
 | succ k ih =>
  intro i s es ep t ks hk hi hst x hks hR
  have hlt:i < n:=by lia
  refine codeAny_builtin PyProof.Rows.F.entry_set_update_loop ?_
  rw[Around.under_plainId PyProof.Rows.F.plain_set_update_loop _]
  show wpAny _ A.in1 (pyNext (.ref I) >>= _) _ _ s
  refine wpAny_bind (W.item i s _ _ hlt hst fun v h' tk hPv hst' hm=>?_)
  refine xe (hP i v hPv) fun y Y0=>?_;have hy:=Y0.1;have hv:=Y0.2;try clear Y0
  refine xe (Value.isStrOf_shape hv) fun u Y0=>?_;obtain rfl:=Y0;try clear Y0
  have x':SetI w h' S es ep t ks:=⟨hm S _ hSw x.at_,x.fits,x.led,x.plain,x.elems⟩
  show wpAny _ A.in1 (holding [Value.str y u] (setAdd S (.str y u)) >>= _) _ _ _
  refine wpAny_bind (wpAny_holding ?_)
  unfold setAdd
  refine wpAny_holding ?_
  refine wpAny_bind ((PySem.strKind prog w).pyHash (k:=y) hv ?_)
  have hkl:ks.length≤i:=by have:=hks.2.2;rw[List.length_take] at this;lia
  refine y14 (s:={ s with heap:=h',toks:=tk+1 }) x' (by lia) fun h2 b es2 ep2 t2 ks2 hsb x2 hk2=>?_
  have hks2:zi7 ks2 (ss.take (i+1)):=by
   rw[hk2,List.take_add_one,hy]
   exact hks.add y
  have hb2:∀ b o,b≠S→h'.get? b=some o→h2.get? b=some o:=fun b o hb q=>by rw[hsb.2 b hb];exact q
  refine wpAny_pure ⟨plainId_quiet PyProof.Rows.F.plain_set_update_loop _,ih (i+1) _ es2 ep2 t2 ks2 (by lia) hlt (W.frame _ h' h2 hst' fun b hb o q=>hb2 b o (fun e=>hSf (e▸hb)) q) x2 hks2 fun h3 tk3 es3 ep3 t3 ks3 hk3 x3 hks3=>?_⟩
  exact hR h3 tk3 es3 ep3 t3 ks3 (fun b o hb hw q=>hk3 b o hb hw (hb2 b o hb (hm b o hw q))) x3 hks3
theorem yH7 (a:Value) {Q₁:Value→Shared→Prop}
  (h:Q₁ (.ref s.heap.objs.size) { s with heap:=s.heap.push { cls:=.type "set",dict:=none,data:=.set #[] 0 (.fresh 0 0 (!w.params.followText "set-order")) } }) :
  codeAny (model prog w) A (.call (.builtin "set.__new__") ⟨[.type "set",a],[]⟩) (wants Q₁ E) s:=by
 refine codeAny_of_tree ?_
 show wpAny _ A.in1 (do checkBuiltinCall "set.__new__" ⟨[.type "set",a],[]⟩;again (.builtin "set.__new__" ⟨[.type "set",a],[]⟩)) _ _ s
 refine wpAny_bind (wpAny_of_eq (F.newCall_set_1 a) (wpAny_pure ⟨plainId_quiet F.plain_set_new _,codeAny_builtin F.entry_set_new ?_⟩))
 rw[Around.under_plainId F.plain_set_new _]
 unfold Builtin.«set.__new__» Builtin.Frozenset.newClass
 have hsub:=sub_set_self
 obtain ⟨hp,g,d,tk,os⟩:=s
 dsimp only
 wp_walk
 refine wpAny_askSetting (wpAny_pure ?_)
 dsimp only
 simp only[newObj]
 refine wpAny_bind (wpAny_alloc (wpAny_pure ?_))
 exact wpAny_pure h
noncomputable def yV7 (w:World):Obj:={ cls:=.type "set",dict:=none,data:=.set #[] 0 (.fresh 0 0 (!w.params.followText "set-order")) }
theorem z18 {H:PH}:∀ {ds:List D} {ss:List Str} {vs:List Value},RepL prog w H vs ds→zh3 ds=some ss→ss.length=ds.length∧∀ (i:Nat) (v:Value),vs[i]?=some v→∃ x,ss[i]?=some x∧Value.isStrOf x v=true
 | [],ss,vs,rl,h=>by
  cases rl
  cases h
  exact ⟨rfl,fun i v h=>nS h⟩
 | d::ds,ss,vs,rl,h=>by
  cases rl with
  | cons r1 r2 =>
   cases d with
   | str x =>
    refine obk h fun r h1 h2=>?_
    obtain rfl:=Option.some.inj h2
    have Y0:=z18 r2 h1;have e1:=Y0.1;have e2:=Y0.2;try clear Y0
    refine ⟨congrArg (·+1) e1,fun i v hv=>?_⟩
    cases i with
    | zero =>
     obtain rfl:=Option.some.inj hv
     refine xe r1.inv fun t Y0=>?_;obtain rfl:=Y0;try clear Y0
     exact ⟨x,rfl,beq_self_eq_true x⟩
    | succ i=>exact e2 i v hv
   | _=>exact nS h
noncomputable def y15 (w:World) (s:Shared) (S:Addr) (ss:List Str) (r:Value) (s₂:Shared):Prop:=r=.none∧∃ h' tk,s₂={ s with heap:=h',toks:=tk }∧yE2 w h' (.ref S) ss∧∀ b o,s.heap.get? b=some o→h'.get? b=some o
set_option maxHeartbeats 3200000 in
set_option tactic.hygienic true in
theorem yp2 {B:Around} {h1:Heap} {l:Addr} {items:Array Value} {nl:Nat} {ss:List Str} (hh:B.handled=none) (hne1:h1=s.heap.push (yV7 w)) (hol:s.heap.get? l=some { cls:=.type "list",data:=.seq items nl }) (hn:items.size=ss.length) (hl:items.size < 64)
  (hget:∀ (i:Nat) (v:Value),items.toList[i]?=some v→∃ x,ss[i]?=some x∧Value.isStrOf x v=true) :
  codeAny (model prog w) B (.call (.builtin "set.__init__") ⟨[.ref s.heap.objs.size,.ref l],[]⟩) (wants (y15 w s s.heap.objs.size ss) E) { s with heap:=h1 }:=by
 have hS:h1.get? s.heap.objs.size=some (yV7 w):=hne1▸Heap.get?_push_size _ rfl
 have kp:∀ b o,s.heap.get? b=some o→h1.get? b=some o:=fun b o q=>hne1▸Heap.get?_push_of_some _ q
 have hz:s.heap.objs.size < h1.objs.size:=Heap.lt_size hS
 have hlS:l < s.heap.objs.size:=Heap.lt_size hol
 clear hne1
 have hT:Shared.TypeIs { s with heap:=h1 } (.ref s.heap.objs.size) "set":=⟨_,hS,rfl⟩
 have hol':=kp _ _ hol
 have hl1:h1.IsList l items:=⟨_,hol',rfl,nl,rfl⟩
 have hneI:l≠h1.objs.size:=Nat.ne_of_lt (Nat.lt_trans hlS hz)
 refine codeAny_call_builtin F.called_set.init.plain F.entry_set_init (check_set_init_1 hT ?_)
 have hsls:=F.sub_list_set
 have hslf:=F.sub_list_frozenset
 have hne:(Value.type "list" == Value.type "dict")=false:=by decide
 unfold Builtin.«set.__init__» noKeywords Builtin.Frozenset.updateFrom
 generalize hPI:pyIter=PI
 wp_walk
 subst hPI
 refine wpAny_pyIter_list hl1 ?_
 refine wpAny_bind (wpAny_runValue ?_)
 have hSf:s.heap.objs.size ∉ [h1.objs.size,l]:=fun m=>(List.mem_cons.mp m).elim (Nat.ne_of_lt hz) fun m=>Nat.ne_of_gt hlS (List.mem_singleton.mp m)
 refine yp1 (Walks.list (show B.in1.in1.handled=none from hh) _ l hneI items) s.heap.objs.size hSf (ss:=ss) hn (fun i v hv=>hget i v (by rw[Array.getElem?_toList];exact hv)) (by unfold scanBound;lia) (items.size - 0) 0 _ #[] 0 _ [] rfl (Nat.zero_le _)
  ⟨⟨_,Heap.get?_push_size _ rfl,rfl,rfl⟩,(hl1.push _)⟩ ⟨Heap.get?_push_of_some _ hS,rfl,rfl,.inl rfl,[],rfl,.refl _⟩ ⟨List.nodup_nil,fun x=>Iff.rfl,Nat.le_refl _⟩ ?hR
 case hR =>
  intro h' tk es' ep' t' ks' hk x' hks'
  refine wpAny_pure ?_
  show wpAny _ _ (ret Value.none) _ _ _
  exact wpAny_pure ⟨rfl,h',tk,rfl,⟨_,es',ep',t',ks',rfl,x',hks'.1,hks'.2.1⟩,fun b o e=>hk b o (Nat.ne_of_lt (Heap.lt_size e)) (fun m=>Nat.ne_of_lt (Nat.lt_trans (Heap.lt_size e) hz) (List.mem_singleton.mp m)) (Heap.get?_push_of_some _ (kp b o e))⟩
set_option maxHeartbeats 3200000 in
theorem yP7 (A:Around) (E:Value→Shared→Prop) (s:Shared) (H:PH) (Q:Value→Shared→Prop) (v:Value) (ds:List D) (ss:List Str) (k:Nat) (hro:Room A k) (hs:Sub H s.heap) (rr:Rep prog w H v (.list ds)) (hl:ds.length < 64) (hss:zh3 ds=some ss)
  (hq:∀ u h' tk,(∀ b o,s.heap.get? b=some o→h'.get? b=some o)→yE2 w h' u ss→Q u { s with heap:=h',toks:=tk }):wpAny (model prog w) A (PySem.call (.type "set") [v]) Q E s:=by
 refine xe rr.list_ref fun l Y0=>?_;obtain rfl:=Y0;try clear Y0
 refine xe (rr.listAt hs) fun items Y0=>?_;refine xe Y0.1 fun nl hol=>?_;have hrl:=Y0.2;try clear Y0
 have Y0:=z18 hrl hss;have hlen:=Y0.1;have hget:=Y0.2;try clear Y0
 have hisz:items.size=ds.length:=hrl.length
 have ini:=fun (B:Around) (hB:B.handled=none)=>yp2 (prog:=prog) (w:=w) (E:=E) (s:=s) hB rfl hol (hisz.trans hlen.symm) (hisz▸hl) hget
 clear hget hlen hisz hrl hss hl rr hs
 have hh:=hro.hh
 refine xe F.called_set.mro fun c Y0=>?_;refine xe Y0 fun tl hmro=>?_;try clear Y0
 have hmade:=F.called_set.made
 have hsub:=F.called_set.sub
 refine wpAny_call (codeAny_of_tree ?_)
 show wpAny _ _ (callAny (.type "set") _) _ _ _
 refine wpAny_pure ⟨Code.quiet_builtin _ (by decide +kernel),codeAny_builtin F.entry_type_call ?_⟩
 rw[Around.under_plain (weight_type_call_type "set" [.ref l] []) rfl]
 have h1:=F.called_set.notType
 have h2:=F.called_set.canCreate
 have hct:=F.typeCall_set_1 (.ref l)
 repeat (any_goals (first | assumption | wp_step))
 refine codeAny_mono (yH7 (.ref l) (E:=E) (Q₁:=fun obj s₁=>obj=.ref s.heap.objs.size∧s₁={ s with heap:=s.heap.push (yV7 w) }) ⟨rfl,rfl⟩) fun r s₁ hr=>?_
 cases r with
 | error e=>exact hr
 | ok fl =>
  cases fl with
  | ret obj =>
   obtain rfl:=hr.1;obtain rfl:=hr.2;try clear hr
   have hT:Shared.TypeIs { s with heap:=s.heap.push (yV7 w) } (.ref s.heap.objs.size) "set":=⟨_,Heap.get?_push_size _ rfl,rfl⟩
   have hli:=F.called_set.init.lookup
   have hbi:=F.called_set.init.bind (.ref s.heap.objs.size)
   repeat (any_goals (first | assumption | wp_step))
   refine codeAny_mono (ini _ hh) fun r₂ s₂ hr₂=>?_
   cases r₂ with
   | error e=>exact hr₂
   | ok fl₂ =>
    cases fl₂ with
    | ret r =>
     obtain rfl:=hr₂.1;refine xe hr₂.2 fun h' Y0=>?_;refine xe Y0 fun tk Y1=>?_;obtain rfl:=Y1.1;have hS':=Y1.2.1;have hk':=Y1.2.2;try clear hr₂;try clear Y0 Y1
     repeat (any_goals (first | assumption | wp_step))
     exact hq _ _ _ hk' hS'
    | _=>exact hr₂.elim
  | _=>exact hr.elim
end
end Mine
namespace Mine
open PySem PySem.W PyProof.Rows PySem.Calls PySem.Builtin
theorem zm7:entryFor table "set.__iter__"=some Builtin.«frozenset.__iter__» :=
 entryFor_alias (id':="frozenset.__iter__") (by kernel_rfl) (by decide +kernel) (by decide +kernel) (by kernel_rfl)
theorem zP4:Manifest.owners.lookup (String.ofList ['s','e','t','_','i','t','e','r','a','t','o','r'])=some Manifest.sig_set_iterator:=by kernel_rfl
theorem zD9:Slot "set_iterator" "__next__" "set_iterator.__next__" :=
 .of (owner:="set_iterator") (n:="__next__") (by rw[typeLookup_type,builtinLookup_eq_fast];kernel_rfl) (by decide +kernel) (by decide +kernel) (by decide +kernel)
  (by first | exact .inl (by decide +kernel) | exact .inr (by decide +kernel)) (by rw[isSubtype_type];kernel_rfl)
theorem zT6:entryFor table "set_iterator.__next__"=some Builtin.«set_iterator.__next__»:=entryFor_of_tree (by kernel_rfl)
theorem zR8 (a:Value):argsOk "set_iterator.__next__" ⟨[a],[]⟩:=by
 unfold argsOk;rw[signature?_of (id:="set_iterator.__next__") (n:=['_','_','t','x','e','n','_','_']) (o:=['r','o','t','a','r','e','t','i','_','t','e','s']) (by kernel_rfl) zP4];kernel_rfl
theorem ze2 {α:Type}:∀ {l:List α} {i:Nat} (h:i < l.length),(l[i]::l.eraseIdx i).Perm l
 | x::l,0,_=>.refl _
 | x::l,i+1,h=>by
  have ih:=ze2 (l:=l) (i:=i) (by simpa using h)
  simp only[List.getElem_cons_succ,List.eraseIdx_cons_succ]
  exact (List.Perm.swap x _ _).trans (ih.cons x)
section
variable {prog:Program} {w:World} {A:Around} {E:Value→Shared→Prop} {s:Shared}
theorem yP8 {src:Source} {n:Nat} {Q:Nat→Shared→Prop} (hn:n≠0) (h:∀ i,i < n→∀ dr,Q i { s with drawn:=dr }):wpAny (model prog w) A (choose src n) Q E s :=
 fun Γ p hΓ=>⟨hn,h _ (Nat.mod_lt _ (Nat.pos_of_ne_zero hn)) _⟩
theorem zx7 {α:Type} (n:Nat):∀ (xs:List α) (s:Shared) (Q:List α→Shared→Prop),n=xs.length→(∀ ys dr,ys.Perm xs→Q ys { s with drawn:=dr })→wpAny (model prog w) A (drawOrder n xs) Q E s:=by
 induction n with
 | zero =>
  intro xs s Q hn h
  have e:xs=[]:=List.length_eq_zero_iff.mp hn.symm
  rw[e] at h ⊢
  exact wpAny_pure (h [] s.drawn (.refl _))
 | succ n ih =>
  intro xs s Q hn h
  cases xs with
  | nil=>exact nomatch hn
  | cons x xs =>
   show wpAny _ _ (choose .order (x::xs).length >>= fun i=>match (x::xs)[i]? with
    | some y=>drawOrder n ((x::xs).eraseIdx i) >>= fun r=>pure (y::r)
    | none=>unsupported "internal:drawOrder") _ _ _
   refine wpAny_bind (yP8 (Nat.succ_ne_zero _) fun i hi dr=>?_)
   rw[List.getElem?_eq_getElem hi]
   exact wpAny_bind (ih ((x::xs).eraseIdx i) _ _ (by rw[List.length_eraseIdx_of_lt hi,← hn];rfl) fun ys dr2 hp=>wpAny_pure (h _ dr2 ((hp.cons _).trans (ze2 hi))))
set_option tactic.hygienic true in
theorem zs6 {α:Type} (next:Nat→Nat) (xs:Array α):(pickOrder next xs).toList.Perm xs.toList:=by
 have key:∀ (fuel k:Nat) (zE2:List α) (out:Array α),fuel=zE2.length→(pickOrder.go next fuel k zE2 out).toList.Perm (out.toList++zE2):=by
  intro fuel
  induction fuel with
  | zero =>
   intro k zE2 out h
   rw[show zE2=[] from List.length_eq_zero_iff.mp h.symm,List.append_nil]
   exact .refl _
  | succ fuel ih =>
   intro k zE2 out h
   have hl:next k % zE2.length < zE2.length:=Nat.mod_lt _ (by lia)
   show (match zE2[next k % zE2.length]? with
    | some x=>pickOrder.go next fuel (k+1) (zE2.eraseIdx (next k % zE2.length)) (out.push x)
    | none=>out).toList.Perm _
   rw[List.getElem?_eq_getElem hl]
   refine (ih (k+1) _ _ (by rw[List.length_eraseIdx_of_lt hl];lia)).trans ?_
   rw[Array.toList_push,List.append_assoc]
   exact (ze2 hl).append_left _
 exact key xs.size 0 xs.toList #[] (by simp)
end
end Mine
namespace Mine
open PySem PySem.W PyProof.Rows PySem.Calls PySem.Builtin
noncomputable def itS (a:Addr) (first:Value) (i n ep:Nat):Obj:={ cls:=.type "set_iterator",data:=.fields #[first,.int (i:Nat) 0,.ref a,.int (n:Nat) 0,.int (ep:Nat) 0] }
section
variable {prog:Program} {w:World} {A:Around} {E:Value→Shared→Prop} {s:Shared}
theorem yH8 {α:Type} {Q:α→Shared→Prop} (hh:A.handled=none) (h:∀ e h',(∀ b o,s.heap.get? b=some o→h'.get? b=some o)→(∃ o,h'.get? e=some o∧o.cls=.type "StopIteration")→E (.ref e) { s with heap:=h' }) :
  wpAny (model prog w) A (newExc (.type "StopIteration") [] >>= fun e=>raiseNew e) Q E s:=by
 refine wpAny_bind ?_
 simp only[newExc,newTuple]
 refine wpAny_bind (wpAny_newObj_type ?_ (by size_fits))
 refine wpAny_bind (m:=firstArgMember _ _) (wpAny_of_eq (a:=Value.none) (by first | rfl | (simp only[firstArgMember];rfl)) ?_)
 refine wpAny_newObj_type ?_ (by size_fits)
 simp only[raiseNew]
 refine wpAny_bind (wpAny_handled ?_)
 rw[hh]
 refine wpAny_bind (wpAny_pure (wpAny_throw ?_))
 exact h _ _ (fun b o q=>Heap.get?_push_of_some _ (Heap.get?_push_of_some _ q)) ⟨_,Heap.get?_push_size _ rfl,rfl⟩
noncomputable def zJ1 (w:World) (a:Addr) (es:Array (Int×Value)) (ep:Nat) (t:SetTable) (i slot:Nat) (o:Option (Value×Nat)):Prop :=
 if w.params.followText "set-order"=true then o=((pickOrder (w.params.setOrder a ep) es)[i]?).map fun e=>(e.2,slot)
 else (es.size≤1∧o=(match es[SetTable.below t.place slot]?,t.place[SetTable.below t.place slot]? with | some (_,x),some j=>some (x,j+1) | _,_=>none))
set_option tactic.hygienic true in
theorem zl9 {a:Addr} {es:Array (Int×Value)} {ep:Nat} {t:SetTable} {ks:List Str} {i slot:Nat} {o:Option (Value×Nat)} {Q:Option (Value×Nat)→Shared→Prop} (x:SetI w s.heap a es ep t ks) (hp:zJ1 w a es ep t i slot o) (hq:Q o s) :
  wpAny (model prog w) A (setNext a slot i ep) Q E s:=by
 unfold setNext
 refine wpAny_bind (wpAny_setState_of x.at_ rfl x.fits ?_)
 dsimp only
 refine wpAny_bind ?_
 unfold setsByText
 refine wpAny_bind (wpAny_askSetting (wpAny_pure ?_))
 dsimp only
 unfold zJ1 at hp
 show wpAny _ _ (if w.params.followText "set-order"=true then _ else _) _ _ _
 by_cases hb:w.params.followText "set-order"=true
 ·rw[if_pos hb] at hp ⊢
  simp only[bne_self_eq_false,Bool.false_eq_true,if_false]
  refine wpAny_bind ?_
  unfold setWalk
  refine wpAny_bind (wpAny_setState_of x.at_ rfl x.fits ?_)
  dsimp only
  refine wpAny_bind ?_
  unfold setsByText
  refine wpAny_bind (wpAny_askSetting (wpAny_pure ?_))
  show wpAny _ _ (if w.params.followText "set-order"=true then _ else _) _ _ _
  rw[if_pos hb]
  refine wpAny_bind (wpAny_askSetting (wpAny_pure (wpAny_pure ?_)))
  show Q (((pickOrder (w.params.setOrder a ep) es)[i]?).map fun e=>(e.2,slot)) s
  rw[← hp];exact hq
 ·rw[if_neg hb] at hp ⊢
  obtain ⟨h1,rfl⟩:=hp
  split
  ·rename_i hc
   have hc':(!t.plain&&decide (es.size > 1))=true:=hc
   rw[Bool.and_eq_true,decide_eq_true_eq] at hc'
   omega
  ·refine wpAny_bind ?_
   show wpAny _ _ (ite ((!t.led&&!es.isEmpty)=true) _ _) _ _ _
   have hl:t.led=true:=by rw[x.led];simpa using hb
   rw[if_neg (by rw[hl];simp)]
   refine wpAny_pure (wpAny_pure ?_)
   exact hq
end
end Mine
namespace Mine
open PySem PySem.W PyProof.Rows PySem.Calls PySem.Builtin
section
variable {prog:Program} {w:World} {A:Around} {E:Value→Shared→Prop} {s:Shared}
theorem zK4 {I a:Addr} {first:Value} {i ep:Nat} {es:Array (Int×Value)} {t:SetTable} {ks:List Str} {Q:Option Value→Shared→Prop} (hI:s.heap.get? I=some (itS a first i es.size ep)) (x:SetI w s.heap a es ep t ks)
  (h:wpAny (model prog w) A.in1 (if let .int slot _:=first then (do
    match ← setNext a slot.toNat (i:Int).toNat (ep:Int).toNat with
    | some (x,nxt) =>
     setField (.ref I) 0 (rawInt nxt)
     setField (.ref I) 1 (rawInt (i+1))
     ret x
    | none=>setField (.ref I) 2 .none;raiseNew (← newExc (.type "StopIteration") []))
   else (do
    let some places ← seqItems? first | unsupported "internal:set_iterator"
    match places[(i:Int).toNat]? with
    | some (.int place _) =>
     let x ← setNextDrawn a place.toNat (ep:Int).toNat
     setField (.ref I) 1 (rawInt (i+1))
     ret x
    | some _=>unsupported "internal:set_iterator"
    | none=>setField (.ref I) 0 (rawInt 0);setField (.ref I) 2 .none;raiseNew (← newExc (.type "StopIteration") [])))
   (fun fin s'=>∃ v,fin=.done (.ret v)∧Q (some v) s')
   (fun e s'=>(∃ o b,e=.ref b∧s'.heap.get? b=some o∧o.cls=.type "StopIteration")∧Q none s') s) :
  wpAny (model prog w) A (pyNext (.ref I)) Q E s:=by
 have hT:s.TypeIs (.ref I) "set_iterator":=⟨_,hI,rfl⟩
 unfold pyNext
 refine wpAny_bind (wpAny_attempt (wpAny_callSpecial?_slot (name:=Str.ofString "__next__") hT zD9
  (wpAny_call_entry zD9 hT zT6 ?_ (zR8 _))))
 show wpAny _ _ (fieldsOf (.ref I) >>= _) _ _ s
 refine wpAny_bind (wpAny_fieldsOf hI rfl ?_)
 show wpAny _ _ (setEntries a >>= _) _ _ s
 refine wpAny_bind (wpAny_setEntries_of x.at_ rfl x.fits ?_)
 rw[if_neg (by simp)]
 refine wpAny_mono h (fun fin s' q=>?_) fun e s' q=>?_
 ·obtain ⟨v,rfl,q⟩:=q
  exact ⟨v,rfl,wpAny_pure q⟩
 ·obtain ⟨⟨o,b,rfl,ho,hc⟩,q⟩:=q
  refine wpAny_bind (wpAny_isInstance (T:="StopIteration") (b:=true) ⟨o,ho,hc⟩ isSubtype_stop ?_)
  exact wpAny_pure q
theorem zx8 {I a:Addr} {u:Tok} {slot nx i ep:Nat} {es:Array (Int×Value)} {t:SetTable} {ks:List Str} {v:Value} {Q:Option Value→Shared→Prop} (hI:s.heap.get? I=some (itS a (.int (slot:Nat) u) i es.size ep)) (x:SetI w s.heap a es ep t ks)
  (hp:zJ1 w a es ep t i slot (some (v,nx))) (hq:∀ h',h'.get? I=some (itS a (.int (nx:Nat) 0) (i+1) es.size ep)→Heap.SameBut I s.heap h'→Q (some v) { s with heap:=h' }) :
  wpAny (model prog w) A (pyNext (.ref I)) Q E s:=by
 refine zK4 hI x ?_
 show wpAny _ _ (setNext a _ _ _ >>= _) _ _ s
 simp only[Int.toNat_natCast]
 refine wpAny_bind (zl9 x hp ?_)
 refine wpAny_bind (wpAny_setField_rec hI (by simp) fun h1 g1 s1=>?_)
 refine wpAny_bind (wpAny_setField_rec (s:={ s with heap:=h1 }) g1 (by simp) fun h2 g2 s2=>?_)
 refine wpAny_pure ⟨v,rfl,hq h2 (by rw[g2];simp[itS,rawInt]) (s1.trans s2)⟩
theorem z82 {I a:Addr} {u:Tok} {slot i ep:Nat} {es:Array (Int×Value)} {t:SetTable} {ks:List Str} {Q:Option Value→Shared→Prop} (hh:A.handled=none) (hI:s.heap.get? I=some (itS a (.int (slot:Nat) u) i es.size ep)) (x:SetI w s.heap a es ep t ks)
  (hp:zJ1 w a es ep t i slot none) (hq:∀ h',Heap.ExtBut I s.heap h'→Q none { s with heap:=h' }) :
  wpAny (model prog w) A (pyNext (.ref I)) Q E s:=by
 refine zK4 hI x ?_
 show wpAny _ _ (setNext a _ _ _ >>= _) _ _ s
 simp only[Int.toNat_natCast]
 refine wpAny_bind (zl9 x hp ?_)
 refine wpAny_bind (wpAny_setField_rec hI (by simp) fun h1 g1 s1=>?_)
 refine yH8 (s:={ s with heap:=h1 }) hh fun e h2 hk he=>?_
 refine xe he fun o Y0=>?_;have ho:=Y0.1;have hc:=Y0.2;try clear he;try clear Y0
 exact ⟨⟨o,e,rfl,ho,hc⟩,hq h2 fun b o' hb q=>hk b o' (by rw[s1.2 b hb];exact q)⟩
theorem zs7 {I a T:Addr} {i p ep:Nat} {u:Tok} {pl:Array Value} {es:Array (Int×Value)} {t:SetTable} {ks:List Str} {e:Int×Value} {oT:Obj} {nT:Nat} {Q:Option Value→Shared→Prop} (hI:s.heap.get? I=some (itS a (.ref T) i es.size ep)) (x:SetI w s.heap a es ep t ks)
  (hT:s.heap.get? T=some oT) (hTd:oT.data=.seq pl nT) (hpl:pl[i]?=some (.int (p:Nat) u)) (hp:es[p]?=some e) (hq:∀ h',h'.get? I=some (itS a (.ref T) (i+1) es.size ep)→Heap.SameBut I s.heap h'→Q (some e.2) { s with heap:=h' }) :
  wpAny (model prog w) A (pyNext (.ref I)) Q E s:=by
 refine zK4 hI x ?_
 show wpAny _ _ (seqItems? (.ref T) >>= _) _ _ s
 refine wpAny_bind (wpAny_seqItems hT hTd ?_)
 simp only[Int.toNat_natCast,hpl]
 refine wpAny_bind ?_
 unfold setNextDrawn
 refine wpAny_bind (wpAny_setState_of x.at_ rfl x.fits ?_)
 simp only[bne_self_eq_false,Bool.false_eq_true,if_false,hp]
 refine wpAny_pure ?_
 refine wpAny_bind (wpAny_setField_rec hI (by simp) fun h1 g1 s1=>?_)
 refine wpAny_pure ⟨e.2,rfl,hq h1 (by rw[g1];simp[itS,rawInt]) s1⟩
theorem zx9 {I a T:Addr} {i ep:Nat} {pl:Array Value} {es:Array (Int×Value)} {t:SetTable} {ks:List Str} {oT:Obj} {nT:Nat} {Q:Option Value→Shared→Prop} (hh:A.handled=none) (hI:s.heap.get? I=some (itS a (.ref T) i es.size ep)) (x:SetI w s.heap a es ep t ks)
  (hT:s.heap.get? T=some oT) (hTd:oT.data=.seq pl nT) (hpl:pl[i]?=none) (hq:∀ h',Heap.ExtBut I s.heap h'→Q none { s with heap:=h' }) :
  wpAny (model prog w) A (pyNext (.ref I)) Q E s:=by
 refine zK4 hI x ?_
 show wpAny _ _ (seqItems? (.ref T) >>= _) _ _ s
 refine wpAny_bind (wpAny_seqItems hT hTd ?_)
 simp only[Int.toNat_natCast,hpl]
 refine wpAny_bind (wpAny_setField_rec hI (by simp) fun h1 g1 s1=>?_)
 refine wpAny_bind (wpAny_setField_rec (s:={ s with heap:=h1 }) g1 (by simp) fun h2 g2 s2=>?_)
 refine yH8 (s:={ s with heap:=h2 }) hh fun e h3 hk he=>?_
 refine xe he fun o Y0=>?_;have ho:=Y0.1;have hc:=Y0.2;try clear he;try clear Y0
 exact ⟨⟨o,e,rfl,ho,hc⟩,hq h3 fun b o' hb q=>hk b o' (by rw[s2.2 b hb,s1.2 b hb];exact q)⟩
end
end Mine
namespace Mine
open PySem PySem.W PyProof.Rows PySem.Calls PySem.Builtin
section
variable {prog:Program} {w:World} {A:Around} {E:Value→Shared→Prop} {s:Shared}
theorem SetI.at' {h h':Heap} {a:Addr} {es:Array (Int×Value)} {ep:Nat} {t:SetTable} {ks:List Str} (x:SetI w h a es ep t ks) (hk:∀ o,h.get? a=some o→h'.get? a=some o):SetI w h' a es ep t ks:=⟨hk _ x.at_,x.fits,x.led,x.plain,x.elems⟩
theorem zK5:Slot "set_iterator" "__iter__" "set_iterator.__iter__" :=
 .of (owner:="set_iterator") (n:="__iter__") (by rw[typeLookup_type,builtinLookup_eq_fast];kernel_rfl) (by decide +kernel) (by decide +kernel) (by decide +kernel)
  (by first | exact .inl (by decide +kernel) | exact .inr (by decide +kernel)) (by rw[isSubtype_type];kernel_rfl)
theorem zT7:entryFor table "set_iterator.__iter__"=some Builtin.«dict_keyiterator.__iter__» :=
 entryFor_alias (id':="dict_keyiterator.__iter__") (by kernel_rfl) (by decide +kernel) (by decide +kernel) (by kernel_rfl)
theorem zR9 (a:Value):argsOk "set_iterator.__iter__" ⟨[a],[]⟩:=by
 unfold argsOk;rw[signature?_of (id:="set_iterator.__iter__") (n:=['_','_','r','e','t','i','_','_']) (o:=['r','o','t','a','r','e','t','i','_','t','e','s']) (by kernel_rfl) zP4];kernel_rfl
theorem z19 {I a:Addr} {first:Value} {i n ep:Nat} {Q:Value→Shared→Prop} (hI:s.heap.get? I=some (itS a first i n ep)) (h:Q (.ref I) s):wpAny (model prog w) A (pyIter (.ref I)) Q E s:=by
 have hT:s.TypeIs (.ref I) "set_iterator":=⟨_,hI,rfl⟩
 refine wpAny_pyIter_slot hT zK5 (wpAny_call_entry zK5 hT zT7 ?_ (zR9 _))
 show wpAny _ _ (ret (.ref I)) _ _ s
 exact wpAny_pure ⟨_,rfl,"set_iterator",_,hT,zD9.lookup,h⟩
noncomputable def z83 (ord:List (Str×Tok)) (i:Nat) (v:Value):Prop:=∃ q,ord[i]?=some q∧v=.str q.1 q.2
theorem z20 {I a:Addr} (hh:A.handled=none) (hne:a≠I) {es:Array (Int×Value)} {ep:Nat} {t:SetTable} {ks:List Str} {ord:List (Str×Tok)} (SlotOK:Nat→Nat→Prop)
  (step:∀ i slot,SlotOK i slot→i < es.size→∃ q nx,ord[i]?=some q∧zJ1 w a es ep t i slot (some (.str q.1 q.2,nx))∧SlotOK (i+1) nx) (fin:∀ slot,SlotOK es.size slot→zJ1 w a es ep t es.size slot none) :
  Walks prog w A I [I,a] [I] es.size (z83 ord) (fun i h=>(∃ slot u,h.get? I=some (itS a (.int (slot:Nat) u) i es.size ep)∧SlotOK i slot)∧SetI w h a es ep t ks) where
 sub:=fun b hb=>by simp at hb;simp[hb]
 frame:=fun i h h' st hk=>by
  refine xe st.1 fun slot Y0=>?_;refine xe Y0 fun u Y1=>?_;have h1:=Y1.1;have h2:=Y1.2;have x:=st.2;try clear st;try clear Y0 Y1
  exact ⟨⟨slot,u,hk I (by simp) _ h1,h2⟩,x.at' (hk a (by simp))⟩
 item:=fun i s Q E hi st hQ=>by
  refine xe st.1 fun slot Y0=>?_;refine xe Y0 fun u Y1=>?_;have h1:=Y1.1;have h2:=Y1.2;have x:=st.2;try clear st;try clear Y0 Y1
  refine xe (step i slot h2 hi) fun q Y0=>?_;refine xe Y0 fun nx Y1=>?_;have e1:=Y1.1;have e2:=Y1.2.1;have e3:=Y1.2.2;try clear Y0 Y1
  refine zx8 h1 x e2 fun h' g sb=>?_
  exact hQ _ h' s.toks ⟨q,e1,rfl⟩ ⟨⟨nx,0,g,e3⟩,x.at' fun o z=>by rw[sb.2 a hne];exact z⟩ fun b o hb z=>by rw[sb.2 b (fun e=>hb (by simp[e]))];exact z
 done:=fun s Q E st hQ=>by
  refine xe st.1 fun slot Y0=>?_;refine xe Y0 fun u Y1=>?_;have h1:=Y1.1;have h2:=Y1.2;have x:=st.2;try clear st;try clear Y0 Y1
  exact z82 hh h1 x (fin slot h2) fun h' hk=>hQ h' s.toks fun b o hb z=>hk b o (fun e=>hb (by simp[e])) z
 self:=fun i s Q E st hQ=>by
  refine xe st.1 fun slot Y0=>?_;refine xe Y0 fun u Y1=>?_;have h1:=Y1.1;have h2:=Y1.2;have x:=st.2;try clear st;try clear Y0 Y1
  exact z19 h1 hQ
theorem yH9 {I a T:Addr} (hh:A.handled=none) (hne:a≠I) (hT:T≠I) {es:Array (Int×Value)} {ep:Nat} {t:SetTable} {ks:List Str} {ord:List (Str×Tok)} {pl:Array Value}
  (step:∀ i,i < es.size→∃ q p u e,ord[i]?=some q∧pl[i]?=some (.int (p:Nat) u)∧es[p]?=some e∧e.2=.str q.1 q.2) (fin:pl[es.size]?=none) :
  Walks prog w A I [I,T,a] [I] es.size (z83 ord) (fun i h=>h.get? I=some (itS a (.ref T) i es.size ep)∧(∃ oT nT,h.get? T=some oT∧oT.data=.seq pl nT)∧SetI w h a es ep t ks) where
 sub:=fun b hb=>by simp at hb;simp[hb]
 frame:=fun i h h' st hk=>by
  have h1:=st.1;refine xe st.2.1 fun oT Y0=>?_;refine xe Y0 fun nT Y1=>?_;have h2:=Y1.1;have h3:=Y1.2;have x:=st.2.2;try clear st;try clear Y0 Y1
  exact ⟨hk I (by simp) _ h1,⟨oT,nT,hk T (by simp) _ h2,h3⟩,x.at' (hk a (by simp))⟩
 item:=fun i s Q E hi st hQ=>by
  have h1:=st.1;refine xe st.2.1 fun oT Y0=>?_;refine xe Y0 fun nT Y1=>?_;have h2:=Y1.1;have h3:=Y1.2;have x:=st.2.2;try clear st;try clear Y0 Y1
  refine xe (step i hi) fun q Y0=>?_;refine xe Y0 fun p Y1=>?_;refine xe Y1 fun u Y2=>?_;refine xe Y2 fun e Y3=>?_;have e1:=Y3.1;have e2:=Y3.2.1;have e3:=Y3.2.2.1;have e4:=Y3.2.2.2;try clear Y0 Y1 Y2 Y3
  refine zs7 h1 x h2 h3 e2 e3 fun h' g sb=>?_
  rw[e4]
  exact hQ _ h' s.toks ⟨q,e1,rfl⟩ ⟨g,⟨oT,nT,by rw[sb.2 T hT];exact h2,h3⟩,x.at' fun o z=>by rw[sb.2 a hne];exact z⟩ fun b o hb z=>by rw[sb.2 b (fun e=>hb (by simp[e]))];exact z
 done:=fun s Q E st hQ=>by
  have h1:=st.1;refine xe st.2.1 fun oT Y0=>?_;refine xe Y0 fun nT Y1=>?_;have h2:=Y1.1;have h3:=Y1.2;have x:=st.2.2;try clear st;try clear Y0 Y1
  exact zx9 hh h1 x h2 h3 fin fun h' hk=>hQ h' s.toks fun b o hb z=>hk b o (fun e=>hb (by simp[e])) z
 self:=fun i s Q E st hQ=>by
  have h1:=st.1;have x:=st.2.2;try clear st
  exact z19 h1 hQ
theorem zs8 (xs:Array Nat) (j n lo hi:Nat):SetTable.below.go xs j (n+1) lo hi=if lo < hi then (if xs.getD ((lo+hi) / 2) j < j then SetTable.below.go xs j n ((lo+hi) / 2+1) hi else SetTable.below.go xs j n lo ((lo+hi) / 2)) else lo:=rfl
theorem yI0 (j:Nat):SetTable.below #[j] 0=0:=by
 show SetTable.below.go #[j] 0 (0+1) 0 1=0
 rw[zs8,if_pos Nat.zero_lt_one,if_neg (Nat.not_lt_zero _)];rfl
theorem z84 (j:Nat):SetTable.below #[j] (j+1)=1:=by
 show SetTable.below.go #[j] (j+1) (0+1) 0 1=1
 rw[zs8,if_pos Nat.zero_lt_one,if_pos (show (#[j]:Array Nat).getD ((0+1) / 2) (j+1) < j+1 from Nat.lt_succ_self j)];rfl
end
end Mine
namespace Mine
open PySem PySem.W PyProof.Rows PySem.Calls PySem.Builtin
theorem zy0 {α:Type} [Inhabited α] (l:List α):(List.range l.length).map (fun p=>(l[p]?).getD default)=l:=by
 refine List.ext_getElem (by simp) fun i h1 h2=>?_
 simp[List.getElem?_eq_getElem h2]
section
variable {prog:Program} {w:World} {A:Around} {E:Value→Shared→Prop} {s:Shared}
noncomputable def z85 (prog:Program) (w:World) (I a:Addr) (n:Nat) (ks:List Str) (lo:Nat) (h':Heap):Prop :=
 ∃ (fp:List Addr) (ord:List (Str×Tok)) (St:Nat→Heap→Prop),(∀ b∈fp,b=a∨lo≤b)∧(∀ B:Around,B.handled=none→Walks prog w B I fp [I] n (z83 ord) St)∧St 0 h'∧ord.length=n∧(ord.map (·.1)).Perm ks
theorem z86 {a:Addr} {es:Array (Int×Value)} {ep:Nat} {t:SetTable} {ks:List Str} {Q:Bool→Shared→Prop} (x:SetI w s.heap a es ep t ks) (hq:Q (!(w.params.followText "set-order")&&(!t.plain&&decide (es.size > 1))) s) :
  wpAny (model prog w) A (setDrawn a) Q E s:=by
 unfold setDrawn
 refine wpAny_bind (wpAny_setState_of x.at_ rfl x.fits ?_)
 dsimp only
 refine wpAny_bind ?_
 unfold setsByText
 exact wpAny_bind (wpAny_askSetting (wpAny_pure (wpAny_pure hq)))
section
variable {h:Heap} {a:Addr} {es:Array (Int×Value)} {ep:Nat} {t:SetTable} {ks:List Str} {ls:List (Str×Tok)}
theorem z87 (hls:es.toList=ls.map (zm6 w)):es.size=ls.length:=by rw[← Array.length_toList,hls,List.length_map]
theorem yV8 (hls:es.toList=ls.map (zm6 w)) {p:Nat} (hp:p < es.size):∃ q e,ls[p]?=some q∧es[p]?=some e∧e.2=.str q.1 q.2:=by
 have hl:p < ls.length:=z87 hls▸hp
 have h1:ls[p]?=some ls[p]:=List.getElem?_eq_getElem hl
 refine ⟨_,zm6 w ls[p],h1,?_,rfl⟩
 rw[← Array.getElem?_toList,hls,List.getElem?_map,h1];rfl
noncomputable abbrev yP9 (ys:List Nat):Obj:={ cls:=.type "tuple",data:=.seq (ys.map fun (i:Nat)=>rawInt i).toArray }
theorem zy1 (x:SetI w h a es ep t ks) {ys:List Nat} (hp:ys.Perm (List.range es.size)):z85 prog w (h.push (yP9 ys)).objs.size a es.size ks h.objs.size ((h.push (yP9 ys)).push (itS a (.ref h.objs.size) 0 es.size ep)):=by
 refine xe x.elems fun ls Y0=>?_;have hls:=Y0.1;have hperm:=Y0.2;try clear Y0
 have hlen:=z87 hls
 have hyl:ys.length=es.size:=hp.length_eq.trans List.length_range
 have hT1:(h.push (yP9 ys)).get? h.objs.size=some (yP9 ys):=Heap.get?_push_size _ rfl
 have lt1:=Heap.lt_size hT1
 refine ⟨[_,h.objs.size,a],ys.map fun p=>(ls[p]?).getD default,_,List.forall_mem_cons.mpr ⟨.inr (Nat.le_of_lt lt1),List.forall_mem_cons.mpr ⟨.inr (Nat.le_refl _),List.forall_mem_singleton.mpr (.inl rfl)⟩⟩,
  fun B hB=>yH9 (ep:=ep) (t:=t) (ks:=ks) (pl:=(ys.map fun (i:Nat)=>rawInt i).toArray) hB (Nat.ne_of_lt (Nat.lt_trans (Heap.lt_size x.at_) lt1)) (Nat.ne_of_lt lt1) (fun i hi=>?_) (by rw[List.getElem?_toArray,List.getElem?_map,List.getElem?_eq_none (Nat.le_of_eq hyl)];rfl),
  ⟨Heap.get?_push_size _ rfl,⟨_,0,Heap.get?_push_of_some _ hT1,rfl⟩,x.at' fun o z=>Heap.get?_push_of_some _ (Heap.get?_push_of_some _ z)⟩,(List.length_map _).trans hyl,List.Perm.trans (List.Perm.map _ ?_) hperm⟩
 ·have hyi:i < ys.length:=hyl▸hi
  have hy:=List.getElem?_eq_getElem hyi
  refine xe (yV8 hls (List.mem_range.mp (hp.mem_iff.mp (List.getElem_mem hyi)))) fun q Y0=>?_;refine xe Y0 fun e Y1=>?_;have e0:=Y1.1;have e1:=Y1.2.1;have e2:=Y1.2.2;try clear Y0 Y1
  exact ⟨q,ys[i],0,e,by rw[List.getElem?_map,hy];exact congrArg (fun o=>some (Option.getD o default)) e0,by rw[List.getElem?_toArray,List.getElem?_map,hy];rfl,e1,e2⟩
 ·have:=hp.map (fun p=>(ls[p]?).getD default)
  rwa [hlen,zy0] at this
theorem z21 (hf:t.fits es.size=true) (h1:es.size=1):∃ j,t.place=#[j]:=by
 unfold SetTable.fits at hf
 rw[Bool.and_eq_true,beq_iff_eq] at hf
 exact Array.size_eq_one_iff.mp (hf.1.trans h1)
theorem yd9 (hls:es.toList=ls.map (zm6 w)) (hf:t.fits es.size=true) (hb:¬ w.params.followText "set-order"=true) (h1:es.size=1):∃ q j,ls[0]?=some q∧t.place=#[j]∧zJ1 w a es ep t 0 0 (some (.str q.1 q.2,j+1)):=by
 refine xe (z21 hf h1) fun j ht=>?_
 refine xe (yV8 hls (p:=0) (h1▸Nat.zero_lt_one)) fun q Y0=>?_;refine xe Y0 fun e Y1=>?_;have e0:=Y1.1;have e1:=Y1.2.1;have e2:=Y1.2.2;try clear Y0 Y1
 refine ⟨q,j,e0,ht,?_⟩
 unfold zJ1
 rw[if_neg hb,ht,yI0,e1,← e2]
 exact ⟨Nat.le_of_eq h1,rfl⟩
theorem ye0 (hf:t.fits es.size=true) (hb:¬ w.params.followText "set-order"=true) (h1:es.size≤1) {slot:Nat} (hs:slot=if es.size=0 then 0 else t.place.getD 0 0+1):zJ1 w a es ep t es.size slot none:=by
 unfold zJ1
 rw[if_neg hb]
 refine ⟨h1,?_⟩
 by_cases h0:es.size=0
 ·rw[Array.getElem?_eq_none (h0▸Nat.zero_le _)]
 ·refine xe (z21 hf (Nat.le_antisymm h1 (Nat.pos_of_ne_zero h0))) fun j ht=>?_
  rw[if_neg h0,ht] at hs
  rw[ht,show slot=j+1 from hs,z84,Array.getElem?_eq_none h1]
noncomputable abbrev xC1 (t:SetTable) (i slot:Nat):Prop:=slot=if i=0 then 0 else t.place.getD 0 0+1
theorem zy2 (x:SetI w h a es ep t ks) (hd:¬ (!(w.params.followText "set-order")&&(!t.plain&&decide (es.size > 1)))=true):z85 prog w h.objs.size a es.size ks h.objs.size (h.push (itS a (.int (0:Nat) 0) 0 es.size ep)):=by
 refine xe x.elems fun ls Y0=>?_;have hls:=Y0.1;have hperm:=Y0.2;try clear Y0
 have hlen:=z87 hls
 have hne:a≠h.objs.size:=Nat.ne_of_lt (Heap.lt_size x.at_)
 have fpOK:∀ b∈[h.objs.size,a],b=a∨h.objs.size≤b:=List.forall_mem_cons.mpr ⟨.inr (Nat.le_refl _),List.forall_mem_singleton.mpr (.inl rfl)⟩
 have st0:∀ SlotOK:Nat→Nat→Prop,SlotOK 0 0→(∃ slot u,(h.push (itS a (.int (0:Nat) 0) 0 es.size ep)).get? h.objs.size=some (itS a (.int (slot:Nat) u) 0 es.size ep)∧SlotOK 0 slot)∧SetI w (h.push (itS a (.int (0:Nat) 0) 0 es.size ep)) a es ep t ks :=
  fun S h0=>⟨⟨0,0,Heap.get?_push_size _ rfl,h0⟩,x.at' fun o z=>Heap.get?_push_of_some _ z⟩
 by_cases hb:w.params.followText "set-order"=true
 ·refine xe (zs5 (f:=zm6 w) (hls▸zs6 (w.params.setOrder a ep) es) ls rfl) fun ord Y0=>?_;have h1:=Y0.1;have h2:=Y0.2;try clear Y0
  have hol:ord.length=es.size:=h2.length_eq.trans hlen.symm
  refine ⟨_,ord,_,fpOK,fun B hB=>z20 (t:=t) (ks:=ks) (ep:=ep) hB hne (fun uu uu=>True) (fun i slot uu hi=>?_) (fun slot uu=>?_),st0 (fun uu uu=>True) trivial,hol,(h2.map _).trans hperm⟩
  ·have h3:ord[i]?=some ord[i]:=List.getElem?_eq_getElem (hol.symm▸hi)
   refine ⟨ord[i],slot,h3,?_,trivial⟩
   unfold zJ1
   rw[if_pos hb,← Array.getElem?_toList,h1,List.getElem?_map,h3]
   rfl
  ·unfold zJ1
   rw[if_pos hb,← Array.getElem?_toList,h1,List.getElem?_map,List.getElem?_eq_none (Nat.le_of_eq hol)]
   rfl
 ·have h1:es.size≤1:=by
   rcases x.plain with g | g
   ·exact Nat.le_trans (Nat.le_of_eq g) (Nat.zero_le 1)
   ·rw[g,Bool.eq_false_iff.mpr hb] at hd
    exact Nat.le_of_not_lt fun h=>hd (decide_eq_true h)
  refine ⟨_,ls,_,fpOK,fun B hB=>z20 (t:=t) (ks:=ks) (ep:=ep) hB hne (xC1 t) (fun i slot hs hi=>?_) (fun slot hs=>ye0 x.fits hb h1 hs),st0 (xC1 t) rfl,hlen.symm,hperm⟩
  have hi0:i=0:=Nat.lt_one_iff.mp (Nat.lt_of_lt_of_le hi h1)
  subst hi0
  refine xe (yd9 (a:=a) (ep:=ep) hls x.fits hb (Nat.le_antisymm h1 hi)) fun q Y0=>?_;refine xe Y0 fun j Y1=>?_;have e0:=Y1.1;have e1:=Y1.2.1;have e2:=Y1.2.2;try clear Y0 Y1
  exact ⟨q,j+1,e0,(show slot=0 from hs)▸e2,show j+1=_ by rw[e1];rfl⟩
end
theorem yp3 {a:Addr} {es:Array (Int×Value)} {ep:Nat} {t:SetTable} {ks:List Str} {Q:Value→Shared→Prop} (x:SetI w s.heap a es ep t ks) (hsz:es.size≤sizeLine)
  (hq:∀ (I:Addr) (h':Heap) (dr:Drawn),(∀ b o,s.heap.get? b=some o→h'.get? b=some o)→s.heap.objs.size≤I→z85 prog w I a es.size ks s.heap.objs.size h'→Q (.ref I) { s with heap:=h',drawn:=dr }) :
  wpAny (model prog w) A (pyIter (.ref a)) Q E s:=by
 have hT:s.TypeIs (.ref a) "set":=⟨_,x.at_,rfl⟩
 refine wpAny_pyIter_slot hT F.slot_set_iter (wpAny_call_entry F.slot_set_iter hT zm7 ?_ (F.args_set_iter_1 _))
 show wpAny _ _ (Builtin.Frozenset.sizeOf a >>= _) _ _ s
 unfold Builtin.Frozenset.sizeOf
 refine wpAny_bind (wpAny_bind (wpAny_setEntries_of x.at_ rfl x.fits (wpAny_pure ?_)))
 refine wpAny_bind (z86 x ?_)
 by_cases hd:(!(w.params.followText "set-order")&&(!t.plain&&decide (es.size > 1)))=true
 ·rw[if_pos hd]
  refine wpAny_bind (zx7 _ _ _ _ (List.length_range).symm fun ys dr hp=>wpAny_bind ?_)
  unfold newTuple
  refine wpAny_newObj_type (wpAny_bind ?_) (by show (ys.map fun (i:Nat)=>rawInt i).toArray.size≤sizeLine;rw[List.size_toArray,List.length_map,hp.length_eq,List.length_range];exact hsz)
  unfold setEpoch
  have x1:=x.at' (h':=s.heap.push (yP9 ys)) fun o z=>Heap.get?_push_of_some _ z
  refine wpAny_bind (wpAny_setState_of x1.at_ rfl x1.fits (wpAny_pure ?_))
  exact wpAny_bind (wpAny_newObj_type (wpAny_pure ⟨_,rfl,"set_iterator",_,⟨_,Heap.get?_push_size _ rfl,rfl⟩,zD9.lookup,
   hq _ ((s.heap.push (yP9 ys)).push (itS a (.ref s.heap.objs.size) 0 es.size ep)) dr (fun b o z=>Heap.get?_push_of_some _ (Heap.get?_push_of_some _ z)) (Nat.le_of_lt (Heap.lt_size (Heap.get?_push_size (o:=yP9 ys) s.heap rfl))) (zy1 x hp)⟩))
 ·rw[if_neg hd]
  refine wpAny_bind (wpAny_pure (wpAny_bind ?_))
  unfold setEpoch
  refine wpAny_bind (wpAny_setState_of x.at_ rfl x.fits (wpAny_pure ?_))
  exact wpAny_bind (wpAny_newObj_type (wpAny_pure ⟨_,rfl,"set_iterator",_,⟨_,Heap.get?_push_size _ rfl,rfl⟩,zD9.lookup,
   hq _ (s.heap.push (itS a (.int (0:Nat) 0) 0 es.size ep)) s.drawn (fun b o z=>Heap.get?_push_of_some _ z) (Nat.le_refl _) (zy2 x hd)⟩))
end
end Mine
namespace Mine
open PySem PySem.W PyProof.Rows PySem.Calls PySem.Builtin
section
variable {prog:Program} {w:World} {A:Around} {E:Value→Shared→Prop} {s:Shared}
theorem yp4 {r:Addr} {Q:Bool→Shared→Prop} (hT:s.TypeIs (.ref r) "set") (h:Q false s):wpAny (model prog w) A (Builtin.List.listLengthHint (.ref r)) Q E s:=by
 unfold Builtin.List.listLengthHint
 refine wpAny_bind (wpAny_specialOf hT PySem.F.slot_set_len.lookup ?_)
 generalize hid:("set.__len__":String)=id0
 wp_delta
 rw[show splitId id0=some ("set","__len__") from by subst hid;decide +kernel]
 subst hid
 refine wpAny_bind (wpAny_isInstance (T:="set") (b:=true) hT (by rw[isSubtype_type];kernel_rfl) ?_)
 refine wpAny_ite_split (fun hab=>absurd hab (by decide)) (fun uu=>?_)
 refine wpAny_ite_split (fun uu=>?_) (fun hab=>absurd (by decide +kernel) hab)
 refine wpAny_bind (wpAny_typeOf hT ?_)
 exact wpAny_pure h
theorem yQ0 {ord:List (Str×Tok)} {acc:Array Value} {n:Nat} (h:ItemsOf (z83 ord) acc n) (hn:ord.length=n):StrsAre acc.toList (ord.map (·.1)):=by
 refine ze1 (by rw[Array.length_toList,h.1,List.length_map,hn]) fun j v hj=>?_
 refine xe (h.2 j v (by rw[← Array.getElem?_toList];exact hj)) fun q Y0=>?_;have h1:=Y0.1;obtain rfl:=Y0.2;try clear Y0
 exact ⟨q.1,by rw[List.getElem?_map,h1];rfl,by simp[Value.isStrOf]⟩
theorem yQ1 {R:Result→Shared→Prop} {a S:Addr} {es:Array (Int×Value)} {ep:Nat} {t:SetTable} {ks:List Str} (x:SetI w s.heap a es ep t ks) (hsz:es.size≤sizeLine) (hh:A.handled=none) (hSa:S≠a) (res:Value) (hS:s.heap.get? S=some { cls:=.type "list",data:=.seq #[] })
  (hR:∀ h' (tk:Tk) acc' c' ls,(∀ b o,b≠S→s.heap.get? b=some o→h'.get? b=some o)→h'.get? S=some { cls:=.type "list",dict:=none,data:=.seq acc' c',slots:=#[] }→StrsAre acc'.toList ls→ls.Perm ks→R (.ok (.ret res)) { s with heap:=h',toks:=tk.1,drawn:=tk.2 }) :
  wpAny (model prog w) A.in1 (Builtin.List.listExtendWith (.ref S) (.ref a) res)
   (fun fin s'=>match fin with | .done f=>R (.ok f) s' | .again c'=>c'.quiet=true∧codeAny (model prog w) A c' R s') (fun e s'=>R (.error e) s') s:=by
 have hSlt:=Heap.lt_size hS
 unfold Builtin.List.listExtendWith
 refine wpAny_bind (wpAny_typeOf (T:="set") ⟨_,x.at_,rfl⟩ ?_)
 have h1:Builtin.List.listSameRef (.ref S) (.ref a)=false:=by simp[Builtin.List.listSameRef,hSa]
 rw[h1,if_neg (by decide)]
 refine wpAny_bind (yp3 x hsz fun I h1 dr hk hI hw=>?_)
 refine xe hw fun fp Y0=>?_;refine xe Y0 fun ord Y1=>?_;refine xe Y1 fun St Y2=>?_;have hfp:=Y2.1;have W:=Y2.2.1;have st:=Y2.2.2.1;have hol:=Y2.2.2.2.1;have hop:=Y2.2.2.2.2;try clear hw;try clear Y0 Y1 Y2
 have hSf:S ∉ fp:=fun hm=>by
  rcases hfp S hm with e | e
  ·exact hSa e
  ·exact absurd hSlt (Nat.not_lt.mpr e)
 have hx1:SetI w h1 a es ep t ks:=x.at' (hk a)
 have W':=W A.in1 hh
 refine wpAny_bind (wpAny_holding (yp4 ⟨_,hx1.at_,rfl⟩ ?_))
 have key:∀ (h:Heap) (c₁:Nat),St 0 h→(∀ b o,b≠S→s.heap.get? b=some o→h.get? b=some o) →
   h.get? S=some { cls:=.type "list",data:=.seq #[] c₁ }→codeAny (model prog w) A (.builtin "list.extend.loop" ⟨[.ref S,.ref I,res],[]⟩) R { s with heap:=h,drawn:=dr }:=by
  intro h c₁ hst hk hS₁
  refine codeAny_extend_loopS W'.toS hsz S hSf res es.size 0 _ #[] c₁ rfl (Nat.zero_le _) hst hS₁ (ItemsOf.nil _) fun s' acc' c' hm hS' hacc=>?_
  rw[Moved.eq_with hm]
  refine hR s'.heap (s'.toks,dr) acc' c' (ord.map (·.1)) (fun b o hb e=>hm.heap b o (fun hmem=>?_) (hk b o hb e)) hS' (yQ0 hacc hol) hop
  rcases List.mem_cons.mp hmem with e' | hmem
  ·exact hb e'
  ·rw[List.mem_singleton.mp hmem] at e
   exact absurd (Heap.lt_size e) (Nat.not_lt.mpr hI)
 have hS₁:=hk _ _ hS
 refine wpAny_ite_split (fun uu=>?_) (fun uu=>wpAny_pure ⟨plainId_quiet PySem.F.plain_extend_loop _,key _ _ st (fun b o uu e=>hk b o e) hS₁⟩)
 refine wpAny_bind (wpAny_rule ?_)
 refine wpAny_bind ?_
 show wpAny _ _ (updateSeq S (·.push .none) >>= fun uu=>updateSeq S (·.pop)) _ _ _
 refine wpAny_bind (wpAny_updateSeq hS₁ rfl ?_)
 have hS₂:=Heap.get?_update_self (Obj.mapSeq (·.push Value.none)) hS₁ rfl
 refine wpAny_updateSeq (hz:=by seq_fits) hS₂ rfl ?_
 have hS₃:=Heap.get?_update_self (Obj.mapSeq (·.pop)) hS₂ rfl
 refine wpAny_pure ⟨plainId_quiet PySem.F.plain_extend_loop _,key _ _ ?_ (fun b o hb e=>?_) hS₃⟩
 ·refine W'.frame 0 _ _ st fun b hb o e=>?_
  have hbS:b≠S:=fun h=>hSf (h▸hb)
  exact (Heap.get?_update_other _ _ (Ne.symm hbS)).trans ((Heap.get?_update_other _ _ (Ne.symm hbS)).trans e)
 ·exact (Heap.get?_update_other _ _ (Ne.symm hb)).trans ((Heap.get?_update_other _ _ (Ne.symm hb)).trans (hk b o e))
end
end Mine
namespace Mine
open PySem PySem.W PyProof.Rows PySem.Calls PySem.Builtin
section
variable {prog:Program} {w:World} {A:Around} {E:Value→Shared→Prop} {s:Shared}
theorem yI1 {R:List Value→Shared→Prop} {a:Addr} {es:Array (Int×Value)} {ep:Nat} {t:SetTable} {ks:List Str} (x:SetI w s.heap a es ep t ks) (hsz:es.size≤sizeLine) (hh:A.handled=none)
  (h:∀ h' (tk:Tk) vs ls,(∀ b o,s.heap.get? b=some o→h'.get? b=some o)→StrsAre vs ls→ls.Perm ks→R vs { s with heap:=h',toks:=tk.1,drawn:=tk.2 }) :
  wpAny (model prog w) A (collect (.ref a)) R E s:=by
 have halt:a < s.heap.objs.size:=Heap.lt_size x.at_
 unfold collect
 refine wpAny_bind (wpAny_runValue (codeAny_builtin entry_proto_collect' ?_))
 rw[Around.under_plainId PySem.F.plain_proto_collect _]
 show wpAny _ A.in1 (newList [] >>= fun l=>again (.builtin "list.__iadd__" ⟨[l,.ref a],[]⟩)) _ _ s
 refine wpAny_bind (wpAny_newObj_type ?_)
 refine wpAny_pure ⟨plainId_quiet PySem.F.plain_list_iadd _,codeAny_builtin entry_list_iadd' ?_⟩
 rw[Around.under_plainId PySem.F.plain_list_iadd _]
 have hS₁:(s.heap.push { cls:=.type "list",data:=.seq ([]:List Value).toArray }).get? s.heap.objs.size=some { cls:=.type "list",data:=.seq #[] }:=Heap.get?_push_size _ rfl
 show wpAny _ A.in1 (Builtin.List.listExtendWith (.ref s.heap.objs.size) (.ref a) (.ref s.heap.objs.size)) _ _ _
 have key:=yQ1 (prog:=prog) (A:=A) (s:={ s with heap:=s.heap.push { cls:=.type "list",data:=.seq ([]:List Value).toArray } })
  (R:=fun (q:Result) (s':Shared)=>∃ (h':Heap) (tk:Tk) (acc':Array Value) (c':Nat) (ls:List Str),q=.ok (.ret (.ref s.heap.objs.size))∧s'={ s with heap:=h',toks:=tk.1,drawn:=tk.2 } ∧
   (∀ b o,s.heap.get? b=some o→h'.get? b=some o)∧h'.get? s.heap.objs.size=some { cls:=.type "list",dict:=none,data:=.seq acc' c',slots:=#[] }∧StrsAre acc'.toList ls∧ls.Perm ks)
  (x.at' fun o z=>Heap.get?_push_of_some _ z) hsz hh (Nat.ne_of_gt halt) (.ref s.heap.objs.size) hS₁
  (fun h' tk acc' c' ls hk hS' h1 h2=>⟨h',tk,acc',c',ls,rfl,rfl,fun b o e=>hk b o (Nat.ne_of_lt (Heap.lt_size e)) (Heap.get?_push_of_some _ e),hS',h1,h2⟩)
 refine wpAny_mono key (fun fin s' x=>?_) fun e s' x=>?_
 ·cases fin with
  | done f =>
   obtain ⟨h',tk,acc',c',ls,e,rfl,hk,hS',h1,h2⟩:=x
   cases e
   show wpAny _ A (load s.heap.objs.size >>= _) _ _ _
   refine wpAny_bind (wpAny_load hS' ?_)
   exact wpAny_pure (h h' tk _ ls hk h1 h2)
  | again c₁ =>
   refine ⟨x.1,codeAny_mono x.2 fun q s₂ y=>?_⟩
   obtain ⟨h',tk,acc',c',ls,rfl,rfl,hk,hS',h1,h2⟩:=y
   show wpAny _ A (load s.heap.objs.size >>= _) _ _ _
   refine wpAny_bind (wpAny_load hS' ?_)
   exact wpAny_pure (h h' tk _ ls hk h1 h2)
 ·obtain ⟨_,_,_,_,_,e',_⟩:=x
  cases e'
set_option tactic.hygienic true in
theorem zm0:∀ l:List Str,(zN5 l).Nodup∧∀ x,x∈zN5 l ↔ x∈l
 | []=>⟨List.nodup_nil,fun uu=>.rfl⟩
 | y::l=>by
  obtain ⟨h1,h2⟩:=zm0 l
  unfold zN5
  split
  ·rename_i h
   rw[List.contains_iff_mem] at h
   refine ⟨h1,fun x=>?_⟩
   rw[h2 x,List.mem_cons]
   exact ⟨.inr,fun z=>z.elim (fun e=>e▸h) id⟩
  ·rename_i h
   rw[List.contains_iff_mem] at h
   refine ⟨List.nodup_cons.mpr ⟨fun z=>h ((h2 y).mp z),h1⟩,fun x=>?_⟩
   rw[List.mem_cons,List.mem_cons,h2 x]
theorem yI2 {α:Type} [DecidableEq α] {l r:List α} (h1:l.Nodup) (h2:r.Nodup) (h:∀ x,x∈l ↔ x∈r):l.Perm r:=by
 rw[List.perm_iff_count]
 intro a
 rw[h1.count,h2.count]
 by_cases ha:a∈l
 ·rw[if_pos ha,if_pos ((h a).mp ha)]
 ·rw[if_neg ha,if_neg fun z=>ha ((h a).mpr z)]
theorem z88 (A:Around) (E:Value→Shared→Prop) (s:Shared) (H:PH) (Q:Value→Shared→Prop) (u:Value) (ss:List Str) (l:List D) (k:Nat) (hro:Room A k) (hs:Sub H s.heap) (hu:yE2 w s.heap u ss) (hl:ss.length < 64) (hsort:zF0 zD1 ((zN5 ss).map .str)=some l) (hq:yU5 prog w H s (.ownL l) Q) :
  wpAny (model prog w) A (PySem.call (.builtin "sorted") [u]) Q E s:=by
 obtain ⟨a,es,ep,t,ks,rfl,x,hnd,hmem⟩:=hu
 obtain ⟨d1,d2⟩:=zm0 ss
 have hperm:ks.Perm (zN5 ss):=yI2 hnd d1 fun y=>(hmem y).trans (d2 y).symm
 have hdl:(zN5 ss).length≤ss.length:=by
  have:∀ l:List Str,(zN5 l).length≤l.length:=by
   intro l
   induction l with
   | nil=>exact Nat.le_refl _
   | cons y l ih=>unfold zN5;split<;>simp<;>lia
  exact this ss
 have hks:ks.length < 64:=by rw[hperm.length_eq];lia
 have hes:es.size=ks.length:=by
  obtain ⟨ls,h1,h2⟩:=x.elems
  rw[← Array.length_toList,h1,List.length_map,← h2.length_eq,List.length_map]
 refine call_function_entry kind_sorted plain_sorted entry_sorted (args_sorted1 _) ?_
 unfold Builtin.«sorted»
 refine wpAny_bind (m:=checkCount "sorted" 1 1 _) (wpAny_pure ?_)
 refine wpAny_bind (yI1 (A:=A.in1) x (by rw[hes];unfold sizeLine;lia) hro.hh fun h' tk vs ls hk hS hp1=>?_)
 have hlen:vs.length < 64:=by
  have h1:=hp1.length_eq
  have:∀ {vs:List Value} {ls:List Str},StrsAre vs ls→vs.length=ls.length:=fun h=>by
   induction h with
   | nil=>rfl
   | cons _ _ _ ih=>simp[ih]
  rw[this hS,h1];exact hks
 refine wpAny_bind (wpAny_newList ?_ (by unfold sizeLine;lia))
 refine wpAny_bind (wpAny_holding (zs4 (s:={ s with heap:=h'.push { cls:=.type "list",data:=.seq vs.toArray },toks:=tk.1,drawn:=tk.2 }) (n:=0) (Heap.get?_push_size _ rfl) hS hlen fun h2 vs' ss' c h1 hp hsd hD hk2=>?_))
 refine wpAny_pure ⟨_,rfl,?_⟩
 have hl':=z16 hsort ((hp.trans hp1).trans hperm) hsd
 have fr:s.heap.get? h'.objs.size=none:=by
  cases e:s.heap.get? h'.objs.size with
  | none=>rfl
  | some o=>exact absurd (Heap.lt_size (hk _ _ e)) (Nat.lt_irrefl _)
 have keep:∀ b o,s.heap.get? b=some o→h2.get? b=some o:=fun b o q=>hk2 b o (fun e=>by rw[e,fr] at q;cases q) (Heap.get?_push_of_some _ (hk b o q))
 refine hq _ H h2 tk (Ext.grow hs keep) ⟨_,rfl,fr,zS7 hs fr,vs'.toArray,⟨c,hD⟩,?_⟩
 rw[hl']
 clear hl' hq hD hp hsd hsort hk2 keep
 induction h1 with
 | nil=>exact .nil
 | cons x t _ ih=>exact .cons (.str x t) ih
end
end Mine
namespace Mine
open PySem PySem.W PyProof.Rows PySem.Calls PySem.Builtin
section
variable {prog:Program} {w:World} {A:Around} {E:Value→Shared→Prop} {s:Shared}
theorem yp5 (vs:List Value):(vs.toArray.zip vs.toArray).map (·.2)=vs.toArray:=by
 rw[List.zip_toArray,List.map_toArray,List.map_snd_zip (Nat.le_refl _)]
theorem xP5 {α:Type} {l:List α} (h:l.length=2):∃ a b,l=[a,b]:=by
 cases l with
 | nil=>cases h
 | cons a l=>cases l with
  | nil=>cases h
  | cons b l=>cases l with
   | nil=>exact ⟨a,b,rfl⟩
   | cons c l=>cases h
theorem yp6 {vs:List Value} (h:vs.length=2) (c:Bool) {p:Array Nat} (hp:p=if c=true then #[1,0] else #[0,1]):(p.toList.map fun i=>vs.getD i Value.none)=if 2≤vs.length∧c=true then vs.reverse else vs:=by
 obtain ⟨a,b,rfl⟩:=xP5 h
 rw[hp];cases c<;>rfl
theorem yI3 {a:Addr} {vs:List Value} {n:Nat} {P:PySem.Fin→Shared→Prop} (ho:s.heap.get? a=some (seqObj "list" vs.toArray n)) (hl:vs.length≤2)
  {κ:SortKind} {c:Bool} (hkind:∀ (h':Heap) (Q:SortKind→Shared→Prop),2≤vs.length→(∀ b o,b≠a→s.heap.get? b=some o→h'.get? b=some o)→Q κ { s with heap:=h' }→wpAny (model prog w) A (keyKind' vs.toArray) Q (fun uu uu=>False) { s with heap:=h' })
  (hlt:∀ (h':Heap) (Q:Bool→Shared→Prop),2≤vs.length→(∀ b o,b≠a→s.heap.get? b=some o→h'.get? b=some o)→Q c { s with heap:=h' }→wpAny (model prog w) A (keyLt' κ (vs.getD 1 .none) (vs.getD 0 .none)) Q (fun uu uu=>False) { s with heap:=h' })
  (hq:∀ h' k,(∀ b o,b≠a→s.heap.get? b=some o→h'.get? b=some o)→h'.get? a=some (seqObj "list" (if 2≤vs.length∧c=true then vs.reverse else vs).toArray k)→P (.done (.ret .none)) { s with heap:=h' }) :
  wpAny (model prog w) A (Builtin.«list.sort» ⟨[.ref a],[]⟩) P E s:=by
 have ha:a < s.heap.objs.size:=Heap.lt_size ho
 have s1:=Heap.SameBut.update s.heap a (Obj.mapSeq fun uu=>(#[]:Array Value))
 obtain ⟨e1,ho1⟩:∃ e1,(s.heap.update a (Obj.mapSeq fun uu=>(#[]:Array Value))).get? a=some (seqObj "list" #[] e1):=⟨_,get?_update_seq ho fun uu=>#[]⟩
 have hvs:vs.length≤sizeLine:=by rw[sizeLine_eq];omega
 rw[list_sort_plain]
 refine wpAny_bind (listItems_at ho rfl ?_)
 refine wpAny_bind (listUpdate_at ho rfl ?_ (by rw[List.size_toArray];exact hvs) (Nat.zero_le _))
 refine wpAny_bind (seqEpoch_at ho1 rfl ?_)
 refine wpAny_bind (wpAny_newTuple ?_ hvs)
 refine wpAny_bind (wpAny_newList ?_ (Nat.zero_le _))
 refine wpAny_holding ?_
 have hoh:(((s.heap.update a (Obj.mapSeq fun uu=>(#[]:Array Value))).push (seqObj "tuple" vs.toArray 0)).push (seqObj "list" #[] 0)).get? a=some (seqObj "list" #[] e1) :=
  Heap.get?_push_of_some _ (Heap.get?_push_of_some _ ho1)
 have kp:∀ b o,b≠a→s.heap.get? b=some o→(((s.heap.update a (Obj.mapSeq fun uu=>(#[]:Array Value))).push (seqObj "tuple" vs.toArray 0)).push (seqObj "list" #[] 0)).get? b=some o :=
  fun b o hb q=>Heap.get?_push_of_some _ (Heap.get?_push_of_some _ (by rw[s1.2 b hb];exact q))
 show wpAny (model prog w) A _ P E { s with heap:=((s.heap.update a (Obj.mapSeq fun uu=>(#[]:Array Value))).push (seqObj "tuple" vs.toArray 0)).push (seqObj "list" #[] 0) }
 generalize (((s.heap.update a (Obj.mapSeq fun uu=>(#[]:Array Value))).push (seqObj "tuple" vs.toArray 0)).push (seqObj "list" #[] 0))=h1 at hoh kp ⊢
 dsimp only
 have fin:∀ (st':SortSt) (out:List Value),(arrOf st').map (·.2)=out.toArray→failedOf st'=none→out.length≤2→out=(if 2≤vs.length∧c=true then vs.reverse else vs) →
   wpAny (model prog w) A (do
    let sorted:=(arrOf st').map (·.2)
    let touched:=(← seqEpoch a) != e1
    Builtin.List.listUpdate (.ref a) fun uu=>sorted
    if let some e:=failedOf st' then rule "list.sort.comparison-raised";throw e
    if touched then rule "list.sort.modified";raiseError "ValueError" "list modified during sort"
    ret .none) P E { s with heap:=h1 }:=by
  intro st' out h2 h3 h4 h5
  dsimp only
  rw[h2]
  have s2:=Heap.SameBut.update h1 a (Obj.mapSeq fun uu=>out.toArray)
  obtain ⟨c2,hc2⟩:∃ c2,(h1.update a (Obj.mapSeq fun uu=>out.toArray)).get? a=some (seqObj "list" out.toArray c2):=⟨_,get?_update_seq hoh fun uu=>out.toArray⟩
  refine wpAny_bind (seqEpoch_at hoh rfl ?_)
  refine wpAny_bind (listUpdate_at hoh rfl ?_ (Nat.zero_le _) (by rw[List.size_toArray,sizeLine_eq];omega))
  rw[h3]
  simp only[bne_self_eq_false,Bool.false_eq_true,if_false]
  refine wpAny_pure (hq _ c2 (fun b o hb q=>by rw[s2.2 b hb];exact kp b o hb q) ?_)
  rw[← h5];exact hc2
 by_cases h2:vs.toArray.size < 2
 ·rw[if_pos h2,if_pos h2]
  refine wpAny_bind (wpAny_pure ?_)
  rw[StateT.run_pure]
  refine wpAny_bind (wpAny_pure ?_)
  refine fin _ vs ?_ rfl hl (by rw[List.size_toArray] at h2;rw[if_neg (by omega)])
  exact yp5 vs
 ·rw[if_neg h2,if_neg h2]
  rw[List.size_toArray] at h2
  have hlen:vs.length=2:=by omega
  refine wpAny_bind (wpAny_mono (hkind h1 (fun κ' s'=>κ'=κ∧s'={ s with heap:=h1 }) (by omega) kp ⟨rfl,rfl⟩) (fun κ' s0 hk=>?_) fun uu uu x=>x.elim)
  obtain ⟨rfl,rfl⟩:=hk
  have hask:(kas_sort vs.length).kasWp (kas_ask prog w A κ' vs) (fun p s''=>s''={ s with heap:=h1 }∧p=(if c=true then #[1,0] else #[0,1])) { s with heap:=h1 }:=by
   rw[hlen]
   show kas_ask prog w A κ' vs 1 0 (fun b s'=>_) _
   unfold kas_ask
   refine hlt h1 _ (by omega) kp ?_
   cases c
   ·exact ⟨rfl,rfl⟩
   ·exact ⟨rfl,rfl⟩
  refine wpAny_bind (wpAny_mono (kat_run (Q:=fun st' s'=>s'={ s with heap:=h1 }∧failedOf st'=none∧∃ p:Array Nat,p=(if c=true then #[1,0] else #[0,1])∧arrOf st'=p.map (kas_item (vs.toArray.zip vs.toArray)))
   rfl (by omega) (by omega) (fun p' st' s' a1 a2 a3 a4=>⟨a4.1,a3,p',a4.2,a2⟩) hask) ?_ fun uu uu e=>e)
  rintro ⟨⟨⟩,st'⟩ s' ⟨rfl,hf,p,hp,har⟩
  have hout:=kat_snds rfl har
  refine fin st' _ hout hf (by rw[List.length_map,Array.length_toList,hp];cases c<;>simp) ?_
  exact yp6 hlen c hp
end
end Mine
namespace Mine
open PySem PySem.W PyProof.Rows PySem.Calls PySem.Builtin
section
variable {prog:Program} {w:World} {A:Around} {E:Value→Shared→Prop} {s:Shared} {H:PH}
theorem z22 (h:Heap) (M:Model) (x:Str) (t:Tok):Looks M h (typeOf (.str x t)) (.type "str"):=Looks.of_pure rfl
theorem ye1 {a b:Str}:zf1 a b=!decide (b.cps.toList < a.cps.toList):=by
 unfold zf1
 by_cases h:b.cps.toList < a.cps.toList
 ·rw[decide_eq_true h,decide_eq_false (List.not_le.mpr h)];rfl
 ·rw[decide_eq_false h,decide_eq_true (List.not_lt.mp h)];rfl
theorem xC2 {k0 k1:Str} {v w:D} {l:List D} (h:zF0 zI4 [.tup [.str k0,v],.tup [.str k1,w]]=some l):k0≠k1∧(if zf1 k0 k1=true then [D.tup [.str k0,v],.tup [.str k1,w]] else [.tup [.str k1,w],.tup [.str k0,v]])=l:=by
 refine obk h fun uu uu g=>obk g fun r h2 g1=>obk h2 fun uu uu h3=>?_
 obtain rfl:=Option.some.inj h3
 refine obk g1 fun a ha g2=>obk g2 fun b hb g3=>?_
 obtain rfl:=Option.some.inj ha
 obtain rfl:=Option.some.inj hb
 refine oFk g3 fun hne g4=>⟨hne,?_⟩
 by_cases e:zf1 k0 k1=true
 ·rw[if_pos e] at g4 ⊢;exact Option.some.inj g4
 ·rw[if_neg e] at g4 ⊢;exact Option.some.inj g4
theorem yQ2 {es:List (D×D)} {l:List D} (h:zF0 zI4 (zJ4 es)=some l) (hl:es.length < 2):zJ4 es=l:=by
 cases es with
 | nil=>exact Option.some.inj h
 | cons p es=>cases es with
  | nil=>exact obk h fun uu uu g=>obk g fun r g1 g2=>Option.some.inj ((show zI3 zI4 (.tup [p.1,p.2]) []=some [.tup [p.1,p.2]] from rfl).symm.trans ((congrArg (zI3 zI4 _) (Option.some.inj g1)).trans g2))
  | cons q es=>exact absurd hl (Nat.not_lt_of_le (Nat.le_add_left 2 _))
theorem Twin.two {xs:List (Str×Value)} {es:List (D×D)} {C:List (Str×Value)→List (D×D)→Prop} (tw:Twin prog w H xs es) (h:es.length=2) (k:∀ k0 v0 d0 k1 v1 d1,C [(k0,v0),(k1,v1)] [(.str k0,d0),(.str k1,d1)]):C xs es:=by
 cases tw with
 | nil=>cases h
 | cons _ tw=>cases tw with
  | nil=>cases h
  | cons _ tw=>cases tw with
   | nil=>exact k ..
   | cons _ tw=>cases h
theorem xF4 {x y:Value} {k0 k1:Str}:(if 2≤[x,y].length∧decide (k1.cps.toList < k0.cps.toList)=true then [x,y].reverse else [x,y])=if zf1 k0 k1=true then [x,y] else [y,x]:=by
 rw[ye1]
 cases decide (k1.cps.toList < k0.cps.toList)<;>rfl
theorem RepL.pick {c:Prop} [Decidable c] {x y:Value} {d e:D} (r:RepL prog w H [x,y] [d,e]):RepL prog w H (if c then [x,y] else [y,x]) (if c then [d,e] else [e,d]):=by
 by_cases h:c
 ·rw[if_pos h,if_pos h];exact r
 ·rw[if_neg h,if_neg h];exact r.reverse
noncomputable abbrev ye2 (k x:Value):Obj:={ cls:=.type "tuple",data:=.seq #[k,x] }
theorem yp7 {xs:List (Str×Value)} {h:Heap} {a:Addr} {k0:Str} {v0:Value} {j:Nat} (e:xs[j]?=some (k0,v0)) (g:∃ key k x,xs[j]?=some (k,x)∧(PySem.strKind prog w).is k key=true∧h.get? a=some (ye2 key x)):∃ t,h.get? a=some (ye2 (.str k0 t) v0) :=
 g.elim fun key g=>g.elim fun k g=>g.elim fun x g=>by
  obtain ⟨e1,e2,g⟩:=g
  rw[e] at e1
  obtain ⟨rfl,rfl⟩:=Prod.mk.inj (Option.some.inj e1)
  obtain ⟨t,rfl⟩:=Value.isStrOf_shape (show Value.isStrOf k0 key=true from e2)
  exact ⟨t,g⟩
noncomputable abbrev yp8 (s:Shared) (a:Addr) (h2:Heap):Prop:=∀ b o,b≠a→s.heap.get? b=some o→h2.get? b=some o
theorem xF5 {h:Heap} {M:Model} {k0 k1:Str} {t0 t1:Tok}:∀ v∈[Value.str k0 t0,.str k1 t1],Looks M h (typeOf v) (.type "str"):=List.forall_mem_cons.mpr ⟨z22 _ _ _ _,List.forall_mem_cons.mpr ⟨z22 _ _ _ _,fun uu h=>nomatch h⟩⟩
theorem yp9 {a a0 a1:Addr} {k0 k1:Str} {t0 t1:Tok} {x0 x1:Value} {n:Nat} {P:PySem.Fin→Shared→Prop} (ho:s.heap.get? a=some (seqObj "list" [Value.ref a0,.ref a1].toArray n)) (n0:a0≠a) (n1:a1≠a)
  (g0:s.heap.get? a0=some (ye2 (.str k0 t0) x0)) (g1:s.heap.get? a1=some (ye2 (.str k1 t1) x1)) (hne:k0≠k1)
  (hq:∀ h2 k,yp8 s a h2→h2.get? a=some (seqObj "list" (if zf1 k0 k1=true then [Value.ref a0,.ref a1] else [.ref a1,.ref a0]).toArray k)→P (.done (.ret .none)) { s with heap:=h2 }) :
  wpAny (model prog w) A (Builtin.«list.sort» ⟨[.ref a],[]⟩) P E s :=
 yI3 (vs:=[Value.ref a0,.ref a1]) (κ:=tuples' true) (c:=decide (k1.cps.toList < k0.cps.toList)) ho (Nat.le_refl 2)
  (fun h2 Q' uu hk2 hq'=>kat_kind (fs:=[.str k0 t0,.str k1 t1]) (T:=.type "str") (KatTups.cons (hk2 _ _ n0 g0) rfl rfl rfl (KatTups.cons (hk2 _ _ n1 g1) rfl rfl rfl KatTups.nil)) (Nat.zero_lt_succ 1) xF5 rfl hq')
  (fun h2 Q' uu hk2 hq'=>kat_lt (hk2 _ _ n1 g1) rfl (hk2 _ _ n0 g0) rfl (kat_cons (SeqAt.EqAt.str_str k1 t1 k0 t0 prog w _ _ (by rw[show (k1 == k0)=false from beq_eq_false_iff_ne.mpr fun z=>hne z.symm];exact kat_no (oneLt_str hq')))))
  fun h2 c hk2 hD2=>hq h2 c hk2 (xF4▸hD2)
theorem yq0 {a:Addr} {vs:List Value} {n:Nat} {P:PySem.Fin→Shared→Prop} (ho:s.heap.get? a=some (seqObj "list" vs.toArray n)) (hl:vs.length < 2)
  (hq:∀ h2 k,yp8 s a h2→h2.get? a=some (seqObj "list" vs.toArray k)→P (.done (.ret .none)) { s with heap:=h2 }) :
  wpAny (model prog w) A (Builtin.«list.sort» ⟨[.ref a],[]⟩) P E s :=
 yI3 (κ:=general') (c:=false) ho (Nat.le_of_lt hl) (fun uu uu h=>absurd h (Nat.not_le_of_lt hl)) (fun uu uu h=>absurd h (Nat.not_le_of_lt hl)) fun h2 c hk hD=>hq h2 c hk (by rwa [if_neg fun x=>Bool.false_ne_true x.2] at hD)
noncomputable def xP6 (prog:Program) (w:World) (H2:PH) (P:PySem.Fin→Shared→Prop) (s:Shared) (a:Addr) (l:List D):Prop:=∀ (out:List Value) h2 k,yp8 s a h2→h2.get? a=some (seqObj "list" out.toArray k)→RepL prog w H2 out l→P (.done (.ret .none)) { s with heap:=h2 }
theorem yQ3 {H2:PH} {a:Addr} {as:List Addr} {xs:List (Str×Value)} {es:List (D×D)} {l:List D} {n:Nat} {P:PySem.Fin→Shared→Prop} (hl:es.length≤2) (hsort:zF0 zI4 (zJ4 es)=some l) (tw:Twin prog w H xs es) (hal:as.length=xs.length)
  (hp:∀ (j:Nat) (a:Addr),as[j]?=some a→∃ key k x,xs[j]?=some (k,x)∧(PySem.strKind prog w).is k key=true∧s.heap.get? a=some (ye2 key x)) (hn:∀ b∈as,b≠a) (rl:RepL prog w H2 (as.map Value.ref) (zJ4 es))
  (ho:s.heap.get? a=some (seqObj "list" (as.map Value.ref).toArray n)) (hq:xP6 prog w H2 P s a l):wpAny (model prog w) A (Builtin.«list.sort» ⟨[.ref a],[]⟩) P E s:=by
 rcases Nat.lt_or_ge es.length 2 with h | h
 ·exact yq0 ho (by rw[List.length_map,hal,tw.length];exact h) fun h2 k hk hD=>hq _ h2 k hk hD (yQ2 hsort h▸rl)
 ·refine xe (xP5 ((hal.trans tw.length).trans (Nat.le_antisymm hl h))) fun a0 Y0=>?_;refine xe Y0 fun a1 e=>?_;try clear Y0
  rw[e] at hp hn rl ho
  clear hal e
  refine tw.two (C:=fun xs es=>(∀ (j:Nat) (a:Addr),[a0,a1][j]?=some a→∃ key k x,xs[j]?=some (k,x)∧(PySem.strKind prog w).is k key=true∧s.heap.get? a=some (ye2 key x))→zF0 zI4 (zJ4 es)=some l→RepL prog w H2 ([a0,a1].map Value.ref) (zJ4 es)→wpAny (model prog w) A (Builtin.«list.sort» ⟨[.ref a],[]⟩) P E s)
   (Nat.le_antisymm hl h) (fun k0 v0 d0 k1 v1 d1 hp hsort rl=>?_) hp hsort rl
  exact (yp7 rfl (hp 0 a0 rfl)).elim fun t0 g0=>(yp7 rfl (hp 1 a1 rfl)).elim fun t1 g1=>yp9 ho (hn _ (.head _)) (hn _ (.tail _ (.head _))) g0 g1 (xC2 hsort).1 fun h2 k hk hD=>hq _ h2 k hk hD ((xC2 hsort).2▸rl.pick)
theorem zs9 (A:Around) (E:Value→Shared→Prop) (s:Shared) (H:PH) (Q:Value→Shared→Prop) (r d:Addr) (es:List (D×D)) (l:List D) (k:Nat) (hro:Room A k) (hs:Sub H s.heap) (hv:s.heap.IsItemsView r d) (rr:Rep prog w H (.ref d) (.dict es)) (hl:es.length≤2) (hsort:zF0 zI4 (zJ4 es)=some l) (hq:zL4 prog w H s (.ownL l) Q) :
  wpAny (model prog w) A (PySem.call (.builtin "sorted") [.ref r]) Q E s:=by
 refine xe (zY3 (es:=es) (fun p hp=>(zY2 hsort (.tup [p.1,p.2]) (List.mem_map.mpr ⟨p,hp,rfl⟩)).elim fun s hs=>⟨s,yl4 hs⟩) ⟨#[]⟩) fun o hlk=>?_
 refine xe ((rr.dictAt hs).dictOf hlk) fun xs Y0=>?_;refine xe Y0 fun n Y1=>?_;have hD:=Y1.1;have tw:=Y1.2;try clear Y0 Y1
 have hxl:=tw.length
 refine call_function_entry kind_sorted plain_sorted entry_sorted (args_sorted1 _) ?_
 unfold Builtin.«sorted»
 refine wpAny_bind (m:=checkCount "sorted" 1 1 _) (wpAny_pure ?_)
 refine wpAny_bind (kdx_collect (A:=A.in1) (knd:=PySem.strKind prog w) hro.hh hv hD (by rw[hxl];exact Nat.le_trans hl (by unfold sizeLine;decide)) fun h' tk as hk hal hG=>?_)
 have e:=yH0 hs hk fun a ha=>zN0 (Nat.le_of_lt (hG.above a ha))
 refine wpAny_bind (wpAny_newList ?_ (by rw[List.length_map,hal,hxl];exact Nat.le_trans hl (by unfold sizeLine;decide)))
 have hB:(h'.push { cls:=.type "list",data:=.seq (as.map Value.ref).toArray }).get? h'.objs.size=some (seqObj "list" (as.map Value.ref).toArray 0):=Heap.get?_push_size _ rfl
 have old:∀ b o,h'.get? b=some o→b≠h'.objs.size:=fun b o q=>Nat.ne_of_lt (Heap.lt_size q)
 have kB:∀ b o,h'.get? b=some o→(h'.push { cls:=.type "list",data:=.seq (as.map Value.ref).toArray }).get? b=some o:=fun b o q=>Heap.get?_push_of_some _ q
 have fr:s.heap.get? h'.objs.size=none:=Option.eq_none_iff_forall_ne_some.mpr fun o q=>Nat.lt_irrefl _ (Heap.lt_size (hk _ _ q))
 have hHB:zm5 H h' as h'.objs.size=none:=by
  unfold zm5
  by_cases hm:h'.objs.size∈as
  ·rw[if_pos hm];exact Heap.get?_none_of_le (Nat.le_refl _)
  ·rw[if_neg hm];exact zS7 hs fr
 refine wpAny_bind (wpAny_holding (wpAny_call_entry PyProof.Rows.slot_list_sort ⟨_,hB,rfl⟩ PyProof.Rows.entry_list_sort ?body (PyProof.Rows.args_list_sort _)))
 exact yQ3 (H2:=zm5 H h' as) (a:=h'.objs.size) hl hsort tw hal (fun j a h=>(hG.pairs j a h).elim fun key g=>g.elim fun k g=>g.elim fun x g=>⟨key,k,x,g.1,g.2.1,kB _ _ g.2.2⟩) (fun b hb=>Nat.ne_of_lt (hG.there hb)) (z14 tw hal hG e.ext) hB fun out h2 c hk2 hD2 ro =>
  have k2:∀ b o,h'.get? b=some o→h2.get? b=some o:=fun b o q=>hk2 b o (old b o q) (kB b o q)
  ⟨.none,rfl,wpAny_pure ⟨_,rfl,hq _ (zm5 H h' as) h2 tk ⟨e.ext,e.new,fun b o q=>k2 b o (hk b o q),fun a o q=>k2 a o (e.sub a o q)⟩ ⟨_,rfl,fr,hHB,out.toArray,⟨c,hD2⟩,by simpa using ro⟩⟩⟩
theorem yI4 (prog:Program) (w:World):Hard prog w:=⟨yH3,yd8,yP7,z88,zs9,zs3⟩
end
end Mine
namespace Mine
open PySem
noncomputable def Ok (c:Nat) (f:Addr) (args:List Ent) (r:Ret):Prop:=run G c f args=some r
noncomputable def wp (c:Nat) {α:Type} (t:Prc α) (Q:α→Prop):Prop:=∃ a,zA1 (run G c) t=some a∧Q a
theorem zC8 {c:Nat} {α:Type} {a:α} {Q:α→Prop} (h:Q a):wp c (.pure a) Q:=⟨a,rfl,h⟩
theorem zD3 {c:Nat} {α β:Type} {p:Prc α} {f:α→Prc β} {Q:β→Prop} (h:wp c p fun a=>wp c (f a) Q):wp c (p.bind f) Q :=
 h.elim fun a g=>g.2.elim fun b k=>⟨b,(zQ2 ..).trans (Option.bind_eq_some_iff.mpr ⟨a,g.1,k.1⟩),k.2⟩
theorem zC6 {c:Nat} {α:Type} {p:Prc α} {Q Q':α→Prop} (h:wp c p Q) (hq:∀ a,Q a→Q' a):wp c p Q':=h.elim fun a g=>⟨a,g.1,hq a g.2⟩
theorem z89 {c:Nat} {α:Type} {b:Bool} {p:Prc α} {Q:α→Prop} (hb:b=true) (h:wp c p Q):wp c (.need b p) Q:=by subst hb;exact h
theorem y16 {c:Nat} {α:Type} {f:Addr} {args:List Ent} {k:Ret→Prc α} {r:Ret} {Q:α→Prop} (h:Ok c f args r) (hk:wp c (k r) Q):wp c (.call f args k) Q :=
 hk.elim fun a g=>⟨a,Option.bind_eq_some_iff.mpr ⟨r,h,g.1⟩,g.2⟩
theorem zV6 {α β:Type} {o:Option α} {f:α→Option β} {z:β} (h:o.bind f=some z):∃ x,o=some x∧f x=some z:=Option.bind_eq_some_iff.mp h
theorem zG2 {α β:Type} {o:Option α} {f:α→Option β} {z:β} {x:α} (h:o=some x) (g:f x=some z):o.bind f=some z:=Option.bind_eq_some_iff.mpr ⟨x,h,g⟩
theorem zm1 {call call':zB3} (h:∀ f args r,call f args=some r→call' f args=some r) {α:Type} (t:Prc α):∀ (a:α),zA1 call t=some a→zA1 call' t=some a:=by
 induction t with
 | pure a=>exact fun b e=>e
 | fail=>exact fun b e=>nomatch (show none=some b from e)
 | call f args k ih=>exact fun b e=>(zV6 e).elim fun r g=>zG2 (h _ _ _ g.1) (ih r b g.2)
 | need c k ih=>cases c with
  | true=>exact ih
  | false=>exact fun b e=>nomatch (show none=some b from e)
 | getD o k ih=>exact fun b e=>(zV6 e).elim fun r g=>zG2 g.1 (ih r b g.2)
 | getB o k ih=>exact fun b e=>(zV6 e).elim fun r g=>zG2 g.1 (ih r b g.2)
 | getE o k ih=>exact fun b e=>(zV6 e).elim fun r g=>zG2 g.1 (ih r b g.2)
theorem yq1 (c:Nat):∀ (f:Addr) (args:List Ent) (r:Ret),run G c f args=some r→run G (c+1) f args=some r:=by
 induction c with
 | zero=>exact fun f args r h=>nomatch (show none=some r from h)
 | succ c ih=>exact fun f args r h=>(zV6 h).elim fun F g=>zG2 g.1 (zm1 ih _ _ g.2)
theorem Ok.up {c c':Nat} {f:Addr} {args:List Ent} {r:Ret} (h:Ok c f args r) (hc:c≤c'):Ok c' f args r:=by
 induction hc with
 | refl=>exact h
 | step _ ih=>exact yq1 _ _ _ _ ih
theorem xe3 {c c':Nat} {α:Type} {t:Prc α} {Q:α→Prop} (h:wp c t Q) (hc:c≤c'):wp c' t Q:=by
 refine xe h fun a Y0=>?_;have h1:=Y0.1;have h2:=Y0.2;try clear h;try clear Y0
 exact ⟨a,zm1 (fun f args r e=>Ok.up (c:=c) e hc) _ _ h1,h2⟩
inductive Ans where
 | call (r:Ret) | d (d:D) | b (b:Bool) | e (es:List (D×D))
noncomputable def yq2:List Ans→(Ret→List Ans→Prop)→Prop
 | [],_=>False
 | a::as,F=>match a with
  | .call r=>F r as
  | _=>False
noncomputable def onD:List Ans→(D→List Ans→Prop)→Prop→Prop
 | [],_,z=>z
 | a::as,F,z=>match a with
  | .d d=>F d as
  | _=>z
noncomputable def onB:List Ans→(Bool→List Ans→Prop)→Prop→Prop
 | [],_,z=>z
 | a::as,F,z=>match a with
  | .b d=>F d as
  | _=>z
noncomputable def onE:List Ans→(List (D×D)→List Ans→Prop)→Prop→Prop
 | [],_,z=>z
 | a::as,F,z=>match a with
  | .e d=>F d as
  | _=>z
noncomputable def zS0 {α:Type} (o:Option α) (F:α→Prop):Prop:=match o with
 | some d=>F d
 | none=>False
noncomputable def zA8 (c:Nat) {α:Type}:Prc α→List Ans→Bool→(α→Prop)→Prop
 | .pure a,_,ac,Q=>ac=true∧Q a
 | .fail,_,_,_=>False
 | .call f args k,as,ac,Q=>yq2 as fun r as=>Ok c f args r∧zA8 c (k r) as ac Q
 | .need b k,as,ac,Q=>zA8 c k as (b&&ac) Q
 | .getD o k,as,ac,Q=>onD as (fun d as=>o=some d∧zA8 c (k d) as ac Q) (zS0 o fun d=>zA8 c (k d) as ac Q)
 | .getB o k,as,ac,Q=>onB as (fun d as=>o=some d∧zA8 c (k d) as ac Q) (zS0 o fun d=>zA8 c (k d) as ac Q)
 | .getE o k,as,ac,Q=>onE as (fun d as=>o=some d∧zA8 c (k d) as ac Q) (zS0 o fun d=>zA8 c (k d) as ac Q)
theorem ye3 {as:List Ans} {F:Ret→List Ans→Prop} (h:yq2 as F):∃ r as',F r as':=by
 cases as with
 | nil=>exact h.elim
 | cons a as=>cases a with
  | call r=>exact ⟨r,as,h⟩
  | _=>exact False.elim h
theorem zi8 {α:Type} {o:Option α} {F:α→Prop} (h:zS0 o F):∃ d,o=some d∧F d:=by
 cases o with
 | none=>exact False.elim h
 | some d=>exact ⟨d,rfl,h⟩
section
variable {α β:Type} {c:Nat} {o:Option β} {k:β→Prc α} {ac:Bool} {Q:α→Prop} {G':β→List Ans→Prop}
noncomputable def OnP (c:Nat) (o:Option β) (k:β→Prc α) (ac:Bool) (Q:α→Prop):Prop:=∃ d,o=some d∧ac=true∧wp c (k d) Q
theorem xF6 {o:Option D} {k:D→Prc α} {as:List Ans} (ih:∀ d as,zA8 c (k d) as ac Q→ac=true∧wp c (k d) Q) (h:onD as (fun d as=>o=some d∧zA8 c (k d) as ac Q) (zS0 o fun d=>zA8 c (k d) as ac Q)):OnP c o k ac Q:=by
 have z:(zS0 o fun d=>zA8 c (k d) as ac Q)→OnP c o k ac Q:=fun h=>(zi8 h).elim fun d g=>⟨d,g.1,ih d _ g.2⟩
 cases as with
 | nil=>exact z h
 | cons a as=>cases a with
  | d d=>exact ⟨d,h.1,ih d _ h.2⟩
  | _=>exact z h
theorem xF7 {o:Option Bool} {k:Bool→Prc α} {as:List Ans} (ih:∀ d as,zA8 c (k d) as ac Q→ac=true∧wp c (k d) Q) (h:onB as (fun d as=>o=some d∧zA8 c (k d) as ac Q) (zS0 o fun d=>zA8 c (k d) as ac Q)):OnP c o k ac Q:=by
 have z:(zS0 o fun d=>zA8 c (k d) as ac Q)→OnP c o k ac Q:=fun h=>(zi8 h).elim fun d g=>⟨d,g.1,ih d _ g.2⟩
 cases as with
 | nil=>exact z h
 | cons a as=>cases a with
  | b d=>exact ⟨d,h.1,ih d _ h.2⟩
  | _=>exact z h
theorem xF8 {o:Option (List (D×D))} {k:List (D×D)→Prc α} {as:List Ans} (ih:∀ d as,zA8 c (k d) as ac Q→ac=true∧wp c (k d) Q) (h:onE as (fun d as=>o=some d∧zA8 c (k d) as ac Q) (zS0 o fun d=>zA8 c (k d) as ac Q)):OnP c o k ac Q:=by
 have z:(zS0 o fun d=>zA8 c (k d) as ac Q)→OnP c o k ac Q:=fun h=>(zi8 h).elim fun d g=>⟨d,g.1,ih d _ g.2⟩
 cases as with
 | nil=>exact z h
 | cons a as=>cases a with
  | e d=>exact ⟨d,h.1,ih d _ h.2⟩
  | _=>exact z h
theorem OnP.fin {t:Prc α} (h:OnP c o k ac Q) (e:∀ call,zA1 call t=o.bind fun r=>zA1 call (k r)):ac=true∧wp c t Q :=
 h.elim fun d g=>⟨g.2.1,g.2.2.elim fun a z=>⟨a,(e _).trans (zG2 g.1 z.1),z.2⟩⟩
end
theorem y17 {c:Nat} {α:Type} (t:Prc α):∀ (as:List Ans) (ac:Bool) (Q:α→Prop),zA8 c t as ac Q→ac=true∧wp c t Q:=by
 induction t with
 | pure a=>exact fun as ac Q h=>⟨h.1,zC8 h.2⟩
 | fail=>exact fun as ac Q h=>False.elim h
 | call f args k ih=>exact fun as ac Q h=>(ye3 h).elim fun r g=>g.elim fun as' g=>⟨(ih r as' ac Q g.2).1,y16 g.1 (ih r as' ac Q g.2).2⟩
 | need b k ih=>exact fun as ac Q h =>
   have g:=ih _ _ _ h
   have e:=Bool.and_eq_true_iff.mp g.1
   ⟨e.2,z89 e.1 g.2⟩
 | getD o k ih=>exact fun as ac Q h=>(xF6 (fun d as=>ih d as ac Q) h).fin fun uu=>rfl
 | getB o k ih=>exact fun as ac Q h=>(xF7 (fun d as=>ih d as ac Q) h).fin fun uu=>rfl
 | getE o k ih=>exact fun as ac Q h=>(xF8 (fun d as=>ih d as ac Q) h).fin fun uu=>rfl
theorem y18 {c:Nat} {α:Type} {t:Prc α} {as:List Ans} {Q:α→Prop} (h:zA8 c t as true Q):wp c t Q:=(y17 t as true Q h).2
theorem zA9 {c:Nat} {α:Type} {t:Prc α} {as:List Ans} {Q:α→Prop} {P:Prop} (e:zA8 c t as true Q=P) (h:P):wp c t Q:=y18 (e▸h)
noncomputable def zA5 (f:Addr):Fn:=(G.fn f).getD ⟨[],[],⟨.function,[],false,false,[]⟩⟩
theorem zW8 {c:Nat} {f:Addr} {args:List Ent} {r:Ret} (hf:G.fn f=some (zA5 f)) (h:wp c (zC7 G (zA5 f) args) (·=r)):Ok (c+1) f args r:=h.elim fun a g=>zG2 hf (g.1.trans (congrArg some g.2))
noncomputable abbrev S (x:String):D:=.str (Str.ofString x)
inductive T where
 | a | b | c | f (t:T) | g (t u:T)
noncomputable def enc:T→D
 | .a=>.tup [S "a"]
 | .b=>.tup [S "b"]
 | .c=>.tup [S "c"]
 | .f t=>.tup [S "f",enc t]
 | .g t u=>.tup [S "g",enc t,enc u]
noncomputable def zF2 (p:List Nat):D:=.tup (p.map fun k=>.int (k:Nat))
noncomputable def T.kid (t:T) (k:Nat):Option T:=match t with
 | .f x=>match k with
  | 0=>some x
  | _+1=>none
 | .g x y=>match k with
  | 0=>some x
  | k+1=>match k with
   | 0=>some y
   | _+1=>none
 | _=>none
noncomputable def T.put (t:T) (k:Nat) (F:T→T):T:=match t with
 | .f x=>match k with
  | 0=>.f (F x)
  | _+1=>.f x
 | .g x y=>match k with
  | 0=>.g (F x) y
  | k+1=>match k with
   | 0=>.g x (F y)
   | _+1=>.g x y
 | t=>t
noncomputable def sub:T→List Nat→Option T
 | t,[]=>some t
 | t,k::p=>(t.kid k).bind fun u=>sub u p
noncomputable def rep:T→List Nat→T→T
 | _,[],v=>v
 | t,k::p,v=>t.put k fun u=>rep u p v
theorem zJ2 (t:T):sub t []=some t:=rfl
theorem zN3 {h s:T} {k:Nat} {p:List Nat} {C:T→Nat→Prop} (e:sub h (k::p)=some s) (f:∀ x,sub x p=some s→C (.f x) 0) (g0:∀ x y,sub x p=some s→C (.g x y) 0) (g1:∀ x y,sub y p=some s→C (.g x y) 1):C h k:=by
 cases h with
 | f x=>cases k with
  | zero=>exact f x e
  | succ k=>exact nomatch (show none=some s from e)
 | g x y=>cases k with
  | zero=>exact g0 x y e
  | succ k=>cases k with
   | zero=>exact g1 x y e
   | succ k=>exact nomatch (show none=some s from e)
 | _=>exact nomatch (show none=some s from e)
end Mine
namespace Mine
open PySem
noncomputable abbrev rv (d e:D):Ret:=(.val d,some (.val e))
noncomputable def nd:List Bool→Bool
 | []=>true
 | b::bs=>b&&nd bs
noncomputable def stmts (f:Addr):List Stmt:=(zA5 f).body
noncomputable def zA7:Stmt→List Stmt
 | .For _ _ b _ _=>b
 | .While _ b _ _=>b
 | _=>[]
noncomputable def ex (f:Addr):Rho→Stmt→Prc (Fl×Rho):=zK1 G (evs G 40) 40 (zA5 f).scope
theorem zB7 {α:Type} {l:List α} (h:l.length≤8000000):zA0 l=true:=Nat.ble_eq_true_of_le h
theorem zi9 {l:List Bool} (h:∀ b∈l,b=true):nd l=true:=by
 induction l with
 | nil=>rfl
 | cons b l ih=>unfold nd;rw[h b (by simp),ih fun b hb=>h b (by simp[hb])];rfl
theorem zE9 {d:D} {l:List D}:zC3 (d::l) 0=some d:=by
 unfold zC3 idx
 rw[if_pos (by lia),if_pos (by simp only[List.length_cons];lia)]
 rfl
theorem zB0 {c:Nat} {f:Addr} {args:List Ent} {r:Ret} {as:List Ans} {P:Prop} (hf:G.fn f=some (zA5 f)) (e:zA8 c (zC7 G (zA5 f) args) as true (·=r)=P) (h:P):Ok (c+1) f args r:=zW8 hf (zA9 e h)
theorem xP7 (p:List Nat):(p.map fun k=>D.int (k:Nat)).length=p.length:=by simp
theorem yq3 (c:Nat) (t v:D) (Q:Ret→Prop):zA8 c (zC7 G (zA5 392) [.val t,.val (.tup []),.val v]) [] true Q=(true=true∧Q (rv v t)):=by kernel_rfl
theorem xF9 (c:Nat) (t v x:D) (p:List D) (Q:Ret→Prop):zA8 c (zC7 G (zA5 392) [.val (.tup [S "f",t]),.val (.tup (.int 0::p)),.val v]) [.d (.int 0),.call (rv x t)] true Q =
 (zC3 (.int 0::p) 0=some (.int 0)∧Ok c 392 [.val t,.val (.tup p),.val v] (rv x t)∧nd [zA0 (D.int 0::p),zA0 (D.int 0::p)]=true∧Q (rv (.tup [S "f",x]) (.tup [S "f",t]))):=by kernel_rfl
theorem y19 (c:Nat) (t u v x:D) (p:List D) (Q:Ret→Prop):zA8 c (zC7 G (zA5 392) [.val (.tup [S "g",t,u]),.val (.tup (.int 0::p)),.val v]) [.d (.int 0),.call (rv x t)] true Q =
 (zC3 (.int 0::p) 0=some (.int 0)∧Ok c 392 [.val t,.val (.tup p),.val v] (rv x t)∧nd [zA0 (D.int 0::p),zA0 (D.int 0::p)]=true∧Q (rv (.tup [S "g",x,u]) (.tup [S "g",t,u]))):=by kernel_rfl
theorem y20 (c:Nat) (t u v x:D) (p:List D) (Q:Ret→Prop):zA8 c (zC7 G (zA5 392) [.val (.tup [S "g",t,u]),.val (.tup (.int 1::p)),.val v]) [.d (.int 1),.call (rv x u)] true Q =
 (zC3 (.int 1::p) 0=some (.int 1)∧Ok c 392 [.val u,.val (.tup p),.val v] (rv x u)∧nd [zA0 (D.int 1::p),zA0 (D.int 1::p)]=true∧Q (rv (.tup [S "g",t,x]) (.tup [S "g",t,u]))):=by kernel_rfl
theorem z90:G.fn 392=some (zA5 392):=by kernel_rfl
theorem yQ4 (k:Nat) (p:List Nat) (h:p.length+1≤8000000):zA0 (D.int (k:Nat)::(p.map fun k=>D.int (k:Nat)))=true:=zB7 (by simpa using h)
theorem zj0 {k:Nat} {p:List Nat} {c:Nat} (h:p.length < c) (hm:c≤1000):zA0 (D.int (k:Nat)::(p.map fun k=>D.int (k:Nat)))=true:=yQ4 k p (Nat.le_trans h (Nat.le_trans hm (by decide)))
theorem yq4 {a:Bool} (h:a=true):nd [a,a]=true:=zi9 (List.forall_mem_cons.mpr ⟨h,List.forall_mem_singleton.mpr h⟩)
theorem z91 (p:List Nat):∀ (t v u:T) (c:Nat),sub t p=some u→p.length < c→c≤1000→Ok c 392 [.val (enc t),.val (zF2 p),.val (enc v)] (rv (enc (rep t p v)) (enc t)):=by
 induction p with
 | nil =>
  intro t v u c h hc hm
  cases c with
  | zero=>exact absurd hc (Nat.not_lt_zero _)
  | succ c=>exact zB0 z90 (yq3 c (enc t) (enc v) _) ⟨rfl,rfl⟩
 | cons k p ih =>
  intro t v u c h hc hm
  cases c with
  | zero=>exact absurd hc (Nat.not_lt_zero _)
  | succ c =>
   have hc:=Nat.lt_of_succ_lt_succ hc
   have hm:=Nat.le_of_succ_le hm
   exact zN3 (C:=fun t k=>Ok (c+1) 392 [.val (enc t),.val (zF2 (k::p)),.val (enc v)] (rv (enc (rep t (k::p) v)) (enc t))) h
    (fun x h=>zB0 z90 (xF9 c (enc x) (enc v) (enc (rep x p v)) (p.map fun k=>D.int (k:Nat)) _) ⟨zE9,ih x v u c h hc hm,yq4 (zj0 hc hm),rfl⟩)
    (fun x y h=>zB0 z90 (y19 c (enc x) (enc y) (enc v) (enc (rep x p v)) (p.map fun k=>D.int (k:Nat)) _) ⟨zE9,ih x v u c h hc hm,yq4 (zj0 hc hm),rfl⟩)
    (fun x y h=>zB0 z90 (y20 c (enc x) (enc y) (enc v) (enc (rep y p v)) (p.map fun k=>D.int (k:Nat)) _) ⟨zE9,ih y v u c h hc hm,yq4 (zj0 hc hm),rfl⟩)
end Mine
namespace Mine
open PySem
section
variable {c:Nat}
theorem zG5 {asg:D→Rho→Option Rho} {body:Rho→Prc (Fl×Rho)} {d:D} {ds:List D} {ρ ρ1:Rho} {Q:Fl×Rho→Prop} (ha:asg d ρ=some ρ1) (h:wp c (body ρ1) fun x=>x.1=.next∧wp c (zc8 asg body ds x.2) Q):wp c (zc8 asg body (d::ds) ρ) Q:=by
 refine zD3 ?_
 rw[ha]
 refine zC8 (zD3 (zC6 h fun x hx=>?_))
 rw[hx.1]
 exact hx.2
theorem zg5 {asg:D→Rho→Option Rho} {body:Rho→Prc (Fl×Rho)} {Inv:Nat→Rho→Prop} (items:List D):∀ (i:Nat) (ρ:Rho),Inv i ρ →
  (∀ j d ρ,items[j]?=some d→Inv (i+j) ρ→∃ ρ1,asg d ρ=some ρ1∧wp c (body ρ1) fun p=>p.1=.next∧Inv (i+j+1) p.2) →
  wp c (zc8 asg body items ρ) fun p=>p.1=.next∧Inv (i+items.length) p.2:=by
 induction items with
 | nil=>exact fun i ρ h uu=>zC8 ⟨rfl,h⟩
 | cons d items ih =>
  intro i ρ h step
  refine (step 0 d ρ rfl h).elim fun ρ1 g=>zG5 g.1 (zC6 g.2 fun p hp=>⟨hp.1,?_⟩)
  have z:=ih (i+1) p.2 hp.2 fun j d' ρ' hj hinv=>by
   rw[Nat.add_right_comm i 1 j] at hinv ⊢
   exact step (j+1) d' ρ' hj hinv
  rw[Nat.add_right_comm i 1 items.length] at z
  exact z
theorem z23 {test:Rho→Prc (Bool×Rho)} {body:Rho→Prc (Fl×Rho)} {Inv:Nat→Rho→Prop} {Q:Fl×Rho→Prop} (step:∀ n ρ,Inv n ρ→wp c (test ρ) fun b=>if b.1=true then wp c (body b.2) fun p=>p.1=.next∧∃ m,m < n∧Inv m p.2 else Q (.next,b.2)) (fuel:Nat) :
  ∀ (n:Nat) (ρ:Rho),n < fuel→Inv n ρ→wp c (zh6 test body fuel ρ) Q:=by
 induction fuel with
 | zero=>exact fun n ρ h uu=>absurd h (Nat.not_lt_zero _)
 | succ fuel ih =>
  intro n ρ h hi
  refine zD3 (zC6 (step n ρ hi) fun b hb=>?_)
  by_cases hbt:b.1=true
  ·rw[if_pos hbt] at hb ⊢
   refine zD3 (zC6 hb fun p hp=>?_)
   rw[hp.1]
   exact hp.2.elim fun m g=>ih m p.2 (Nat.lt_of_lt_of_le g.1 (Nat.le_of_lt_succ h)) g.2
  ·rw[if_neg hbt] at hb ⊢
   exact zC8 hb
theorem xG0 {α β:Type} {f:α→Prc β} {g:α→β} (l:List α):(∀ a∈l,wp c (f a) (·=g a))→wp c (zM0 f l) (·=l.map g):=by
 induction l with
 | nil=>exact fun uu=>zC8 rfl
 | cons a l ih=>exact fun h=>zD3 (zC6 (h a (.head _)) fun b hb=>zD3 (zC6 (ih fun a' ha=>h a' (.tail _ ha)) fun bs hbs=>zC8 (by rw[hb,hbs];rfl)))
set_option tactic.hygienic true in
theorem yQ5 {exs:Rho→Stmt→Prc (Fl×Rho)} {s:Stmt} {ss:List Stmt} {ρ:Rho} {Q:Fl×Rho→Prop} (h:wp c (exs ρ s) fun p=>(p.1=.next→wp c (zB2 exs ss p.2) Q)∧∀ r,p.1=.ret r→Q (.ret r,p.2)):wp c (zB2 exs (s::ss) ρ) Q:=by
 refine zD3 (zC6 h fun p hp=>?_)
 obtain ⟨p1,p2⟩:=p
 cases p1 with
 | next=>exact hp.1 rfl
 | ret r=>exact zC8 (hp.2 r rfl)
theorem zC2 {exs:Rho→Stmt→Prc (Fl×Rho)} {s:Stmt} {ss:List Stmt} {ρ:Rho} {Q:Fl×Rho→Prop} (h:wp c (exs ρ s) fun p=>p.1=.next∧wp c (zB2 exs ss p.2) Q):wp c (zB2 exs (s::ss) ρ) Q :=
 yQ5 (zC6 h fun p hp=>⟨fun uu=>hp.2,fun r hr=>nomatch hp.1.symm.trans hr⟩)
theorem zH9 {f:Addr} {args:List Ent} {Q:Ret→Prop} (hl:(zA5 f).params.length=args.length)
  (h:wp c (zB2 (ex f) (stmts f) ((zA5 f).params.zip args)) fun p=>z44 args ((zA5 f).params.head?.bind fun x=>p.2.lookup x)=true∧Q ((match p.1 with | .next=>.val .none | .ret r=>r),(zA5 f).params.head?.bind fun x=>p.2.lookup x)):wp c (zC7 G (zA5 f) args) Q:=by
 unfold zC7
 rw[if_pos hl]
 refine zD3 (zC6 h fun p hp=>?_)
 rw[if_pos hp.1]
 exact zC8 hp.2
theorem zN9 {n:Nat} {E:Evs} {sc:Scope} {ρ:Rho} {t i:Expr} {b:List Stmt} {p:Pos} {Q:Fl×Rho→Prop} (h:wp c (zC0 G (E.e sc) sc (zE7 t) ρ i) fun q=>wp c (zc8 (zB9 sc t) (fun ρ'=>zB2 (zK1 G E n sc) b ρ') q.1 q.2) Q) :
  wp c (zK1 G E (n+1) sc ρ (.For t i b [] p)) Q:=zD3 h
theorem yI5 {n:Nat} {E:Evs} {sc:Scope} {ρ:Rho} {t:Expr} {b:List Stmt} {p:Pos} {Q:Fl×Rho→Prop} (h:wp c (zh6 (fun ρ'=>E.t sc ρ' t) (fun ρ'=>zB2 (zK1 G E n sc) b ρ') zd0 ρ) Q) :
  wp c (zK1 G E (n+1) sc ρ (.While t b [] p)) Q:=h
end
noncomputable def zC1:Stmt→Expr
 | .For t _ _ _ _=>t
 | _=>default
noncomputable def zD4:Stmt→Expr
 | .For _ i _ _ _=>i
 | .While t _ _ _=>t
 | _=>default
noncomputable def zL8:Stmt→Pos
 | .For _ _ _ _ p=>p
 | .While _ _ _ p=>p
 | _=>default
noncomputable def st (f:Addr) (i:Nat):Stmt:=((stmts f)[i]?).getD (.Pass default)
noncomputable def ex' (f:Addr):Rho→Stmt→Prc (Fl×Rho):=zK1 G (evs G 40) 39 (zA5 f).scope
end Mine
namespace Mine
open PySem
noncomputable abbrev nm (x:String) (e:Ent):Str×Ent:=(Str.ofString x,e)
theorem ye4:stmts 124=[.For (zC1 (st 124 0)) (zD4 (st 124 0)) (zA7 (st 124 0)) [] (zL8 (st 124 0)),st 124 1]:=by kernel_rfl
theorem y21 (c:Nat) (x:Ent) (p:List D) (Q:List D×Rho→Prop):zA8 c (zC0 G ((evs G 40).e (zA5 124).scope) (zA5 124).scope (zE7 (zC1 (st 124 0))) [nm "t" x,nm "path" (.val (.tup p))] (zD4 (st 124 0))) [] true Q=(nd [zA0 p]=true∧Q (p,[nm "t" x,nm "path" (.val (.tup p))])):=by kernel_rfl
theorem y22 (x y:Ent) (k:Int):zB9 (zA5 124).scope (zC1 (st 124 0)) (.int k) [nm "t" x,nm "path" y]=some [nm "t" x,nm "path" y,nm "k" (.val (.int k))]:=by kernel_rfl
theorem y23 (x y:Ent) (k z:Int):zB9 (zA5 124).scope (zC1 (st 124 0)) (.int k) [nm "t" x,nm "path" y,nm "k" (.val (.int z))]=some [nm "t" x,nm "path" y,nm "k" (.val (.int k))]:=by kernel_rfl
theorem xP8 (c:Nat) (t:D) (y:Ent) (Q:Fl×Rho→Prop):zA8 c (zB2 (ex' 124) (zA7 (st 124 0)) [nm "t" (.val (.tup [S "f",t])),nm "path" y,nm "k" (.val (.int (0:Nat)))]) [] true Q=(true=true∧Q (.next,[nm "t" (.val t),nm "path" y,nm "k" (.val (.int (0:Nat)))])):=by kernel_rfl
theorem xP9 (c:Nat) (t u:D) (y:Ent) (Q:Fl×Rho→Prop):zA8 c (zB2 (ex' 124) (zA7 (st 124 0)) [nm "t" (.val (.tup [S "g",t,u])),nm "path" y,nm "k" (.val (.int (0:Nat)))]) [] true Q=(true=true∧Q (.next,[nm "t" (.val t),nm "path" y,nm "k" (.val (.int (0:Nat)))])):=by kernel_rfl
theorem xQ0 (c:Nat) (t u:D) (y:Ent) (Q:Fl×Rho→Prop):zA8 c (zB2 (ex' 124) (zA7 (st 124 0)) [nm "t" (.val (.tup [S "g",t,u])),nm "path" y,nm "k" (.val (.int (1:Nat)))]) [] true Q=(true=true∧Q (.next,[nm "t" (.val u),nm "path" y,nm "k" (.val (.int (1:Nat)))])):=by kernel_rfl
theorem xG1 (c:Nat) (x:D) (y:Ent) (r:Rho) (Q:Fl×Rho→Prop):zA8 c (zB2 (ex 124) [st 124 1] (nm "t" (.val x)::nm "path" y::r)) [] true Q=(true=true∧Q (.ret (.val x),nm "t" (.val x)::nm "path" y::r)):=by kernel_rfl
theorem xG2:G.fn 124=some (zA5 124):=by kernel_rfl
theorem yV9:(zA5 124).params=[Str.ofString "t",Str.ofString "path"]:=by kernel_rfl
theorem yI6 (p:List Nat) (k:Nat):∀ (t s:T),sub t (p++[k])=some s→∃ u,sub t p=some u∧sub u [k]=some s:=by
 induction p with
 | nil=>exact fun t s h=>⟨t,zJ2 t,h⟩
 | cons j p ih=>exact fun t s h=>zN3 (C:=fun t j=>∃ u,sub t (j::p)=some u∧sub u [k]=some s) h (fun x h=>ih x s h) (fun x y h=>ih x s h) (fun x y h=>ih y s h)
theorem yq5 {p:List Nat}:∀ {t s:T},sub t p=some s→∀ i,∃ u,sub t (p.take i)=some u:=by
 induction p with
 | nil=>exact fun {t s} _ i=>⟨t,by rw[List.take_nil];exact zJ2 t⟩
 | cons j p ih =>
  intro t s h i
  cases i with
   | zero=>exact ⟨t,zJ2 t⟩
   | succ i=>exact zN3 (C:=fun t j=>∃ u,sub t (j::p.take i)=some u) h (fun x h=>ih h i) (fun x y h=>ih h i) (fun x y h=>ih h i)
inductive PAt (t:T) (p:List Nat):Nat→Rho→Prop
 | z:PAt t p 0 [nm "t" (.val (enc t)),nm "path" (.val (zF2 p))]
 | s (i:Nat) (u:T) (z:Int):sub t (p.take i)=some u→PAt t p i [nm "t" (.val (enc u)),nm "path" (.val (zF2 p)),nm "k" (.val (.int z))]
theorem PAt.as {t:T} {p:List Nat} {i:Nat} {ρ:Rho} (h:PAt t p i ρ) (k:Int):∃ u,sub t (p.take i)=some u∧zB9 (zA5 124).scope (zC1 (st 124 0)) (.int k) ρ=some [nm "t" (.val (enc u)),nm "path" (.val (zF2 p)),nm "k" (.val (.int k))]:=by
 induction h with
 | z=>exact ⟨t,zJ2 t,y22 _ _ _⟩
 | s i u z h=>exact ⟨u,h,y23 _ _ _ _⟩
theorem PAt.get {t:T} {p:List Nat} {i:Nat} {ρ:Rho} (h:PAt t p i ρ):∃ u r,sub t (p.take i)=some u∧ρ=nm "t" (.val (enc u))::nm "path" (.val (zF2 p))::r:=by
 induction h with
 | z=>exact ⟨t,_,zJ2 t,rfl⟩
 | s i u z h=>exact ⟨u,_,h,rfl⟩
theorem y24 {t u v:T} {p:List Nat} {j k c:Nat} (hs:sub u [k]=some v) (hv:sub t (p.take (j+1))=some v):wp c (zB2 (ex' 124) (zA7 (st 124 0)) [nm "t" (.val (enc u)),nm "path" (.val (zF2 p)),nm "k" (.val (.int (k:Nat)))]) fun x=>x.1=.next∧PAt t p (j+1) x.2 :=
 have g:∀ x,sub x []=some v→sub t (p.take (j+1))=some x:=fun x e=>hv.trans (e.symm.trans (zJ2 x))
 zN3 (C:=fun u k=>wp c (zB2 (ex' 124) (zA7 (st 124 0)) [nm "t" (.val (enc u)),nm "path" (.val (zF2 p)),nm "k" (.val (.int (k:Nat)))]) fun x=>x.1=.next∧PAt t p (j+1) x.2) hs
  (fun x e=>zA9 (xP8 c (enc x) _ _) ⟨rfl,rfl,.s _ x _ (g x e)⟩) (fun x y e=>zA9 (xP9 c (enc x) (enc y) _ _) ⟨rfl,rfl,.s _ x _ (g x e)⟩) (fun x y e=>zA9 (xQ0 c (enc x) (enc y) _ _) ⟨rfl,rfl,.s _ y _ (g y e)⟩)
theorem zP5 {t s:T} {p:List Nat} (c:Nat) (h:sub t p=some s) (hp:p.length≤1000):Ok (c+1) 124 [.val (enc t),.val (zF2 p)] (rv (enc s) (enc s)):=by
 refine zW8 xG2 (zH9 (by rw[yV9];rfl) ?_)
 rw[yV9,ye4]
 refine zC2 (zN9 (zA9 (y21 c (.val (enc t)) (p.map fun k=>.int (k:Nat)) _) ⟨zi9 (List.forall_mem_singleton.mpr (zB7 (by rw[List.length_map];exact Nat.le_trans hp (by decide)))),?_⟩))
 refine zC6 (zg5 (Inv:=PAt t p) _ 0 _ .z fun j d ρ hj hi=>?_) fun q hq=>⟨hq.1,?_⟩
 ·rw[Nat.zero_add] at hi ⊢
  obtain ⟨k,hk,rfl⟩:=Option.map_eq_some_iff.mp (List.getElem?_map ..▸hj)
  refine (hi.as (k:Nat)).elim fun u g=>⟨_,g.2,(yq5 h (j+1)).elim fun v hv=>?_⟩
  have hv':=hv
  rw[List.take_add_one,hk] at hv'
  exact (yI6 _ _ _ _ hv').elim fun u' z=>y24 (Option.some.inj (g.1.symm.trans z.1)▸z.2) hv
 ·obtain ⟨u,r,hu,e⟩:=hq.2.get
  rw[List.length_map,Nat.zero_add,List.take_length,h] at hu
  obtain rfl:=Option.some.inj hu
  rw[e]
  exact zA9 (xG1 c _ _ _ _) ⟨rfl,rfl,rfl⟩
end Mine
namespace Mine
open PySem
theorem z92:G.fn 131=some (zA5 131):=by kernel_rfl
theorem y25 (c:Nat) (t v:D) (Q:Ret→Prop):zA8 c (zC7 G (zA5 131) [.val t,.val (.tup []),.val v]) [] true Q=(true=true∧Q (rv v t)):=by kernel_rfl
theorem xQ1 (c:Nat) (t v x:D) (p:List D) (Q:Ret→Prop):zA8 c (zC7 G (zA5 131) [.val (.tup [S "f",t]),.val (.tup (.int 0::p)),.val v]) [.call (rv t t),.d (.int 0),.call (rv x t),.d (.int 0)] true Q =
 (Ok c 124 [.val (.tup [S "f",t]),.val (.tup [.int 0])] (rv t t)∧zC3 (.int 0::p) 0=some (.int 0)∧Ok c 131 [.val t,.val (.tup p),.val v] (rv x t)∧zC3 (.int 0::p) 0=some (.int 0)∧nd [zA0 (D.int 0::p),zA0 (D.int 0::p),zA0 (D.int 0::p),zA0 (D.int 0::p)]=true∧Q (rv (.tup [S "f",x]) (.tup [S "f",t]))):=by kernel_rfl
theorem xG3 (c:Nat) (t u v x:D) (p:List D) (Q:Ret→Prop):zA8 c (zC7 G (zA5 131) [.val (.tup [S "g",t,u]),.val (.tup (.int 0::p)),.val v]) [.call (rv t t),.d (.int 0),.call (rv x t),.d (.int 0)] true Q =
 (Ok c 124 [.val (.tup [S "g",t,u]),.val (.tup [.int 0])] (rv t t)∧zC3 (.int 0::p) 0=some (.int 0)∧Ok c 131 [.val t,.val (.tup p),.val v] (rv x t)∧zC3 (.int 0::p) 0=some (.int 0)∧nd [zA0 (D.int 0::p),zA0 (D.int 0::p),zA0 (D.int 0::p),zA0 (D.int 0::p)]=true∧Q (rv (.tup [S "g",x,u]) (.tup [S "g",t,u]))):=by kernel_rfl
theorem xG4 (c:Nat) (t u v x:D) (p:List D) (Q:Ret→Prop):zA8 c (zC7 G (zA5 131) [.val (.tup [S "g",t,u]),.val (.tup (.int 1::p)),.val v]) [.call (rv u u),.d (.int 1),.call (rv x u),.d (.int 1)] true Q =
 (Ok c 124 [.val (.tup [S "g",t,u]),.val (.tup [.int 1])] (rv u u)∧zC3 (.int 1::p) 0=some (.int 1)∧Ok c 131 [.val u,.val (.tup p),.val v] (rv x u)∧zC3 (.int 1::p) 0=some (.int 1)∧nd [zA0 (D.int 1::p),zA0 (D.int 1::p),zA0 (D.int 1::p),zA0 (D.int 1::p)]=true∧Q (rv (.tup [S "g",t,x]) (.tup [S "g",t,u]))):=by kernel_rfl
theorem yI7 (p:List Nat):∀ (t v u:T) (c:Nat),sub t p=some u→p.length < c→c≤1000→Ok (c+1) 131 [.val (enc t),.val (zF2 p),.val (enc v)] (rv (enc (rep t p v)) (enc t)):=by
 induction p with
 | nil=>exact fun t v u c h hc hm=>zB0 z92 (y25 c (enc t) (enc v) _) ⟨rfl,rfl⟩
 | cons k p ih =>
  intro t v u c h hc hm
  cases c with
  | zero=>exact absurd hc (Nat.not_lt_zero _)
  | succ c =>
   have hc:=Nat.lt_of_succ_lt_succ hc
   have hm:=Nat.le_of_succ_le hm
   have n4:∀ {a:Bool},a=true→nd [a,a,a,a]=true:=fun h=>zi9 (List.forall_mem_cons.mpr ⟨h,List.forall_mem_cons.mpr ⟨h,List.forall_mem_cons.mpr ⟨h,List.forall_mem_singleton.mpr h⟩⟩⟩)
   exact zN3 (C:=fun t k=>Ok (c+2) 131 [.val (enc t),.val (zF2 (k::p)),.val (enc v)] (rv (enc (rep t (k::p) v)) (enc t))) h
    (fun x h=>zB0 z92 (xQ1 (c+1) (enc x) (enc v) (enc (rep x p v)) (p.map fun k=>D.int (k:Nat)) _) ⟨zP5 (t:=.f x) (p:=[0]) c rfl (by decide),zE9,ih x v u c h hc hm,zE9,n4 (zj0 hc hm),rfl⟩)
    (fun x y h=>zB0 z92 (xG3 (c+1) (enc x) (enc y) (enc v) (enc (rep x p v)) (p.map fun k=>D.int (k:Nat)) _) ⟨zP5 (t:=.g x y) (p:=[0]) c rfl (by decide),zE9,ih x v u c h hc hm,zE9,n4 (zj0 hc hm),rfl⟩)
    (fun x y h=>zB0 z92 (xG4 (c+1) (enc x) (enc y) (enc v) (enc (rep y p v)) (p.map fun k=>D.int (k:Nat)) _) ⟨zP5 (t:=.g x y) (p:=[1]) c rfl (by decide),zE9,ih y v u c h hc hm,zE9,n4 (zj0 hc hm),rfl⟩)
end Mine
namespace Mine
open PySem
noncomputable def zI2:Stmt→Expr
 | .Assign _ v _=>v
 | .Return (some v) _=>v
 | _=>default
noncomputable def yq6:Stmt→Expr
 | .Assign (t::_) _ _=>t
 | _=>default
noncomputable def yW0:Stmt→Pos
 | .Assign _ _ p=>p
 | .Return _ p=>p
 | _=>default
noncomputable def xC3:Expr→Pos
 | .Name _ p=>p
 | _=>default
noncomputable def xG5:Expr→Expr
 | .BinOp l _ _ _=>l
 | _=>default
noncomputable def xX9:Expr→Expr
 | .BinOp _ _ r _=>r
 | _=>default
noncomputable def yq7:Expr→Pos
 | .BinOp _ _ _ p=>p
 | _=>default
noncomputable def zc5:Expr→Expr
 | .ListComp e _ _ _=>e
 | _=>default
noncomputable def zD6:Expr→Comprehension
 | .ListComp _ (g::_) _ _=>g
 | _=>⟨default,default,[],0⟩
noncomputable def zI0:Expr→Scope
 | .ListComp _ _ s _=>s
 | _=>default
noncomputable def z24:Expr→Pos
 | .ListComp _ _ _ p=>p
 | _=>default
section
variable {c:Nat}
noncomputable def z25 (n:Nat) (csc:Scope) (elt t:Expr) (fs:List Expr) (ρ:Rho) (d:D):Prc (List D) :=
 (zB5 (zB9 csc t d ρ)).bind fun ρ'=>(zS4 ((yC7 G n).t csc) fs ρ').bind fun ok=>if ok then ((yC7 G n).e csc ρ' elt).bind fun r=>.pure [r.1.toD] else .pure []
theorem yI8 {α β γ:Type} {f:α→Prc β} {e:γ→α} {g:γ→β} (l:List γ):(∀ a∈l,wp c (f (e a)) (·=g a))→wp c (zM0 f (l.map e)) (·=l.map g):=by
 induction l with
 | nil=>exact fun uu=>zC8 rfl
 | cons a l ih=>exact fun h=>zD3 (zC6 (h a (.head _)) fun b hb=>zD3 (zC6 (ih fun a' ha=>h a' (.tail _ ha)) fun bs hbs=>zC8 (by rw[hb,hbs];rfl)))
theorem zZ2 {n:Nat} {sc csc:Scope} {ρ ρ1:Rho} {elt t i:Expr} {fs:List Expr} {p:Pos} {α:Type} {as:List α} {e:α→D} {g:α→List D} {Q:R×Rho→Prop} (h1:wp c (zC0 G ((evs G n).e sc) sc (zE7 t) ρ i) (·=(as.map e,ρ1)))
  (hok:(zI9 [⟨t,i,fs,0⟩]&&zF6 sc csc)=true) (hf:zN7 csc t (zD2 csc (zC4 csc ρ1))=true) (h2:∀ a∈as,wp c (z25 n csc elt t fs (zD2 csc (zC4 csc ρ1)) (e a)) (·=g a)) (hs:zA0 (as.map g).flatten=true)
  (hq:Q (.ownL (as.map g).flatten,zC4 csc ρ1)):wp c ((evs G (n+1)).e sc ρ (.ListComp elt [⟨t,i,fs,0⟩] csc p)) Q:=by
 show wp c (if (zI9 [⟨t,i,fs,0⟩]&&zF6 sc csc)=true then _ else _) Q
 rw[if_pos hok]
 refine zD3 (zC6 h1 fun q hq1=>?_)
 rw[hq1,zR5,if_pos hf]
 exact zD3 (zD3 (zC6 (yI8 as h2) fun l hl=>by rw[hl];exact zC8 (z89 hs (zC8 hq))))
theorem xX2 {n:Nat} {sc csc:Scope} {ρ ρ1:Rho} {elt t i:Expr} {fs:List Expr} {p:Pos} {items:List D} {g:D→List D} {Q:R×Rho→Prop} (h1:wp c (zC0 G ((evs G n).e sc) sc (zE7 t) ρ i) (·=(items,ρ1)))
  (hok:(zI9 [⟨t,i,fs,0⟩]&&zF6 sc csc)=true) (hf:zN7 csc t (zD2 csc (zC4 csc ρ1))=true) (h2:∀ d∈items,wp c (z25 n csc elt t fs (zD2 csc (zC4 csc ρ1)) d) (·=g d)) (hs:zA0 (items.map g).flatten=true)
  (hq:Q (.ownL (items.map g).flatten,zC4 csc ρ1)):wp c ((evs G (n+1)).e sc ρ (.ListComp elt [⟨t,i,fs,0⟩] csc p)) Q:=by
 have z:=zZ2 (Q:=Q) (sc:=sc) (elt:=elt) (p:=p) (as:=items) (e:=id) (g:=g) (h1:=by rw[List.map_id];exact h1) hok hf h2 hs hq
 exact z
theorem yq8 {n m:Nat} {sc:Scope} {ρ:Rho} {x:Str} {v:Expr} {p q:Pos} {Q:Fl×Rho→Prop} (hp:zM1 v=none) (h:wp c ((evs G m).e sc ρ v) fun q=>zN8 sc q.2 x=true∧Q (.next,q.2.set x q.1.toEnt)):wp c (zK1 G (evs G m) (n+1) sc ρ (.Assign [.Name x p] v q)) Q:=by
 show wp c ((zn5 G (evs G m) sc ρ (.Name x p) v).bind fun ρ'=>.pure (.next,ρ')) Q
 refine zD3 ?_
 unfold zn5
 simp only[hp]
 refine zD3 (zC6 h fun r hr=>?_)
 rw[if_pos hr.1]
 exact zC8 (zC8 hr.2)
theorem yq9 {n m:Nat} {sc:Scope} {ρ:Rho} {v:Expr} {q:Pos} {Q:Fl×Rho→Prop} (h:wp c ((evs G m).e sc ρ v) fun q=>Q (.ret q.1,q.2)):wp c (zK1 G (evs G m) (n+1) sc ρ (.Return (some v) q)) Q :=
 zD3 (zC6 h fun r hr=>zC8 hr)
theorem yr0 {n:Nat} {sc:Scope} {ρ:Rho} {l r:Expr} {op:Operator} {p:Pos} {Q:R×Rho→Prop} (h:wp c ((evs G n).e sc ρ l) fun a=>wp c ((evs G n).e sc a.2 r) fun b=>wp c (yC0 op a.1.toD b.1.toD) fun d=>Q (d,b.2)):wp c ((evs G (n+1)).e sc ρ (.BinOp l op r p)) Q :=
 zD3 (zC6 h fun a ha=>zD3 (zC6 ha fun b hb=>zD3 (zC6 hb fun d hd=>zC8 hd)))
end
noncomputable def zJ9:T→List (List Nat×T)
 | .a=>[([],.a)]
 | .b=>[([],.b)]
 | .c=>[([],.c)]
 | .f t=>([],.f t)::(zJ9 t).map fun q=>(0::q.1,q.2)
 | .g t u=>([],.g t u)::((zJ9 t).map fun q=>(0::q.1,q.2))++(zJ9 u).map fun q=>(1::q.1,q.2)
noncomputable def T.size:T→Nat
 | .a=>1
 | .b=>1
 | .c=>1
 | .f t=>t.size+1
 | .g t u=>t.size+u.size+1
theorem za5 (t:T):(zJ9 t).length=t.size:=by
 induction t with
 | f t ih=>exact congrArg (·+1) ((List.length_map _).trans ih)
 | g t u i1 i2 =>
  show (([],T.g t u)::((zJ9 t).map _)++(zJ9 u).map _).length=t.size+u.size+1
  rw[List.length_append,List.length_cons,List.length_map,List.length_map,i1,i2,Nat.add_right_comm]
 | _=>rfl
theorem zt0 (t:T):∀ q,q∈zJ9 t→q.1.length < t.size∧sub t q.1=some q.2:=by
 induction t with
 | f t ih=>exact fun q h=>(List.mem_cons.mp h).elim (fun e=>e▸⟨Nat.succ_pos _,rfl⟩) fun h=>(List.mem_map.mp h).elim fun r g=>g.2▸⟨Nat.succ_lt_succ (ih r g.1).1,(ih r g.1).2⟩
 | g t u i1 i2 =>
  exact fun q h=>(List.mem_append.mp h).elim
   (fun h=>(List.mem_cons.mp h).elim (fun e=>e▸⟨Nat.succ_pos _,rfl⟩) fun h=>(List.mem_map.mp h).elim fun r g=>g.2▸⟨Nat.succ_lt_succ (Nat.lt_of_lt_of_le (i1 r g.1).1 (Nat.le_add_right _ _)),(i1 r g.1).2⟩)
   fun h=>(List.mem_map.mp h).elim fun r g=>g.2▸⟨Nat.succ_lt_succ (Nat.lt_of_lt_of_le (i2 r g.1).1 (Nat.le_add_left _ _)),(i2 r g.1).2⟩
 | _=>exact fun q h=>List.mem_singleton.mp h▸⟨Nat.succ_pos _,rfl⟩
noncomputable def xe4 (q:List Nat×T):D:=.tup [zF2 q.1,enc q.2]
noncomputable def zP6 (q:List Nat×T):D:=.tup [zF2 q.1,enc q.2]
theorem yQ6:G.fn 373=some (zA5 373):=by kernel_rfl
theorem zn9:(zA5 373).params=[Str.ofString "t"]:=by kernel_rfl
theorem yr1:stmts 373=[st 373 0,.For (zC1 (st 373 1)) (zD4 (st 373 1)) (zA7 (st 373 1)) [] (zL8 (st 373 1)),st 373 2]:=by kernel_rfl
noncomputable def sb:Stmt:=(zA7 (st 373 1)).headD (.Pass default)
noncomputable def sr:Expr:=xX9 (zI2 sb)
theorem xQ2:zA7 (st 373 1)=[.Assign [.Name (Str.ofString "found") (xC3 (yq6 sb))] (.BinOp (xG5 (zI2 sb)) .Add (.ListComp (zc5 sr) [⟨(zD6 sr).target,(zD6 sr).iter,[],0⟩] (zI0 sr) (z24 sr)) (yq7 (zI2 sb))) (yW0 sb)]:=by kernel_rfl
theorem xY0 (c:Nat) (x:String) (Q:Ret→Prop):zA8 c (zC7 G (zA5 373) [.val (.tup [S x])]) [] true Q=(true=true∧Q (rv (.list [.tup [.tup [],.tup [S x]]]) (.tup [S x]))):=by kernel_rfl
theorem xQ3 (c:Nat) (t:D) (Q:Fl×Rho→Prop):zA8 c (ex 373 [nm "t" (.val t)] (st 373 0)) [] true Q=(true=true∧Q (.next,[nm "t" (.val t),nm "found" (.ownL [.tup [.tup [],t]])])):=by kernel_rfl
theorem xG6 (c:Nat) (t:D) (e:Ent) (Q:List D×Rho→Prop):zA8 c (zC0 G ((evs G 40).e (zA5 373).scope) (zA5 373).scope (zE7 (zC1 (st 373 1))) [nm "t" (.val (.tup [S "f",t])),nm "found" e] (zD4 (st 373 1))) [] true Q=(true=true∧Q ([.int (0:Nat)],[nm "t" (.val (.tup [S "f",t])),nm "found" e])):=by kernel_rfl
theorem xG7 (c:Nat) (t u:D) (e:Ent) (Q:List D×Rho→Prop):zA8 c (zC0 G ((evs G 40).e (zA5 373).scope) (zA5 373).scope (zE7 (zC1 (st 373 1))) [nm "t" (.val (.tup [S "g",t,u])),nm "found" e] (zD4 (st 373 1))) [] true Q=(true=true∧Q ([.int (0:Nat),.int (1:Nat)],[nm "t" (.val (.tup [S "g",t,u])),nm "found" e])):=by kernel_rfl
theorem yr2 (k:Int) (x y:Ent):zB9 (zA5 373).scope (zC1 (st 373 1)) (.int k) [nm "t" x,nm "found" y]=some [nm "t" x,nm "found" y,nm "k" (.val (.int k))]:=by kernel_rfl
theorem xG8 (k z:Int) (x y:Ent):zB9 (zA5 373).scope (zC1 (st 373 1)) (.int k) [nm "t" x,nm "found" y,nm "k" (.val (.int z))]=some [nm "t" x,nm "found" y,nm "k" (.val (.int k))]:=by kernel_rfl
theorem yr3 (c:Nat) (l:List D) (x:Ent) (k:Int) (Q:R×Rho→Prop):zA8 c ((evs G 39).e (zA5 373).scope [nm "t" x,nm "found" (.ownL l),nm "k" (.val (.int k))] (xG5 (zI2 sb))) [] true Q=(true=true∧Q (.val (.list l),[nm "t" x,nm "found" (.val (.list l)),nm "k" (.val (.int k))])):=by kernel_rfl
theorem xQ4 (c:Nat) (t:D) (l:List D) (r:List D) (Q:List D×Rho→Prop):zA8 c (zC0 G ((evs G 38).e (zA5 373).scope) (zA5 373).scope (zE7 (zD6 sr).target) [nm "t" (.val (.tup [S "f",t])),nm "found" (.val (.list l)),nm "k" (.val (.int (0:Nat)))] (zD6 sr).iter) [.call (rv (.list r) t)] true Q =
 (Ok c 373 [.val t] (rv (.list r) t)∧nd [zA0 r]=true∧Q (r,[nm "t" (.val (.tup [S "f",t])),nm "found" (.val (.list l)),nm "k" (.val (.int (0:Nat)))])):=by kernel_rfl
theorem xG9 (c:Nat) (t u:D) (l:List D) (r:List D) (Q:List D×Rho→Prop):zA8 c (zC0 G ((evs G 38).e (zA5 373).scope) (zA5 373).scope (zE7 (zD6 sr).target) [nm "t" (.val (.tup [S "g",t,u])),nm "found" (.val (.list l)),nm "k" (.val (.int (0:Nat)))] (zD6 sr).iter) [.call (rv (.list r) t)] true Q =
 (Ok c 373 [.val t] (rv (.list r) t)∧nd [zA0 r]=true∧Q (r,[nm "t" (.val (.tup [S "g",t,u])),nm "found" (.val (.list l)),nm "k" (.val (.int (0:Nat)))])):=by kernel_rfl
theorem xH0 (c:Nat) (t u:D) (l:List D) (r:List D) (Q:List D×Rho→Prop):zA8 c (zC0 G ((evs G 38).e (zA5 373).scope) (zA5 373).scope (zE7 (zD6 sr).target) [nm "t" (.val (.tup [S "g",t,u])),nm "found" (.val (.list l)),nm "k" (.val (.int (1:Nat)))] (zD6 sr).iter) [.call (rv (.list r) u)] true Q =
 (Ok c 373 [.val u] (rv (.list r) u)∧nd [zA0 r]=true∧Q (r,[nm "t" (.val (.tup [S "g",t,u])),nm "found" (.val (.list l)),nm "k" (.val (.int (1:Nat)))])):=by kernel_rfl
theorem xQ5 (x y:Ent):(zI9 [⟨(zD6 sr).target,(zD6 sr).iter,[],0⟩]&&zF6 (zA5 373).scope (zI0 sr))=true:=by kernel_rfl
theorem yr4 (x:Ent) (l:List D) (k:Int):zN7 (zI0 sr) (zD6 sr).target (zD2 (zI0 sr) (zC4 (zI0 sr) [nm "t" x,nm "found" (.val (.list l)),nm "k" (.val (.int k))]))=true:=by kernel_rfl
theorem yr5 (x:Ent) (l:List D) (k:Int):zC4 (zI0 sr) [nm "t" x,nm "found" (.val (.list l)),nm "k" (.val (.int k))]=[nm "t" x,nm "found" (.val (.list l)),nm "k" (.val (.int k))]:=by kernel_rfl
theorem y26 (c:Nat) (x:Ent) (l:List D) (k:Int) (p:List D) (d:D) (Q:List D→Prop):zA8 c (z25 38 (zI0 sr) (zc5 sr) (zD6 sr).target [] (zD2 (zI0 sr) [nm "t" x,nm "found" (.val (.list l)),nm "k" (.val (.int k))]) (.tup [.tup p,d])) [] true Q=(nd [zA0 p]=true∧Q [.tup [.tup (.int k::p),d]]):=by kernel_rfl
theorem xH1 (c:Nat) (l r:List D) (Q:R→Prop):zA8 c (yC0 .Add (.list l) (.list r)) [] true Q=(nd [zA0 l&&zA0 r]=true∧Q (.ownL (l++r))):=by kernel_rfl
theorem yr6 (x:Ent) (l:List D) (k:Int):zN8 (zA5 373).scope [nm "t" x,nm "found" (.val (.list l)),nm "k" (.val (.int k))] (Str.ofString "found")=true:=by kernel_rfl
theorem yr7 (c:Nat) (x:Ent) (l:List D) (r:Rho) (Q:Fl×Rho→Prop):zA8 c (zB2 (ex 373) [st 373 2] (nm "t" x::nm "found" (.ownL l)::r)) [] true Q=(true=true∧Q (.ret (.val (.list l)),nm "t" x::nm "found" (.val (.list l))::r)):=by kernel_rfl
theorem xH2:zM1 (.BinOp (xG5 (zI2 sb)) .Add (.ListComp (zc5 sr) [⟨(zD6 sr).target,(zD6 sr).iter,[],0⟩] (zI0 sr) (z24 sr)) (yq7 (zI2 sb)))=none:=by kernel_rfl
end Mine
namespace Mine
open PySem
noncomputable def yQ7 (k:Nat) (q:List Nat×T):List Nat×T:=(k::q.1,q.2)
theorem xX3 (k:Nat) (q:List Nat×T):zP6 (yQ7 k q)=.tup [.tup (.int (k:Nat)::q.1.map fun k=>.int (k:Nat)),enc q.2]:=rfl
theorem zg6 {α β:Type} (f:α→β) (l:List α):(l.map fun a=>[f a]).flatten=l.map f:=by
 induction l with
 | nil=>rfl
 | cons a l ih=>exact congrArg (f a::·) ih
theorem yI9 {a:Bool} (h:a=true):nd [a]=true:=zi9 (List.forall_mem_singleton.mpr h)
theorem zO9 {α:Type} {f:α→D} {l:List α} (h:l.length≤1000000):zA0 (l.map f)=true:=zB7 (by rw[List.length_map];exact Nat.le_trans h (by decide))
theorem z93 {c:Nat} {x:Ent} {l:List D} {k:Nat} {qs:List (List Nat×T)} (hq:∀ q∈qs,q.1.length≤1000) (hl:l.length≤1000000) (hr:qs.length≤1000000)
  (h:wp c (zC0 G ((evs G 38).e (zA5 373).scope) (zA5 373).scope (zE7 (zD6 sr).target) [nm "t" x,nm "found" (.val (.list l)),nm "k" (.val (.int (k:Nat)))] (zD6 sr).iter) (·=(qs.map zP6,[nm "t" x,nm "found" (.val (.list l)),nm "k" (.val (.int (k:Nat)))]))) :
  wp c (zB2 (ex' 373) (zA7 (st 373 1)) [nm "t" x,nm "found" (.ownL l),nm "k" (.val (.int (k:Nat)))]) (·=(.next,[nm "t" x,nm "found" (.ownL (l++qs.map fun q=>zP6 (yQ7 k q))),nm "k" (.val (.int (k:Nat)))])):=by
 have hg:(qs.map fun q=>[zP6 (yQ7 k q)]).flatten=qs.map fun q=>zP6 (yQ7 k q):=zg6 _ _
 rw[xQ2]
 refine zC2 (yq8 xH2 (yr0 (zA9 (yr3 c l x k _) ⟨rfl,?_⟩)))
 refine zZ2 (as:=qs) (e:=zP6) (g:=fun q=>[zP6 (yQ7 k q)]) h (xQ5 x x) (yr4 x l k) (fun q hq'=>?_) ?_ ?_
 ·rw[yr5]
  exact zA9 (y26 c x l k (q.1.map fun k=>.int (k:Nat)) (enc q.2) _) ⟨yI9 (zO9 (Nat.le_trans (hq q hq') (by decide))),rfl⟩
 ·rw[hg];exact zO9 hr
 ·rw[hg,yr5]
  exact zA9 (xH1 c l (qs.map fun q=>zP6 (yQ7 k q)) _) ⟨yI9 (Bool.and_eq_true_iff.mpr ⟨zB7 (Nat.le_trans hl (by decide)),zO9 hr⟩),yr6 x l k,rfl,zC8 rfl⟩
theorem zj1 {t:T} {c:Nat} (h:t.size≤c) (hm:c≤1000):(zJ9 t).length≤1000000:=by rw[za5];exact Nat.le_trans h (Nat.le_trans hm (by decide))
theorem zZ3 {t:T} {c:Nat} (h:t.size≤c) (hm:c≤1000):∀ q∈zJ9 t,q.1.length≤1000:=fun q hq=>Nat.le_trans (Nat.le_of_lt (zt0 t q hq).1) (Nat.le_trans h hm)
theorem yr8 (t:T):∀ (c:Nat),t.size≤c→c≤1000→Ok c 373 [.val (enc t)] (rv (.list ((zJ9 t).map zP6)) (enc t)):=by
 induction t with
 | f t ih =>
  intro c hc hm
  cases c with
  | zero=>exact absurd hc (Nat.not_succ_le_zero _)
  | succ c =>
   have hc:=Nat.le_of_succ_le_succ hc
   have hm:=Nat.le_of_succ_le hm
   have hf:=zj1 hc hm
   refine zW8 yQ6 (zH9 (by rw[zn9];rfl) ?_)
   rw[zn9,yr1]
   refine zC2 (zA9 (xQ3 c _ _) ⟨rfl,rfl,?_⟩)
   refine zC2 (zN9 (zA9 (xG6 c (enc t) _ _) ⟨rfl,zG5 (yr2 _ _ _) (zC6 (z93 (c:=c) (k:=0) (qs:=zJ9 t) (zZ3 hc hm) (show 1≤1000000 by decide) hf (zA9 (xQ4 c (enc t) _ _ _) ⟨ih c hc hm,yI9 (zO9 hf),rfl⟩)) fun q hq=>?_)⟩))
   rw[hq]
   exact ⟨rfl,zC8 ⟨rfl,zA9 (yr7 c _ _ _ _) ⟨rfl,rfl,congrArg (fun l=>rv (D.list (zP6 ([],T.f t)::l)) (enc (.f t))) (show (zJ9 t).map (fun q=>zP6 (yQ7 0 q))=((zJ9 t).map fun q=>(0::q.1,q.2)).map zP6 by rw[List.map_map];rfl)⟩⟩⟩
 | g t u ih1 ih2 =>
  intro c hc hm
  cases c with
  | zero=>exact absurd hc (Nat.not_succ_le_zero _)
  | succ c =>
   have hc:=Nat.le_of_succ_le_succ hc
   have hm:=Nat.le_of_succ_le hm
   have ht:=Nat.le_trans (Nat.le_add_right _ _) hc
   have hu:=Nat.le_trans (Nat.le_add_left _ _) hc
   have hf:=zj1 ht hm
   have hg:=zj1 hu hm
   refine zW8 yQ6 (zH9 (by rw[zn9];rfl) ?_)
   rw[zn9,yr1]
   refine zC2 (zA9 (xQ3 c _ _) ⟨rfl,rfl,?_⟩)
   refine zC2 (zN9 (zA9 (xG7 c (enc t) (enc u) _ _) ⟨rfl,zG5 (yr2 _ _ _) (zC6 (z93 (c:=c) (k:=0) (qs:=zJ9 t) (zZ3 ht hm) (show 1≤1000000 by decide) hf (zA9 (xG9 c (enc t) (enc u) _ _ _) ⟨ih1 c ht hm,yI9 (zO9 hf),rfl⟩)) fun q hq=>?_)⟩))
   rw[hq]
   refine ⟨rfl,zG5 (xG8 _ _ _ _) (zC6 (z93 (c:=c) (k:=1) (qs:=zJ9 u) (zZ3 hu hm) ?_ hg (zA9 (xH0 c (enc t) (enc u) _ _ _) ⟨ih2 c hu hm,yI9 (zO9 hg),rfl⟩)) fun q hq=>?_)⟩
   ·rw[List.length_append,List.length_map,za5]
    exact Nat.le_trans (Nat.add_le_add_left ht 1) (Nat.le_trans (Nat.add_le_add_left hm 1) (by decide))
   ·rw[hq]
    refine ⟨rfl,zC8 ⟨rfl,zA9 (yr7 c _ _ _ _) ⟨rfl,rfl,?_⟩⟩⟩
    rw[show zJ9 (.g t u)=(([],T.g t u)::((zJ9 t).map fun q=>(0::q.1,q.2)))++(zJ9 u).map fun q=>(1::q.1,q.2) from rfl,List.map_append,List.map_cons,List.map_map,List.map_map]
    rfl
 | _ =>
  intro c hc hm
  cases c with
  | zero=>exact absurd hc (Nat.not_succ_le_zero _)
  | succ c=>exact zB0 yQ6 (xY0 c _ _) ⟨rfl,rfl⟩
end Mine
namespace Mine
open PySem
noncomputable def fd (cells:List D) (place:Nat):Ent:=.bor [.list cells,.int (place:Nat)]
theorem yr9:G.fn 361=some (zA5 361):=by kernel_rfl
theorem xH3 (c:Nat) (cells:List D) (place:Nat) (top n:Int) (Q:Ret→Prop):zA8 c (zC7 G (zA5 361) [fd cells place,.val (.int top)]) [.b true,.d (.int n)] true Q =
 (some (decide (((place:Nat):Int) < ((cells.length:Nat):Int)))=some true∧zC3 cells ((place:Nat):Int)=some (.int n)∧nd [decide (0 < top)&&small top,zA0 cells,zA0 cells,small ((place:Nat):Int)&&small 1]=true∧Q (.val (.int (n % top)),some (fd cells (place+1)))):=by kernel_rfl
theorem y27 (c:Nat) (cells:List D) (place:Nat) (top:Int) (Q:Ret→Prop):zA8 c (zC7 G (zA5 361) [fd cells place,.val (.int top)]) [.b false] true Q =
 (some (decide (((place:Nat):Int) < ((cells.length:Nat):Int)))=some false∧nd [decide (0 < top)&&small top,
  small (2 * ((place:Nat):Int) * ((place:Nat):Int)+9 * ((place:Nat):Int)+((cells.length:Nat):Int))&&small 5,
  small (2 * ((place:Nat):Int) * ((place:Nat):Int)+9 * ((place:Nat):Int))&&small ((cells.length:Nat):Int),zA0 cells,
  small (2 * ((place:Nat):Int) * ((place:Nat):Int))&&small (9 * ((place:Nat):Int)),small 9&&small ((place:Nat):Int),small (2 * ((place:Nat):Int))&&small ((place:Nat):Int),small 2&&small ((place:Nat):Int),zA0 cells,small ((place:Nat):Int)&&small 1]=true ∧
  Q (.val (.int ((2 * ((place:Nat):Int) * ((place:Nat):Int)+9 * ((place:Nat):Int)+((cells.length:Nat):Int)+5) % 59 % top)),some (fd cells (place+1)))):=by kernel_rfl
theorem zT8 {i:Int} (h:-1000000000000 < i∧i < 1000000000000):small i=true:=by
 unfold small
 rw[Nat.blt_eq];lia
theorem yJ0 {n top:Int} (h:0 < top):∃ v:Nat,(v:Int)=n % top∧(v:Int) < top:=by
 have h1:=Int.emod_nonneg n (Int.ne_of_gt h)
 have h2:=Int.emod_lt_of_pos n h
 exact ⟨(n % top).toNat,Int.toNat_of_nonneg h1,by rw[Int.toNat_of_nonneg h1];exact h2⟩
theorem zV7 {n:Nat} (h:n≤10000000):small ((n:Nat):Int)=true:=zT8 ⟨Int.lt_of_lt_of_le (by decide) (Int.natCast_nonneg n),Int.lt_of_le_of_lt (Int.ofNat_le.mpr h) (by decide)⟩
theorem z94 {n:Nat} (h:n≤1000):small ((n:Nat):Int)=true:=zV7 (Nat.le_trans h (by decide))
theorem bb {a b:Bool} (h1:a=true) (h2:b=true):(a&&b)=true:=by rw[h1,h2];rfl
theorem y28 {place L:Nat} {t s:Bool} (hp:place≤1000) (hL:L≤1000) (ht:t=true) (hs:s=true):nd [t,
  small (2 * ((place:Nat):Int) * ((place:Nat):Int)+9 * ((place:Nat):Int)+((L:Nat):Int))&&small 5,
  small (2 * ((place:Nat):Int) * ((place:Nat):Int)+9 * ((place:Nat):Int))&&small ((L:Nat):Int),s,
  small (2 * ((place:Nat):Int) * ((place:Nat):Int))&&small (9 * ((place:Nat):Int)),small 9&&small ((place:Nat):Int),small (2 * ((place:Nat):Int))&&small ((place:Nat):Int),small 2&&small ((place:Nat):Int),s,small ((place:Nat):Int)&&small 1]=true :=
 have p2:=Nat.mul_le_mul_left 2 hp
 have p9:=Nat.mul_le_mul_left 9 hp
 have pp:=Nat.mul_le_mul p2 hp
 have s2:small (2 * ((place:Nat):Int))=true:=zV7 (n:=2 * place) (Nat.le_trans p2 (by decide))
 have s9:small (9 * ((place:Nat):Int))=true:=zV7 (n:=9 * place) (Nat.le_trans p9 (by decide))
 have sp:small (2 * ((place:Nat):Int) * ((place:Nat):Int))=true:=zV7 (n:=2 * place * place) (Nat.le_trans pp (by decide))
 have sq:small (2 * ((place:Nat):Int) * ((place:Nat):Int)+9 * ((place:Nat):Int))=true:=zV7 (n:=2 * place * place+9 * place) (Nat.le_trans (Nat.add_le_add pp p9) (by decide))
 have sr:small (2 * ((place:Nat):Int) * ((place:Nat):Int)+9 * ((place:Nat):Int)+((L:Nat):Int))=true:=zV7 (n:=2 * place * place+9 * place+L) (Nat.le_trans (Nat.add_le_add (Nat.add_le_add pp p9) hL) (by decide))
 have s1:=z94 hp
 by rw[ht,hs,s2,s9,sp,sq,sr,s1,z94 hL];rfl
theorem ze3 (ns:List Int) (place top c:Nat) (hp:place≤1000) (hn:ns.length≤1000) (ht:0 < top) (ht2:top≤100000) :
  ∃ v:Nat,v < top∧Ok (c+1) 361 [fd (ns.map .int) place,.val (.int (top:Nat))] (.val (.int (v:Nat)),some (fd (ns.map .int) (place+1))):=by
 have hpos:(0:Int) < ((top:Nat):Int):=Int.ofNat_lt.mpr ht
 have hl:(ns.map D.int).length≤1000:=by rw[List.length_map];exact hn
 have hs:zA0 (ns.map D.int)=true:=zB7 (Nat.le_trans hl (by decide))
 have t1:(decide ((0:Int) < ((top:Nat):Int))&&small ((top:Nat):Int))=true:=bb (decide_eq_true hpos) (zV7 (Nat.le_trans ht2 (by decide)))
 by_cases h:place < (ns.map D.int).length
 ·have h':place < ns.length:=by rwa [List.length_map] at h
  refine (yJ0 (n:=ns[place]) hpos).elim fun v g=>⟨v,Int.ofNat_lt.mp g.2,zB0 yr9 (xH3 c (ns.map .int) place (top:Nat) ns[place] _) ⟨congrArg some (decide_eq_true (Int.ofNat_lt.mpr h)),?_,?_,by rw[g.1]⟩⟩
  ·unfold zC3 idx
   rw[if_pos (Int.natCast_nonneg _),if_pos (Int.ofNat_lt.mpr h)]
   exact (List.getElem?_map ..).trans (congrArg (Option.map D.int) (List.getElem?_eq_getElem h'))
  ·rw[t1,hs,bb (z94 hp) (show small 1=true from rfl)];rfl
 ·exact (yJ0 (n:=(2 * ((place:Nat):Int) * ((place:Nat):Int)+9 * ((place:Nat):Int)+(((ns.map D.int).length:Nat):Int)+5) % 59) hpos).elim fun v g=>⟨v,Int.ofNat_lt.mp g.2,zB0 yr9 (y27 c (ns.map .int) place (top:Nat) _) ⟨congrArg some (decide_eq_false fun z=>h (Int.ofNat_lt.mp z)),y28 hp hl t1 hs,by rw[g.1]⟩⟩
theorem ze4:G.fn 368=some (zA5 368):=by kernel_rfl
noncomputable def DrL (d top c:Nat) (cells:List D) (place v:Nat):Prop:=∃ t:T,t.size=1∧∀ Q:Ret→Prop,zA8 c (zC7 G (zA5 368) [fd cells place,.val (.int (d:Nat))]) [.call (.val (.int (v:Nat)),some (fd cells (place+1)))] true Q =
  (Ok c 361 [fd cells place,.val (.int (top:Nat))] (.val (.int (v:Nat)),some (fd cells (place+1)))∧true=true∧Q (.val (enc t),some (fd cells (place+1))))
theorem lt3 {P:Nat→Prop} {v:Nat} (h:v < 3) (p0:P 0) (p1:P 1) (p2:P 2):P v:=by
 cases v with
 | zero=>exact p0
 | succ v=>cases v with
  | zero=>exact p1
  | succ v=>cases v with
   | zero=>exact p2
   | succ v=>exact absurd h (Nat.not_lt_of_le (Nat.le_add_left 3 v))
theorem xY1 (c:Nat) (cells:List D) (place:Nat) (v:Nat) (h:v < 3):DrL 0 3 c cells place v:=lt3 h ⟨.a,rfl,fun Q=>by kernel_rfl⟩ ⟨.b,rfl,fun Q=>by kernel_rfl⟩ ⟨.c,rfl,fun Q=>by kernel_rfl⟩
theorem xQ6 (c:Nat) (cells:List D) (place:Nat) (v:Nat) (h:v < 3):DrL 1 6 c cells place v:=lt3 h ⟨.a,rfl,fun Q=>by kernel_rfl⟩ ⟨.b,rfl,fun Q=>by kernel_rfl⟩ ⟨.c,rfl,fun Q=>by kernel_rfl⟩
theorem xQ7 (c:Nat) (cells:List D) (place:Nat) (v:Nat) (h:v < 3):DrL 2 6 c cells place v:=lt3 h ⟨.a,rfl,fun Q=>by kernel_rfl⟩ ⟨.b,rfl,fun Q=>by kernel_rfl⟩ ⟨.c,rfl,fun Q=>by kernel_rfl⟩
theorem xQ8 (c:Nat) (t:D) (cells:List D) (place q:Nat) (Q:Ret→Prop):zA8 c (zC7 G (zA5 368) [fd cells place,.val (.int (1:Nat))]) [.call (.val (.int (3:Nat)),some (fd cells (place+1))),.call (.val t,some (fd cells q))] true Q =
  (Ok c 361 [fd cells place,.val (.int (6:Nat))] (.val (.int (3:Nat)),some (fd cells (place+1)))∧Ok c 368 [fd cells (place+1),.val (.int (0:Nat))] (.val t,some (fd cells q))∧true=true∧Q (.val (.tup [S "f",t]),some (fd cells q))):=by kernel_rfl
theorem xQ9 (c:Nat) (t:D) (cells:List D) (place q:Nat) (Q:Ret→Prop):zA8 c (zC7 G (zA5 368) [fd cells place,.val (.int (2:Nat))]) [.call (.val (.int (3:Nat)),some (fd cells (place+1))),.call (.val t,some (fd cells q))] true Q =
  (Ok c 361 [fd cells place,.val (.int (6:Nat))] (.val (.int (3:Nat)),some (fd cells (place+1)))∧Ok c 368 [fd cells (place+1),.val (.int (1:Nat))] (.val t,some (fd cells q))∧true=true∧Q (.val (.tup [S "f",t]),some (fd cells q))):=by kernel_rfl
theorem xR0 (c:Nat) (t u:D) (cells:List D) (place v q r:Nat) (h:v=4∨v=5) (Q:Ret→Prop):zA8 c (zC7 G (zA5 368) [fd cells place,.val (.int (1:Nat))]) [.call (.val (.int (v:Nat)),some (fd cells (place+1))),.call (.val t,some (fd cells q)),.call (.val u,some (fd cells r))] true Q =
  (Ok c 361 [fd cells place,.val (.int (6:Nat))] (.val (.int (v:Nat)),some (fd cells (place+1)))∧Ok c 368 [fd cells (place+1),.val (.int (0:Nat))] (.val t,some (fd cells q))∧Ok c 368 [fd cells q,.val (.int (0:Nat))] (.val u,some (fd cells r))∧true=true∧Q (.val (.tup [S "g",t,u]),some (fd cells r))):=by
 rcases h with rfl | rfl
 ·kernel_rfl
 ·kernel_rfl
theorem xR1 (c:Nat) (t u:D) (cells:List D) (place v q r:Nat) (h:v=4∨v=5) (Q:Ret→Prop):zA8 c (zC7 G (zA5 368) [fd cells place,.val (.int (2:Nat))]) [.call (.val (.int (v:Nat)),some (fd cells (place+1))),.call (.val t,some (fd cells q)),.call (.val u,some (fd cells r))] true Q =
  (Ok c 361 [fd cells place,.val (.int (6:Nat))] (.val (.int (v:Nat)),some (fd cells (place+1)))∧Ok c 368 [fd cells (place+1),.val (.int (1:Nat))] (.val t,some (fd cells q))∧Ok c 368 [fd cells q,.val (.int (0:Nat))] (.val u,some (fd cells r))∧true=true∧Q (.val (.tup [S "g",t,u]),some (fd cells r))):=by
 rcases h with rfl | rfl
 ·kernel_rfl
 ·kernel_rfl
theorem zj2 (ns:List Int) (place c:Nat) (hp:place≤900) (hn:ns.length≤1000):∃ (t:T) (q:Nat),t.size≤1∧q≤place+1∧Ok (c+2) 368 [fd (ns.map .int) place,.val (.int (0:Nat))] (.val (enc t),some (fd (ns.map .int) q)):=by
 refine xe (ze3 ns place 3 c (by lia) hn (by lia) (by lia)) fun v Y0=>?_;have h1:=Y0.1;have h2:=Y0.2;try clear Y0
 refine xe (xY1 (c+1) (ns.map .int) place v h1) fun t Y0=>?_;have h3:=Y0.1;have h4:=Y0.2;try clear Y0
 exact ⟨t,place+1,by lia,by lia,zB0 ze4 (h4 _) ⟨h2,rfl,rfl⟩⟩
theorem ye5 (ns:List Int) (place c:Nat) (hp:place≤800) (hn:ns.length≤1000):∃ (t:T) (q:Nat),t.size≤3∧q≤place+3∧Ok (c+3) 368 [fd (ns.map .int) place,.val (.int (1:Nat))] (.val (enc t),some (fd (ns.map .int) q)):=by
 refine xe (ze3 ns place 6 (c+1) (by lia) hn (by lia) (by lia)) fun v Y0=>?_;have h1:=Y0.1;have h2:=Y0.2;try clear Y0
 by_cases hv:v < 3
 ·refine xe (xQ6 (c+2) (ns.map .int) place v hv) fun t Y0=>?_;have h3:=Y0.1;have h4:=Y0.2;try clear Y0
  exact ⟨t,place+1,by lia,by lia,zB0 ze4 (h4 _) ⟨h2,rfl,rfl⟩⟩
 ·refine xe (zj2 ns (place+1) c (by lia) hn) fun t Y0=>?_;refine xe Y0 fun q Y1=>?_;have t1:=Y1.1;have t2:=Y1.2.1;have t3:=Y1.2.2;try clear Y0 Y1
  by_cases hv3:v=3
  ·subst hv3
   exact ⟨.f t,q,by simp[T.size];lia,by lia,zB0 ze4 (xQ8 (c+2) (enc t) (ns.map .int) place q _) ⟨h2,t3,rfl,rfl⟩⟩
  ·refine xe (zj2 ns q c (by lia) hn) fun u Y0=>?_;refine xe Y0 fun r Y1=>?_;have u1:=Y1.1;have u2:=Y1.2.1;have u3:=Y1.2.2;try clear Y0 Y1
   exact ⟨.g t u,r,by simp[T.size];lia,by lia,zB0 ze4 (xR0 (c+2) (enc t) (enc u) (ns.map .int) place v q r (by lia) _) ⟨h2,t3,u3,rfl,rfl⟩⟩
theorem ye6 (ns:List Int) (place c:Nat) (hp:place≤700) (hn:ns.length≤1000):∃ (t:T) (q:Nat),t.size≤5∧q≤place+5∧Ok (c+4) 368 [fd (ns.map .int) place,.val (.int (2:Nat))] (.val (enc t),some (fd (ns.map .int) q)):=by
 refine xe (ze3 ns place 6 (c+2) (by lia) hn (by lia) (by lia)) fun v Y0=>?_;have h1:=Y0.1;have h2:=Y0.2;try clear Y0
 by_cases hv:v < 3
 ·refine xe (xQ7 (c+3) (ns.map .int) place v hv) fun t Y0=>?_;have h3:=Y0.1;have h4:=Y0.2;try clear Y0
  exact ⟨t,place+1,by lia,by lia,zB0 ze4 (h4 _) ⟨h2,rfl,rfl⟩⟩
 ·refine xe (ye5 ns (place+1) c (by lia) hn) fun t Y0=>?_;refine xe Y0 fun q Y1=>?_;have t1:=Y1.1;have t2:=Y1.2.1;have t3:=Y1.2.2;try clear Y0 Y1
  by_cases hv3:v=3
  ·subst hv3
   exact ⟨.f t,q,by simp[T.size];lia,by lia,zB0 ze4 (xQ9 (c+3) (enc t) (ns.map .int) place q _) ⟨h2,t3,rfl,rfl⟩⟩
  ·refine xe (zj2 ns q (c+1) (by lia) hn) fun u Y0=>?_;refine xe Y0 fun r Y1=>?_;have u1:=Y1.1;have u2:=Y1.2.1;have u3:=Y1.2.2;try clear Y0 Y1
   exact ⟨.g t u,r,by simp[T.size];lia,by lia,zB0 ze4 (xR1 (c+3) (enc t) (enc u) (ns.map .int) place v q r (by lia) _) ⟨h2,t3,u3,rfl,rfl⟩⟩
end Mine
namespace Mine
open PySem
noncomputable abbrev px:D:=.tup [S "?x"]
noncomputable abbrev py:D:=.tup [S "?y"]
noncomputable abbrev mkf (x:D):D:=.tup [S "f",x]
noncomputable abbrev mkg (x y:D):D:=.tup [S "g",x,y]
noncomputable abbrev pr (x:String) (d:D):D:=.tup [S x,d]
noncomputable abbrev stD (path:D) (kind name:String) (pl:List D) (b:Bool):D:=.tup [path,S kind,S name,.tup pl,.bool b]
noncomputable def z26:List D:=[.tup [S "swap",mkg px py,mkg py px],.tup [S "fold",mkf (mkf px),px],.tup [S "move",mkg (mkf px) py,mkg px (mkf py)]]
theorem yW1 (c:Nat):Ok (c+1) 342 [] (.ownL z26,none):=by unfold Ok;kernel_rfl
theorem ye7:stmts 399=[st 399 0,.For (zC1 (st 399 1)) (zD4 (st 399 1)) (zA7 (st 399 1)) [] (zL8 (st 399 1)),st 399 2]:=by kernel_rfl
noncomputable def cb (i:Nat):Stmt:=((zA7 (st 399 1))[i]?).getD (.Pass default)
theorem xR2:zA7 (st 399 1)=[cb 0,cb 1]:=by kernel_rfl
theorem xY2 (c:Nat) (s u:D):Ok (c+4) 380 [.val (mkg px py),.val (mkg s u),.val (.dict [])] (rv (.dict [(S "?x",s),(S "?y",u)]) (mkg px py)):=by unfold Ok;kernel_rfl
theorem xY3 (c:Nat) (s u:D):Ok (c+4) 380 [.val (mkg py px),.val (mkg s u),.val (.dict [])] (rv (.dict [(S "?y",s),(S "?x",u)]) (mkg py px)):=by unfold Ok;kernel_rfl
theorem xY4 (c:Nat) (s:D):Ok (c+4) 380 [.val (mkf (mkf px)),.val (mkf (mkf s)),.val (.dict [])] (rv (.dict [(S "?x",s)]) (mkf (mkf px))):=by unfold Ok;kernel_rfl
theorem xY5 (c:Nat) (s:D):Ok (c+4) 380 [.val px,.val s,.val (.dict [])] (.ownD [(S "?x",s)],some (.val px)):=by unfold Ok;kernel_rfl
theorem xY6 (c:Nat) (s u:D):Ok (c+4) 380 [.val (mkg (mkf px) py),.val (mkg (mkf s) u),.val (.dict [])] (rv (.dict [(S "?x",s),(S "?y",u)]) (mkg (mkf px) py)):=by unfold Ok;kernel_rfl
theorem xY7 (c:Nat) (s u:D):Ok (c+4) 380 [.val (mkg px (mkf py)),.val (mkg s (mkf u)),.val (.dict [])] (rv (.dict [(S "?x",s),(S "?y",u)]) (mkg px (mkf py))):=by unfold Ok;kernel_rfl
inductive HeadD:D→Prop
 | a:HeadD (.tup [S "a"])
 | b:HeadD (.tup [S "b"])
 | c:HeadD (.tup [S "c"])
 | g (x y:D):HeadD (mkg x y)
theorem xY8 (c:Nat) (s:D):Ok (c+4) 380 [.val (mkg px py),.val (mkf s),.val (.dict [])] (rv .none (mkg px py)):=by unfold Ok;kernel_rfl
theorem xY9 (c:Nat) (s:D):Ok (c+4) 380 [.val (mkg py px),.val (mkf s),.val (.dict [])] (rv .none (mkg py px)):=by unfold Ok;kernel_rfl
theorem xZ0 (c:Nat) (s:D):Ok (c+4) 380 [.val (mkg (mkf px) py),.val (mkf s),.val (.dict [])] (rv .none (mkg (mkf px) py)):=by unfold Ok;kernel_rfl
theorem xZ1 (c:Nat) (s:D):Ok (c+4) 380 [.val (mkg px (mkf py)),.val (mkf s),.val (.dict [])] (rv .none (mkg px (mkf py))):=by unfold Ok;kernel_rfl
theorem xZ2 (c:Nat) {s:D} (h:HeadD s):Ok (c+4) 380 [.val (mkf (mkf px)),.val (mkf s),.val (.dict [])] (rv .none (mkf (mkf px))):=by
 cases h<;>(unfold Ok;kernel_rfl)
theorem xZ3 (c:Nat) (s u:D):Ok (c+4) 380 [.val (mkf (mkf px)),.val (mkg s u),.val (.dict [])] (rv .none (mkf (mkf px))):=by unfold Ok;kernel_rfl
theorem xZ4 (c:Nat) {s:D} (u:D) (h:HeadD s):Ok (c+4) 380 [.val (mkg (mkf px) py),.val (mkg s u),.val (.dict [])] (rv .none (mkg (mkf px) py)):=by
 cases h<;>(unfold Ok;kernel_rfl)
theorem xZ5 (c:Nat) (s:D) {u:D} (h:HeadD u):Ok (c+4) 380 [.val (mkg px (mkf py)),.val (mkg s u),.val (.dict [])] (rv .none (mkg px (mkf py))):=by
 cases h<;>(unfold Ok;kernel_rfl)
inductive LeafD:D→Prop
 | a:LeafD (.tup [S "a"])
 | b:LeafD (.tup [S "b"])
 | c:LeafD (.tup [S "c"])
theorem noL (c:Nat) {p s:D} (hp:p=mkg px py∨p=mkg py px∨p=mkf (mkf px)∨p=mkg (mkf px) py∨p=mkg px (mkf py)) (h:LeafD s):Ok (c+4) 380 [.val p,.val s,.val (.dict [])] (rv .none p):=by
 rcases hp with rfl | rfl | rfl | rfl | rfl<;>cases h<;>(unfold Ok;kernel_rfl)
theorem xR3 (c:Nat) (s u:D):Ok (c+4) 385 [.val (mkg py px),.val (.dict [(S "?x",s),(S "?y",u)])] (rv (mkg u s) (mkg py px)):=by unfold Ok;kernel_rfl
theorem xR4 (c:Nat) (s u:D):Ok (c+4) 385 [.val (mkg px py),.val (.dict [(S "?y",s),(S "?x",u)])] (rv (mkg u s) (mkg px py)):=by unfold Ok;kernel_rfl
theorem xR5 (c:Nat) (s:D):Ok (c+4) 385 [.val px,.val (.dict [(S "?x",s)])] (rv s px):=by unfold Ok;kernel_rfl
theorem xR6 (c:Nat) (s:D):Ok (c+4) 385 [.val (mkf (mkf px)),.val (.dict [(S "?x",s)])] (rv (mkf (mkf s)) (mkf (mkf px))):=by unfold Ok;kernel_rfl
theorem xR7 (c:Nat) (s u:D):Ok (c+4) 385 [.val (mkg px (mkf py)),.val (.dict [(S "?x",s),(S "?y",u)])] (rv (mkg s (mkf u)) (mkg px (mkf py))):=by unfold Ok;kernel_rfl
theorem xR8 (c:Nat) (s u:D):Ok (c+4) 385 [.val (mkg (mkf px) py),.val (.dict [(S "?x",s),(S "?y",u)])] (rv (mkg (mkf s) u) (mkg (mkf px) py)):=by unfold Ok;kernel_rfl
end Mine
namespace Mine
open PySem
noncomputable def in0:Stmt:=((zA7 (cb 0))[0]?).getD (.Pass default)
theorem xH4:cb 0=.For (zC1 (cb 0)) (zD4 (cb 0)) [in0] [] (zL8 (cb 0)):=by kernel_rfl
theorem xH5:in0=.For (zC1 in0) (zD4 in0) (zA7 in0) [] (zL8 in0):=by kernel_rfl
noncomputable abbrev ex2:Rho→Stmt→Prc (Fl×Rho):=zK1 G (evs G 40) 38 (zA5 399).scope
noncomputable abbrev ex3:Rho→Stmt→Prc (Fl×Rho):=zK1 G (evs G 40) 37 (zA5 399).scope
noncomputable abbrev zI5 (t told:D) (fs:List D) (path part:D) (x:Rho):Rho:=nm "t" (.val t)::nm "told" (.val told)::nm "found" (.ownL fs)::nm "path" (.val path)::nm "part" (.val part)::x
noncomputable abbrev zg7 (n l r:D) (x:Rho):Rho:=nm "name" (.val n)::nm "left" (.val l)::nm "right" (.val r)::x
noncomputable abbrev zt1 (h th:D) (b:Bool) (y:Rho):Rho:=nm "here" (.val h)::nm "there" (.val th)::nm "is_back" (.val (.bool b))::y
noncomputable abbrev yJ1 (lb x y:D):Rho:=[nm "label" (.val lb),nm "one" (.val x),nm "other" (.val y)]
inductive TX:Bool→Rho→Prop
 | z:TX false []
 | t (h th tb:D) (b:Bool):TX false (zt1 h th b [nm "table" (.val tb)])
 | s (h th tb st:D) (b:Bool):TX true (zt1 h th b [nm "table" (.val tb),nm "step" (.val st)])
 | l (h th tb st:D) (b:Bool) (lb x y:D):TX true (zt1 h th b (nm "table" (.val tb)::nm "step" (.val st)::yJ1 lb x y))
inductive TOb:Bool→Rho→Prop
 | z:TOb false []
 | o (n l r:D) (b:Bool) (x:Rho) (h:TX b x):TOb b (zg7 n l r x)
theorem TOb.x {b:Bool} {o:Rho} (h:TOb b o):TX b (o.drop 3):=by
 induction h with
 | z=>exact .z
 | o n l r b x h=>exact h
theorem TX.no {b:Bool} {x:Rho} (hx:TX b x) (h th:D) (bb:Bool):TX (false || b) (zt1 h th bb (nm "table" (.val .none)::(x.drop 4))):=by
 induction hx with
 | z=>exact .t ..
 | t=>exact .t ..
 | s=>exact .s ..
 | l=>exact .l ..
theorem TX.yes {b:Bool} {x:Rho} (hx:TX b x) (h th tb st:D) (bb:Bool):TX (true || b) (zt1 h th bb (nm "table" (.val tb)::nm "step" (.val st)::x.drop 5)):=by
 induction hx with
 | z=>exact .s ..
 | t=>exact .s ..
 | s=>exact .s ..
 | l=>exact .l ..
inductive Tab:R→List (D×D)→List D→Prop
 | xy (s u:D):Tab (.val (.dict [(S "?x",s),(S "?y",u)])) [(S "?x",s),(S "?y",u)] [pr "?x" s,pr "?y" u]
 | yx (s u:D):Tab (.val (.dict [(S "?y",s),(S "?x",u)])) [(S "?y",s),(S "?x",u)] [pr "?x" u,pr "?y" s]
 | x (s:D):Tab (.val (.dict [(S "?x",s)])) [(S "?x",s)] [pr "?x" s]
 | o (s:D):Tab (.ownD [(S "?x",s)]) [(S "?x",s)] [pr "?x" s]
noncomputable abbrev stE (path n:D) (pl:List D) (b:Bool):D:=.tup [path,S "rule",n,.tup pl,.bool b]
theorem xH6 {b:Bool} {o:Rho} (ho:TOb b o) (t told path part n l r:D) (fs:List D):zB9 (zA5 399).scope (zC1 (cb 0)) (.tup [n,l,r]) (zI5 t told fs path part o)=some (zI5 t told fs path part (zg7 n l r (o.drop 3))):=by
 induction ho with
 | z=>kernel_rfl
 | o _ _ _ _ _ h=>induction h<;>kernel_rfl
theorem xH7 (c:Nat) (t told path part:D) (fs:List D) (o:Rho) (Q:List D×Rho→Prop):zA8 c (zC0 G ((evs G 40).e (zA5 399).scope) (zA5 399).scope (zE7 (zC1 (cb 0))) (zI5 t told fs path part o) (zD4 (cb 0))) [.call (.ownL z26,none)] true Q=(Ok c 342 [] (.ownL z26,none)∧true=true∧Q (z26,zI5 t told fs path part o)):=by kernel_rfl
theorem xR9 (c:Nat) (t told path part n l r:D) (fs:List D) (x:Rho) (Q:List D×Rho→Prop):zA8 c (zC0 G ((evs G 40).e (zA5 399).scope) (zA5 399).scope (zE7 (zC1 in0)) (zI5 t told fs path part (zg7 n l r x)) (zD4 in0)) [] true Q=(true=true∧Q ([.tup [l,r,.bool false],.tup [r,l,.bool true]],zI5 t told fs path part (zg7 n l r x))):=by kernel_rfl
theorem xS0 {b0:Bool} {x:Rho} (hx:TX b0 x) (t told path part n l r h th:D) (b:Bool) (fs:List D):zB9 (zA5 399).scope (zC1 in0) (.tup [h,th,.bool b]) (zI5 t told fs path part (zg7 n l r x))=some (zI5 t told fs path part (zg7 n l r (zt1 h th b (x.drop 3)))):=by induction hx<;>kernel_rfl
noncomputable abbrev ys0 (x:Rho) (as:List Ans) (c:Nat) (t told path part n l r h th:D) (b:Bool) (fs:List D) (Q:Fl×Rho→Prop):Prop:=zA8 c (zB2 ex3 (zA7 in0) (zI5 t told fs path part (zg7 n l r (zt1 h th b (x.drop 3))))) as true Q
noncomputable abbrev xH8 (x:Rho) (c:Nat) (t told path part n l r h th:D) (b:Bool) (fs:List D) (Q:Fl×Rho→Prop):Prop :=
 Ok c 380 [.val h,.val part,.val (.dict [])] (rv .none h)∧true=true∧Q (.next,zI5 t told fs path part (zg7 n l r (zt1 h th b (nm "table" (.val .none)::x.drop 4))))
noncomputable abbrev y29 (x:Rho) (tb:R) (es:List (D×D)) (pl:List D) (ld w:D) (c:Nat) (t told path part n l r h th:D) (b:Bool) (fs:List D) (Q:Fl×Rho→Prop):Prop :=
 Ok c 380 [.val h,.val part,.val (.dict [])] (tb,some (.val h))∧Ok c 385 [.val th,.val (.dict es)] (rv ld th)∧Ok c 392 [.val t,.val path,.val ld] (rv w t)∧nd [zA0 fs]=true ∧
 Q (.next,zI5 t told (fs++[.tup [stE path n pl b,w]]) path part (zg7 n l r (zt1 h th b (nm "table" (.val (.dict es))::nm "step" (.val (stE path n pl b))::x.drop 5))))
theorem xS1 {b0:Bool} {x:Rho} (hx:TX b0 x) (c:Nat) (t told path part n l r h th:D) (b:Bool) (fs:List D) (Q:Fl×Rho→Prop):ys0 x [.call (rv .none h)] c t told path part n l r h th b fs Q=xH8 x c t told path part n l r h th b fs Q:=by induction hx<;>kernel_rfl
theorem xH9 {b0:Bool} {x:Rho} (hx:TX b0 x) {tb:R} {es:List (D×D)} {pl:List D} (ht:Tab tb es pl) (ld w:D) (c:Nat) (t told path part n l r h th:D) (b:Bool) (fs:List D) (Q:Fl×Rho→Prop) :
  ys0 x [.call (tb,some (.val h)),.call (rv ld th),.call (rv w t)] c t told path part n l r h th b fs Q=y29 x tb es pl ld w c t told path part n l r h th b fs Q:=by induction hx<;>induction ht<;>kernel_rfl
end Mine
namespace Mine
open PySem
noncomputable def lb1 (j:Nat):Stmt:=((zA7 (cb 1))[j]?).getD (.Pass default)
theorem xI0:cb 1=.For (zC1 (cb 1)) (zD4 (cb 1)) [lb1 0,lb1 1,lb1 2] [] (zL8 (cb 1)):=by kernel_rfl
noncomputable abbrev tdD (X Y:D):D:=.dict [(S "s",.tup [.tup [S "a"],X]),(S "t",.tup [mkg (.tup [S "a"]) (.tup [S "b"]),Y])]
theorem xS2 (c:Nat) (t path part:D) (fs:List D) (X Y:D) (o:Rho) (Q:List D×Rho→Prop):zA8 c (zC0 G ((evs G 40).e (zA5 399).scope) (zA5 399).scope (zE7 (zC1 (cb 1))) (zI5 t (tdD X Y) fs path part o) (zD4 (cb 1))) [] true Q=(true=true∧Q ([S "s",S "t"],zI5 t (tdD X Y) fs path part o)):=by kernel_rfl
inductive TL:Rho→Prop
 | s (n l r h th tb st:D) (b:Bool):TL (zg7 n l r (zt1 h th b [nm "table" (.val tb),nm "step" (.val st)]))
 | l (n l r h th tb st:D) (b:Bool) (lb x y:D):TL (zg7 n l r (zt1 h th b (nm "table" (.val tb)::nm "step" (.val st)::yJ1 lb x y)))
theorem TX.tl {b:Bool} {x:Rho} (h:TX b x) (n l r:D):b=true→TL (zg7 n l r x):=by
 induction h with
 | z=>exact fun e=>nomatch e
 | t=>exact fun e=>nomatch e
 | s=>exact fun uu=>.s ..
 | l=>exact fun uu=>.l ..
theorem TOb.tl {b:Bool} {o:Rho} (h:TOb b o):b=true→TL o:=by
 induction h with
 | z=>exact fun e=>nomatch e
 | o n l r b x h=>exact h.tl n l r
theorem TL.to {o:Rho} (h:TL o):TOb true o:=by
 induction h with
 | s=>exact .o _ _ _ _ _ (.s ..)
 | l=>exact .o _ _ _ _ _ (.l ..)
theorem TL.lab {o:Rho} (h:TL o) (lb x y:D):TL (o.take 8++yJ1 lb x y):=by
 induction h with
 | s=>exact .l ..
 | l=>exact .l ..
theorem xS3 {o:Rho} (h:TL o) (t told path part lb:D) (fs:List D):zB9 (zA5 399).scope (zC1 (cb 1)) lb (zI5 t told fs path part o)=some (zI5 t told fs path part (o.take 8++nm "label" (.val lb)::o.drop 9)):=by induction h<;>kernel_rfl
noncomputable abbrev ze5 (i:Nat) (o:Rho) (c:Nat) (t told path part:D) (fs:List D) (as:List Ans) (Q:Fl×Rho→Prop):Prop:=zA8 c (ex2 (zI5 t told fs path part o) (lb1 i)) as true Q
noncomputable abbrev zt2 (t told:D) (fs:List D) (path part:D) (o:Rho) (lb x y:D):Rho:=zI5 t told fs path part (o.take 8++yJ1 lb x y)
theorem xZ6 {o:Rho} (h:TL o) (c:Nat) (t path part:D) (fs:List D) (X Y:D) (Q:Fl×Rho→Prop):ze5 0 (o.take 8++nm "label" (.val (S "s"))::o.drop 9) c t (tdD X Y) path part fs [] Q=(true=true∧Q (.next,zt2 t (tdD X Y) fs path part o (S "s") (.tup [S "a"]) X)):=by induction h<;>kernel_rfl
theorem xZ7 {o:Rho} (h:TL o) (c:Nat) (t path part:D) (fs:List D) (X Y:D) (Q:Fl×Rho→Prop):ze5 0 (o.take 8++nm "label" (.val (S "t"))::o.drop 9) c t (tdD X Y) path part fs [] Q=(true=true∧Q (.next,zt2 t (tdD X Y) fs path part o (S "t") (mkg (.tup [S "a"]) (.tup [S "b"])) Y)):=by induction h<;>kernel_rfl
noncomputable abbrev tlE (path lb:D) (b:Bool):D:=.tup [path,S "told",lb,.tup [],.bool b]
theorem y30 {o:Rho} (h:TL o) (c:Nat) (t told path part lb x y w:D) (fs:List D) (Q:Fl×Rho→Prop):ze5 1 (o.take 8++yJ1 lb x y) c t told path part fs [.b true,.call (rv w t)] Q=(deq part x=some true∧Ok c 392 [.val t,.val path,.val y] (rv w t)∧nd [zA0 fs]=true∧Q (.next,zt2 t told (fs++[.tup [tlE path lb false,w]]) path part o lb x y)):=by induction h<;>kernel_rfl
theorem xI1 {o:Rho} (h:TL o) (c:Nat) (t told path part lb x y:D) (fs:List D) (Q:Fl×Rho→Prop):ze5 1 (o.take 8++yJ1 lb x y) c t told path part fs [.b false] Q=(deq part x=some false∧true=true∧Q (.next,zt2 t told fs path part o lb x y)):=by induction h<;>kernel_rfl
theorem y31 {o:Rho} (h:TL o) (c:Nat) (t told path part lb x y w:D) (fs:List D) (Q:Fl×Rho→Prop):ze5 2 (o.take 8++yJ1 lb x y) c t told path part fs [.b true,.call (rv w t)] Q=(deq part y=some true∧Ok c 392 [.val t,.val path,.val x] (rv w t)∧nd [zA0 fs]=true∧Q (.next,zt2 t told (fs++[.tup [tlE path lb true,w]]) path part o lb x y)):=by induction h<;>kernel_rfl
theorem xI2 {o:Rho} (h:TL o) (c:Nat) (t told path part lb x y:D) (fs:List D) (Q:Fl×Rho→Prop):ze5 2 (o.take 8++yJ1 lb x y) c t told path part fs [.b false] Q=(deq part y=some false∧true=true∧Q (.next,zt2 t told fs path part o lb x y)):=by induction h<;>kernel_rfl
theorem xI3:G.fn 399=some (zA5 399):=by kernel_rfl
theorem yW2:(zA5 399).params=[Str.ofString "t",Str.ofString "told"]:=by kernel_rfl
theorem xZ8 (c:Nat) (t told:D) (Q:Fl×Rho→Prop):zA8 c (ex 399 [nm "t" (.val t),nm "told" (.val told)] (st 399 0)) [] true Q=(true=true∧Q (.next,[nm "t" (.val t),nm "told" (.val told),nm "found" (.ownL [])])):=by kernel_rfl
theorem xS4 (c:Nat) (t told:D) (l:List D) (Q:List D×Rho→Prop):zA8 c (zC0 G ((evs G 40).e (zA5 399).scope) (zA5 399).scope (zE7 (zC1 (st 399 1))) [nm "t" (.val t),nm "told" (.val told),nm "found" (.ownL [])] (zD4 (st 399 1))) [.call (rv (.list l) t)] true Q=(Ok c 373 [.val t] (rv (.list l) t)∧nd [zA0 l]=true∧Q (l,[nm "t" (.val t),nm "told" (.val told),nm "found" (.ownL [])])):=by kernel_rfl
theorem xI4 (t told p d:D) (fs:List D):zB9 (zA5 399).scope (zC1 (st 399 1)) (.tup [p,d]) [nm "t" (.val t),nm "told" (.val told),nm "found" (.ownL fs)]=some (zI5 t told fs p d []):=by kernel_rfl
theorem xI5 (t told path part p d:D) (fs:List D) (o:Rho):zB9 (zA5 399).scope (zC1 (st 399 1)) (.tup [p,d]) (zI5 t told fs path part o)=some (zI5 t told fs p d o):=by kernel_rfl
theorem xI6 (c:Nat) (t told path part:D) (fs:List D) (r:Rho) (Q:Fl×Rho→Prop):zA8 c (zB2 (ex 399) [st 399 2] (zI5 t told fs path part r)) [] true Q=(true=true∧Q (.ret (.val (.list fs)),nm "t" (.val t)::nm "told" (.val told)::nm "found" (.val (.list fs))::nm "path" (.val path)::nm "part" (.val part)::r)):=by kernel_rfl
end Mine
namespace Mine
open PySem
inductive Ax where
 | swap (x y:T) | fold (x:T) | move (x y:T) | s | t
structure Stp where
 path:List Nat
 ax:Ax
 back:Bool
noncomputable def Ax.l (X Y:T):Ax→T
 | .swap x y=>.g x y
 | .fold x=>.f (.f x)
 | .move x y=>.g (.f x) y
 | .s=>.a
 | .t=>.g .a .b
noncomputable def Ax.r (X Y:T):Ax→T
 | .swap x y=>.g y x
 | .fold x=>x
 | .move x y=>.g x (.f y)
 | .s=>X
 | .t=>Y
noncomputable def Stp.src (X Y:T) (st:Stp):T:=if st.back then st.ax.r X Y else st.ax.l X Y
noncomputable def Stp.dst (X Y:T) (st:Stp):T:=if st.back then st.ax.l X Y else st.ax.r X Y
noncomputable def Ax.kind:Ax→String
 | .s=>"told"
 | .t=>"told"
 | _=>"rule"
noncomputable def Ax.name:Ax→String
 | .swap _ _=>"swap"
 | .fold _=>"fold"
 | .move _ _=>"move"
 | .s=>"s"
 | .t=>"t"
noncomputable def Ax.places:Ax→List D
 | .swap x y=>[pr "?x" (enc x),pr "?y" (enc y)]
 | .fold x=>[pr "?x" (enc x)]
 | .move x y=>[pr "?x" (enc x),pr "?y" (enc y)]
 | _=>[]
noncomputable def zA6 (st:Stp):D:=stD (zF2 st.path) st.ax.kind st.ax.name st.ax.places st.back
noncomputable def zJ5 (X Y:T) (t:T) (st:Stp) (u:T):Prop:=sub t st.path=some (st.src X Y)∧u=rep t st.path (st.dst X Y)
noncomputable def ch (q:List Nat) (ax:Ax) (b:Bool) (u:T):D:=.tup [zA6 ⟨q,ax,b⟩,enc u]
noncomputable def ys1 (X Y t:T) (d:D):Prop:=∃ (st:Stp) (u:T),d=.tup [zA6 st,enc u]∧zJ5 X Y t st u
noncomputable abbrev zH2 (X Y t:T) (cs:List D):Prop:=∀ d∈cs,ys1 X Y t d
theorem zF8 {X Y t:T} {cs ds:List D} (h:zH2 X Y t cs) (g:zH2 X Y t ds):zH2 X Y t (cs++ds):=List.forall_mem_append.mpr ⟨h,g⟩
theorem zZ4 {X Y t:T}:zH2 X Y t []:=fun uu h=>nomatch h
theorem zZ5 {X Y t:T} {st:Stp} {u:T} (h:zJ5 X Y t st u):zH2 X Y t [.tup [zA6 st,enc u]]:=List.forall_mem_singleton.mpr ⟨st,u,rfl,h⟩
inductive Out (c:Nat) (t path part n h th:D) (b:Bool):Bool→List D→Prop
 | no:Ok c 380 [.val h,.val part,.val (.dict [])] (rv .none h)→Out c t path part n h th b false []
 | yes {tb:R} {es:List (D×D)} {pl:List D} {ld w:D}:Tab tb es pl→Ok c 380 [.val h,.val part,.val (.dict [])] (tb,some (.val h))→Ok c 385 [.val th,.val (.dict es)] (rv ld th)→Ok c 392 [.val t,.val path,.val ld] (rv w t)→Out c t path part n h th b true [.tup [stE path n pl b,w]]
theorem Out.one {c:Nat} {t path part n h th:D} {b f:Bool} {cs:List D} (o:Out c t path part n h th b f cs):cs.length≤1:=by
 induction o with
 | no=>exact Nat.zero_le _
 | yes=>exact Nat.le_refl _
noncomputable abbrev inL (ds:List D) (ρ:Rho):Prc (Fl×Rho):=zc8 (zB9 (zA5 399).scope (zC1 in0)) (fun ρ'=>zB2 ex3 (zA7 in0) ρ') ds ρ
noncomputable abbrev xS5 (ds:List D) (ρ:Rho):Prc (Fl×Rho):=zc8 (zB9 (zA5 399).scope (zC1 (cb 0))) (fun ρ'=>zB2 ex2 [in0] ρ') ds ρ
theorem zQ9 {m:Nat} {fs cs:List D} (h:fs.length+(m+1)≤8000000) (h1:cs.length≤1):(fs++cs).length+m≤8000000:=by
 rw[List.length_append,Nat.add_assoc,Nat.add_comm cs.length m]
 exact Nat.le_trans (Nat.add_le_add_left (Nat.add_le_add_left h1 m) _) h
section
variable {c:Nat} {t told path part n l r h th:D} {b b0 f:Bool} {cs ds fs:List D} {x:Rho} {Q:Fl×Rho→Prop} {m:Nat}
theorem ys2 (hx:TX b0 x) (o:Out c t path part n h th b f cs) (hf:fs.length+(m+1)≤8000000) (k:∀ x',TX (f || b0) x'→wp c (inL ds (zI5 t told (fs++cs) path part (zg7 n l r x'))) Q) :
  wp c (inL (.tup [h,th,.bool b]::ds) (zI5 t told fs path part (zg7 n l r x))) Q:=by
 refine zG5 (xS0 hx t told path part n l r h th b fs) ?_
 induction o with
 | no h1=>exact zA9 (xS1 hx c t told path part n l r h th b fs _) ⟨h1,rfl,rfl,(List.append_nil fs)▸k _ (hx.no h th b)⟩
 | yes ht h1 h2 h3=>exact zA9 (xH9 hx ht _ _ c t told path part n l r h th b fs _) ⟨h1,h2,h3,zi9 (List.forall_mem_singleton.mpr (zB7 (Nat.le_trans (Nat.le_add_right _ _) hf))),rfl,k _ (hx.yes h th _ _ b)⟩
noncomputable abbrev Row (c:Nat) (t path part n l r:D) (f1 f2:Bool) (c1 c2:List D):Prop:=Out c t path part n l r false f1 c1∧Out c t path part n r l true f2 c2
theorem z95 {o:Rho} {f1 f2:Bool} {c1 c2:List D} (ho:TOb b0 o) (w:Row c t path part n l r f1 f2 c1 c2) (hf:fs.length+(m+2)≤8000000) (k:∀ o',TOb (f2 || (f1 || b0)) o'→wp c (xS5 ds (zI5 t told (fs++c1++c2) path part o')) Q) :
  wp c (xS5 (.tup [n,l,r]::ds) (zI5 t told fs path part o)) Q:=by
 refine zG5 (xH6 ho t told path part n l r fs) (zC2 ?_)
 rw[xH5]
 exact zN9 (zA9 (xR9 c t told path part n l r fs (o.drop 3) _) ⟨rfl,ys2 ho.x w.1 hf fun x1 h1=>ys2 h1 w.2 (zQ9 hf w.1.one) fun x2 h2=>zC8 ⟨rfl,zC8 ⟨rfl,k _ (.o _ _ _ _ _ h2)⟩⟩⟩)
end
structure RowsStep (c:Nat) (X Y t:T) (q:List Nat) (p:T) (cs:List D):Prop where
 ok:zH2 X Y t cs
 ne:cs≠[]
 few:cs.length≤6
 run (b:Bool) (told:D) (fs:List D) (o:Rho):TOb b o→fs.length+6≤8000000→wp c (ex' 399 (zI5 (enc t) told fs (zF2 q) (enc p) o) (cb 0)) fun r=>r.1=.next∧∃ o',TL o'∧r.2=zI5 (enc t) told (fs++cs) (zF2 q) (enc p) o'
noncomputable def y32 (c:Nat) (X Y t:T) (q:List Nat) (p:T) (n h th:D) (b f:Bool) (cs:List D):Prop:=Out c (enc t) (zF2 q) (enc p) n h th b f cs∧zH2 X Y t cs
section
variable {c:Nat} {X Y t:T} {q:List Nat} {p s u:T}
noncomputable abbrev N0 (c:Nat) (p:T) (h:D):Prop:=Ok c 380 [.val h,.val (enc p),.val (.dict [])] (rv .none h)
theorem ys3 {n h th:D} {b:Bool} (g:N0 c p h):∃ f cs,y32 c X Y t q p n h th b f cs:=⟨_,_,.no g,zZ4⟩
theorem za6 {tb:R} {es:List (D×D)} {pl:List D} {n h th:D} {b:Bool} {ld:T} {st:Stp} (hq:sub t q=some p) (hl:q.length < c) (hc:10≤c∧c≤1000) (ht:Tab tb es pl) (h1:Ok 4 380 [.val h,.val (enc p),.val (.dict [])] (tb,some (.val h))) (h2:Ok 4 385 [.val th,.val (.dict es)] (rv (enc ld) th))
  (e:zA6 st=stE (zF2 q) n pl b) (k:zJ5 X Y t st (rep t q ld)):y32 c X Y t q p n h th b true [.tup [stE (zF2 q) n pl b,enc (rep t q ld)]] :=
 have h4:4≤c:=Nat.le_trans (by decide) hc.1
 ⟨.yes ht (h1.up h4) (h2.up h4) (z91 q t ld p c hq hl hc.2),e▸zZ5 k⟩
end
end Mine
namespace Mine
open PySem
noncomputable abbrev pS (x:String):PyData:=.str (Str.ofString x)
noncomputable def pyT:T→PyData
 | .a=>.tuple [pS "a"]
 | .b=>.tuple [pS "b"]
 | .c=>.tuple [pS "c"]
 | .f t=>.tuple [pS "f",pyT t]
 | .g t u=>.tuple [pS "g",pyT t,pyT u]
theorem zj3 (x:String) (h:PyData.strOk (Str.ofString x)=true):zG9 (S x)=some (pS x):=by unfold zG9;rw[if_pos h]
theorem sa:zG9 (S "a")=some (pS "a"):=zj3 _ (by decide +kernel)
theorem sbb:zG9 (S "b")=some (pS "b"):=zj3 _ (by decide +kernel)
theorem sc:zG9 (S "c")=some (pS "c"):=zj3 _ (by decide +kernel)
theorem sf:zG9 (S "f")=some (pS "f"):=zj3 _ (by decide +kernel)
theorem sg:zG9 (S "g")=some (pS "g"):=zj3 _ (by decide +kernel)
theorem tpL {d:D} {ds:List D} {p:PyData} {ps:List PyData} (h:zG9 d=some p) (g:zK0 ds=some ps):zK0 (d::ds)=some (p::ps):=zG2 h (zG2 g rfl)
theorem tpN:zK0 []=some []:=rfl
theorem tpT {ds:List D} {ps:List PyData} (h:zK0 ds=some ps):zG9 (.tup ds)=some (.tuple ps):=congrArg (Option.map PyData.tuple) h
theorem tpI {ds:List D} {ps:List PyData} (h:zK0 ds=some ps):zG9 (.list ds)=some (.list ps):=congrArg (Option.map PyData.list) h
theorem zI6 (t:T):zG9 (enc t)=some (pyT t):=by
 induction t with
 | a=>exact tpT (tpL sa tpN)
 | b=>exact tpT (tpL sbb tpN)
 | c=>exact tpT (tpL sc tpN)
 | f t ih=>exact tpT (tpL sf (tpL ih tpN))
 | g t u i1 i2=>exact tpT (tpL sg (tpL i1 (tpL i2 tpN)))
theorem dpN {n:Nat}:PyData.depthAll []≤n:=Nat.zero_le n
theorem dpL {x:PyData} {a:List PyData} {n:Nat} (h:x.depth≤n) (g:PyData.depthAll a≤n):PyData.depthAll (x::a)≤n:=Nat.max_le.mpr ⟨h,g⟩
theorem dpT {a:List PyData} {n:Nat} (h:PyData.depthAll a≤n):(PyData.tuple a).depth≤n+1:=Nat.succ_le_succ h
theorem dpI {a:List PyData} {n:Nat} (h:PyData.depthAll a≤n):(PyData.list a).depth≤n+1:=Nat.succ_le_succ h
theorem dpS {x:String} {n:Nat}:(pS x).depth≤n:=Nat.zero_le n
theorem zL9 (t:T):(pyT t).depth≤t.size:=by
 induction t with
 | f t ih=>exact dpT (dpL dpS (dpL ih dpN))
 | g t u i1 i2=>exact dpT (dpL dpS (dpL (Nat.le_trans i1 (Nat.le_add_right _ _)) (dpL (Nat.le_trans i2 (Nat.le_add_left _ _)) dpN)))
 | _=>exact dpT (dpL dpS dpN)
theorem zJ6 {x y:PyData} {a b:List PyData} (h:PyData.eqvAll (x::a) (y::b)=true):PyData.eqv x y=true∧PyData.eqvAll a b=true:=Bool.and_eq_true_iff.mp h
theorem z96 {y:PyData} {b:List PyData} {P:Prop} (h:PyData.eqvAll [] (y::b)=true):P:=nomatch (show false=true from h)
theorem yQ8 {y:PyData} {b:List PyData} {P:Prop} (h:PyData.eqvAll (y::b) []=true):P:=nomatch (show false=true from h)
theorem za7 {x y:String} {a b:List PyData} {P:Prop} (n:(Str.ofString x == Str.ofString y)=false) (h:PyData.eqvAll (pS x::a) (pS y::b)=true):P:=absurd (n.symm.trans (zJ6 h).1) Bool.false_ne_true
theorem y33 (t:T):∀ u,PyData.eqv (pyT t) (pyT u)=true→t=u:=by
 induction t with
 | a =>
  intro u h
  cases u with
   | a=>rfl
   | b=>exact za7 (by decide +kernel) h
   | c=>exact za7 (by decide +kernel) h
   | _=>exact z96 (zJ6 h).2
 | b =>
  intro u h
  cases u with
   | a=>exact za7 (by decide +kernel) h
   | b=>rfl
   | c=>exact za7 (by decide +kernel) h
   | _=>exact z96 (zJ6 h).2
 | c =>
  intro u h
  cases u with
   | a=>exact za7 (by decide +kernel) h
   | b=>exact za7 (by decide +kernel) h
   | c=>rfl
   | _=>exact z96 (zJ6 h).2
 | f t ih =>
  intro u h
  cases u with
   | f x=>exact congrArg T.f (ih x (zJ6 (zJ6 h).2).1)
   | g x y=>exact z96 (zJ6 (zJ6 h).2).2
   | _=>exact yQ8 (zJ6 h).2
 | g t s ih1 ih2 =>
  intro u h
  cases u with
   | f x=>exact yQ8 (zJ6 (zJ6 h).2).2
   | g x y =>
    have k:=zJ6 (zJ6 h).2
    rw[ih1 x k.1,ih2 y (zJ6 k.2).1]
   | _=>exact yQ8 (zJ6 h).2
theorem yQ9 {a b:D} {p q:PyData} (h:zG9 a=some p) (g:zG9 b=some q) (hd:min p.depth q.depth≤400):deq a b=some (PyData.eqv p q):=zG2 h (zG2 g (if_pos hd))
theorem yW3 (t u:T) (h:u.size≤400):∃ b,deq (enc t) (enc u)=some b∧(b=true→t=u) :=
 ⟨_,yQ9 (zI6 t) (zI6 u) (Nat.le_trans (Nat.min_le_right _ _) (Nat.le_trans (zL9 u) h)),y33 t u⟩
mutual
theorem yJ2:∀ (d:D) (p:PyData),zG9 d=some p→PyData.eqv p p=true
 | .none,p,h=>Option.some.inj h▸rfl
 | .bool b,p,h=>Option.some.inj h▸beq_self_eq_true b
 | .int i,p,h=>Option.some.inj h▸beq_self_eq_true i
 | .str s,p,h=>Option.some.inj (Option.ite_none_right_eq_some.mp h).2▸beq_self_eq_true s
 | .tup ds,p,h=>(Option.map_eq_some_iff.mp h).elim fun ps g=>g.2▸zj4 ds ps g.1
 | .list ds,p,h=>(Option.map_eq_some_iff.mp h).elim fun ps g=>g.2▸zj4 ds ps g.1
 | .val _,p,h=>nomatch (show none=some p from h)
 | .dict _,p,h=>nomatch (show none=some p from h)
 | .obj _ _,p,h=>nomatch (show none=some p from h)
theorem zj4:∀ (ds:List D) (ps:List PyData),zK0 ds=some ps→PyData.eqvAll ps ps=true
 | [],ps,h=>Option.some.inj h▸rfl
 | d::ds,ps,h=>(zV6 h).elim fun p g=>(zV6 g.2).elim fun qs k=>Option.some.inj k.2▸Bool.and_eq_true_iff.mpr ⟨yJ2 d p g.1,zj4 ds qs k.1⟩
end
theorem zT9 {d:D} {p:PyData} (h:zG9 d=some p) (hd:p.depth≤400):deq d d=some true:=(yQ9 h h (Nat.le_trans (Nat.min_le_right _ _) hd)).trans (congrArg some (yJ2 d p h))
noncomputable def zy3 (c:Nat) (X Y t:T) (q:List Nat) (n h th:D) (b:Bool) (p:T):Prop:=sub t q=some p→∃ f cs,y32 c X Y t q p n h th b f cs
theorem T.sh {P:T→Prop} (p:T) (hl:∀ p,LeafD (enc p)→P p) (hf:∀ s,P (.f s)) (hg:∀ s u,P (.g s u)):P p:=by
 cases p with
 | a=>exact hl _ .a
 | b=>exact hl _ .b
 | c=>exact hl _ .c
 | f s=>exact hf s
 | g x y=>exact hg x y
theorem T.hd {P:T→Prop} (p:T) (hf:∀ s,P (.f s)) (h:∀ p,HeadD (enc p)→P p):P p:=by
 cases p with
 | a=>exact h _ .a
 | b=>exact h _ .b
 | c=>exact h _ .c
 | f s=>exact hf s
 | g x y=>exact h _ (.g _ _)
section
variable {c:Nat} {X Y t:T} {q:List Nat}
theorem noP {p:D} (hc:10≤c∧c≤1000) (hp:p=mkg px py∨p=mkg py px∨p=mkf (mkf px)∨p=mkg (mkf px) py∨p=mkg px (mkf py)) {n th:D} {b:Bool} (s:T) (h:LeafD (enc s)):zy3 c X Y t q n p th b s:=fun uu=>ys3 ((noL 0 hp h).up (Nat.le_trans (by decide) hc.1))
theorem noU (hc:10≤c∧c≤1000) {p:T} {n h th:D} {b:Bool} (g:N0 4 p h):zy3 c X Y t q n h th b p:=fun uu=>ys3 (g.up (Nat.le_trans (by decide) hc.1))
theorem xZ9 (hl:q.length < c) (hc:10≤c∧c≤1000) (p:T):zy3 c X Y t q (S "swap") (mkg px py) (mkg py px) false p :=
 p.sh (noP hc (.inl rfl)) (fun s=>noU hc (xY8 0 _)) fun s u hq=>⟨_,_,za6 (ld:=.g u s) (st:=⟨q,.swap s u,false⟩) hq hl hc (.xy (enc s) (enc u)) (xY2 0 _ _) (xR3 0 _ _) rfl ⟨hq,rfl⟩⟩
theorem xa0 (hl:q.length < c) (hc:10≤c∧c≤1000) (p:T):zy3 c X Y t q (S "swap") (mkg py px) (mkg px py) true p :=
 p.sh (noP hc (.inr (.inl rfl))) (fun s=>noU hc (xY9 0 _)) fun s u hq=>⟨_,_,za6 (ld:=.g u s) (st:=⟨q,.swap u s,true⟩) hq hl hc (.yx (enc s) (enc u)) (xY3 0 _ _) (xR4 0 _ _) rfl ⟨hq,rfl⟩⟩
theorem xa1 (hl:q.length < c) (hc:10≤c∧c≤1000) (p:T):zy3 c X Y t q (S "fold") (mkf (mkf px)) px false p :=
 p.sh (noP hc (.inr (.inr (.inl rfl)))) (fun s=>s.hd (P:=fun s=>zy3 c X Y t q (S "fold") (mkf (mkf px)) px false (.f s)) (fun s hq=>⟨_,_,za6 (ld:=s) (st:=⟨q,.fold s,false⟩) hq hl hc (.x (enc s)) (xY4 0 _) (xR5 0 _) rfl ⟨hq,rfl⟩⟩) fun s h=>noU hc (xZ2 0 h)) fun s u=>noU hc (xZ3 0 _ _)
theorem xa2 (hl:q.length < c) (hc:10≤c∧c≤1000) (p:T) (hq:sub t q=some p):∃ cs,cs≠[]∧y32 c X Y t q p (S "fold") px (mkf (mkf px)) true true cs :=
 ⟨_,List.cons_ne_nil _ _,za6 (ld:=.f (.f p)) (st:=⟨q,.fold p,true⟩) hq hl hc (.o (enc p)) (xY5 0 _) (xR6 0 _) rfl ⟨hq,rfl⟩⟩
theorem xa3 (hl:q.length < c) (hc:10≤c∧c≤1000) (p:T):zy3 c X Y t q (S "move") (mkg (mkf px) py) (mkg px (mkf py)) false p :=
 p.sh (noP hc (.inr (.inr (.inr (.inl rfl))))) (fun s=>noU hc (xZ0 0 _)) fun s u=>s.hd (P:=fun s=>zy3 c X Y t q (S "move") (mkg (mkf px) py) (mkg px (mkf py)) false (.g s u)) (fun s hq=>⟨_,_,za6 (ld:=.g s (.f u)) (st:=⟨q,.move s u,false⟩) hq hl hc (.xy (enc s) (enc u)) (xY6 0 _ _) (xR7 0 _ _) rfl ⟨hq,rfl⟩⟩) fun s h=>noU hc (xZ4 0 _ h)
theorem xa4 (hl:q.length < c) (hc:10≤c∧c≤1000) (p:T):zy3 c X Y t q (S "move") (mkg px (mkf py)) (mkg (mkf px) py) true p :=
 p.sh (noP hc (.inr (.inr (.inr (.inr rfl))))) (fun s=>noU hc (xZ1 0 _)) fun s u=>u.hd (P:=fun u=>zy3 c X Y t q (S "move") (mkg px (mkf py)) (mkg (mkf px) py) true (.g s u)) (fun u hq=>⟨_,_,za6 (ld:=.g (.f s) u) (st:=⟨q,.move s u,true⟩) hq hl hc (.xy (enc s) (enc u)) (xY7 0 _ _) (xR8 0 _ _) rfl ⟨hq,rfl⟩⟩) fun u h=>noU hc (xZ5 0 _ h)
theorem xa5 {c1 c2 c3 c4 c5 c6:List D} (h1:c1.length≤1) (h2:c2.length≤1) (h3:c3.length≤1) (h4:c4.length≤1) (h5:c5.length≤1) (h6:c6.length≤1):(c1++(c2++(c3++(c4++(c5++c6))))).length≤6:=by
 simp only[List.length_append]
 exact Nat.add_le_add h1 (Nat.add_le_add h2 (Nat.add_le_add h3 (Nat.add_le_add h4 (Nat.add_le_add h5 h6))))
theorem ye8 (p:T) (hq:sub t q=some p) (hl:q.length < c) (hc:10≤c∧c≤1000):∃ cs,RowsStep c X Y t q p cs:=by
 refine xe (xZ9 (X:=X) (Y:=Y) hl hc p hq) fun f1 Y0=>?_;refine xe Y0 fun c1 Y1=>?_;have o1:=Y1.1;have k1:=Y1.2;try clear Y0 Y1
 refine xe (xa0 (X:=X) (Y:=Y) hl hc p hq) fun f2 Y0=>?_;refine xe Y0 fun c2 Y1=>?_;have o2:=Y1.1;have k2:=Y1.2;try clear Y0 Y1
 refine xe (xa1 (X:=X) (Y:=Y) hl hc p hq) fun f3 Y0=>?_;refine xe Y0 fun c3 Y1=>?_;have o3:=Y1.1;have k3:=Y1.2;try clear Y0 Y1
 refine xe (xa2 (X:=X) (Y:=Y) hl hc p hq) fun c4 Y0=>?_;have n4:=Y0.1;have o4:=Y0.2.1;have k4:=Y0.2.2;try clear Y0
 refine xe (xa3 (X:=X) (Y:=Y) hl hc p hq) fun f5 Y0=>?_;refine xe Y0 fun c5 Y1=>?_;have o5:=Y1.1;have k5:=Y1.2;try clear Y0 Y1
 refine xe (xa4 (X:=X) (Y:=Y) hl hc p hq) fun f6 Y0=>?_;refine xe Y0 fun c6 Y1=>?_;have o6:=Y1.1;have k6:=Y1.2;try clear Y0 Y1
 refine ⟨c1++(c2++(c3++(c4++(c5++c6)))),zF8 k1 (zF8 k2 (zF8 k3 (zF8 k4 (zF8 k5 k6)))),fun e=>n4 (List.append_eq_nil_iff.mp (List.append_eq_nil_iff.mp (List.append_eq_nil_iff.mp (List.append_eq_nil_iff.mp e).2).2).2).1,xa5 o1.one o2.one o3.one o4.one o5.one o6.one,fun b told fs o ho hf=>?_⟩
 rw[xH4]
 refine zN9 (zA9 (xH7 c (enc t) told (zF2 q) (enc p) fs o _) ⟨(yW1 0).up (Nat.le_trans (by decide) hc.1),rfl,z95 ho ⟨o1,o2⟩ hf fun o' h'=>z95 h' ⟨o3,o4⟩ (zQ9 (zQ9 hf o1.one) o2.one) fun o' h'=>z95 h' ⟨o5,o6⟩ (zQ9 (zQ9 (zQ9 (zQ9 hf o1.one) o2.one) o3.one) o4.one) fun o' h'=>zC8 ⟨rfl,o',h'.tl ?_,?_⟩⟩)
 ·cases f6<;>cases f5<;>rfl
 ·simp only[List.append_assoc]
end
end Mine
namespace Mine
open PySem
noncomputable abbrev xS6 (ds:List D) (ρ:Rho):Prc (Fl×Rho):=zc8 (zB9 (zA5 399).scope (zC1 (cb 1))) (fun ρ'=>zB2 ex2 [lb1 0,lb1 1,lb1 2] ρ') ds ρ
section
variable {c:Nat} {t told path part lb x y w:D} {fs:List D} {o:Rho} {ss:List Stmt} {Q:Fl×Rho→Prop} {b:Bool}
theorem ys4 (h:fs.length≤8000000):nd [zA0 fs]=true:=zi9 (List.forall_mem_singleton.mpr (zB7 h))
theorem xa6 (h:TL o) (d:deq part x=some b) (hw:Ok c 392 [.val t,.val path,.val y] (rv w t)) (hf:fs.length≤8000000) (k:wp c (zB2 ex2 ss (zt2 t told (fs++bif b then [.tup [tlE path lb false,w]] else []) path part o lb x y)) Q) :
  wp c (zB2 ex2 (lb1 1::ss) (zt2 t told fs path part o lb x y)) Q:=by
 cases b with
 | true=>exact zC2 (zA9 (y30 h c t told path part lb x y w fs _) ⟨d,hw,ys4 hf,rfl,k⟩)
 | false=>exact zC2 (zA9 (xI1 h c t told path part lb x y fs _) ⟨d,rfl,rfl,List.append_nil fs▸k⟩)
theorem xa7 (h:TL o) (d:deq part y=some b) (hw:Ok c 392 [.val t,.val path,.val x] (rv w t)) (hf:fs.length≤8000000) (k:wp c (zB2 ex2 ss (zt2 t told (fs++bif b then [.tup [tlE path lb true,w]] else []) path part o lb x y)) Q) :
  wp c (zB2 ex2 (lb1 2::ss) (zt2 t told fs path part o lb x y)) Q:=by
 cases b with
 | true=>exact zC2 (zA9 (y31 h c t told path part lb x y w fs _) ⟨d,hw,ys4 hf,rfl,k⟩)
 | false=>exact zC2 (zA9 (xI2 h c t told path part lb x y fs _) ⟨d,rfl,rfl,List.append_nil fs▸k⟩)
end
section
variable {c:Nat} {X Y t p:T} {q:List Nat}
noncomputable def y34 (c:Nat) (X Y t:T) (q:List Nat) (p:T) (name:String) (cs:List D):Prop:=∀ (o:Rho) (fs ds:List D) (Q:Fl×Rho→Prop),TL o→fs.length+2≤8000000 →
 (∀ o',TL o'→wp c (xS6 ds (zI5 (enc t) (tdD (enc X) (enc Y)) (fs++cs) (zF2 q) (enc p) o')) Q)→wp c (xS6 (S name::ds) (zI5 (enc t) (tdD (enc X) (enc Y)) fs (zF2 q) (enc p) o)) Q
structure LabC (c:Nat) (X Y t:T) (q:List Nat) (p:T) (name:String) (cs:List D):Prop where
 ok:zH2 X Y t cs
 few:cs.length≤2
 run:y34 c X Y t q p name cs
theorem zt6 {b:Bool} {d:D} (h:b=true→zH2 X Y t [d]):zH2 X Y t (bif b then [d] else []):=by
 cases b with
 | true=>exact h rfl
 | false=>exact zZ4
theorem yR0 {b:Bool} {d:D}:(bif b then [d] else []).length≤1:=by
 cases b with
 | true=>exact Nat.le_refl 1
 | false=>exact Nat.zero_le 1
theorem ys5 {ax:Ax} {nx:String} (he:∀ b,zA6 ⟨q,ax,b⟩=tlE (zF2 q) (S nx) b)
  (h0:∀ o fs (Q:Fl×Rho→Prop),TL o→ze5 0 (o.take 8++nm "label" (.val (S nx))::o.drop 9) c (enc t) (tdD (enc X) (enc Y)) (zF2 q) (enc p) fs [] Q=(true=true∧Q (.next,zt2 (enc t) (tdD (enc X) (enc Y)) fs (zF2 q) (enc p) o (S nx) (enc (ax.l X Y)) (enc (ax.r X Y)))))
  (hq:sub t q=some p) (hl:q.length < c) (hc:10≤c∧c≤1000) (hX:(ax.l X Y).size≤400) (hY:(ax.r X Y).size≤400):∃ cs,LabC c X Y t q p nx cs :=
 (yW3 p (ax.l X Y) hX).elim fun b1 g1=>(yW3 p (ax.r X Y) hY).elim fun b2 g2 =>
  ⟨(bif b1 then [.tup [tlE (zF2 q) (S nx) false,enc (rep t q (ax.r X Y))]] else [])++(bif b2 then [.tup [tlE (zF2 q) (S nx) true,enc (rep t q (ax.l X Y))]] else []),
   zF8 (zt6 fun h=>he false▸zZ5 (st:=⟨q,ax,false⟩) ⟨hq.trans (congrArg some (g1.2 h)),rfl⟩) (zt6 fun h=>he true▸zZ5 (st:=⟨q,ax,true⟩) ⟨hq.trans (congrArg some (g2.2 h)),rfl⟩),
   by rw[List.length_append];exact Nat.add_le_add yR0 yR0,
   fun o fs ds Q ho hf k=>zG5 (xS3 ho _ _ _ _ _ fs) (zC2 (zA9 (h0 o fs _ ho) ⟨rfl,rfl,xa6 ho g1.1 (z91 q t _ _ c hq hl hc.2) (Nat.le_of_add_right_le hf) (xa7 ho g2.1 (z91 q t _ _ c hq hl hc.2) (Nat.le_of_add_right_le (k:=1) (zQ9 hf yR0)) (zC8 ⟨rfl,List.append_assoc ..▸k _ (ho.lab ..)⟩))⟩))⟩
theorem xS7 (hq:sub t q=some p) (hl:q.length < c) (hc:10≤c∧c≤1000) (hX:X.size≤400):∃ cs,LabC c X Y t q p "s" cs :=
 ys5 (ax:=.s) (fun uu=>rfl) (fun o fs Q h=>xZ6 h c _ _ _ fs _ _ Q) hq hl hc (by show (1:Nat)≤400;decide) hX
theorem xS8 (hq:sub t q=some p) (hl:q.length < c) (hc:10≤c∧c≤1000) (hY:Y.size≤400):∃ cs,LabC c X Y t q p "t" cs :=
 ys5 (ax:=.t) (fun uu=>rfl) (fun o fs Q h=>xZ7 h c _ _ _ fs _ _ Q) hq hl hc (by show T.size (.g .a .b)≤400;decide) hY
end
end Mine
namespace Mine
open PySem
noncomputable abbrev xa8 (t told:D) (fs:List D):Rho:=[nm "t" (.val t),nm "told" (.val told),nm "found" (.ownL fs)]
inductive CH (X Y t:T):Nat→Rho→Prop
 | z:CH X Y t 0 (xa8 (enc t) (tdD (enc X) (enc Y)) [])
 | s (j:Nat) (fs:List D) (path part:D) (o:Rho):TL o→zH2 X Y t fs→fs≠[]→fs.length≤10 * (j+1)→CH X Y t (j+1) (zI5 (enc t) (tdD (enc X) (enc Y)) fs path part o)
theorem CH.as {X Y t:T} {j:Nat} {ρ:Rho} (h:CH X Y t j ρ) (p d:D):∃ b fs o,TOb b o∧zH2 X Y t fs∧fs.length≤10 * j∧zB9 (zA5 399).scope (zC1 (st 399 1)) (.tup [p,d]) ρ=some (zI5 (enc t) (tdD (enc X) (enc Y)) fs p d o):=by
 induction h with
 | z=>exact ⟨false,[],[],.z,zZ4,Nat.zero_le _,xI4 ..⟩
 | s j fs path part o h h1 _ h3=>exact ⟨true,fs,o,h.to,h1,h3,xI5 ..⟩
theorem CH.fin {X Y t:T} {n:Nat} {ρ:Rho} {P:Rho→Prop} (h:CH X Y t n ρ) (hn:0 < n) (k:∀ fs path part o,zH2 X Y t fs→fs≠[]→fs.length≤10 * n→P (zI5 (enc t) (tdD (enc X) (enc Y)) fs path part o)):P ρ:=by
 induction h with
 | z=>exact absurd hn (Nat.lt_irrefl _)
 | s j fs path part o _ h1 h2 h3=>exact k fs path part o h1 h2 h3
theorem xS9 {fs cs ds es:List D} {j:Nat} (h:fs.length≤10 * j) (h1:cs.length≤6) (h2:ds.length≤2) (h3:es.length≤2):(fs++cs++ds++es).length≤10 * (j+1):=by
 simp only[List.length_append]
 exact Nat.le_trans (Nat.add_le_add (Nat.add_le_add (Nat.add_le_add h h1) h2) h3) (Nat.le_of_eq rfl:10 * j+6+2+2≤10 * j+10)
theorem zt7 {a j n:Nat} (h:a≤10 * j) (hj:j≤1000) (hn:n≤1000):a+n≤8000000:=Nat.le_trans (Nat.add_le_add (Nat.le_trans h (Nat.mul_le_mul_left 10 hj)) hn) (by decide)
theorem y35 {c:Nat} {X Y t:T} {q:List Nat} {p:T} {j:Nat} {ρ:Rho} (hq:sub t q=some p) (hl:q.length < c) (hc:10≤c∧c≤1000) (hX:X.size≤400) (hY:Y.size≤400) (hj:j≤1000) (h:CH X Y t j ρ) :
  ∃ ρ1,zB9 (zA5 399).scope (zC1 (st 399 1)) (zP6 (q,p)) ρ=some ρ1∧wp c (zB2 (ex' 399) (zA7 (st 399 1)) ρ1) fun r=>r.1=.next∧CH X Y t (j+1) r.2:=by
 refine xe (ye8 (X:=X) (Y:=Y) p hq hl hc) fun cs R=>?_
 refine xe (xS7 (X:=X) (Y:=Y) hq hl hc hX) fun ds D1=>?_
 refine xe (xS8 (X:=X) (Y:=Y) hq hl hc hY) fun es E1=>?_
 refine xe (h.as (zF2 q) (enc p)) fun b Y0=>?_;refine xe Y0 fun fs Y1=>?_;refine xe Y1 fun o Y2=>?_;have ho:=Y2.1;have g1:=Y2.2.1;have g2:=Y2.2.2.1;have ha:=Y2.2.2.2;try clear Y0 Y1 Y2
 refine ⟨_,ha,?_⟩
 rw[xR2]
 refine zC2 (zC6 (R.run b _ fs o ho (zt7 g2 hj (by decide))) fun r hr=>⟨hr.1,hr.2.elim fun o' g=>?_⟩)
 rw[g.2,xI0]
 have l1:(fs++cs).length+2≤8000000:=by rw[List.length_append,Nat.add_assoc];exact zt7 g2 hj (Nat.le_trans (Nat.add_le_add_right R.few 2) (by decide))
 have l2:(fs++cs++ds).length+2≤8000000:=by rw[List.length_append,List.length_append,Nat.add_assoc,Nat.add_assoc];exact zt7 g2 hj (Nat.le_trans (Nat.add_le_add R.few (Nat.add_le_add_right D1.few 2)) (by decide))
 exact zC2 (zN9 (zA9 (xS2 c _ _ _ _ _ _ o' _) ⟨rfl,D1.run o' _ _ _ g.1 l1 fun o2 h2=>E1.run o2 _ _ _ h2 l2 fun o3 h3=>zC8 ⟨rfl,zC8 ⟨rfl,.s j _ _ _ o3 h3 (zF8 (zF8 (zF8 g1 R.ok) D1.ok) E1.ok) (fun e=>R.ne (List.append_eq_nil_iff.mp (List.append_eq_nil_iff.mp (List.append_eq_nil_iff.mp e).1).1).2) (xS9 g2 R.few D1.few E1.few)⟩⟩⟩))
theorem xC4 {c:Nat} {f:Addr} {args:List Ent} {Q:Ret→Prop} (hf:G.fn f=some (zA5 f)) (h:wp c (zC7 G (zA5 f) args) Q):∃ r,Ok (c+1) f args r∧Q r:=by
 refine xe h fun r Y0=>?_;have h1:=Y0.1;have h2:=Y0.2;try clear h;try clear Y0
 exact ⟨r,zG2 hf h1,h2⟩
theorem yR1 (X Y t:T) (c:Nat) (hX:X.size≤400) (hY:Y.size≤400) (ht:t.size≤100) (hc:t.size≤c∧10≤c∧c≤1000) :
  ∃ l,(∀ d∈l,ys1 X Y t d)∧l≠[]∧l.length≤1000∧Ok (c+1) 399 [.val (enc t),.val (tdD (enc X) (enc Y))] (rv (.list l) (enc t)):=by
 have hlen:((zJ9 t).map zP6).length=t.size:=by rw[List.length_map,za5]
 have fin:wp c (zC7 G (zA5 399) [.val (enc t),.val (tdD (enc X) (enc Y))]) fun r=>∃ l,(zH2 X Y t l∧l≠[]∧l.length≤1000)∧r=rv (.list l) (enc t):=by
  refine zH9 (by rw[yW2];rfl) ?_
  rw[yW2,ye7]
  refine zC2 (zA9 (xZ8 c _ _ _) ⟨rfl,rfl,?_⟩)
  refine zC2 (zN9 (zA9 (xS4 c (enc t) (tdD (enc X) (enc Y)) ((zJ9 t).map zP6) _) ⟨yr8 t c hc.1 hc.2.2,ys4 (by rw[hlen];exact Nat.le_trans ht (by decide)),?_⟩))
  refine zC6 (zg5 (Inv:=CH X Y t) _ 0 _ .z fun j d ρ hj hi=>?_) fun r hr=>⟨hr.1,?_⟩
  ·rw[Nat.zero_add] at hi ⊢
   refine xe (Option.map_eq_some_iff.mp (List.getElem?_map ..▸hj)) fun e Y0=>?_;have he:=Y0.1;obtain rfl:=Y0.2;try clear Y0
   have m:=zt0 t e (List.mem_of_getElem? he)
   have hjl:=(List.getElem?_eq_some_iff.mp he).1
   rw[za5] at hjl
   exact y35 m.2 (Nat.lt_of_lt_of_le m.1 hc.1) hc.2 hX hY (Nat.le_trans (Nat.le_of_lt hjl) (Nat.le_trans ht (by decide))) hi
  ·have h2:=hr.2
   rw[Nat.zero_add,hlen] at h2
   exact h2.fin (P:=fun ρ=>wp c (zB2 (ex 399) [st 399 2] ρ) _) (by cases t<;>exact Nat.succ_pos _) fun fs path part o f1 f2 f3=>zA9 (xI6 c (enc t) (tdD (enc X) (enc Y)) path part fs o _) ⟨rfl,rfl,fs,⟨f1,f2,Nat.le_trans f3 (Nat.mul_le_mul_left 10 ht)⟩,rfl⟩
 exact (xC4 xI3 fin).elim fun r g=>g.2.elim fun l k=>⟨l,k.1.1,k.1.2.1,k.1.2.2,k.2▸g.1⟩
end Mine
namespace Mine
open PySem
theorem nd1 {a:Bool} (h:a=true):nd [a]=true:=by subst h;rfl
theorem ndd {a b:Bool} (h:a=true) (h2:b=true):nd [a,b]=true:=by subst h h2;rfl
theorem nd3 {a b c:Bool} (h:a=true) (h2:b=true) (h3:c=true):nd [a,b,c]=true:=by subst h h2 h3;rfl
theorem xI7:G.fn 145=some (zA5 145):=by kernel_rfl
theorem yW4:(zA5 145).params=[Str.ofString "thing"]:=by kernel_rfl
theorem ye9:stmts 145=[st 145 0,.While (zD4 (st 145 1)) (zA7 (st 145 1)) [] (zL8 (st 145 1)),st 145 2]:=by kernel_rfl
theorem xa9 (c:Nat) (t:D) (Q:Fl×Rho→Prop):zA8 c (ex 145 [nm "thing" (.val t)] (st 145 0)) [] true Q=(true=true∧Q (.next,[nm "thing" (.val t),nm "waiting" (.ownL [t])])):=by kernel_rfl
theorem yW5 (c:Nat) (t:Ent) (ws:List D) (r:Rho) (b:Bool) (Q:Bool×Rho→Prop):zA8 c ((evs G 40).t (zA5 145).scope (nm "thing" t::nm "waiting" (.ownL ws)::r) (zD4 (st 145 1))) [.b b] true Q =
 (some (decide (((0:Nat):Int) < ((ws.length:Nat):Int)))=some b∧nd [zA0 ws]=true∧Q (b,nm "thing" t::nm "waiting" (.ownL ws)::r)):=by kernel_rfl
inductive OneR:Rho→Prop
 | z:OneR []
 | s (e:D):OneR [nm "one" (.val e)]
theorem y36 (c:Nat) (t:Ent) (ws:List D) {r:Rho} (hr:OneR r) {d:D} (h:LeafD d) (Q:Fl×Rho→Prop):zA8 c (zB2 (ex' 145) (zA7 (st 145 1)) (nm "thing" t::nm "waiting" (.ownL ws)::r)) [.d d] true Q =
 (ws.getLast?=some d∧nd [zA0 ws.dropLast,zA0 ws]=true∧Q (.next,[nm "thing" t,nm "waiting" (.ownL (ws.dropLast++[])),nm "one" (.val d)])):=by
 cases hr<;>induction h<;>kernel_rfl
theorem xb0 (c:Nat) (t:Ent) (ws:List D) {r:Rho} (hr:OneR r) (x:D) (Q:Fl×Rho→Prop):zA8 c (zB2 (ex' 145) (zA7 (st 145 1)) (nm "thing" t::nm "waiting" (.ownL ws)::r)) [.d (mkf x)] true Q =
 (ws.getLast?=some (mkf x)∧nd [zA0 ws.dropLast,zA0 ws]=true∧Q (.next,[nm "thing" t,nm "waiting" (.ownL (ws.dropLast++[x])),nm "one" (.val (mkf x))])):=by
 induction hr<;>kernel_rfl
theorem xb1 (c:Nat) (t:Ent) (ws:List D) {r:Rho} (hr:OneR r) (x y:D) (Q:Fl×Rho→Prop):zA8 c (zB2 (ex' 145) (zA7 (st 145 1)) (nm "thing" t::nm "waiting" (.ownL ws)::r)) [.d (mkg x y)] true Q =
 (ws.getLast?=some (mkg x y)∧nd [zA0 ws.dropLast,zA0 ws]=true∧Q (.next,[nm "thing" t,nm "waiting" (.ownL (ws.dropLast++[x,y])),nm "one" (.val (mkg x y))])):=by
 induction hr<;>kernel_rfl
theorem xI8 (c:Nat) (t:Ent) (r:Rho) (Q:Fl×Rho→Prop):zA8 c (zB2 (ex 145) [st 145 2] (nm "thing" t::r)) [] true Q=(true=true∧Q (.ret (.val (.bool true)),nm "thing" t::r)):=by kernel_rfl
noncomputable def zL1:List T→Nat
 | []=>0
 | t::ts=>t.size+zL1 ts
theorem zj5 (a b:List T):zL1 (a++b)=zL1 a+zL1 b:=by
 induction a with
 | nil=>exact (Nat.zero_add _).symm
 | cons t a ih=>exact (congrArg (t.size+·) ih).trans (Nat.add_assoc ..).symm
theorem zZ6 (t:T):0 < t.size:=by cases t<;>exact Nat.succ_pos _
theorem yf0 (ts:List T):ts.length≤zL1 ts:=by
 induction ts with
 | nil=>exact Nat.le_refl _
 | cons t ts ih=>exact Nat.le_trans (Nat.add_le_add ih (zZ6 t)) (Nat.le_of_eq (Nat.add_comm _ _))
inductive PlI (t:T):Nat→Rho→Prop
 | mk (ts:List T) (r:Rho):OneR r→zL1 ts≤10000→PlI t (zL1 ts) (nm "thing" (.val (enc t))::nm "waiting" (.ownL (ts.map enc))::r)
section
variable {t u:T} {ts:List T}
theorem z97:((ts++[u]).map enc).getLast?=some (enc u):=by rw[List.map_append];exact List.getLast?_concat
theorem yW6:((ts++[u]).map enc).dropLast=ts.map enc:=by rw[List.map_append];exact List.dropLast_concat
theorem zg8 (h:zL1 ts≤10000):zA0 (ts.map enc)=true:=zB7 (by rw[List.length_map];exact Nat.le_trans (yf0 ts) (Nat.le_trans h (by decide)))
theorem xC5 {l:List T} (h:zL1 l < u.size):zL1 (ts++l) < zL1 (ts++[u]):=by
 rw[zj5,zj5]
 exact Nat.add_lt_add_left h _
theorem z98 {e:D} (l:List T) (hlt:zL1 l < u.size) (hs:zL1 (ts++[u])≤10000):∃ m,m < zL1 (ts++[u])∧PlI t m [nm "thing" (.val (enc t)),nm "waiting" (.ownL (((ts++[u]).map enc).dropLast++l.map enc)),nm "one" (.val e)]:=by
 rw[yW6,← List.map_append]
 exact ⟨_,xC5 hlt,.mk (ts++l) _ (.s e) (Nat.le_trans (Nat.le_of_lt (xC5 hlt)) hs)⟩
theorem y37 {c:Nat} {r:Rho} (hr:OneR r) (hs:zL1 (ts++[u])≤10000):wp c (zB2 (ex' 145) (zA7 (st 145 1)) (nm "thing" (.val (enc t))::nm "waiting" (.ownL ((ts++[u]).map enc))::r)) fun p=>p.1=.next∧∃ m,m < zL1 (ts++[u])∧PlI t m p.2:=by
 have h0:zL1 ts≤10000:=Nat.le_trans (by rw[zj5];exact Nat.le_add_right _ _) hs
 have n2:nd [zA0 ((ts++[u]).map enc).dropLast,zA0 ((ts++[u]).map enc)]=true:=ndd (by rw[yW6];exact zg8 h0) (zg8 hs)
 have leaf:LeafD (enc u)→wp c (zB2 (ex' 145) (zA7 (st 145 1)) (nm "thing" (.val (enc t))::nm "waiting" (.ownL ((ts++[u]).map enc))::r)) fun p=>p.1=.next∧∃ m,m < zL1 (ts++[u])∧PlI t m p.2 :=
  fun h=>zA9 (y36 c _ _ hr h _) ⟨z97,n2,rfl,z98 [] (zZ6 u) hs⟩
 cases u with
 | a=>exact leaf .a
 | b=>exact leaf .b
 | c=>exact leaf .c
 | f x=>exact zA9 (xb0 c _ _ hr (enc x) _) ⟨z97,n2,rfl,z98 [x] (Nat.lt_succ_self _) hs⟩
 | g x y=>exact zA9 (xb1 c _ _ hr (enc x) (enc y) _) ⟨z97,n2,rfl,z98 [x,y] (Nat.lt_succ_self _) hs⟩
end
theorem zU0 (t:T) (c:Nat) (ht:t.size≤10000):Ok (c+1) 145 [.val (enc t)] (rv (.bool true) (enc t)):=by
 refine zW8 xI7 (zH9 (by rw[yW4];rfl) ?_)
 rw[yW4,ye9]
 refine zC2 (zA9 (xa9 c _ _) ⟨rfl,rfl,?_⟩)
 refine zC2 (yI5 (z23 (Inv:=PlI t) (fun n ρ x=>?_) zd0 t.size _ (Nat.lt_of_le_of_lt ht (by unfold zd0;decide)) (.mk [t] [] .z ht)))
 induction x with
 | mk ts r hr hs =>
  rcases List.eq_nil_or_concat ts with rfl | ⟨ts,u,rfl⟩
  ·exact zA9 (yW5 c _ _ r false _) ⟨rfl,nd1 (zg8 hs),rfl,zA9 (xI8 c _ _ _) ⟨rfl,rfl,rfl⟩⟩
  ·rw[List.concat_eq_append] at hs ⊢
   exact zA9 (yW5 c _ _ r true _) ⟨congrArg some (decide_eq_true (by rw[List.length_map,List.length_append];exact Int.ofNat_lt.mpr (Nat.succ_pos _))),nd1 (zg8 hs),y37 hr hs⟩
end Mine
namespace Mine
open PySem
noncomputable abbrev zF3 (x:D):D:=.tup [S "same",x]
noncomputable abbrev z27 (n:String):D:=.tup [S "told",S n]
noncomputable abbrev zt8 (n:String) (pl:D):D:=.tup [S "rule",S n,pl]
noncomputable abbrev zK6 (x:D):D:=.tup [S "turn",x]
noncomputable abbrev zG6 (x y:D):D:=.tup [S "join",x,y]
noncomputable abbrev pU1 (x:D):D:=.tup [S "under",S "f",.tup [x]]
noncomputable abbrev pU2 (x y:D):D:=.tup [S "under",S "g",.tup [x,y]]
theorem yR2:G.fn 150=some (zA5 150):=by kernel_rfl
theorem zS1:G.fn 157=some (zA5 157):=by kernel_rfl
theorem xb2:G.fn 138=some (zA5 138):=by kernel_rfl
theorem xI9:G.fn 169=some (zA5 169):=by kernel_rfl
theorem xb3 (c:Nat) (x:D) (Q:Ret→Prop):zA8 c (zC7 G (zA5 150) [.val (.tup [pr "?x" x])]) [.call (rv (.bool true) x)] true Q =
 (Ok c 145 [.val x] (rv (.bool true) x)∧true=true∧Q (rv (.bool true) (.tup [pr "?x" x]))):=by kernel_rfl
theorem xT0 (c:Nat) (x y:D) (Q:Ret→Prop):zA8 c (zC7 G (zA5 150) [.val (.tup [pr "?x" x,pr "?y" y])]) [.call (rv (.bool true) x),.call (rv (.bool true) y)] true Q =
 (Ok c 145 [.val x] (rv (.bool true) x)∧Ok c 145 [.val y] (rv (.bool true) y)∧true=true∧Q (rv (.bool true) (.tup [pr "?x" x,pr "?y" y]))):=by kernel_rfl
theorem y38 (c:Nat) (x:D) (Q:Ret→Prop):zA8 c (zC7 G (zA5 157) [.val (zF3 x)]) [.call (rv (.bool true) x)] true Q =
 (Ok c 145 [.val x] (rv (.bool true) x)∧true=true∧Q (rv (.bool true) (zF3 x))):=by kernel_rfl
theorem yW7 (c:Nat) (s:Str) (Q:Ret→Prop):zA8 c (zC7 G (zA5 157) [.val (.tup [S "told",.str s])]) [] true Q=(true=true∧Q (rv (.bool true) (.tup [S "told",.str s]))):=by kernel_rfl
theorem z99 (c:Nat) (s:Str) (x:D) (Q:Ret→Prop):zA8 c (zC7 G (zA5 157) [.val (.tup [S "rule",.str s,x])]) [.call (rv (.bool true) x)] true Q =
 (Ok c 150 [.val x] (rv (.bool true) x)∧true=true∧Q (rv (.bool true) (.tup [S "rule",.str s,x]))):=by kernel_rfl
theorem y39 (c:Nat) (x:D) (Q:Ret→Prop):zA8 c (zC7 G (zA5 157) [.val (zK6 x)]) [] true Q=(true=true∧Q (rv (.bool true) (zK6 x))):=by kernel_rfl
theorem y40 (c:Nat) (x y:D) (Q:Ret→Prop):zA8 c (zC7 G (zA5 157) [.val (zG6 x y)]) [] true Q=(true=true∧Q (rv (.bool true) (zG6 x y))):=by kernel_rfl
theorem xC6 (c:Nat) {d:D} (h:d=S "f"∨d=S "g"):Ok (c+1) 145 [.val (.tup [d])] (rv (.bool true) (.tup [d])):=by
 rcases h with rfl | rfl<;>(unfold Ok;kernel_rfl)
theorem ys6 (c:Nat) (s:Str) (ps:List D) (Q:Ret→Prop):zA8 c (zC7 G (zA5 157) [.val (.tup [S "under",.str s,.tup ps])]) [.call (rv (.bool true) (.tup [.str s]))] true Q =
 (Ok c 145 [.val (.tup [.str s])] (rv (.bool true) (.tup [.str s]))∧true=true∧Q (rv (.bool true) (.tup [S "under",.str s,.tup ps]))):=by kernel_rfl
theorem y41 (c:Nat) (x:D):Ok (c+1) 138 [.val (zF3 x)] (rv (.tup []) (zF3 x)):=by unfold Ok;kernel_rfl
theorem yW8 (c:Nat) (x:D):Ok (c+1) 138 [.val (.tup [S "told",x])] (rv (.tup []) (.tup [S "told",x])):=by unfold Ok;kernel_rfl
theorem yA0 (c:Nat) (x y:D):Ok (c+1) 138 [.val (.tup [S "rule",x,y])] (rv (.tup []) (.tup [S "rule",x,y])):=by unfold Ok;kernel_rfl
theorem y42 (c:Nat) (x:D):Ok (c+1) 138 [.val (zK6 x)] (rv (.tup [x]) (zK6 x)):=by unfold Ok;kernel_rfl
theorem y43 (c:Nat) (x y:D):Ok (c+1) 138 [.val (zG6 x y)] (rv (.tup [x,y]) (zG6 x y)):=by unfold Ok;kernel_rfl
theorem ys7 (c:Nat) (s:Str) (ps:List D):Ok (c+1) 138 [.val (.tup [S "under",.str s,.tup ps])] (rv (.tup ps) (.tup [S "under",.str s,.tup ps])):=by unfold Ok;kernel_rfl
theorem y44 (c:Nat) (x y:D) (Q:Ret→Prop):zA8 c (zC7 G (zA5 169) [.val x,.val y]) [.call (rv (.bool true) x)] true Q =
 (Ok c 157 [.val x] (rv (.bool true) x)∧true=true∧Q (rv .none x)):=by kernel_rfl
inductive Pap where
 | same (t:T) | ax (a:Ax) | turn (p:Pap) | join (p q:Pap) | und1 (p:Pap) | und2 (p q:Pap)
noncomputable def xT1 (a:Ax):D:=match a with
 | .s=>z27 "s"
 | .t=>z27 "t"
 | a=>zt8 a.name (.tup a.places)
noncomputable def zA2:Pap→D
 | .same t=>zF3 (enc t)
 | .ax a=>xT1 a
 | .turn p=>zK6 (zA2 p)
 | .join p q=>zG6 (zA2 p) (zA2 q)
 | .und1 p=>pU1 (zA2 p)
 | .und2 p q=>pU2 (zA2 p) (zA2 q)
noncomputable def Ax.small:Ax→Prop
 | .swap x y=>x.size≤10000∧y.size≤10000
 | .fold x=>x.size≤10000
 | .move x y=>x.size≤10000∧y.size≤10000
 | _=>True
noncomputable def Pap.small:Pap→Prop
 | .same t=>t.size≤10000
 | .ax a=>a.small
 | .turn p=>p.small
 | .join p q=>p.small∧q.small
 | .und1 p=>p.small
 | .und2 p q=>p.small∧q.small
noncomputable def Pap.kids:Pap→List Pap
 | .same _=>[]
 | .ax _=>[]
 | .turn p=>[p]
 | .join p q=>[p,q]
 | .und1 p=>[p]
 | .und2 p q=>[p,q]
theorem yW9 (p:Pap) (c:Nat) (h:p.small):Ok (c+3) 157 [.val (zA2 p)] (rv (.bool true) (zA2 p)):=by
 cases p with
 | same t=>exact zB0 zS1 (y38 (c+2) (enc t) _) ⟨zU0 t _ h,rfl,rfl⟩
 | ax a =>
  cases a with
  | swap x y=>exact zB0 zS1 (z99 (c+2) _ (.tup [pr "?x" (enc x),pr "?y" (enc y)]) _) ⟨zB0 yR2 (xT0 (c+1) (enc x) (enc y) _) ⟨zU0 x _ h.1,zU0 y _ h.2,rfl,rfl⟩,rfl,rfl⟩
  | fold x=>exact zB0 zS1 (z99 (c+2) _ (.tup [pr "?x" (enc x)]) _) ⟨zB0 yR2 (xb3 (c+1) (enc x) _) ⟨zU0 x _ h,rfl,rfl⟩,rfl,rfl⟩
  | move x y=>exact zB0 zS1 (z99 (c+2) _ (.tup [pr "?x" (enc x),pr "?y" (enc y)]) _) ⟨zB0 yR2 (xT0 (c+1) (enc x) (enc y) _) ⟨zU0 x _ h.1,zU0 y _ h.2,rfl,rfl⟩,rfl,rfl⟩
  | s=>exact zB0 zS1 (yW7 (c+2) _ _) ⟨rfl,rfl⟩
  | t=>exact zB0 zS1 (yW7 (c+2) _ _) ⟨rfl,rfl⟩
 | turn p=>exact zB0 zS1 (y39 (c+2) (zA2 p) _) ⟨rfl,rfl⟩
 | join p q=>exact zB0 zS1 (y40 (c+2) (zA2 p) (zA2 q) _) ⟨rfl,rfl⟩
 | und1 p=>exact zB0 zS1 (ys6 (c+2) _ _ _) ⟨xC6 _ (.inl rfl),rfl,rfl⟩
 | und2 p q=>exact zB0 zS1 (ys6 (c+2) _ _ _) ⟨xC6 _ (.inr rfl),rfl,rfl⟩
theorem zt9 (p:Pap) (c:Nat):Ok (c+1) 138 [.val (zA2 p)] (rv (.tup (p.kids.map zA2)) (zA2 p)):=by
 cases p with
 | same t=>exact y41 c (enc t)
 | ax a=>cases a with
  | swap x y=>exact yA0 c _ _
  | fold x=>exact yA0 c _ _
  | move x y=>exact yA0 c _ _
  | s=>exact yW8 c _
  | t=>exact yW8 c _
 | turn p=>exact y42 c (zA2 p)
 | join p q=>exact y43 c (zA2 p) (zA2 q)
 | und1 p=>exact ys7 c _ _
 | und2 p q=>exact ys7 c _ _
theorem y45 (p:Pap) (c:Nat) (y:D) (h:p.small):Ok (c+4) 169 [.val (zA2 p),.val y] (rv .none (zA2 p)):=zB0 xI9 (y44 (c+3) (zA2 p) y _) ⟨yW9 p c h,rfl,rfl⟩
end Mine
namespace Mine
open PySem
theorem two {a b:Bool} (h:a=true) (h2:b=true):(a&&b)=true:=by subst h h2;rfl
theorem nd4 {a b c d:Bool} (h:a=true) (h2:b=true) (h3:c=true) (h4:d=true):nd [a,b,c,d]=true:=by subst h h2 h3 h4;rfl
theorem nd5 {a b c d e:Bool} (h:a=true) (h2:b=true) (h3:c=true) (h4:d=true) (h5:e=true):nd [a,b,c,d,e]=true:=by subst h h2 h3 h4 h5;rfl
theorem xJ0:G.fn 162=some (zA5 162):=by kernel_rfl
theorem yX0:(zA5 162).params=[Str.ofString "paper"]:=by kernel_rfl
theorem yf1:stmts 162=[st 162 0,.While (zD4 (st 162 1)) (zA7 (st 162 1)) [] (zL8 (st 162 1)),st 162 2,st 162 3]:=by kernel_rfl
theorem xb4 (c:Nat) (t:D) (Q:Fl×Rho→Prop):zA8 c (ex 162 [nm "paper" (.val t)] (st 162 0)) [] true Q=(true=true∧Q (.next,[nm "paper" (.val t),nm "found" (.ownL []),nm "waiting" (.ownL [.tup [.tup [],t]])])):=by kernel_rfl
theorem yX1 (c:Nat) (t:Ent) (fs ws:List D) (r:Rho) (b:Bool) (Q:Bool×Rho→Prop):zA8 c ((evs G 40).t (zA5 162).scope (nm "paper" t::nm "found" (.ownL fs)::nm "waiting" (.ownL ws)::r) (zD4 (st 162 1))) [.b b] true Q =
 (some (decide (((0:Nat):Int) < ((ws.length:Nat):Int)))=some b∧nd [zA0 ws]=true∧Q (b,nm "paper" t::nm "found" (.ownL fs)::nm "waiting" (.ownL ws)::r)):=by kernel_rfl
inductive TwoR:Rho→Prop
 | z:TwoR []
 | s (e f:D):TwoR [nm "path" (.val e),nm "one" (.val f)]
theorem xC7 (c:Nat) (t:Ent) (fs ws:List D) {r:Rho} (hr:TwoR r) (p:List D) (o:D) (Q:Fl×Rho→Prop):zA8 c (zB2 (ex' 162) (zA7 (st 162 1)) (nm "paper" t::nm "found" (.ownL fs)::nm "waiting" (.ownL ws)::r)) [.d (.tup [.tup p,o]),.call (rv (.bool true) o),.call (rv (.tup []) o)] true Q =
 (ws.getLast?=some (.tup [.tup p,o])∧Ok c 157 [.val o] (rv (.bool true) o)∧Ok c 138 [.val o] (rv (.tup []) o)∧nd [zA0 ws.dropLast,zA0 fs,zA0 ws]=true∧Q (.next,[nm "paper" t,nm "found" (.ownL (fs++[.tup [.tup p,o]])),nm "waiting" (.ownL (ws.dropLast++[])),nm "path" (.val (.tup p)),nm "one" (.val o)])):=by
 induction hr<;>kernel_rfl
theorem xC8 (c:Nat) (t:Ent) (fs ws:List D) {r:Rho} (hr:TwoR r) (p:List D) (o x:D) (Q:Fl×Rho→Prop):zA8 c (zB2 (ex' 162) (zA7 (st 162 1)) (nm "paper" t::nm "found" (.ownL fs)::nm "waiting" (.ownL ws)::r)) [.d (.tup [.tup p,o]),.call (rv (.bool true) o),.call (rv (.tup [x]) o)] true Q =
 (ws.getLast?=some (.tup [.tup p,o])∧Ok c 157 [.val o] (rv (.bool true) o)∧Ok c 138 [.val o] (rv (.tup [x]) o)∧nd [zA0 ws.dropLast,zA0 p&&zA0 [D.int 0],zA0 fs,zA0 ws]=true∧Q (.next,[nm "paper" t,nm "found" (.ownL (fs++[.tup [.tup p,o]])),nm "waiting" (.ownL (ws.dropLast++[.tup [.tup (p++[.int (0:Nat)]),x]])),nm "path" (.val (.tup p)),nm "one" (.val o)])):=by
 induction hr<;>kernel_rfl
theorem xC9 (c:Nat) (t:Ent) (fs ws:List D) {r:Rho} (hr:TwoR r) (p:List D) (o x y:D) (Q:Fl×Rho→Prop):zA8 c (zB2 (ex' 162) (zA7 (st 162 1)) (nm "paper" t::nm "found" (.ownL fs)::nm "waiting" (.ownL ws)::r)) [.d (.tup [.tup p,o]),.call (rv (.bool true) o),.call (rv (.tup [x,y]) o)] true Q =
 (ws.getLast?=some (.tup [.tup p,o])∧Ok c 157 [.val o] (rv (.bool true) o)∧Ok c 138 [.val o] (rv (.tup [x,y]) o)∧nd [zA0 ws.dropLast,zA0 p&&zA0 [D.int 1],zA0 p&&zA0 [D.int 0],zA0 fs,zA0 ws]=true∧Q (.next,[nm "paper" t,nm "found" (.ownL (fs++[.tup [.tup p,o]])),nm "waiting" (.ownL (ws.dropLast++[.tup [.tup (p++[.int (0:Nat)]),x],.tup [.tup (p++[.int (1:Nat)]),y]])),nm "path" (.val (.tup p)),nm "one" (.val o)])):=by
 induction hr<;>kernel_rfl
theorem xJ1 (c:Nat) (t:Ent) (fs:List D) (r:Rho) (Q:Fl×Rho→Prop):zA8 c (ex 162 (nm "paper" t::nm "found" (.ownL fs)::r) (st 162 2)) [] true Q=(nd [zA0 fs]=true∧Q (.next,nm "paper" t::nm "found" (.ownL fs.reverse)::r)):=by kernel_rfl
theorem xJ2 (c:Nat) (t:Ent) (fs:List D) (r:Rho) (Q:Fl×Rho→Prop):zA8 c (zB2 (ex 162) [st 162 3] (nm "paper" t::nm "found" (.ownL fs)::r)) [] true Q=(true=true∧Q (.ret (.val (.list fs)),nm "paper" t::nm "found" (.val (.list fs))::r)):=by kernel_rfl
noncomputable def post:Pap→List Nat→List (List Nat×Pap)
 | .same t,q=>[(q,.same t)]
 | .ax a,q=>[(q,.ax a)]
 | .turn p,q=>post p (q++[0])++[(q,.turn p)]
 | .join p r,q=>post p (q++[0])++post r (q++[1])++[(q,.join p r)]
 | .und1 p,q=>post p (q++[0])++[(q,.und1 p)]
 | .und2 p r,q=>post p (q++[0])++post r (q++[1])++[(q,.und2 p r)]
noncomputable def zF5 (q:List Nat×Pap):D:=.tup [zF2 q.1,zA2 q.2]
noncomputable def Pap.size:Pap→Nat
 | .same _=>1
 | .ax _=>1
 | .turn p=>p.size+1
 | .join p q=>p.size+q.size+1
 | .und1 p=>p.size+1
 | .und2 p q=>p.size+q.size+1
theorem yR3 {α:Type} {a:List α} {x:α} {n:Nat} (h:a.length=n):(a++[x]).length=n+1:=h▸List.length_append
theorem ys8 {α:Type} {a b:List α} {x:α} {n m:Nat} (h:a.length=n) (g:b.length=m):(a++b++[x]).length=n+m+1:=yR3 (h▸g▸List.length_append)
theorem zg9 (p:Pap):∀ q,(post p q).length=p.size:=by
 induction p with
 | turn p ih=>exact fun q=>yR3 (ih _)
 | und1 p ih=>exact fun q=>yR3 (ih _)
 | join p r i1 i2=>exact fun q=>ys8 (i1 _) (i2 _)
 | und2 p r i1 i2=>exact fun q=>ys8 (i1 _) (i2 _)
 | _=>exact fun q=>rfl
theorem yf2 (p:Pap):0 < p.size:=by cases p<;>exact Nat.succ_pos _
noncomputable def zP7:List (List Nat×Pap)→Nat
 | []=>0
 | t::ts=>t.2.size+zP7 ts
theorem ze6 (a b:List (List Nat×Pap)):zP7 (a++b)=zP7 a+zP7 b:=by
 induction a with
 | nil=>exact (Nat.zero_add _).symm
 | cons t a ih=>exact (congrArg (t.2.size+·) ih).trans (Nat.add_assoc ..).symm
theorem yR4 (ts:List (List Nat×Pap)):ts.length≤zP7 ts:=by
 induction ts with
 | nil=>exact Nat.le_refl _
 | cons t ts ih=>exact Nat.le_trans (Nat.add_le_add ih (yf2 t.2)) (Nat.le_of_eq (Nat.add_comm _ _))
noncomputable def todo (ws:List (List Nat×Pap)):List (List Nat×Pap):=(ws.map fun q=>post q.2 q.1).flatten
theorem yJ3 (a b:List (List Nat×Pap)):todo (a++b)=todo a++todo b:=by
 unfold todo
 rw[List.map_append,List.flatten_append]
noncomputable def zj6 (q:List Nat):Pap→List (List Nat×Pap)
 | .same _=>[]
 | .ax _=>[]
 | .turn p=>[(q++[0],p)]
 | .join p r=>[(q++[0],p),(q++[1],r)]
 | .und1 p=>[(q++[0],p)]
 | .und2 p r=>[(q++[0],p),(q++[1],r)]
theorem zu0 (q:List Nat×Pap):todo [q]=post q.2 q.1:=List.append_nil _
theorem yJ4 (q r:List Nat×Pap):todo [q,r]=post q.2 q.1++post r.2 r.1:=congrArg (_++·) (List.append_nil _)
theorem yf3 (q:List Nat) (p:Pap):todo (zj6 q p)++[(q,p)]=post p q:=by
 cases p with
 | same t=>rfl
 | ax a=>rfl
 | turn u=>exact congrArg (·++_) (zu0 _)
 | join u v=>exact congrArg (·++_) (yJ4 _ _)
 | und1 u=>exact congrArg (·++_) (zu0 _)
 | und2 u v=>exact congrArg (·++_) (yJ4 _ _)
theorem z28 (q:List Nat) (p:Pap):zP7 (zj6 q p)+1=p.size:=by cases p<;>rfl
theorem zj7 {q:List Nat} {k n:Nat} {u:Pap} {w:List Nat×Pap} (hu:u.small) (hn:u.size < n) (e:w=(q++[k],u)):w.2.small∧w.1.length+w.2.size≤q.length+n:=by
 subst e
 refine ⟨hu,?_⟩
 show (q++[k]).length+u.size≤_
 rw[List.length_append,Nat.add_assoc]
 exact Nat.add_le_add_left (Nat.add_comm 1 u.size▸hn) _
theorem zu1 {q:List Nat} {p:Pap} (h:p.small):∀ w∈zj6 q p,w.2.small∧w.1.length+w.2.size≤q.length+p.size:=by
 intro w hw
 have lt2:=fun (u v:Pap)=>(Nat.lt_succ_of_le (Nat.le_add_right u.size v.size):u.size < u.size+v.size+1)
 have lt3:=fun (u v:Pap)=>(Nat.lt_succ_of_le (Nat.le_add_left v.size u.size):v.size < u.size+v.size+1)
 cases p with
 | same t=>exact nomatch hw
 | ax a=>exact nomatch hw
 | turn u=>exact zj7 (u:=u) (k:=0) h (Nat.lt_succ_self _) (List.mem_singleton.mp hw)
 | join u v=>exact (List.mem_cons.mp hw).elim (zj7 (u:=u) (k:=0) h.1 (lt2 u v)) fun hw=>zj7 (u:=v) (k:=1) h.2 (lt3 u v) (List.mem_singleton.mp hw)
 | und1 u=>exact zj7 (u:=u) (k:=0) h (Nat.lt_succ_self _) (List.mem_singleton.mp hw)
 | und2 u v=>exact (List.mem_cons.mp hw).elim (zj7 (u:=u) (k:=0) h.1 (lt2 u v)) fun hw=>zj7 (u:=v) (k:=1) h.2 (lt3 u v) (List.mem_singleton.mp hw)
structure IoInv (P:Pap) (fs ws:List (List Nat×Pap)):Prop where
 size:fs.length+zP7 ws=P.size
 small:∀ w∈ws,w.2.small∧w.1.length+w.2.size≤P.size
 todo:todo ws++fs.reverse=post P []
noncomputable def ioR (P:Pap) (fs ws:List D) (r:Rho):Rho:=nm "paper" (.val (zA2 P))::nm "found" (.ownL fs)::nm "waiting" (.ownL ws)::r
inductive IoI (P:Pap):Nat→Rho→Prop
 | mk (fs ws:List (List Nat×Pap)) (r:Rho) (hr:TwoR r) (i:IoInv P fs ws):IoI P (zP7 ws) (ioR P (fs.map zF5) (ws.map zF5) r)
section
variable {P p:Pap} {fs ws:List (List Nat×Pap)} {q:List Nat}
theorem IoInv.step (i:IoInv P fs (ws++[(q,p)])):IoInv P (fs++[(q,p)]) (ws++zj6 q p) where
 size:=by
  have h:=i.size
  rw[ze6] at h ⊢
  rw[List.length_append,← h,Nat.add_assoc]
  show _=fs.length+(zP7 ws+(p.size+0))
  rw[← z28 q p]
  exact congrArg (fs.length+·) ((Nat.add_comm 1 _).trans (Nat.add_assoc _ _ _))
 small w h:=(List.mem_append.mp h).elim (fun h=>i.small w (List.mem_append_left _ h)) fun h =>
  have k:=i.small (q,p) (List.mem_append_right _ (.head _))
  ⟨(zu1 k.1 w h).1,Nat.le_trans (zu1 k.1 w h).2 k.2⟩
 todo:=by
  have h:=i.todo
  rw[yJ3,zu0] at h
  rw[← h,yJ3,List.reverse_append,← yf3 q p,List.append_assoc,List.append_assoc,List.append_assoc];rfl
theorem IoInv.back {F W:List D} {e f:D} (i:IoInv P fs (ws++[(q,p)])) (hF:F=(fs++[(q,p)]).map zF5) (hW:W=(ws++zj6 q p).map zF5) :
  ∃ m,m < zP7 (ws++[(q,p)])∧IoI P m (ioR P F W [nm "path" (.val e),nm "one" (.val f)]):=by
 subst hF hW
 refine ⟨_,?_,.mk _ _ _ (.s e f) i.step⟩
 rw[ze6,ze6]
 exact Nat.add_lt_add_left (Nat.lt_of_lt_of_le (Nat.lt_succ_self _) (Nat.le_of_eq (z28 q p))) _
theorem za8:((ws++[(q,p)]).map zF5).getLast?=some (.tup [.tup (q.map fun k=>.int (k:Nat)),zA2 p]):=by rw[List.map_append];exact List.getLast?_concat
theorem yX2:((ws++[(q,p)]).map zF5).dropLast=ws.map zF5:=by rw[List.map_append];exact List.dropLast_concat
theorem yX3 (l:List (List Nat×Pap)):ws.map zF5++l.map zF5=(ws++l).map zF5:=List.map_append.symm
theorem ys9 {l:List (List Nat×Pap)} (h:zA0 ((ws++l).map zF5)=true):zA0 (ws.map zF5)=true :=
 zB7 (Nat.le_trans (by rw[List.length_map,List.length_map,List.length_append];exact Nat.le_add_right _ _) (Nat.le_of_ble_eq_true h))
theorem IoInv.shorts (i:IoInv P fs ws) (hs:P.size≤10000):zA0 (ws.map zF5)=true∧zA0 (fs.map zF5)=true :=
 have k:=i.size
 ⟨zB7 (by rw[List.length_map];exact Nat.le_trans (yR4 ws) (Nat.le_trans (k▸Nat.le_add_left _ _) (Nat.le_trans hs (by decide)))),zB7 (by rw[List.length_map];exact Nat.le_trans (k▸Nat.le_add_right fs.length _:fs.length≤P.size) (Nat.le_trans hs (by decide)))⟩
theorem zu2 (q:List Nat) (k:Nat):zF2 (q++[k])=.tup ((q.map fun k=>D.int (k:Nat))++[.int (k:Nat)]):=congrArg D.tup List.map_append
theorem xD0 {W l:List D} {u:Pap} (e:W++[(q++[0],u)].map zF5=l):W++[.tup [.tup ((q.map fun k=>D.int (k:Nat))++[.int (0:Nat)]),zA2 u]]=l :=
 (congrArg (fun z=>W++[D.tup [z,zA2 u]]) (zu2 q 0)).symm.trans e
theorem xD1 {W l:List D} {u v:Pap} (e:W++[(q++[0],u),(q++[1],v)].map zF5=l):W++[.tup [.tup ((q.map fun k=>D.int (k:Nat))++[.int (0:Nat)]),zA2 u],.tup [.tup ((q.map fun k=>D.int (k:Nat))++[.int (1:Nat)]),zA2 v]]=l :=
 (congrArg (fun z=>W++[D.tup [z,zA2 u],D.tup [_,zA2 v]]) (zu2 q 0)).symm.trans ((congrArg (fun z=>W++[D.tup [_,zA2 u],D.tup [z,zA2 v]]) (zu2 q 1)).symm.trans e)
theorem y46 {c:Nat} {r:Rho} (hr:TwoR r) (hs:P.size≤10000) (i:IoInv P fs (ws++[(q,p)])) :
  wp (c+3) (zB2 (ex' 162) (zA7 (st 162 1)) (ioR P (fs.map zF5) ((ws++[(q,p)]).map zF5) r)) fun x=>x.1=.next∧∃ m,m < zP7 (ws++[(q,p)])∧IoI P m x.2:=by
 obtain ⟨sw,sf⟩:=i.shorts hs
 have hp:=i.small (q,p) (List.mem_append_right _ (.head _))
 have sw2:zA0 ((ws++[(q,p)]).map zF5).dropLast=true:=(congrArg zA0 yX2).trans (ys9 sw)
 have sq:(zA0 (q.map fun k=>D.int (k:Nat)))=true:=zB7 (by rw[List.length_map];exact Nat.le_trans (Nat.le_trans (Nat.le_add_right _ _) hp.2) (Nat.le_trans hs (by decide)))
 have f:=yW9 p c hp.1
 have k:=(zt9 p c).up (c':=c+3) (Nat.add_le_add_left (by decide) _)
 have b:=fun {W:List D} (hW:W=(ws++zj6 q p).map zF5)=>i.back (e:=zF2 q) (f:=zA2 p) (yX3 [(q,p)]) hW
 have w0:=fun l=>((congrArg (·++l.map zF5) yX2).trans (yX3 l):((ws++[(q,p)]).map zF5).dropLast++l.map zF5=(ws++l).map zF5)
 cases p with
 | same t=>exact zA9 (xC7 (c+3) _ _ _ hr _ _ _) ⟨za8,f,k,nd3 sw2 sf sw,rfl,b (w0 [])⟩
 | ax a=>exact zA9 (xC7 (c+3) _ _ _ hr _ _ _) ⟨za8,f,k,nd3 sw2 sf sw,rfl,b (w0 [])⟩
 | turn u=>exact zA9 (xC8 (c+3) _ _ _ hr _ _ (zA2 u) _) ⟨za8,f,k,nd4 sw2 (two sq rfl) sf sw,rfl,b (xD0 (w0 [_]))⟩
 | join u v=>exact zA9 (xC9 (c+3) _ _ _ hr _ _ (zA2 u) (zA2 v) _) ⟨za8,f,k,nd5 sw2 (two sq rfl) (two sq rfl) sf sw,rfl,b (xD1 (w0 [_,_]))⟩
 | und1 u=>exact zA9 (xC8 (c+3) _ _ _ hr _ _ (zA2 u) _) ⟨za8,f,k,nd4 sw2 (two sq rfl) sf sw,rfl,b (xD0 (w0 [_]))⟩
 | und2 u v=>exact zA9 (xC9 (c+3) _ _ _ hr _ _ (zA2 u) (zA2 v) _) ⟨za8,f,k,nd5 sw2 (two sq rfl) (two sq rfl) sf sw,rfl,b (xD1 (w0 [_,_]))⟩
end
theorem ze7 (P:Pap) (c:Nat) (hP:P.small) (hs:P.size≤10000):Ok (c+4) 162 [.val (zA2 P)] (rv (.list ((post P []).map zF5)) (zA2 P)):=by
 refine zW8 xJ0 (zH9 (by rw[yX0];rfl) ?_)
 rw[yX0,yf1]
 refine zC2 (zA9 (xb4 (c+3) _ _) ⟨rfl,rfl,?_⟩)
 refine zC2 (yI5 (z23 (Inv:=IoI P) (fun n ρ x=>?_) zd0 P.size _ (Nat.lt_of_le_of_lt hs (by unfold zd0;decide)) (.mk [] [([],P)] [] .z ⟨Nat.zero_add _,fun w h=>List.mem_singleton.mp h▸⟨hP,Nat.le_of_eq (Nat.zero_add _)⟩,(List.append_nil _).trans (List.append_nil _)⟩)))
 cases x with
 | mk fs ws r hr i =>
  obtain ⟨sw,sf⟩:=i.shorts hs
  rcases List.eq_nil_or_concat ws with rfl | ⟨ws,⟨q,p⟩,rfl⟩
  ·refine zA9 (yX1 (c+3) _ _ _ r false _) ⟨rfl,nd1 sw,rfl,zC2 (zA9 (xJ1 (c+3) _ _ _ _) ⟨nd1 sf,rfl,zA9 (xJ2 (c+3) _ _ _ _) ⟨rfl,rfl,?_⟩⟩)⟩
   rw[← i.todo,← List.map_reverse];rfl
  ·rw[List.concat_eq_append] at *
   exact zA9 (yX1 (c+3) _ _ _ r true _) ⟨congrArg some (decide_eq_true (by rw[List.length_map,List.length_append];exact Int.ofNat_lt.mpr (Nat.succ_pos _))),nd1 sw,y46 hr hs i⟩
end Mine
namespace Mine
open PySem
noncomputable abbrev yt0 (n:String) (l r:D):D:=.obj 331 [(Str.ofString "name",S n),(Str.ofString "left",l),(Str.ofString "right",r),(Str.ofString "needs",.tup [])]
noncomputable abbrev zj8:D:=.dict [(S "swap",yt0 "swap" (mkg px py) (mkg py px)),(S "fold",yt0 "fold" (mkf (mkf px)) px),(S "move",yt0 "move" (mkg (mkf px) py) (mkg px (mkf py)))]
noncomputable abbrev zA3 (told:D):D:=.obj 232 [(Str.ofString "rules",zj8),(Str.ofString "told",told)]
theorem xJ3 (c:Nat):Ok (c+10) 321 [.newO 331 [],.val (S "swap"),.val (mkg px py),.val (mkg py px),.val (.tup [])] (.val .none,some (.newO 331 [(Str.ofString "name",S "swap"),(Str.ofString "left",mkg px py),(Str.ofString "right",mkg py px),(Str.ofString "needs",.tup [])])):=by unfold Ok;kernel_rfl
theorem xJ4 (c:Nat):Ok (c+10) 321 [.newO 331 [],.val (S "fold"),.val (mkf (mkf px)),.val px,.val (.tup [])] (.val .none,some (.newO 331 [(Str.ofString "name",S "fold"),(Str.ofString "left",mkf (mkf px)),(Str.ofString "right",px),(Str.ofString "needs",.tup [])])):=by unfold Ok;kernel_rfl
theorem xJ5 (c:Nat):Ok (c+10) 321 [.newO 331 [],.val (S "move"),.val (mkg (mkf px) py),.val (mkg px (mkf py)),.val (.tup [])] (.val .none,some (.newO 331 [(Str.ofString "name",S "move"),(Str.ofString "left",mkg (mkf px) py),(Str.ofString "right",mkg px (mkf py)),(Str.ofString "needs",.tup [])])):=by unfold Ok;kernel_rfl
theorem yR5 (c:Nat) (X Y n:D):Ok (c+1) 209 [.val (zA3 (tdD X Y)),.val (S "s"),.val n] (rv (.tup [.tup [S "a"],X]) (zA3 (tdD X Y))):=by unfold Ok;kernel_rfl
theorem yR6 (c:Nat) (X Y n:D):Ok (c+1) 209 [.val (zA3 (tdD X Y)),.val (S "t"),.val n] (rv (.tup [mkg (.tup [S "a"]) (.tup [S "b"]),Y]) (zA3 (tdD X Y))):=by unfold Ok;kernel_rfl
theorem yR7 (c:Nat) (t x y n:D):Ok (c+10) 214 [.val (zA3 t),.val (S "swap"),.val (.tup [pr "?x" x,pr "?y" y]),.val n] (rv (.tup [mkg x y,mkg y x]) (zA3 t)):=by unfold Ok;kernel_rfl
theorem yR8 (c:Nat) (t x n:D):Ok (c+10) 214 [.val (zA3 t),.val (S "fold"),.val (.tup [pr "?x" x]),.val n] (rv (.tup [mkf (mkf x),x]) (zA3 t)):=by unfold Ok;kernel_rfl
theorem yR9 (c:Nat) (t x y n:D):Ok (c+10) 214 [.val (zA3 t),.val (S "move"),.val (.tup [pr "?x" x,pr "?y" y]),.val n] (rv (.tup [mkg (mkf x) y,mkg x (mkf y)]) (zA3 t)):=by unfold Ok;kernel_rfl
end Mine
namespace Mine
open PySem
noncomputable abbrev pI (q:List Nat):List D:=q.map fun k=>D.int (k:Nat)
noncomputable abbrev nI (q:List Nat):List Int:=q.map fun k=>((k:Nat):Int)
theorem yA1 (q:List Nat):zX2 (pI q)=some (nI q):=by
 induction q with
 | nil=>rfl
 | cons k q ih=>exact zG2 ih rfl
theorem yt1 {q:List Nat}:∀ {q'},nI q=nI q'→q=q':=by
 induction q with
 | nil =>
  intro q' h
  cases q' with
  | nil=>rfl
  | cons k' q'=>exact nomatch (show ([]:List Int)=_::_ from h)
 | cons k q ih =>
  intro q' h
  cases q' with
  | nil=>exact nomatch (show (_::_:List Int)=[] from h)
  | cons k' q' =>
   have e:=List.cons.inj h
   rw[ih e.2,Int.ofNat.inj e.1]
noncomputable abbrev zI7 {α:Type} (v:List Nat×α→D) (l:List (List Nat×α)):List (D×D):=l.map fun x=>(.tup (pI x.1),v x)
theorem yt2 (q:List Nat):zN4 (.tup (pI q))=some (nI q):=yA1 q
theorem zR0 {α:Type} (v:List Nat×α→D) {l:List (List Nat×α)} {x:List Nat×α} {s:List Int} {o:Option D} (h:zJ3 (zI7 v l) s=some o):zJ3 (zI7 v (x::l)) s=if nI x.1=s then some (some (v x)) else some o:=by
 show (zN4 (.tup (pI x.1))).bind _=_
 rw[yt2]
 show (zJ3 (zI7 v l) s).bind _=_
 rw[h];rfl
theorem yJ5 {α:Type} (v:List Nat×α→D) (l:List (List Nat×α)) (s:List Int):∃ o,zJ3 (zI7 v l) s=some o:=by
 induction l with
 | nil=>exact ⟨none,rfl⟩
 | cons x l ih=>exact ih.elim fun o h=>(Classical.em (nI x.1=s)).elim (fun e=>⟨_,(zR0 v h).trans (if_pos e)⟩) fun e=>⟨_,(zR0 v h).trans (if_neg e)⟩
theorem yf4 {α:Type} (v:List Nat×α→D) (l:List (List Nat×α)):∀ (x:List Nat×α),(l.map (·.1)).Nodup→x∈l→zJ3 (zI7 v l) (nI x.1)=some (some (v x)):=by
 induction l with
 | nil=>exact fun x uu h=>nomatch h
 | cons y l ih =>
  intro x hn h
  have hn:=List.nodup_cons.mp hn
  exact (List.mem_cons.mp h).elim (fun e=>(yJ5 v l (nI x.1)).elim fun o ho=>(zR0 v ho).trans (by rw[e];exact if_pos rfl))
   fun h=>(zR0 v (ih x hn.2 h)).trans (if_neg fun e=>hn.1 (by show y.1∈_;rw[show y.1=x.1 from yt1 e];exact List.mem_map_of_mem h))
theorem yX4 {α:Type} (v:List Nat×α→D) (l:List (List Nat×α)) (q:List Nat) (x:α) (hn:(l.map (·.1)).Nodup) (h:(q,x)∈l):zD8 (zI7 v l) (pI q)=some (v (q,x)) :=
 zG2 (yA1 q) (zG2 (yf4 v l (q,x) hn h) rfl)
theorem yJ6 {α:Type} (v:List Nat×α→D) (q:List Nat) (d:D) (l:List (List Nat×α)):q ∉ l.map (·.1)→zQ3 (zI7 v l) (nI q) d=some (zI7 v l++[(.tup ((nI q).map .int),d)]):=by
 induction l with
 | nil=>exact fun uu=>rfl
 | cons y l ih =>
  intro h
  have h:=not_or.mp fun z=>h (List.mem_cons.mpr z)
  show (zN4 (.tup (pI y.1))).bind _=_
  rw[yt2]
  show (zQ3 (zI7 v l) (nI q) d).bind _=_
  rw[ih h.2]
  exact if_neg fun e=>h.1 (yt1 e).symm
theorem yf5 {α:Type} (v:List Nat×α→D) (l:List (List Nat×α)) (q:List Nat) (x:α) (h:q ∉ l.map (·.1)):zD5 (zI7 v l) (pI q) (v (q,x))=some (zI7 v (l++[(q,x)])):=by
 refine zG2 (yA1 q) ((yJ6 v q _ l h).trans (congrArg some ?_))
 show _=List.map _ (l++[(q,x)])
 rw[List.map_append,List.map_map];rfl
noncomputable def yS0 (l:List (List Nat×Pap)):Prop:=∀ (j:Nat) q p,l[j]?=some (q,p)→∀ (k:Nat) u,p.kids[k]?=some u→(q++[k],u)∈l.take j
theorem yJ7 {a b:List (List Nat×Pap)} (ha:yS0 a) (hb:yS0 b):yS0 (a++b):=by
 intro j q p h k u hu
 rcases Nat.lt_or_ge j a.length with hj | hj
 ·rw[List.getElem?_append_left hj] at h
  rw[List.take_append_of_le_length (by lia)]
  exact ha j q p h k u hu
 ·rw[List.getElem?_append_right hj] at h
  rw[List.take_append]
  exact List.mem_append.mpr (.inr (hb _ q p h k u hu))
theorem zP0 {a:List (List Nat×Pap)} {q:List Nat} {p:Pap} (ha:yS0 a) (h:∀ (k:Nat) u,p.kids[k]?=some u→(q++[k],u)∈a):yS0 (a++[(q,p)]):=by
 intro j q' p' h' k u hu
 rcases Nat.lt_or_ge j a.length with hj | hj
 ·rw[List.getElem?_append_left hj] at h'
  rw[List.take_append_of_le_length (by lia)]
  exact ha j q' p' h' k u hu
 ·rw[List.getElem?_append_right hj] at h'
  have z:j - a.length=0:=Nat.lt_one_iff.mp (List.getElem?_eq_some_iff.mp h').1
  rw[z] at h'
  obtain ⟨rfl,rfl⟩:=Prod.mk.inj (Option.some.inj h')
  rw[List.take_append]
  exact List.mem_append.mpr (.inl (by rw[List.take_of_length_le hj];exact h k u hu))
theorem za9 (p:Pap) (q:List Nat):(q,p)∈post p q:=by
 cases p with
 | same t=>exact .head _
 | ax a=>exact .head _
 | _=>exact List.mem_append_right _ (.head _)
theorem yJ8:yS0 []:=fun j q p h=>nomatch h
theorem yX5 {u w:Pap} {q:List Nat} {k:Nat} (h:[u][k]?=some w):(q++[k],w)∈post u (q++[0]):=by
 cases k with
 | zero=>rw[Option.some.inj h];exact za9 _ _
 | succ k=>exact nomatch (show none=some w from h)
theorem yX6 {u r w:Pap} {q:List Nat} {k:Nat} (h:[u,r][k]?=some w):(q++[k],w)∈post u (q++[0])++post r (q++[1]):=by
 cases k with
 | zero=>rw[Option.some.inj h];exact List.mem_append_left _ (za9 _ _)
 | succ k=>cases k with
  | zero=>rw[Option.some.inj h];exact List.mem_append_right _ (za9 _ _)
  | succ k=>exact nomatch (show none=some w from h)
theorem yf6 (p:Pap):∀ q,yS0 (post p q):=by
 induction p with
 | same t=>exact fun q=>zP0 (a:=[]) yJ8 fun k u h=>nomatch h
 | ax t=>exact fun q=>zP0 (a:=[]) yJ8 fun k u h=>nomatch h
 | turn p ih=>exact fun q=>zP0 (ih _) fun k u h=>yX5 h
 | und1 p ih=>exact fun q=>zP0 (ih _) fun k u h=>yX5 h
 | join p r i1 i2=>exact fun q=>zP0 (yJ7 (i1 _) (i2 _)) fun k u h=>yX6 h
 | und2 p r i1 i2=>exact fun q=>zP0 (yJ7 (i1 _) (i2 _)) fun k u h=>yX6 h
theorem zb0 {l:List (List Nat×Pap)} {x:List Nat×Pap} {q:List Nat} {p:Pap} (k:x∈l→∃ s,x.1=q++s) (h:x∈l++[(q,p)]):∃ s,x.1=q++s :=
 (List.mem_append.mp h).elim k fun h=>⟨[],by rw[List.mem_singleton.mp h,List.append_nil]⟩
theorem zb1 {x q:List Nat} {k:Nat} (h:∃ s,x=q++[k]++s):∃ s,x=q++s:=h.elim fun s e=>⟨k::s,e.trans (List.append_assoc ..)⟩
theorem zu3 (p:Pap):∀ q x,x∈post p q→∃ s,x.1=q++s:=by
 induction p with
 | same t=>exact fun q x h=>zb0 (l:=[]) (fun h=>nomatch h) h
 | ax t=>exact fun q x h=>zb0 (l:=[]) (fun h=>nomatch h) h
 | turn p ih=>exact fun q x h=>zb0 (fun h=>zb1 (ih _ x h)) h
 | und1 p ih=>exact fun q x h=>zb0 (fun h=>zb1 (ih _ x h)) h
 | join p r i1 i2=>exact fun q x h=>zb0 (fun h=>(List.mem_append.mp h).elim (fun h=>zb1 (i1 _ x h)) fun h=>zb1 (i2 _ x h)) h
 | und2 p r i1 i2=>exact fun q x h=>zb0 (fun h=>(List.mem_append.mp h).elim (fun h=>zb1 (i1 _ x h)) fun h=>zb1 (i2 _ x h)) h
theorem zV8 {p:Pap} {q:List Nat} {k:Nat} {l:List (List Nat×Pap)} {x:Pap} (hn:(l.map (·.1)).Nodup) (h:∀ y∈l,∃ k s,y.1=q++k::s):((l++[(q,x)]).map (·.1)).Nodup:=by
 rw[List.map_append,List.nodup_append]
 refine ⟨hn,List.pairwise_singleton _ _,fun a ha b hb e=>?_⟩
 obtain ⟨y,hy,rfl⟩:=List.mem_map.mp ha
 obtain ⟨k,s,e'⟩:=h y hy
 exact List.cons_ne_nil k s (List.append_cancel_left ((e'.symm.trans (e.trans (List.mem_singleton.mp hb))).trans (List.append_nil q).symm))
theorem zb2 {p:Pap} {q:List Nat} {k:Nat}:∀ y∈post p (q++[k]),∃ k s,y.1=q++k::s:=fun y hy=>(zu3 _ _ y hy).elim fun s e=>⟨k,s,e.trans (List.append_assoc ..)⟩
theorem z29 {p r:Pap} {q:List Nat} (h1:((post p (q++[0])).map (·.1)).Nodup) (h2:((post r (q++[1])).map (·.1)).Nodup):((post p (q++[0])++post r (q++[1])).map (·.1)).Nodup:=by
 rw[List.map_append,List.nodup_append]
 refine ⟨h1,h2,fun a ha b hb e=>?_⟩
 obtain ⟨y,hy,rfl⟩:=List.mem_map.mp ha
 obtain ⟨z,hz,rfl⟩:=List.mem_map.mp hb
 obtain ⟨s,e1⟩:=zu3 _ _ y hy
 obtain ⟨s',e2⟩:=zu3 _ _ z hz
 rw[e1,e2,List.append_assoc,List.append_assoc] at e
 exact nomatch (List.cons.inj (List.append_cancel_left e)).1
theorem yX7 {p r:Pap} {q:List Nat}:∀ y∈post p (q++[0])++post r (q++[1]),∃ k s,y.1=q++k::s:=fun y hy=>(List.mem_append.mp hy).elim (zb2 y) (zb2 y)
theorem zu4 (p:Pap):∀ q,((post p q).map (·.1)).Nodup:=by
 induction p with
 | same t=>exact fun q=>List.pairwise_singleton _ _
 | ax t=>exact fun q=>List.pairwise_singleton _ _
 | turn p ih=>exact fun q=>zV8 (p:=p) (k:=0) (ih _) zb2
 | und1 p ih=>exact fun q=>zV8 (p:=p) (k:=0) (ih _) zb2
 | join p r i1 i2=>exact fun q=>zV8 (p:=p) (k:=0) (z29 (i1 _) (i2 _)) yX7
 | und2 p r i1 i2=>exact fun q=>zV8 (p:=p) (k:=0) (z29 (i1 _) (i2 _)) yX7
end Mine
namespace Mine
open PySem
noncomputable abbrev zC9 (l r:D):D:=.tup [l,r]
theorem zS2:G.fn 219=some (zA5 219):=by kernel_rfl
theorem xJ6:G.fn 224=some (zA5 224):=by kernel_rfl
theorem y47 (c:Nat) (t x p:D) (Q:Ret→Prop):zA8 c (zC7 G (zA5 219) [.val (zA3 t),.val (zF3 x),.val p,.val (.list [])]) [] true Q=(true=true∧Q (rv (zC9 x x) (zA3 t))):=by kernel_rfl
theorem yX8 (c:Nat) (t p v:D) (s:Str) (Q:Ret→Prop):zA8 c (zC7 G (zA5 219) [.val (zA3 t),.val (.tup [S "told",.str s]),.val p,.val (.list [])]) [.call (rv v (zA3 t))] true Q =
 (Ok c 209 [.val (zA3 t),.val (.str s),.val p] (rv v (zA3 t))∧true=true∧Q (rv v (zA3 t))):=by kernel_rfl
theorem yA2 (c:Nat) (t p v pl:D) (s:Str) (Q:Ret→Prop):zA8 c (zC7 G (zA5 219) [.val (zA3 t),.val (.tup [S "rule",.str s,pl]),.val p,.val (.list [])]) [.call (rv v (zA3 t))] true Q =
 (Ok c 214 [.val (zA3 t),.val (.str s),.val pl,.val p] (rv v (zA3 t))∧true=true∧Q (rv v (zA3 t))):=by kernel_rfl
theorem y48 (c:Nat) (t p x l r:D) (Q:Ret→Prop):zA8 c (zC7 G (zA5 219) [.val (zA3 t),.val (zK6 x),.val p,.val (.list [zC9 l r])]) [] true Q=(true=true∧Q (rv (zC9 r l) (zA3 t))):=by kernel_rfl
theorem y49 (c:Nat) (t p x y l m m' r:D) (Q:Ret→Prop):zA8 c (zC7 G (zA5 219) [.val (zA3 t),.val (zG6 x y),.val p,.val (.list [zC9 l m,zC9 m' r])]) [.b true] true Q=(deq m m'=some true∧true=true∧Q (rv (zC9 l r) (zA3 t))):=by kernel_rfl
theorem xT2 (c:Nat) (t p x l r:D) (Q:Ret→Prop):zA8 c (zC7 G (zA5 219) [.val (zA3 t),.val (pU1 x),.val p,.val (.list [zC9 l r])]) [] true Q=(true=true∧Q (rv (zC9 (mkf l) (mkf r)) (zA3 t))):=by kernel_rfl
theorem xT3 (c:Nat) (t p x y l r l' r':D) (Q:Ret→Prop):zA8 c (zC7 G (zA5 219) [.val (zA3 t),.val (pU2 x y),.val p,.val (.list [zC9 l r,zC9 l' r'])]) [] true Q=(true=true∧Q (rv (zC9 (mkg l l') (mkg r r')) (zA3 t))):=by kernel_rfl
section
variable (X Y:T)
noncomputable def Pap.L:Pap→T
 | .same t=>t
 | .ax a=>a.l X Y
 | .turn p=>go p
 | .join p _=>p.L
 | .und1 p=>.f p.L
 | .und2 p q=>.g p.L q.L
where go:Pap→T
 | .same t=>t
 | .ax a=>a.r X Y
 | .turn p=>p.L
 | .join _ q=>go q
 | .und1 p=>.f (go p)
 | .und2 p q=>.g (go p) (go q)
noncomputable def Pap.R (p:Pap):T:=Pap.L.go X Y p
noncomputable def Pap.wf:Pap→Prop
 | .same t=>t.size≤300
 | .ax a=>(a.l X Y).size≤300∧(a.r X Y).size≤300
 | .turn p=>p.wf
 | .join p q=>p.wf∧q.wf∧p.R X Y=q.L X Y∧(q.L X Y).size≤300
 | .und1 p=>p.wf
 | .und2 p q=>p.wf∧q.wf
noncomputable def zR1 (p:Pap):D:=zC9 (enc (p.L X Y)) (enc (p.R X Y))
end
theorem zV9 (t:T) (h:t.size≤300):deq (enc t) (enc t)=some true:=zT9 (zI6 t) (Nat.le_trans (zL9 t) (by lia))
theorem yS1 (X Y:T) (p:Pap) (path:D) (c:Nat) (h:p.wf X Y):Ok (c+11) 219 [.val (zA3 (tdD (enc X) (enc Y))),.val (zA2 p),.val path,.val (.list (p.kids.map (zR1 X Y)))] (rv (zR1 X Y p) (zA3 (tdD (enc X) (enc Y)))):=by
 cases p with
 | same t=>exact zB0 zS2 (y47 (c+10) _ (enc t) path _) ⟨rfl,rfl⟩
 | ax a=>cases a with
  | swap x y=>exact zB0 zS2 (yA2 (c+10) _ path _ (.tup [pr "?x" (enc x),pr "?y" (enc y)]) _ _) ⟨yR7 c _ (enc x) (enc y) path,rfl,rfl⟩
  | fold x=>exact zB0 zS2 (yA2 (c+10) _ path _ (.tup [pr "?x" (enc x)]) _ _) ⟨yR8 c _ (enc x) path,rfl,rfl⟩
  | move x y=>exact zB0 zS2 (yA2 (c+10) _ path _ (.tup [pr "?x" (enc x),pr "?y" (enc y)]) _ _) ⟨yR9 c _ (enc x) (enc y) path,rfl,rfl⟩
  | s=>exact zB0 zS2 (yX8 (c+10) _ path _ _ _) ⟨(yR5 c _ _ path).up (by lia),rfl,rfl⟩
  | t=>exact zB0 zS2 (yX8 (c+10) _ path _ _ _) ⟨(yR6 c _ _ path).up (by lia),rfl,rfl⟩
 | turn p=>exact zB0 zS2 (y48 (c+10) _ path (zA2 p) (enc (p.L X Y)) (enc (p.R X Y)) _) ⟨rfl,rfl⟩
 | join p q=>exact zB0 zS2 (y49 (c+10) _ path (zA2 p) (zA2 q) (enc (p.L X Y)) (enc (p.R X Y)) (enc (q.L X Y)) (enc (q.R X Y)) _) ⟨by rw[h.2.2.1];exact zV9 _ h.2.2.2,rfl,rfl⟩
 | und1 p=>exact zB0 zS2 (xT2 (c+10) _ path (zA2 p) (enc (p.L X Y)) (enc (p.R X Y)) _) ⟨rfl,rfl⟩
 | und2 p q=>exact zB0 zS2 (xT3 (c+10) _ path (zA2 p) (zA2 q) (enc (p.L X Y)) (enc (p.R X Y)) (enc (q.L X Y)) (enc (q.R X Y)) _) ⟨rfl,rfl⟩
theorem yX9:(zA5 224).params=[Str.ofString "self",Str.ofString "paper"]:=by kernel_rfl
theorem yf7:stmts 224=[st 224 0,.For (zC1 (st 224 1)) (zD4 (st 224 1)) (zA7 (st 224 1)) [] (zL8 (st 224 1)),st 224 2]:=by kernel_rfl
theorem xb5 (c:Nat) (t p:D) (Q:Fl×Rho→Prop):zA8 c (ex 224 [nm "self" (.val (zA3 t)),nm "paper" (.val p)] (st 224 0)) [] true Q=(true=true∧Q (.next,[nm "self" (.val (zA3 t)),nm "paper" (.val p),nm "known" (.ownD [])])):=by kernel_rfl
theorem xT4 (c:Nat) (t p:D) (l:List D) (Q:List D×Rho→Prop):zA8 c (zC0 G ((evs G 40).e (zA5 224).scope) (zA5 224).scope (zE7 (zC1 (st 224 1))) [nm "self" (.val (zA3 t)),nm "paper" (.val p),nm "known" (.ownD [])] (zD4 (st 224 1))) [.call (rv (.list l) p)] true Q=(Ok c 162 [.val p] (rv (.list l) p)∧nd [zA0 l]=true∧Q (l,[nm "self" (.val (zA3 t)),nm "paper" (.val p),nm "known" (.ownD [])])):=by kernel_rfl
theorem xT5 (t p q o:D) (es:List (D×D)) {r:Rho} (hr:TwoR r):zB9 (zA5 224).scope (zC1 (st 224 1)) (.tup [q,o]) (nm "self" (.val (zA3 t))::nm "paper" (.val p)::nm "known" (.ownD es)::r)=some [nm "self" (.val (zA3 t)),nm "paper" (.val p),nm "known" (.ownD es),nm "path" (.val q),nm "one" (.val o)]:=by induction hr<;>kernel_rfl
noncomputable abbrev yA3 (t p:D) (es:List (D×D)) (q:List D) (o:D):Rho:=[nm "self" (.val (zA3 t)),nm "paper" (.val p),nm "known" (.ownD es),nm "path" (.val (.tup q)),nm "one" (.val o)]
theorem xT6 (c:Nat) (t p o v:D) (es es':List (D×D)) (q:List D) (Q:Fl×Rho→Prop):zA8 c (zB2 (ex' 224) (zA7 (st 224 1)) (yA3 t p es q o)) [.call (rv .none o),.call (rv (.tup []) o),.call (rv v (zA3 t)),.e es'] true Q =
 (Ok c 169 [.val o,.val (.tup q)] (rv .none o)∧Ok c 138 [.val o] (rv (.tup []) o)∧Ok c 219 [.val (zA3 t),.val o,.val (.tup q),.val (.list [])] (rv v (zA3 t))∧zD5 es q v=some es'∧nd [zA0 es]=true∧Q (.next,yA3 t p es' q o)):=by kernel_rfl
theorem xT7 (c:Nat) (t p o v x a:D) (es es':List (D×D)) (q:List D) (Q:Fl×Rho→Prop):zA8 c (zB2 (ex' 224) (zA7 (st 224 1)) (yA3 t p es q o)) [.call (rv .none o),.call (rv (.tup [x]) o),.d a,.call (rv v (zA3 t)),.e es'] true Q =
 (Ok c 169 [.val o,.val (.tup q)] (rv .none o)∧Ok c 138 [.val o] (rv (.tup [x]) o)∧zD8 es (q++[.int (0:Nat)])=some a∧Ok c 219 [.val (zA3 t),.val o,.val (.tup q),.val (.list [a])] (rv v (zA3 t))∧zD5 es q v=some es'∧nd [zA0 es,zA0 q&&zA0 [D.int 0]]=true∧Q (.next,yA3 t p es' q o)):=by kernel_rfl
theorem xT8 (c:Nat) (t p o v x y a b:D) (es es':List (D×D)) (q:List D) (Q:Fl×Rho→Prop):zA8 c (zB2 (ex' 224) (zA7 (st 224 1)) (yA3 t p es q o)) [.call (rv .none o),.call (rv (.tup [x,y]) o),.d a,.d b,.call (rv v (zA3 t)),.e es'] true Q =
 (Ok c 169 [.val o,.val (.tup q)] (rv .none o)∧Ok c 138 [.val o] (rv (.tup [x,y]) o)∧zD8 es (q++[.int (0:Nat)])=some a∧zD8 es (q++[.int (1:Nat)])=some b∧Ok c 219 [.val (zA3 t),.val o,.val (.tup q),.val (.list [a,b])] (rv v (zA3 t))∧zD5 es q v=some es'∧nd [zA0 es,zA0 q&&zA0 [D.int 1],zA0 q&&zA0 [D.int 0]]=true∧Q (.next,yA3 t p es' q o)):=by kernel_rfl
theorem xJ7 (c:Nat) (t p v:D) (es:List (D×D)) (r:Rho) (Q:Fl×Rho→Prop):zA8 c (zB2 (ex 224) [st 224 2] (nm "self" (.val (zA3 t))::nm "paper" (.val p)::nm "known" (.ownD es)::r)) [.d v] true Q=(zD8 es []=some v∧true=true∧Q (.ret (.val v),nm "self" (.val (zA3 t))::nm "paper" (.val p)::nm "known" (.ownD es)::r)):=by kernel_rfl
end Mine
namespace Mine
open PySem
theorem zK7 {pr:Pap→Prop} (h:∀ p,pr p→∀ u∈p.kids,pr u):∀ p q,pr p→∀ x∈post p q,pr x.2
 | .same t,q,hp,x,hx=>by simp[post] at hx;subst hx;exact hp
 | .ax t,q,hp,x,hx=>by simp[post] at hx;subst hx;exact hp
 | .turn p,q,hp,x,hx=>by
  simp only[post,List.mem_append,List.mem_singleton] at hx
  rcases hx with hx | rfl
  ·exact zK7 h p _ (h _ hp p (by simp[Pap.kids])) x hx
  ·exact hp
 | .und1 p,q,hp,x,hx=>by
  simp only[post,List.mem_append,List.mem_singleton] at hx
  rcases hx with hx | rfl
  ·exact zK7 h p _ (h _ hp p (by simp[Pap.kids])) x hx
  ·exact hp
 | .join p r,q,hp,x,hx=>by
  simp only[post,List.mem_append,List.mem_singleton] at hx
  rcases hx with (hx | hx) | rfl
  ·exact zK7 h p _ (h _ hp p (by simp[Pap.kids])) x hx
  ·exact zK7 h r _ (h _ hp r (by simp[Pap.kids])) x hx
  ·exact hp
 | .und2 p r,q,hp,x,hx=>by
  simp only[post,List.mem_append,List.mem_singleton] at hx
  rcases hx with (hx | hx) | rfl
  ·exact zK7 h p _ (h _ hp p (by simp[Pap.kids])) x hx
  ·exact zK7 h r _ (h _ hp r (by simp[Pap.kids])) x hx
  ·exact hp
theorem zI1:∀ p q x,x∈post p q→x.1.length+x.2.size≤q.length+p.size
 | .same t,q,x,hx=>by simp[post] at hx;subst hx;exact Nat.le_refl _
 | .ax t,q,x,hx=>by simp[post] at hx;subst hx;exact Nat.le_refl _
 | .turn p,q,x,hx=>by
  simp only[post,List.mem_append,List.mem_singleton] at hx
  rcases hx with hx | rfl
  ·have:=zI1 p _ x hx;simp[Pap.size] at this ⊢;lia
  ·exact Nat.le_refl _
 | .und1 p,q,x,hx=>by
  simp only[post,List.mem_append,List.mem_singleton] at hx
  rcases hx with hx | rfl
  ·have:=zI1 p _ x hx;simp[Pap.size] at this ⊢;lia
  ·exact Nat.le_refl _
 | .join p r,q,x,hx=>by
  simp only[post,List.mem_append,List.mem_singleton] at hx
  rcases hx with (hx | hx) | rfl
  ·have:=zI1 p _ x hx;simp[Pap.size] at this ⊢;lia
  ·have:=zI1 r _ x hx;simp[Pap.size] at this ⊢;lia
  ·exact Nat.le_refl _
 | .und2 p r,q,x,hx=>by
  simp only[post,List.mem_append,List.mem_singleton] at hx
  rcases hx with (hx | hx) | rfl
  ·have:=zI1 p _ x hx;simp[Pap.size] at this ⊢;lia
  ·have:=zI1 r _ x hx;simp[Pap.size] at this ⊢;lia
  ·exact Nat.le_refl _
theorem yS2:∀ p:Pap,p.small→∀ u∈p.kids,u.small:=by
 intro p hp u hu
 cases p<;>simp[Pap.kids] at hu<;>(try subst hu;exact hp)<;>(rcases hu with rfl | rfl;exact hp.1;exact hp.2)
theorem y50 (X Y:T):∀ p:Pap,p.wf X Y→∀ u∈p.kids,u.wf X Y:=by
 intro p hp u hu
 cases p with
 | same t=>simp[Pap.kids] at hu
 | ax t=>simp[Pap.kids] at hu
 | turn p=>simp[Pap.kids] at hu;subst hu;exact hp
 | und1 p=>simp[Pap.kids] at hu;subst hu;exact hp
 | join p q=>simp[Pap.kids] at hu;rcases hu with rfl | rfl;exact hp.1;exact hp.2.1
 | und2 p q=>simp[Pap.kids] at hu;rcases hu with rfl | rfl;exact hp.1;exact hp.2
theorem zu5 {c:Nat} {P:Pap} {v:List Nat×Pap→D} {asg:D→Rho→Option Rho} {body:Rho→Prc (Fl×Rho)} {mk:List (D×D)→Rho→Rho} {TR:Rho→Prop}
  (step:∀ (l:List (List Nat×Pap)) q p r,TR r→(q,p)∈post P []→l.length≤P.size→(∀ (k:Nat) u,p.kids[k]?=some u→zD8 (zI7 v l) (pI (q++[k]))=some (v (q++[k],u)))→zD5 (zI7 v l) (pI q) (v (q,p))=some (zI7 v (l++[(q,p)])) →
   ∃ ρ1,asg (.tup [.tup (pI q),zA2 p]) (mk (zI7 v l) r)=some ρ1∧wp c (body ρ1) fun x=>x.1=.next∧∃ r,TR r∧x.2=mk (zI7 v (l++[(q,p)])) r)
  (r0:Rho) (h0:TR r0):wp c (zc8 asg body ((post P []).map zF5) (mk [] r0)) fun x=>x.1=.next∧∃ r,TR r∧x.2=mk (zI7 v (post P [])) r:=by
 refine zC6 (zg5 (Inv:=fun j ρ=>∃ r,TR r∧ρ=mk (zI7 v ((post P []).take j)) r) _ 0 _ ⟨r0,h0,rfl⟩ fun j d ρ hj hi=>?_) fun x hx=>?_
 ·rw[Nat.zero_add] at hi ⊢
  rw[List.getElem?_map,Option.map_eq_some_iff] at hj
  obtain ⟨⟨q,p⟩,hj,rfl⟩:=hj
  obtain ⟨r,hr,rfl⟩:=hi
  have hjl:j < (post P []).length:=by
   rcases Nat.lt_or_ge j (post P []).length with h | h
   ·exact h
   ·rw[List.getElem?_eq_none h] at hj;cases hj
  have hge:(post P [])[j]=(q,p):=by rw[List.getElem?_eq_getElem hjl] at hj;exact Option.some.inj hj
  have hnd:=zu4 P []
  have ht:(post P []).take (j+1)=(post P []).take j++[(q,p)]:=by rw[List.take_succ,hj];rfl
  have hnd2:(((post P []).take (j+1)).map (·.1)).Nodup:=by
   rw[List.map_take];exact hnd.sublist (List.take_sublist _ _)
  rw[ht,List.map_append,List.nodup_append] at hnd2
  rw[ht]
  exact step _ q p r hr (List.mem_of_getElem? hj) (by rw[List.length_take,zg9];lia) (fun k u hk=>yX4 v _ _ _ hnd2.1 (yf6 P [] j q p hj k u hk)) (yf5 v _ q p fun hm=>hnd2.2.2 q hm q (by simp) rfl)
 ·obtain ⟨h1,r,hr,h2⟩:=hx
  rw[Nat.zero_add,List.length_map,List.take_of_length_le (Nat.le_refl _)] at h2
  exact ⟨h1,r,hr,h2⟩
theorem z30 (v:List Nat×Pap→D) (P:Pap):zD8 (zI7 v (post P [])) []=some (v ([],P)):=yX4 v _ [] P (zu4 P []) (za9 P [])
theorem yA4 (q:List Nat) (k:Nat):pI (q++[k])=pI q++[.int (k:Nat)]:=by simp[pI]
theorem z31 (X Y:T) (P:Pap) (c:Nat) (hs:P.small) (hw:P.wf X Y) (hP:P.size≤10000):Ok (c+12) 224 [.val (zA3 (tdD (enc X) (enc Y))),.val (zA2 P)] (rv (zR1 X Y P) (zA3 (tdD (enc X) (enc Y)))):=by
 refine zW8 xJ6 (zH9 (by rw[yX9];rfl) ?_)
 rw[yX9,yf7]
 refine zC2 (zA9 (xb5 (c+11) _ _ _) ⟨rfl,rfl,?_⟩)
 refine zC2 (zN9 (zA9 (xT4 (c+11) _ _ ((post P []).map zF5) _) ⟨(ze7 P c hs hP).up (by lia),nd1 (zB7 (by rw[List.length_map,zg9];lia)),?_⟩))
 refine zC6 (zu5 (P:=P) (v:=fun x=>zR1 X Y x.2) (mk:=fun es r=>nm "self" (.val (zA3 (tdD (enc X) (enc Y))))::nm "paper" (.val (zA2 P))::nm "known" (.ownD es)::r) (TR:=TwoR) (fun l q p r hr hm hl hlook hst=>?_) [] .z) fun x hx=>?_
 ·refine ⟨_,xT5 _ _ _ _ _ hr,?_⟩
  have hp:p.small:=zK7 yS2 P [] hs (q,p) hm
  have hpw:p.wf X Y:=zK7 (y50 X Y) P [] hw (q,p) hm
  have hq:=zI1 P [] (q,p) hm
  have sq:zA0 (pI q)=true:=zB7 (by simp at hq ⊢;lia)
  have sl:zA0 (zI7 (fun x=>zR1 X Y x.2) l)=true:=zB7 (by simp;lia)
  have f:=(y45 p c (.tup (pI q)) hp).up (c':=c+11) (by lia)
  have k:=(zt9 p c).up (c':=c+11) (by lia)
  have s:=yS1 X Y p (.tup (pI q)) c hpw
  have n0:p.kids=[]→wp (c+11) (zB2 (ex' 224) (zA7 (st 224 1)) (yA3 (tdD (enc X) (enc Y)) (zA2 P) (zI7 (fun x=>zR1 X Y x.2) l) (pI q) (zA2 p))) fun x=>x.1=.next∧∃ r,TwoR r∧x.2=nm "self" (.val (zA3 (tdD (enc X) (enc Y))))::nm "paper" (.val (zA2 P))::nm "known" (.ownD (zI7 (fun x=>zR1 X Y x.2) (l++[(q,p)])))::r:=by
   intro hk
   rw[hk] at k s
   exact zA9 (xT6 (c+11) _ _ _ _ _ _ _ _) ⟨f,k,s,hst,nd1 sl,rfl,_,.s _ _,rfl⟩
  have n1:∀ u,p.kids=[u]→wp (c+11) (zB2 (ex' 224) (zA7 (st 224 1)) (yA3 (tdD (enc X) (enc Y)) (zA2 P) (zI7 (fun x=>zR1 X Y x.2) l) (pI q) (zA2 p))) fun x=>x.1=.next∧∃ r,TwoR r∧x.2=nm "self" (.val (zA3 (tdD (enc X) (enc Y))))::nm "paper" (.val (zA2 P))::nm "known" (.ownD (zI7 (fun x=>zR1 X Y x.2) (l++[(q,p)])))::r:=by
   intro u hk
   rw[hk] at k s
   have a:=hlook 0 u (by rw[hk];rfl)
   rw[yA4] at a
   exact zA9 (xT7 (c+11) _ _ _ _ _ _ _ _ _ _) ⟨f,k,a,s,hst,ndd sl (two sq rfl),rfl,_,.s _ _,rfl⟩
  have n2:∀ u w,p.kids=[u,w]→wp (c+11) (zB2 (ex' 224) (zA7 (st 224 1)) (yA3 (tdD (enc X) (enc Y)) (zA2 P) (zI7 (fun x=>zR1 X Y x.2) l) (pI q) (zA2 p))) fun x=>x.1=.next∧∃ r,TwoR r∧x.2=nm "self" (.val (zA3 (tdD (enc X) (enc Y))))::nm "paper" (.val (zA2 P))::nm "known" (.ownD (zI7 (fun x=>zR1 X Y x.2) (l++[(q,p)])))::r:=by
   intro u w hk
   rw[hk] at k s
   have a:=hlook 0 u (by rw[hk];rfl)
   have b:=hlook 1 w (by rw[hk];rfl)
   rw[yA4] at a b
   exact zA9 (xT8 (c+11) _ _ _ _ _ _ _ _ _ _ _ _) ⟨f,k,a,b,s,hst,nd3 sl (two sq rfl) (two sq rfl),rfl,_,.s _ _,rfl⟩
  cases p with
  | same t=>exact n0 rfl
  | ax a=>exact n0 rfl
  | turn u=>exact n1 u rfl
  | join u v=>exact n2 u v rfl
  | und1 u=>exact n1 u rfl
  | und2 u v=>exact n2 u v rfl
 ·obtain ⟨x1,x2⟩:=x
  obtain ⟨h1,r,hr,rfl⟩:=hx
  exact ⟨h1,zA9 (xJ7 (c+11) _ _ _ _ _ _) ⟨z30 _ P,rfl,rfl,rfl⟩⟩
end Mine
namespace Mine
open PySem
noncomputable def Pap.cnt:Pap→Nat
 | .same _=>0
 | .ax _=>1
 | .turn p=>p.cnt
 | .join p q=>p.cnt+q.cnt
 | .und1 p=>p.cnt
 | .und2 p q=>p.cnt+q.cnt
noncomputable def yA5 (x:List Nat×Pap):List D:=match x.2 with
 | .ax a=>[xT1 a]
 | _=>[]
theorem zP8:∀ p q,((post p q).map yA5).flatten.length=p.cnt
 | .same _,q=>rfl
 | .ax _,q=>rfl
 | .turn p,q=>by simp[post,Pap.cnt,yA5,← zP8 p (q++[0])]
 | .und1 p,q=>by simp[post,Pap.cnt,yA5,← zP8 p (q++[0])]
 | .join p r,q=>by simp[post,Pap.cnt,yA5,← zP8 p (q++[0]),← zP8 r (q++[1])]
 | .und2 p r,q=>by simp[post,Pap.cnt,yA5,← zP8 p (q++[0]),← zP8 r (q++[1])]
theorem zP9:∀ p:Pap,p.cnt≤p.size
 | .same _=>by simp[Pap.cnt,Pap.size]
 | .ax _=>by simp[Pap.cnt,Pap.size]
 | .turn p=>by have:=zP9 p;simp[Pap.cnt,Pap.size];lia
 | .und1 p=>by have:=zP9 p;simp[Pap.cnt,Pap.size];lia
 | .join p r=>by have:=zP9 p;have:=zP9 r;simp[Pap.cnt,Pap.size];lia
 | .und2 p r=>by have:=zP9 p;have:=zP9 r;simp[Pap.cnt,Pap.size];lia
noncomputable def y51:Expr→Expr
 | .Call _ (e::_) _ _=>e
 | _=>default
theorem xJ8:G.fn 229=some (zA5 229):=by kernel_rfl
theorem yY0:(zA5 229).params=[Str.ofString "self",Str.ofString "paper"]:=by kernel_rfl
theorem yf8:stmts 229=[.Return (some (zI2 (st 229 0))) (yW0 (st 229 0))]:=by kernel_rfl
noncomputable def zG7:Expr:=y51 (zI2 (st 229 0))
theorem yt3:zG7=.ListComp (zc5 zG7) [⟨(zD6 zG7).target,(zD6 zG7).iter,(zD6 zG7).ifs,0⟩] (zI0 zG7) (z24 zG7):=by kernel_rfl
noncomputable abbrev zu6 (t p:D):Rho:=[nm "self" (.val (zA3 t)),nm "paper" (.val p)]
theorem xJ9 (t p:D):(evs G 40).e (zA5 229).scope (zu6 t p) (zI2 (st 229 0))=(evalArgs ((evs G 39).e (zA5 229).scope) [zG7] (zu6 t p)).bind fun q=>(zo7 "len" q.1).bind fun r=>.pure (r,q.2):=by kernel_rfl
theorem y52:zE3 zG7=false:=by kernel_rfl
theorem xT9 (c:Nat) (t p:D) (l:List D) (Q:List D×Rho→Prop):zA8 c (zC0 G ((evs G 38).e (zA5 229).scope) (zA5 229).scope (zE7 (zD6 zG7).target) (zu6 t p) (zD6 zG7).iter) [.call (rv (.list l) p)] true Q=(Ok c 162 [.val p] (rv (.list l) p)∧nd [zA0 l]=true∧Q (l,zu6 t p)):=by kernel_rfl
theorem xU0 (x:Nat):(zI9 [⟨(zD6 zG7).target,(zD6 zG7).iter,(zD6 zG7).ifs,0⟩]&&zF6 (zA5 229).scope (zI0 zG7))=true:=by kernel_rfl
theorem yt4 (t p:D):zN7 (zI0 zG7) (zD6 zG7).target (zD2 (zI0 zG7) (zC4 (zI0 zG7) (zu6 t p)))=true:=by kernel_rfl
theorem yt5 (t p:D):zC4 (zI0 zG7) (zu6 t p)=zu6 t p:=by kernel_rfl
noncomputable abbrev zW0 (t p d:D):Prc (List D):=z25 38 (zI0 zG7) (zc5 zG7) (zD6 zG7).target (zD6 zG7).ifs (zD2 (zI0 zG7) (zu6 t p)) d
theorem y53 (c:Nat) (t p q x:D) (Q:List D→Prop):zA8 c (zW0 t p (.tup [q,zF3 x])) [] true Q=(true=true∧Q []):=by kernel_rfl
theorem yY1 (c:Nat) (t p q x:D) (Q:List D→Prop):zA8 c (zW0 t p (.tup [q,.tup [S "told",x]])) [] true Q=(true=true∧Q [.tup [S "told",x]]):=by kernel_rfl
theorem yA6 (c:Nat) (t p q x y:D) (Q:List D→Prop):zA8 c (zW0 t p (.tup [q,.tup [S "rule",x,y]])) [] true Q=(true=true∧Q [.tup [S "rule",x,y]]):=by kernel_rfl
theorem y54 (c:Nat) (t p q x:D) (Q:List D→Prop):zA8 c (zW0 t p (.tup [q,zK6 x])) [] true Q=(true=true∧Q []):=by kernel_rfl
theorem y55 (c:Nat) (t p q x y:D) (Q:List D→Prop):zA8 c (zW0 t p (.tup [q,zG6 x y])) [] true Q=(true=true∧Q []):=by kernel_rfl
theorem xU1 (c:Nat) (t p q x:D) (Q:List D→Prop):zA8 c (zW0 t p (.tup [q,pU1 x])) [] true Q=(true=true∧Q []):=by kernel_rfl
theorem xU2 (c:Nat) (t p q x y:D) (Q:List D→Prop):zA8 c (zW0 t p (.tup [q,pU2 x y])) [] true Q=(true=true∧Q []):=by kernel_rfl
theorem yt6 (t:D) (P:Pap) (c:Nat) (hs:P.small) (hP:P.size≤10000):Ok (c+5) 229 [.val (zA3 t),.val (zA2 P)] (rv (.int (P.cnt:Nat)) (zA3 t)):=by
 refine zW8 xJ8 (zH9 (by rw[yY0];rfl) ?_)
 rw[yY0,yf8]
 have hlen:((post P []).map yA5).flatten.length=P.cnt:=zP8 P []
 have hsh:zA0 ((post P []).map yA5).flatten=true:=zB7 (by rw[hlen];have:=zP9 P;lia)
 refine yQ5 (yq9 ?_)
 have hcomp:wp (c+4) ((evs G 39).e (zA5 229).scope (zu6 t (zA2 P)) zG7) fun q=>q=(.ownL ((post P []).map yA5).flatten,zu6 t (zA2 P)):=by
  rw[yt3]
  refine zZ2 (as:=post P []) (e:=zF5) (g:=yA5) (zA9 (xT9 (c+4) t (zA2 P) ((post P []).map zF5) _) ⟨ze7 P c hs hP,nd1 (zB7 (by rw[List.length_map,zg9];lia)),rfl⟩) (xU0 0) (yt4 t _) (fun a ha=>?_) hsh (by rw[yt5])
  rw[yt5]
  obtain ⟨q,p⟩:=a
  cases p with
  | same x=>exact zA9 (y53 (c+4) t _ (zF2 q) (enc x) _) ⟨rfl,rfl⟩
  | ax a=>cases a with
   | swap x y=>exact zA9 (yA6 (c+4) t _ (zF2 q) _ _ _) ⟨rfl,rfl⟩
   | fold x=>exact zA9 (yA6 (c+4) t _ (zF2 q) _ _ _) ⟨rfl,rfl⟩
   | move x y=>exact zA9 (yA6 (c+4) t _ (zF2 q) _ _ _) ⟨rfl,rfl⟩
   | s=>exact zA9 (yY1 (c+4) t _ (zF2 q) _ _) ⟨rfl,rfl⟩
   | t=>exact zA9 (yY1 (c+4) t _ (zF2 q) _ _) ⟨rfl,rfl⟩
  | turn x=>exact zA9 (y54 (c+4) t _ (zF2 q) (zA2 x) _) ⟨rfl,rfl⟩
  | join x y=>exact zA9 (y55 (c+4) t _ (zF2 q) (zA2 x) (zA2 y) _) ⟨rfl,rfl⟩
  | und1 x=>exact zA9 (xU1 (c+4) t _ (zF2 q) (zA2 x) _) ⟨rfl,rfl⟩
  | und2 x y=>exact zA9 (xU2 (c+4) t _ (zF2 q) (zA2 x) (zA2 y) _) ⟨rfl,rfl⟩
 show wp (c+4) ((evs G 40).e (zA5 229).scope (zu6 t (zA2 P)) (zI2 (st 229 0))) _
 rw[xJ9]
 refine zD3 ?_
 unfold evalArgs
 rw[y52,if_neg (by simp)]
 refine zD3 (zC6 hcomp fun q hq=>?_)
 subst hq
 refine zC8 (zD3 (z89 hsh (zC8 (zC8 ?_))))
 refine ⟨fun h=>(nomatch h),fun r h=>?_⟩
 cases h
 rw[hlen]
 exact ⟨rfl,rfl⟩
end Mine
namespace Mine
open PySem
noncomputable abbrev zA4 (t:D):D:=.obj 305 [(Str.ofString "judge",zA3 t)]
noncomputable abbrev st5 (p k n pl:D) (b:Bool):D:=.tup [p,k,n,pl,.bool b]
theorem xK0:G.fn 250=some (zA5 250):=by kernel_rfl
theorem xK1:G.fn 274=some (zA5 274):=by kernel_rfl
theorem yt7 (c:Nat) (p k n pl:D) (b:Bool):Ok (c+1) 243 [.val (st5 p k n pl b)] (rv (st5 p k n pl (!b)) (st5 p k n pl b)):=by unfold Ok;kernel_rfl
theorem y56 (c:Nat) (p:List D) (k n pl:D) (b:Bool) (i:Int) (Q:Ret→Prop):zA8 c (zC7 G (zA5 250) [.val (st5 (.tup p) k n pl b),.val (.int i)]) [] true Q=(nd [zA0 [D.int i]&&zA0 p]=true∧Q (rv (st5 (.tup (.int i::p)) k n pl b) (st5 (.tup p) k n pl b))):=by kernel_rfl
noncomputable def Stp.turn (s:Stp):Stp:=⟨s.path,s.ax,!s.back⟩
noncomputable def Stp.deep (k:Nat) (s:Stp):Stp:=⟨k::s.path,s.ax,s.back⟩
theorem yf9 (c:Nat) (s:Stp):Ok (c+1) 243 [.val (zA6 s)] (rv (zA6 s.turn) (zA6 s)):=yt7 c _ _ _ _ _
theorem y57 (c:Nat) (s:Stp) (k:Nat) (h:s.path.length≤100000):Ok (c+1) 250 [.val (zA6 s),.val (.int (k:Nat))] (rv (zA6 (s.deep k)) (zA6 s)) :=
 zB0 xK0 (y56 c (pI s.path) _ _ _ _ _ _) ⟨nd1 (two rfl (zB7 (by simp;lia))),rfl⟩
noncomputable def Pap.steps:Pap→List Stp
 | .same _=>[]
 | .ax a=>[⟨[],a,false⟩]
 | .turn p=>p.steps.reverse.map Stp.turn
 | .join p q=>p.steps++q.steps
 | .und1 p=>p.steps.map (Stp.deep 0)
 | .und2 p q=>p.steps.map (Stp.deep 0)++q.steps.map (Stp.deep 1)
noncomputable def Pap.shp:Pap→Prop
 | .same _=>True
 | .ax _=>True
 | .turn p=>p.shp∧p.steps.length=1
 | .join p q=>p.shp∧q.shp∧(p.steps.length=1∨p.steps.length=2∨p.steps.length=3)∧q.steps.length=1
 | .und1 p=>p.shp∧p.steps.length=1
 | .und2 p q=>p.shp∧q.shp∧((p.steps.length=1∧q.steps=[])∨(p.steps=[]∧q.steps.length=1))
theorem yt8:∀ p:Pap,p.shp→∀ u∈p.kids,u.shp:=by
 intro p hp u hu
 cases p with
 | same t=>simp[Pap.kids] at hu
 | ax t=>simp[Pap.kids] at hu
 | turn p=>simp[Pap.kids] at hu;subst hu;exact hp.1
 | und1 p=>simp[Pap.kids] at hu;subst hu;exact hp.1
 | join p q=>simp[Pap.kids] at hu;rcases hu with rfl | rfl;exact hp.1;exact hp.2.1
 | und2 p q=>simp[Pap.kids] at hu;rcases hu with rfl | rfl;exact hp.1;exact hp.2.1
theorem zJ7:∀ (p:Pap) s,s∈p.steps→s.path.length≤p.size
 | .same _,s,h=>by simp[Pap.steps] at h
 | .ax _,s,h=>by simp[Pap.steps] at h;subst h;simp
 | .turn p,s,h=>by
  simp only[Pap.steps,List.mem_map,List.mem_reverse] at h
  obtain ⟨x,hx,rfl⟩:=h
  have:=zJ7 p x hx;simp[Stp.turn,Pap.size];lia
 | .join p q,s,h=>by
  simp only[Pap.steps,List.mem_append] at h
  rcases h with h | h
  ·have:=zJ7 p s h;simp[Pap.size];lia
  ·have:=zJ7 q s h;simp[Pap.size];lia
 | .und1 p,s,h=>by
  simp only[Pap.steps,List.mem_map] at h
  obtain ⟨x,hx,rfl⟩:=h
  have:=zJ7 p x hx;simp[Stp.deep,Pap.size];lia
 | .und2 p q,s,h=>by
  simp only[Pap.steps,List.mem_append,List.mem_map] at h
  rcases h with ⟨x,hx,rfl⟩ | ⟨x,hx,rfl⟩
  ·have:=zJ7 p x hx;simp[Stp.deep,Pap.size];lia
  ·have:=zJ7 q x hx;simp[Stp.deep,Pap.size];lia
theorem yY2:(zA5 274).params=[Str.ofString "self",Str.ofString "paper"]:=by kernel_rfl
theorem yg0:stmts 274=[st 274 0,st 274 1,.For (zC1 (st 274 2)) (zD4 (st 274 2)) (zA7 (st 274 2)) [] (zL8 (st 274 2)),st 274 3]:=by kernel_rfl
theorem xb6 (c:Nat) (t p v:D) (Q:Fl×Rho→Prop):zA8 c (ex 274 [nm "self" (.val (zA4 t)),nm "paper" (.val p)] (st 274 0)) [.call (rv v (zA3 t))] true Q=(Ok c 224 [.val (zA3 t),.val p] (rv v (zA3 t))∧true=true∧Q (.next,[nm "self" (.val (zA4 t)),nm "paper" (.val p)])):=by kernel_rfl
theorem xb7 (c:Nat) (t p:D) (Q:Fl×Rho→Prop):zA8 c (ex 274 [nm "self" (.val (zA4 t)),nm "paper" (.val p)] (st 274 1)) [] true Q=(true=true∧Q (.next,[nm "self" (.val (zA4 t)),nm "paper" (.val p),nm "known" (.ownD [])])):=by kernel_rfl
theorem xU3 (c:Nat) (t p:D) (l:List D) (Q:List D×Rho→Prop):zA8 c (zC0 G ((evs G 40).e (zA5 274).scope) (zA5 274).scope (zE7 (zC1 (st 274 2))) [nm "self" (.val (zA4 t)),nm "paper" (.val p),nm "known" (.ownD [])] (zD4 (st 274 2))) [.call (rv (.list l) p)] true Q=(Ok c 162 [.val p] (rv (.list l) p)∧nd [zA0 l]=true∧Q (l,[nm "self" (.val (zA4 t)),nm "paper" (.val p),nm "known" (.ownD [])])):=by kernel_rfl
inductive ParR:Rho→Prop
 | z:ParR []
 | s (e f g:D):ParR [nm "path" (.val e),nm "one" (.val f),nm "parts" (.ownL [])]
 | s' (e f:D) (g:List D):ParR [nm "path" (.val e),nm "one" (.val f),nm "parts" (.ownL g)]
 | v (e f g:D):ParR [nm "path" (.val e),nm "one" (.val f),nm "parts" (.val g)]
inductive PaR:Rho→Prop
 | z:PaR []
 | s (g:List D):PaR [nm "parts" (.ownL g)]
 | v (g:D):PaR [nm "parts" (.val g)]
noncomputable abbrev yS3 (t p:D) (es:List (D×D)) (r:Rho):Rho:=nm "self" (.val (zA4 t))::nm "paper" (.val p)::nm "known" (.ownD es)::r
noncomputable abbrev zQ1 (t p:D) (es:List (D×D)) (q o:D) (r:Rho):Rho:=nm "self" (.val (zA4 t))::nm "paper" (.val p)::nm "known" (.ownD es)::nm "path" (.val q)::nm "one" (.val o)::r
theorem xU4 (t p q o:D) (es:List (D×D)) {r:Rho} (hr:ParR r):∃ r',PaR r'∧zB9 (zA5 274).scope (zC1 (st 274 2)) (.tup [q,o]) (yS3 t p es r)=some (zQ1 t p es q o r'):=by
 cases hr with
 | z=>exact ⟨_,.z,by kernel_rfl⟩
 | s e f g=>exact ⟨_,.s [],by kernel_rfl⟩
 | s' e f g=>exact ⟨_,.s g,by kernel_rfl⟩
 | v e f g=>exact ⟨_,.v g,by kernel_rfl⟩
end Mine
namespace Mine
open PySem
theorem y58 (c:Nat) (t p n:D) (es es':List (D×D)) (q:List D) {r:Rho} (hr:PaR r) (Q:Fl×Rho→Prop):zA8 c (zB2 (ex' 274) (zA7 (st 274 2)) (zQ1 t p es (.tup q) (.tup [S "told",n]) r)) [.call (rv (.tup []) (.tup [S "told",n])),.e es'] true Q =
 (Ok c 138 [.val (.tup [S "told",n])] (rv (.tup []) (.tup [S "told",n]))∧zD5 es q (.list [st5 (.tup []) (S "told") n (.tup []) false])=some es'∧nd [zA0 es]=true∧Q (.next,zQ1 t p es' (.tup q) (.tup [S "told",n]) [nm "parts" (.ownL [])])):=by induction hr<;>kernel_rfl
theorem y59 (c:Nat) (t p n pl:D) (es es':List (D×D)) (q:List D) {r:Rho} (hr:PaR r) (Q:Fl×Rho→Prop):zA8 c (zB2 (ex' 274) (zA7 (st 274 2)) (zQ1 t p es (.tup q) (.tup [S "rule",n,pl]) r)) [.call (rv (.tup []) (.tup [S "rule",n,pl])),.e es'] true Q =
 (Ok c 138 [.val (.tup [S "rule",n,pl])] (rv (.tup []) (.tup [S "rule",n,pl]))∧zD5 es q (.list [st5 (.tup []) (S "rule") n pl false])=some es'∧nd [zA0 es]=true∧Q (.next,zQ1 t p es' (.tup q) (.tup [S "rule",n,pl]) [nm "parts" (.ownL [])])):=by induction hr<;>kernel_rfl
theorem y60 (c:Nat) (t p x:D) (es es':List (D×D)) (q:List D) {r:Rho} (hr:PaR r) (Q:Fl×Rho→Prop):zA8 c (zB2 (ex' 274) (zA7 (st 274 2)) (zQ1 t p es (.tup q) (zF3 x) r)) [.call (rv (.tup []) (zF3 x)),.e es'] true Q =
 (Ok c 138 [.val (zF3 x)] (rv (.tup []) (zF3 x))∧zD5 es q (.list [])=some es'∧nd [zA0 es]=true∧Q (.next,zQ1 t p es' (.tup q) (zF3 x) [nm "parts" (.val (.list []))])):=by induction hr<;>kernel_rfl
theorem y61 (c:Nat) (t p x a s':D) (es es':List (D×D)) (q:List D) {r:Rho} (hr:PaR r) (Q:Fl×Rho→Prop):zA8 c (zB2 (ex' 274) (zA7 (st 274 2)) (zQ1 t p es (.tup q) (zK6 x) r)) [.call (rv (.tup [x]) (zK6 x)),.d (.list [a]),.call (rv s' a),.e es'] true Q =
 (Ok c 138 [.val (zK6 x)] (rv (.tup [x]) (zK6 x))∧zD8 es (q++[.int (0:Nat)])=some (.list [a])∧Ok c 243 [.val a] (rv s' a)∧zD5 es q (.list [s'])=some es'∧nd [zA0 es,zA0 q&&zA0 [D.int 0]]=true∧Q (.next,zQ1 t p es' (.tup q) (zK6 x) [nm "parts" (.ownL [.list [a]])])):=by induction hr<;>kernel_rfl
theorem xU5 (c:Nat) (t p x a s':D) (es es':List (D×D)) (q:List D) {r:Rho} (hr:PaR r) (Q:Fl×Rho→Prop):zA8 c (zB2 (ex' 274) (zA7 (st 274 2)) (zQ1 t p es (.tup q) (pU1 x) r)) [.call (rv (.tup [x]) (pU1 x)),.d (.list [a]),.call (rv s' a),.e es'] true Q =
 (Ok c 138 [.val (pU1 x)] (rv (.tup [x]) (pU1 x))∧zD8 es (q++[.int (0:Nat)])=some (.list [a])∧Ok c 250 [.val a,.val (.int (0:Nat))] (rv s' a)∧zD5 es q (.list [s'])=some es'∧nd [zA0 es,zA0 q&&zA0 [D.int 0]]=true∧Q (.next,zQ1 t p es' (.tup q) (pU1 x) [nm "parts" (.val (.list [.list [a]]))])):=by induction hr<;>kernel_rfl
theorem xK2 (c:Nat) (t p x y a s':D) (es es':List (D×D)) (q:List D) {r:Rho} (hr:PaR r) (Q:Fl×Rho→Prop):zA8 c (zB2 (ex' 274) (zA7 (st 274 2)) (zQ1 t p es (.tup q) (pU2 x y) r)) [.call (rv (.tup [x,y]) (pU2 x y)),.d (.list [a]),.d (.list []),.call (rv s' a),.e es'] true Q =
 (Ok c 138 [.val (pU2 x y)] (rv (.tup [x,y]) (pU2 x y))∧zD8 es (q++[.int (0:Nat)])=some (.list [a])∧zD8 es (q++[.int (1:Nat)])=some (.list [])∧Ok c 250 [.val a,.val (.int (0:Nat))] (rv s' a)∧zD5 es q (.list [s'])=some es'∧nd [zA0 es,zA0 q&&zA0 [D.int 1],zA0 q&&zA0 [D.int 0]]=true∧Q (.next,zQ1 t p es' (.tup q) (pU2 x y) [nm "parts" (.val (.list [.list [a],.list []]))])):=by induction hr<;>kernel_rfl
theorem xK3 (c:Nat) (t p x y a s':D) (es es':List (D×D)) (q:List D) {r:Rho} (hr:PaR r) (Q:Fl×Rho→Prop):zA8 c (zB2 (ex' 274) (zA7 (st 274 2)) (zQ1 t p es (.tup q) (pU2 x y) r)) [.call (rv (.tup [x,y]) (pU2 x y)),.d (.list []),.d (.list [a]),.call (rv s' a),.e es'] true Q =
 (Ok c 138 [.val (pU2 x y)] (rv (.tup [x,y]) (pU2 x y))∧zD8 es (q++[.int (0:Nat)])=some (.list [])∧zD8 es (q++[.int (1:Nat)])=some (.list [a])∧Ok c 250 [.val a,.val (.int (1:Nat))] (rv s' a)∧zD5 es q (.list [s'])=some es'∧nd [zA0 es,zA0 q&&zA0 [D.int 1],zA0 q&&zA0 [D.int 0]]=true∧Q (.next,zQ1 t p es' (.tup q) (pU2 x y) [nm "parts" (.val (.list [.list [],.list [a]]))])):=by induction hr<;>kernel_rfl
theorem xU6 (c:Nat) (t p x y b a0:D) (es es':List (D×D)) (q:List D) {r:Rho} (hr:PaR r) (Q:Fl×Rho→Prop):zA8 c (zB2 (ex' 274) (zA7 (st 274 2)) (zQ1 t p es (.tup q) (zG6 x y) r)) [.call (rv (.tup [x,y]) (zG6 x y)),.d (.list [a0]),.d (.list [b]),.e es'] true Q =
 (Ok c 138 [.val (zG6 x y)] (rv (.tup [x,y]) (zG6 x y))∧zD8 es (q++[.int (0:Nat)])=some (.list [a0])∧zD8 es (q++[.int (1:Nat)])=some (.list [b])∧zD5 es q (.list [a0,b])=some es'∧nd [zA0 es,zA0 q&&zA0 [D.int 1],zA0 q&&zA0 [D.int 0]]=true∧Q (.next,zQ1 t p es' (.tup q) (zG6 x y) [nm "parts" (.val (.list [.list [a0],.list [b]]))])):=by induction hr<;>kernel_rfl
theorem xU7 (c:Nat) (t p x y b a0 a1:D) (es es':List (D×D)) (q:List D) {r:Rho} (hr:PaR r) (Q:Fl×Rho→Prop):zA8 c (zB2 (ex' 274) (zA7 (st 274 2)) (zQ1 t p es (.tup q) (zG6 x y) r)) [.call (rv (.tup [x,y]) (zG6 x y)),.d (.list [a0,a1]),.d (.list [b]),.e es'] true Q =
 (Ok c 138 [.val (zG6 x y)] (rv (.tup [x,y]) (zG6 x y))∧zD8 es (q++[.int (0:Nat)])=some (.list [a0,a1])∧zD8 es (q++[.int (1:Nat)])=some (.list [b])∧zD5 es q (.list [a0,a1,b])=some es'∧nd [zA0 es,zA0 q&&zA0 [D.int 1],zA0 q&&zA0 [D.int 0]]=true∧Q (.next,zQ1 t p es' (.tup q) (zG6 x y) [nm "parts" (.val (.list [.list [a0,a1],.list [b]]))])):=by induction hr<;>kernel_rfl
theorem xU8 (c:Nat) (t p x y b a0 a1 a2:D) (es es':List (D×D)) (q:List D) {r:Rho} (hr:PaR r) (Q:Fl×Rho→Prop):zA8 c (zB2 (ex' 274) (zA7 (st 274 2)) (zQ1 t p es (.tup q) (zG6 x y) r)) [.call (rv (.tup [x,y]) (zG6 x y)),.d (.list [a0,a1,a2]),.d (.list [b]),.e es'] true Q =
 (Ok c 138 [.val (zG6 x y)] (rv (.tup [x,y]) (zG6 x y))∧zD8 es (q++[.int (0:Nat)])=some (.list [a0,a1,a2])∧zD8 es (q++[.int (1:Nat)])=some (.list [b])∧zD5 es q (.list [a0,a1,a2,b])=some es'∧nd [zA0 es,zA0 q&&zA0 [D.int 1],zA0 q&&zA0 [D.int 0]]=true∧Q (.next,zQ1 t p es' (.tup q) (zG6 x y) [nm "parts" (.val (.list [.list [a0,a1,a2],.list [b]]))])):=by induction hr<;>kernel_rfl
end Mine
namespace Mine
open PySem
theorem xK4 (c:Nat) (t p v:D) (es:List (D×D)) (r:Rho) (Q:Fl×Rho→Prop):zA8 c (zB2 (ex 274) [st 274 3] (yS3 t p es r)) [.d v] true Q=(zD8 es []=some v∧true=true∧Q (.ret (.val v),yS3 t p es r)):=by kernel_rfl
noncomputable abbrev stL (p:Pap):D:=.list (p.steps.map zA6)
theorem zb3 {α:Type} {l:List α} (h:l.length=1):∃ a,l=[a]:=by
 match l,h with
 | [a],_=>exact ⟨a,rfl⟩
theorem y62 {α:Type} {l:List α} (h:l.length=2):∃ a b,l=[a,b]:=by
 match l,h with
 | [a,b],_=>exact ⟨a,b,rfl⟩
theorem yg1 {α:Type} {l:List α} (h:l.length=3):∃ a b c,l=[a,b,c]:=by
 match l,h with
 | [a,b,c],_=>exact ⟨a,b,c,rfl⟩
noncomputable def zO2 (c:Nat) (td P:D) (es' es:List (D×D)) (q:List D) (r:Rho) (p:Pap):Prop:=wp (c+12) (zB2 (ex' 274) (zA7 (st 274 2)) (zQ1 td P es (.tup q) (zA2 p) r)) fun x=>x.1=.next∧∃ r,ParR r∧x.2=yS3 td P es' r
structure InO (es' es:List (D×D)) (q:List D) (p:Pap):Prop where
 sh:p.shp
 ps:p.size≤10000
 sq:zA0 q=true
 sl:zA0 es=true
 look:∀ (k:Nat) u,p.kids[k]?=some u→zD8 es (q++[.int k])=some (stL u)
 put:zD5 es q (stL p)=some es'
section
variable {c:Nat} {td P:D} {es es':List (D×D)} {q:List D} {r:Rho} {u w:Pap}
theorem xU9 {l l':List Stp} (e:l=l'):D.list (l.map zA6)=.list (l'.map zA6):=congrArg (fun l=>D.list (l.map zA6)) e
theorem InO.at {p:Pap} {l:List Stp} (h:InO es' es q p) (k:Nat) (g:p.kids[k]?=some u) (e:u.steps=l):zD8 es (q++[.int k])=some (.list (l.map zA6)):=(h.look k u g).trans (congrArg some (xU9 e))
theorem InO.puts {p:Pap} {l:List Stp} (h:InO es' es q p) (e:p.steps=l):zD5 es q (.list (l.map zA6))=some es':=(congrArg (zD5 es q) (xU9 e)).symm.trans h.put
theorem InO.k {p:Pap} (h:InO es' es q p) (c:Nat):Ok (c+12) 138 [.val (zA2 p)] (rv (.tup (p.kids.map zA2)) (zA2 p)):=(zt9 p c).up (Nat.add_le_add_left (by decide) c)
theorem okD {u:Pap} (k:Nat) {a:Stp} (ha:u.steps=[a]) (hu:u.size≤10000):Ok (c+12) 250 [.val (zA6 a),.val (.int (k:Nat))] (rv (zA6 (a.deep k)) (zA6 a)) :=
 (y57 c a k (Nat.le_trans (zJ7 u a (ha▸List.mem_singleton_self a)) (Nat.le_trans hu (by decide)))).up (Nat.add_le_add_left (by decide) c)
theorem yt9 {t:T} (hr:PaR r) (h:InO es' es q (.same t)):zO2 c td P es' es q r (.same t) :=
 zA9 (y60 (c+12) td P (enc t) es es' q hr _) ⟨h.k c,h.put,nd1 h.sl,rfl,_,.v _ _ _,rfl⟩
theorem zu7 (n pl:D) {a:Ax} (e:zA2 (.ax a)=.tup [S "rule",n,pl]) (e2:stL (.ax a)=.list [st5 (.tup []) (S "rule") n pl false]) (hr:PaR r) (h:InO es' es q (.ax a)):zO2 c td P es' es q r (.ax a):=by
 have k:=h.k c
 have g:=h.put
 unfold zO2
 rw[e] at k ⊢
 rw[e2] at g
 exact zA9 (y59 (c+12) td P n pl es es' q hr _) ⟨k,g,nd1 h.sl,rfl,_,.s' _ _ _,rfl⟩
theorem yJ9 (n:D) {a:Ax} (e:zA2 (.ax a)=.tup [S "told",n]) (e2:stL (.ax a)=.list [st5 (.tup []) (S "told") n (.tup []) false]) (hr:PaR r) (h:InO es' es q (.ax a)):zO2 c td P es' es q r (.ax a):=by
 have k:=h.k c
 have g:=h.put
 unfold zO2
 rw[e] at k ⊢
 rw[e2] at g
 exact zA9 (y58 (c+12) td P n es es' q hr _) ⟨k,g,nd1 h.sl,rfl,_,.s' _ _ _,rfl⟩
theorem xK5 {a:Ax} (hr:PaR r) (h:InO es' es q (.ax a)):zO2 c td P es' es q r (.ax a):=by
 cases a with
 | swap x y=>exact zu7 _ _ rfl rfl hr h
 | fold x=>exact zu7 _ _ rfl rfl hr h
 | move x y=>exact zu7 _ _ rfl rfl hr h
 | s=>exact yJ9 _ rfl rfl hr h
 | t=>exact yJ9 _ rfl rfl hr h
theorem InO.s0 {p:Pap} (h:InO es' es q p) (d:D):(zA0 q&&zA0 [d])=true:=two h.sq rfl
theorem yu0 {a:Stp} (ha:u.steps=[a]) (hr:PaR r) (h:InO es' es q (.turn u)):zO2 c td P es' es q r (.turn u) :=
 zA9 (y61 (c+12) td P (zA2 u) (zA6 a) (zA6 a.turn) es es' q hr _) ⟨h.k c,h.at 0 rfl ha,(yf9 c a).up (Nat.add_le_add_left (by decide) c),h.puts (l:=[a.turn]) (congrArg (fun l:List Stp=>List.map Stp.turn l.reverse) ha),ndd h.sl (h.s0 _),rfl,_,.s' _ _ _,rfl⟩
theorem xK6 {a:Stp} (ha:u.steps=[a]) (hr:PaR r) (h:InO es' es q (.und1 u)):zO2 c td P es' es q r (.und1 u) :=
 zA9 (xU5 (c+12) td P (zA2 u) (zA6 a) (zA6 (a.deep 0)) es es' q hr _) ⟨h.k c,h.at 0 rfl ha,okD 0 ha (Nat.le_of_succ_le h.ps),h.puts (l:=[a.deep 0]) (congrArg (List.map (Stp.deep 0)) ha),ndd h.sl (h.s0 _),rfl,_,.v _ _ _,rfl⟩
theorem st2 {l l' m m':List Stp} (f:Stp→Stp) (g:Stp→Stp) (e:l=l') (e':m=m'):l.map f++m.map g=l'.map f++m'.map g:=e▸e'▸rfl
theorem y63 {a:Stp} (ha:u.steps=[a]) (hb:w.steps=[]) (hu:u.size≤10000) (hr:PaR r) (h:InO es' es q (.und2 u w)):zO2 c td P es' es q r (.und2 u w) :=
 zA9 (xK2 (c+12) td P (zA2 u) (zA2 w) (zA6 a) (zA6 (a.deep 0)) es es' q hr _) ⟨h.k c,h.at 0 rfl ha,h.at 1 rfl hb,okD 0 ha hu,h.puts (l:=[a.deep 0]) (st2 _ _ ha hb),nd3 h.sl (h.s0 _) (h.s0 _),rfl,_,.v _ _ _,rfl⟩
theorem y64 {a:Stp} (hb:u.steps=[]) (ha:w.steps=[a]) (hu:w.size≤10000) (hr:PaR r) (h:InO es' es q (.und2 u w)):zO2 c td P es' es q r (.und2 u w) :=
 zA9 (xK3 (c+12) td P (zA2 u) (zA2 w) (zA6 a) (zA6 (a.deep 1)) es es' q hr _) ⟨h.k c,h.at 0 rfl hb,h.at 1 rfl ha,okD 1 ha hu,h.puts (l:=[a.deep 1]) (st2 _ _ hb ha),nd3 h.sl (h.s0 _) (h.s0 _),rfl,_,.v _ _ _,rfl⟩
theorem ap2 {l l' m m':List Stp} (e:l=l') (e':m=m'):l++m=l'++m':=e▸e'▸rfl
theorem xK7 {a b:Stp} (ha:u.steps=[a]) (hb:w.steps=[b]) (hr:PaR r) (h:InO es' es q (.join u w)):zO2 c td P es' es q r (.join u w) :=
 zA9 (xU6 (c+12) td P (zA2 u) (zA2 w) (zA6 b) (zA6 a) es es' q hr _) ⟨h.k c,h.at 0 rfl ha,h.at 1 rfl hb,h.puts (l:=[a,b]) (ap2 ha hb),nd3 h.sl (h.s0 _) (h.s0 _),rfl,_,.v _ _ _,rfl⟩
theorem xK8 {a a1 b:Stp} (ha:u.steps=[a,a1]) (hb:w.steps=[b]) (hr:PaR r) (h:InO es' es q (.join u w)):zO2 c td P es' es q r (.join u w) :=
 zA9 (xU7 (c+12) td P (zA2 u) (zA2 w) (zA6 b) (zA6 a) (zA6 a1) es es' q hr _) ⟨h.k c,h.at 0 rfl ha,h.at 1 rfl hb,h.puts (l:=[a,a1,b]) (ap2 ha hb),nd3 h.sl (h.s0 _) (h.s0 _),rfl,_,.v _ _ _,rfl⟩
theorem xK9 {a a1 a2 b:Stp} (ha:u.steps=[a,a1,a2]) (hb:w.steps=[b]) (hr:PaR r) (h:InO es' es q (.join u w)):zO2 c td P es' es q r (.join u w) :=
 zA9 (xU8 (c+12) td P (zA2 u) (zA2 w) (zA6 b) (zA6 a) (zA6 a1) (zA6 a2) es es' q hr _) ⟨h.k c,h.at 0 rfl ha,h.at 1 rfl hb,h.puts (l:=[a,a1,a2,b]) (ap2 ha hb),nd3 h.sl (h.s0 _) (h.s0 _),rfl,_,.v _ _ _,rfl⟩
theorem xL0 (hr:PaR r) (h:InO es' es q (.und2 u w)):zO2 c td P es' es q r (.und2 u w) :=
 h.sh.2.2.elim (fun g=>(zb3 g.1).elim fun a ha=>y63 ha g.2 (Nat.le_trans (Nat.le_trans (Nat.le_add_right _ _) (Nat.le_succ _)) h.ps) hr h)
  fun g=>(zb3 g.2).elim fun a ha=>y64 g.1 ha (Nat.le_trans (Nat.le_trans (Nat.le_add_left _ _) (Nat.le_succ _)) h.ps) hr h
theorem xV0 (hr:PaR r) (h:InO es' es q (.join u w)):zO2 c td P es' es q r (.join u w) :=
 (zb3 h.sh.2.2.2).elim fun b hb=>h.sh.2.2.1.elim (fun g=>(zb3 g).elim fun a ha=>xK7 ha hb hr h) fun g=>g.elim (fun g=>(y62 g).elim fun a g=>g.elim fun a1 ha=>xK8 ha hb hr h)
  fun g=>(yg1 g).elim fun a g=>g.elim fun a1 g=>g.elim fun a2 ha=>xK9 ha hb hr h
theorem y65 (p:Pap) (hr:PaR r) (h:InO es' es q p):zO2 c td P es' es q r p:=by
 cases p with
 | same t=>exact yt9 hr h
 | ax a=>exact xK5 hr h
 | turn u=>exact (zb3 h.sh.2).elim fun a ha=>yu0 ha hr h
 | und1 u=>exact (zb3 h.sh.2).elim fun a ha=>xK6 ha hr h
 | und2 u w=>exact xL0 hr h
 | join u w=>exact xV0 hr h
end
theorem yu1 {c:Nat} {td:D} {P:Pap} (hh:P.shp) (hP:P.size≤10000) (l:List (List Nat×Pap)) (q:List Nat) (p:Pap) (r:Rho) (hr:ParR r) (hm:(q,p)∈post P []) (hl:l.length≤P.size)
  (hlook:∀ (k:Nat) u,p.kids[k]?=some u→zD8 (zI7 (fun x=>stL x.2) l) (pI (q++[k]))=some (stL u)) (hst:zD5 (zI7 (fun x=>stL x.2) l) (pI q) (stL p)=some (zI7 (fun x=>stL x.2) (l++[(q,p)]))) :
  ∃ ρ1,zB9 (zA5 274).scope (zC1 (st 274 2)) (.tup [.tup (pI q),zA2 p]) (yS3 td (zA2 P) (zI7 (fun x=>stL x.2) l) r)=some ρ1∧wp (c+12) (zB2 (ex' 274) (zA7 (st 274 2)) ρ1) fun x=>x.1=.next∧∃ r,ParR r∧x.2=yS3 td (zA2 P) (zI7 (fun x=>stL x.2) (l++[(q,p)])) r :=
 (xU4 td (zA2 P) (.tup (pI q)) (zA2 p) (zI7 (fun x=>stL x.2) l) hr).elim fun r' g=>⟨_,g.2,y65 p g.1
  ⟨zK7 yt8 P [] hh (q,p) hm,Nat.le_trans (Nat.le_trans (Nat.le_add_left _ _) (zI1 P [] (q,p) hm)) (Nat.le_trans (Nat.le_of_eq (Nat.zero_add _)) hP),zB7 (by have:=zI1 P [] (q,p) hm;simp at this ⊢;lia),zB7 (by rw[List.length_map];lia),fun k u e=>yA4 q k▸hlook k u e,hst⟩⟩
theorem yS4 (X Y:T) (P:Pap) (c:Nat) (hs:P.small) (hw:P.wf X Y) (hh:P.shp) (hP:P.size≤10000):Ok (c+13) 274 [.val (zA4 (tdD (enc X) (enc Y))),.val (zA2 P)] (rv (stL P) (zA4 (tdD (enc X) (enc Y)))):=by
 refine zW8 xK1 (zH9 (by rw[yY2];rfl) ?_)
 rw[yY2,yg0]
 refine zC2 (zA9 (xb6 (c+12) _ _ _ _) ⟨z31 X Y P c hs hw hP,rfl,rfl,?_⟩)
 refine zC2 (zA9 (xb7 (c+12) _ _ _) ⟨rfl,rfl,?_⟩)
 refine zC2 (zN9 (zA9 (xU3 (c+12) _ _ ((post P []).map zF5) _) ⟨(ze7 P c hs hP).up (Nat.add_le_add_left (by decide) c),nd1 (zB7 (by rw[List.length_map,zg9];lia)),?_⟩))
 refine zC6 (zu5 (P:=P) (v:=fun x=>stL x.2) (mk:=yS3 (tdD (enc X) (enc Y)) (zA2 P)) (TR:=ParR) (yu1 hh hP) [] .z) fun x hx=>⟨hx.1,hx.2.elim fun r g=>?_⟩
 rw[g.2]
 exact zA9 (xK4 (c+12) _ _ _ _ _ _) ⟨z30 _ P,rfl,rfl,rfl⟩
end Mine
namespace Mine
open PySem
inductive HdP:D→Prop
 | told (x:D):HdP (.tup [S "told",x])
 | rule (x y:D):HdP (.tup [S "rule",x,y])
 | turn (x:D):HdP (zK6 x)
 | join (x y:D):HdP (zG6 x y)
 | und (x y:D):HdP (.tup [S "under",x,y])
theorem y66 (c:Nat) (x:D):Ok (c+1) 176 [.val (.tup [S "told",x])] (rv (zK6 (.tup [S "told",x])) (.tup [S "told",x])):=by unfold Ok;kernel_rfl
theorem y67 (c:Nat) (x y:D):Ok (c+1) 176 [.val (.tup [S "rule",x,y])] (rv (zK6 (.tup [S "rule",x,y])) (.tup [S "rule",x,y])):=by unfold Ok;kernel_rfl
theorem y68 (c:Nat) (x o:D):Ok (c+1) 183 [.val (zF3 x),.val o] (rv o (zF3 x)):=by unfold Ok;kernel_rfl
theorem jn (c:Nat) {a b:D} (ha:HdP a) (hb:HdP b):Ok (c+1) 183 [.val a,.val b] (rv (zG6 a b) a):=by
 cases ha<;>cases hb<;>(unfold Ok;kernel_rfl)
theorem un1 (c:Nat) {p:D} (h:HdP p):Ok (c+1) 188 [.val (S "f"),.val (.list [p])] (rv (pU1 p) (S "f")):=by cases h<;>(unfold Ok;kernel_rfl)
theorem xb8 (c:Nat) {p:D} (x:D) (h:HdP p):Ok (c+1) 188 [.val (S "g"),.val (.list [p,zF3 x])] (rv (pU2 p (zF3 x)) (S "g")):=by cases h<;>(unfold Ok;kernel_rfl)
theorem xb9 (c:Nat) {p:D} (x:D) (h:HdP p):Ok (c+1) 188 [.val (S "g"),.val (.list [zF3 x,p])] (rv (pU2 (zF3 x) p) (S "g")):=by cases h<;>(unfold Ok;kernel_rfl)
theorem xL1:G.fn 255=some (zA5 255):=by kernel_rfl
theorem yY3:(zA5 255).params=[Str.ofString "term",Str.ofString "path",Str.ofString "paper"]:=by kernel_rfl
theorem yg2:stmts 255=[.For (zC1 (st 255 0)) (zD4 (st 255 0)) (zA7 (st 255 0)) [] (zL8 (st 255 0)),st 255 1]:=by kernel_rfl
end Mine
namespace Mine
open PySem
inductive WR:Rho→Prop
 | z:WR []
 | s (a b c:D):WR [nm "spot" (.val a),nm "home" (.val b),nm "kids" (.val c)]
inductive WQ:Rho→Prop
 | z:WQ []
 | s (b c:D):WQ [nm "home" (.val b),nm "kids" (.val c)]
noncomputable abbrev yS5 (t:D) (q:List D) (p:D) (r:Rho):Rho:=nm "term" (.val t)::nm "path" (.val (.tup q))::nm "paper" (.val p)::r
noncomputable abbrev yK0 (t:D) (q:List D) (p:D) (m:Nat) (r:Rho):Rho:=nm "term" (.val t)::nm "path" (.val (.tup q))::nm "paper" (.val p)::nm "spot" (.val (.int (m:Nat)))::r
theorem xV1 (c:Nat) (t p:D) (q:List D) (Q:List D×Rho→Prop):zA8 c (zC0 G ((evs G 40).e (zA5 255).scope) (zA5 255).scope (zE7 (zC1 (st 255 0))) (yS5 t q p []) (zD4 (st 255 0))) [] true Q =
 (nd [small (((q.length:Nat):Int) - 1)&&small (-1),small ((q.length:Nat):Int)&&small 1,zA0 q]=true∧Q (zo3 (((q.length:Nat):Int) - 1) (((q.length:Nat):Int) - 1 - -1).toNat,yS5 t q p [])):=by kernel_rfl
theorem xV2 (t p:D) (q:List D) (m:Nat) {r:Rho} (hr:WR r):∃ r',WQ r'∧zB9 (zA5 255).scope (zC1 (st 255 0)) (.int (m:Nat)) (yS5 t q p r)=some (yK0 t q p m r'):=by
 cases hr with
 | z=>exact ⟨_,.z,by kernel_rfl⟩
 | s a b c=>exact ⟨_,.s b c,by kernel_rfl⟩
theorem xc0 (c:Nat) (t p x u:D) (q:List D) (m:Nat) {r:Rho} (hr:WQ r) (Q:Fl×Rho→Prop):zA8 c (zB2 (ex' 255) (zA7 (st 255 0)) (yK0 t q p m r)) [.call (rv (mkf x) (mkf x)),.d (.int 0),.call (rv u (S "f"))] true Q =
 (Ok c 124 [.val t,.val (.tup (q.take m))] (rv (mkf x) (mkf x))∧zC3 q ((m:Nat):Int)=some (.int 0)∧Ok c 188 [.val (S "f"),.val (.list [p])] (rv u (S "f"))∧nd [zA0 q,small ((m:Nat):Int),zA0 q]=true∧Q (.next,yK0 t q u m [nm "home" (.val (mkf x)),nm "kids" (.val (.list [p]))])):=by induction hr<;>kernel_rfl
theorem xV3 (c:Nat) (t p x y u:D) (q:List D) (m:Nat) {r:Rho} (hr:WQ r) (Q:Fl×Rho→Prop):zA8 c (zB2 (ex' 255) (zA7 (st 255 0)) (yK0 t q p m r)) [.call (rv (mkg x y) (mkg x y)),.d (.int 0),.d (.int 0),.call (rv u (S "g"))] true Q =
 (Ok c 124 [.val t,.val (.tup (q.take m))] (rv (mkg x y) (mkg x y))∧zC3 q ((m:Nat):Int)=some (.int 0)∧zC3 q ((m:Nat):Int)=some (.int 0)∧Ok c 188 [.val (S "g"),.val (.list [p,zF3 y])] (rv u (S "g"))∧nd [zA0 q,zA0 q,small ((m:Nat):Int),zA0 q]=true∧Q (.next,yK0 t q u m [nm "home" (.val (mkg x y)),nm "kids" (.val (.list [p,zF3 y]))])):=by induction hr<;>kernel_rfl
theorem xV4 (c:Nat) (t p x y u:D) (q:List D) (m:Nat) {r:Rho} (hr:WQ r) (Q:Fl×Rho→Prop):zA8 c (zB2 (ex' 255) (zA7 (st 255 0)) (yK0 t q p m r)) [.call (rv (mkg x y) (mkg x y)),.d (.int 1),.d (.int 1),.call (rv u (S "g"))] true Q =
 (Ok c 124 [.val t,.val (.tup (q.take m))] (rv (mkg x y) (mkg x y))∧zC3 q ((m:Nat):Int)=some (.int 1)∧zC3 q ((m:Nat):Int)=some (.int 1)∧Ok c 188 [.val (S "g"),.val (.list [zF3 x,p])] (rv u (S "g"))∧nd [zA0 q,zA0 q,small ((m:Nat):Int),zA0 q]=true∧Q (.next,yK0 t q u m [nm "home" (.val (mkg x y)),nm "kids" (.val (.list [zF3 x,p]))])):=by induction hr<;>kernel_rfl
theorem xL2 (c:Nat) (t p:D) (q:List D) (r:Rho) (Q:Fl×Rho→Prop):zA8 c (zB2 (ex 255) [st 255 1] (yS5 t q p r)) [] true Q=(true=true∧Q (.ret (.val p),yS5 t q p r)):=by kernel_rfl
noncomputable def zL2:T→List Nat→Pap→Pap
 | .f t,0::q,p=>.und1 (zL2 t q p)
 | .g t u,0::q,p=>.und2 (zL2 t q p) (.same u)
 | .g t u,1::q,p=>.und2 (.same t) (zL2 u q p)
 | _,_,p=>p
theorem zu8 (t:T) (p:Pap):zL2 t [] p=p:=by cases t<;>rfl
theorem zo0:∀ (t:T) (q:List Nat) (p:Pap),HdP (zA2 p)→HdP (zA2 (zL2 t q p)):=by
 intro t q p h
 cases t with
 | a=>exact h
 | b=>exact h
 | c=>exact h
 | f t=>match q with
  | []=>exact h
  | 0::q=>exact .und _ _
  | (k+1)::q=>exact h
 | g t u=>match q with
  | []=>exact h
  | 0::q=>exact .und _ _
  | 1::q=>exact .und _ _
  | (k+2)::q=>exact h
theorem y69 {q:List Nat} {m k:Nat} (h:q[m]?=some k):zC3 (pI q) ((m:Nat):Int)=some (.int (k:Nat)):=by
 have hm:m < (pI q).length:=by rw[List.length_map];exact (List.getElem?_eq_some_iff.mp h).1
 unfold zC3 idx
 rw[if_pos (by lia),if_pos (by lia)]
 exact (List.getElem?_map ..).trans (congrArg (Option.map _) h)
inductive WInv (t:T) (q:List Nat) (p:Pap):Nat→Rho→Prop
 | mk (m:Nat) (u:T) (w:Pap) (r:Rho):WR r→sub t (q.take m)=some u→zL2 u (q.drop m) p=w→WInv t q p m (yS5 (enc t) (pI q) (zA2 w) r)
noncomputable def xD2 (c:Nat) (t:T) (q:List Nat) (p:Pap) (m:Nat) (r:Rho) (u:T):Prop:=wp (c+1) (zB2 (ex' 255) (zA7 (st 255 0)) (yK0 (enc t) (pI q) (zA2 (zL2 u (q.drop (m+1)) p)) m r)) fun x=>x.1=.next∧WInv t q p m x.2
noncomputable def xV5 (c:Nat) (t:T) (q:List Nat) (m:Nat) (h:T) (k:Nat):Prop:=q.drop m=k::q.drop (m+1)∧zC3 (pI q) ((m:Nat):Int)=some (.int (k:Nat))∧Ok (c+1) 124 [.val (enc t),.val (.tup ((pI q).take m))] (rv (enc h) (enc h))∧sub t (q.take m)=some h
section
variable {c m k:Nat} {t h u:T} {q:List Nat} {p:Pap} {r:Rho}
theorem xL3 (hr:WQ r) (hp:HdP (zA2 p)) (sq:zA0 (pI q)=true) (sm:small ((m:Nat):Int)=true) (e:sub h [k]=some u) (w:xV5 c t q m h k):xD2 c t q p m r u :=
 zN3 (C:=fun h k=>xV5 c t q m h k→xD2 c t q p m r u) e
  (fun x e w=>Option.some.inj ((zJ2 x).symm.trans e)▸zA9 (xc0 (c+1) _ _ (enc x) _ _ m hr _) ⟨w.2.2.1,w.2.1,un1 c (zo0 x _ p hp),nd3 sq sm sq,rfl,.mk m _ (.und1 _) _ (.s _ _ _) w.2.2.2 (congrArg (zL2 (.f x) · p) w.1)⟩)
  (fun x y e w=>Option.some.inj ((zJ2 x).symm.trans e)▸zA9 (xV3 (c+1) _ _ (enc x) (enc y) _ _ m hr _) ⟨w.2.2.1,w.2.1,w.2.1,xb8 c (enc y) (zo0 x _ p hp),nd4 sq sq sm sq,rfl,.mk m _ (.und2 _ (.same y)) _ (.s _ _ _) w.2.2.2 (congrArg (zL2 (.g x y) · p) w.1)⟩)
  (fun x y e w=>Option.some.inj ((zJ2 y).symm.trans e)▸zA9 (xV4 (c+1) _ _ (enc x) (enc y) _ _ m hr _) ⟨w.2.2.1,w.2.1,w.2.1,xb9 c (enc x) (zo0 y _ p hp),nd4 sq sq sm sq,rfl,.mk m _ (.und2 (.same x) _) _ (.s _ _ _) w.2.2.2 (congrArg (zL2 (.g x y) · p) w.1)⟩) w
theorem xL4 {ρ:Rho} (hl:q.length≤1000) (hp:HdP (zA2 p)) (hm:m < q.length) (h:WInv t q p (m+1) ρ):∃ ρ1,zB9 (zA5 255).scope (zC1 (st 255 0)) (.int (m:Nat)) ρ=some ρ1∧wp (c+1) (zB2 (ex' 255) (zA7 (st 255 0)) ρ1) fun x=>x.1=.next∧WInv t q p m x.2:=by
 induction h with
 | mk u w r hr hu hw =>
  subst hw
  have hk:=List.getElem?_eq_getElem hm
  rw[List.take_succ,hk] at hu
  refine (xV2 (enc t) (zA2 (zL2 u (q.drop (m+1)) p)) (pI q) m hr).elim fun r' g=>⟨_,g.2,(yI6 (q.take m) q[m] t u hu).elim fun h z=>xL3 g.1 hp (zB7 (by rw[List.length_map];exact Nat.le_trans hl (by decide))) (zT8 (by lia)) z.2 ⟨List.drop_eq_getElem_cons hm,y69 hk,?_,z.1⟩⟩
  have hpa:=zP5 (c:=c) z.1 (Nat.le_trans (List.length_take_le _ _) (Nat.le_trans (Nat.le_of_lt hm) hl))
  rwa [show zF2 (q.take m)=.tup ((pI q).take m) by rw[pI,← List.map_take];rfl] at hpa
theorem xV6 {ρ:Rho} {Q:Fl×Rho→Prop} (h:WInv t q p 0 ρ) (hQ:∀ {r},Q (.ret (.val (zA2 (zL2 t q p))),yS5 (enc t) (pI q) (zA2 (zL2 t q p)) r)):wp (c+1) (zB2 (ex 255) [st 255 1] ρ) Q:=by
 induction h with
 | mk u w r hr hu hw =>
  subst hw
  obtain rfl:=Option.some.inj ((zJ2 t).symm.trans hu)
  exact zA9 (xL2 (c+1) _ _ _ _ _) ⟨rfl,hQ⟩
end
theorem yg3 {t s:T} {q:List Nat} {p:Pap} (c:Nat) (hq:sub t q=some s) (hl:q.length≤1000) (hp:HdP (zA2 p)) :
  Ok (c+2) 255 [.val (enc t),.val (zF2 q),.val (zA2 p)] (rv (zA2 (zL2 t q p)) (enc t)):=by
 refine zW8 xL1 (zH9 (by rw[yY3];rfl) ?_)
 rw[yY3,yg2]
 have hlen:(pI q).length=q.length:=List.length_map _
 refine zC2 (zN9 (zA9 (xV1 (c+1) (enc t) (zA2 p) (pI q) _) ⟨?_,?_⟩))
 ·rw[hlen]
  exact nd3 (two (zT8 (by lia)) rfl) (two (zT8 (by lia)) rfl) (zB7 (by lia))
 ·have hit:zo3 (((pI q).length:Nat) - 1) ((((pI q).length:Nat):Int) - 1 - -1).toNat=(List.range q.length).map fun j=>.int ((q.length:Int) - 1 - (j:Nat)):=by
   unfold zo3
   rw[hlen,show (((q.length:Nat):Int) - 1 - -1).toNat=q.length by lia]
  rw[hit]
  refine zC6 (zg5 (Inv:=fun j=>WInv t q p (q.length - j)) _ 0 _ (.mk _ s _ [] .z (by rw[Nat.sub_zero,List.take_length];exact hq) (by rw[Nat.sub_zero,List.drop_length];exact zu8 s p)) fun j d ρ hj hi=>?_) fun x hx=>⟨hx.1,?_⟩
  ·rw[Nat.zero_add] at hi ⊢
   have hjl:j < q.length:=by have:=(List.getElem?_eq_some_iff.mp hj).1;rwa [List.length_map,List.length_range] at this
   rw[List.getElem?_map,List.getElem?_range hjl] at hj
   have e:q.length - j=q.length - (j+1)+1:=by lia
   rw[e] at hi
   have hd:d=.int ((q.length - (j+1):Nat):Int):=(Option.some.inj hj).symm.trans (congrArg D.int (by lia))
   rw[hd]
   exact xL4 hl hp (by lia) hi
  ·have h2:=hx.2
   rw[List.length_map,List.length_range,Nat.zero_add,Nat.sub_self] at h2
   exact xV6 h2 ⟨rfl,rfl⟩
end Mine
namespace Mine
open PySem
theorem yA7:G.fn 281=some (zA5 281):=by kernel_rfl
theorem xL5:G.fn 288=some (zA5 288):=by kernel_rfl
theorem zu9:G.fn 295=some (zA5 295):=by kernel_rfl
theorem xL6:G.fn 302=some (zA5 302):=by kernel_rfl
theorem zy4 (c:Nat) (t p n l r:D) (s:Str) (Q:Ret→Prop):zA8 c (zC7 G (zA5 281) [.val (zA4 t),.val (st5 p (S "told") (.str s) (.tup []) false),.val n]) [.call (rv (zC9 l r) (zA3 t))] true Q =
 (Ok c 209 [.val (zA3 t),.val (.str s),.val n] (rv (zC9 l r) (zA3 t))∧true=true∧Q (rv (zC9 l r) (zA4 t))):=by kernel_rfl
theorem zy5 (c:Nat) (t p n l r pl:D) (s:Str) (Q:Ret→Prop):zA8 c (zC7 G (zA5 281) [.val (zA4 t),.val (st5 p (S "rule") (.str s) pl false),.val n]) [.call (rv (zC9 l r) (zA3 t))] true Q =
 (Ok c 214 [.val (zA3 t),.val (.str s),.val pl,.val n] (rv (zC9 l r) (zA3 t))∧true=true∧Q (rv (zC9 l r) (zA4 t))):=by kernel_rfl
theorem yA8 (c:Nat) (t p n l r:D) (s:Str) (Q:Ret→Prop):zA8 c (zC7 G (zA5 281) [.val (zA4 t),.val (st5 p (S "told") (.str s) (.tup []) true),.val n]) [.call (rv (zC9 l r) (zA3 t))] true Q =
 (Ok c 209 [.val (zA3 t),.val (.str s),.val n] (rv (zC9 l r) (zA3 t))∧true=true∧Q (rv (zC9 r l) (zA4 t))):=by kernel_rfl
theorem yA9 (c:Nat) (t p n l r pl:D) (s:Str) (Q:Ret→Prop):zA8 c (zC7 G (zA5 281) [.val (zA4 t),.val (st5 p (S "rule") (.str s) pl true),.val n]) [.call (rv (zC9 l r) (zA3 t))] true Q =
 (Ok c 214 [.val (zA3 t),.val (.str s),.val pl,.val n] (rv (zC9 l r) (zA3 t))∧true=true∧Q (rv (zC9 r l) (zA4 t))):=by kernel_rfl
theorem y70 (c:Nat) (t h p k nn pl n l r x y:D) (b:Bool) (Q:Ret→Prop):zA8 c (zC7 G (zA5 288) [.val (zA4 t),.val h,.val (st5 p k nn pl b),.val n]) [.call (rv (zC9 l r) (zA4 t)),.call (rv x x),.b true,.call (rv y h)] true Q =
 (Ok c 281 [.val (zA4 t),.val (st5 p k nn pl b),.val n] (rv (zC9 l r) (zA4 t))∧Ok c 124 [.val h,.val p] (rv x x)∧deq x l=some true∧Ok c 131 [.val h,.val p,.val r] (rv y h)∧true=true∧Q (rv y (zA4 t))):=by kernel_rfl
theorem xc1 (c:Nat) (t x0:D) (Q:Ret→Prop):zA8 c (zC7 G (zA5 295) [.val (zA4 t),.val x0,.val (.list [])]) [] true Q =
 (true=true∧Q (rv (.list [x0]) (zA4 t))):=by kernel_rfl
theorem xc2 (c:Nat) (t x0 x1 s0:D) (Q:Ret→Prop):zA8 c (zC7 G (zA5 295) [.val (zA4 t),.val x0,.val (.list [s0])]) [.call (rv x1 (zA4 t))] true Q =
 (Ok c 288 [.val (zA4 t),.val x0,.val s0,.val (.int (0:Nat))] (rv x1 (zA4 t))∧true=true∧Q (rv (.list [x0,x1]) (zA4 t))):=by kernel_rfl
theorem xc3 (c:Nat) (t x0 x1 x2 s0 s1:D) (Q:Ret→Prop):zA8 c (zC7 G (zA5 295) [.val (zA4 t),.val x0,.val (.list [s0,s1])]) [.call (rv x1 (zA4 t)),.call (rv x2 (zA4 t))] true Q =
 (Ok c 288 [.val (zA4 t),.val x0,.val s0,.val (.int (0:Nat))] (rv x1 (zA4 t))∧Ok c 288 [.val (zA4 t),.val x1,.val s1,.val (.int (1:Nat))] (rv x2 (zA4 t))∧true=true∧Q (rv (.list [x0,x1,x2]) (zA4 t))):=by kernel_rfl
theorem xc4 (c:Nat) (t x0 x1 x2 x3 s0 s1 s2:D) (Q:Ret→Prop):zA8 c (zC7 G (zA5 295) [.val (zA4 t),.val x0,.val (.list [s0,s1,s2])]) [.call (rv x1 (zA4 t)),.call (rv x2 (zA4 t)),.call (rv x3 (zA4 t))] true Q =
 (Ok c 288 [.val (zA4 t),.val x0,.val s0,.val (.int (0:Nat))] (rv x1 (zA4 t))∧Ok c 288 [.val (zA4 t),.val x1,.val s1,.val (.int (1:Nat))] (rv x2 (zA4 t))∧Ok c 288 [.val (zA4 t),.val x2,.val s2,.val (.int (2:Nat))] (rv x3 (zA4 t))∧true=true∧Q (rv (.list [x0,x1,x2,x3]) (zA4 t))):=by kernel_rfl
theorem xc5 (c:Nat) (t x0 x1 x2 x3 x4 s0 s1 s2 s3:D) (Q:Ret→Prop):zA8 c (zC7 G (zA5 295) [.val (zA4 t),.val x0,.val (.list [s0,s1,s2,s3])]) [.call (rv x1 (zA4 t)),.call (rv x2 (zA4 t)),.call (rv x3 (zA4 t)),.call (rv x4 (zA4 t))] true Q =
 (Ok c 288 [.val (zA4 t),.val x0,.val s0,.val (.int (0:Nat))] (rv x1 (zA4 t))∧Ok c 288 [.val (zA4 t),.val x1,.val s1,.val (.int (1:Nat))] (rv x2 (zA4 t))∧Ok c 288 [.val (zA4 t),.val x2,.val s2,.val (.int (2:Nat))] (rv x3 (zA4 t))∧Ok c 288 [.val (zA4 t),.val x3,.val s3,.val (.int (3:Nat))] (rv x4 (zA4 t))∧true=true∧Q (rv (.list [x0,x1,x2,x3,x4]) (zA4 t))):=by kernel_rfl
theorem yY4:(zA5 302).params=[Str.ofString "self",Str.ofString "term",Str.ofString "steps"]:=by kernel_rfl
theorem yg4:stmts 302=[st 302 0,.For (zC1 (st 302 1)) (zD4 (st 302 1)) (zA7 (st 302 1)) [] (zL8 (st 302 1)),st 302 2]:=by kernel_rfl
noncomputable abbrev yB0 (t h:D) (l:List D) (p:D) (r:Rho):Rho:=nm "self" (.val (zA4 t))::nm "term" (.val h)::nm "steps" (.val (.list l))::nm "paper" (.val p)::r
theorem xc6 (c:Nat) (t h:D) (l:List D) (Q:Fl×Rho→Prop):zA8 c (ex 302 [nm "self" (.val (zA4 t)),nm "term" (.val h),nm "steps" (.val (.list l))] (st 302 0)) [] true Q=(true=true∧Q (.next,yB0 t h l (zF3 h) [])):=by kernel_rfl
theorem xV7 (c:Nat) (t h p:D) (l xs:List D) (Q:List D×Rho→Prop):zA8 c (zC0 G ((evs G 40).e (zA5 302).scope) (zA5 302).scope (zE7 (zC1 (st 302 1))) (yB0 t h l p []) (zD4 (st 302 1))) [.call (rv (.list xs) (zA4 t))] true Q =
 (Ok c 295 [.val (zA4 t),.val h,.val (.list l)] (rv (.list xs) (zA4 t))∧nd [zA0 xs&&zA0 l&&zM5 xs l]=true∧Q (zX5 xs l,yB0 t h l p [])):=by kernel_rfl
inductive OR:Rho→Prop
 | z:OR []
 | s (a b c:D):OR [nm "here" (.val a),nm "step" (.val b),nm "plain" (.val c)]
inductive OQ:Rho→Prop
 | z:OQ []
 | s (c:D):OQ [nm "plain" (.val c)]
noncomputable abbrev zy6 (t h:D) (l:List D) (p a b:D) (r:Rho):Rho:=nm "self" (.val (zA4 t))::nm "term" (.val h)::nm "steps" (.val (.list l))::nm "paper" (.val p)::nm "here" (.val a)::nm "step" (.val b)::r
theorem xV8 (t h p a b:D) (l:List D) {r:Rho} (hr:OR r):∃ r',OQ r'∧zB9 (zA5 302).scope (zC1 (st 302 1)) (.tup [a,b]) (yB0 t h l p r)=some (zy6 t h l p a b r'):=by
 cases hr with
 | z=>exact ⟨_,.z,by kernel_rfl⟩
 | s a b c=>exact ⟨_,.s c,by kernel_rfl⟩
theorem xL7 (c:Nat) (t h p:D) (l:List D) (r:Rho) (Q:Fl×Rho→Prop):zA8 c (zB2 (ex 302) [st 302 2] (yB0 t h l p r)) [] true Q=(true=true∧Q (.ret (.val p),yB0 t h l p r)):=by kernel_rfl
theorem zy7 (c:Nat) (t h p a q n pl w j tn:D) (l:List D) {r:Rho} (hr:OQ r) (Q:Fl×Rho→Prop):zA8 c (zB2 (ex' 302) (zA7 (st 302 1)) (zy6 t h l p a (st5 q (S "told") n pl false) r)) [.call (rv w a),.call (rv j p)] true Q =
 (Ok c 255 [.val a,.val q,.val (.tup [S "told",n])] (rv w a)∧Ok c 183 [.val p,.val w] (rv j p)∧true=true∧Q (.next,zy6 t h l j a (st5 q (S "told") n pl false) [nm "plain" (.val (.tup [S "told",n]))])):=by induction hr<;>kernel_rfl
theorem yB1 (c:Nat) (t h p a q n pl w j tn:D) (l:List D) {r:Rho} (hr:OQ r) (Q:Fl×Rho→Prop):zA8 c (zB2 (ex' 302) (zA7 (st 302 1)) (zy6 t h l p a (st5 q (S "told") n pl true) r)) [.call (rv tn (.tup [S "told",n])),.call (rv w a),.call (rv j p)] true Q =
 (Ok c 176 [.val (.tup [S "told",n])] (rv tn (.tup [S "told",n]))∧Ok c 255 [.val a,.val q,.val tn] (rv w a)∧Ok c 183 [.val p,.val w] (rv j p)∧true=true∧Q (.next,zy6 t h l j a (st5 q (S "told") n pl true) [nm "plain" (.val (.tup [S "told",n]))])):=by induction hr<;>kernel_rfl
theorem zy8 (c:Nat) (t h p a q n pl w j tn:D) (l:List D) {r:Rho} (hr:OQ r) (Q:Fl×Rho→Prop):zA8 c (zB2 (ex' 302) (zA7 (st 302 1)) (zy6 t h l p a (st5 q (S "rule") n pl false) r)) [.call (rv w a),.call (rv j p)] true Q =
 (Ok c 255 [.val a,.val q,.val (.tup [S "rule",n,pl])] (rv w a)∧Ok c 183 [.val p,.val w] (rv j p)∧true=true∧Q (.next,zy6 t h l j a (st5 q (S "rule") n pl false) [nm "plain" (.val (.tup [S "rule",n,pl]))])):=by induction hr<;>kernel_rfl
theorem yB2 (c:Nat) (t h p a q n pl w j tn:D) (l:List D) {r:Rho} (hr:OQ r) (Q:Fl×Rho→Prop):zA8 c (zB2 (ex' 302) (zA7 (st 302 1)) (zy6 t h l p a (st5 q (S "rule") n pl true) r)) [.call (rv tn (.tup [S "rule",n,pl])),.call (rv w a),.call (rv j p)] true Q =
 (Ok c 176 [.val (.tup [S "rule",n,pl])] (rv tn (.tup [S "rule",n,pl]))∧Ok c 255 [.val a,.val q,.val tn] (rv w a)∧Ok c 183 [.val p,.val w] (rv j p)∧true=true∧Q (.next,zy6 t h l j a (st5 q (S "rule") n pl true) [nm "plain" (.val (.tup [S "rule",n,pl]))])):=by induction hr<;>kernel_rfl
end Mine
namespace Mine
open PySem
noncomputable abbrev SO (X Y:T):D:=zA4 (tdD (enc X) (enc Y))
theorem ssf {X Y:T} {q n pl l r:D} {x:String} {c:Nat} (h:Ok (c+10) 214 [.val (zA3 (tdD (enc X) (enc Y))),.val (S x),.val pl,.val n] (rv (zC9 l r) (zA3 (tdD (enc X) (enc Y))))):Ok (c+11) 281 [.val (SO X Y),.val (st5 q (S "rule") (S x) pl false),.val n] (rv (zC9 l r) (SO X Y)) :=
 zB0 yA7 (zy5 (c+10) _ q n l r pl _ _) ⟨h,rfl,rfl⟩
theorem sst {X Y:T} {q n pl l r:D} {x:String} {c:Nat} (h:Ok (c+10) 214 [.val (zA3 (tdD (enc X) (enc Y))),.val (S x),.val pl,.val n] (rv (zC9 l r) (zA3 (tdD (enc X) (enc Y))))):Ok (c+11) 281 [.val (SO X Y),.val (st5 q (S "rule") (S x) pl true),.val n] (rv (zC9 r l) (SO X Y)) :=
 zB0 yA7 (yA9 (c+10) _ q n l r pl _ _) ⟨h,rfl,rfl⟩
theorem stf {X Y:T} {q n l r:D} {x:String} {c:Nat} (h:Ok (c+1) 209 [.val (zA3 (tdD (enc X) (enc Y))),.val (S x),.val n] (rv (zC9 l r) (zA3 (tdD (enc X) (enc Y))))):Ok (c+11) 281 [.val (SO X Y),.val (st5 q (S "told") (S x) (.tup []) false),.val n] (rv (zC9 l r) (SO X Y)) :=
 zB0 yA7 (zy4 (c+10) _ q n l r _ _) ⟨h.up (Nat.add_le_add_left (by decide) c),rfl,rfl⟩
theorem stt {X Y:T} {q n l r:D} {x:String} {c:Nat} (h:Ok (c+1) 209 [.val (zA3 (tdD (enc X) (enc Y))),.val (S x),.val n] (rv (zC9 l r) (zA3 (tdD (enc X) (enc Y))))):Ok (c+11) 281 [.val (SO X Y),.val (st5 q (S "told") (S x) (.tup []) true),.val n] (rv (zC9 r l) (SO X Y)) :=
 zB0 yA7 (yA8 (c+10) _ q n l r _ _) ⟨h.up (Nat.add_le_add_left (by decide) c),rfl,rfl⟩
theorem yg5 (X Y:T) (s:Stp) (n:D) (c:Nat):Ok (c+11) 281 [.val (SO X Y),.val (zA6 s),.val n] (rv (zC9 (enc (s.src X Y)) (enc (s.dst X Y))) (SO X Y)):=by
 obtain ⟨q,ax,back⟩:=s
 cases back
 ·cases ax with
  | swap x y=>exact ssf (yR7 c _ (enc x) (enc y) n)
  | fold x=>exact ssf (yR8 c _ (enc x) n)
  | move x y=>exact ssf (yR9 c _ (enc x) (enc y) n)
  | s=>exact stf (yR5 c _ _ n)
  | t=>exact stf (yR6 c _ _ n)
 ·cases ax with
  | swap x y=>exact sst (yR7 c _ (enc x) (enc y) n)
  | fold x=>exact sst (yR8 c _ (enc x) n)
  | move x y=>exact sst (yR9 c _ (enc x) (enc y) n)
  | s=>exact stt (yR5 c _ _ n)
  | t=>exact stt (yR6 c _ _ n)
theorem yS6 (X Y:T) {t u:T} {s:Stp} (n:D) (c:Nat) (h:zJ5 X Y t s u) (hc:s.path.length < c) (hm:c≤900) (hs:(s.src X Y).size≤300):Ok (c+12) 288 [.val (SO X Y),.val (enc t),.val (zA6 s),.val n] (rv (enc u) (SO X Y)):=by
 obtain ⟨h1,rfl⟩:=h
 exact zB0 xL5 (y70 (c+11) _ _ (zF2 s.path) _ _ _ n _ _ _ _ _ _) ⟨yg5 X Y s n c,(zP5 c h1 (by lia)).up (by lia),zV9 _ hs,(yI7 s.path t (s.dst X Y) _ c h1 hc (by lia)).up (by lia),rfl,rfl⟩
noncomputable def Run (X Y:T):T→List Stp→List T→Prop
 | _,[],ts=>ts=[]
 | t,s::sts,ts=>∃ u us,ts=u::us∧zJ5 X Y t s u∧Run X Y u sts us
theorem zF9 {X Y:T} {t:T} {s:Stp} {sts:List Stp} {ts:List T} {C:List T→Prop} (h:Run X Y t (s::sts) ts) (k:∀ u us,zJ5 X Y t s u→Run X Y u sts us→C (u::us)):C ts :=
 h.elim fun u g=>g.elim fun us g=>g.1▸k u us g.2.1 g.2.2
noncomputable def WG (c:Nat) (X Y t:T) (sts:List Stp) (ts:List T):Prop:=Ok (c+13) 295 [.val (SO X Y),.val (enc t),.val (.list (sts.map zA6))] (rv (.list ((t::ts).map enc)) (SO X Y))
noncomputable def SG (c:Nat) (X Y t:T) (s:Stp) (u:T):Prop:=∀ n,Ok (c+12) 288 [.val (SO X Y),.val (enc t),.val (zA6 s),.val n] (rv (enc u) (SO X Y))
noncomputable def OKW (c:Nat) (X Y:T) (s:Stp):Prop:=s.path.length < c∧(s.src X Y).size≤300
noncomputable def WP (c:Nat) (X Y:T) (sts:List Stp):Prop:=∀ t ts,Run X Y t sts ts→(∀ s∈sts,OKW c X Y s)→WG c X Y t sts ts
section
variable {c:Nat} {X Y t u u1 u2 u3:T} {s s1 s2 s3:Stp}
theorem wg1 (k:SG c X Y t s u):WG c X Y t [s] [u]:=zB0 zu9 (xc2 (c+12) _ (enc t) (enc u) (zA6 s) _) ⟨k _,rfl,rfl⟩
theorem wg2 (k:SG c X Y t s u) (k1:SG c X Y u s1 u1):WG c X Y t [s,s1] [u,u1]:=zB0 zu9 (xc3 (c+12) _ (enc t) (enc u) (enc u1) (zA6 s) (zA6 s1) _) ⟨k _,k1 _,rfl,rfl⟩
theorem wg3 (k:SG c X Y t s u) (k1:SG c X Y u s1 u1) (k2:SG c X Y u1 s2 u2):WG c X Y t [s,s1,s2] [u,u1,u2]:=zB0 zu9 (xc4 (c+12) _ (enc t) (enc u) (enc u1) (enc u2) (zA6 s) (zA6 s1) (zA6 s2) _) ⟨k _,k1 _,k2 _,rfl,rfl⟩
theorem wg4 (k:SG c X Y t s u) (k1:SG c X Y u s1 u1) (k2:SG c X Y u1 s2 u2) (k3:SG c X Y u2 s3 u3):WG c X Y t [s,s1,s2,s3] [u,u1,u2,u3]:=zB0 zu9 (xc5 (c+12) _ (enc t) (enc u) (enc u1) (enc u2) (enc u3) (zA6 s) (zA6 s1) (zA6 s2) (zA6 s3) _) ⟨k _,k1 _,k2 _,k3 _,rfl,rfl⟩
theorem sgw (hm:c≤900) (h:zJ5 X Y t s u) (g:OKW c X Y s):SG c X Y t s u:=fun n=>yS6 X Y n c h g.1 hm g.2
theorem wp0:WP c X Y []:=fun t ts hr uu=>(show ts=[] from hr)▸zB0 zu9 (xc1 (c+12) _ (enc t) _) ⟨rfl,rfl⟩
theorem wp1 (hm:c≤900):WP c X Y [s]:=fun t ts hr hs=>zF9 hr fun u us k (hr:us=[])=>hr▸wg1 (sgw hm k (hs s (.head _)))
theorem wp2 (hm:c≤900):WP c X Y [s,s1]:=fun t ts hr hs=>zF9 hr fun u us k hr=>zF9 (C:=fun us=>WG c X Y t [s,s1] (u::us)) hr fun u1 us k1 (hr:us=[])=>hr▸wg2 (sgw hm k (hs s (.head _))) (sgw hm k1 (hs s1 (.tail _ (.head _))))
theorem wp3 (hm:c≤900):WP c X Y [s,s1,s2]:=fun t ts hr hs=>zF9 hr fun u us k hr=>zF9 (C:=fun us=>WG c X Y t [s,s1,s2] (u::us)) hr fun u1 us k1 hr=>zF9 (C:=fun us=>WG c X Y t [s,s1,s2] (u::u1::us)) hr fun u2 us k2 (hr:us=[]) =>
 hr▸wg3 (sgw hm k (hs s (.head _))) (sgw hm k1 (hs s1 (.tail _ (.head _)))) (sgw hm k2 (hs s2 (.tail _ (.tail _ (.head _)))))
theorem wp4 (hm:c≤900):WP c X Y [s,s1,s2,s3]:=fun t ts hr hs=>zF9 hr fun u us k hr=>zF9 (C:=fun us=>WG c X Y t [s,s1,s2,s3] (u::us)) hr fun u1 us k1 hr=>zF9 (C:=fun us=>WG c X Y t [s,s1,s2,s3] (u::u1::us)) hr fun u2 us k2 hr =>
 zF9 (C:=fun us=>WG c X Y t [s,s1,s2,s3] (u::u1::u2::us)) hr fun u3 us k3 (hr:us=[])=>hr▸wg4 (sgw hm k (hs s (.head _))) (sgw hm k1 (hs s1 (.tail _ (.head _)))) (sgw hm k2 (hs s2 (.tail _ (.tail _ (.head _))))) (sgw hm k3 (hs s3 (.tail _ (.tail _ (.tail _ (.head _))))))
end
theorem yu2 (c:Nat) (X Y:T) (hm:c≤900) (sts:List Stp) (hl:sts.length≤4):WP c X Y sts:=by
 cases sts with
 | nil=>exact wp0
 | cons s sts=>cases sts with
  | nil=>exact wp1 hm
  | cons s1 sts=>cases sts with
   | nil=>exact wp2 hm
   | cons s2 sts=>cases sts with
    | nil=>exact wp3 hm
    | cons s3 sts=>cases sts with
     | nil=>exact wp4 hm
     | cons s4 sts=>exact absurd hl (Nat.not_le_of_gt (Nat.le_add_left 5 _))
theorem yY5 (X Y:T) (c:Nat) (hm:c≤900) (sts:List Stp) (t:T) (ts:List T) (hr:Run X Y t sts ts) (hl:sts.length≤4) (hs:∀ s∈sts,s.path.length < c∧(s.src X Y).size≤300):Ok (c+13) 295 [.val (SO X Y),.val (enc t),.val (.list (sts.map zA6))] (rv (.list ((t::ts).map enc)) (SO X Y)) :=
 yu2 c X Y hm sts hl t ts hr hs
noncomputable def lk (s:Stp):Pap:=if s.back then .turn (.ax s.ax) else .ax s.ax
noncomputable def zK8 (t:T) (s:Stp):Pap:=zL2 t s.path (lk s)
noncomputable def jnP:Pap→Pap→Pap
 | .same _,q=>q
 | p,q=>.join p q
noncomputable def zO7:Pap→T→List Stp→List T→Pap
 | acc,t,s::sts,u::us=>zO7 (jnP acc (zK8 t s)) u sts us
 | acc,_,_,_=>acc
noncomputable def yK1 (p:Pap):Prop:=(∃ t,p=.same t)∨HdP (zA2 p)
theorem xV9 (a:Ax):HdP (zA2 (.ax a)):=by
 cases a with
 | swap x y=>exact .rule _ _
 | fold x=>exact .rule _ _
 | move x y=>exact .rule _ _
 | s=>exact .told _
 | t=>exact .told _
theorem xD3 (s:Stp):HdP (zA2 (lk s)):=by
 unfold lk
 split
 ·exact .turn _
 ·exact xV9 _
theorem yB3 (t:T) (s:Stp):HdP (zA2 (zK8 t s)):=zo0 _ _ _ (xD3 s)
theorem yg6 {p q:Pap} (c:Nat) (hp:yK1 p) (hq:HdP (zA2 q)):Ok (c+1) 183 [.val (zA2 p),.val (zA2 q)] (rv (zA2 (jnP p q)) (zA2 p)):=by
 rcases hp with ⟨t,rfl⟩ | hp
 ·exact y68 c _ _
 ·cases p with
  | same t=>cases hp
  | ax a=>exact jn c hp hq
  | turn a=>exact jn c hp hq
  | join a b=>exact jn c hp hq
  | und1 a=>exact jn c hp hq
  | und2 a b=>exact jn c hp hq
theorem xL8 {p q:Pap} (hp:yK1 p) (hq:HdP (zA2 q)):yK1 (jnP p q):=by
 cases p with
 | same t=>exact .inr hq
 | ax a=>exact .inr (.join _ _)
 | turn a=>exact .inr (.join _ _)
 | join a b=>exact .inr (.join _ _)
 | und1 a=>exact .inr (.join _ _)
 | und2 a b=>exact .inr (.join _ _)
noncomputable def PTD (c:Nat) (td h:D) (l:List D) (p a s j:D) (r:Rho):Prop:=wp (c+3) (zB2 (ex' 302) (zA7 (st 302 1)) (zy6 td h l p a s r)) fun x=>x.1=.next∧∃ r,OR r∧x.2=yB0 td h l j r
section
variable {c:Nat} {td h p a q n pl w j:D} {l:List D} {r:Rho}
theorem yS7 (hr:OQ r) (hw:Ok (c+3) 255 [.val a,.val q,.val (.tup [S "rule",n,pl])] (rv w a)) (hj:Ok (c+3) 183 [.val p,.val w] (rv j p)):PTD c td h l p a (st5 q (S "rule") n pl false) j r :=
 zA9 (zy8 (c+3) td h p a q n pl w j .none l hr _) ⟨hw,hj,rfl,rfl,_,.s _ _ _,rfl⟩
theorem yu3 (hr:OQ r) (hw:Ok (c+3) 255 [.val a,.val q,.val (.tup [S "told",n])] (rv w a)) (hj:Ok (c+3) 183 [.val p,.val w] (rv j p)):PTD c td h l p a (st5 q (S "told") n pl false) j r :=
 zA9 (zy7 (c+3) td h p a q n pl w j .none l hr _) ⟨hw,hj,rfl,rfl,_,.s _ _ _,rfl⟩
theorem yS8 (hr:OQ r) (hw:Ok (c+3) 255 [.val a,.val q,.val (zK6 (.tup [S "rule",n,pl]))] (rv w a)) (hj:Ok (c+3) 183 [.val p,.val w] (rv j p)):PTD c td h l p a (st5 q (S "rule") n pl true) j r :=
 zA9 (yB2 (c+3) td h p a q n pl w j _ l hr _) ⟨y67 _ _ _,hw,hj,rfl,rfl,_,.s _ _ _,rfl⟩
theorem yu4 (hr:OQ r) (hw:Ok (c+3) 255 [.val a,.val q,.val (zK6 (.tup [S "told",n]))] (rv w a)) (hj:Ok (c+3) 183 [.val p,.val w] (rv j p)):PTD c td h l p a (st5 q (S "told") n pl true) j r :=
 zA9 (yB1 (c+3) td h p a q n pl w j _ l hr _) ⟨y66 _ _,hw,hj,rfl,rfl,_,.s _ _ _,rfl⟩
end
theorem yu5 {c:Nat} {td h a w p j:D} {l:List D} {s:Stp} {r:Rho} (hr:OQ r) (hw:Ok (c+3) 255 [.val a,.val (zF2 s.path),.val (zA2 (lk s))] (rv w a)) (hj:Ok (c+3) 183 [.val p,.val w] (rv j p)):PTD c td h l p a (zA6 s) j r:=by
 obtain ⟨q,ax,back⟩:=s
 cases back
 ·cases ax with
  | swap x y=>exact yS7 (n:=S "swap") (pl:=.tup (Ax.swap x y).places) hr hw hj
  | fold x=>exact yS7 (n:=S "fold") (pl:=.tup (Ax.fold x).places) hr hw hj
  | move x y=>exact yS7 (n:=S "move") (pl:=.tup (Ax.move x y).places) hr hw hj
  | s=>exact yu3 (n:=S "s") hr hw hj
  | t=>exact yu3 (n:=S "t") hr hw hj
 ·cases ax with
  | swap x y=>exact yS8 (n:=S "swap") (pl:=.tup (Ax.swap x y).places) hr hw hj
  | fold x=>exact yS8 (n:=S "fold") (pl:=.tup (Ax.fold x).places) hr hw hj
  | move x y=>exact yS8 (n:=S "move") (pl:=.tup (Ax.move x y).places) hr hw hj
  | s=>exact yu4 (n:=S "s") hr hw hj
  | t=>exact yu4 (n:=S "t") hr hw hj
theorem y71 (X Y:T) {c:Nat} {td h:D} {l:List D} {acc:Pap} {t u:T} {s:Stp} {r:Rho} (hr:OQ r) (ha:yK1 acc) (hs:zJ5 X Y t s u) (hl:s.path.length≤1000) :
  PTD c td h l (zA2 acc) (enc t) (zA6 s) (zA2 (jnP acc (zK8 t s))) r :=
 yu5 hr (yg3 (c:=c+1) hs.1 hl (xD3 s)) (yg6 (c:=c+2) ha (yB3 t s))
noncomputable def LG (c:Nat) (td h:D) (l:List D) (acc:Pap) (t:T) (sts:List Stp) (ts:List T) (r:Rho):Prop :=
 wp (c+3) (zc8 (zB9 (zA5 302).scope (zC1 (st 302 1))) (fun ρ'=>zB2 (ex' 302) (zA7 (st 302 1)) ρ') (zX5 ((t::ts).map enc) (sts.map zA6)) (yB0 td h l (zA2 acc) r)) fun x=>x.1=.next∧∃ r,OR r∧x.2=yB0 td h l (zA2 (zO7 acc t sts ts)) r
theorem xL9 {c:Nat} {td h:D} {l:List D} {acc:Pap} {t:T} {r:Rho} (hr:OR r):LG c td h l acc t [] [] r:=zC8 ⟨rfl,r,hr,rfl⟩
theorem y72 {c:Nat} {td h:D} {l:List D} {acc:Pap} {t u:T} {s:Stp} {sts:List Stp} {us:List T} {r:Rho} (hr:OR r) (ht:∀ r,OQ r→PTD c td h l (zA2 acc) (enc t) (zA6 s) (zA2 (jnP acc (zK8 t s))) r)
  (ih:∀ r,OR r→LG c td h l (jnP acc (zK8 t s)) u sts us r):LG c td h l acc t (s::sts) (u::us) r :=
 (xV8 td h (zA2 acc) (enc t) (zA6 s) l hr).elim fun r' g=>zG5 g.2 (zC6 (ht r' g.1) fun x hx=>⟨hx.1,hx.2.elim fun r2 k=>k.2▸ih r2 k.1⟩)
theorem y73 (X Y:T) {c:Nat} {td h:D} {l:List D} (sts:List Stp):∀ (ts:List T) (acc:Pap) (t:T) (r:Rho),OR r→yK1 acc→Run X Y t sts ts→(∀ s∈sts,s.path.length≤1000)→LG c td h l acc t sts ts r:=by
 induction sts with
 | nil=>exact fun ts acc t r hr ha hrun hp=>(show ts=[] from hrun)▸xL9 hr
 | cons s sts ih=>exact fun ts acc t r hr ha hrun hp=>zF9 (C:=fun ts=>LG c td h l acc t (s::sts) ts r) hrun fun u us hs hrun=>y72 hr (fun r' hr'=>y71 X Y hr' ha hs (hp s (.head _))) fun r2 hr2=>ih us _ u r2 hr2 (xL8 ha (yB3 t s)) hrun fun s' h'=>hp s' (.tail _ h')
theorem loose (ts:List T) (sts:List Stp):zM5 (ts.map enc) (sts.map zA6)=true:=by
 unfold zM5
 rw[List.all_eq_true]
 intro d hd
 simp only[zX5,List.mem_map] at hd
 obtain ⟨⟨a,b⟩,hab,rfl⟩:=hd
 have h1:=List.of_mem_zip hab
 simp only[List.mem_map] at h1
 obtain ⟨⟨t,_,rfl⟩,s,_,rfl⟩:=h1
 cases t<;>rfl
theorem zv0 (X Y:T) (c:Nat) (hm:c≤900) (sts:List Stp) (t:T) (ts:List T) (hr:Run X Y t sts ts) (hl:sts.length≤4) (hts:ts.length≤4) (hs:∀ s∈sts,s.path.length < c∧(s.src X Y).size≤300):Ok (c+14) 302 [.val (SO X Y),.val (enc t),.val (.list (sts.map zA6))] (rv (zA2 (zO7 (.same t) t sts ts)) (SO X Y)):=by
 refine zW8 xL6 (zH9 (by rw[yY4];rfl) ?_)
 rw[yY4,yg4]
 refine zC2 (zA9 (xc6 (c+13) _ _ _ _) ⟨rfl,rfl,?_⟩)
 refine zC2 (zN9 (zA9 (xV7 (c+13) _ _ _ _ ((t::ts).map enc) _) ⟨yY5 X Y c hm sts t ts hr hl hs,nd1 (two (two (zB7 (by simp;lia)) (zB7 (by simp;lia))) (loose _ _)),?_⟩))
 refine zC6 (y73 X Y (c:=c+10) sts ts (.same t) t [] .z (.inl ⟨t,rfl⟩) hr fun s h=>Nat.le_trans (Nat.le_of_lt (hs s h).1) (Nat.le_trans hm (by decide))) fun x hx=>⟨hx.1,hx.2.elim fun r g=>?_⟩
 rw[g.2]
 exact zA9 (xL7 (c+13) _ _ _ _ _ _) ⟨rfl,rfl,rfl⟩
end Mine
namespace Mine
open PySem
structure Fine (X Y:T) (p:Pap) (a b:T) (sts:List Stp) (n:Nat):Prop where
 l:p.L X Y=a
 r:p.R X Y=b
 wf:p.wf X Y
 small:p.small
 shp:p.shp
 steps:p.steps=sts
 cnt:p.cnt=sts.length
 size:p.size≤n
noncomputable def Sb (X Y:T) (s:Stp):Prop:=s.path.length≤100∧(s.ax.l X Y).size≤300∧(s.ax.r X Y).size≤300∧s.ax.small
theorem y74 (X Y:T) (s:Stp) (h:Sb X Y s):Fine X Y (lk s) (s.src X Y) (s.dst X Y) [⟨[],s.ax,s.back⟩] 2:=by
 obtain ⟨q,ax,back⟩:=s
 have h1:=h.1;have h2:=h.2.1;have h3:=h.2.2.1;have h4:=h.2.2.2;try clear h
 cases back
 ·exact ⟨rfl,rfl,⟨h2,h3⟩,h4,trivial,rfl,rfl,Nat.le_succ 1⟩
 ·exact ⟨rfl,rfl,⟨h2,h3⟩,h4,⟨trivial,rfl⟩,rfl,rfl,Nat.le_refl 2⟩
theorem Fine.mono {X Y:T} {p:Pap} {a b:T} {sts:List Stp} {n m:Nat} (h:Fine X Y p a b sts n) (k:n≤m):Fine X Y p a b sts m:=⟨h.l,h.r,h.wf,h.small,h.shp,h.steps,h.cnt,Nat.le_trans h.size k⟩
section
variable {X Y x x' y:T} {w:Pap} {ax:Ax} {bk:Bool} {q:List Nat} {n:Nat}
theorem xM0 (ih:Fine X Y w x y [⟨q,ax,bk⟩] n):Fine X Y (.und1 w) (.f x) (.f y) [⟨0::q,ax,bk⟩] (n+2) :=
 ⟨congrArg T.f ih.l,congrArg T.f ih.r,ih.wf,ih.small,⟨ih.shp,congrArg List.length ih.steps⟩,congrArg (List.map (Stp.deep 0)) ih.steps,ih.cnt,Nat.le_succ_of_le (Nat.succ_le_succ ih.size)⟩
theorem y75 (ih:Fine X Y w x y [⟨q,ax,bk⟩] n) (hz:x'.size≤300):Fine X Y (.und2 w (.same x')) (.g x x') (.g y x') [⟨0::q,ax,bk⟩] (n+2) :=
 ⟨congrArg (T.g · x') ih.l,congrArg (T.g · x') ih.r,⟨ih.wf,hz⟩,⟨ih.small,Nat.le_trans hz (by decide)⟩,⟨ih.shp,trivial,.inl ⟨congrArg List.length ih.steps,rfl⟩⟩,congrArg (fun l=>List.map (Stp.deep 0) l++[]) ih.steps,ih.cnt,Nat.succ_le_succ (Nat.succ_le_succ ih.size)⟩
theorem y76 (ih:Fine X Y w x y [⟨q,ax,bk⟩] n) (hz:x'.size≤300):Fine X Y (.und2 (.same x') w) (.g x' x) (.g x' y) [⟨1::q,ax,bk⟩] (n+2) :=
 ⟨congrArg (T.g x') ih.l,congrArg (T.g x') ih.r,⟨hz,ih.wf⟩,⟨Nat.le_trans hz (by decide),ih.small⟩,⟨trivial,ih.shp,.inr ⟨rfl,congrArg List.length ih.steps⟩⟩,congrArg (List.map (Stp.deep 1)) ih.steps,(Nat.zero_add _).trans ih.cnt,Nat.succ_le_succ (by rw[Nat.add_comm];exact Nat.succ_le_succ ih.size)⟩
end
theorem yg7 (X Y:T) {p:Pap} {a b:T} {ax:Ax} {bk:Bool} {n:Nat} (h:Fine X Y p a b [⟨[],ax,bk⟩] n) (q:List Nat):∀ (t:T),sub t q=some a→t.size≤300→Fine X Y (zL2 t q p) t (rep t q b) [⟨q,ax,bk⟩] (2 * q.length+n):=by
 induction q with
 | nil =>
  intro t hq ht
  obtain rfl:=Option.some.inj ((zJ2 t).symm.trans hq)
  rw[zu8,show 2 * ([]:List Nat).length+n=n from Nat.zero_add n]
  exact h
 | cons k q ih =>
  intro t hq
  rw[show 2 * (k::q).length+n=2 * q.length+n+2 by rw[List.length_cons];lia]
  exact zN3 (C:=fun t k=>t.size≤300→Fine X Y (zL2 t (k::q) p) t (rep t (k::q) b) [⟨k::q,ax,bk⟩] (2 * q.length+n+2)) hq
   (fun x hq ht=>xM0 (ih x hq (Nat.le_of_succ_le ht)))
   (fun x y hq ht=>have z:=Nat.le_of_succ_le ht;y75 (ih x hq (Nat.le_trans (Nat.le_add_right _ _) z)) (Nat.le_trans (Nat.le_add_left _ _) z))
   (fun x y hq ht=>have z:=Nat.le_of_succ_le ht;y76 (ih y hq (Nat.le_trans (Nat.le_add_left _ _) z)) (Nat.le_trans (Nat.le_add_right _ _) z))
theorem z32 (X Y:T) {t u:T} {s:Stp} (h:zJ5 X Y t s u) (hb:Sb X Y s) (ht:t.size≤300):Fine X Y (zK8 t s) t u [s] 202:=by
 have h1:=h.1;obtain rfl:=h.2;try clear h
 have:=yg7 X Y (y74 X Y s hb) s.path t h1 ht
 exact ⟨this.l,this.r,this.wf,this.small,this.shp,this.steps,this.cnt,by have:=this.size;have:=hb.1;unfold zK8;lia⟩
theorem yg8 (X Y:T) {p q:Pap} {a b c:T} {s:Stp} {sts:List Stp} {n:Nat} (hp:Fine X Y p a b sts n) (hq:Fine X Y q b c [s] 202) (hne:∀ t,p≠.same t) (hb:b.size≤300) (hl:sts.length=1∨sts.length=2∨sts.length=3):Fine X Y (jnP p q) a c (sts++[s]) (n+203):=by
 have e:jnP p q=.join p q:=by cases p<;>first | rfl | exact absurd rfl (hne _)
 rw[e]
 refine ⟨hp.l,hq.r,⟨hp.wf,hq.wf,by rw[hp.r,hq.l],by rw[hq.l];exact hb⟩,⟨hp.small,hq.small⟩,⟨hp.shp,hq.shp,by rw[hp.steps];exact hl,by rw[hq.steps];rfl⟩,?_,?_,?_⟩
 ·show Pap.steps _++Pap.steps _=_;rw[hp.steps,hq.steps]
 ·show Pap.cnt _+Pap.cnt _=_;rw[hp.cnt,hq.cnt];simp
 ·show Pap.size _+Pap.size _+1≤_;have:=hp.size;have:=hq.size;lia
noncomputable def zG3:T→List T→T
 | t,[]=>t
 | _,u::us=>zG3 u us
theorem yu6 {p:Pap} (h:HdP (zA2 p)):∀ t,p≠.same t:=by
 intro t e;subst e;cases h
theorem xW0 {acc q:Pap} (h:∀ t,acc≠.same t):∀ t',jnP acc q≠.same t':=by
 intro t' e
 cases acc with
 | same t=>exact h t rfl
 | _=>cases e
theorem yg9 (X Y:T) (sts:List Stp):∀ (t:T) (ts:List T) (acc:Pap) (a:T) (done:List Stp) (n:Nat),Run X Y t sts ts→(∀ s∈sts,Sb X Y s)→(∀ u∈t::ts,u.size≤300)→done.length+sts.length≤4→Fine X Y acc a t done n→1≤done.length→(∀ t,acc≠.same t) →
  Fine X Y (zO7 acc t sts ts) a (zG3 t ts) (done++sts) (n+203 * sts.length):=by
 induction sts with
 | nil =>
  intro t ts acc a done n hr hb ht hl h hd hne
  rw[show ts=[] from hr,List.append_nil]
  exact h
 | cons s sts ih =>
  intro t ts acc a done n hr hb ht hl h hd hne
  refine zF9 (C:=fun ts=>(∀ u∈t::ts,u.size≤300)→Fine X Y (zO7 acc t (s::sts) ts) a (zG3 t ts) (done++s::sts) (n+203 * (s::sts).length)) hr (fun u us hs hr ht=>?_) ht
  rw[List.length_cons] at hl ⊢
  have hj:=yg8 X Y h (z32 X Y hs (hb s (.head _)) (ht t (.head _))) hne (ht t (.head _)) (by lia)
  have z:=ih u us _ a _ _ hr (fun s' h'=>hb s' (.tail _ h')) (fun v hv=>ht v (.tail _ hv)) (by rw[List.length_append];show done.length+1+sts.length≤4;lia) hj (by rw[List.length_append];exact Nat.le_add_left 1 _) (xW0 hne)
  rw[List.append_assoc] at z
  exact z.mono (by lia)
theorem yu7 (X Y:T) {s:Stp} {sts:List Stp} {t:T} {ts:List T} (hr:Run X Y t (s::sts) ts) (hb:∀ x∈s::sts,Sb X Y x) (ht:∀ u∈t::ts,u.size≤300) (hl:(s::sts).length≤4):Fine X Y (zO7 (.same t) t (s::sts) ts) t (zG3 t ts) (s::sts) 2000:=by
 refine zF9 (C:=fun ts=>(∀ u∈t::ts,u.size≤300)→Fine X Y (zO7 (.same t) t (s::sts) ts) t (zG3 t ts) (s::sts) 2000) hr (fun u us hs hr ht=>?_) ht
 rw[List.length_cons] at hl
 exact (yg9 X Y sts u us (zK8 t s) t [s] 202 hr (fun s' h'=>hb s' (.tail _ h')) (fun v hv=>ht v (.tail _ hv)) (by show 1+sts.length≤4;lia) (z32 X Y hs (hb s (.head _)) (ht t (.head _))) (Nat.le_refl 1) (yu6 (yB3 t s))).mono (by lia)
end Mine
namespace Mine
open PySem
theorem yB4:G.fn 404=some (zA5 404):=by kernel_rfl
theorem y77 (c:Nat) (x t:D):Ok (c+1) 404 [.val (zF3 x),.val t] (rv (zC9 x x) (zF3 x)):=by unfold Ok;kernel_rfl
theorem xc7 (c:Nat) (X Y:D):Ok (c+1) 404 [.val (z27 "s"),.val (tdD X Y)] (rv (zC9 (.tup [S "a"]) X) (z27 "s")):=by unfold Ok;kernel_rfl
theorem xc8 (c:Nat) (X Y:D):Ok (c+1) 404 [.val (z27 "t"),.val (tdD X Y)] (rv (zC9 (mkg (.tup [S "a"]) (.tup [S "b"])) Y) (z27 "t")):=by unfold Ok;kernel_rfl
theorem xc9 (c:Nat) (x y t:D):Ok (c+8) 404 [.val (zt8 "swap" (.tup [pr "?x" x,pr "?y" y])),.val t] (rv (zC9 (mkg x y) (mkg y x)) (zt8 "swap" (.tup [pr "?x" x,pr "?y" y]))):=by unfold Ok;kernel_rfl
theorem xd0 (c:Nat) (x t:D):Ok (c+8) 404 [.val (zt8 "fold" (.tup [pr "?x" x])),.val t] (rv (zC9 (mkf (mkf x)) x) (zt8 "fold" (.tup [pr "?x" x]))):=by unfold Ok;kernel_rfl
theorem xd1 (c:Nat) (x y t:D):Ok (c+8) 404 [.val (zt8 "move" (.tup [pr "?x" x,pr "?y" y])),.val t] (rv (zC9 (mkg (mkf x) y) (mkg x (mkf y))) (zt8 "move" (.tup [pr "?x" x,pr "?y" y]))):=by unfold Ok;kernel_rfl
theorem y78 (c:Nat) (x t l r:D) (Q:Ret→Prop):zA8 c (zC7 G (zA5 404) [.val (zK6 x),.val t]) [.call (rv (zC9 l r) x),.b false] true Q =
 (Ok c 404 [.val x,.val t] (rv (zC9 l r) x)∧zO0 .none [zC9 l r]=some false∧true=true∧Q (rv (zC9 r l) (zK6 x))):=by kernel_rfl
theorem xW1 (c:Nat) (x t l r:D) (Q:Ret→Prop):zA8 c (zC7 G (zA5 404) [.val (pU1 x),.val t]) [.call (rv (zC9 l r) x),.b false] true Q =
 (Ok c 404 [.val x,.val t] (rv (zC9 l r) x)∧zO0 .none [zC9 l r]=some false∧true=true∧Q (rv (zC9 (mkf l) (mkf r)) (pU1 x))):=by kernel_rfl
theorem xW2 (c:Nat) (x y t l r l' r':D) (Q:Ret→Prop):zA8 c (zC7 G (zA5 404) [.val (pU2 x y),.val t]) [.call (rv (zC9 l r) x),.call (rv (zC9 l' r') y),.b false] true Q =
 (Ok c 404 [.val x,.val t] (rv (zC9 l r) x)∧Ok c 404 [.val y,.val t] (rv (zC9 l' r') y)∧zO0 .none [zC9 l r,zC9 l' r']=some false∧true=true∧Q (rv (zC9 (mkg l l') (mkg r r')) (pU2 x y))):=by kernel_rfl
theorem y79 (c:Nat) (x y t l m m' r:D) (Q:Ret→Prop):zA8 c (zC7 G (zA5 404) [.val (zG6 x y),.val t]) [.call (rv (zC9 l m) x),.call (rv (zC9 m' r) y),.b false,.b true] true Q =
 (Ok c 404 [.val x,.val t] (rv (zC9 l m) x)∧Ok c 404 [.val y,.val t] (rv (zC9 m' r) y)∧zO0 .none [zC9 l m,zC9 m' r]=some false∧deq m m'=some true∧true=true∧Q (rv (zC9 l r) (zG6 x y))):=by kernel_rfl
theorem yK2 (t u:T):deq (zC9 (enc t) (enc u)) .none=some false:=yQ9 (tpT (tpL (zI6 t) (tpL (zI6 u) tpN))) (show zG9 .none=some .none from rfl) (Nat.le_trans (Nat.min_le_right _ _) (Nat.zero_le _))
theorem xM1 (t u:T):zO0 .none [zC9 (enc t) (enc u)]=some false:=by
 unfold zO0;rw[yK2];unfold zO0;rfl
theorem xW3 (t u t' u':T):zO0 .none [zC9 (enc t) (enc u),zC9 (enc t') (enc u')]=some false:=by
 unfold zO0;rw[yK2,xM1];rfl
noncomputable def Pap.dep:Pap→Nat
 | .same _=>0
 | .ax _=>0
 | .turn p=>p.dep+1
 | .join p q=>max p.dep q.dep+1
 | .und1 p=>p.dep+1
 | .und2 p q=>max p.dep q.dep+1
theorem y80 (X Y:T) (p:Pap):∀ (c:Nat),p.wf X Y→Ok (c+8+p.dep) 404 [.val (zA2 p),.val (tdD (enc X) (enc Y))] (rv (zR1 X Y p) (zA2 p)):=by
 have u8:∀ {c:Nat},c+1≤c+8+0:=Nat.add_le_add_left (by decide) _
 induction p with
 | same t=>exact fun c h=>(y77 c (enc t) _).up u8
 | ax a =>
  intro c h
  cases a with
  | swap x y=>exact xc9 c (enc x) (enc y) _
  | fold x=>exact xd0 c (enc x) _
  | move x y=>exact xd1 c (enc x) (enc y) _
  | s=>exact (xc7 c _ _).up u8
  | t=>exact (xc8 c _ _).up u8
 | turn p ih=>exact fun c h=>zB0 yB4 (y78 (c+8+p.dep) (zA2 p) _ (enc (p.L X Y)) (enc (p.R X Y)) _) ⟨ih c h,xM1 _ _,rfl,rfl⟩
 | und1 p ih=>exact fun c h=>zB0 yB4 (xW1 (c+8+p.dep) (zA2 p) _ (enc (p.L X Y)) (enc (p.R X Y)) _) ⟨ih c h,xM1 _ _,rfl,rfl⟩
 | und2 p q i1 i2=>exact fun c h=>zB0 yB4 (xW2 (c+8+(max p.dep q.dep)) (zA2 p) (zA2 q) _ (enc (p.L X Y)) (enc (p.R X Y)) (enc (q.L X Y)) (enc (q.R X Y)) _) ⟨(i1 c h.1).up (Nat.add_le_add_left (Nat.le_max_left _ _) _),(i2 c h.2).up (Nat.add_le_add_left (Nat.le_max_right _ _) _),xW3 _ _ _ _,rfl,rfl⟩
 | join p q i1 i2=>exact fun c h=>zB0 yB4 (y79 (c+8+(max p.dep q.dep)) (zA2 p) (zA2 q) _ (enc (p.L X Y)) (enc (p.R X Y)) (enc (q.L X Y)) (enc (q.R X Y)) _) ⟨(i1 c h.1).up (Nat.add_le_add_left (Nat.le_max_left _ _) _),(i2 c h.2.1).up (Nat.add_le_add_left (Nat.le_max_right _ _) _),xW3 _ _ _ _,by rw[h.2.2.1];exact zV9 _ h.2.2.2,rfl,rfl⟩
theorem up1 {a b c:Nat} (h:a≤b+c):a+1≤b+1+c:=by rw[Nat.add_right_comm];exact Nat.succ_le_succ h
theorem yu8 (q:List Nat):∀ (t:T) (p:Pap),(zL2 t q p).dep≤q.length+p.dep:=by
 induction q with
 | nil=>exact fun t p=>by rw[zu8];exact Nat.le_add_left _ _
 | cons k q ih =>
  intro t p
  have z:Pap.dep p≤(k::q).length+p.dep:=Nat.le_add_left _ _
  cases t with
  | f t=>cases k with
   | zero=>exact up1 (ih t p)
   | succ k=>exact z
  | g t u=>cases k with
   | zero=>exact up1 (Nat.max_le.mpr ⟨ih t p,Nat.zero_le _⟩)
   | succ k=>cases k with
    | zero=>exact up1 (Nat.max_le.mpr ⟨Nat.zero_le _,ih u p⟩)
    | succ k=>exact z
  | _=>exact z
theorem xM2 (s:Stp):(lk s).dep≤1:=by
 unfold lk
 cases s.back with
 | true=>exact Nat.le_refl 1
 | false=>exact Nat.zero_le 1
theorem yu9 (t:T) (s:Stp):(zK8 t s).dep≤s.path.length+1:=Nat.le_trans (yu8 s.path t (lk s)) (Nat.add_le_add_left (xM2 s) _)
theorem xM3 (p q:Pap):(jnP p q).dep≤max p.dep q.dep+1:=by
 cases p with
 | same t=>exact Nat.le_succ_of_le (Nat.le_max_right _ _)
 | _=>exact Nat.le_refl _
theorem yv0 (K:Nat) (sts:List Stp):∀ (t:T) (ts:List T) (acc:Pap) (M:Nat),(∀ s∈sts,s.path.length+1≤K)→K≤M→acc.dep≤M→(zO7 acc t sts ts).dep≤M+sts.length:=by
 induction sts with
 | nil=>exact fun t ts acc M uu uu h=>h
 | cons s sts ih =>
  intro t ts acc M hs hk h
  cases ts with
  | nil=>exact Nat.le_trans h (Nat.le_add_right _ _)
  | cons u us =>
   have z:=ih u us (jnP acc (zK8 t s)) (M+1) (fun s' h'=>hs s' (.tail _ h')) (Nat.le_succ_of_le hk) (Nat.le_trans (xM3 acc (zK8 t s)) (Nat.succ_le_succ (Nat.max_le.mpr ⟨h,Nat.le_trans (yu9 t s) (Nat.le_trans (hs s (.head _)) hk)⟩)))
   rwa [Nat.add_right_comm] at z
theorem xM4:G.fn 411=some (zA5 411):=by kernel_rfl
theorem y81 (c:Nat) (t w0 wz P a z:D) (ws ls:List D) (n:Int) (Q:Ret→Prop):zA8 c (zC7 G (zA5 411) [.val (zA4 t),.val (zA3 t),.val t,.val (.list ls),.val (.list ws)])
  [.d w0,.call (rv (.list ws) (zA4 t)),.b true,.d w0,.call (rv P (zA4 t)),.call (rv (zC9 a z) P),.d w0,.d wz,.b true,.call (rv (zC9 a z) (zA3 t)),.d w0,.d wz,.b true,.call (rv (.int n) (zA3 t)),.b true,.call (rv (.list ls) (zA4 t)),.b true] true Q =
 (zC3 ws 0=some w0∧Ok c 295 [.val (zA4 t),.val w0,.val (.list ls)] (rv (.list ws) (zA4 t))∧deq (.list ws) (.list ws)=some true∧zC3 ws 0=some w0∧Ok c 302 [.val (zA4 t),.val w0,.val (.list ls)] (rv P (zA4 t)) ∧
  Ok c 404 [.val P,.val t] (rv (zC9 a z) P)∧zC3 ws 0=some w0∧zC3 ws (-1)=some wz∧deq (zC9 a z) (zC9 w0 wz)=some true∧Ok c 224 [.val (zA3 t),.val P] (rv (zC9 a z) (zA3 t))∧zC3 ws 0=some w0∧zC3 ws (-1)=some wz∧deq (zC9 a z) (zC9 w0 wz)=some true ∧
  Ok c 229 [.val (zA3 t),.val P] (rv (.int n) (zA3 t))∧deq (.int n) (.int ((ls.length:Nat):Int))=some true∧Ok c 274 [.val (zA4 t),.val P] (rv (.list ls) (zA4 t))∧deq (.list ls) (.list ls)=some true ∧
  nd [zA0 ls,zA0 ws,zA0 ws,zA0 ws,zA0 ws,zA0 ws,zA0 ws]=true∧Q (rv (.bool true) (zA4 t))):=by kernel_rfl
end Mine
namespace Mine
open PySem
theorem zj9 {α:Type} (e:α→D) (f:α→PyData) (h:∀ a,zG9 (e a)=some (f a)) (l:List α):zK0 (l.map e)=some (l.map f):=by
 induction l with
 | nil=>rfl
 | cons a l ih=>exact tpL (h a) ih
theorem yK3 {N:Nat} (l:List PyData):(∀ p∈l,p.depth≤N)→PyData.depthAll l≤N:=by
 induction l with
 | nil=>exact fun uu=>dpN
 | cons p l ih=>exact fun h=>dpL (h p (.head _)) (ih fun q hq=>h q (.tail _ hq))
theorem yS9 {α:Type} {f:α→PyData} {l:List α} {N:Nat} (h:∀ a∈l,(f a).depth≤N):PyData.depthAll (l.map f)≤N:=yK3 _ fun p hp=>(List.mem_map.mp hp).elim fun a g=>g.2▸h a g.1
theorem yh0 (l:List T) (h:∀ t∈l,t.size≤300):deq (.list (l.map enc)) (.list (l.map enc))=some true :=
 zT9 (tpI (zj9 enc pyT zI6 l)) (Nat.le_trans (dpI (yS9 fun t ht=>Nat.le_trans (zL9 t) (h t ht))) (by decide))
theorem yv1 (t u:T) (h1:t.size≤300) (h2:u.size≤300):deq (zC9 (enc t) (enc u)) (zC9 (enc t) (enc u))=some true :=
 zT9 (tpT (tpL (zI6 t) (tpL (zI6 u) tpN))) (Nat.le_trans (dpT (dpL (Nat.le_trans (zL9 t) h1) (dpL (Nat.le_trans (zL9 u) h2) dpN))) (by decide))
theorem y82 (i:Int):deq (.int i) (.int i)=some true:=zT9 (p:=.int i) rfl (Nat.zero_le _)
noncomputable def pyP (q:List Nat):PyData:=.tuple (q.map fun k=>.int (k:Nat))
theorem yh1 (q:List Nat):zG9 (zF2 q)=some (pyP q):=tpT (zj9 (fun k:Nat=>D.int (k:Nat)) (fun k=>PyData.int (k:Nat)) (fun uu=>rfl) q)
theorem so (x:String) (h:PyData.strOk (Str.ofString x)=true):zG9 (S x)=some (pS x):=zj3 x h
theorem yY6 (x:String) (t:T) (h:PyData.strOk (Str.ofString x)=true):zG9 (pr x (enc t))=some (.tuple [pS x,pyT t]):=tpT (tpL (so x h) (tpL (zI6 t) tpN))
noncomputable def Ax.py:Ax→List PyData
 | .swap x y=>[.tuple [pS "?x",pyT x],.tuple [pS "?y",pyT y]]
 | .fold x=>[.tuple [pS "?x",pyT x]]
 | .move x y=>[.tuple [pS "?x",pyT x],.tuple [pS "?y",pyT y]]
 | _=>[]
theorem yK4 (a:Ax):zK0 a.places=some a.py:=by
 have hx:=yY6 "?x"
 have hy:=yY6 "?y"
 cases a with
 | swap x y=>exact tpL (hx x (by decide +kernel)) (tpL (hy y (by decide +kernel)) tpN)
 | fold x=>exact tpL (hx x (by decide +kernel)) tpN
 | move x y=>exact tpL (hx x (by decide +kernel)) (tpL (hy y (by decide +kernel)) tpN)
 | _=>exact tpN
theorem yh2 (a:Ax):zG9 (S a.kind)=some (pS a.kind):=by
 cases a with
 | s=>exact so "told" (by decide +kernel)
 | t=>exact so "told" (by decide +kernel)
 | _=>exact so "rule" (by decide +kernel)
theorem yh3 (a:Ax):zG9 (S a.name)=some (pS a.name):=by
 cases a with
 | swap=>exact so "swap" (by decide +kernel)
 | fold=>exact so "fold" (by decide +kernel)
 | move=>exact so "move" (by decide +kernel)
 | s=>exact so "s" (by decide +kernel)
 | t=>exact so "t" (by decide +kernel)
noncomputable def xM5 (s:Stp):PyData:=.tuple [pyP s.path,pS s.ax.kind,pS s.ax.name,.tuple s.ax.py,.bool s.back]
theorem yv2 (s:Stp):zG9 (zA6 s)=some (xM5 s) :=
 tpT (tpL (yh1 _) (tpL (yh2 _) (tpL (yh3 _) (tpL (tpT (yK4 _)) (tpL (show zG9 (.bool s.back)=some (.bool s.back) from rfl) tpN)))))
theorem yT0 (q:List Nat):(pyP q).depth≤2:=dpT (yS9 fun k uu=>Nat.zero_le 1)
end Mine
namespace Mine
open PySem
theorem yK5 {x:String} {t:T} {n:Nat} (h:t.size≤n):(PyData.tuple [pS x,pyT t]).depth≤n+1:=dpT (dpL dpS (dpL (Nat.le_trans (zL9 t) h) dpN))
theorem yv3 {X Y:T} {n:Nat} (a:Ax) (h:(a.l X Y).size≤n):PyData.depthAll a.py≤n+1:=by
 cases a with
 | swap x y=>exact dpL (yK5 (Nat.le_trans (Nat.le_add_right _ _) (Nat.le_of_succ_le h))) (dpL (yK5 (Nat.le_trans (Nat.le_add_left _ _) (Nat.le_of_succ_le h))) dpN)
 | fold x=>exact dpL (yK5 (Nat.le_of_succ_le (Nat.le_of_succ_le h))) dpN
 | move x y=>exact dpL (yK5 (Nat.le_trans (Nat.le_trans (Nat.le_succ _) (Nat.le_add_right _ _)) (Nat.le_of_succ_le h))) (dpL (yK5 (Nat.le_trans (Nat.le_add_left _ _) (Nat.le_of_succ_le h))) dpN)
 | _=>exact dpN
theorem yh4 (X Y:T) (s:Stp) (h:Sb X Y s):(xM5 s).depth≤310 :=
 Nat.le_trans (dpT (n:=302) (dpL (Nat.le_trans (yT0 _) (by decide)) (dpL dpS (dpL dpS (dpL (dpT (yv3 s.ax h.2.1)) (dpL (Nat.zero_le _) dpN)))))) (by decide)
theorem yh5 (X Y:T) (l:List Stp) (h:∀ s∈l,Sb X Y s):deq (.list (l.map zA6)) (.list (l.map zA6))=some true :=
 zT9 (tpI (zj9 zA6 xM5 yv2 l)) (Nat.le_trans (dpI (yS9 fun t ht=>yh4 X Y t (h t ht))) (by decide))
theorem yv4 (ts:List T):∀ (t:T),(t::ts)[ts.length]?=some (zG3 t ts):=by
 induction ts with
 | nil=>exact fun t=>rfl
 | cons u us ih=>exact fun t=>ih u
theorem zb4 (t:T) (ts:List T):zC3 ((t::ts).map enc) (-1)=some (enc (zG3 t ts)):=by
 unfold zC3 idx
 rw[if_neg (by lia),if_pos (by simp;lia)]
 simp only[Option.bind_some,List.length_map,List.length_cons]
 rw[show (-1+((ts.length+1:Nat):Int)).toNat=ts.length by lia,List.getElem?_map,yv4]
 rfl
theorem zh0 (t:T) (ts:List T):zG3 t ts∈t::ts:=by
 induction ts generalizing t with
 | nil=>exact .head _
 | cons u us ih=>exact .tail _ (ih u)
theorem yv5 (X Y:T) (s:Stp) (h:Sb X Y s):(s.src X Y).size≤300:=by
 unfold Stp.src
 cases s.back with
 | true=>exact h.2.2.1
 | false=>exact h.2.1
theorem yB5 (X Y:T) (sts:List Stp):∀ (t:T) (ts:List T),Run X Y t sts ts→ts.length=sts.length:=by
 induction sts with
 | nil=>exact fun t ts h=>congrArg List.length (show ts=[] from h)
 | cons s sts ih=>exact fun t ts h=>zF9 (C:=fun ts=>ts.length=(s::sts).length) h fun u us uu hr=>congrArg (·+1) (ih u us hr)
theorem nd7 {a b:Bool} (h:a=true) (g:b=true):nd [a,b,b,b,b,b,b]=true:=by rw[h,g];rfl
theorem yv6 (X Y:T) {s:Stp} {sts:List Stp} {t:T} {ts:List T} (hr:Run X Y t (s::sts) ts) (hb:∀ x∈s::sts,Sb X Y x) (hp:∀ x∈s::sts,x.path.length≤20) (ht:∀ u∈t::ts,u.size≤300) (hl:(s::sts).length≤4) :
  Ok 50 411 [.val (SO X Y),.val (zA3 (tdD (enc X) (enc Y))),.val (tdD (enc X) (enc Y)),.val (.list ((s::sts).map zA6)),.val (.list ((t::ts).map enc))] (rv (.bool true) (SO X Y)):=by
 have F:=yu7 X Y hr hb ht hl
 have hlen:=yB5 X Y _ _ _ hr
 generalize hP:zO7 (.same t) t (s::sts) ts=P at F
 have hs:∀ x∈s::sts,x.path.length < 21∧(x.src X Y).size≤300:=fun x hx=>⟨by have:=hp x hx;lia,yv5 X Y x (hb x hx)⟩
 have hw:=(yY5 X Y 21 (by lia) _ t ts hr hl hs).up (c':=49) (by lia)
 have hpo:=(zv0 X Y 21 (by lia) _ t ts hr hl (by lia) hs).up (c':=49) (by lia)
 rw[hP] at hpo
 have hdep:=yv0 21 (s::sts) t ts (.same t) 21 (fun x hx=>by have:=hp x hx;lia) (Nat.le_refl _) (by simp[Pap.dep])
 rw[hP] at hdep
 have hrd:=(y80 X Y P 0 F.wf).up (c':=49) (by lia)
 have hsd:=(z31 X Y P 0 F.small F.wf (by have:=F.size;lia)).up (c':=49) (by lia)
 have hct:=(yt6 (tdD (enc X) (enc Y)) P 0 F.small (by have:=F.size;lia)).up (c':=49) (by lia)
 have hop:=(yS4 X Y P 0 F.small F.wf F.shp (by have:=F.size;lia)).up (c':=49) (by lia)
 have e:zR1 X Y P=zC9 (enc t) (enc (zG3 t ts)):=by unfold zR1;rw[F.l,F.r]
 rw[e] at hrd hsd
 have es:stL P=.list ((s::sts).map zA6):=by unfold stL;rw[F.steps]
 rw[es] at hop
 have ec:P.cnt=((s::sts).map zA6).length:=by rw[F.cnt,List.length_map]
 rw[ec] at hct
 have h0:zC3 ((t::ts).map enc) 0=some (enc t):=zE9
 have h1:=zb4 t ts
 have dp:=yv1 t (zG3 t ts) (ht t (by simp)) (ht _ (zh0 t ts))
 have sls:zA0 ((s::sts).map zA6)=true:=zB7 (by rw[List.length_map];lia)
 have sws:zA0 ((t::ts).map enc)=true:=zB7 (by rw[List.length_map,List.length_cons,hlen];lia)
 refine zB0 xM4 (y81 49 (tdD (enc X) (enc Y)) (enc t) (enc (zG3 t ts)) (zA2 P) (enc t) (enc (zG3 t ts)) ((t::ts).map enc) ((s::sts).map zA6) ((((s::sts).map zA6).length:Nat):Int) _) ⟨h0,hw,yh0 _ ht,h0,hpo,hrd,h0,h1,dp,hsd,h0,h1,dp,hct,y82 _,hop,yh5 X Y _ hb,nd7 sls sws,rfl⟩
end Mine
namespace Mine
open PySem
noncomputable def yK6:Expr→List Expr
 | .List es _=>es
 | _=>[]
theorem xM6:G.fn 354=some (zA5 354):=by kernel_rfl
theorem yY7:(zA5 354).params=[Str.ofString "script"]:=by kernel_rfl
theorem yh6:stmts 354=[.Return (some (zI2 (st 354 0))) (yW0 (st 354 0))]:=by kernel_rfl
noncomputable def zH3:Expr:=(yK6 (zI2 (st 354 0))).headD default
noncomputable def y83:Expr:=((yK6 (zI2 (st 354 0)))[1]?).getD default
theorem yv7:zH3=.ListComp (zc5 zH3) [⟨(zD6 zH3).target,(zD6 zH3).iter,[],0⟩] (zI0 zH3) (z24 zH3):=by kernel_rfl
noncomputable abbrev zh1 (l:List D):Rho:=[nm "script" (.val (.list l))]
theorem y84 (l:List D):(evs G 40).e (zA5 354).scope (zh1 l) (zI2 (st 354 0))=(evalArgs ((evs G 39).e (zA5 354).scope) [zH3,y83] (zh1 l)).bind fun q=>if zA0 [zH3,y83] then .pure (.ownL q.1,q.2) else .fail:=by kernel_rfl
theorem y85:zE3 zH3=false:=by kernel_rfl
theorem yv8:zE3 y83=false:=by kernel_rfl
theorem yh7 (l:List D):(evs G 39).e (zA5 354).scope (zh1 l) y83=.pure (.val (.int 0),zh1 l):=by kernel_rfl
theorem xW4 (c:Nat) (l:List D) (Q:List D×Rho→Prop):zA8 c (zC0 G ((evs G 38).e (zA5 354).scope) (zA5 354).scope (zE7 (zD6 zH3).target) (zh1 l) (zD6 zH3).iter) [] true Q=(nd [zA0 (l.take 40),zA0 l]=true∧Q (l.take 40,zh1 l)):=by kernel_rfl
theorem xW5:(zI9 [⟨(zD6 zH3).target,(zD6 zH3).iter,[],0⟩]&&zF6 (zA5 354).scope (zI0 zH3))=true:=by kernel_rfl
theorem yv9 (l:List D):zN7 (zI0 zH3) (zD6 zH3).target (zD2 (zI0 zH3) (zC4 (zI0 zH3) (zh1 l)))=true:=by kernel_rfl
theorem yw0 (l:List D):zC4 (zI0 zH3) (zh1 l)=zh1 l:=by kernel_rfl
theorem y86 (c:Nat) (l:List D) (n:Int) (Q:List D→Prop):zA8 c (z25 38 (zI0 zH3) (zc5 zH3) (zD6 zH3).target [] (zD2 (zI0 zH3) (zh1 l)) (.int n)) [] true Q=(true=true∧Q [.int (n % 10037)]):=by kernel_rfl
theorem y87 (ns:List Int) (c:Nat) (h:ns.length≤63):Ok (c+1) 354 [.val (.list (ns.map .int))] (.ownL [.list (((ns.take 40).map (· % 10037)).map .int),.int 0],some (.val (.list (ns.map .int)))):=by
 refine zW8 xM6 (zH9 (by rw[yY7];rfl) ?_)
 rw[yY7,yh6]
 refine yQ5 (yq9 ?_)
 have hcomp:wp c ((evs G 39).e (zA5 354).scope (zh1 (ns.map .int)) zH3) fun q=>q=(.ownL (((ns.take 40).map (· % 10037)).map .int),zh1 (ns.map .int)):=by
  rw[yv7]
  refine zZ2 (as:=ns.take 40) (e:=D.int) (g:=fun n=>[D.int (n % 10037)]) (zA9 (xW4 c (ns.map .int) _) ⟨ndd (zB7 (by simp;lia)) (zB7 (by simp;lia)),by rw[List.map_take]⟩) xW5 (yv9 _) (fun a ha=>?_) ?_ ?_
  ·rw[yw0];exact zA9 (y86 c _ a _) ⟨rfl,rfl⟩
  ·rw[zg6];exact zB7 (by simp;lia)
  ·rw[yw0,zg6,List.map_map];rfl
 show wp c ((evs G 40).e (zA5 354).scope (zh1 (ns.map .int)) (zI2 (st 354 0))) _
 rw[y84]
 refine zD3 ?_
 unfold evalArgs
 rw[y85,if_neg (by simp)]
 refine zD3 (zC6 hcomp fun q hq=>?_)
 subst hq
 unfold evalArgs
 rw[yv8,if_neg (by simp),yh7]
 refine zD3 (zD3 (zC8 ?_))
 unfold evalArgs
 refine zC8 (zC8 (zC8 ⟨fun h=>(nomatch h),fun r h=>?_⟩))
 cases h
 exact ⟨rfl,rfl⟩
noncomputable abbrev yK7:List D:=[mkf (.tup [S "b"]),.tup [S "c"],mkg (.tup [S "b"]) (.tup [S "b"])]
theorem yw1 (c:Nat):Ok (c+1) 349 [] (.ownL yK7,none):=by unfold Ok;kernel_rfl
noncomputable def yB6:Nat→T
 | 0=>.f .b
 | 1=>.c
 | _=>.g .b .b
theorem zo1 {v:Nat} (h:v < 3):zC3 yK7 ((v:Nat):Int)=some (enc (yB6 v))∧(yB6 v).size≤3:=by
 match v,h with
 | 0,_=>exact ⟨rfl,by decide⟩
 | 1,_=>exact ⟨rfl,by decide⟩
 | 2,_=>exact ⟨rfl,by decide⟩
theorem xM7:G.fn 416=some (zA5 416):=by kernel_rfl
theorem yY8:(zA5 416).params=[Str.ofString "script"]:=by kernel_rfl
theorem yh8:stmts 416=[st 416 0,st 416 1,st 416 2,st 416 3,.For (zC1 (st 416 4)) (zD4 (st 416 4)) (zA7 (st 416 4)) [] (zL8 (st 416 4)),st 416 5,st 416 6,st 416 7,st 416 8,st 416 9]:=by kernel_rfl
noncomputable abbrev fO (cells:List D) (k:Nat):Ent:=.ownL [.list cells,.int (k:Nat)]
theorem xd2 (c:Nat) (l cells:List D) (Q:Fl×Rho→Prop):zA8 c (ex 416 (zh1 l) (st 416 0)) [.call (.ownL [.list cells,.int 0],some (.val (.list l)))] true Q =
 (Ok c 354 [.val (.list l)] (.ownL [.list cells,.int 0],some (.val (.list l)))∧true=true∧Q (.next,[nm "script" (.val (.list l)),nm "feed" (.ownL [.list cells,.int 0]),nm "told" (.ownD []),nm "some" (.ownL [])])):=by kernel_rfl
theorem xd3 (c:Nat) (l cells:List D) (v:Int) (x:D) (Q:Fl×Rho→Prop):zA8 c (ex 416 [nm "script" (.val (.list l)),nm "feed" (fO cells 0),nm "told" (.ownD []),nm "some" (.ownL [])] (st 416 1)) [.call (.ownL yK7,none),.call (.val (.int v),some (fd cells 1)),.d x] true Q =
 (Ok c 349 [] (.ownL yK7,none)∧Ok c 361 [fd cells 0,.val (.int (3:Nat))] (.val (.int v),some (fd cells 1))∧zC3 yK7 v=some x∧true=true∧Q (.next,[nm "script" (.val (.list l)),nm "feed" (fO cells 1),nm "told" (.ownD [(S "s",.tup [.tup [S "a"],x])]),nm "some" (.ownL [])])):=by kernel_rfl
theorem xd4 (c:Nat) (l cells:List D) (v:Int) (X x:D) (Q:Fl×Rho→Prop):zA8 c (ex 416 [nm "script" (.val (.list l)),nm "feed" (fO cells 1),nm "told" (.ownD [(S "s",.tup [.tup [S "a"],X])]),nm "some" (.ownL [])] (st 416 2)) [.call (.ownL yK7,none),.call (.val (.int v),some (fd cells 2)),.d x] true Q =
 (Ok c 349 [] (.ownL yK7,none)∧Ok c 361 [fd cells 1,.val (.int (3:Nat))] (.val (.int v),some (fd cells 2))∧zC3 yK7 v=some x∧true=true∧Q (.next,[nm "script" (.val (.list l)),nm "feed" (fO cells 2),nm "told" (.ownD [(S "s",.tup [.tup [S "a"],X]),(S "t",.tup [mkg (.tup [S "a"]) (.tup [S "b"]),x])]),nm "some" (.ownL [])])):=by kernel_rfl
end Mine
namespace Mine
open PySem
noncomputable abbrev tdl (X Y:D):List (D×D):=[(S "s",.tup [.tup [S "a"],X]),(S "t",.tup [mkg (.tup [S "a"]) (.tup [S "b"]),Y])]
noncomputable abbrev rL (l cells:List D) (k:Nat) (told:Ent) (sm:List D) (r:Rho):Rho:=nm "script" (.val (.list l))::nm "feed" (fO cells k)::nm "told" told::nm "some" (.ownL sm)::r
noncomputable abbrev rM (l cells:List D) (k:Nat) (told:Ent) (sm ws:List D) (r:Rho):Rho:=nm "script" (.val (.list l))::nm "feed" (fO cells k)::nm "told" told::nm "some" (.ownL sm)::nm "way" (.ownL ws)::r
theorem xd5 (c:Nat) (l cells:List D) (X Y t:D) (q:Nat) (Q:Fl×Rho→Prop):zA8 c (ex 416 (rL l cells 2 (.ownD (tdl X Y)) [] []) (st 416 3)) [.call (.val t,some (fd cells q))] true Q =
 (Ok c 368 [fd cells 2,.val (.int (2:Nat))] (.val t,some (fd cells q))∧true=true∧Q (.next,rM l cells q (.ownD (tdl X Y)) [] [t] [])):=by kernel_rfl
theorem xW6 (c:Nat) (l cells:List D) (X Y t:D) (q v:Nat) (Q:List D×Rho→Prop):zA8 c (zC0 G ((evs G 40).e (zA5 416).scope) (zA5 416).scope (zE7 (zC1 (st 416 4))) (rM l cells q (.ownD (tdl X Y)) [] [t] []) (zD4 (st 416 4))) [.call (.val (.int (v:Nat)),some (fd cells (q+1)))] true Q =
 (Ok c 361 [fd cells q,.val (.int (4:Nat))] (.val (.int (v:Nat)),some (fd cells (q+1)))∧nd [small 0&&small (1+((v:Nat):Int)),small 1&&small ((v:Nat):Int)]=true∧Q (upL 0 (1+((v:Nat):Int) - 0).toNat,rM l cells (q+1) (.ownD (tdl X Y)) [] [t] [])):=by kernel_rfl
inductive LR (X Y:D):Ent→Rho→Prop
 | z:LR X Y (.ownD (tdl X Y)) []
 | s (a b c d:D):LR X Y (.val (tdD X Y)) [nm "turn" (.val a),nm "choices" (.val b),nm "step" (.val c),nm "late" (.val d)]
inductive LQ (X Y:D) (i:D):Ent→Rho→Prop
 | z:LQ X Y i (.ownD (tdl X Y)) [nm "turn" (.val i)]
 | s (b c d:D):LQ X Y i (.val (tdD X Y)) [nm "turn" (.val i),nm "choices" (.val b),nm "step" (.val c),nm "late" (.val d)]
theorem xD4 (l cells:List D) (X Y i:D) (k:Nat) (sm ws:List D) {e:Ent} {r:Rho} (h:LR X Y e r):∃ r',LQ X Y i e r'∧zB9 (zA5 416).scope (zC1 (st 416 4)) i (rM l cells k e sm ws r)=some (rM l cells k e sm ws r'):=by
 cases h with
 | z=>exact ⟨_,.z,by kernel_rfl⟩
 | s a b c d=>exact ⟨_,.s b c d,by kernel_rfl⟩
theorem xd6 (c:Nat) (l cells:List D) (X Y i t s u:D) (q v:Nat) (ws sm ch:List D) {e:Ent} {r:Rho} (h:LQ X Y i e r) (Q:Fl×Rho→Prop):zA8 c (zB2 (ex' 416) (zA7 (st 416 4)) (rM l cells q e sm ws r)) [.d t,.call (rv (.list ch) t),.call (.val (.int (v:Nat)),some (fd cells (q+1))),.d (.tup [s,u])] true Q =
 (zC3 ws (-1)=some t∧Ok c 399 [.val t,.val (tdD X Y)] (rv (.list ch) t)∧Ok c 361 [fd cells q,.val (.int ((ch.length:Nat):Int))] (.val (.int (v:Nat)),some (fd cells (q+1)))∧zC3 ch ((v:Nat):Int)=some (.tup [s,u])∧nd [zA0 ws,zA0 sm,zA0 ch,zA0 ch,zA0 ws]=true ∧
  Q (.next,rM l cells (q+1) (.val (tdD X Y)) (sm++[s]) (ws++[u]) [nm "turn" (.val i),nm "choices" (.val (.list ch)),nm "step" (.val s),nm "late" (.val u)])):=by induction h<;>kernel_rfl
noncomputable abbrev rN (l cells:List D) (k:Nat) (X Y:D) (sm ws:List D) (a b c d:D) (r:Rho):Rho:=rM l cells k (.val (tdD X Y)) sm ws (nm "turn" (.val a)::nm "choices" (.val b)::nm "step" (.val c)::nm "late" (.val d)::r)
theorem xd7 (c:Nat) (l cells:List D) (k:Nat) (X Y a b s d:D) (sm ws:List D) (Q:Fl×Rho→Prop):zA8 c (ex 416 (rN l cells k X Y sm ws a b s d []) (st 416 5))
  [.call (.ownL z26,none),.call (.val .none,some (.newO 331 [(Str.ofString "name",S "swap"),(Str.ofString "left",mkg px py),(Str.ofString "right",mkg py px),(Str.ofString "needs",.tup [])])),.call (.val .none,some (.newO 331 [(Str.ofString "name",S "fold"),(Str.ofString "left",mkf (mkf px)),(Str.ofString "right",px),(Str.ofString "needs",.tup [])])),.call (.val .none,some (.newO 331 [(Str.ofString "name",S "move"),(Str.ofString "left",mkg (mkf px) py),(Str.ofString "right",mkg px (mkf py)),(Str.ofString "needs",.tup [])])),.call (.val .none,some (.newO 232 [(Str.ofString "rules",zj8),(Str.ofString "told",tdD X Y)]))] true Q =
 (Ok c 342 [] (.ownL z26,none)∧Ok c 321 [.newO 331 [],.val (S "swap"),.val (mkg px py),.val (mkg py px),.val (.tup [])] (.val .none,some (.newO 331 [(Str.ofString "name",S "swap"),(Str.ofString "left",mkg px py),(Str.ofString "right",mkg py px),(Str.ofString "needs",.tup [])]))∧Ok c 321 [.newO 331 [],.val (S "fold"),.val (mkf (mkf px)),.val px,.val (.tup [])] (.val .none,some (.newO 331 [(Str.ofString "name",S "fold"),(Str.ofString "left",mkf (mkf px)),(Str.ofString "right",px),(Str.ofString "needs",.tup [])]))∧Ok c 321 [.newO 331 [],.val (S "move"),.val (mkg (mkf px) py),.val (mkg px (mkf py)),.val (.tup [])] (.val .none,some (.newO 331 [(Str.ofString "name",S "move"),(Str.ofString "left",mkg (mkf px) py),(Str.ofString "right",mkg px (mkf py)),(Str.ofString "needs",.tup [])])) ∧
  Ok c 202 [.newO 232 [],.val zj8,.val (tdD X Y)] (.val .none,some (.newO 232 [(Str.ofString "rules",zj8),(Str.ofString "told",tdD X Y)]))∧true=true∧Q (.next,rN l cells k X Y sm ws a b s d [nm "judge" (.val (zA3 (tdD X Y)))])):=by kernel_rfl
theorem xW7 (c:Nat) (t:D):Ok (c+1) 202 [.newO 232 [],.val zj8,.val t] (.val .none,some (.newO 232 [(Str.ofString "rules",zj8),(Str.ofString "told",t)])):=by unfold Ok;kernel_rfl
theorem xW8 (c:Nat) (t:D):Ok (c+1) 269 [.newO 305 [],.val (zA3 t)] (.val .none,some (.newO 305 [(Str.ofString "judge",zA3 t)])):=by unfold Ok;kernel_rfl
theorem xd8 (c:Nat) (l cells:List D) (k:Nat) (X Y a b s d:D) (sm ws:List D) (Q:Fl×Rho→Prop):zA8 c (ex 416 (rN l cells k X Y sm ws a b s d [nm "judge" (.val (zA3 (tdD X Y)))]) (st 416 6)) [.call (.val .none,some (.newO 305 [(Str.ofString "judge",zA3 (tdD X Y))]))] true Q =
 (Ok c 269 [.newO 305 [],.val (zA3 (tdD X Y))] (.val .none,some (.newO 305 [(Str.ofString "judge",zA3 (tdD X Y))]))∧true=true∧Q (.next,rN l cells k X Y sm ws a b s d [nm "judge" (.val (zA3 (tdD X Y))),nm "steps" (.val (zA4 (tdD X Y)))])):=by kernel_rfl
end Mine
namespace Mine
open PySem
noncomputable abbrev rJ (l cells:List D) (k:Nat) (X Y:D) (sm ws:List D) (a b c d:D) (r:Rho):Rho:=rN l cells k X Y sm ws a b c d (nm "judge" (.val (zA3 (tdD X Y)))::nm "steps" (.val (zA4 (tdD X Y)))::r)
noncomputable def zH4:Expr:=zI2 (st 416 7)
theorem xM8:st 416 7=.Assign [.Name (Str.ofString "back") (xC3 (yq6 (st 416 7)))] (.ListComp (zc5 zH4) [⟨(zD6 zH4).target,(zD6 zH4).iter,[],0⟩] (zI0 zH4) (z24 zH4)) (yW0 (st 416 7)):=by kernel_rfl
theorem xM9:zM1 (.ListComp (zc5 zH4) [⟨(zD6 zH4).target,(zD6 zH4).iter,[],0⟩] (zI0 zH4) (z24 zH4))=none:=by kernel_rfl
theorem xW9 (c:Nat) (l cells:List D) (k:Nat) (X Y a b s d:D) (sm ws:List D) (Q:List D×Rho→Prop):zA8 c (zC0 G ((evs G 39).e (zA5 416).scope) (zA5 416).scope (zE7 (zD6 zH4).target) (rJ l cells k X Y sm ws a b s d []) (zD6 zH4).iter) [] true Q =
 (nd [zA0 sm.reverse,zA0 sm]=true∧Q (sm.reverse,(nm "script" (.val (.list l))::nm "feed" (fO cells k)::nm "told" (.val (tdD X Y))::nm "some" (.val (.list sm))::nm "way" (.ownL ws)::nm "turn" (.val a)::nm "choices" (.val b)::nm "step" (.val s)::nm "late" (.val d)::nm "judge" (.val (zA3 (tdD X Y)))::nm "steps" (.val (zA4 (tdD X Y)))::[]))):=by kernel_rfl
noncomputable abbrev rB (l cells:List D) (k:Nat) (X Y:D) (sm ws:List D) (a b s d:D) (r:Rho):Rho:=nm "script" (.val (.list l))::nm "feed" (fO cells k)::nm "told" (.val (tdD X Y))::nm "some" (.val (.list sm))::nm "way" (.ownL ws)::nm "turn" (.val a)::nm "choices" (.val b)::nm "step" (.val s)::nm "late" (.val d)::nm "judge" (.val (zA3 (tdD X Y)))::nm "steps" (.val (zA4 (tdD X Y)))::r
theorem xX0:(zI9 [⟨(zD6 zH4).target,(zD6 zH4).iter,[],0⟩]&&zF6 (zA5 416).scope (zI0 zH4))=true:=by kernel_rfl
theorem yw2 (l cells:List D) (k:Nat) (X Y a b s d:D) (sm ws:List D):zN7 (zI0 zH4) (zD6 zH4).target (zD2 (zI0 zH4) (zC4 (zI0 zH4) (rB l cells k X Y sm ws a b s d [])))=true:=by kernel_rfl
theorem yw3 (l cells:List D) (k:Nat) (X Y a b s d:D) (sm ws:List D):zC4 (zI0 zH4) (rB l cells k X Y sm ws a b s d [])=rB l cells k X Y sm ws a b s d []:=by kernel_rfl
theorem y88 (c:Nat) (l cells:List D) (k:Nat) (X Y a b s d:D) (sm ws:List D) (p q n pl:D) (bb:Bool) (Q:List D→Prop):zA8 c (z25 39 (zI0 zH4) (zc5 zH4) (zD6 zH4).target [] (zD2 (zI0 zH4) (rB l cells k X Y sm ws a b s d [])) (st5 p q n pl bb)) [] true Q=(true=true∧Q [st5 p q n pl (!bb)]):=by kernel_rfl
theorem yw4 (l cells:List D) (k:Nat) (X Y a b s d:D) (sm ws:List D):zN8 (zA5 416).scope (rB l cells k X Y sm ws a b s d []) (Str.ofString "back")=true:=by kernel_rfl
theorem xN0 (l cells:List D) (k:Nat) (X Y a b s d:D) (sm ws bs:List D):Rho.set (rB l cells k X Y sm ws a b s d []) (Str.ofString "back") (.ownL bs)=rB l cells k X Y sm ws a b s d [nm "back" (.ownL bs)]:=by kernel_rfl
theorem xd9 (c:Nat) (l cells:List D) (k:Nat) (X Y a b s d:D) (sm ws bs:List D) (Q:Fl×Rho→Prop):zA8 c (ex 416 (rB l cells k X Y sm ws a b s d [nm "back" (.ownL bs)]) (st 416 8)) [.call (rv (.bool true) (zA4 (tdD X Y))),.call (rv (.bool true) (zA4 (tdD X Y)))] true Q =
 (Ok c 411 [.val (zA4 (tdD X Y)),.val (zA3 (tdD X Y)),.val (tdD X Y),.val (.list sm),.val (.list ws)] (rv (.bool true) (zA4 (tdD X Y)))∧Ok c 411 [.val (zA4 (tdD X Y)),.val (zA3 (tdD X Y)),.val (tdD X Y),.val (.list bs),.val (.list ws.reverse)] (rv (.bool true) (zA4 (tdD X Y)))∧nd [zA0 ws]=true ∧
 Q (.next,nm "script" (.val (.list l))::nm "feed" (fO cells k)::nm "told" (.val (tdD X Y))::nm "some" (.val (.list sm))::nm "way" (.val (.list ws))::nm "turn" (.val a)::nm "choices" (.val b)::nm "step" (.val s)::nm "late" (.val d)::nm "judge" (.val (zA3 (tdD X Y)))::nm "steps" (.val (zA4 (tdD X Y)))::[nm "back" (.val (.list bs))])):=by kernel_rfl
theorem xe0 (c:Nat) (l cells:List D) (k:Nat) (X Y a b s d w:D) (sm ws bs:List D) (Q:Fl×Rho→Prop):zA8 c (zB2 (ex 416) [st 416 9] (nm "script" (.val (.list l))::nm "feed" (fO cells k)::nm "told" (.val (tdD X Y))::nm "some" (.val (.list sm))::nm "way" (.val (.list ws))::nm "turn" (.val a)::nm "choices" (.val b)::nm "step" (.val s)::nm "late" (.val d)::nm "judge" (.val (zA3 (tdD X Y)))::nm "steps" (.val (zA4 (tdD X Y)))::[nm "back" (.val (.list bs))])) [.d w,.call (rv (zF3 w) (zA4 (tdD X Y))),.d w,.b true] true Q =
 (zC3 ws (-1)=some w∧Ok c 302 [.val (zA4 (tdD X Y)),.val w,.val (.list [])] (rv (zF3 w) (zA4 (tdD X Y)))∧zC3 ws (-1)=some w∧deq (zF3 w) (zF3 w)=some true∧nd [zA0 ws,zA0 ws]=true ∧
 Q (.ret (.val (.bool true)),nm "script" (.val (.list l))::nm "feed" (fO cells k)::nm "told" (.val (tdD X Y))::nm "some" (.val (.list sm))::nm "way" (.val (.list ws))::nm "turn" (.val a)::nm "choices" (.val b)::nm "step" (.val s)::nm "late" (.val d)::nm "judge" (.val (zA3 (tdD X Y)))::nm "steps" (.val (zA4 (tdD X Y)))::[nm "back" (.val (.list bs))])):=by kernel_rfl
end Mine
namespace Mine
open PySem
structure SubRep (p:List Nat) (t s v:T):Prop where
 sub:sub (rep t p v) p=some v
 rep:rep (rep t p v) p s=t
 size:(Mine.rep t p v).size+s.size=t.size+v.size
 le:s.size≤t.size
 len:p.length < t.size
theorem yY9 (p:List Nat):∀ (t s v:T),sub t p=some s→SubRep p t s v:=by
 induction p with
 | nil =>
  intro t s v h
  obtain rfl:=Option.some.inj ((zJ2 t).symm.trans h)
  exact ⟨rfl,rfl,Nat.add_comm _ _,Nat.le_refl _,zZ6 t⟩
 | cons k p ih =>
  intro t s v h
  refine zN3 (C:=fun t k=>SubRep (k::p) t s v) h (fun x h=>?_) (fun x y h=>?_) (fun x y h=>?_)
  ·have g:=ih x s v h
   exact ⟨g.sub,congrArg T.f g.rep,by show T.size _+1+_=T.size _+1+_;have:=g.size;lia,Nat.le_succ_of_le g.le,Nat.succ_lt_succ g.len⟩
  ·have g:=ih x s v h
   exact ⟨g.sub,congrArg (T.g · y) g.rep,by show T.size _+T.size _+1+_=T.size _+T.size _+1+_;have:=g.size;lia,Nat.le_succ_of_le (Nat.le_trans g.le (Nat.le_add_right _ _)),Nat.succ_lt_succ (Nat.lt_of_lt_of_le g.len (Nat.le_add_right _ _))⟩
  ·have g:=ih y s v h
   exact ⟨g.sub,congrArg (T.g x) g.rep,by show T.size _+T.size _+1+_=T.size _+T.size _+1+_;have:=g.size;lia,Nat.le_succ_of_le (Nat.le_trans g.le (Nat.le_add_left _ _)),Nat.succ_lt_succ (Nat.lt_of_lt_of_le g.len (Nat.le_add_left _ _))⟩
theorem yh9 {X Y t u:T} {s:Stp} (h:zJ5 X Y t s u):zJ5 X Y u s.turn t:=by
 have h1:=h.1;obtain rfl:=h.2;try clear h
 have g:=yY9 s.path t _ (s.dst X Y) h1
 have e1:s.turn.src X Y=s.dst X Y:=by unfold Stp.turn Stp.src Stp.dst;cases s.back<;>rfl
 have e2:s.turn.dst X Y=s.src X Y:=by unfold Stp.turn Stp.src Stp.dst;cases s.back<;>rfl
 unfold zJ5
 rw[e1,e2]
 exact ⟨g.sub,g.rep.symm⟩
theorem y89 {X Y:T} (hX:X.size≤3) (hY:Y.size≤3) (a:Ax):(a.l X Y).size≤(a.r X Y).size+2∧(a.r X Y).size≤(a.l X Y).size+2:=by
 have:=zZ6 X
 have:=zZ6 Y
 cases a<;>simp only[Ax.l,Ax.r,T.size]<;>lia
theorem yw5 {X Y:T} (a:Ax) (h:(a.l X Y).size≤300):a.small:=by
 cases a with
 | swap x y=>simp only[Ax.l,T.size] at h;exact ⟨by lia,by lia⟩
 | fold x=>simp only[Ax.l,T.size] at h;show T.size _≤_;lia
 | move x y=>simp only[Ax.l,T.size] at h;exact ⟨by lia,by lia⟩
 | s=>trivial
 | t=>trivial
theorem yi0 {X Y t u:T} {s:Stp} (hX:X.size≤3) (hY:Y.size≤3) (h:zJ5 X Y t s u) (ht:t.size≤13):u.size≤t.size+2∧Sb X Y s∧s.path.length≤20:=by
 have h1:=h.1;obtain rfl:=h.2;try clear h
 have g:=yY9 s.path t _ (s.dst X Y) h1
 have h3:=g.size
 have h4:=g.len
 have hs:=g.le
 have Y0:=y89 hX hY s.ax;have g1:=Y0.1;have g2:=Y0.2;try clear Y0
 have hd:(s.dst X Y).size≤(s.src X Y).size+2∧(s.ax.l X Y).size≤15∧(s.ax.r X Y).size≤15:=by
  unfold Stp.dst Stp.src at *
  cases hb:s.back<;>simp only[hb] at *<;>simp only[Bool.false_eq_true,if_false,if_true] at *<;>lia
 exact ⟨by lia,⟨by lia,by lia,by lia,yw5 (X:=X) (Y:=Y) s.ax (by lia)⟩,by lia⟩
theorem z33:∀ (t:T) (ts:List T) (u:T),zG3 t (ts++[u])=u
 | t,[],u=>rfl
 | t,v::ts,u=>z33 v ts u
theorem zv1 {X Y:T}:∀ (sts:List Stp) (t:T) (ts:List T) (s:Stp) (u:T),Run X Y t sts ts→zJ5 X Y (zG3 t ts) s u→Run X Y t (sts++[s]) (ts++[u])
 | [],t,ts,s,u,h,hs=>by
  obtain rfl:ts=[]:=h
  exact ⟨u,[],rfl,hs,rfl⟩
 | s'::sts,t,ts,s,u,⟨v,vs,e,h1,h2⟩,hs=>by
  subst e
  exact ⟨v,vs++[u],rfl,h1,zv1 sts v vs s u h2 hs⟩
theorem yZ0 {X Y:T}:∀ (sts:List Stp) (t:T) (ts:List T),Run X Y t sts ts→∃ rs,(t::ts).reverse=zG3 t ts::rs∧Run X Y (zG3 t ts) (sts.reverse.map Stp.turn) rs∧zG3 (zG3 t ts) rs=t
 | [],t,ts,h=>by
  obtain rfl:ts=[]:=h
  exact ⟨[],rfl,rfl,rfl⟩
 | s::sts,t,ts,⟨u,us,e,h1,h2⟩=>by
  subst e
  refine xe (yZ0 sts u us h2) fun rs Y0=>?_;have e1:=Y0.1;have e2:=Y0.2.1;have e3:=Y0.2.2;try clear Y0
  refine ⟨rs++[t],?_,?_,z33 _ _ _⟩
  ·rw[List.reverse_cons,e1];rfl
  ·rw[List.reverse_cons,List.map_append]
   exact zv1 _ _ rs s.turn t e2 (by rw[show zG3 t (u::us)=zG3 u us from rfl,e3];exact yh9 h1)
end Mine
namespace Mine
open PySem
structure LI (X Y t0:T) (sts:List Stp) (ts:List T) (j:Nat):Prop where
 len:sts.length=j
 run:Run X Y t0 sts ts
 sz:∀ u∈t0::ts,u.size≤5+2 * j
 sb:∀ s∈sts,Sb X Y s∧s.path.length≤20
inductive LInv (l cells:List D) (X Y t0:T) (p0:Nat):Nat→Rho→Prop
 | z:LI X Y t0 [] [] 0→LInv l cells X Y t0 p0 0 (rM l cells (p0+0) (.ownD (tdl (enc X) (enc Y))) [] [enc t0] [])
 | s (j:Nat) (sts:List Stp) (ts:List T) (a b c d:D):LI X Y t0 sts ts (j+1)→LInv l cells X Y t0 p0 (j+1) (rN l cells (p0+(j+1)) (enc X) (enc Y) (sts.map zA6) ((t0::ts).map enc) a b c d [])
inductive LAx (l cells:List D) (X Y t0:T) (p0 j:Nat) (i:D):Rho→Prop
 | mk (sts:List Stp) (ts:List T) (e:Ent) (r:Rho):LI X Y t0 sts ts j→LQ (enc X) (enc Y) i e r→LAx l cells X Y t0 p0 j i (rM l cells (p0+j) e (sts.map zA6) ((t0::ts).map enc) r)
theorem LInv.as {l cells:List D} {X Y t0:T} {p0 j:Nat} {ρ:Rho} (h:LInv l cells X Y t0 p0 j ρ) (i:D):∃ ρ1,LAx l cells X Y t0 p0 j i ρ1∧zB9 (zA5 416).scope (zC1 (st 416 4)) i ρ=some ρ1:=by
 induction h with
 | z h=>exact (xD4 l cells (enc X) (enc Y) i (p0+0) [] [enc t0] .z).elim fun r g=>⟨_,.mk [] [] _ r h g.1,g.2⟩
 | s j sts ts a b c d h=>exact (xD4 l cells (enc X) (enc Y) i (p0+(j+1)) (sts.map zA6) ((t0::ts).map enc) (.s a b c d)).elim fun r g=>⟨_,.mk sts ts _ r h g.1,g.2⟩
theorem LI.snoc {X Y t0 u:T} {sts:List Stp} {ts:List T} {j:Nat} {s:Stp} (h:LI X Y t0 sts ts j) (hX:X.size≤3) (hY:Y.size≤3) (hj:j < 4) (hs:zJ5 X Y (zG3 t0 ts) s u):LI X Y t0 (sts++[s]) (ts++[u]) (j+1) :=
 have hz:=h.sz _ (zh0 t0 ts)
 have g:=yi0 hX hY hs (Nat.le_trans hz (by lia))
 ⟨by rw[List.length_append,h.len];rfl,zv1 sts t0 ts s u h.run hs,List.forall_mem_append.mpr ⟨fun w hw=>Nat.le_trans (h.sz w hw) (by lia),List.forall_mem_singleton.mpr (Nat.le_trans g.1 (by lia))⟩,List.forall_mem_append.mpr ⟨h.sb,List.forall_mem_singleton.mpr g.2⟩⟩
theorem y90 {ch:List D} {v:Nat} (h:v < ch.length):zC3 ch ((v:Nat):Int)=some ch[v]:=by
 unfold zC3 idx
 rw[if_pos (by lia),if_pos (by lia)]
 exact List.getElem?_eq_getElem h
theorem yw6 {ns:List Int} {l:List D} {X Y t0:T} {p0 j:Nat} {sts:List Stp} {ts:List T} {e:Ent} {r:Rho} {i:D} (hn:ns.length≤1000) (hX:X.size≤3) (hY:Y.size≤3) (hp:p0≤100) (hj:j < 4) (h:LI X Y t0 sts ts j) (hq:LQ (enc X) (enc Y) i e r) :
  wp 99 (zB2 (ex' 416) (zA7 (st 416 4)) (rM l (ns.map .int) (p0+j) e (sts.map zA6) ((t0::ts).map enc) r)) fun x=>x.1=.next∧LInv l (ns.map .int) X Y t0 p0 (j+1) x.2:=by
 have htl:=h.sz _ (zh0 t0 ts)
 refine xe (yR1 X Y (zG3 t0 ts) 98 (by lia) (by lia) (by lia) ⟨by lia,by lia,by lia⟩) fun ch Y0=>?_;have c1:=Y0.1;have c2:=Y0.2.1;have c3:=Y0.2.2.1;have c4:=Y0.2.2.2;try clear Y0
 refine xe (ze3 ns (p0+j) ch.length 98 (by lia) hn (List.length_pos_iff.mpr c2) (by lia)) fun v Y0=>?_;have v1:=Y0.1;have v2:=Y0.2;try clear Y0
 refine xe (c1 ch[v] (List.getElem_mem v1)) fun s Y0=>?_;refine xe Y0 fun u Y1=>?_;have h1:=Y1.1;have h2:=Y1.2;try clear Y0 Y1
 have sw:zA0 ((t0::ts).map enc)=true:=zB7 (by rw[List.length_map,List.length_cons,yB5 X Y sts t0 ts h.run,h.len];lia)
 have ss:zA0 (sts.map zA6)=true:=zB7 (by rw[List.length_map,h.len];lia)
 have sc:zA0 ch=true:=zB7 (by lia)
 have g:=LInv.s (l:=l) (cells:=ns.map .int) (p0:=p0) j (sts++[s]) (ts++[u]) i (.list ch) (zA6 s) (enc u) (h.snoc hX hY hj h2)
 rw[List.map_append,← List.cons_append,List.map_append] at g
 exact zA9 (xd6 99 l (ns.map .int) (enc X) (enc Y) i (enc (zG3 t0 ts)) (zA6 s) (enc u) (p0+j) v _ _ ch hq _) ⟨zb4 t0 ts,c4,v2,(y90 v1).trans (congrArg some h1),nd5 sw ss sc sc sw,rfl,g⟩
theorem yw7 {ns:List Int} {l:List D} {X Y t0:T} {p0 j:Nat} {ρ:Rho} {i:D} (hn:ns.length≤1000) (hX:X.size≤3) (hY:Y.size≤3) (hp:p0≤100) (hj:j < 4) (h:LInv l (ns.map .int) X Y t0 p0 j ρ) :
  ∃ ρ1,zB9 (zA5 416).scope (zC1 (st 416 4)) i ρ=some ρ1∧wp 99 (zB2 (ex' 416) (zA7 (st 416 4)) ρ1) fun x=>x.1=.next∧LInv l (ns.map .int) X Y t0 p0 (j+1) x.2 :=
 (h.as i).elim fun ρ1 g=>⟨ρ1,g.2,by
  have k:=g.1
  induction k with
  | mk sts ts e r h' hq=>exact yw6 hn hX hY hp hj h' hq⟩
noncomputable abbrev JD (X Y:T):D:=zA3 (tdD (enc X) (enc Y))
theorem y91 {c:Nat} {exs:Rho→Stmt→Prc (Fl×Rho)} {s:Stmt} {ss:List Stmt} {ρ ρ':Rho} {Q:Fl×Rho→Prop} (h:wp c (exs ρ s) (·=(.next,ρ'))) (k:wp c (zB2 exs ss ρ') Q):wp c (zB2 exs (s::ss) ρ) Q :=
 zC2 (zC6 h fun p e=>e▸⟨rfl,k⟩)
structure Good (X Y t:T) (sts:List Stp) (ts:List T):Prop where
 run:Run X Y t sts ts
 sb:∀ s∈sts,Sb X Y s∧s.path.length≤20
 sz:∀ u∈t::ts,u.size≤300
 len:sts.length≤4
 pos:0 < sts.length
theorem Good.rt {X Y t:T} {sts:List Stp} {ts:List T} (g:Good X Y t sts ts):Ok 50 411 [.val (SO X Y),.val (JD X Y),.val (tdD (enc X) (enc Y)),.val (.list (sts.map zA6)),.val (.list ((t::ts).map enc))] (rv (.bool true) (SO X Y)):=by
 cases sts with
 | nil=>exact absurd g.pos (Nat.lt_irrefl _)
 | cons s sts=>exact yv6 X Y g.run (fun x hx=>(g.sb x hx).1) (fun x hx=>(g.sb x hx).2) g.sz g.len
theorem Good.rev {X Y t:T} {sts:List Stp} {ts:List T} (g:Good X Y t sts ts):∃ rs,(t::ts).reverse=zG3 t ts::rs∧Good X Y (zG3 t ts) (sts.reverse.map Stp.turn) rs :=
 (yZ0 sts t ts g.run).elim fun rs r=>⟨rs,r.1,r.2.1,fun x hx=>by
  refine xe (List.mem_map.mp hx) fun y Y0=>?_;have hy:=Y0.1;obtain rfl:=Y0.2;try clear Y0
  exact g.sb y (List.mem_reverse.mp hy),fun u hu=>g.sz u (List.mem_reverse.mp (r.1▸hu)),by rw[List.length_map,List.length_reverse];exact g.len,by rw[List.length_map,List.length_reverse];exact g.pos⟩
theorem Good.rt' {X Y t:T} {sts:List Stp} {ts:List T} (g:Good X Y t sts ts):Ok 50 411 [.val (SO X Y),.val (JD X Y),.val (tdD (enc X) (enc Y)),.val (.list ((sts.reverse.map Stp.turn).map zA6)),.val (.list ((t::ts).map enc).reverse)] (rv (.bool true) (SO X Y)) :=
 g.rev.elim fun rs r=>by rw[← List.map_reverse,r.1];exact r.2.rt
theorem yw8 (l cells:List D) (k:Nat) (X Y a b s d:D) (sts:List Stp) (ws:List D) (h:sts.length≤4):wp 99 (ex 416 (rJ l cells k X Y (sts.map zA6) ws a b s d []) (st 416 7)) (·=(.next,rB l cells k X Y (sts.map zA6) ws a b s d [nm "back" (.ownL ((sts.reverse.map Stp.turn).map zA6))])):=by
 have hb:(sts.reverse.map fun s=>[zA6 s.turn]).flatten=(sts.reverse.map Stp.turn).map zA6:=by rw[zg6,List.map_map];rfl
 have ss:zA0 (sts.map zA6)=true:=zB7 (by rw[List.length_map];lia)
 have sr:zA0 (sts.map zA6).reverse=true:=zB7 (by rw[List.length_reverse,List.length_map];lia)
 rw[xM8]
 refine yq8 xM9 ?_
 refine zZ2 (as:=sts.reverse) (e:=zA6) (g:=fun s=>[zA6 s.turn]) (zA9 (xW9 99 _ _ _ _ _ _ _ _ _ _ _ _) ⟨ndd sr ss,by rw[List.map_reverse]⟩) xX0 (yw2 _ _ _ _ _ _ _ _ _ _ _) (fun s hs=>?_) ?_ ?_
 ·rw[yw3];exact zA9 (y88 99 _ _ _ _ _ _ _ _ _ _ _ (zF2 s.path) _ _ _ _ _) ⟨rfl,rfl⟩
 ·rw[hb];exact zB7 (by rw[List.length_map,List.length_map,List.length_reverse];lia)
 ·rw[yw3,hb]
  exact ⟨yw4 _ _ _ _ _ _ _ _ _ _ _,congrArg (Prod.mk Fl.next) (xN0 ..)⟩
theorem yw9 (t:T) (h:t.size≤300):deq (zF3 (enc t)) (zF3 (enc t))=some true:=by
 refine zT9 (p:=.tuple [pS "same",pyT t]) ?_ ?_
 ·have k:=so "same" (by decide +kernel)
  rw[show zG9 (.tup [S "same",enc t])=(zK0 [S "same",enc t]).map .tuple by simp only[zG9]]
  simp only[zK0,k,zI6,Option.bind_some,Option.map_some]
 ·have:=zL9 t
  simp only[PyData.depth,PyData.depthAll,pS];lia
theorem yx0 {l cells:List D} {k:Nat} {X Y t0:T} {sts:List Stp} {ts:List T} {a b s d:D} {Q:Fl×Rho→Prop} (g:Good X Y t0 sts ts) (hQ:∀ x,Q (.ret (.val (.bool true)),nm "script" (.val (.list l))::x)) :
  wp 99 (zB2 (ex 416) [st 416 5,st 416 6,st 416 7,st 416 8,st 416 9] (rN l cells k (enc X) (enc Y) (sts.map zA6) ((t0::ts).map enc) a b s d [])) Q:=by
 have sw:zA0 ((t0::ts).map enc)=true:=zB7 (by rw[List.length_map,List.length_cons,yB5 X Y sts t0 ts g.run];have:=g.len;lia)
 have P0:=(zv0 X Y 21 (by decide) [] (zG3 t0 ts) [] rfl (by decide) (by decide) (fun uu h=>nomatch h)).up (c':=99) (by decide)
 refine zC2 (zA9 (xd7 99 _ _ _ _ _ _ _ _ _ _ _ _) ⟨yW1 98,xJ3 89,xJ4 89,xJ5 89,xW7 98 _,rfl,rfl,?_⟩)
 refine zC2 (zA9 (xd8 99 _ _ _ _ _ _ _ _ _ _ _ _) ⟨xW8 98 _,rfl,rfl,?_⟩)
 refine y91 (yw8 l cells k (enc X) (enc Y) a b s d sts _ g.len) ?_
 refine zC2 (zA9 (xd9 99 _ _ _ _ _ _ _ _ _ _ _ _ _) ⟨g.rt.up (by decide),g.rt'.up (by decide),nd1 sw,rfl,?_⟩)
 exact zA9 (xe0 99 _ _ _ _ _ _ _ _ _ (enc (zG3 t0 ts)) _ _ _ _) ⟨zb4 t0 ts,P0,zb4 t0 ts,yw9 _ (g.sz _ (zh0 t0 ts)),ndd sw sw,hQ _⟩
theorem LI.good {X Y t0:T} {sts:List Stp} {ts:List T} {j:Nat} (h:LI X Y t0 sts ts (j+1)) (hj:j < 4):Good X Y t0 sts ts:=⟨h.run,h.sb,fun u hu=>Nat.le_trans (h.sz u hu) (by lia),by rw[h.len];exact hj,by rw[h.len];exact Nat.succ_pos _⟩
theorem LInv.fin {l cells:List D} {X Y t0:T} {p0 n:Nat} {ρ:Rho} {Q:Fl×Rho→Prop} (h:LInv l cells X Y t0 p0 n ρ) (hn:0 < n) (hn4:n≤4) (hQ:∀ x,Q (.ret (.val (.bool true)),nm "script" (.val (.list l))::x)):wp 99 (zB2 (ex 416) [st 416 5,st 416 6,st 416 7,st 416 8,st 416 9] ρ) Q:=by
 induction h with
 | z=>exact absurd hn (Nat.lt_irrefl _)
 | s j sts ts a b c d h=>exact yx0 (h.good hn4) hQ
theorem yx1 {l:List D} {cs:List Int} {X Y t0:T} {q v3:Nat} {Q:Fl×Rho→Prop} (hn:cs.length≤1000) (hX:X.size≤3) (hY:Y.size≤3) (hq:q+1≤100) (hv:v3 < 4) (ht:t0.size≤5) (hQ:∀ x,Q (.ret (.val (.bool true)),nm "script" (.val (.list l))::x)) :
  wp 99 (zc8 (zB9 (zA5 416).scope (zC1 (st 416 4))) (fun ρ'=>zB2 (ex' 416) (zA7 (st 416 4)) ρ') (upL 0 (1+((v3:Nat):Int) - 0).toNat) (rM l (cs.map .int) (q+1) (.ownD (tdl (enc X) (enc Y))) [] [enc t0] [])) fun p=>p.1=.next∧wp 99 (zB2 (ex 416) [st 416 5,st 416 6,st 416 7,st 416 8,st 416 9] p.2) Q:=by
 have hul:(upL 0 (1+((v3:Nat):Int) - 0).toNat).length=v3+1:=by unfold upL;rw[List.length_map,List.length_range];lia
 refine zC6 (zg5 (Inv:=LInv l (cs.map .int) X Y t0 (q+1)) _ 0 _ (.z ⟨rfl,rfl,List.forall_mem_singleton.mpr ht,fun uu h=>nomatch h⟩) fun j d ρ hj hi=>?_) fun x hx=>⟨hx.1,?_⟩
 ·rw[Nat.zero_add] at hi ⊢
  have hjl:=(List.getElem?_eq_some_iff.mp hj).1
  rw[hul] at hjl
  exact yw7 hn hX hY hq (Nat.lt_of_lt_of_le hjl hv) hi
 ·have h2:=hx.2
  rw[Nat.zero_add,hul] at h2
  exact h2.fin (Nat.succ_pos _) hv hQ
theorem yi1 (ns:List Int) (h:ns.length≤63):∃ e,Ok 100 416 [.val (.list (ns.map .int))] (.val (.bool true),e):=by
 have hn:((ns.take 40).map (· % 10037)).length≤1000:=by rw[List.length_map,List.length_take];exact Nat.le_trans (Nat.min_le_left _ _) (by decide)
 have hfeed:=y87 ns 98 h
 generalize (ns.take 40).map (· % 10037)=cs at hn hfeed
 refine xe (ze3 cs 0 3 98 (by decide) hn (by decide) (by decide)) fun v1 Y0=>?_;have b1:=Y0.1;have d1:=Y0.2;try clear Y0
 refine xe (ze3 cs 1 3 98 (by decide) hn (by decide) (by decide)) fun v2 Y0=>?_;have b2:=Y0.1;have d2:=Y0.2;try clear Y0
 refine xe (ye6 cs 2 95 (by decide) hn) fun t0 Y0=>?_;refine xe Y0 fun q Y1=>?_;have ht0:=Y1.1;have hq:=Y1.2.1;have d3:=Y1.2.2;try clear Y0 Y1
 refine xe (ze3 cs q 4 98 (by lia) hn (by decide) (by decide)) fun v3 Y0=>?_;have b3:=Y0.1;have d4:=Y0.2;try clear Y0
 have fin:wp 99 (zC7 G (zA5 416) [.val (.list (ns.map .int))]) fun r=>∃ e,r=(.val (.bool true),e):=by
  refine zH9 (by rw[yY8];rfl) ?_
  rw[yY8,yh8]
  refine zC2 (zA9 (xd2 99 (ns.map .int) (cs.map .int) _) ⟨hfeed,rfl,rfl,?_⟩)
  refine zC2 (zA9 (xd3 99 _ (cs.map .int) _ (enc (yB6 v1)) _) ⟨yw1 98,d1,(zo1 b1).1,rfl,rfl,?_⟩)
  refine zC2 (zA9 (xd4 99 _ (cs.map .int) _ (enc (yB6 v1)) (enc (yB6 v2)) _) ⟨yw1 98,d2,(zo1 b2).1,rfl,rfl,?_⟩)
  refine zC2 (zA9 (xd5 99 _ (cs.map .int) (enc (yB6 v1)) (enc (yB6 v2)) (enc t0) q _) ⟨d3,rfl,rfl,?_⟩)
  exact zC2 (zN9 (zA9 (xW6 99 _ (cs.map .int) (enc (yB6 v1)) (enc (yB6 v2)) (enc t0) q v3 _) ⟨d4,ndd (two rfl (zT8 (by lia))) (two rfl (zT8 (by lia))),yx1 hn (zo1 b1).2 (zo1 b2).2 (by lia) b3 ht0 fun x=>⟨rfl,_,rfl⟩⟩))
 exact (xC4 xM7 fin).elim fun r g=>g.2.elim fun e k=>⟨e,k▸g.1⟩
end Mine
namespace Mine
open PySem PySem.W PyProof.Rows PySem.Calls PySem.Builtin
theorem zk0 {x y:Str} {c:Addr} {acc:List (Str×Addr)} (h:(acc.lookup x).isSome=true):(((y,c)::acc).lookup x).isSome=true:=by
 rw[List.lookup_cons]
 cases x == y with
 | true=>rfl
 | false=>exact h
theorem zy9 {x:Str} (names:List (Str×NameKind)):∀ (n:Nat) (acc:List (Str×Addr)),(acc.lookup x).isSome=true→((cellsFrom n names acc).lookup x).isSome=true:=by
 induction names with
 | nil=>exact fun n acc h=>h
 | cons p r ih =>
  obtain ⟨y,k⟩:=p
  cases k with
  | cell=>exact fun n acc h=>ih _ _ (zk0 h)
  | _=>exact fun n acc h=>ih _ _ h
theorem zz0 {x:Str} (names:List (Str×NameKind)):∀ (n:Nat) (acc:List (Str×Addr)),names.lookup x=some .cell→((cellsFrom n names acc).lookup x).isSome=true:=by
 induction names with
 | nil=>exact fun n acc h=>nS h
 | cons p r ih =>
  obtain ⟨y,k⟩:=p
  intro n acc h
  rw[List.lookup_cons] at h
  cases hy:x == y with
  | true =>
   rw[hy] at h
   obtain rfl:=Option.some.inj h
   exact zy9 r _ _ (by rw[List.lookup_cons,hy];rfl)
  | false =>
   rw[hy] at h
   cases k with
   | cell=>exact ih _ _ h
   | _=>exact ih _ _ h
theorem zv2 {a b:Bool} (h:(a&&b)=true):a=true∧b=true:=Bool.and_eq_true_iff.mp h
structure And6 (a b c d e f:Bool):Prop where
 a:a=true
 b:b=true
 c:c=true
 d:d=true
 e:e=true
 f:f=true
theorem yT1 {a b c d e f:Bool} (h:(a&&b&&c&&d&&e&&f)=true):And6 a b c d e f :=
 have h5:=zv2 h
 have h4:=zv2 h5.1
 have h3:=zv2 h4.1
 have h2:=zv2 h3.1
 have h1:=zv2 h2.1
 ⟨h1.1,h1.2,h2.2,h3.2,h4.2,h5.2⟩
theorem zQ0 {α:Type} {l:List α} {p:α→Bool} (h:l.all p=true) {a:α} (ha:a∈l):p a=true:=List.all_eq_true.mp h a ha
noncomputable def xN1 (F:Fn):Bool :=
 (!F.scope.isCoroutine&&!F.scope.isGenerator&&F.scope.kind == .function) &&
 F.params.all (fun x=>F.scope.names.lookup x == some .local || F.scope.names.lookup x == some .cell) &&
 decide F.params.Nodup &&
 F.scope.names.all (fun p=>p.2 != .free) &&
 F.scope.names.all (fun p=>p.1 != ("__debug__":Str)&&p.1 != ("__classdict__":Str))&&decide (F.params.length≤5)
theorem nb {b:Bool} (h:(!b)=true):b=false:=by
 cases b with
 | false=>rfl
 | true=>exact h.symm
theorem yB7 {α:Type} {o:Option α} {p:α→Bool} (h:o.any p=true):∃ a,o=some a∧p a=true:=by
 cases o with
 | none=>cases h
 | some a=>exact ⟨a,rfl,h⟩
noncomputable def yx2:Data→Option FuncData
 | .func fd=>some fd
 | _=>none
noncomputable def yZ1:Data→Option (Array Value)
 | .fields vs=>some vs
 | _=>none
noncomputable def xD5:Value→Option Addr
 | .ref c=>some c
 | _=>none
noncomputable def xD6:Value→Option Str
 | .str q _=>some q
 | _=>none
theorem yK8 {d:Data} {fd:FuncData} (h:yx2 d=some fd):d=.func fd:=by
 cases d with
 | func g=>exact congrArg Data.func (Option.some.inj h)
 | _=>exact nS h
theorem yB8 {d:Data} {vs:Array Value} (h:yZ1 d=some vs):d=.fields vs:=by
 cases d with
 | fields g=>exact congrArg Data.fields (Option.some.inj h)
 | _=>exact nS h
theorem yT2 {v:Value} {c:Addr} (h:xD5 v=some c):v=.ref c:=by
 cases v with
 | ref g=>exact congrArg Value.ref (Option.some.inj h)
 | _=>exact nS h
theorem yT3 {v:Value} {q:Str} (h:xD6 v=some q):∃ t,v=.str q t:=by
 cases v with
 | str g t=>exact ⟨t,congrArg (Value.str · t) (Option.some.inj h)⟩
 | _=>exact nS h
noncomputable def y92 (K:Frag) (f:Addr):Option FuncData:=(K.lookup f).bind fun o=>yx2 o.data
noncomputable def yK9 (K:Frag) (fd:FuncData):Option Str:=(xD5 fd.code).bind fun c=>(K.lookup c).bind fun o=>(yZ1 o.data).bind fun vs=>(vs[1]?:Option Value).bind xD6
theorem yT4 {α:Type} {k:Addr} {v:α} {l:List (Addr×α)}:l.lookup k=some v→(k,v)∈l:=by
 induction l with
 | nil=>exact nS
 | cons p r ih =>
  obtain ⟨a,b⟩:=p
  intro h
  rw[List.lookup_cons] at h
  cases e:k == a with
  | true =>
   rw[e] at h
   rw[beq_iff_eq.mp e,Option.some.inj h]
   exact .head _
  | false =>
   rw[e] at h
   exact .tail _ (ih h)
noncomputable def zW1:List Addr:=xB5.map (·.1)
theorem y93 {K:Frag} {fd:FuncData} (h:yK9 K fd=some fd.qualname):∃ c oc vs t,fd.code=.ref c∧K.lookup c=some oc∧oc.data=.fields vs∧(vs[1]?:Option Value)=some (.str fd.qualname t) :=
 obk h fun c h1 h=>obk h fun o h2 h=>obk h fun vs h3 h=>obk h fun v h4 h=>(yT3 h).elim fun t e=>⟨c,o,vs,t,yT2 h1,h2,yB8 h3,e▸h4⟩
theorem zv3 {f:Addr} {F:Fn} (h:fns f=some F):f∈zW1:=by
 obtain ⟨p,e,_⟩:=Option.bind_eq_some_iff.mp h
 exact List.mem_map.mpr ⟨(f,p),yT4 e,rfl⟩
theorem xN2:(zW1.all fun f=>(fns f).any xN1)=true:=by kernel_rfl
noncomputable def xX1 (n:Nat):List Addr:=zW1.filter fun f=>match fns f with | some F=>F.params.length == n | none=>false
noncomputable def z34:List (Addr×Str):=yj8.flatMap fun p=>p.2.map fun x=>(p.1,x)
noncomputable def yx3 (K:Frag) (c:Addr) (x:Str):Bool :=
 (plainGet K c x&&hasDictIn K c&&((findIn K (.ref c) x).any (noGet K))) &&
 findIn K (.ref c) "__setattr__" == some (some (.builtin "object.__setattr__"))&&plainOver K c&&takerIn K c x == some none&&(clsIn K c).any (·.hasDict)
noncomputable def yL0:List (Addr×Str×Addr):=yU4.flatMap fun c=>c.2.map fun p=>(c.1,p.1,p.2)
noncomputable def y94 (K:Frag) (c:Addr) (m:Str) (g:Addr):Bool:=keepIn K (.ref g)&&plainGet K c m&&findIn K (.ref c) m == some (some (.ref g))&&isFn K (.ref g)&&keepIn K (.ref c)&&makesIn K c
noncomputable def yT5:Value→Bool
 | .ref _=>true
 | _=>false
noncomputable def xe1:List (Str×Value):=yC9.filter fun p=>yT5 p.2
noncomputable def y95:List (Str×Value):=yC9.filter fun p=>!yT5 p.2
noncomputable def zo2 (K:Frag):Bool :=
 (zW1.all fun f=>(y92 K f).any fun fd=>yK9 K fd == some fd.qualname)&&(z34.all fun p=>yx3 K p.1 p.2) &&
 (yL0.all fun p=>y94 K p.1 p.2.1 p.2.2)&&(zW1.all fun f=>keepIn K (.ref f)) &&
 (xe1.all fun p=>nsIn K mainGlobals p.1 == some (some p.2))&&(y95.all fun p=>nsIn K mainGlobals p.1 == some none)
noncomputable def yx4 (K:Frag) (f:Addr):=(y92 K f).map fun fd=>(fd.scope,fd.body,fd.closure,fd.globals,fd.builtins)
noncomputable def yx5 (f:Addr):=(fns f).map fun F=>(F.scope,FuncBody.stmts F.body,([]:List (Str×Addr)),mainGlobals,builtinsNs)
noncomputable def ze8 (K:Frag) (vs:List Value):=(xX1 vs.length).map fun f=>(y92 K f).map fun fd=>bindArgs fd ⟨vs,[]⟩
noncomputable def ze9 (vs:List Value):=(xX1 vs.length).map fun f=>(fns f).map fun F=>(pure (F.params.zip vs):Sem (List (Str×Value)))
noncomputable def yi2 (K:Frag):=(zo2 K,zW1.map (yx4 K),ze8 K [],
 fun a b c d e=>(ze8 K [a],ze8 K [a,b],ze8 K [a,b,c],ze8 K [a,b,c,d],ze8 K [a,b,c,d,e]))
noncomputable def z35:=(true,zW1.map yx5,ze9 [],
 fun a b c d e=>(ze9 [a],ze9 [a,b],ze9 [a,b,c],ze9 [a,b,c,d],ze9 [a,b,c,d,e]))
noncomputable def yB9 (h:Heap):Frag:=(List.range 417).filterMap fun a=>(h.get? a).map fun o=>(a,o)
theorem yi3 (h:Heap):(yB9 h).In h:=by
 intro a o e
 have hm:=yT4 e
 unfold yB9 at hm
 obtain ⟨b,_,hb⟩:=List.mem_filterMap.mp hm
 obtain ⟨o',h1,h2⟩:=Option.map_eq_some_iff.mp hb
 cases h2
 exact h1
section
variable {K:Frag} (hc:yi2 K=z35)
include hc
theorem y96 {f:Addr} {F:Fn} {fd:FuncData} (h:fns f=some F) (hf:y92 K f=some fd) (vals:List Value) (hl:vals.length=F.params.length) (h5:F.params.length≤5):bindArgs fd ⟨vals,[]⟩=pure (F.params.zip vals):=by
 have e:ze8 K vals=ze9 vals:=by
  have c2:=congrArg (·.2.2) hc
  rw[← hl] at h5
  match vals,h5 with
  | [],_=>exact congrArg (·.1) c2
  | [a],_=>exact congrArg (fun p=>(p.2 a a a a a).1) c2
  | [a,b],_=>exact congrArg (fun p=>(p.2 a b a a a).2.1) c2
  | [a,b,c],_=>exact congrArg (fun p=>(p.2 a b c a a).2.2.1) c2
  | [a,b,c,d],_=>exact congrArg (fun p=>(p.2 a b c d a).2.2.2.1) c2
  | [a,b,c,d,e],_=>exact congrArg (fun p=>(p.2 a b c d e).2.2.2.2) c2
  | _::_::_::_::_::_::n,h5=>exact absurd h5 (by simp)
 have:=List.map_inj_left.mp e f (List.mem_filter.mpr ⟨zv3 h,by rw[h];exact beq_iff_eq.mpr hl.symm⟩)
 rw[hf,h] at this
 exact Option.some.inj this
theorem yL1:zo2 K=true:=congrArg (·.1) hc
theorem yx6 {KH:PH} (hK:∀ a o,K.lookup a=some o→KH a=some o) {f:Addr} {F:Fn} (h:fns f=some F):DefOK KH f F:=by
 have hm:=zv3 h
 obtain ⟨F',hF,h1⟩:=yB7 (zQ0 xN2 hm)
 obtain rfl:=Option.some.inj (h.symm.trans hF)
 have d:=yT1 h1
 have d0:=zv2 d.a
 have d1:=zv2 d0.1
 have h2:=List.map_inj_left.mp (congrArg (·.2.1) hc:zW1.map (yx4 K)=zW1.map yx5) f hm
 obtain ⟨fd,hf,h2⟩:=Option.map_eq_some_iff.mp (h2.trans (congrArg (Option.map _) h))
 obtain ⟨fd',hf',h3⟩:=yB7 (zQ0 (yT1 (yL1 hc)).a hm)
 obtain rfl:=Option.some.inj (hf.symm.trans hf')
 obtain ⟨o,ho,hd'⟩:=Option.bind_eq_some_iff.mp hf
 obtain ⟨c,oc,vs,t,hcc,hoc,hvs,hq⟩:=y93 (eq_of_beq h3)
 have ns:∀ x k,F.scope.names.lookup x=some k→(x == ("__debug__":Str))=false∧(x == ("__classdict__":Str))=false:=fun x k hx =>
  have z:=zv2 (zQ0 d.e (mem_of_lookup hx))
  ⟨beq_eq_false_iff_ne.mpr (bne_iff_ne.mp z.1),beq_eq_false_iff_ne.mpr (bne_iff_ne.mp z.2)⟩
 have e2:=congrArg (·.2) h2
 exact ⟨⟨o,fd,hK _ _ ho,yK8 hd',congrArg (·.1) h2,congrArg (·.1) e2,congrArg (·.2.1) e2,congrArg (·.2.2.1) e2,congrArg (·.2.2.2) e2,⟨c,oc,vs,t,hcc,hK _ _ hoc,hvs,hq⟩,fun vals hl=>y96 hc h hf vals hl (of_decide_eq_true d.f)⟩,⟨nb d1.1,nb d1.2,eq_of_beq d0.2⟩,fun x hx=>(Bool.or_eq_true_iff.mp (zQ0 d.b hx)).imp eq_of_beq eq_of_beq,of_decide_eq_true d.c,fun x hx n=>zz0 _ _ _ hx,fun x hx=>bne_iff_ne.mp (zQ0 d.d (mem_of_lookup hx)) rfl,fun x hx=>hx.elim (ns x _) (ns x _)⟩
end
theorem yZ2 {α:Type} {t:List (Addr×List α)} {c:Addr} {x:α} (h:x∈(t.lookup c).getD []):(c,x)∈t.flatMap fun p=>p.2.map fun x=>(p.1,x):=by
 cases e:t.lookup c with
 | none=>rw[e] at h;cases h
 | some l=>rw[e] at h;exact List.mem_flatMap.mpr ⟨(c,l),yT4 e,List.mem_map.mpr ⟨x,h,rfl⟩⟩
theorem zv4 {c:Addr} {x:Str} (h:G.field c x=true):(c,x)∈z34:=yZ2 (List.contains_iff_mem.mp h)
theorem yi4 {c:Addr} {m:Str} {g:Addr} (h:G.meth c m=some g):(c,m,g)∈yL0:=yZ2 (mem_of_lookup h)
theorem yx7:(y95.map fun p=>bootBuiltins p.1)=y95.map fun p=>some p.2:=by kernel_rfl
theorem yT6:(yC9.all fun p=>(p.1 != ("__debug__":Str))&&(p.1 != ("__name__":Str)))=true:=by kernel_rfl
theorem y97 {K:Frag} {h:Heap} {mg mb:Str→Option Value} (hc:zo2 K=true) (X:K.In h) (hg:h.Ns mainGlobals mg) (hb:h.Ns builtinsNs mb) (hboot:∀ x:Str,x≠"__name__"→mb x=bootBuiltins x) {x:Str} {v:Value} (hx:yC9.lookup x=some v) :
  (x == ("__debug__":Str))=false∧∀ h',Sub h.get? h'→yk4 h' x v:=by
 have hm:=mem_of_lookup hx
 have hn:=List.all_eq_true.mp yT6 _ hm
 have hn:=zv2 hn
 refine ⟨beq_eq_false_iff_ne.mpr (bne_iff_ne.mp hn.1),fun h' hs=>?_⟩
 have k:=yT1 hc
 have hg':h'.Ns mainGlobals mg:=hg.at' fun o e=>hs _ _ e
 have hb':h'.Ns builtinsNs mb:=hb.at' fun o e=>hs _ _ e
 by_cases hv:yT5 v=true
 ·exact .inl ⟨mg,hg',mg_of X hg (eq_of_beq (zQ0 k.e (List.mem_filter.mpr ⟨hm,hv⟩)))⟩
 ·have hm':(x,v)∈y95:=List.mem_filter.mpr ⟨hm,(Bool.not_eq_true' _).mpr (Bool.eq_false_iff.mpr hv)⟩
  refine .inr ⟨mg,mb,hg',mg_none_of X hg (eq_of_beq (zQ0 k.f hm')),hb',?_⟩
  rw[hboot _ (bne_iff_ne.mp hn.2)]
  exact List.map_inj_left.mp yx7 _ hm'
theorem xN3 {K:Frag} {h:Heap} {mg mb:Str→Option Value} (hc:zo2 K=true) (X:K.In h) (hg:h.Ns mainGlobals mg) (hb:h.Ns builtinsNs mb) (hboot:∀ x:Str,x≠"__name__"→mb x=bootBuiltins x):KOK G K h.get?:=by
 have k:=yT1 hc
 have hm:∀ c m g,G.meth c m=some g→And6 (keepIn K (.ref g)) (plainGet K c m) (findIn K (.ref c) m == some (some (.ref g))) (isFn K (.ref g)) (keepIn K (.ref c)) (makesIn K c):=fun c m g hx=>yT1 (zQ0 k.c (yi4 hx))
 refine ⟨X,fun x v hx=>y97 hc X hg hb hboot hx,hg.elim fun o z=>z.elim fun es z=>z.elim fun ep z=>⟨mainGlobals,o,z.1,by decide⟩,fun c x hx=>?_,fun a F ha=>zQ0 k.d (zv3 ha),fun c g hx=>?_,fun c x hx=>?_,fun c m g hx=>?_⟩
 ·have d:=yT1 (zQ0 k.b (zv4 hx))
  exact ⟨(zv2 d.a).1,(zv2 d.a).2,yB7 d.b⟩
 ·have d:=hm c _ g hx
  exact ⟨d.e,d.f,eq_of_beq d.c,beq_iff_eq.mp d.d⟩
 ·have d:=yT1 (zQ0 k.b (zv4 hx))
  exact ⟨eq_of_beq d.c,d.d,eq_of_beq d.e,d.f⟩
 ·have d:=hm c m g hx
  exact ⟨d.a,d.b,eq_of_beq d.c,d.d⟩
theorem y98 {K:Frag} {h:Heap} (hc:yi2 K=z35) (X:K.In h) (hlim:∀ h':Heap,(∀ b o,h.get? b=some o→h'.get? b=some o)→h'.NoLimit):DefsOK G h.get?:=⟨fun f F hf=>yx6 hc X hf,fun h' hs=>hlim h' hs⟩
end Mine
set_option maxHeartbeats 0
namespace Mine
open PySem PySem.W PyProof.Rows
noncomputable def yx8 (ok:Thread→Bool) (st:SharedT→Thread→Option (SharedT×Thread)):Nat→SharedT→Thread→Option SharedT
 | 0,_,_=>none
 | n+1,s,t=>match through t with
  | true=>some s
  | false=>match ok t with
   | false=>none
   | true=>match st s t with
    | some r=>yx8 ok st n r.1 r.2
    | none=>none
theorem y99 {tb:String→Option Builtin} {p:Program} {w:World} {n₀:Nat} {ann:Option Value} {s':SharedT} (n:Nat):∀ {s:SharedT} {t:Thread},yx8 (stepOk n₀ ann) (PySem.W.stepT (denote tb) p w) n s t=some s'→topRun tb p w n₀ ann n s.abs t=some s'.abs:=by
 induction n with
 | zero=>exact fun h=>nomatch (show none=some s' from h)
 | succ n ih =>
  intro s t
  show (match through t with
   | true=>some s
   | false=>match stepOk n₀ ann t with
    | false=>none
    | true=>match PySem.W.stepT (denote tb) p w s t with
     | some r=>yx8 (stepOk n₀ ann) (PySem.W.stepT (denote tb) p w) n r.1 r.2
     | none=>none)=some s'→(match through t with
   | true=>some s.abs
   | false=>match stepOk n₀ ann t with
    | false=>none
    | true=>match step (denote tb) p w s.abs t with
     | .go s' t'=>topRun tb p w n₀ ann n s' t'
     | .halt _ _=>none)=some s'.abs
  cases through t with
  | true=>exact congrArg (Option.map SharedT.abs)
  | false=>cases stepOk n₀ ann t with
   | false=>exact fun h=>nomatch h
   | true=>cases hs:PySem.W.stepT (denote tb) p w s t with
    | none=>exact fun h=>nomatch h
    | some r =>
     rw[stepT_spec hs]
     exact ih
noncomputable abbrev zK9:Program:=PySem.Challenge.pw_pq0055_03
noncomputable def bt0 (P:Params):BT:=((boot_heap P).objs.toList.zipIdx).foldl (fun t x=>t.ins x.2 x.1) .nil
noncomputable def S0 (w:World) (os:OsState):SharedT:=⟨bt0 w.params,11,(boot_heap w.params).life,#[],boot_drawn,boot_toks,os⟩
theorem xN4 (w:World) (os:OsState):(S0 w os).abs=⟨boot_heap w.params,#[],boot_drawn,boot_toks,os⟩:=by kernel_rfl
theorem xN5:opening zK9=plainProg zK9.main.scope.names:=by kernel_rfl
theorem xA0 (s:Shared):fenceModules? zK9 s=some s:=by kernel_rfl
noncomputable abbrev qv:Program:=view zK9 [42]
noncomputable def yT7:List Str:=zK9.main.body.dropLast.flatMap bindsAtTop
noncomputable def yx9 {α:Type} (Yf:Shared→α) (H0:Heap) (s:Shared) :=
 ((staticsOk (importedModules zK9.main.body) H0 s.heap&&namesBound zK9 s.heap&&gensDone s&&laidKept H0 s.heap),openSeen qv yT7 (importedModules zK9.main.body) (fun uu=>true) true s,Yf s)
theorem xA1 {α:Type} {Yf:Shared→α} {Ya:World→α} {M N:Nat} (hM:Nat.ble M N=true) (hN:Nat.ble 600 N=true)
  (h:∀ w os,(yx8 (stepOk 11 (some (.ref 6))) (PySem.W.stepT (denote treeTable) zK9 w) M (S0 w os) (topStub zK9)).map (fun s=>yx9 Yf (boot_heap w.params) s.abs)=some (true,openGood qv yT7,Ya w)):LeftO zK9 qv yT7 (fun uu=>true) Yf Ya N:=fun w=>by
 obtain ⟨⟨h',gs,d,k,os⟩,e,e'⟩:=Option.map_eq_some_iff.mp (boot_open (p:=zK9) xN5 hN xA0 w)
 obtain ⟨rfl,rfl,rfl,rfl⟩:h'=boot_heap w.params∧gs=#[]∧d=boot_drawn∧k=boot_toks:=by simpa using e'
 obtain ⟨s,e1,e2⟩:=Option.map_eq_some_iff.mp (h w os)
 have r:=y99 _ e1
 rw[xN4] at r
 have r:=topRun_mono (N - M) _ _ _ _ r
 rw[show M+(N - M)=N by have:=Nat.le_of_ble_eq_true hM;omega] at r
 unfold yx9 at e2
 obtain ⟨l1,l2,l3⟩:_∧_∧_:=by simpa only [Prod.mk.injEq] using e2
 have t:topFrom treeTable zK9 w N ⟨boot_heap w.params,#[],boot_drawn,boot_toks,os⟩=some s.abs:=by
  unfold topFrom
  dsimp only
  rw[show ((boot_heap w.params).isNs mainGlobals&&(#[]:Array GenState).size == 0)=true from by kernel_rfl,show (boot_heap w.params).objs.size=11 from by kernel_rfl,show (boot_heap w.params).nsMap mainGlobals "__annotations__"=some (.ref 6) from by kernel_rfl,r]
  show (match staticsOk (importedModules zK9.main.body) (boot_heap w.params) s.abs.heap&&namesBound zK9 s.abs.heap&&gensDone s.abs&&laidKept (boot_heap w.params) s.abs.heap with | true=>_ | false=>_)=_
  rw[l1]
 unfold openEnds
 rw[e]
 show (topFrom treeTable zK9 w N _).map _=_
 rw[t]
 exact congrArg some (Prod.ext l2 l3)
theorem xA2 (w:World) (os:OsState):(yx8 (PySem.W.Fast.tw6613529449190102663 11 (some (.ref 6))) (PySem.W.Fast.tw10156331382660048174 (PySem.W.Fast.tw11892475500146522536 PySem.W.Fast.tw14364793385576792824) zK9 w) 3000 (S0 w os) (topStub zK9)).map (fun s=>yx9 (fun s=>yi2 (yB9 s.heap)) (boot_heap w.params) s.abs)=some (true,openGood qv yT7,z35):=by kernel_rfl
theorem zE2:LeftO zK9 qv yT7 (fun uu=>true) (fun s=>yi2 (yB9 s.heap)) (fun uu=>z35) 4000:=xA1 (M:=3000) rfl rfl fun w os=>by
 rw[PySem.W.Fast.te6613529449190102663,PySem.W.Fast.te10156331382660048174,PySem.W.Fast.te11892475500146522536,PySem.W.Fast.te14364793385576792824]
 exact xA2 w os
noncomputable def yT8:DefRec:=((defOf qv "law").get (by kernel_rfl)).1
theorem xA3:defOf qv "law"=some (yT8,[]):=by kernel_rfl
noncomputable abbrev row:=PySem.Challenge.rw_pq0055_03.row
theorem head (call:WalkO qv yT7 (fun uu uu=>True) (fun uu h=>∃ K:Frag,K.In h∧yi2 K=z35) row.toRowW yT8 [] fun f vs=>PySem.call f vs):PySem.Challenge.rw_pq0055_03.Holds :=
 holds_law (by kernel_rfl) fun said=>holds_open (q:=qv) (loose:=yT7) (Xt:=fun uu=>true) (XP:=fun uu uu=>True) (N:=4000) zE2 (fun w s e=>⟨_,yi3 _,e⟩) (fun w h h' x k=>let ⟨K,a,b⟩:=x;⟨K,a.keeps k,b⟩)
  (fun uu uu=>trivial) (fun uu uu uu uu uu=>trivial) xA3 (by kernel_rfl) (by kernel_rfl) (fun uu uu=>recFacts_nil rfl) rfl said (by kernel_rfl) ⟨rfl,rfl,rfl,rfl,rfl,by kernel_rfl⟩ ⟨[.list []],by decide +kernel,by decide +kernel⟩ call
end Mine
set_option maxHeartbeats 200000
namespace Mine
open PySem PySem.W PyProof.Rows PySem.Calls PySem.Builtin
theorem yL2 {prog:Program} {w:World} {H:PH}:∀ {vs:List Value} {ns:List Int},IntsAre vs ns→RepL prog w H vs (ns.map .int)
 | _,_,.nil=>.nil
 | _,_,.cons n t r=>.cons (.int n t) (yL2 r)
theorem yi5 {P:Params} {h:Heap} {a:Addr} {xs:List WData} {vs:List Value} (x:Well P h (.ref a) (.list xs)) (hL:h.IsList a vs.toArray):h.get? a=some { cls:=.type "list",data:=.seq vs.toArray }:=by
 cases x with
 | list h1 h2 =>
  refine xe hL fun o Y0=>?_;have ho:=Y0.1;refine xe Y0.2.2 fun n hd=>?_;try clear hL;try clear Y0
  rw[h1] at ho
  cases ho
  cases hd
  exact h1
set_option tactic.hygienic true in
theorem yi6 {ns:List Int} {body:List Stmt} {sc:Scope} {e:Option Ent} (hfn:G.fn 416=some ⟨[Str.ofString "script"],body,sc⟩) (hrun:run G 101 416 [.val (.list (ns.map .int))]=some (.val (.bool true),e)) :
  ∃ ρ',zA1 (run G 100) (zB2 (zK1 G (evs G 40) 40 sc) body [(Str.ofString "script",.val (.list (ns.map .int)))])=some (.ret (.val (.bool true)),ρ'):=by
 refine obk hrun fun F hF h1=>?_
 rw[← Option.some.inj (hfn.symm.trans hF)] at h1
 refine iTk h1 fun uu h1=>ibk h1 fun p h2 h1=>iTk h1 fun uu h1=>?_
 obtain ⟨p1,p2⟩:=p
 cases p1 with
 | next=>exact nomatch (Prod.mk.inj (Option.some.inj h1)).1
 | ret r=>exact ⟨p2,h2.trans (congrArg (fun r=>some (Fl.ret r,p2)) (Prod.mk.inj (Option.some.inj h1)).1)⟩
set_option tactic.hygienic true in
theorem xA4 {prog:Program} {w:World} {h₀:Heap} {s:Shared} {env:Env} {L l:Addr} {vs:List Value} {ns:List Int} {m mg mb:Str→Option Value} {Q:Flow→Shared→Prop} {E:Value→Shared→Prop} {body:List Stmt} {sc:Scope} {e:Option Ent}
  {K:Frag} (hc:yi2 K=z35) (X:K.In h₀) (hg:h₀.Ns mainGlobals mg) (hb:h₀.Ns builtinsNs mb) (hboot:∀ x:Str,x≠"__name__"→mb x=bootBuiltins x) (hlim:∀ h':Heap,(∀ b o,h₀.get? b=some o→h'.get? b=some o)→h'.NoLimit)
  (hl:h₀.get? l=some { cls:=.type "list",data:=.seq vs.toArray }) (hI:IntsAre vs ns) (F:Fr h₀ L s.heap m) (hm:m (Str.ofString "script")=some (.ref l))
  (hfn:fns 416=some ⟨[Str.ofString "script"],body,sc⟩) (e1:env.scope=sc) (e2:env.cells=[]) (e3:env.globals=mainGlobals) (e4:env.builtins=builtinsNs) (e5:env.locals=L)
  (hrun:run G 101 416 [.val (.list (ns.map .int))]=some (.val (.bool true),e))
  (hq:∀ h' tk dr,(∀ b o,h₀.get? b=some o→h'.get? b=some o)→Q (.ret (.bool true)) { s with heap:=h',toks:=tk,drawn:=dr }) :
  wpAny (model prog w) (callerA.deeper env) (execs body env) Q E s:=by
 have kok:=xN3 (yL1 hc) X hg hb hboot
 have defs:=y98 hc X hlim
 have d:=yx6 hc (fun a o e=>X a o e) hfn
 have hscr:sc.names.lookup (Str.ofString "script")=some .local∨sc.names.lookup (Str.ofString "script")=some .cell:=d.par _ (by simp)
 have noCell:∀ y,sc.names.lookup y≠some .cell:=fun y h=>by
  have z:((fns 416).map fun F=>F.scope.names.all fun p=>p.2 != .cell)=some true:=by kernel_rfl
  have z:=List.all_eq_true.mp (Option.some.inj ((congrArg (Option.map fun F:Fn=>F.scope.names.all fun p=>p.2 != .cell) hfn).symm.trans z)) _ (mem_of_lookup h)
  exact bne_iff_ne.mp z rfl
 refine xe (yi6 hfn hrun) fun ρ' hi=>?_
 have ko:∀ y,env.kindOf y=sc.names.lookup y:=fun y=>by show env.scope.names.lookup y=_;rw[e1]
 have cellE:sc.names.lookup (Str.ofString "script")=some .local:=hscr.resolve_right (noCell _)
 have he:EnvOK env sc:=by
  refine ⟨by rw[e1];exact d.kinds.2.2,fun y=>.inl (ko y),e3,e4,fun y hy=>?_⟩
  unfold seen at hy
  rw[ko] at hy
  rcases hy with h | h | h
  ·exact d.nm y (.inl h)
  ·exact d.nm y (.inr h)
  ·exact absurd h (d.noFree y)
 have hro:Room (callerA.deeper env) (2 * 100+1):=⟨rfl,by show callerA.depth+1+2 * (2 * 100+1) < 900;decide,by show callerA.units+3+20 * (2 * 100+1)+600 < cLine;decide⟩
 have hno:∀ a,h₀.objs.size≤a→h₀.get? a=none:=fun a ha=>Heap.get?_none_of_le ha
 have st:St prog w h₀.get? env [(Str.ofString "script",.val (.list (ns.map .int)))] (fun uu=>none) s.heap:=by
  refine ⟨F.keep,⟨m,by rw[e5];exact F.ns⟩,fun x e hx hlk=>?_,by rw[e5];exact hno _ F.above,fun x c hc=>(by rw[e2] at hc;cases hc),fun x y c hc=>(by rw[e2] at hc;cases hc),fun x hx=>?_,fun x a hx=>(by cases hx),fun x y a hx=>(by cases hx)⟩
  ·rw[List.lookup_cons] at hlk
   split at hlk
   ·rename_i hxs
    rw[beq_iff_eq] at hxs
    subst hxs
    cases hlk
    refine ⟨.ref l,?_,.list hl (by simpa using yL2 hI)⟩
    unfold zB6
    rw[ko,cellE]
    exact ⟨m,by rw[e5];exact F.ns,hm⟩
   ·cases hlk
  ·rw[ko] at hx
   rcases hx with h | h
   ·exact absurd h (noCell x)
   ·exact absurd h (d.noFree x)
 refine zs0 kok (yI4 prog w) (z13 kok (yI4 prog w) defs 100) sc body (callerA.deeper env) env h₀.get? _ (fun uu=>none) s _ ρ' Q E hi he hro (PLe.refl _) st fun fl H' O' h' tk a hfl=>?_
 refine xe hfl fun v Y0=>?_;obtain rfl:=Y0.1;have rr:=Y0.2;try clear hfl;try clear Y0
 cases rr
 refine hq h' tk.1 tk.2 fun b o q=>a.go.keep b o (F.keep b o q) fun ht=>?_
 rcases ht with h | ⟨x,h⟩ | ⟨x,h⟩
 ·rw[h,e5,hno _ F.above] at q;cases q
 ·rw[e2] at h;cases h
 ·cases h
end Mine
namespace Mine
open PySem PySem.W PyProof.Rows PySem.Calls PySem.Builtin
theorem yi7 {c:ClaimW} {cl:Str→Option Addr} {mean:ExcName→Option Value} {args:List WData} {s₁ s':Shared} (h1:∀ cls,c.raises args cls=false) (h2:c.post args (.bool true) args=true) (h3:∀ b o,s₁.heap.get? b=some o→s'.heap.get? b=some o) (h4:s'.os=s₁.os) (h5:s'.gens=#[]) :
  GoodW c cl mean args s₁ (.ok (.ret (.bool true))) s' :=
 ⟨.inl ⟨.bool true,.bool true,[],rfl,h1,.bool true,h2,fun uu=>⟨List.nodup_nil,fun uu h=>by cases h⟩⟩,h3,h4,h5⟩
theorem xA5 {cl:Str→Option Addr} {P:Params} {h:Heap} {args:List WData} {vals:List Value} {as:List Addr} (hpre:row.claim.pre args=true) (hlay:WData.layableAll args=true) (hrd:ReadsAllW row.records cl h vals args as) (hwl:WellAll P h vals args) :
  ∃ l vs ns,vals=[.ref l]∧h.get? l=some { cls:=.type "list",data:=.seq vs.toArray }∧IntsAre vs ns∧ns.length≤63∧∃ xs,args=[.list xs]:=by
 have hlo:∀ a∈as,(a == a)=true:=fun uu uu=>beq_self_eq_true _
 wrow_args hpre hlay hrd hwl hlo
 rename (IntsAre _ _)=>hI
 rename (Well _ _ _ _)=>hW
 rename (Heap.IsList _ _ _)=>hL
 rename (¬ _ < _)=>h63
 exact ⟨_,_,_,rfl,yi5 hW hL,hI,by omega,_,rfl⟩
end Mine
open PySem PySem.W PyProof.Rows
theorem PySem.Challenge.cw_pq0055_03_holds : PySem.Challenge.rw_pq0055_03.Holds := by
 refine Mine.head fun w s₀ s₁ mg mb G Y fa o pm cd doc dV kV ho hd hcd hD hmg hg args vals as hpre hlay hrd hwl hlo=>?_
 obtain ⟨K,X,hc⟩:=Y
 obtain ⟨l,vs,ns,rfl,hl,hI,h63,xs,rfl⟩:=Mine.xA5 hpre hlay hrd hwl
 obtain ⟨e,k⟩:=Mine.yi1 ns h63
 have hrun:=k.up (c':=101) (by omega)
 have T:=G.T
 have he:=Dflts.none hD (by kernel_rfl)
 subst he
 refine enter_call (codeAny_mono ?_ (fun uu uu g=>GoodW.toG g))
 refine call_fullW (binds:=[(Str.ofString "script",.ref l)]) (by decide) ho hd (Top.nolimit T) hcd (BindsTo.of_eq (by kernel_rfl)) (locs (by kernel_rfl)) (fun h₁ F=>?_) (by kernel_rfl) (by kernel_rfl) (by kernel_rfl) ?_
 ·refine Mine.xA4 hc X T.g T.b T.builtins (fun h' hk=>T.nolimit.keeps hk) hl hI F (by rfl) (by kernel_rfl) rfl rfl rfl rfl rfl hrun fun h' tk dr hk=>?_
  exact Mine.yi7 (fun uu=>rfl) (by kernel_rfl) hk rfl hg
 ·exact fun x hx=>bne_iff_ne.mp (List.all_eq_true.mp (show (Mine.yT8.scope.names.all fun x=>x.2 != .cell)=true by kernel_rfl) x hx)
