import PyProof.Rows.All
import Wide.All
import OpenK.AllK
import KE.KItem
import Lean
import PySem.Challenge.RW_xm0326_01
set_option Elab.async false
set_option maxRecDepth 100000
set_option maxHeartbeats 0
set_option linter.all false
set_option genSizeOf false
set_option genInjectivity false
set_option backward.match.sparseCases false
set_option bootstrap.genMatcherCode false
section
open PySem PySem.W PyProof.Rows
namespace Mine.Internal
def Kk (P:Prop):Prop:=P→False
theorem kf {P:Prop} (h:Kk P→False):P:=Classical.byContradiction h
theorem noS {α:Type _} {a:α} (h:none=some a):False:=nomatch h
@[elab_as_elim] theorem rwE {α:Sort _} {b:α} {P:α→Prop} {a:α} (h:a=b) (k:P b):P a:=h▸k
@[elab_as_elim] theorem rwS {α:Sort _} {b:α} {P:α→Prop} {a:α} (h:b=a) (k:P b):P a:=h▸k
theorem nk {α:Type _} {o o':Option α} (k:∀x,o=some x→o'=some x) (h:o'=none):o=none:=by
 cases o with
 |none=>rfl
 |some x=>exact (noS (h.symm.trans (k x rfl))).elim
theorem noB (h:false=true):False:=nomatch h
theorem E03 {P0 P1 P2:Prop} {C:Prop} (h:P0∧P1∧P2) (k:P0→P1→P2→C):C:=k h.1 h.2.1 h.2.2
theorem E04 {P0 P1 P2 P3:Prop} {C:Prop} (h:P0∧P1∧P2∧P3) (k:P0→P1→P2→P3→C):C:=k h.1 h.2.1 h.2.2.1 h.2.2.2
theorem E06 {P0 P1 P2 P3 P4 P5:Prop} {C:Prop} (h:P0∧P1∧P2∧P3∧P4∧P5) (k:P0→P1→P2→P3→P4→P5→C):C:=k h.1 h.2.1 h.2.2.1 h.2.2.2.1 h.2.2.2.2.1 h.2.2.2.2.2
theorem E12 {α0:Sort _} {P0 P1:α0→Prop} {C:Prop} (h:∃x,P0 x∧P1 x) (k:∀x,P0 x→P1 x→C):C:=h.elim fun x h=>k x h.1 h.2
theorem E13 {α0:Sort _} {P0 P1 P2:α0→Prop} {C:Prop} (h:∃x,P0 x∧P1 x∧P2 x) (k:∀x,P0 x→P1 x→P2 x→C):C:=h.elim fun x h=>k x h.1 h.2.1 h.2.2
theorem E14 {α0:Sort _} {P0 P1 P2 P3:α0→Prop} {C:Prop} (h:∃x,P0 x∧P1 x∧P2 x∧P3 x) (k:∀x,P0 x→P1 x→P2 x→P3 x→C):C:=h.elim fun x h=>k x h.1 h.2.1 h.2.2.1 h.2.2.2
theorem E21 {α0:Sort _} {α1:Sort _} {P0:α0→α1→Prop} {C:Prop} (h:∃x y,P0 x y) (k:∀x y,P0 x y→C):C:=h.elim fun x h=>h.elim fun y h=>k x y h
theorem E22 {α0:Sort _} {α1:Sort _} {P0 P1:α0→α1→Prop} {C:Prop} (h:∃x y,P0 x y∧P1 x y) (k:∀x y,P0 x y→P1 x y→C):C:=h.elim fun x h=>h.elim fun y h=>k x y h.1 h.2
theorem E23 {α0:Sort _} {α1:Sort _} {P0 P1 P2:α0→α1→Prop} {C:Prop} (h:∃x y,P0 x y∧P1 x y∧P2 x y) (k:∀x y,P0 x y→P1 x y→P2 x y→C):C:=h.elim fun x h=>h.elim fun y h=>k x y h.1 h.2.1 h.2.2
theorem E24 {α0:Sort _} {α1:Sort _} {P0 P1 P2 P3:α0→α1→Prop} {C:Prop} (h:∃x y,P0 x y∧P1 x y∧P2 x y∧P3 x y) (k:∀x y,P0 x y→P1 x y→P2 x y→P3 x y→C):C:=h.elim fun x h=>h.elim fun y h=>k x y h.1 h.2.1 h.2.2.1 h.2.2.2
theorem E25 {α0:Sort _} {α1:Sort _} {P0 P1 P2 P3 P4:α0→α1→Prop} {C:Prop} (h:∃x y,P0 x y∧P1 x y∧P2 x y∧P3 x y∧P4 x y) (k:∀x y,P0 x y→P1 x y→P2 x y→P3 x y→P4 x y→C):C:=h.elim fun x h=>h.elim fun y h=>k x y h.1 h.2.1 h.2.2.1 h.2.2.2.1 h.2.2.2.2
theorem E26 {α0:Sort _} {α1:Sort _} {P0 P1 P2 P3 P4 P5:α0→α1→Prop} {C:Prop} (h:∃x y,P0 x y∧P1 x y∧P2 x y∧P3 x y∧P4 x y∧P5 x y) (k:∀x y,P0 x y→P1 x y→P2 x y→P3 x y→P4 x y→P5 x y→C):C:=h.elim fun x h=>h.elim fun y h=>k x y h.1 h.2.1 h.2.2.1 h.2.2.2.1 h.2.2.2.2.1 h.2.2.2.2.2
theorem E31 {α0:Sort _} {α1:Sort _} {α2:Sort _} {P0:α0→α1→α2→Prop} {C:Prop} (h:∃x y z,P0 x y z) (k:∀x y z,P0 x y z→C):C:=h.elim fun x h=>h.elim fun y h=>h.elim fun z h=>k x y z h
theorem E32 {α0:Sort _} {α1:Sort _} {α2:Sort _} {P0 P1:α0→α1→α2→Prop} {C:Prop} (h:∃x y z,P0 x y z∧P1 x y z) (k:∀x y z,P0 x y z→P1 x y z→C):C:=h.elim fun x h=>h.elim fun y h=>h.elim fun z h=>k x y z h.1 h.2
theorem E33 {α0:Sort _} {α1:Sort _} {α2:Sort _} {P0 P1 P2:α0→α1→α2→Prop} {C:Prop} (h:∃x y z,P0 x y z∧P1 x y z∧P2 x y z) (k:∀x y z,P0 x y z→P1 x y z→P2 x y z→C):C:=h.elim fun x h=>h.elim fun y h=>h.elim fun z h=>k x y z h.1 h.2.1 h.2.2
theorem E34 {α0:Sort _} {α1:Sort _} {α2:Sort _} {P0 P1 P2 P3:α0→α1→α2→Prop} {C:Prop} (h:∃x y z,P0 x y z∧P1 x y z∧P2 x y z∧P3 x y z) (k:∀x y z,P0 x y z→P1 x y z→P2 x y z→P3 x y z→C):C:=h.elim fun x h=>h.elim fun y h=>h.elim fun z h=>k x y z h.1 h.2.1 h.2.2.1 h.2.2.2
theorem E36 {α0:Sort _} {α1:Sort _} {α2:Sort _} {P0 P1 P2 P3 P4 P5:α0→α1→α2→Prop} {C:Prop} (h:∃x y z,P0 x y z∧P1 x y z∧P2 x y z∧P3 x y z∧P4 x y z∧P5 x y z) (k:∀x y z,P0 x y z→P1 x y z→P2 x y z→P3 x y z→P4 x y z→P5 x y z→C):C:=h.elim fun x h=>h.elim fun y h=>h.elim fun z h=>k x y z h.1 h.2.1 h.2.2.1 h.2.2.2.1 h.2.2.2.2.1 h.2.2.2.2.2
theorem E43 {α0:Sort _} {α1:Sort _} {α2:Sort _} {α3:Sort _} {P0 P1 P2:α0→α1→α2→α3→Prop} {C:Prop} (h:∃x y z u,P0 x y z u∧P1 x y z u∧P2 x y z u) (k:∀x y z u,P0 x y z u→P1 x y z u→P2 x y z u→C):C:=h.elim fun x h=>h.elim fun y h=>h.elim fun z h=>h.elim fun u h=>k x y z u h.1 h.2.1 h.2.2
theorem E45 {α0:Sort _} {α1:Sort _} {α2:Sort _} {α3:Sort _} {P0 P1 P2 P3 P4:α0→α1→α2→α3→Prop} {C:Prop} (h:∃x y z u,P0 x y z u∧P1 x y z u∧P2 x y z u∧P3 x y z u∧P4 x y z u) (k:∀x y z u,P0 x y z u→P1 x y z u→P2 x y z u→P3 x y z u→P4 x y z u→C):C:=h.elim fun x h=>h.elim fun y h=>h.elim fun z h=>h.elim fun u h=>k x y z u h.1 h.2.1 h.2.2.1 h.2.2.2.1 h.2.2.2.2
theorem E48 {α0:Sort _} {α1:Sort _} {α2:Sort _} {α3:Sort _} {P0 P1 P2 P3 P4 P5 P6 P7:α0→α1→α2→α3→Prop} {C:Prop} (h:∃x y z u,P0 x y z u∧P1 x y z u∧P2 x y z u∧P3 x y z u∧P4 x y z u∧P5 x y z u∧P6 x y z u∧P7 x y z u) (k:∀x y z u,P0 x y z u→P1 x y z u→P2 x y z u→P3 x y z u→P4 x y z u→P5 x y z u→P6 x y z u→P7 x y z u→C):C:=h.elim fun x h=>h.elim fun y h=>h.elim fun z h=>h.elim fun u h=>k x y z u h.1 h.2.1 h.2.2.1 h.2.2.2.1 h.2.2.2.2.1 h.2.2.2.2.2.1 h.2.2.2.2.2.2.1 h.2.2.2.2.2.2.2
theorem E62 {α0:Sort _} {α1:Sort _} {α2:Sort _} {α3:Sort _} {α4:Sort _} {α5:Sort _} {P0 P1:α0→α1→α2→α3→α4→α5→Prop} {C:Prop} (h:∃x y z u v w,P0 x y z u v w∧P1 x y z u v w) (k:∀x y z u v w,P0 x y z u v w→P1 x y z u v w→C):C:=h.elim fun x h=>h.elim fun y h=>h.elim fun z h=>h.elim fun u h=>h.elim fun v h=>h.elim fun w h=>k x y z u v w h.1 h.2
set_option genInjectivity true in
inductive AA where
 |f (n:Nat)
 |r (k i:Nat)
 |t (n:Nat)
 deriving DecidableEq
inductive AV where
 |none
 |bool (b:Bool)
 |int (i:Int)
 |str (s:List Nat)
 |tup (l:List AV)
 |ref (a:AA)
 |glob (a:Addr)
 |junk
inductive Bop where
 |add|sub|mul|div|mod|pow
 deriving DecidableEq
inductive Cop where
 |eq|ne|lt|le|gt|ge|is|isNot|isIn|notIn
 deriving DecidableEq
set_option genCtorIdx false in
inductive ME where
 |val (v:AV)
 |loc (i:Nat)
 |attr (e:ME) (a:Nat)
 |sub (e i:ME)
 |cut (e lo hi:ME)
 |call (f:Addr) (args:List ME)
 |make (C:Addr) (args:List ME)
 |meth (e:ME) (a:Nat) (args:List ME)
 |len (e:ME)
 |range (es:List ME)
 |tupOf (e:ME)
 |bin (o:Bop) (l r:ME)
 |cmp (o:Cop) (l r:ME)
 |and (l:List ME)
 |or (l:List ME)
 |not (e:ME)
 |neg (e:ME)
 |ite (c a b:ME)
 |tup (l:List ME)
 |list (l:List ME)
 |dict (l:List ME)
 |comp (elt:ME) (i:Nat) (it:ME) (ifs:List ME)
set_option genCtorIdx false in
inductive MT where
 |loc (i:Nat)
 |attr (e:ME) (a:Nat)
 |sub (e i:ME)
 |unp (l:List Nat)
set_option genCtorIdx false in
inductive MS where
 |asg (t:MT) (e:ME)
 |aug (i:Nat) (o:Bop) (e:ME)
 |ife (c:ME) (a b:List MS)
 |whl (c:ME) (b:List MS)
 |forr (i:Nat) (it:ME) (b:List MS)
 |forkv (i:Nat) (it ob e1 e2 e3:ME)
 |ret (e:ME)
 |expr (e:ME)
 |del (e lo:ME)
 |raise (C:Addr) (args:List ME)
 |tryl (b:List MS) (C:Addr) (i j n:Nat)
 |pass
 |cont
noncomputable def names:List String:=["rows","index","depths","weights","opens","row","put","get","append","pop","kt","types","fields_","methods","names","asms","entry","store","asm","fns","vars","of_mid","diags","inits","sinits","consts",
 "code","at","item","number","kind","slots","text","version","special","fn","lids","this","targs","margs","caught","holes","held","entered","unit","host","things","statics","fails","out","steps","most","depth","nested","guards","serial",
 "texts","typed","layouts","kin","queue","calls","exprs","places","targets","stmts","core","starts","cuts","cut_bodies","splits","begins","blocks","defaults","uses","closed","first","asked","error","seen_as","layout","is_a","run","place","ready","read","write",
 "tid","name","sort","flags","base","params","ifaces","variances","bounds","fields","cctor","under","impls","props","events","finaliser","home","kinds","skinds","fids","act"]
noncomputable def nameNo (x:Str):Option Nat:=let i:=names.findIdx (fun s=>Str.ofString s==x); if i<names.length then some i else none
structure Gl where
 defs:List (Str×Addr)
 clss:List (Str×Addr)
 vals:List (Str×AV)
noncomputable def gval (G:Gl) (x:Str):Option AV:=match G.vals.lookup x with
 |some v=>some v
 |none=>(match G.defs.lookup x with|some a=>some (.glob a)|none=>(G.clss.lookup x).map .glob)
inductive Sl where
 |loc (i:Nat)
 |cell (i:Nat)
 |glob
 deriving DecidableEq
noncomputable abbrev NT:=List (Str×Sl)
noncomputable def tabOf:Nat→List (Str×NameKind)→NT
 |_,[]=>[]
 |i,(x,.local)::r=>(x,.loc i)::tabOf (i+1) r
 |i,(x,.cell)::r=>(x,.cell i)::tabOf (i+1) r
 |i,(x,.globalImplicit)::r=>(x,.glob)::tabOf i r
 |i,_::r=>tabOf i r
noncomputable def compTab (T:NT) (x:Str) (n:Nat):List (Str×NameKind)→NT
 |[]=>[]
 |(y,.local)::r=>if y==x then (y,.loc n)::compTab T x n r else compTab T x n r
 |(y,.free)::r=>(match T.lookup y with
  |some (.cell i)=>(y,.cell i)::compTab T x n r
  |_=>compTab T x n r)
 |(y,.globalImplicit)::r=>(y,.glob)::compTab T x n r
 |_::r=>compTab T x n r
noncomputable def idx:Sl→Option Nat
 |.loc i=>some i
 |.cell i=>some i
 |.glob=>none
noncomputable def tabB (names:List (Str×NameKind)) (T:NT):Bool :=
 T.all (fun p=>!(p.1==Str.ofString "__debug__")&&!(p.1==Str.ofString "__classdict__")&&(match p.2 with
  |.loc _=>names.lookup p.1==some .local
  |.cell _=>names.lookup p.1==some .cell||names.lookup p.1==some .free
  |.glob=>names.lookup p.1==some .globalImplicit)) &&
 T.all (fun p=>T.all fun q=>!(idx p.2==idx q.2&&(idx p.2).isSome)||p.1==q.1)
noncomputable def isCellO:Option Sl→Bool
 |some (.cell _)=>true
 |_=>false
noncomputable def slB (T:NT) (x:Str) (p:Str×Sl):Bool:=match p.2 with
 |.loc j=>p.1==x&&j==T.length
 |.cell j=>T.lookup p.1==some (.cell j)&&decide (j<T.length)
 |.glob=>true
noncomputable def compB (T:NT) (x:Str) (sc:Scope):Bool :=
 sc.kind==.function&&tabB sc.names (compTab T x T.length sc.names)&&(compTab T x T.length sc.names).lookup x==some (.loc T.length) &&
 (compTab T x T.length sc.names).all (slB T x) &&
 sc.names.all fun y=>y.2 != .cell&&(y.2 != .local||sc.names.lookup y.1==some .local)&&(y.2 != .free||(sc.names.lookup y.1==some .free&&isCellO (T.lookup y.1)))
noncomputable def bop:Operator→Option Bop
 |.Add=>some .add|.Sub=>some .sub|.Mult=>some .mul|.FloorDiv=>some .div|.Mod=>some .mod|.Pow=>some .pow|.MatMult=>none|.Div=>none|.LShift=>none|.RShift=>none|.BitOr=>none|.BitXor=>none|.BitAnd=>none
noncomputable def cop:CmpOp→Cop
 |.Eq=>.eq|.NotEq=>.ne|.Lt=>.lt|.LtE=>.le|.Gt=>.gt|.GtE=>.ge|.Is=>.is|.IsNot=>.isNot|.In=>.isIn|.NotIn=>.notIn
noncomputable def weave:List ME→List ME→List ME
 |k::ks,v::vs=>k::v::weave ks vs
 |[],_=>[]
 |_::_,[]=>[]
noncomputable def nameE (G:Gl) (T:NT) (x:Str):Option ME:=match T.lookup x with
 |some (.loc i)=>some (.loc i)
 |some (.cell i)=>some (.loc i)
 |some .glob=>(gval G x).map .val
 |none=>none
noncomputable def noSet:Expr→Bool
 |.Set _ _ _=>false
 |_=>true
noncomputable def noSuper:Expr→Bool
 |.Call (.Name _ _) [] [] _=>false
 |_=>true
noncomputable def locNo (T:NT) (x:Str):Option Nat:=match T.lookup x with
 |some (.loc i)=>some i
 |_=>none
noncomputable def nameIn (T:NT):Expr→Option Nat
 |.Name x _=>locNo T x
 |_=>none
noncomputable def namesIn (T:NT):List Expr→Option (List Nat)
 |[]=>some []
 |e::r=>do return (←nameIn T e)::(←namesIn T r)
noncomputable def noComp:Expr→Bool
 |.ListComp _ _ _ _=>false
 |.SetComp _ _ _ _=>false
 |.DictComp _ _ _ _ _=>false
 |_=>true
noncomputable def noTup:Expr→Bool
 |.Tuple _ _ _=>false
 |_=>true
set_option genInjectivity true in
inductive KA where
 |i (n:Int)
 |s (x:List Nat)
 |t (l:List Int)
 deriving DecidableEq
noncomputable abbrev TK:=List KA
inductive AO where
 |list (l:List AV)
 |sd (l:List (List Nat×AV))
 |id (l:List (Int×AV))
 |td (l:List (TK×AV))
 |ns (l:List (Nat×AV))
 |inst (C:Addr) (d:AA)
noncomputable abbrev AH:=AA→Option AO
noncomputable def upd (H:AH) (a:AA) (o:AO):AH:=fun b=>if b=a then some o else H b
def oK {α:Type} (o:Option α) (f:α→Prop):Prop:=match o with
 |some a=>f a
 |none=>False
theorem oK_some {α:Type} {o:Option α} {f:α→Prop} (h:oK o f):∃a,o=some a∧f a:=match o,h with|some a,h=>⟨a,rfl,h⟩
theorem oK_I {α:Type} {o:Option α} {f:α→Prop} {C:Prop} (h:oK o f) (k:∀a,o=some a→f a→C):C:=match o,h,k with|some a,h,k=>k a rfl h
theorem upd_dm {H:AH} {b:AA} {o:AO} (dn:H b≠none) (c:AA):upd H b o c≠none↔H c≠none:=by
 unfold upd; by_cases e:c=b
 ·subst e; simp[dn]
 ·simp[e]
noncomputable def ints?:List AV→Option (List Int)
 |[]=>some []
 |a::r=>match a with
  |.int i=>(ints? r).map (i::·)
  |_=>none
noncomputable def ka:AV→Option KA
 |.int n=>some (.i n)
 |.str x=>some (.s x)
 |.tup l=>(ints? l).map .t
 |.none=>none
 |.bool _=>none
 |.ref _=>none
 |.glob _=>none
 |.junk=>none
noncomputable def kas:List AV→Option TK
 |[]=>some []
 |v::r=>(ka v).bind fun a=>(kas r).map fun b=>a::b
noncomputable def tk:AV→Option TK
 |.tup l=>kas l
 |_=>none
noncomputable def kaV:KA→AV
 |.i n=>.int n
 |.s x=>.str x
 |.t l=>.tup (l.map .int)
noncomputable def tkV (k:TK):AV:=.tup (k.map kaV)
noncomputable def lk {K:Type} [DecidableEq K] (l:List (K×AV)) (k:K):Option AV:=(l.find? fun p=>decide (p.1=k)).map (·.2)
noncomputable def stq {K:Type} [DecidableEq K] (l:List (K×AV)) (k:K) (v:AV):List (K×AV) :=
 if l.any (fun p=>decide (p.1=k)) then l.map (fun p=>if p.1=k then (p.1,v) else p) else l++[(k,v)]
noncomputable def nsPut (l:List (Nat×AV)) (k:Nat) (v:AV):List (Nat×AV):=match l with
 |[]=>[(k,v)]
 |p::r=>if p.1=k then (k,v)::r else p::nsPut r k v
noncomputable def nsGet (l:List (Nat×AV)) (k:Nat):Option AV:=match l with
 |[]=>none
 |p::r=>if p.1=k then some p.2 else nsGet r k
mutual
noncomputable def isData:AV→Bool
 |.none=>true
 |.int _=>true
 |.str _=>true
 |.tup l=>areData l
 |.bool _=>false
 |.ref _=>false
 |.glob _=>false
 |.junk=>false
noncomputable def areData:List AV→Bool
 |[]=>true
 |a::r=>isData a&&areData r
end
mutual
noncomputable def avEq:AV→AV→Bool
 |.none,b=>(match b with|.none=>true|_=>false)
 |.int a,b=>(match b with|.int b=>decide (a=b)|_=>false)
 |.str a,b=>(match b with|.str b=>decide (a=b)|_=>false)
 |.tup a,b=>(match b with|.tup b=>avEqs a b|_=>false)
 |.bool _,_=>false
 |.ref _,_=>false
 |.glob _,_=>false
 |.junk,_=>false
noncomputable def avEqs:List AV→List AV→Bool
 |[],[]=>true
 |a::r,b::t=>avEq a b&&avEqs r t
 |[],_::_=>false
 |_::_,[]=>false
end
mutual
noncomputable def deep:AV→Nat
 |.tup l=>deeps l+1
 |.none=>0
 |.bool _=>0
 |.int _=>0
 |.str _=>0
 |.ref _=>0
 |.glob _=>0
 |.junk=>0
noncomputable def deeps:List AV→Nat
 |[]=>0
 |a::r=>max (deep a) (deeps r)
end
structure Stat where
 obj:Addr→Option AO
 meth:Addr→Nat→Option Addr
 plain:Addr→Nat→Bool
 init:Addr→Option (Option Addr)
 unheld:Addr
noncomputable def objOf (S:Stat) (H:AH):AV→Option AO
 |.ref a=>H a
 |.glob a=>S.obj a
 |_=>none
noncomputable def getA (S:Stat) (H:AH) (v:AV) (n:Nat):Option AV:=match v with
 |.ref x=>match H x with
  |some (.inst C d)=>(match H d with|some (.ns l)=>if S.plain C n=true then nsGet l n else none|_=>none)
  |_=>none
 |_=>none
noncomputable def nth {α:Type} (l:List α) (i:Int):Option α:=if 0≤i∧i<1000000 then l[i.toNat]? else none
noncomputable def getO (o:Option AO) (k:AV):Option AV:=match o with
 |some (.list l)=>(match k with|.int i=>nth l i|_=>none)
 |some (.sd l)=>(match k with|.str x=>lk l x|_=>none)
 |some (.id l)=>(match k with|.int i=>lk l i|_=>none)
 |some (.td l)=>(tk k).bind (lk l)
 |_=>none
noncomputable def getI (S:Stat) (H:AH) (v k:AV):Option AV:=match v with
 |.tup l=>(match k with|.int i=>nth l i|_=>none)
 |.str l=>(match k with|.int i=>(nth l i).map fun c=>.str [c]|_=>none)
 |v=>getO (objOf S H v) k
noncomputable def truthA (S:Stat) (H:AH):AV→Option Bool
 |.none=>some false
 |.bool b=>some b
 |.int i=>some (decide (i≠0))
 |.str l=>if l.length≤1000 then some (!l.isEmpty) else none
 |.tup _=>none
 |.ref _=>none
 |.glob _=>none
 |.junk=>none
noncomputable def lenA (S:Stat) (H:AH):AV→Option Nat
 |.tup l=>some l.length
 |v=>match objOf S H v with
  |some (.list l)=>if l.length≤1000000 then some l.length else none
  |_=>none
noncomputable def eqA (H:AH) (a b:AV):Option Bool:=match a with
 |.ref x=>(match b with
  |.ref y=>(match H x with
   |some (.list l)=>(match H y with
    |some (.list r)=>if areData l&&areData r&&decide (deeps l≤8)&&decide (deeps r≤8) then some (avEqs l r) else none
    |_=>none)
   |_=>none)
  |_=>none)
 |a=>if isData a&&isData b&&decide (deep a≤8)&&decide (deep b≤8) then some (avEq a b) else none
noncomputable def inO (o:Option AO) (k:AV):Option Bool:=match o with
 |some (.list _)=>none
 |some (.sd l)=>(match k with|.str x=>some (lk l x).isSome|_=>none)
 |some (.id l)=>(match k with|.int i=>some (lk l i).isSome|_=>none)
 |some (.td l)=>(tk k).map fun t=>(lk l t).isSome
 |_=>none
noncomputable def inA (S:Stat) (H:AH) (k v:AV):Option Bool:=match v with
 |.tup l=>if isData k&&areData l&&decide (deep k≤8)&&decide (deeps l≤8) then some (l.any fun x=>avEq x k) else none
 |v=>inO (objOf S H v) k
noncomputable def isA (a b:AV):Option Bool:=match b with
 |.none=>(match a with|.junk=>none|.none=>some true|_=>some false)
 |_=>none
noncomputable def ordA (o:Cop) (a b:Int):Option Bool:=match o with
 |.lt=>some (decide (a<b))|.le=>some (decide (a≤b))|.gt=>some (decide (a>b))|.ge=>some (decide (a ≥ b))|.eq=>none|.ne=>none|.is=>none|.isNot=>none|.isIn=>none|.notIn=>none
noncomputable def ordV (o:Cop) (a b:AV):Option Bool:=match a with
 |.int x=>(match b with|.int y=>ordA o x y|_=>none)
 |_=>none
noncomputable def cmpA (S:Stat) (H:AH) (o:Cop) (a b:AV):Option Bool:=match o with
 |.eq=>eqA H a b
 |.ne=>(eqA H a b).map (!·)
 |.is=>isA a b
 |.isNot=>(isA a b).map (!·)
 |.isIn=>inA S H a b
 |.notIn=>(inA S H a b).map (!·)
 |.lt=>ordV .lt a b
 |.le=>ordV .le a b
 |.gt=>ordV .gt a b
 |.ge=>ordV .ge a b
set_option genCtorIdx false in
inductive Got1 where
 |v (a:AV)
 |l (l:List AV)
noncomputable def intA (o:Bop) (a b:Int):Option Int:=match o with
 |.add=>some (a+b)
 |.sub=>some (a - b)
 |.mul=>if -(2 ^ 64)<a∧a<2 ^ 64 then some (a*b) else none
 |.div=>if 0<b∧b≤2 ^ 29 then some (Int.fdiv a b) else none
 |.mod=>if 0<b then some (Int.fmod a b) else none
 |.pow=>if a=2∧0≤b∧b≤64 then some (a ^ b.toNat) else none
noncomputable def oneL {β:Type}:List β→Option β
 |[x]=>some x
 |_=>none
noncomputable def mulA (o:Option AO) (b:AV):Option Got1:=match o with
 |some (.list l)=>(oneL l).bind fun x=>(match b with|.int n=>if 0≤n∧n≤65536 then some (.l (List.replicate n.toNat x)) else none|_=>none)
 |_=>none
noncomputable def addA (o p:Option AO):Option Got1:=match o with
 |some (.list l)=>(match p with|some (.list r)=>if l.length+r.length≤100000 then some (.l (l++r)) else none|_=>none)
 |_=>none
noncomputable def binA (S:Stat) (H:AH) (o:Bop) (a b:AV):Option Got1:=match a with
 |.int x=>(match b with|.int y=>(intA o x y).map fun z=>.v (.int z)|_=>none)
 |.str x=>(match b with|.str y=>(match o with|.add=>if x.length+y.length≤100 then some (.v (.str (x++y))) else none|_=>none)|_=>none)
 |a=>(match o with|.mul=>mulA (objOf S H a) b|.add=>addA (objOf S H a) (objOf S H b)|_=>none)
noncomputable def cutAt (n:Nat) (v:AV) (d:Nat):Option Nat:=match v with
 |.none=>some d
 |.int i=>some (if i<0 then (n+i).toNat else min i.toNat n)
 |_=>none
noncomputable def cutL {α:Type} (l:List α) (lo hi:AV):Option (List α):=(cutAt l.length lo 0).bind fun a=>(cutAt l.length hi l.length).map fun b=>(l.take b).drop a
noncomputable def cutA (S:Stat) (H:AH) (v lo hi:AV):Option Got1:=match v with
 |.str l=>if l.length≤1000000 then (cutL l lo hi).map fun r=>.v (.str r) else none
 |v=>match objOf S H v with
  |some (.list l)=>if l.length≤1000000 then (cutL l lo hi).map .l else none
  |_=>none
inductive Res where
 |ok (v:AV)
 |exc (n:AV)
noncomputable abbrev Post:=Res→AH→Prop
noncomputable abbrev Callee:=Addr→List AV→Post→AH→Prop
def newO (H:AH) (o:AO) (Q:AV→AH→Prop):Prop:=Q .junk H∨∃a,H a=none∧Q (.ref a) (upd H a o)
noncomputable def putAll {K:Type} [DecidableEq K] (f:AV→Option K) (l:List (AV×AV)) (acc:List (K×AV)):Option (List (K×AV)):=match l with
 |[]=>some acc
 |p::r=>match f p.1 with
  |some k=>putAll f r (stq acc k p.2)
  |none=>none
theorem putAll_I {K:Type} [DecidableEq K] {f:AV→Option K} {p:AV×AV} {r:List (AV×AV)} {acc o:List (K×AV)} {C:Prop} (e:putAll f (p::r) acc=some o) (k:∀x,f p.1=some x→putAll f r (stq acc x p.2)=some o→C):C:=by
 have g:putAll f (p::r) acc=(match f p.1 with|some k=>putAll f r (stq acc k p.2)|none=>none):=rfl;rw[g] at e;cases h:f p.1 with
 |none=>rw[h] at e; exact (noS e).elim
 |some x=>rw[h] at e; exact k x h e
noncomputable def str?:AV→Option (List Nat)
 |.str x=>some x
 |_=>none
noncomputable def int?:AV→Option Int
 |.int x=>some x
 |_=>none
def dictO (H:AH) (l:List (AV×AV)) (Q:AV→AH→Prop):Prop:=match l with
 |[]=>newO H (.sd []) Q∨newO H (.id []) Q∨newO H (.td []) Q
 |p::_=>match p.1 with
  |.str _=>oK (putAll str? l []) fun o=>newO H (.sd o) Q
  |.int _=>oK (putAll int? l []) fun o=>newO H (.id o) Q
  |.tup _=>oK (putAll tk l []) fun o=>newO H (.td o) Q
  |_=>False
noncomputable def pairUp:List AV→List (AV×AV)
 |[]=>[]
 |[_]=>[]
 |a::b::r=>(a,b)::pairUp r
def got (H:AH) (g:Option Got1) (Q:AV→AH→Prop):Prop:=match g with
 |some (.v a)=>Q a H
 |some (.l l)=>newO H (.list l) Q
 |none=>False
noncomputable def onRes (Q X:AV→AH→Prop) (r:Res):AH→Prop:=match r with
 |.ok v=>Q v
 |.exc x=>X x
noncomputable abbrev nAppend:Nat:=8
noncomputable abbrev nPop:Nat:=9
noncomputable abbrev nGet:Nat:=7
noncomputable def getD (o:Option AO) (k d:AV):Option AV:=match o with
 |some (.list _)=>none
 |some (.sd l)=>(match k with|.str x=>some ((lk l x).getD d)|_=>none)
 |some (.id l)=>(match k with|.int i=>some ((lk l i).getD d)|_=>none)
 |some (.td l)=>(tk k).map fun t=>(lk l t).getD d
 |_=>none
set_option genCtorIdx false in
inductive MK where
 |app|pop|get
 |fn (f:Addr)
noncomputable def methO (S:Stat) (H:AH) (o:Option AO) (n:Nat):Option MK:=match o with
 |some (.list _)=>if n=nAppend then some .app else if n=nPop then some .pop else none
 |some (.inst C d)=>(match H d with
  |some (.ns l)=>if nsGet l n=none then (S.meth C n).map .fn else none
  |_=>none)
 |some (.sd _)=>if n=nGet then some .get else none
 |some (.id _)=>if n=nGet then some .get else none
 |some (.td _)=>if n=nGet then some .get else none
 |_=>none
noncomputable def methOf (S:Stat) (H:AH) (v:AV) (n:Nat):Option MK:=methO S H (objOf S H v) n
def appQ (v:AV) (vs:List AV) (Q:AV→AH→Prop) (H:AH):Prop:=match v,vs with
 |.ref a,[x]=>(match H a with
  |some (.list l)=>l.length<100000∧Q .none (upd H a (.list (l++[x])))
  |_=>False)
 |_,_=>False
def popQ (v:AV) (vs:List AV) (Q:AV→AH→Prop) (H:AH):Prop:=match v,vs with
 |.ref a,[]=>(match H a with
  |some (.list l)=>l.length<100000∧oK l.getLast? fun x=>Q x (upd H a (.list l.dropLast))
  |_=>False)
 |_,_=>False
def getQ (S:Stat) (v:AV) (vs:List AV) (Q:AV→AH→Prop) (H:AH):Prop:=match vs with
 |[k]=>oK (getD (objOf S H v) k .none) fun r=>Q r H
 |[k,d]=>oK (getD (objOf S H v) k d) fun r=>Q r H
 |_=>False
noncomputable def methA (S:Stat) (call:Callee) (k:MK) (v:AV) (vs:List AV) (Q X:AV→AH→Prop) (H:AH):Prop :=
 match k with
 |.app=>appQ v vs Q H
 |.pop=>popQ v vs Q H
 |.get=>getQ S v vs Q H
 |.fn f=>call f (v::vs) (onRes Q X) H
theorem iS {α:Type} {c:Prop} [Decidable c] {x:Option α} {r:α} {C:Prop} (e:(if c then x else none)=some r) (k:c→x=some r→C):C:=by
 by_cases h:c
 ·rw[if_pos h] at e; exact k h e
 ·rw[if_neg h] at e; exact (noS e).elim
theorem lstS {α:Type} {o:Option AO} {f:List AV→Option α} {r:α} {C:Prop} (e:(match (generalizing:=false) o with|some (.list l)=>f l|_=>none)=some r) (k:∀l,o=some (.list l)→f l=some r→C):C:=by
 induction o using Option.casesOn with
 |none=>exact (noS e).elim
 |some o=>induction o using AO.casesOn<;>first|exact (noS e).elim|exact k _ rfl e
theorem lstP {o:Option AO} {f:List AV→Prop} {C:Prop} (e:match (generalizing:=false) o with|some (.list l)=>f l|_=>False) (k:∀l,o=some (.list l)→f l→C):C:=by
 induction o using Option.casesOn with
 |none=>exact e.elim
 |some o=>induction o using AO.casesOn<;>first|exact e.elim|exact k _ rfl e
theorem nsS {α:Type} {o:Option AO} {f:List (Nat×AV)→Option α} {r:α} {C:Prop} (e:(match (generalizing:=false) o with|some (.ns l)=>f l|_=>none)=some r) (k:∀l,o=some (.ns l)→f l=some r→C):C:=by
 induction o using Option.casesOn with
 |none=>exact (noS e).elim
 |some o=>induction o using AO.casesOn<;>first|exact (noS e).elim|exact k _ rfl e
theorem insS {α:Type} {o:Option AO} {f:Addr→AA→Option α} {r:α} {C:Prop} (e:(match (generalizing:=false) o with|some (.inst c d)=>f c d|_=>none)=some r) (k:∀c d,o=some (.inst c d)→f c d=some r→C):C:=by
 induction o using Option.casesOn with
 |none=>exact (noS e).elim
 |some o=>induction o using AO.casesOn<;>first|exact (noS e).elim|exact k _ _ rfl e
theorem refS {α:Type} {v:AV} {f:AA→Option α} {r:α} {C:Prop} (e:(match (generalizing:=false) v with|.ref x=>f x|_=>none)=some r) (k:∀x,v = .ref x→f x=some r→C):C:=by
 induction v using AV.casesOn<;>first|exact (noS e).elim|exact k _ rfl e
theorem getA_I {S:Stat} {H:AH} {v r:AV} {n:Nat} {C:Prop} (e:getA S H v n=some r) (k:∀x c d l,v = .ref x→H x=some (.inst c d)→H d=some (.ns l)→S.plain c n=true→nsGet l n=some r→C):C :=
 refS e fun x e1 e=>insS e fun c d e2 e=>nsS e fun l e3 e=>iS e fun e4 e=>k x c d l e1 e2 e3 e4 e
theorem tupS {α:Type} {v:AV} {f:List AV→Option α} {g:AV→Option α} {r:α} {C:Prop} (e:(match (generalizing:=false) v with|.tup l=>f l|v=>g v)=some r) (k1:∀l,v = .tup l→f l=some r→C) (k2:(∀l,v≠.tup l)→g v=some r→C):C:=by
 induction v using AV.casesOn<;>first|exact k1 _ rfl e|exact k2 (fun _=>AV.noConfusion) e
theorem getA_ref {S:Stat} {H:AH} {x d:AA} {c:Addr} {l:List (Nat×AV)} {n:Nat} {r:AV} (h1:H x=some (.inst c d)) (h2:H d=some (.ns l)) (hp:S.plain c n=true) (hg:nsGet l n=some r):getA S H (.ref x) n=some r:=by
 show (match H x with|some (.inst C d)=>(match H d with|some (.ns l)=>if S.plain C n=true then nsGet l n else none|_=>none)|_=>none)=_
 rw[h1];show (match H d with|some (.ns l)=>if S.plain c n=true then nsGet l n else none|_=>none)=_
 rw[h2]; exact (if_pos hp).trans hg
theorem itemsA_of {S:Stat} {H:AH} {v:AV} {l:List AV} {C:Prop} (na:∀l,v≠.tup l) (e:(match (generalizing:=false) objOf S H v with|some (.list l)=>if l.length≤1000000 then some l else none|_=>none)=some l) (k:objOf S H v=some (.list l)→l.length≤1000000→C):C :=
 lstS e fun _ e1 e=>iS e fun h e=>by cases e; exact k e1 h
theorem aoI {o:Option AO} {C:Prop} (c0:o=none→C) (c1:∀l,o=some (.list l)→C) (c2:∀l,o=some (.sd l)→C) (c3:∀l,o=some (.id l)→C) (c4:∀l,o=some (.td l)→C) (c5:∀l,o=some (.ns l)→C) (c6:∀c d,o=some (.inst c d)→C):C:=by
 have g:∀o',o=some o'→C:=fun o' h=>by
  induction o' using AO.casesOn with
  |list l=>exact c1 l h
  |sd l=>exact c2 l h
  |id l=>exact c3 l h
  |td l=>exact c4 l h
  |ns l=>exact c5 l h
  |inst a d=>exact c6 a d h
 clear c1 c2 c3 c4 c5 c6;induction o using Option.casesOn with
 |none=>exact c0 rfl
 |some o=>exact g o rfl
theorem intS {α:Type} {v:AV} {f:Int→Option α} {r:α} {C:Prop} (e:(match (generalizing:=false) v with|.int x=>f x|_=>none)=some r) (k:∀x,v = .int x→f x=some r→C):C:=by
 induction v using AV.casesOn<;>first|exact (noS e).elim|exact k _ rfl e
theorem strS {α:Type} {v:AV} {f:List Nat→Option α} {r:α} {C:Prop} (e:(match (generalizing:=false) v with|.str x=>f x|_=>none)=some r) (k:∀x,v = .str x→f x=some r→C):C:=by
 induction v using AV.casesOn<;>first|exact (noS e).elim|exact k _ rfl e
theorem getO_I {o:Option AO} {k r:AV} {C:Prop} (e:getO o k=some r) (k1:∀l i,o=some (.list l)→k = .int i→nth l i=some r→C) (k2:∀l x,o=some (.sd l)→k = .str x→lk l x=some r→C)
 (k3:∀l i,o=some (.id l)→k = .int i→lk l i=some r→C) (k4:∀l t,o=some (.td l)→tk k=some t→lk l t=some r→C):C :=
 aoI (fun h=>(noS ((congrArg (getO · k) h).symm.trans e)).elim) (fun l h=>intS (v:=k) (f:=nth l) ((congrArg (getO · k) h).symm.trans e) fun i q e=>k1 l i h q e) (fun l h=>strS (v:=k) (f:=lk l) ((congrArg (getO · k) h).symm.trans e) fun i q e=>k2 l i h q e) (fun l h=>intS (v:=k) (f:=lk l) ((congrArg (getO · k) h).symm.trans e) fun i q e=>k3 l i h q e)
  (fun l h=>E12 (Option.bind_eq_some_iff.mp ((congrArg (getO · k) h).symm.trans e)) fun t q e=>k4 l t h q e) (fun _ h=>(noS ((congrArg (getO · k) h).symm.trans e)).elim) fun _ _ h=>(noS ((congrArg (getO · k) h).symm.trans e)).elim
theorem getD_I {o:Option AO} {k d r:AV} {C:Prop} (e:getD o k d=some r) (k2:∀l x,o=some (.sd l)→k = .str x→(lk l x).getD d=r→C)
 (k3:∀l i,o=some (.id l)→k = .int i→(lk l i).getD d=r→C) (k4:∀l t,o=some (.td l)→tk k=some t→(lk l t).getD d=r→C):C :=
 aoI (fun h=>(noS ((congrArg (getD · k d) h).symm.trans e)).elim) (fun _ h=>(noS ((congrArg (getD · k d) h).symm.trans e)).elim) (fun l h=>strS (v:=k) (f:=fun x=>some ((lk l x).getD d)) ((congrArg (getD · k d) h).symm.trans e) fun i q e=>k2 l i h q (Option.some.inj e)) (fun l h=>intS (v:=k) (f:=fun x=>some ((lk l x).getD d)) ((congrArg (getD · k d) h).symm.trans e) fun i q e=>k3 l i h q (Option.some.inj e))
  (fun l h=>E12 (Option.map_eq_some_iff.mp ((congrArg (getD · k d) h).symm.trans e)) fun t q e=>k4 l t h q e) (fun _ h=>(noS ((congrArg (getD · k d) h).symm.trans e)).elim) fun _ _ h=>(noS ((congrArg (getD · k d) h).symm.trans e)).elim
theorem methOf_I {S:Stat} {H:AH} {v:AV} {n:Nat} {m:MK} {C:Prop} (e:methOf S H v n=some m) (k1:∀l,objOf S H v=some (.list l)→n=nAppend→.app=m→C) (k2:∀l,objOf S H v=some (.list l)→n=nPop→.pop=m→C)
 (k3:∀c d l f,objOf S H v=some (.inst c d)→H d=some (.ns l)→nsGet l n=none→S.meth c n=some f→.fn f=m→C)
 (k4:∀l,objOf S H v=some (.sd l)→n=nGet→.get=m→C) (k5:∀l,objOf S H v=some (.id l)→n=nGet→.get=m→C) (k6:∀l,objOf S H v=some (.td l)→n=nGet→.get=m→C):C :=
 have e':methO S H (objOf S H v) n=some m:=e;aoI (fun h=>(noS ((congrArg (methO S H · n) h).symm.trans e')).elim)
  (fun l h=>(Decidable.em (n=nAppend)).elim (fun q=>k1 l h q (Option.some.inj ((if_pos q).symm.trans ((congrArg (methO S H · n) h).symm.trans e'))))
   fun q=>iS ((if_neg q).symm.trans ((congrArg (methO S H · n) h).symm.trans e')) fun q e=>k2 l h q (Option.some.inj e))
  (fun l h=>iS ((congrArg (methO S H · n) h).symm.trans e') fun q e=>k4 l h q (Option.some.inj e)) (fun l h=>iS ((congrArg (methO S H · n) h).symm.trans e') fun q e=>k5 l h q (Option.some.inj e)) (fun l h=>iS ((congrArg (methO S H · n) h).symm.trans e') fun q e=>k6 l h q (Option.some.inj e))
  (fun _ h=>(noS ((congrArg (methO S H · n) h).symm.trans e')).elim)
  fun c d h=>nsS ((congrArg (methO S H · n) h).symm.trans e') fun l e1 e=>iS e fun e2 e=>E12 (Option.map_eq_some_iff.mp e) fun f q e=>k3 c d l f h e1 e2 q e
theorem lenA_I {S:Stat} {H:AH} {v:AV} {n:Nat} {C:Prop} (e:lenA S H v=some n) (k1:∀l,v = .tup l→l.length=n→C) (k2:∀l,objOf S H v=some (.list l)→l.length≤1000000→l.length=n→C):C :=
 tupS e (fun l e1 e=>k1 l e1 (Option.some.inj e)) fun _ e=>lstS e fun l e1 e=>iS e fun h e=>k2 l e1 h (Option.some.inj e)
theorem oneL_some {β:Type} {l:List β} {x:β} (e:oneL l=some x):l=[x]:=by
 match l,e with
 |[],e=>exact (noS e).elim
 |[y],e=>rw[Option.some.inj e]
 |_::_::_,e=>exact (noS e).elim
theorem gotV {H:AH} {g:Got1} {Q:AV→AH→Prop} {a:AV} (e:.v a=g) (h:got H (some g) Q):Q a H:=by subst e; exact h
theorem gotL {H:AH} {g:Got1} {Q:AV→AH→Prop} {l:List AV} (e:.l l=g) (h:got H (some g) Q):newO H (.list l) Q:=by subst e; exact h
theorem mulA_I {o:Option AO} {b:AV} {g:Got1} {C:Prop} (e:mulA o b=some g) (k:∀x n,o=some (.list [x])→b = .int n→0≤n∧n≤65536→.l (List.replicate n.toNat x)=g→C):C :=
 lstS e fun l ho e=>E12 (Option.bind_eq_some_iff.mp e) fun x hl e=>intS e fun n hb e=>iS e fun h e=>k x n (oneL_some hl▸ho) hb h (Option.some.inj e)
theorem addA_I {o p:Option AO} {g:Got1} {C:Prop} (e:addA o p=some g) (k:∀l r,o=some (.list l)→p=some (.list r)→l.length+r.length≤100000→.l (l++r)=g→C):C :=
 lstS e fun l ho e=>lstS e fun r hp e=>iS e fun h e=>k l r ho hp h (Option.some.inj e)
theorem bopS {α:Type} {o:Bop} {x y:Option α} {r:α} {C:Prop} (e:(match (generalizing:=false) o with|.mul=>x|.add=>y|_=>none)=some r) (k1:o = .mul→x=some r→C) (k2:o = .add→y=some r→C):C:=by
 cases o<;>first|exact (noS e).elim|exact k1 rfl e|exact k2 rfl e
theorem bopA {α:Type} {o:Bop} {y:Option α} {r:α} {C:Prop} (e:(match (generalizing:=false) o with|.add=>y|_=>none)=some r) (k2:o = .add→y=some r→C):C:=by
 cases o<;>first|exact (noS e).elim|exact k2 rfl e
theorem isfS {α:Type} {v:AV} {f:Int→Option α} {g:List Nat→Option α} {h:AV→Option α} {r:α} {C:Prop} (e:(match (generalizing:=false) v with|.int x=>f x|.str x=>g x|a=>h a)=some r)
 (k1:∀x,v = .int x→f x=some r→C) (k2:∀x,v = .str x→g x=some r→C) (k3:h v=some r→C):C:=by
 induction v using AV.casesOn<;>first|exact k1 _ rfl e|exact k2 _ rfl e|exact k3 e
theorem binA_S {S:Stat} {H:AH} {o:Bop} {a b:AV} {g:Got1} {C:Prop} (e:binA S H o a b=some g) (k1:∀x y z,a = .int x→b = .int y→intA o x y=some z→.v (.int z)=g→C) (k2:∀x y,o = .add→a = .str x→b = .str y→x.length+y.length≤100→.v (.str (x++y))=g→C)
 (k3:∀x n,o = .mul→b = .int n→objOf S H a=some (.list [x])→0≤n∧n≤65536→.l (List.replicate n.toNat x)=g→C) (k4:∀l r,o = .add→objOf S H a=some (.list l)→objOf S H b=some (.list r)→l.length+r.length≤100000→.l (l++r)=g→C):C :=
 isfS e (fun x ea e=>intS e fun y eb e=>E12 (Option.map_eq_some_iff.mp e) fun z h e=>k1 x y z ea eb h e)
  (fun x ea e=>strS e fun y eb e=>bopA e fun eo e=>iS e fun h e=>k2 x y eo ea eb h (Option.some.inj e))
  fun e=>bopS e (fun eo e=>mulA_I e fun x n h1 h2 h3 e=>k3 x n eo h2 h1 h3 e) fun eo e=>addA_I e fun l r h1 h2 h3 e=>k4 l r eo h1 h2 h3 e
theorem got_S {H:AH} {g:Option Got1} {Q:AV→AH→Prop} {C:Prop} (h:got H g Q) (k:∀g',g=some g'→got H (some g') Q→C):C:=match g,h with
 |some g,h=>k g rfl h
 |none,h=>h.elim
theorem binA_I {S:Stat} {H:AH} {o:Bop} {a b:AV} {Q:AV→AH→Prop} {C:Prop} (h:got H (binA S H o a b) Q) (k1:∀x y z,a = .int x→b = .int y→intA o x y=some z→Q (.int z) H→C) (k2:∀x y,o = .add→a = .str x→b = .str y→x.length+y.length≤100→Q (.str (x++y)) H→C)
 (k3:∀x n,o = .mul→b = .int n→objOf S H a=some (.list [x])→0≤n∧n≤65536→newO H (.list (List.replicate n.toNat x)) Q→C) (k4:∀l r,o = .add→objOf S H a=some (.list l)→objOf S H b=some (.list r)→l.length+r.length≤100000→newO H (.list (l++r)) Q→C):C :=
 got_S h fun _ e h=>binA_S e (fun x y z h1 h2 h3 e=>k1 x y z h1 h2 h3 (gotV e h)) (fun x y h1 h2 h3 h4 e=>k2 x y h1 h2 h3 h4 (gotV e h)) (fun x n h1 h2 h3 h4 e=>k3 x n h1 h2 h3 h4 (gotL e h)) fun l r h1 h2 h3 h4 e=>k4 l r h1 h2 h3 h4 (gotL e h)
theorem inO_I {o:Option AO} {k:AV} {t:Bool} {C:Prop} (e:inO o k=some t) (k2:∀l x,o=some (.sd l)→k = .str x→(lk l x).isSome=t→C) (k3:∀l i,o=some (.id l)→k = .int i→(lk l i).isSome=t→C) (k4:∀l t',o=some (.td l)→tk k=some t'→(lk l t').isSome=t→C):C :=
 aoI (fun h=>(noS ((congrArg (inO · k) h).symm.trans e)).elim) (fun _ h=>(noS ((congrArg (inO · k) h).symm.trans e)).elim) (fun l h=>strS (v:=k) (f:=fun x=>some (lk l x).isSome) ((congrArg (inO · k) h).symm.trans e) fun i q e=>k2 l i h q (Option.some.inj e))
  (fun l h=>intS (v:=k) (f:=fun x=>some (lk l x).isSome) ((congrArg (inO · k) h).symm.trans e) fun i q e=>k3 l i h q (Option.some.inj e))
  (fun l h=>E12 (Option.map_eq_some_iff.mp ((congrArg (inO · k) h).symm.trans e)) fun t q e=>k4 l t h q e) (fun _ h=>(noS ((congrArg (inO · k) h).symm.trans e)).elim) fun _ _ h=>(noS ((congrArg (inO · k) h).symm.trans e)).elim
theorem rS {α:Type} {v:AV} {f:AA→Option α} {g:AV→Option α} {r:α} {C:Prop} (e:(match (generalizing:=false) v with|.ref x=>f x|v=>g v)=some r) (k1:∀l,v = .ref l→f l=some r→C) (k2:g v=some r→C):C:=by
 induction v using AV.casesOn<;>first|exact k1 _ rfl e|exact k2 e
theorem eqA_I {H:AH} {a b:AV} {t:Bool} {C:Prop} (e:eqA H a b=some t) (k1:∀x y l r,a = .ref x→b = .ref y→H x=some (.list l)→H y=some (.list r)→(areData l&&areData r&&decide (deeps l≤8)&&decide (deeps r≤8))=true→avEqs l r=t→C)
 (k2:(isData a&&isData b&&decide (deep a≤8)&&decide (deep b≤8))=true→avEq a b=t→C):C :=
 rS e (fun x ea e=>refS e fun y eb e=>lstS e fun l h1 e=>lstS e fun r h2 e=>iS e fun h e=>k1 x y l r ea eb h1 h2 h (Option.some.inj e)) fun e=>iS e fun h e=>k2 h (Option.some.inj e)
theorem cutL_I {α:Type} {l r:List α} {lo hi:AV} {C:Prop} (e:cutL l lo hi=some r) (k:∀a b,cutAt l.length lo 0=some a→cutAt l.length hi l.length=some b→r=(l.take b).drop a→C):C :=
 E12 (Option.bind_eq_some_iff.mp e) fun a h1 e=>E12 (Option.map_eq_some_iff.mp e) fun b h2 e=>k a b h1 h2 e.symm
theorem ordV_I {o:Cop} {a b:AV} {t:Bool} {C:Prop} (e:ordV o a b=some t) (k:∀x y,a = .int x→b = .int y→ordA o x y=some t→C):C:=intS e fun x ea e=>intS e fun y eb e=>k x y ea eb e
theorem strTS {α:Type} {v:AV} {f:List Nat→Option α} {g:AV→Option α} {r:α} {C:Prop} (e:(match (generalizing:=false) v with|.str l=>f l|v=>g v)=some r) (k1:∀l,v = .str l→f l=some r→C) (k2:g v=some r→C):C:=by
 induction v using AV.casesOn<;>first|exact k1 _ rfl e|exact k2 e
theorem cutA_I {S:Stat} {H:AH} {v lo hi:AV} {Q:AV→AH→Prop} {C:Prop} (h:got H (cutA S H v lo hi) Q) (k1:∀l r,v = .str l→cutL l lo hi=some r→Q (.str r) H→l.length≤1000000→C) (k2:∀l r,objOf S H v=some (.list l)→cutL l lo hi=some r→newO H (.list r) Q→l.length≤1000000→C):C :=
 got_S h fun _ e h=>strTS e (fun l ea e=>iS e fun z e=>E12 (Option.map_eq_some_iff.mp e) fun r hr e=>k1 l r ea hr (gotV e h) z) fun e=>lstS e fun l ho e=>iS e fun z e=>E12 (Option.map_eq_some_iff.mp e) fun r hr e=>k2 l r ho hr (gotL e h) z
theorem getI_I {S:Stat} {H:AH} {v k r:AV} {C:Prop} (e:getI S H v k=some r) (k1:∀l i,v = .tup l→k = .int i→nth l i=some r→C) (k2:∀l i c,v = .str l→k = .int i→nth l i=some c→.str [c]=r→C) (k3:getO (objOf S H v) k=some r→C):C:=by
 have a:∀l,v = .tup l→C:=fun l h=>by subst h; exact intS (v:=k) (f:=nth l) e fun i h e=>k1 l i rfl h e
 have b:∀l,v = .str l→C:=fun l h=>by subst h; exact intS (v:=k) (f:=fun i=>(nth l i).map fun c=>AV.str [c]) e fun i h e=>E12 (Option.map_eq_some_iff.mp e) fun c q e=>k2 l i c rfl h q e
 clear k1 k2;induction v using AV.casesOn<;>first|exact a _ rfl|exact b _ rfl|exact k3 e
theorem appQ_I {v:AV} {vs:List AV} {Q:AV→AH→Prop} {H:AH} {C:Prop} (h:appQ v vs Q H) (k:∀a x l,v = .ref a→vs=[x]→H a=some (.list l)→l.length<100000→Q .none (upd H a (.list (l++[x])))→C):C:=by
 induction v using AV.casesOn with
 |ref a=>match vs,h with
  |[x],h=>exact lstP h fun l e h=>k a x l rfl rfl e h.1 h.2
 |_=>exact h.elim
theorem popQ_I {v:AV} {vs:List AV} {Q:AV→AH→Prop} {H:AH} {C:Prop} (h:popQ v vs Q H) (k:∀a l x,v = .ref a→vs=[]→H a=some (.list l)→l.length<100000→l.getLast? = some x→Q x (upd H a (.list l.dropLast))→C):C:=by
 induction v using AV.casesOn with
 |ref a=>match vs,h with
  |[],h=>exact lstP h fun l e h=>oK_I h.2 fun x e1 q=>k a l x rfl rfl e h.1 e1 q
 |_=>exact h.elim
theorem getQ_I {S:Stat} {v:AV} {vs:List AV} {Q:AV→AH→Prop} {H:AH} {C:Prop} (h:getQ S v vs Q H) (k1:∀k r,vs=[k]→getD (objOf S H v) k .none=some r→Q r H→C) (k2:∀k d r,vs=[k,d]→getD (objOf S H v) k d=some r→Q r H→C):C:=by
 match vs,h with
 |[k],h=>exact oK_I h fun r e q=>k1 _ _ rfl e q
 |[k,d],h=>exact oK_I h fun r e q=>k2 _ _ _ rfl e q
noncomputable def makeA (S:Stat) (call:Callee) (C:Addr) (vs:List AV) (Q X:AV→AH→Prop) (H:AH):Prop :=
 ∃x d,H x=none∧H d=none∧x≠d∧oK (S.init C) fun i=>match i with
  |some f=>call f (.ref x::vs) (onRes (fun r H=>r = .none∧Q (.ref x) H) X) (upd (upd H d (.ns [])) x (.inst C d))
  |none=>vs=[]∧Q (.ref x) (upd (upd H d (.ns [])) x (.inst C d))
noncomputable def itemsA (S:Stat) (H:AH):AV→Option (List AV)
 |.tup l=>some l
 |v=>match objOf S H v with
  |some (.list l)=>if l.length≤1000000 then some l else none
  |_=>none
noncomputable def itemsF (S:Stat) (H:AH):AV→Option (List AV)
 |.tup l=>some l
 |v=>match objOf S H v with
  |some (.list l)=>(match l with|[]=>some []|_::_=>none)
  |_=>none
noncomputable abbrev Loc:=Nat→Option AV
noncomputable def setL (ρ:Loc) (i:Nat) (v:AV):Loc:=fun j=>if j=i then some v else ρ j
noncomputable def setLs (ρ:Loc):List Nat→List AV→Loc
 |i::r,v::t=>setLs (setL ρ i v) r t
 |[],_=>ρ
 |_::_,[]=>ρ
section
variable (S:Stat) (call:Callee)
noncomputable def ifQ (f g:AH→Prop) (t:Bool):AH→Prop:=if t=true then f else g
noncomputable def tru (Q:Bool→AH→Prop) (v:AV):AH→Prop:=fun H=>oK (truthA S H v) fun t=>Q t H
mutual
noncomputable def ewp:(X:AV→AH→Prop)→ME→Loc→(AV→AH→Prop)→AH→Prop
 |X,.val v,_,Q=>Q v
 |X,.loc i,ρ,Q=>fun H=>oK (ρ i) fun v=>Q v H
 |X,.attr e n,ρ,Q=>ewp X e ρ fun v H=>oK (getA S H v n) fun r=>Q r H
 |X,.sub e i,ρ,Q=>ewp X e ρ fun v=>ewp X i ρ fun k H=>oK (getI S H v k) fun r=>Q r H
 |X,.cut e lo hi,ρ,Q=>ewp X e ρ fun v=>ewp X lo ρ fun a=>ewp X hi ρ fun b H=>got H (cutA S H v a b) Q
 |X,.call f as,ρ,Q=>ewps X as ρ fun vs=>call f vs (onRes Q X)
 |X,.make C as,ρ,Q=>ewps X as ρ fun vs=>makeA S call C vs Q X
 |X,.meth e n as,ρ,Q=>ewp X e ρ fun v H=>oK (methOf S H v n) fun k=>ewps X as ρ (fun vs=>methA S call k v vs Q X) H
 |X,.len e,ρ,Q=>ewp X e ρ fun v H=>oK (lenA S H v) fun n=>Q (.int n) H
 |X,.range _,_,_=>fun _=>False
 |X,.tupOf e,ρ,Q=>ewp X e ρ fun v H=>match objOf S H v with|some (.list l)=>l.length≤1000000∧Q (.tup l) H|_=>False
 |X,.bin o l r,ρ,Q=>ewp X l ρ fun a=>ewp X r ρ fun b H=>got H (binA S H o a b) Q
 |X,.cmp o l r,ρ,Q=>ewp X l ρ fun a=>ewp X r ρ fun b H=>oK (cmpA S H o a b) fun t=>Q (.bool t) H
 |X,.and l,ρ,Q=>andp X l ρ Q
 |X,.or l,ρ,Q=>orp X l ρ Q
 |X,.not e,ρ,Q=>ewp X e ρ fun v H=>oK (truthA S H v) fun t=>Q (.bool (!t)) H
 |X,.neg e,ρ,Q=>ewp X e ρ fun v H=>match v with|.int i=>Q (.int (-i)) H|_=>False
 |X,.ite c a b,ρ,Q=>cwp X c ρ (ifQ (ewp X a ρ Q) (ewp X b ρ Q))
 |X,.tup l,ρ,Q=>ewps X l ρ fun vs=>Q (.tup vs)
 |X,.list l,ρ,Q=>ewps X l ρ fun vs H=>newO H (.list vs) Q
 |X,.dict l,ρ,Q=>ewps X l ρ fun vs H=>dictO H (pairUp vs) Q
 |X,.comp e i it ifs,ρ,Q=>ewp X it ρ fun v H=>match v with
  |.tup l=>List.foldr (fun x k acc=>cands (fun _ _=>False) ifs (setL ρ i x) fun t=>if t=true then ewp (fun _ _=>False) e (setL ρ i x) fun y=>k (acc++[y]) else k acc) (fun acc H=>newO H (.list acc) Q) l [] H
  |v=>(match e,ifs with
   |.loc j,[]=>if j=i then oK (itemsA S H v) fun l=>newO H (.list l) Q else False
   |_,_=>False)
noncomputable def ewps:(X:AV→AH→Prop)→List ME→Loc→(List AV→AH→Prop)→AH→Prop
 |X,[],_,Q=>Q []
 |X,e::r,ρ,Q=>ewp X e ρ fun v=>ewps X r ρ fun vs=>Q (v::vs)
noncomputable def andp:(X:AV→AH→Prop)→List ME→Loc→(AV→AH→Prop)→AH→Prop
 |X,[],_,_=>fun _=>False
 |X,e::r,ρ,Q=>ewp X e ρ fun v H=>if r.isEmpty=true then Q v H else oK (truthA S H v) fun t=>if t=true then andp X r ρ Q H else Q v H
noncomputable def orp:(X:AV→AH→Prop)→List ME→Loc→(AV→AH→Prop)→AH→Prop
 |X,[],_,_=>fun _=>False
 |X,e::r,ρ,Q=>ewp X e ρ fun v H=>if r.isEmpty=true then Q v H else oK (truthA S H v) fun t=>if t=true then Q v H else orp X r ρ Q H
noncomputable def cwp:(X:AV→AH→Prop)→ME→Loc→(Bool→AH→Prop)→AH→Prop
 |X,.not e,ρ,Q=>cwp X e ρ fun t=>Q (!t)
 |X,.and l,ρ,Q=>cands X l ρ Q
 |X,.or l,ρ,Q=>cors X l ρ Q
 |X,.cmp o l r,ρ,Q=>ewp X l ρ fun a=>ewp X r ρ fun b H=>oK (cmpA S H o a b) fun t=>Q t H
 |X,.call f as,ρ,Q=>ewps X as ρ fun vs=>call f vs (onRes (tru S Q) X)
 |X,.loc i,ρ,Q=>fun H=>oK (ρ i) fun v=>tru S Q v H
 |X,.sub e i,ρ,Q=>ewp X e ρ fun v=>ewp X i ρ fun k H=>oK (getI S H v k) fun r=>tru S Q r H
 |X,.bin o l r,ρ,Q=>ewp X l ρ fun a=>ewp X r ρ fun b H=>got H (binA S H o a b) (tru S Q)
 |X,.meth e n as,ρ,Q=>ewp X e ρ fun v H=>oK (methOf S H v n) fun k=>ewps X as ρ (fun vs=>methA S call k v vs (tru S Q) X) H
 |X,_,_,_=>fun _=>False
noncomputable def cands:(X:AV→AH→Prop)→List ME→Loc→(Bool→AH→Prop)→AH→Prop
 |X,[],_,Q=>Q true
 |X,e::r,ρ,Q=>cwp X e ρ (ifQ (cands X r ρ Q) (Q false))
noncomputable def cors:(X:AV→AH→Prop)→List ME→Loc→(Bool→AH→Prop)→AH→Prop
 |X,[],_,Q=>Q false
 |X,e::r,ρ,Q=>cwp X e ρ (ifQ (Q true) (cors X r ρ Q))
end
end
section
variable (S:Stat) (call:Callee)
noncomputable def rangeL (lo hi:Int):List AV:=(List.range (hi - lo).toNat).map fun (i:Nat)=>.int (lo+(i:Int))
def setO (H:AH) (a:AA) (o:Option AO) (k x:AV) (N:AH→Prop):Prop:=match o with
 |some (.list l)=>(match k with|.int i=>0≤i∧i<1000000∧i.toNat<l.length∧N (upd H a (.list (l.set i.toNat x)))|_=>False)
 |some (.sd l)=>(match k with|.str y=>l.length<1000∧N (upd H a (.sd (stq l y x)))|_=>False)
 |some (.id l)=>(match k with|.int i=>l.length<1000∧N (upd H a (.id (stq l i x)))|_=>False)
 |some (.td l)=>l.length<1000∧oK (tk k) fun t=>N (upd H a (.td (stq l t x)))
 |_=>False
def setI (H:AH) (v k x:AV) (N:AH→Prop):Prop:=match v with
 |.ref a=>setO H a (H a) k x N
 |_=>False
def putA (S:Stat) (H:AH) (v:AV) (n:Nat) (x:AV) (N:AH→Prop):Prop:=match v with
 |.ref a=>(match H a with
  |some (.inst C d)=>(match H d with
   |some (.ns l)=>l.length<100∧S.plain C n=true∧N (upd H d (.ns (nsPut l n x)))
   |_=>False)
  |_=>False)
 |_=>False
noncomputable def asgQ (t:MT) (X:Loc→AV→AH→Prop) (ρ:Loc) (N:Loc→AH→Prop):AV→AH→Prop:=match t with
 |.loc i=>fun v=>N (setL ρ i v)
 |.attr o n=>fun v=>ewp S call (X ρ) o ρ fun ov H=>putA S H ov n v (N ρ)
 |.sub o i=>fun v=>ewp S call (X ρ) o ρ fun ov=>ewp S call (X ρ) i ρ fun k H=>setI H ov k v (N ρ)
 |.unp l=>fun v H=>match v with
  |.tup vs=>vs.length=l.length∧N (setLs ρ l vs) H
  |_=>False
def augQ (i:Nat) (o:Bop) (ρ:Loc) (N:Loc→AH→Prop) (a b:AV) (H:AH):Prop:=match a with
 |.int x=>(match b with|.int y=>o = .add∧N (setL ρ i (.int (x+y))) H|_=>False)
 |_=>False
def delQ (ρ:Loc) (N:Loc→AH→Prop) (v k:AV) (H:AH):Prop:=match v with
 |.ref a=>(match k with
  |.int i=>(match H a with
   |some (.list l)=>0≤i∧i<1000000∧l.length≤1000000∧N ρ (upd H a (.list (l.take i.toNat)))
   |_=>False)
  |_=>False)
 |_=>False
def raiseQ (ρ:Loc) (Y:Loc→AV→AH→Prop) (vs:List AV) (H:AH):Prop:=match vs with
 |[v]=>Y ρ v H
 |_=>False
def kvE (r:AA) (l:List (TK×AV)) (vo:AV) (N:AH→Prop) (H:AH):Prop:=H r=some (.td l)∧(match vo with|.ref q=>q≠r|_=>False)∧N H
noncomputable def kvQ (i:Nat) (r:AA) (l:List (TK×AV)) (ob e1 e2 e3:ME) (p:TK×AV) (k:Loc→AH→Prop) (ρ:Loc):AH→Prop:=ewp S call (fun _ _=>False) e3 (setL ρ i (tkV p.1)) fun x=>ewp S call (fun _ _=>False) ob (setL ρ i (tkV p.1)) fun vo=>ewp S call (fun _ _=>False) e1 (setL ρ i (tkV p.1)) fun a=>ewp S call (fun _ _=>False) e2 (setL ρ i (tkV p.1)) fun b H =>
 setI H vo (.tup [a,b]) x (kvE r l vo (k (setL ρ i (tkV p.1))))
def kvO (i:Nat) (ob e1 e2 e3:ME) (ρ:Loc) (N:Loc→AH→Prop) (v:AV) (H:AH):Prop:=match v with
 |.ref r=>(match H r with
  |some (.td l)=>List.foldr (kvQ S call i r l ob e1 e2 e3) N l ρ H
  |_=>False)
 |_=>False
mutual
noncomputable def swp:MS→(X Y:Loc→AV→AH→Prop)→Loc→(N:Loc→AH→Prop)→(R:AV→AH→Prop)→AH→Prop
 |.asg t e,X,_,ρ,N,_=>ewp S call (X ρ) e ρ (asgQ S call t X ρ N)
 |.aug i o e,X,_,ρ,N,_=>fun H=>oK (ρ i) fun a=>ewp S call (X ρ) e ρ (augQ i o ρ N a) H
 |.ife c a b,X,Y,ρ,N,R=>cwp S call (X ρ) c ρ (ifQ (swps a X Y ρ N R) (swps b X Y ρ N R))
 |.whl c b,_,_,ρ,N,R=>Nat.rec (motive:=fun _=>Loc→AH→Prop) (fun _ _=>False) (fun _ k ρ=>cwp S call (fun _ _=>False) c ρ (ifQ (swps b (fun _ _ _=>False) (fun _ _ _=>False) ρ k R) (N ρ))) 6 ρ
 |.forr i it b,X,_,ρ,N,R =>
  let go (l:List AV):AH→Prop:=List.foldr (fun v k ρ=>swps b (fun _ _ _=>False) (fun _ _ _=>False) (setL ρ i v) k R) N l ρ
  match it with
  |.range [hi]=>ewp S call (X ρ) hi ρ fun v H=>oK (int? v) fun n=>0≤n∧n≤1000000∧go (rangeL 0 n) H
  |.range [lo,hi]=>ewp S call (X ρ) lo ρ fun u=>ewp S call (X ρ) hi ρ fun v H=>oK (int? u) fun a=>oK (int? v) fun n=>-1000000≤a∧a≤n∧n≤1000000∧go (rangeL a n) H
  |it=>ewp S call (X ρ) it ρ fun v H=>oK (itemsF S H v) fun l=>go l H
 |.forkv i it ob e1 e2 e3,_,_,ρ,N,_=>ewp S call (fun _ _=>False) it ρ (kvO S call i ob e1 e2 e3 ρ N)
 |.ret e,X,_,ρ,_,R=>ewp S call (X ρ) e ρ R
 |.expr e,X,_,ρ,N,_=>ewp S call (X ρ) e ρ fun _=>N ρ
 |.del e lo,X,_,ρ,N,_=>ewp S call (X ρ) e ρ fun v=>ewp S call (X ρ) lo ρ (delQ ρ N v)
 |.raise C args,X,Y,ρ,_,_=>fun H=>C=S.unheld∧ewps S call (X ρ) args ρ (raiseQ ρ Y) H
 |.tryl b C i j n,_,_,ρ,N,R=>fun H=>C=S.unheld∧n=28∧i≠j∧swps b (fun ρ x H=>ρ i=none∧N (setL ρ j x) H) (fun _ _ _=>False) ρ N R H
 |.pass,_,_,ρ,N,_=>N ρ
 |.cont,_,_,_,_,_=>fun _=>False
noncomputable def swps:List MS→(X Y:Loc→AV→AH→Prop)→Loc→(N:Loc→AH→Prop)→(R:AV→AH→Prop)→AH→Prop
 |[],_,_,ρ,N,_=>N ρ
 |s::r,X,Y,ρ,N,R=>swp s X Y ρ (fun ρ=>swps r X Y ρ N R) R
end
end
theorem refP {v:AV} {f:AA→Prop} {C:Prop} (e:match (generalizing:=false) v with|.ref x=>f x|_=>False) (k:∀x,v = .ref x→f x→C):C:=by
 induction v using AV.casesOn<;>first|exact e.elim|exact k _ rfl e
theorem insP {o:Option AO} {f:Addr→AA→Prop} {C:Prop} (e:match (generalizing:=false) o with|some (.inst c d)=>f c d|_=>False) (k:∀c d,o=some (.inst c d)→f c d→C):C:=by
 induction o using Option.casesOn with
 |none=>exact e.elim
 |some o=>induction o using AO.casesOn<;>first|exact e.elim|exact k _ _ rfl e
theorem nsP {o:Option AO} {f:List (Nat×AV)→Prop} {C:Prop} (e:match (generalizing:=false) o with|some (.ns l)=>f l|_=>False) (k:∀l,o=some (.ns l)→f l→C):C:=by
 induction o using Option.casesOn with
 |none=>exact e.elim
 |some o=>induction o using AO.casesOn<;>first|exact e.elim|exact k _ rfl e
theorem tdP {o:Option AO} {f:List (TK×AV)→Prop} {C:Prop} (e:match (generalizing:=false) o with|some (.td l)=>f l|_=>False) (k:∀l,o=some (.td l)→f l→C):C:=by
 induction o using Option.casesOn with
 |none=>exact e.elim
 |some o=>induction o using AO.casesOn<;>first|exact e.elim|exact k _ rfl e
theorem intP {v:AV} {f:Int→Prop} {C:Prop} (e:match (generalizing:=false) v with|.int x=>f x|_=>False) (k:∀x,v = .int x→f x→C):C:=by
 induction v using AV.casesOn<;>first|exact e.elim|exact k _ rfl e
theorem strP {v:AV} {f:List Nat→Prop} {C:Prop} (e:match (generalizing:=false) v with|.str x=>f x|_=>False) (k:∀x,v = .str x→f x→C):C:=by
 induction v using AV.casesOn<;>first|exact e.elim|exact k _ rfl e
theorem setO_I {H:AH} {a:AA} {k x:AV} {N:AH→Prop} {C:Prop} (e:setO H a (H a) k x N) (k1:∀l i,H a=some (.list l)→k = .int i→0≤i→i<1000000→i.toNat<l.length→N (upd H a (.list (l.set i.toNat x)))→C)
 (k2:∀l y,H a=some (.sd l)→k = .str y→l.length<1000→N (upd H a (.sd (stq l y x)))→C) (k3:∀l i,H a=some (.id l)→k = .int i→l.length<1000→N (upd H a (.id (stq l i x)))→C)
 (k4:∀l t,H a=some (.td l)→tk k=some t→l.length<1000→N (upd H a (.td (stq l t x)))→C):C :=
 aoI (fun h=>False.elim ((congrArg (setO H a · k x N) h).mp e)) (fun l h=>intP (v:=k) (f:=fun i=>0≤i∧i<1000000∧i.toNat<l.length∧N (upd H a (.list (l.set i.toNat x)))) ((congrArg (setO H a · k x N) h).mp e) fun i q e=>k1 l i h q e.1 e.2.1 e.2.2.1 e.2.2.2)
  (fun l h=>strP (v:=k) (f:=fun y=>l.length<1000∧N (upd H a (.sd (stq l y x)))) ((congrArg (setO H a · k x N) h).mp e) fun i q e=>k2 l i h q e.1 e.2) (fun l h=>intP (v:=k) (f:=fun i=>l.length<1000∧N (upd H a (.id (stq l i x)))) ((congrArg (setO H a · k x N) h).mp e) fun i q e=>k3 l i h q e.1 e.2)
  (fun l h=>have e:l.length<1000∧oK (tk k) fun t=>N (upd H a (.td (stq l t x))):=(congrArg (setO H a · k x N) h).mp e; oK_I e.2 fun t q n=>k4 l t h q e.1 n) (fun _ h=>False.elim ((congrArg (setO H a · k x N) h).mp e)) fun _ _ h=>False.elim ((congrArg (setO H a · k x N) h).mp e)
theorem setT_I {H:AH} {v x:AV} {ks:List AV} {N:AH→Prop} {C:Prop} (e:setI H v (.tup ks) x N) (k:∀q l t,v = .ref q→H q=some (.td l)→tk (.tup ks)=some t→l.length<1000→N (upd H q (.td (stq l t x)))→C):C :=
 refP (f:=fun a=>setO H a (H a) (.tup ks) x N) e fun q ea e=>setO_I e (fun _ _ _ h=>nomatch h) (fun _ _ _ h=>nomatch h) (fun _ _ _ h=>nomatch h) fun l t h1 h2 h3 n=>k q l t ea h1 h2 h3 n
theorem putA_I {S:Stat} {H:AH} {v x:AV} {n:Nat} {N:AH→Prop} {C:Prop} (e:putA S H v n x N) (k:∀a c d l,v = .ref a→H a=some (.inst c d)→H d=some (.ns l)→l.length<100→S.plain c n=true→N (upd H d (.ns (nsPut l n x)))→C):C :=
 refP e fun a e1 e=>insP e fun c d e2 e=>nsP e fun l e3 e=>k a c d l e1 e2 e3 e.1 e.2.1 e.2.2
theorem augQ_I {i:Nat} {o:Bop} {ρ:Loc} {N:Loc→AH→Prop} {a b:AV} {H:AH} {C:Prop} (e:augQ i o ρ N a b H) (k:∀x y,a = .int x→b = .int y→o = .add→N (setL ρ i (.int (x+y))) H→C):C :=
 intP (f:=fun x=>match (generalizing:=false) b with|.int y=>o = .add∧N (setL ρ i (.int (x+y))) H|_=>False) e fun x e1 e=>intP e fun y e2 e=>k x y e1 e2 e.1 e.2
theorem delQ_I {ρ:Loc} {N:Loc→AH→Prop} {v k:AV} {H:AH} {C:Prop} (e:delQ ρ N v k H) (c:∀a i l,v = .ref a→k = .int i→H a=some (.list l)→0≤i→i<1000000→l.length≤1000000→N ρ (upd H a (.list (l.take i.toNat)))→C):C :=
 refP (f:=fun a=>match (generalizing:=false) k with|.int i=>(match (generalizing:=false) H a with|some (.list l)=>0≤i∧i<1000000∧l.length≤1000000∧N ρ (upd H a (.list (l.take i.toNat)))|_=>False)|_=>False) e
  fun a e1 e=>intP e fun i e2 e=>lstP e fun l h e=>c a i l e1 e2 h e.1 e.2.1 e.2.2.1 e.2.2.2
theorem kvO_I {S:Stat} {call:Callee} {i:Nat} {ob e1 e2 e3:ME} {ρ:Loc} {N:Loc→AH→Prop} {v:AV} {H:AH} {C:Prop} (e:kvO S call i ob e1 e2 e3 ρ N v H) (k:∀r l,v = .ref r→H r=some (.td l)→List.foldr (kvQ S call i r l ob e1 e2 e3) N l ρ H→C):C :=
 refP e fun r h e=>tdP e fun l q e=>k r l h q e
structure Fun where
 params:Nat
 body:List MS
noncomputable def args0 (vs:List AV):Loc:=fun i=>vs[i]?
noncomputable def wpF (S:Stat) (F:Addr→Option Fun):Nat→Callee
 |0=>fun _ _ _ _=>False
 |n+1=>fun f vs Q=>match F f with
  |some d=>fun H=>vs.length=d.params∧swps S (wpF S F n) d.body (fun _ x=>Q (.exc x)) (fun _ x=>Q (.exc x)) (args0 vs) (fun _=>Q (.ok .none)) (fun v=>Q (.ok v)) H
  |none=>fun _=>False
end Mine.Internal
end
section
open PySem PySem.W PyProof.Rows PySem.Calls PySem.Spec PySem.SeqAt
namespace Mine.Internal
noncomputable abbrev strOf (l:List Nat):Str:=⟨l.toArray⟩
mutual
inductive VR (μ:AA→Addr) (D:AA→Prop) (h:Heap):AV→Value→Prop
 |none:VR μ D h .none .none
 |bool (b):VR μ D h (.bool b) (.bool b)
 |int (i t):VR μ D h (.int i) (.int i t)
 |str (l t):(∀c∈l,c<1114112)→VR μ D h (.str l) (.str (strOf l) t)
 |tup {l a o vs n}:h.get? a=some o→o.cls = .type "tuple"→o.data = .seq vs n→l.length≤1000000→VRs μ D h l vs.toList→VR μ D h (.tup l) (.ref a)
 |ref {a}:D a→VR μ D h (.ref a) (.ref (μ a))
 |glob (a):VR μ D h (.glob a) (.ref a)
 |junk {v}:handedIn v=true→VR μ D h .junk v
inductive VRs (μ:AA→Addr) (D:AA→Prop) (h:Heap):List AV→List Value→Prop
 |nil:VRs μ D h [] []
 |cons {a v l vs}:VR μ D h a v→VRs μ D h l vs→VRs μ D h (a::l) (v::vs)
end
variable {μ μ':AA→Addr} {D D':AA→Prop} {h h':Heap}
@[elab_as_elim] theorem VR.intI {i:Int} {v:Value} {C:Value→Prop} (x:VR μ D h (.int i) v) (k:∀t,C (.int i t)):C v:=by cases x; exact k _
@[elab_as_elim] theorem VR.strI {l:List Nat} {v:Value} {C:Value→Prop} (x:VR μ D h (.str l) v) (k:∀t,(∀c∈l,c<1114112)→C (.str (strOf l) t)):C v:=by cases x; exact k _ ‹_›
@[elab_as_elim] theorem VR.refI {a:AA} {v:Value} {C:Value→Prop} (x:VR μ D h (.ref a) v) (k:D a→C (.ref (μ a))):C v:=by cases x; exact k ‹_›
@[elab_as_elim] theorem VR.tupI {l:List AV} {v:Value} {C:Value→Prop} (x:VR μ D h (.tup l) v) (k:∀a o vs n,h.get? a=some o→o.cls = .type "tuple"→o.data = .seq vs n→l.length≤1000000→VRs μ D h l vs.toList→C (.ref a)):C v:=by
 cases x; exact k _ _ _ _ ‹_› ‹_› ‹_› ‹_› ‹_›
@[elab_as_elim] theorem VRs.consI {a:AV} {l:List AV} {vs:List Value} {C:List Value→Prop} (x:VRs μ D h (a::l) vs) (k:∀v r,VR μ D h a v→VRs μ D h l r→C (v::r)):C vs:=by cases x; exact k _ _ ‹_› ‹_›
@[elab_as_elim] theorem VRs.nilI {vs:List Value} {C:List Value→Prop} (x:VRs μ D h [] vs) (k:C []):C vs:=by cases x; exact k
theorem VRs.unc {a:AV} {l:List AV} {v:Value} {vs:List Value} (x:VRs μ D h (a::l) (v::vs)):VR μ D h a v∧VRs μ D h l vs:=by cases x; exact⟨‹_›,‹_›⟩
theorem VRs.length {l:List AV} {vs:List Value} (x:VRs μ D h l vs):l.length=vs.length:=by
 induction l generalizing vs with
 |nil=>exact x.nilI rfl
 |cons a r ih=>exact x.consI fun _ _ _ t=>congrArg (·+1) (ih t)
theorem VRs.get {l:List AV} {vs:List Value} (x:VRs μ D h l vs):∀{i:Nat} {a:AV},l[i]? = some a→∃v,vs[i]? = some v∧VR μ D h a v:=by
 induction l generalizing vs with
 |nil=>exact fun e=>(noS e).elim
 |cons b r ih =>
  intro i a;refine x.consI fun v w p t=>?_;cases i with
  |zero=>exact fun e=>⟨_,rfl,Option.some.inj e▸p⟩
  |succ i=>exact fun e=>ih t e
theorem VRs.append {l r:List AV} {vs us:List Value} (x:VRs μ D h l vs) (y:VRs μ D h r us):VRs μ D h (l++r) (vs++us):=by
 induction l generalizing vs with
 |nil=>exact x.nilI y
 |cons a t ih=>exact x.consI fun _ _ p q=>.cons p (ih q)
theorem VRs.take {l:List AV} {vs:List Value} (x:VRs μ D h l vs) (n:Nat):VRs μ D h (l.take n) (vs.take n):=by
 induction l generalizing vs n with
 |nil=>refine x.nilI ?_; simp; exact .nil
 |cons a t ih=>refine x.consI fun _ _ p q=>?_; cases n with
  |zero=>exact .nil
  |succ n=>exact .cons p (ih q n)
theorem VRs.drop {l:List AV} {vs:List Value} (x:VRs μ D h l vs) (n:Nat):VRs μ D h (l.drop n) (vs.drop n):=by
 induction l generalizing vs n with
 |nil=>refine x.nilI ?_; simp; exact .nil
 |cons a t ih=>refine x.consI fun _ _ p q=>?_; cases n with
  |zero=>exact .cons p q
  |succ n=>exact ih q n
theorem VRs.set {l:List AV} {vs:List Value} (x:VRs μ D h l vs) (n:Nat) {a:AV} {v:Value} (p:VR μ D h a v):VRs μ D h (l.set n a) (vs.set n v):=by
 induction l generalizing vs n with
 |nil=>exact x.nilI .nil
 |cons b t ih=>refine x.consI fun _ _ q r=>?_; cases n with
  |zero=>exact .cons p r
  |succ n=>exact .cons q (ih r n)
theorem VRs.replicate (n:Nat) {a:AV} {v:Value} (p:VR μ D h a v):VRs μ D h (List.replicate n a) (List.replicate n v):=by
 induction n with
 |zero=>exact .nil
 |succ n ih=>exact .cons p ih
theorem VR.handed {a:AV} {v:Value} (x:VR μ D h a v):handedIn v=true:=by
 refine VR.casesOn (motive_1:=fun _ v _=>handedIn v=true) x ?_ ?_ ?_ ?_ ?_ ?_ ?_ ?_<;>intros<;>first|rfl|assumption
def TupKeep (h h':Heap):Prop:=∀b o,h.get? b=some o→o.cls = .type "tuple"→(∃vs n,o.data = .seq vs n)→∃sl,h'.get? b=some { o with slots:=sl }
theorem VR.mono (k:∀a,D a→D' a∧μ' a=μ a) (t:TupKeep h h'):∀{a:AV} {v:Value},VR μ D h a v→VR μ' D' h' a v:=by
 intro a v x;refine VR.rec (motive_1:=fun a v _=>VR μ' D' h' a v) (motive_2:=fun l vs _=>VRs μ' D' h' l vs) .none .bool .int .str ?_ ?_ .glob .junk .nil (fun _ _ p q=>.cons p q) x
 ·intro l a o vs n e1 e2 e3 e4 _ ih;obtain⟨sl,e1'⟩:=t _ _ e1 e2 ⟨_,_,e3⟩;exact .tup e1' e2 e3 e4 ih
 ·intro a d;obtain⟨d',e⟩:=k a d;refine rwS e ?_;exact .ref d'
theorem VRs.mono (k:∀a,D a→D' a∧μ' a=μ a) (t:TupKeep h h'):∀{l:List AV} {vs:List Value},VRs μ D h l vs→VRs μ' D' h' l vs:=fun {_ _} x =>
 VRs.rec (motive_1:=fun _ _ _=>True) (motive_2:=fun l vs _=>VRs μ' D' h' l vs) trivial (by intros; trivial) (by intros; trivial) (by intros; trivial) (by intros; trivial) (by intros; trivial) (by intros; trivial) (by intros; trivial) .nil (fun p _ _ q=>.cons (p.mono k t) q) x
theorem TupKeep.refl (h:Heap):TupKeep h h:=fun _ o e _ _=>⟨o.slots,e⟩
theorem strOk_of {l:List Nat} (e:∀c∈l,c<1114112):PyData.strOk (strOf l)=true:=by
 show (l.toArray.all fun x=>decide (x<0x110000))=true
 rw[List.all_toArray,List.all_eq_true];intro c hc;exact decide_eq_true (e c hc)
theorem strOf_inj {l r:List Nat} (e:strOf l=strOf r):l=r:=by
 have:=congrArg (fun x:Str=>x.cps.toList) e;simpa using this
theorem strOf_beq (l r:List Nat):(strOf l==strOf r)=decide (l=r):=by
 by_cases e:l=r
 ·subst e; simp
 ·rw[decide_eq_false e];exact beq_eq_false_iff_ne.mpr fun q=>e (strOf_inj q)
mutual
noncomputable def toPy:AV→PyData
 |.int i=>.int i
 |.str l=>.str (strOf l)
 |.tup l=>.tuple (toPys l)
 |.none=>.none
 |.bool _=>.none
 |.ref _=>.none
 |.glob _=>.none
 |.junk=>.none
noncomputable def toPys:List AV→List PyData
 |[]=>[]
 |a::r=>toPy a::toPys r
end
def RD (h:Heap) (v:Value) (p:PyData):Prop:=(∃as,Reads h v p as)∧p.canLay0=true
def RDs (h:Heap) (vs:List Value) (p:List PyData):Prop:=(∃as,ReadsAll h vs p as)∧PyData.canLayAll0 p=true
theorem rd_no {a:AV} (k:isData a=false):∀v:Value,VR μ D h a v→isData a=true→RD h v (toPy a):=fun _ _ d=>(noB (k.symm.trans d)).elim
theorem rd_tup {l:List AV} (ih:∀vs:List Value,VRs μ D h l vs→areData l=true→RDs h vs (toPys l)) (v:Value) (x:VR μ D h (.tup l) v) (d:areData l=true):RD h v (toPy (.tup l)) :=
 x.tupI fun _ _ _ _ e1 e2 e3 _ e5=>have ⟨⟨_,r⟩,c⟩:=ih _ e5 d; ⟨⟨_,.tuple e1 e2 e3 r⟩,c⟩
theorem rd_cons {a:AV} {l:List AV} (p:∀v:Value,VR μ D h a v→isData a=true→RD h v (toPy a)) (q:∀vs:List Value,VRs μ D h l vs→areData l=true→RDs h vs (toPys l)) (vs:List Value) (x:VRs μ D h (a::l) vs) (d:areData (a::l)=true):RDs h vs (toPys (a::l)) :=
 x.consI fun _ _ y z=>have ⟨d1,d2⟩:=Bool.and_eq_true_iff.mp d; have ⟨⟨_,r1⟩,c1⟩:=p _ y d1; have ⟨⟨_,r2⟩,c2⟩:=q _ z d2; ⟨⟨_,.cons r1 r2⟩,Bool.and_eq_true_iff.mpr ⟨c1,c2⟩⟩
theorem reads_of {a:AV} {v:Value}:VR μ D h a v→isData a=true→RD h v (toPy a) :=
 AV.rec (motive_1:=fun a=>∀v:Value,VR μ D h a v→isData a=true→RD h v (toPy a)) (motive_2:=fun l=>∀vs:List Value,VRs μ D h l vs→areData l=true→RDs h vs (toPys l))
  (fun _ x _=>by cases x; exact⟨⟨[],.none⟩,rfl⟩) (fun _=>rd_no rfl) (fun _ _ x _=>x.intI fun _=>⟨⟨[],.int _ _⟩,rfl⟩) (fun _ _ x _=>x.strI fun _ e=>⟨⟨[],.str _ _⟩,strOk_of e⟩) (fun _=>rd_tup) (fun _=>rd_no rfl) (fun _=>rd_no rfl) (rd_no rfl)
  (fun _ x _=>x.nilI ⟨⟨[],.nil⟩,rfl⟩) (fun _ _=>rd_cons) a v
theorem readsAll_of {l:List AV} {vs:List Value} (x:VRs μ D h l vs) (d:areData l=true):RDs h vs (toPys l):=by
 induction l generalizing vs with
 |nil=>exact x.nilI ⟨⟨[],.nil⟩,rfl⟩
 |cons a l ih=>exact rd_cons (fun _=>reads_of) (fun _ y d=>ih y d) _ x d
theorem eqv_tup {l:List AV} (ih:∀r,areData l=true→areData r=true→PyData.eqvAll (toPys l) (toPys r)=avEqs l r) (b:AV) (c:areData l=true) (d:isData b=true):PyData.eqv (toPy (.tup l)) (toPy b)=avEq (.tup l) b:=by
 induction b using AV.casesOn with
 |tup r=>exact ih r c d
 |_=>first|rfl|exact (noB d).elim
theorem eqv_cons {a:AV} {l:List AV} (p:∀b,isData a=true→isData b=true→PyData.eqv (toPy a) (toPy b)=avEq a b) (q:∀r,areData l=true→areData r=true→PyData.eqvAll (toPys l) (toPys r)=avEqs l r) (r:List AV) (c:areData (a::l)=true) (d:areData r=true):PyData.eqvAll (toPys (a::l)) (toPys r)=avEqs (a::l) r:=by
 induction r using List.casesOn with
 |nil=>rfl
 |cons b t =>
  have ⟨c1,c2⟩:=Bool.and_eq_true_iff.mp c;have ⟨d1,d2⟩:=Bool.and_eq_true_iff.mp d;exact congr (congrArg and (p b c1 d1)) (q t c2 d2)
theorem eqv_no {a b:AV} {P:Prop} (k:isData a=false):isData a=true→isData b=true→P:=fun d=>(noB (k.symm.trans d)).elim
theorem eqv_toPy (a:AV):∀b:AV,isData a=true→isData b=true→PyData.eqv (toPy a) (toPy b)=avEq a b :=
 AV.rec (motive_1:=fun a=>∀b,isData a=true→isData b=true→PyData.eqv (toPy a) (toPy b)=avEq a b) (motive_2:=fun l=>∀r,areData l=true→areData r=true→PyData.eqvAll (toPys l) (toPys r)=avEqs l r)
  (fun b _ d=>by induction b using AV.casesOn<;>first|rfl|exact (noB d).elim) (fun _ _=>eqv_no rfl) (fun _ b _ d=>by induction b using AV.casesOn<;>first|rfl|exact (noB d).elim)
  (fun _ b _ d=>by induction b using AV.casesOn<;>first|rfl|exact (noB d).elim|exact strOf_beq _ _) (fun _=>eqv_tup) (fun _ _=>eqv_no rfl) (fun _ _=>eqv_no rfl) (fun _=>eqv_no rfl)
  (fun r _ _=>by induction r using List.casesOn<;>rfl) (fun _ _=>eqv_cons) a
theorem eqvs_toPy (l:List AV):∀r:List AV,areData l=true→areData r=true→PyData.eqvAll (toPys l) (toPys r)=avEqs l r:=by
 induction l with
 |nil=>exact fun r _ _=>by induction r using List.casesOn<;>rfl
 |cons a l ih=>exact eqv_cons (eqv_toPy a) ih
theorem depth_toPy (a:AV):PyData.depth (toPy a)≤deep a :=
 AV.rec (motive_1:=fun a=>PyData.depth (toPy a)≤deep a) (motive_2:=fun l=>PyData.depthAll (toPys l)≤deeps l) (Nat.le_refl 0) (fun _=>Nat.le_refl 0) (fun _=>Nat.le_refl 0) (fun _=>Nat.le_refl 0) (fun _ ih=>Nat.succ_le_succ ih) (fun _=>Nat.le_refl 0) (fun _=>Nat.le_refl 0) (Nat.le_refl 0)
  (Nat.le_refl 0) (fun _ _ p q=>Nat.max_le.mpr ⟨Nat.le_trans p (Nat.le_max_left _ _),Nat.le_trans q (Nat.le_max_right _ _)⟩) a
theorem depths_toPy (l:List AV):PyData.depthAll (toPys l)≤deeps l:=Nat.le_of_succ_le_succ (depth_toPy (.tup l))
section
variable {prog:Program} {w:World} {A:Around} {E:Value→Shared→Prop} {s:Shared}
theorem eq_data_ok {a b:AV} {u v:Value} {Q:Value→Shared→Prop} (x:VR μ D s.heap a u) (y:VR μ' D' s.heap b v) (da:isData a=true) (db:isData b=true) (dp:deep a≤8) (hu:A.units+64<cLine)
 (q:Q (.bool (avEq a b)) s):wpAny (model prog w) A (compareOp .Eq u v) Q E s:=by
 obtain⟨⟨as,r1⟩,c1⟩:=reads_of x da;obtain⟨⟨bs,r2⟩,c2⟩:=reads_of y db;have:=depth_toPy a;exact compareEq_reads r1 r2 c1 c2 (by have:=Nat.min_le_left (toPy a).depth (toPy b).depth; lia) (by refine rwE (eqv_toPy a b da db) ?_; exact q)
theorem eqBool_data_ok {a b:AV} {u v:Value} {Q:Bool→Shared→Prop} (x:VR μ D s.heap a u) (y:VR μ' D' s.heap b v) (da:isData a=true) (db:isData b=true) (dp:deep a≤8) (hu:A.units+64<cLine)
 (q:Q (avEq a b) s):wpAny (model prog w) A (eqBool u v) Q E s:=by
 obtain⟨⟨as,r1⟩,c1⟩:=reads_of x da;obtain⟨⟨bs,r2⟩,c2⟩:=reads_of y db;have:=depth_toPy a;exact eqBoolOverData prog w A E s u v _ _ as bs Q r1 r2 c1 c2 (by have:=Nat.min_le_left (toPy a).depth (toPy b).depth; lia) (by refine rwE (eqv_toPy a b da db) ?_; exact q)
theorem eq_list_ok {l r:List AV} {a b:Addr} {vs us:List Value} {oa ob:Obj} {na nb:Nat} {Q:Value→Shared→Prop} (ha:s.heap.get? a=some oa) (ca:oa.cls = .type "list") (xa:oa.data = .seq vs.toArray na)
 (hb:s.heap.get? b=some ob) (cb:ob.cls = .type "list") (xb:ob.data = .seq us.toArray nb)
 (x:VRs μ D s.heap l vs) (y:VRs μ' D' s.heap r us) (da:areData l=true) (db:areData r=true) (dp:deeps l≤8) (hu:A.units+64<cLine)
 (q:Q (.bool (avEqs l r)) s):wpAny (model prog w) A (compareOp .Eq (.ref a) (.ref b)) Q E s:=by
 obtain⟨⟨as,r1⟩,c1⟩:=readsAll_of x da;obtain⟨⟨bs,r2⟩,c2⟩:=readsAll_of y db;have:=depths_toPy l;refine compareEq_reads (da:=.list (toPys l)) (db:=.list (toPys r)) (.list ha ca xa r1) (.list hb cb xb r2) c1 c2 ?_ ?_
 ·have:=Nat.min_le_left (PyData.depth (.list (toPys l))) (PyData.depth (.list (toPys r)));dsimp only[PyData.depth] at this ⊢;lia
 ·dsimp only[PyData.eqv];refine rwE (eqvs_toPy l r da db) ?_;exact q
end
section
variable {prog:Program} {w:World} {A:Around} {E:Value→Shared→Prop} {s:Shared}
noncomputable abbrev ik (prog:Program) (w:World):=PySem.intKind prog w
noncomputable abbrev sk (prog:Program) (w:World):=PySem.strKind prog w
noncomputable def kaIs (prog:Program) (w:World) (h:Heap):KA→Value→Prop
 |.i n,v=>∃t,v = .int n t
 |.s x,v=>(∀c∈x,c<1114112)∧∃t,v = .str (strOf x) t
 |.t l,v=>∃a,v = .ref a∧IsTupleKey (ik prog w) h l a
noncomputable def kaHash (prog:Program) (w:World):KA→Int
 |.i n=>(ik prog w).hash n
 |.s x=>(sk prog w).hash (strOf x)
 |.t l=>tupleKeyHash (ik prog w) l
noncomputable def kaDraws:KA→Nat
 |.t l=>l.length+1
 |_=>1
noncomputable def kasDraws:TK→Nat
 |[]=>0
 |k::r=>kaDraws k+kasDraws r
inductive KasAre (prog:Program) (w:World) (h:Heap):TK→List Value→Prop
 |nil:KasAre prog w h [] []
 |cons {k v ks vs}:kaIs prog w h k v→KasAre prog w h ks vs→KasAre prog w h (k::ks) (v::vs)
noncomputable abbrev VR0 (h:Heap):AV→Value→Prop:=VR (fun _=>0) (fun _=>False) h
noncomputable abbrev VRs0 (h:Heap):List AV→List Value→Prop:=VRs (fun _=>0) (fun _=>False) h
def IsTK (h:Heap) (ks:TK) (a:Addr):Prop:=VR0 h (tkV ks) (.ref a)
theorem is_int (n:Int) (t:Tok):(ik prog w).is n (.int n t)=true:=by simp[ik,PySem.intKind,Value.isInt]
theorem is_str (x:Str) (t:Tok):(sk prog w).is x (.str x t)=true:=by simp[sk,PySem.strKind,Value.isStrOf]
theorem kaIs.inj {h:Heap} {k j:KA} {v:Value} (x:kaIs prog w h k v) (y:kaIs prog w h j v):k=j:=by
 induction k using KA.casesOn with
 |i n =>
  obtain⟨t,rfl⟩:=x;induction j using KA.casesOn with
  |i m=>obtain⟨u,e⟩:=y; cases e; rfl
  |s z=>obtain⟨_,u,e⟩:=y; cases e
  |t z=>obtain⟨u,e,_⟩:=y; cases e
 |s n =>
  obtain⟨_,t,rfl⟩:=x;induction j using KA.casesOn with
  |i m=>obtain⟨u,e⟩:=y; cases e
  |s z=>obtain⟨_,u,e⟩:=y; injection e with e1; exact congrArg KA.s (strOf_inj e1)
  |t z=>obtain⟨u,e,_⟩:=y; cases e
 |t n =>
  obtain⟨t,rfl,p⟩:=x;induction j using KA.casesOn with
  |i m=>obtain⟨u,e⟩:=y; cases e
  |s z=>obtain⟨_,u,e⟩:=y; cases e
  |t z=>obtain⟨u,e,q⟩:=y; cases e; exact congrArg KA.t (p.inj q)
theorem KasAre.inj {h:Heap} {x y:TK} {vs:List Value} (p:KasAre prog w h x vs) (q:KasAre prog w h y vs):x=y:=by
 induction p generalizing y with
 |nil=>cases q; rfl
 |cons h1 _ ih=>cases q with|cons h2 t2=>(refine rwE (h1.inj h2) ?_; refine rwE (ih t2) ?_; rfl)
theorem ints_are {h:Heap}:∀{l:List Int} {vs:List Value},VRs0 h (l.map .int) vs→ItemsAre (ik prog w) l vs:=fun {l}=>by
 induction l with
 |nil=>intro vs x; exact x.nilI .nil
 |cons n r ih=>intro vs x; exact x.consI fun v r p q=>p.intI fun t=>.cons (is_int n t) (ih q)
theorem kas_are {h:Heap}:∀{ks:TK} {vs:List Value},VRs0 h (ks.map kaV) vs→KasAre prog w h ks vs:=fun {ks}=>by
 induction ks with
 |nil=>intro vs x; exact x.nilI .nil
 |cons k r ih =>
  intro vs x;refine x.consI fun v r p q=>?_;refine .cons ?_ (ih q);induction k using KA.casesOn with
  |i n=>exact p.intI fun t=>⟨t,rfl⟩
  |s y=>exact p.strI fun t e=>⟨e,t,rfl⟩
  |t l=>exact p.tupI fun _ _ _ _ e1 e2 e3 _ e5=>⟨_,rfl,_,_,_,e1,e2,e3,ints_are e5⟩
theorem IsTK.items {h:Heap} {ks:TK} {a:Addr} (x:IsTK h ks a):∃o items n,h.get? a=some o∧o.cls = .type "tuple"∧o.data = .seq items n∧KasAre prog w h ks items.toList:=by
 cases x with|tup e1 e2 e3 _ e5=>exact⟨_,_,_,e1,e2,e3,kas_are e5⟩
theorem IsTK.inj (prog:Program) (w:World) {h:Heap} {a:Addr} {x y:TK} (hx:IsTK h x a) (hy:IsTK h y a):x=y:=by
 obtain⟨o,items,n,ho,_,hd,hi⟩:=hx.items (prog:=prog) (w:=w);obtain⟨o',items',n',ho',_,hd',hi'⟩:=hy.items (prog:=prog) (w:=w);obtain rfl:o=o':=Option.some.inj (ho.symm.trans ho');rw[hd] at hd';injection hd' with h1 _
 subst h1;exact hi.inj hi'
theorem tupKeep_dict {h h':Heap} {d:Addr} {o:Obj} {es ep} (ho:h.get? d=some o) (hd:o.data = .dict es ep) (hs:Heap.SameBut d h h'):TupKeep h h':=fun b p e c ⟨vs,n,q⟩ =>
 ⟨p.slots,(hs.2 b fun z=>by subst z; rw[ho] at e; obtain rfl:=Option.some.inj e; rw[hd] at q; cases q).trans e⟩
theorem IsTK.keep {h h':Heap} {ks:TK} {a:Addr} (x:IsTK h ks a) (t:TupKeep h h'):IsTK h' ks a:=VR.mono (fun _ f=>f.elim) t x
theorem IsTK.typeIs {ks:TK} {a:Addr} (x:IsTK s.heap ks a):s.TypeIs (.ref a) "tuple":=by
 cases x with|tup e1 e2=>exact⟨_,e1,e2⟩
theorem ka_pyHash {k:KA} {v:Value} {Q:Int→Shared→Prop} (hu:A.units<cLine) (hk:kaIs prog w s.heap k v) (h:Q (kaHash prog w k) { s with toks:=s.toks+kaDraws k }):wpAny (model prog w) A (pyHash v) Q E s:=by
 induction k using KA.casesOn with
 |i n=>obtain⟨t,rfl⟩:=hk; exact wpAny_pyHash_int h
 |s x=>obtain⟨_,t,rfl⟩:=hk; exact wpAny_pyHash_str h
 |t l=>obtain⟨a,rfl,q⟩:=hk; exact wpAny_pyHash_tuple hu q h
noncomputable def tkHash (prog:Program) (w:World) (ks:TK):Int:=reduceHash (Builtin.Tuple.tupleHashOf (ks.map (kaHash prog w)))
noncomputable def tkDraws (ks:TK):Nat:=kasDraws ks+1
theorem kasDraws_append (a b:TK):kasDraws (a++b)=kasDraws a+kasDraws b:=by
 induction a with
 |nil=>exact (Nat.zero_add _).symm
 |cons x r ih=>exact (congrArg (kaDraws x+·) ih).trans (Nat.add_assoc ..).symm
theorem kasDraws_snoc (a:TK) (k:KA):kasDraws (a++[k])=kasDraws a+kaDraws k:=kasDraws_append a [k]
theorem tk_pyHash {ks:TK} {a:Addr} {Q:Int→Shared→Prop} (hu:A.units+1<cLine) (hk:IsTK s.heap ks a) (h:Q (tkHash prog w ks) { s with toks:=s.toks+tkDraws ks }) :
 wpAny (model prog w) A (pyHash (.ref a)) Q E s:=by
 have hT:=hk.typeIs;obtain⟨o,items,n,ho,_,hd,hi⟩:=hk.items (prog:=prog) (w:=w);refine pyHash_slot (T:="tuple") hT F.slot_tuple_hash F.entry_tuple_hash (F.args_tuple_hash_1 _) (beq_builtin_none _) (.inr (by lia)) ?_
 show wpAny _ _ (Builtin.Tuple.tupleItemsOf (.ref a) >>= _) _ _ s
 refine wpAny_bind (wpAny_tupleItemsOf ho hd ?_);refine wpAny_bind ?_;refine rwS Array.forIn_toList ?_;refine wpAny_forIn_list _
  (fun rest (b:Array Int) s'=>∃done left,ks=done++left∧KasAre prog w s.heap left rest∧b.toList=done.map (kaHash prog w)∧s' = { s with toks:=s.toks+kasDraws done })
  _ ?_ ?_ _ _ ⟨[],ks,rfl,hi,rfl,rfl⟩
 ·rintro x rest b s' ⟨done,left,rfl,hl,hb,rfl⟩
  cases hl with
  |@cons k _ ks' _ h1 hl' =>
   refine wpAny_bind (ka_pyHash (s:={ s with toks:=s.toks+kasDraws done }) (by simpa using hu) h1 ?_);refine wpAny_bind (wpAny_pure (wpAny_pure ⟨done++[k],ks',by simp,hl',by simp[hb],?_⟩));with_reducible refine rwE (kasDraws_snoc ..) ?_; with_reducible refine rwS (Nat.add_assoc ..) ?_; rfl
 ·rintro b s' ⟨done,left,rfl,hl,hb,rfl⟩
  cases hl;show wpAny _ _ (retInt (Builtin.Tuple.tupleHashOf b.toList)) _ _ _
  refine rwE hb ?_;refine wpAny_bind (wpAny_mkInt (wpAny_pure ⟨_,_,rfl,?_⟩));simpa [tkHash,tkDraws,Nat.add_assoc] using h
theorem data_int (l:List Int):areData (l.map .int)=true:=by induction l<;>first|rfl|assumption
theorem data_ka (ks:TK):areData (ks.map kaV)=true:=by
 induction ks with
 |nil=>rfl
 |cons k r ih=>induction k using KA.casesOn with
  |t l=>exact (congrArg (·&&areData (r.map kaV)) (data_int l)).trans ih
  |_=>exact ih
theorem deeps_int (l:List Int):deeps (l.map .int)=0:=by
 induction l with
 |nil=>rfl
 |cons a r ih=>exact (Nat.max_eq_right (Nat.zero_le _)).trans ih
theorem deeps_ka (ks:TK):deeps (ks.map kaV)≤1:=by
 induction ks with
 |nil=>exact Nat.zero_le _
 |cons k r ih=>refine Nat.max_le.mpr ⟨?_,ih⟩; induction k using KA.casesOn with
  |t l=>exact Nat.succ_le_succ (Nat.le_of_eq (deeps_int l))
  |_=>exact Nat.zero_le _
theorem avEqs_int (a:List Int):∀b:List Int,avEqs (a.map .int) (b.map .int)=decide (a=b):=by
 induction a with
 |nil=>exact fun b=>by induction b using List.casesOn<;>rfl
 |cons a r ih =>
  intro b;induction b using List.casesOn with
  |nil=>rfl
  |cons b t=>show (decide (a=b)&&avEqs (r.map .int) (t.map .int))=_; (with_reducible refine rwE (ih t) ?_); simp
theorem avEq_ka (a b:KA):avEq (kaV a) (kaV b)=decide (a=b):=by
 cases a<;>cases b<;>first|rfl|skip
 ·show decide _=_; simp
 ·show decide _=_; simp
 ·exact (avEqs_int _ _).trans (by simp)
theorem avEqs_ka (a:TK):∀b:TK,avEqs (a.map kaV) (b.map kaV)=decide (a=b):=by
 induction a with
 |nil=>exact fun b=>by induction b using List.casesOn<;>rfl
 |cons a r ih =>
  intro b;induction b using List.casesOn with
  |nil=>rfl
  |cons b t=>show (avEq (kaV a) (kaV b)&&avEqs (r.map kaV) (t.map kaV))=_; (with_reducible refine rwE (ih t) ?_; with_reducible refine rwE (avEq_ka a b) ?_); simp
theorem avEq_tk (x y:TK):avEq (tkV x) (tkV y)=decide (x=y):=avEqs_ka x y
theorem tk_eqBool {x y:TK} {a b:Addr} {Q:Bool→Shared→Prop} (hu:A.units+64<cLine) (hx:IsTK s.heap x a) (hy:IsTK s.heap y b) (h:Q (decide (x=y)) s) :
 wpAny (model prog w) A (eqBool (.ref a) (.ref b)) Q E s :=
 eqBool_data_ok hx hy (data_ka _) (data_ka _) (Nat.le_trans (Nat.succ_le_succ (deeps_ka x)) (by decide)) hu (by refine rwE (avEq_tk ..) ?_; exact h)
theorem quiet_ka {k:KA} {v:Value} {Q:Bool→Shared→Prop} (n:Nat) (hk:kaIs prog w s.heap k v) (h:Q true s):wpAny (model prog w) A (eqIsQuiet (n+1) v) Q E s:=by
 induction k using KA.casesOn with
 |i n=>obtain⟨t,rfl⟩:=hk; (refine rwE (eqIsQuiet_byValue _ rfl) ?_); exact wpAny_pure h
 |s x=>obtain⟨_,t,rfl⟩:=hk; (refine rwE (eqIsQuiet_byValue _ rfl) ?_); exact wpAny_pure h
 |t l =>
  obtain⟨a,rfl,q⟩:=hk;have hT:=q.typeIs;obtain⟨o,items,n,ho,_,hd,hi⟩:=q;unfold eqIsQuiet;refine wpAny_bind (wpAny_specialOf hT F.slot_tuple_eq.lookup ?_);show wpAny _ _ (isInstance (.ref a) (.type "tuple") >>= _) _ _ s
  refine wpAny_bind (wpAny_isInstance hT isSubtype_tuple_tuple ?_);dsimp only[Bool.not_true,Bool.false_eq_true,if_false];refine wpAny_bind (wpAny_seqItems ho hd ?_);refine wpAny_bind ?_;show wpAny _ _ (forIn items _ _) _ _ s
  refine rwS Array.forIn_toList ?_;refine wpAny_forIn_list _ (fun rest r s'=>r.1=none∧s'=s∧∀v∈rest,carriedByValue v=true) _ ?_ ?_ _ _ ⟨rfl,rfl,hi.byValue⟩
  ·rintro v rest r s' ⟨hr,rfl,hall⟩
   refine rwE (eqIsQuiet_byValue _ (hall v List.mem_cons_self)) ?_;refine wpAny_bind (wpAny_pure ?_);simp only[Bool.not_true,Bool.false_eq_true,if_false];exact wpAny_pure ⟨rfl,rfl,fun u hu'=>hall u (List.mem_cons_of_mem _ hu')⟩
  ·rintro ⟨r1,r2⟩ s' ⟨hr,rfl,_⟩
   simp only at hr;subst hr;exact wpAny_pure h
theorem tk_quiet {ks:TK} {a:Addr} {Q:Bool→Shared→Prop} (hk:IsTK s.heap ks a) (h:Q true s):wpAny (model prog w) A (eqIsQuiet 8 (.ref a)) Q E s:=by
 have hT:=hk.typeIs;obtain⟨o,items,n,ho,_,hd,hi⟩:=hk.items (prog:=prog) (w:=w);unfold eqIsQuiet;refine wpAny_bind (wpAny_specialOf hT F.slot_tuple_eq.lookup ?_);show wpAny _ _ (isInstance (.ref a) (.type "tuple") >>= _) _ _ s
 refine wpAny_bind (wpAny_isInstance hT isSubtype_tuple_tuple ?_);dsimp only[Bool.not_true,Bool.false_eq_true,if_false];refine wpAny_bind (wpAny_seqItems ho hd ?_);refine wpAny_bind ?_;show wpAny _ _ (forIn items _ _) _ _ s
 refine rwS Array.forIn_toList ?_;refine wpAny_forIn_list _ (fun rest r s'=>r.1=none∧s'=s∧∃left,KasAre prog w s.heap left rest) _ ?_ ?_ _ _ ⟨rfl,rfl,ks,hi⟩
 ·rintro v rest r s' ⟨hr,rfl,left,hall⟩
  cases hall with
  |cons p q =>
   refine wpAny_bind (quiet_ka 6 p ?_);simp only[Bool.not_true,Bool.false_eq_true,if_false];exact wpAny_pure ⟨rfl,rfl,_,q⟩
 ·rintro ⟨r1,r2⟩ s' ⟨hr,rfl,_⟩
  simp only at hr;subst hr;exact wpAny_pure h
end
noncomputable def tkKind (prog:Program) (w:World):HeapKind prog w TK where
 is:=IsTK
 hash:=tkHash prog w
 draws:=tkDraws
 room:=fun A=>A.units+64<cLine
 inj:=fun hx hy=>IsTK.inj prog w hx hy
 keeps:=fun x ho hd hs=>x.keep (tupKeep_dict ho hd hs)
 pyHash:=fun hu hk h=>tk_pyHash (by lia) hk h
 eqBool:=fun hu hx hy h=>tk_eqBool hu hx hy h
 quiet:=fun hk h=>tk_quiet hk h
theorem ints_map {l:List AV} {r:List Int} (e:ints? l=some r):l=r.map .int:=by
 induction l generalizing r with
 |nil=>obtain rfl:=Option.some.inj e; rfl
 |cons a t ih =>
  induction a using AV.casesOn with
  |int n =>
   exact E12 (Option.map_eq_some_iff.mp e) fun q hq e=>by rw[←e,ih hq]; rfl
  |_=>exact (noS e).elim
theorem ka_map {a:AV} {k:KA} (e:ka a=some k):a=kaV k:=by
 induction a using AV.casesOn with
 |int n=>obtain rfl:=Option.some.inj e; rfl
 |str x=>obtain rfl:=Option.some.inj e; rfl
 |tup l =>
  exact E12 (Option.map_eq_some_iff.mp e) fun q hq e=>by rw[←e,ints_map hq]; rfl
 |_=>exact (noS e).elim
theorem kas_map {l:List AV} {ks:TK} (e:kas l=some ks):l=ks.map kaV:=by
 induction l generalizing ks with
 |nil=>obtain rfl:=Option.some.inj e; rfl
 |cons a t ih =>
  exact E12 (Option.bind_eq_some_iff.mp e) fun x hx e=>E12 (Option.map_eq_some_iff.mp e) fun y hy e=>by rw[←e,ka_map hx,ih hy]; rfl
theorem tk_map {a:AV} {ks:TK} (e:tk a=some ks):a=tkV ks:=by
 induction a using AV.casesOn with
 |tup l=>rw[kas_map (show kas l=some ks from e)]; rfl
 |_=>exact (noS e).elim
theorem vr_data {μ:AA→Addr} {D:AA→Prop} {μ':AA→Addr} {D':AA→Prop} {h:Heap} {a:AV} {v:Value} (x:VR μ D h a v):isData a=true→VR μ' D' h a v:=by
 refine VR.rec (motive_1:=fun a v _=>isData a=true→VR μ' D' h a v) (motive_2:=fun l vs _=>areData l=true→VRs μ' D' h l vs) ?_ ?_ ?_ ?_ ?_ ?_ ?_ ?_ ?_ ?_ x
 ·exact fun _=>.none
 ·exact fun b _=>.bool b
 ·exact fun i t _=>.int i t
 ·exact fun l t e _=>.str l t e
 ·exact fun e1 e2 e3 e4 _ ih d=>.tup e1 e2 e3 e4 (ih d)
 ·exact fun _ d=>(noB d).elim
 ·exact fun _ d=>(noB d).elim
 ·exact fun _ d=>(noB d).elim
 ·exact fun _=>.nil
 ·exact fun _ _ p q d=>have ⟨d1,d2⟩:=Bool.and_eq_true_iff.mp d; .cons (p d1) (q d2)
theorem tkV_data (ks:TK):isData (tkV ks)=true:=data_ka ks
theorem vr_tk {μ:AA→Addr} {D:AA→Prop} {h:Heap} {k:AV} {v:Value} {t:TK} (x:VR μ D h k v) (e:tk k=some t):∃a,v = .ref a∧IsTK h t a:=by
 have e':=tk_map e;subst e';have y:VR0 h (tkV t) v:=vr_data x (tkV_data t);exact y.tupI fun _ _ _ _ e1 e2 e3 e4 e5=>⟨_,rfl,.tup e1 e2 e3 e4 e5⟩
theorem vr_tkI {μ:AA→Addr} {D:AA→Prop} {h:Heap} {k:AV} {v:Value} {t:TK} (x:VR μ D h k v) (e:tk k=some t) {C:Prop} (q:∀a,v = .ref a→IsTK h t a→C):C:=E12 (vr_tk x e) q
theorem tk_vr {μ:AA→Addr} {D:AA→Prop} {h:Heap} {t:TK} {a:Addr} (x:IsTK h t a):VR μ D h (tkV t) (.ref a):=vr_data x (tkV_data t)
noncomputable abbrev Dm (H:AH):AA→Prop:=fun a=>H a≠none
def Img (μ:AA→Addr) (H:AH) (b:Addr):Prop:=∃a,H a≠none∧μ a=b
noncomputable abbrev Lsf (fr:List Env):List Addr:=fr.filterMap (·.frame)
noncomputable def nmS (i:Nat):Str:=Str.ofString (names.getD i "")
inductive NsR (μ:AA→Addr) (D:AA→Prop) (h:Heap):List DictEntry→List (Nat×AV)→Prop
 |nil:NsR μ D h [] []
 |cons {e:DictEntry} {p es l t}:e.key = .str (nmS p.1) t→p.1<names.length→VR μ D h p.2 e.val→NsR μ D h es l→NsR μ D h (e::es) (p::l)
inductive OR (prog:Program) (w:World) (μ:AA→Addr) (D:AA→Prop) (h:Heap):AO→Addr→Prop
 |list {l:List AV} {a:Addr} {vs:List Value} {n:Nat}:IsL h a vs.toArray n→VRs μ D h l vs→OR prog w μ D h (.list l) a
 |sd {l:List (List Nat×AV)} {a:Addr} {kvs:List (Str×Value)}:h.DictOf (sk prog w) a kvs→(∀p∈l,∀c∈p.1,c<1114112)→kvs.map (·.1)=l.map (fun p=>strOf p.1)→VRs μ D h (l.map (·.2)) (kvs.map (·.2))→OR prog w μ D h (.sd l) a
 |id {l:List (Int×AV)} {a:Addr} {kvs:List (Int×Value)}:h.DictOf (ik prog w) a kvs→kvs.map (·.1)=l.map (·.1)→VRs μ D h (l.map (·.2)) (kvs.map (·.2))→OR prog w μ D h (.id l) a
 |td {l:List (TK×AV)} {a:Addr} {xs:List (TK×Addr×Value)}:h.DictOfH (tkKind prog w) a xs→xs.map (·.1)=l.map (·.1)→VRs μ D h (l.map (·.2)) (xs.map (·.2.2))→OR prog w μ D h (.td l) a
 |ns {l:List (Nat×AV)} {a:Addr} {es:List DictEntry} {n:Nat}:h.get? a=some (dictOf es n)→NsR μ D h es l→OR prog w μ D h (.ns l) a
 |inst {C:Addr} {d:AA} {a:Addr}:h.get? a=some (instObj C (μ d))→D d→OR prog w μ D h (.inst C d) a
section
variable {prog:Program} {w:World} {μ:AA→Addr} {D:AA→Prop} {h:Heap} {a:Addr} {C:Prop}
theorem OR.listI {l:List AV} (o:OR prog w μ D h (.list l) a) (k:∀vs n,IsL h a vs.toArray n→VRs μ D h l vs→C):C:=by cases o; exact k _ _ ‹_› ‹_›
theorem OR.sdI {l:List (List Nat×AV)} (o:OR prog w μ D h (.sd l) a) (k:∀kvs,h.DictOf (sk prog w) a kvs→(∀p∈l,∀c∈p.1,c<1114112)→kvs.map (·.1)=l.map (fun p=>strOf p.1)→VRs μ D h (l.map (·.2)) (kvs.map (·.2))→C):C:=by cases o; exact k _ ‹_› ‹_› ‹_› ‹_›
theorem OR.idI {l:List (Int×AV)} (o:OR prog w μ D h (.id l) a) (k:∀kvs,h.DictOf (ik prog w) a kvs→kvs.map (·.1)=l.map (·.1)→VRs μ D h (l.map (·.2)) (kvs.map (·.2))→C):C:=by cases o; exact k _ ‹_› ‹_› ‹_›
theorem OR.tdI {l:List (TK×AV)} (o:OR prog w μ D h (.td l) a) (k:∀xs,h.DictOfH (tkKind prog w) a xs→xs.map (·.1)=l.map (·.1)→VRs μ D h (l.map (·.2)) (xs.map (·.2.2))→C):C:=by cases o; exact k _ ‹_› ‹_› ‹_›
theorem OR.nsI {l:List (Nat×AV)} (o:OR prog w μ D h (.ns l) a) (k:∀es n,h.get? a=some (dictOf es n)→NsR μ D h es l→C):C:=by cases o; exact k _ _ ‹_› ‹_›
theorem OR.instI {A:Addr} {d:AA} (o:OR prog w μ D h (.inst A d) a) (k:h.get? a=some (instObj A (μ d))→D d→C):C:=by cases o; exact k ‹_› ‹_›
end
section
variable {prog:Program} {w:World} {base:Heap} {fr:List Env} {μ μ' μ'':AA→Addr} {D D':AA→Prop} {H H' H'':AH} {h h' h'':Heap}
theorem NsR.mono (k:∀a,D a→D' a∧μ' a=μ a) (t:TupKeep h h') {es:List DictEntry} {l:List (Nat×AV)} (x:NsR μ D h es l):NsR μ' D' h' es l:=by
 induction x with
 |nil=>exact .nil
 |cons e1 e2 v _ ih=>exact .cons e1 e2 (v.mono k t) ih
theorem OR.mono (k:∀a,D a→D' a∧μ' a=μ a) (t:TupKeep h h') {o:AO} {a:Addr} (q:h'.get? a=h.get? a) (x:OR prog w μ D h o a):OR prog w μ' D' h' o a:=by
 induction x using OR.casesOn with
 |list x1 x2 =>
  exact .list (n:=_) (q.trans x1) (VRs.mono k t x2)
 |sd x1 x2 x3 x4 =>
  obtain⟨ob,es,ep,e,r⟩:=x1;exact .sd ⟨ob,es,ep,q.trans e,r⟩ x2 x3 (VRs.mono k t x4)
 |id x1 x3 x4 =>
  obtain⟨ob,es,ep,e,r⟩:=x1;exact .id ⟨ob,es,ep,q.trans e,r⟩ x3 (VRs.mono k t x4)
 |td x1 x3 x4 =>
  obtain⟨ob,es,ep,e,r1,r2,r3,r4,r5⟩:=x1;exact .td ⟨ob,es,ep,q.trans e,r1,r2,r3,fun y hy=>IsTK.keep (r4 y hy) t,r5⟩ x3 (VRs.mono k t x4)
 |ns x1 x2=>exact .ns (q.trans x1) (x2.mono k t)
 |inst x1 x2=>rw[←(k _ x2).2] at x1; exact .inst (q.trans x1) (k _ x2).1
theorem OR.there {o:AO} {a:Addr} (x:OR prog w μ D h o a):∃ob,h.get? a=some ob∧ob.cls≠.type "tuple"∧(∀vs,ob.data≠.fields vs)∧(∀v,ob.data≠.cell v):=by
 induction x using OR.casesOn with
 |list x1 x2 =>
  refine⟨_,x1,?_,fun _=>?_,fun _=>?_⟩
  ·simp
  ·simp
  ·simp
 |sd x1 x2 x3 x4 =>
  obtain⟨ob,es,ep,e,c,d,_⟩:=x1;refine⟨ob,e,?_,fun _=>?_,fun _=>?_⟩
  ·rw[c.1]; simp
  ·rw[d]; simp
  ·rw[d]; simp
 |id x1 x3 x4 =>
  obtain⟨ob,es,ep,e,c,d,_⟩:=x1;refine⟨ob,e,?_,fun _=>?_,fun _=>?_⟩
  ·rw[c.1]; simp
  ·rw[d]; simp
  ·rw[d]; simp
 |td x1 x3 x4 =>
  obtain⟨ob,es,ep,e,c,d,_⟩:=x1;refine⟨ob,e,?_,fun _=>?_,fun _=>?_⟩
  ·rw[c.1]; simp
  ·rw[d]; simp
  ·rw[d]; simp
 |ns x1 x2 =>
  refine⟨_,x1,?_,fun _=>?_,fun _=>?_⟩
  ·simp
  ·simp
  ·simp
 |inst x1 x2 =>
  refine⟨_,x1,?_,fun _=>?_,fun _=>?_⟩
  ·simp
  ·simp
  ·simp
structure Rep (prog:Program) (w:World) (base:Heap) (fr:List Env) (μ:AA→Addr) (H:AH) (h:Heap):Prop where
 inj:∀a b,H a≠none→H b≠none→μ a=μ b→a=b
 obj:∀a o,H a=some o→OR prog w μ (Dm H) h o (μ a)
 new:∀a,H a≠none→base.get? (μ a)=none
 ap:∀a,H a≠none→μ a ∉ Lsf fr
 stay:base.StaysIn h
structure Ext (fr:List Env) (μ:AA→Addr) (H:AH) (s:Shared) (μ':AA→Addr) (H':AH) (s':Shared):Prop where
 old:∀a,H a≠none→H' a≠none∧μ' a=μ a
 fresh:∀a,H' a≠none→H a=none→s.heap.get? (μ' a)=none
 keep:∀b o,s.heap.get? b=some o→¬Img μ H b→(b ∉ Lsf fr→s'.heap.get? b=some o)∧∃sl,s'.heap.get? b=some { o with slots:=sl }
 rest:s'.gens=s.gens∧s'.os=s.os
variable {s s' s'':Shared}
theorem Ext.refl (fr:List Env) (μ:AA→Addr) (H:AH) (s:Shared):Ext fr μ H s μ H s :=
 ⟨fun _ x=>⟨x,rfl⟩,fun _ x y=>absurd y x,fun _ o e _=>⟨fun _=>e,o.slots,e⟩,rfl,rfl⟩
theorem Ext.notImg (x:Ext fr μ H s μ' H' s') {b:Addr} {o:Obj} (e:s.heap.get? b=some o) (n:¬Img μ H b):¬Img μ' H' b:=by
 rintro ⟨a,ha,rfl⟩
 by_cases q:H a=none
 ·rw[x.fresh a ha q] at e; exact (noS e).elim
 ·exact n ⟨a,q,(x.old a q).2.symm⟩
theorem Rep.there (r:Rep prog w base fr μ H h):∀a,H a≠none→∃ob,h.get? (μ a)=some ob∧ob.cls≠.type "tuple"∧(∀vs,ob.data≠.fields vs)∧(∀v,ob.data≠.cell v):=fun a ha=>by
 cases q:H a with
 |none=>exact absurd q ha
 |some o=>exact (r.obj a o q).there
theorem Ext.away {fr:List Env} {μ μ':AA→Addr} {H H':AH} {s s':Shared} {prog:Program} {w:World} {base:Heap} (e:Ext fr μ H s μ' H' s') (r:Rep prog w base fr μ' H' s'.heap):∀b,s'.heap.get? b=none→s.heap.get? b=none:=fun b hb=>by
 cases z:s.heap.get? b with
 |none=>rfl
 |some o =>
  by_cases im:Img μ H b
  ·obtain⟨c,hc,ec⟩:=im;obtain⟨h1,e1⟩:=e.old c hc;obtain⟨ob,e',_⟩:=r.there c h1;rw[e1,ec,hb] at e'; exact (noS e').elim
  ·obtain⟨_,sl,e'⟩:=e.keep _ o z im;rw[hb] at e'; exact (noS e').elim
theorem Ext.trans (x:Ext fr μ H s μ' H' s') (y:Ext fr μ' H' s' μ'' H'' s'') (r:Rep prog w base fr μ' H' s'.heap):Ext fr μ H s μ'' H'' s'':=by
 refine⟨fun a ha=>?_,fun a ha hn=>?_,fun b o e n=>?_,y.rest.1.trans x.rest.1,y.rest.2.trans x.rest.2⟩
 ·obtain⟨h1,e1⟩:=x.old a ha;obtain⟨h2,e2⟩:=y.old a h1;exact⟨h2,e2.trans e1⟩
 ·by_cases q:H' a=none
  ·exact x.away r _ (y.fresh a ha q)
  ·refine rwE ((y.old a q).2) ?_; exact x.fresh a q hn
 ·obtain⟨k1,sl1,e1⟩:=x.keep b o e n;have n':=x.notImg e n;obtain⟨k2,sl2,e2⟩:=y.keep b _ e1 n';exact⟨fun hb=>(y.keep b o (k1 hb) n').1 hb,sl2,e2⟩
theorem Rep.notTup (r:Rep prog w base fr μ H h) {b:Addr} {o:Obj} (e:h.get? b=some o) (c:o.cls = .type "tuple"):¬Img μ H b:=by
 rintro ⟨a,ha,rfl⟩
 obtain⟨ob,e',n,_⟩:=r.there a ha;rw[e] at e'; obtain rfl:=Option.some.inj e'; exact n c
theorem Ext.tup (x:Ext fr μ H s μ' H' s') (r:Rep prog w base fr μ H s.heap):TupKeep s.heap s'.heap:=fun b o e c _=>(x.keep b o e (r.notTup e c)).2
theorem Ext.vr (x:Ext fr μ H s μ' H' s') (r:Rep prog w base fr μ H s.heap) {a:AV} {v:Value} (q:VR μ (Dm H) s.heap a v):VR μ' (Dm H') s'.heap a v:=q.mono x.old (x.tup r)
theorem Ext.vrs (x:Ext fr μ H s μ' H' s') (r:Rep prog w base fr μ H s.heap) {a:List AV} {v:List Value} (q:VRs μ (Dm H) s.heap a v):VRs μ' (Dm H') s'.heap a v:=VRs.mono x.old (x.tup r) q
theorem Ext.ns (x:Ext fr μ H s μ' H' s') {b:Addr} {m:Str→Option Value} (e:s.heap.Ns b m) (n:¬Img μ H b):s'.heap.Ns b m:=by
 obtain⟨o,es,ep,ho,r⟩:=e;obtain⟨_,sl,k⟩:=x.keep b o ho n;exact⟨_,es,ep,k,r⟩
theorem Ext.cell (x:Ext fr μ H s μ' H' s') (r:Rep prog w base fr μ H s.heap) {b:Addr} {v:Option Value} (e:s.heap.IsCell b v):s'.heap.IsCell b v:=by
 obtain⟨o,ho,hd⟩:=e;have n:¬Img μ H b:=by
  rintro ⟨a,ha,rfl⟩
  obtain⟨ob,e',_,_,n⟩:=r.there a ha;rw[ho] at e'; obtain rfl:=Option.some.inj e'; exact n _ hd
 obtain⟨_,sl,k⟩:=x.keep b o ho n;exact⟨_,k,hd⟩
theorem frames_go {h h':Heap}:∀{l:List Env},(∀L o,L∈Lsf l→h.get? L=some o→(∀vs,o.data≠.fields vs)→∃o',h'.get? L=some o'∧∀vs,o'.data≠.fields vs)→h.FunFrames base l→h'.FunFrames base l:=by
 intro l;induction l with
 |nil=>exact fun _ _=>trivial
 |cons e r ih =>
  exact fun k f=>⟨f.1,E24 f.2.1 fun L o hf hn ho hd=>E12 (k L o (List.mem_filterMap.mpr ⟨e,.head _,hf⟩) ho hd) fun o' h1 h2=>⟨L,o',hf,hn,h1,h2⟩,
   ih (fun L o hL=>k L o (by obtain⟨e,he,h⟩:=List.mem_filterMap.mp hL; exact List.mem_filterMap.mpr ⟨e,.tail _ he,h⟩)) f.2.2⟩
theorem Ext.frames (x:Ext fr μ H s μ' H' s') (r:Rep prog w base fr μ H s.heap) {l:List Env} (i:∀b∈Lsf l,b∈Lsf fr):s.heap.FunFrames base l→s'.heap.FunFrames base l :=
 frames_go fun L o hL ho hd=>by
  obtain⟨_,sl,k⟩:=x.keep L o ho (fun⟨a,ha,e⟩=>r.ap a ha (e▸i _ hL));exact⟨_,k,hd⟩
theorem Rep.put (r:Rep prog w base fr μ H s.heap) {a:AA} {o:AO} (ha:H a≠none) (hs:Heap.SameBut (μ a) s.heap h') (q:OR prog w μ (Dm (upd H a o)) h' o (μ a)) (g:s'.heap=h') (gr:s'.gens=s.gens∧s'.os=s.os) :
 Rep prog w base fr μ (upd H a o) s'.heap∧Ext fr μ H s μ (upd H a o) s':=by
 subst g;have dm:∀b,upd H a o b≠none↔H b≠none:=upd_dm (by first|exact ha|simp[ha]);have tk:TupKeep s.heap s'.heap:=fun b p e c _=>⟨p.slots,(hs.2 b fun z=>r.notTup e c ⟨a,ha,z.symm⟩).trans e⟩;refine⟨⟨fun b c hb hc=>r.inj b c ((dm b).mp hb) ((dm c).mp hc),fun b p hb=>?_,fun b hb=>r.new b ((dm b).mp hb),fun b hb=>r.ap b ((dm b).mp hb),fun b p e=>?_⟩,
  ⟨fun b hb=>⟨(dm b).mpr hb,rfl⟩,fun b hb hn=>absurd hn ((dm b).mp hb),fun b p e n=>?_,gr⟩⟩
 ·by_cases e:b=a
  ·subst e;have:p=o:=by simp[upd] at hb; exact hb.symm
   subst this; exact q
  ·have hb':H b=some p:=by simpa [upd,e] using hb
   refine (r.obj b p hb').mono (fun c hc=>⟨(dm c).mpr hc,rfl⟩) tk (hs.2 _ fun z=>e (r.inj b a (by refine rwE hb' ?_; simp) ha z))
 ·refine (hs.2 b fun z=>?_).trans (r.stay b p e);rw[z,r.new a ha] at e; exact (noS e).elim
 ·have:=(hs.2 b fun z=>n ⟨a,ha,z.symm⟩).trans e;exact⟨fun _=>this,p.slots,this⟩
noncomputable def setμ (μ:AA→Addr) (a:AA) (n:Addr):AA→Addr:=fun b=>if b=a then n else μ b
theorem Rep.add (r:Rep prog w base fr μ H s.heap) {a:AA} {o:AO} {n:Addr} (ha:H a=none) (hn:s.heap.get? n=none) (hf:∀b∈Lsf fr,s.heap.get? b≠none) (hk:∀b p,s.heap.get? b=some p→s'.heap.get? b=some p)
 (q:OR prog w (setμ μ a n) (Dm (upd H a o)) s'.heap o n) (gr:s'.gens=s.gens∧s'.os=s.os) :
 Rep prog w base fr (setμ μ a n) (upd H a o) s'.heap∧Ext fr μ H s (setμ μ a n) (upd H a o) s':=by
 have up:∀b,H b≠none→upd H a o b≠none∧setμ μ a n b=μ b:=fun b hb=>by
  have:b≠a:=fun e=>hb (e▸ha);simp[upd,setμ,this,hb]
 have dn:∀b,upd H a o b≠none→b=a∨(b≠a∧H b≠none):=fun b hb=>by
  by_cases e:b=a
  ·exact .inl e
  ·exact .inr ⟨e,by simpa [upd,e] using hb⟩
 have sa:setμ μ a n a=n:=by simp[setμ]
 have so:∀b,b≠a→setμ μ a n b=μ b:=fun b e=>by simp[setμ,e]
 have ne:∀b,H b≠none→μ b≠n:=fun b hb e=>by
  obtain⟨ob,e',_⟩:=r.there b hb;rw[e,hn] at e'; exact (noS e').elim
 have tk:TupKeep s.heap s'.heap:=fun b p e c _=>⟨p.slots,hk b p e⟩;refine⟨⟨fun b c hb hc e=>?_,fun b p hb=>?_,fun b hb=>?_,fun b hb=>?_,fun b p e=>hk b p (r.stay b p e)⟩,
  ⟨up,fun b hb hb'=>?_,fun b p e _=>⟨fun _=>hk b p e,p.slots,hk b p e⟩,gr⟩⟩
 ·rcases dn b hb with rfl|⟨nb,hb'⟩<;>rcases dn c hc with rfl|⟨nc,hc'⟩
  ·rfl
  ·rw[sa,so c nc] at e; exact absurd e.symm (ne c hc')
  ·rw[sa,so b nb] at e; exact absurd e (ne b hb')
  ·rw[so b nb,so c nc] at e; exact r.inj b c hb' hc' e
 ·by_cases e:b=a
  ·subst e;have:p=o:=by simp[upd] at hb; exact hb.symm
   subst this; refine rwE sa ?_; exact q
  ·have hb':H b=some p:=by simpa [upd,e] using hb
   have hne:H b≠none:=by refine rwE hb' ?_; simp
   obtain⟨ob,e',_⟩:=r.there b hne;refine rwE (so b e) ?_;exact (r.obj b p hb').mono up tk ((hk _ _ e').trans e'.symm)
 ·rcases dn b hb with rfl|⟨nb,hb'⟩
  ·refine rwE sa ?_;exact nk (r.stay _) hn
  ·refine rwE (so b nb) ?_; exact r.new b hb'
 ·rcases dn b hb with rfl|⟨nb,hb'⟩
  ·rw[sa]; exact fun hm=>hf _ hm hn
  ·refine rwE (so b nb) ?_; exact r.ap b hb'
 ·rcases dn b hb with rfl|⟨nb,hb''⟩
  ·refine rwE sa ?_; exact hn
  ·exact absurd hb' hb''
theorem Rep.more (r:Rep prog w base fr μ H s.heap) (hk:∀b p,s.heap.get? b=some p→s'.heap.get? b=some p) (gr:s'.gens=s.gens∧s'.os=s.os):Rep prog w base fr μ H s'.heap∧Ext fr μ H s μ H s':=by
 have tk:TupKeep s.heap s'.heap:=fun b p e c _=>⟨p.slots,hk b p e⟩;refine⟨⟨r.inj,fun b p hb=>?_,r.new,r.ap,fun b p e=>hk b p (r.stay b p e)⟩,⟨fun b hb=>⟨hb,rfl⟩,fun b hb hn=>absurd hn hb,fun b p e _=>⟨fun _=>hk b p e,p.slots,hk b p e⟩,gr⟩⟩;have hne:H b≠none:=by refine rwE hb ?_; simp
 obtain⟨ob,e',_⟩:=r.there b hne;exact (r.obj b p hb).mono (fun c hc=>⟨hc,rfl⟩) tk ((hk _ _ e').trans e'.symm)
end
def Bears (h0:Heap) (μ:AA→Addr) (H:AH) (h:Heap) (Dd:Addr) (x:AV):Prop:=h0.get? Dd=none∧¬Img μ H Dd∧∃m v,h.Ns1 Dd m∧m (nmS 28)=some v∧VR μ (Dm H) h x v
inductive FlyG (fl:Value) (C:Addr) (h0:Heap) (μ:AA→Addr) (H:AH) (h:Heap) (e:Value) (x:AV):Prop
 |mk (ea:Addr) (oe:Obj) (vs:Array Value) (T:Addr) (oT:Obj) (ts:Array Value) (Dd:Addr) (_:e = .ref ea) (_:h.get? ea=some oe) (_:oe.cls = .ref C) (_:oe.dict=some Dd) (_:oe.data = .fields vs) (_:vs[1]? = some (.ref T)) (_:T≠ea)
  (_:h.get? T=some oT) (_:oT.data = .fields ts) (_:ts[3]? = some fl) (_:h0.get? ea=none) (_:h0.get? T=none) (_:Bears h0 μ H h Dd x)
noncomputable abbrev Flys:=FlyG .none
theorem FlyG.up {fl:Value} {C:Addr} {h0 h1:Heap} {μ:AA→Addr} {H:AH} {h:Heap} {e:Value} {x:AV} (k:∀b,h1.get? b=none→h0.get? b=none) (y:FlyG fl C h1 μ H h e x):FlyG fl C h0 μ H h e x:=by
 obtain⟨ea,oe,vs,T,oT,ts,Dd,h1,h2,h3,h4,h5,h6,h7,h8,h9,h10,h11,h12,h13⟩:=y;exact⟨ea,oe,vs,T,oT,ts,Dd,h1,h2,h3,h4,h5,h6,h7,h8,h9,h10,k _ h11,k _ h12,k _ h13.1,h13.2⟩
structure Fix (T:NT) (A:Around) (env:Env) (fr:List Env):Prop where
 frames:A.frames=some fr
 hand:A.handled=none
 kind:env.scope.kind = .function
 glob:env.globals=mainGlobals
 blt:env.builtins=builtinsNs
 fst:∃e0 r,fr=e0::r∧env.frame=e0.frame
 loc:∀x i,T.lookup x=some (.loc i)→env.kindOf x=some .local
 cel:∀x i,T.lookup x=some (.cell i)→env.kindOf x=some .cell∨env.kindOf x=some .free
 glo:∀x,T.lookup x=some .glob→env.kindOf x=some .globalImplicit
 uniq:∀x y i,(T.lookup x=some (.loc i)∨T.lookup x=some (.cell i))→(T.lookup y=some (.loc i)∨T.lookup y=some (.cell i))→x=y
 nd:∀x sl,T.lookup x=some sl→(x==Str.ofString "__debug__")=false∧(x==Str.ofString "__classdict__")=false
 cells:∀x i,T.lookup x=some (.cell i)→(env.cells.lookup x).isSome=true
def Room (n:Nat) (A:Around):Prop:=A.depth+2*n+2<recursionLimit∧A.units+16*n+400<cLine
structure Lo (T:NT) (env:Env) (ρ:Loc) (μ:AA→Addr) (H:AH) (h:Heap):Prop where
 loc:∃m,h.Ns env.locals m∧∀x i v,T.lookup x=some (.loc i)→ρ i=some v→∃u,m x=some u∧VR μ (Dm H) h v u
 cel:∀x i v,T.lookup x=some (.cell i)→ρ i=some v→∃c u,env.cells.lookup x=some c∧h.IsCell c (some u)∧VR μ (Dm H) h v u
 apart:¬Img μ H env.locals
structure Ground0 (prog:Program) (w:World) (G:Gl) (S:Stat) (K:Frag) (base:Heap):Prop where
 inn:K.In base
 glo:∃mg,base.Ns mainGlobals mg∧(∀x v,gval G x=some v→∃u,mg x=some u∧VR0 base v u)∧∃mb,base.Ns builtinsNs mb∧∀x∈([Str.ofString "len",Str.ofString "tuple",Str.ofString "range"]:List Str),mg x=none∧mb x=bootBuiltins x
 nolimit:base.NoLimit
 obj:∀a o,S.obj a=some o→OR prog w (fun _=>0) (fun _=>False) base o a
 sysm:base.get? sysModules≠none
 objs:∀a o,S.obj a=some o→a≠sysModules
 defs:∀mg,base.Ns mainGlobals mg→(∀x f,G.defs.lookup x=some f→mg x=some (.ref f)∧keepIn K (.ref f)=true)∧∀x C,G.clss.lookup x=some C→mg x=some (.ref C)
 init:∀C i,S.init C=some i→makesIn K C=true∧keepIn K (.ref C)=true∧(match i with
  |some f=>findIn K (.ref C) "__init__" = some (some (.ref f))∧typeIn K (.ref f)=some (.type "function")
  |none=>findIn K (.ref C) "__init__" = some (some (.builtin "object.__init__")))
 plain:∀C n,S.plain C n=true→plainGet K C (nmS n)=true∧hasDictIn K C=true∧findIn K (.ref C) (nmS n)=some none∧findIn K (.ref C) "__setattr__" = some (some (.builtin "object.__setattr__"))∧plainOver K C=true∧n<names.length
 meth:∀C n f,S.meth C n=some f→plainGet K C (nmS n)=true∧hasDictIn K C=true∧findIn K (.ref C) (nmS n)=some (some (.ref f))∧isFn K (.ref f)=true∧keepIn K (.ref f)=true∧n<names.length
section
variable {prog:Program} {w:World} {G:Gl} {S:Stat} {K:Frag} {base:Heap}
noncomputable def PQ (prog:Program) (w:World) (base:Heap) (fr:List Env) (μ:AA→Addr) (H:AH) (s:Shared) (Q:AV→AH→Prop) (v:Value) (s':Shared):Prop :=
 ∃μ' H' a,Ext fr μ H s μ' H' s'∧Rep prog w base fr μ' H' s'.heap∧VR μ' (Dm H') s'.heap a v∧Q a H'
inductive PX (prog:Program) (w:World) (S:Stat) (base:Heap) (fr:List Env) (μ:AA→Addr) (H:AH) (s:Shared) (X:AV→AH→Prop) (e:Value) (s':Shared):Prop
 |mk (μ':AA→Addr) (H':AH) (x:AV) (_:Ext fr μ H s μ' H' s') (_:Rep prog w base fr μ' H' s'.heap) (_:Flys S.unheld s.heap μ' H' s'.heap e x) (_:X x H')
theorem PX.no {prog:Program} {w:World} {S:Stat} {base:Heap} {fr:List Env} {μ:AA→Addr} {H:AH} {s s':Shared} {e:Value} {C:Prop} (x:PX prog w S base fr μ H s (fun _ _=>False) e s'):C:=by
 cases x with|mk _ _ _ _ _ _ f=>exact f.elim
structure St (prog:Program) (w:World) (base:Heap) (T:NT) (env:Env) (fr:List Env) (ρ:Loc) (μ:AA→Addr) (H:AH) (s:Shared):Prop where
 rep:Rep prog w base fr μ H s.heap
 frs:s.heap.FunFrames base fr
 lo:Lo T env ρ μ H s.heap
variable {T:NT} {A:Around} {env:Env} {fr:List Env} {ρ:Loc} {μ μ' μ'':AA→Addr} {H H' H'':AH} {s s' s'':Shared} {X:AV→AH→Prop}
theorem Lo.ext (x:Lo T env ρ μ H s.heap) (e:Ext fr μ H s μ' H' s') (r:Rep prog w base fr μ H s.heap):Lo T env ρ μ' H' s'.heap:=by
 obtain⟨⟨m,hn,hl⟩,hc,ha⟩:=x;refine⟨⟨m,e.ns hn ha,fun x i v h1 h2=>?_⟩,fun x i v h1 h2=>?_,?_⟩
 ·obtain⟨u,e1,e2⟩:=hl x i v h1 h2; exact⟨u,e1,e.vr r e2⟩
 ·obtain⟨c,u,e1,e2,e3⟩:=hc x i v h1 h2; exact⟨c,u,e1,e.cell r e2,e.vr r e3⟩
 ·obtain⟨o,_,_,ho,_⟩:=hn; exact e.notImg ho ha
theorem St.ext (x:St prog w base T env fr ρ μ H s) (e:Ext fr μ H s μ' H' s') (r:Rep prog w base fr μ' H' s'.heap):St prog w base T env fr ρ μ' H' s' :=
 ⟨r,e.frames x.rep (fun _ h=>h) x.frs,x.lo.ext e x.rep⟩
theorem PX.up (e:Ext fr μ H s μ' H' s') (r:Rep prog w base fr μ' H' s'.heap) {v:Value} {s2:Shared} (x:PX prog w S base fr μ' H' s' X v s2):PX prog w S base fr μ H s X v s2:=by
 obtain⟨μ2,H2,y,e2,r2,f,h⟩:=x;exact⟨μ2,H2,y,e.trans e2 r,r2,f.up (e.away r),h⟩
noncomputable def SE (prog:Program) (w:World) (S:Stat) (base:Heap) (T:NT) (A:Around) (env:Env) (fr:List Env) (call:Callee) (e:PySem.Expr) (m:ME):Prop :=
 ∀ρ μ H s (Q X:AV→AH→Prop) (P:Value→Shared→Prop) (E:Value→Shared→Prop),St prog w base T env fr ρ μ H s→ewp S call X m ρ Q H →
  (∀v s' μ' H' a,Ext fr μ H s μ' H' s'→St prog w base T env fr ρ μ' H' s'→VR μ' (Dm H') s'.heap a v→Q a H'→P v s') →
  (∀e s',PX prog w S base fr μ H s X e s'→E e s')→wpAny (model prog w) A (eval e env) P E s
variable {call:Callee}
theorem Rep.same (r:Rep prog w base fr μ H s.heap) {t:Nat}:Ext fr μ H s μ H { s with toks:=t }:=(r.more (s':={ s with toks:=t }) (fun _ _ e=>e) ⟨rfl,rfl⟩).2
theorem St.toks (x:St prog w base T env fr ρ μ H s) (t:Nat):St prog w base T env fr ρ μ H { s with toks:=t }:=⟨x.rep,x.frs,x.lo⟩
theorem se_none {k pos}:SE prog w S base T A env fr call (.Constant .none k pos) (.val .none):=fun ρ μ H s Q X P E st h q _ =>
 wpAny_Constant_none (q _ _ μ H .none (.refl ..) st .none h)
theorem se_bool {b k pos}:SE prog w S base T A env fr call (.Constant (.bool b) k pos) (.val (.bool b)):=fun ρ μ H s Q X P E st h q _ =>
 wpAny_Constant_bool (q _ _ μ H _ (.refl ..) st (.bool b) h)
theorem se_int {i k pos}:SE prog w S base T A env fr call (.Constant (.int i) k pos) (.val (.int i)):=fun ρ μ H s Q X P E st h q _ =>
 wpAny_Constant_int (q _ _ μ H _ st.rep.same (st.toks _) (.int i _) h)
theorem se_str {x:Str} {k pos} (hx:(x.cps.toList.all fun c=>decide (c<1114112))=true):SE prog w S base T A env fr call (.Constant (.str x) k pos) (.val (.str x.cps.toList)):=fun ρ μ H s Q X P E st h q _ =>
 wpAny_Constant_str (q _ _ μ H _ st.rep.same (st.toks _) (by
  have e:strOf x.cps.toList=x:=by cases x; rfl
  have:=VR.str (μ:=μ) (D:=Dm H) (h:=s.heap) x.cps.toList s.toks (fun c hc=>of_decide_eq_true (List.all_eq_true.mp hx c hc));rwa [e] at this) h)
theorem Ground0.vr (g:Ground0 prog w G S K base) (r:Rep prog w base fr μ H s.heap) {v:AV} {u:Value} (x:VR0 base v u):VR μ (Dm H) s.heap v u :=
 VR.mono (fun _ f=>f.elim) (fun b o e _ _=>⟨o.slots,r.stay b o e⟩) x
theorem nameE_I {x:Str} {m:ME} {C:Prop} (e:nameE G T x=some m) (k1:∀i,T.lookup x=some (.loc i)→m = .loc i→C) (k2:∀i,T.lookup x=some (.cell i)→m = .loc i→C) (k3:∀v,T.lookup x=some .glob→gval G x=some v→m = .val v→C):C:=by
 unfold nameE at e;revert e;induction hl:T.lookup x using Option.casesOn with
 |none=>exact fun e=>(noS e).elim
 |some o=>induction o using Sl.casesOn with
  |loc i=>exact fun e=>k1 i hl (Option.some.inj e).symm
  |cell i=>exact fun e=>k2 i hl (Option.some.inj e).symm
  |glob=>exact fun e=>E12 (Option.map_eq_some_iff.mp e) fun v hv e=>k3 v hl hv e.symm
theorem name_ok {x:Str} {pos:Pos} {m:ME} (F:Fix T A env fr) (g:Ground0 prog w G S K base) (e:nameE G T x=some m) {X Q:AV→AH→Prop} {P E:Value→Shared→Prop} (st:St prog w base T env fr ρ μ H s) (h:ewp S call X m ρ Q H) (q:∀v a,VR μ (Dm H) s.heap a v→Q a H→P v s):wpAny (model prog w) A (eval (.Name x pos) env) P E s:=by
 refine nameE_I e (fun i hi em=>?_) (fun i hi em=>?_) fun v hi hv em=>?_<;>subst em
 ·refine oK_I h fun v hv h=>?_;obtain⟨⟨m,hn,hl⟩,hc,ha⟩:=st.lo;exact E12 (hl x i v hi hv) fun u e1 e2=>wpAny_Name (wpAny_loadName_local F.kind (F.loc x i hi) hn e1 (q _ _ e2 h)) (F.nd x _ hi).1
 ·refine oK_I h fun v hv h=>?_;refine E23 (st.lo.cel x i v hi hv) fun c u e1 e2 e3=>?_;rcases F.cel x i hi with k|k
  ·exact wpAny_Name (wpAny_loadName_cell F.kind k e1 e2 (q _ _ e3 h)) (F.nd x _ hi).1
  ·exact wpAny_Name (wpAny_loadName_free F.kind k e1 e2 (q _ _ e3 h) (F.nd x _ hi).2) (F.nd x _ hi).1
 ·refine E13 g.glo fun mg hg hgv _=>?_;refine E12 (hgv x v hv) fun u e1 e2=>?_;exact Name_function_global F.kind (F.glo x hi) (loadGlobal_global (F.glob▸hg.keeps st.rep.stay) e1 (q _ _ (g.vr st.rep e2) h)) (F.nd x _ hi).1
theorem se_name {x:Str} {pos:Pos} {m:ME} (F:Fix T A env fr) (g:Ground0 prog w G S K base) (e:nameE G T x=some m):SE prog w S base T A env fr call (.Name x pos) m :=
 fun _ μ H _ _ _ _ _ st h q _=>name_ok F g e st h fun _ _ x k=>q _ _ μ H _ (.refl ..) st x k
end
section
variable {prog:Program} {w:World} {G:Gl} {S:Stat} {K:Frag} {base:Heap}
variable {T:NT} {A:Around} {env:Env} {fr:List Env} {ρ:Loc} {μ μ' μ'':AA→Addr} {H H' H'':AH} {s s' s'':Shared} {X:AV→AH→Prop} {call:Callee} {h':Heap}
theorem St.fresh (st:St prog w base T env fr ρ μ H s):∀b∈Lsf fr,s.heap.get? b≠none:=fun b hb=>by
 obtain⟨_,o,ho,_⟩:=st.frs.mem hb;refine rwE ho ?_; simp
theorem get_size (h:Heap):h.get? h.objs.size=none:=by
 cases e:h.get? h.objs.size with
 |none=>rfl
 |some o=>exact absurd (Heap.lt_size e) (Nat.lt_irrefl _)
theorem newO_ok (st:St prog w base T env fr ρ μ H s) {o:AO} {n:Addr} {Q:AV→AH→Prop} (h:newO H o Q) (hn:s.heap.get? n=none) (hk:∀b p,s.heap.get? b=some p→s'.heap.get? b=some p)
 (q:∀a,H a=none→OR prog w (setμ μ a n) (Dm (upd H a o)) s'.heap o n) (gr:s'.gens=s.gens∧s'.os=s.os) :
 ∃μ' H' a,Ext fr μ H s μ' H' s'∧St prog w base T env fr ρ μ' H' s'∧VR μ' (Dm H') s'.heap a (.ref n)∧Q a H':=by
 refine kf fun kG=>?_;rcases h with h|⟨a,ha,h⟩
 ·obtain⟨r,e⟩:=st.rep.more hk gr;refine kG ?_; clear kG;exact⟨μ,H,.junk,e,st.ext e r,.junk rfl,h⟩
 ·obtain⟨r,e⟩:=st.rep.add ha hn st.fresh hk (q a ha) gr;refine kG ?_; clear kG;refine⟨_,_,_,e,st.ext e r,?_,h⟩;have:=VR.ref (μ:=setμ μ a n) (D:=Dm (upd H a o)) (h:=s'.heap) (a:=a) (by simp[upd]);rwa [show setμ μ a n a=n from by simp[setμ]] at this
theorem St.upd_up {a:AA} {o:AO} {n:Addr} (ha:H a=none):∀b,H b≠none→upd H a o b≠none∧setμ μ a n b=μ b:=fun b hb=>by
 have:b≠a:=fun e=>hb (e▸ha);simp[upd,setμ,this,hb]
theorem keepsTup {h h':Heap} (hk:∀b p,h.get? b=some p→h'.get? b=some p):TupKeep h h':=fun b p e _ _=>⟨p.slots,hk b p e⟩
theorem newList_ok (st:St prog w base T env fr ρ μ H s) {l:List AV} {vs:List Value} {n:Addr} {Q:AV→AH→Prop} (h:newO H (.list l) Q) (hn:s.heap.get? n=none) (hk:∀b p,s.heap.get? b=some p→s'.heap.get? b=some p)
 (x:VRs μ (Dm H) s.heap l vs) {k:Nat} (q:IsL s'.heap n vs.toArray k) (gr:s'.gens=s.gens∧s'.os=s.os) :
 ∃μ' H' a,Ext fr μ H s μ' H' s'∧St prog w base T env fr ρ μ' H' s'∧VR μ' (Dm H') s'.heap a (.ref n)∧Q a H' :=
 newO_ok st h hn hk (fun a ha=>.list q (VRs.mono (St.upd_up ha) (keepsTup hk) x)) gr
theorem got_list {o:Option AO} {l:List AV} (e:o=some (.list l)):o=some (.list l):=e
theorem objOf_or (g:Ground0 prog w G S K base) (r:Rep prog w base fr μ H s.heap) {a:AV} {v:Value} {o:AO} (x:VR μ (Dm H) s.heap a v) (e:objOf S H a=some o):∃b,v = .ref b∧OR prog w μ (Dm H) s.heap o b∧b≠sysModules:=by
 refine kf fun kG=>?_;induction a using AV.casesOn with
 |ref a =>
  cases x with
  |ref d =>
   refine kG ?_; clear kG;refine⟨_,rfl,r.obj a o e,fun z=>?_⟩;have:=r.new a (by rw[show H a=some o from e]; simp);rw[z] at this;exact g.sysm this
 |glob b =>
  cases x with
  |glob =>
   refine kG ?_; clear kG;refine⟨_,rfl,?_,g.objs _ _ e⟩;refine E12 ((g.obj b o e).there) fun ob e' _=>?_;exact (g.obj b o e).mono (fun _ f=>f.elim) (fun b o e _ _=>⟨o.slots,r.stay b o e⟩) ((r.stay _ _ e').trans e'.symm)
 |_ =>
  exact (noS e).elim
@[elab_as_elim] theorem objOf_I (g:Ground0 prog w G S K base) (r:Rep prog w base fr μ H s.heap) {a:AV} {v:Value} {o:AO} {C:Value→Prop} (x:VR μ (Dm H) s.heap a v) (e:objOf S H a=some o) (k:∀b,OR prog w μ (Dm H) s.heap o b→b≠sysModules→C (.ref b)):C v:=by
 refine E13 (objOf_or g r x e) fun b eq1 h1 h2=>?_; subst eq1;exact k b h1 h2
theorem vrs_of_toList {l:List AV} {vs:List Value} (x:VRs μ (Dm H) s.heap l vs):l.length=vs.length:=x.length
theorem objOf_none_str {x:List Nat}:objOf S H (.str x)=none:=rfl
theorem objOf_none_int {x:Int}:objOf S H (.int x)=none:=rfl
theorem str_append (x y:List Nat):strOf x++strOf y=strOf (x++y):=by
 show Str.mk _=_
 simp[strOf]
theorem repeat_ok {l:Addr} {items:Array Value} {k:Nat} {x:Int} {u:Tok} {Q E:Value→Shared→Prop} (hl:IsL s.heap l items k) (hlo:-(2 ^ 63:Int)≤x) (hhi:x<2 ^ 63) (hsz:items.size*x.toNat≤2 ^ 24)
 (h:Q (.ref s.heap.objs.size) { s with heap:=s.heap.push { cls:=.type "list",data:=.seq (List.foldl (fun x1 x2=>x1++x2) #[] (List.replicate (if items.isEmpty=true then 0 else x.toNat) items)) } }) :
 wpAny (model prog w) A (binaryOp .Mult (.ref l) (.int x u)) Q E s:=by
 have hT:s.TypeIs (.ref l) "list":=⟨_,hl,rfl⟩
 refine wpAny_binaryOp_repeat_ref (T:="list") (U:="int") (by decide) hT (fun s'=>typeIs_int s' x u) noFill_list_mul F.fills_int_mul F.slot_int_rmul repeat_list F.slot_int_index.lookup ?_
 exact call_meets F.slot_int_rmul (typeIs_int s x u) F.entry_int_rmul (F.args_int_rmul_2 _ _) (int___rmul___int_list x u l items k)
  ⟨hl,rfl,hT,call_meets F.slot_list_mul hT F.entry_list_mul (F.args_list_mul_2 _ _) (AutoListH.list___mul___list_int_3 l items k x u (by simp[Builtin.List.listFitsIndex]; lia) (by lia) (by simp[Builtin.List.listTooLong,sizeLine]; lia)) ⟨hl,h⟩⟩
theorem concat_ok {l b:Addr} {vs ws:List Value} {n n2:Nat} {Q E:Value→Shared→Prop} (hl:IsL s.heap l vs.toArray n) (hb:IsL s.heap b ws.toArray n2) (hsz:vs.length+ws.length≤sizeLine)
 (h:Q (.ref s.heap.objs.size) { s with heap:=s.heap.push { cls:=.type "list",data:=.seq (vs++ws).toArray } }):wpAny (model prog w) A (binaryOp .Add (.ref l) (.ref b)) Q E s:=by
 have e:vs.toArray++ws.toArray=(vs++ws).toArray:=by simp
 refine concat_meets ⟨_,hl,rfl⟩ ⟨_,hb,rfl⟩ noFill_list_add seq_list_add PySem.F.slot_list_add PySem.F.entry_list_add (PySem.F.args_list_add_2 _ _) (list_addW l b vs.toArray ws.toArray n n2 none none #[] #[] (by simpa using hsz)) ⟨hl,hb,?_⟩;refine rwE e ?_; exact h
theorem folded_one (x:Value):∀n:Nat,List.foldl (fun x1 x2=>x1++x2) #[] (List.replicate n #[x])=(List.replicate n x).toArray:=by
 have aux:∀(n:Nat) (acc:Array Value),List.foldl (fun x1 x2=>x1++x2) acc (List.replicate n #[x])=acc++(List.replicate n x).toArray:=by
  intro n;induction n with
  |zero=>intro acc; simp
  |succ n ih =>
   intro acc;refine rwE (List.replicate_succ ..) ?_; refine rwE (List.foldl_cons ..) ?_; refine rwE (ih ..) ?_;apply Array.ext'
   simp[List.replicate_succ]
 intro n;refine rwE (aux ..) ?_; simp
@[elab_as_elim] theorem bop_I {C:Operator→Bop→Prop} {op:Operator} {o:Bop} (e:bop op=some o) (a:C .Add .add) (s:C .Sub .sub) (m:C .Mult .mul) (d:C .FloorDiv .div) (r:C .Mod .mod) (p:C .Pow .pow):C op o:=by
 cases op<;>cases e<;>assumption
theorem bop_add {op:Operator} (e:bop op=some .add):op = .Add:=by cases op<;>first|rfl|cases e
theorem bop_mul {op:Operator} (e:bop op=some .mul):op = .Mult:=by cases op<;>first|rfl|cases e
theorem ifS {α:Type} {p:Prop} [Decidable p] {a z:α} {C:Prop} (h:(if p then some a else none)=some z) (k:p→a=z→C):C:=by
 split at h
 ·exact k ‹_› (Option.some.inj h)
 ·exact (noS h).elim
theorem int_ok {op:Operator} {o:Bop} (eo:bop op=some o) {x y z:Int} {t t':Tok}:intA o x y=some z→∀{P E:Value→Shared→Prop},(∀tk,P (.int z tk) { s with toks:=s.toks+1 })→wpAny (model prog w) A (binaryOp op (.int x t) (.int y t')) P E s:=by
 refine bop_I eo ?_ ?_ ?_ ?_ ?_ ?_<;>intro hz P E fin
 ·obtain rfl:=Option.some.inj hz; exact add_int (fin _)
 ·obtain rfl:=Option.some.inj hz; exact sub_int (fin _)
 ·exact ifS hz fun hb e=>by subst e; exact mul_int (fin _) (.of_left (intBits_le_64 (by simpa using hb.1) (by simpa using hb.2)))
 ·exact ifS hz fun hb e=>by subst e; exact floordiv_int (by lia) (fin _) (.inl (PyProof.noPylong_small (by lia)))
 ·exact ifS hz fun hb e=>by subst e; exact mod_int (by lia) (fin _)
 ·exact ifS hz fun hb e=>by
   subst e;obtain⟨rfl,h0,h1⟩:=hb;exact pow_int h0 (by refine rwE (show Builtin.Int.intBits 2=2 from by decide) ?_; lia) (fin _)
theorem bin_ok (g:Ground0 prog w G S K base) (hl:s.heap.NoLimit) {op:Operator} {o:Bop} (eo:bop op=some o) (st:St prog w base T env fr ρ μ H s) {a b:AV} {u v:Value} (xa:VR μ (Dm H) s.heap a u) (xb:VR μ (Dm H) s.heap b v) {Q:AV→AH→Prop}
 (h:got H (binA S H o a b) Q) {P E:Value→Shared→Prop}
 (q:∀v s' μ' H' a,Ext fr μ H s μ' H' s'→St prog w base T env fr ρ μ' H' s'→VR μ' (Dm H') s'.heap a v→Q a H'→P v s'):wpAny (model prog w) A (binaryOp op u v) P E s:=by
 refine binA_I h (fun x y z e1 e2 hz hq=>?_) (fun x y eo' e1 e2 hb hq=>?_) (fun x n eo' e2 hx hn hq=>?_) (fun l r eo' ha hb hn hq=>?_)
 ·subst e1 e2;refine xa.intI fun t=>xb.intI fun t'=>int_ok eo hz fun tk=>q _ _ μ H _ st.rep.same (st.toks _) (.int z tk) hq
 ·subst eo' e1 e2;refine rwE (bop_add eo) ?_;refine xa.strI fun t e1=>xb.strI fun t' e2=>?_;refine add_str (fun t' tk=>?_) (by simp[Str.length,sizeLine_eq]; lia);refine rwE (str_append ..) ?_;exact q _ _ μ H _ st.rep.same (st.toks _) (.str _ t' fun c hc=>(List.mem_append.mp hc).elim (e1 c) (e2 c)) hq
 ·subst eo' e2;refine rwE (bop_mul eo) ?_;refine objOf_I g st.rep xa hx fun c r _=>xb.intI fun t'=>?_;refine r.listI fun vs k hL hv=>?_;obtain⟨y,rfl,p⟩:∃y,vs=[y]∧VR μ (Dm H) s.heap x y:=hv.consI fun y r p q'=>q'.nilI ⟨y,rfl,p⟩;refine repeat_ok hL (by lia) (by lia) (by simp; lia) ?_;obtain⟨μ',H',a,e1,e2,e3,e4⟩:=(newList_ok (s':={ s with heap:=s.heap.push { cls:=.type "list",data:=.seq (List.foldl (fun x1 x2=>x1++x2) #[] (List.replicate (if ([y].toArray).isEmpty=true then 0 else n.toNat) [y].toArray)) } }) st hq (get_size _) (fun b p e=>Heap.get?_push_of_some _ e)
   (VRs.replicate n.toNat p) (k:=0) (by
    have:List.foldl (fun x1 x2=>x1++x2) #[] (List.replicate (if ([y].toArray).isEmpty=true then 0 else n.toNat) [y].toArray)=(List.replicate n.toNat y).toArray:=by
     simpa using folded_one y n.toNat
    refine rwE this ?_; exact Heap.get?_push_size _ rfl) ⟨rfl,rfl⟩)
  exact q _ _ _ _ _ e1 e2 e3 e4
 ·subst eo';refine rwE (bop_add eo) ?_;refine objOf_I g st.rep xa ha fun c r1 _=>objOf_I g st.rep xb hb fun d r2 _=>?_;refine r1.listI fun vs k hL hv=>r2.listI fun ws k2 hL2 hv2=>?_;refine concat_ok hL hL2 (by refine rwS hv.length ?_; refine rwS hv2.length ?_; refine rwE sizeLine_eq ?_; lia) ?_;obtain⟨μ',H',a,e1,e2,e3,e4⟩:=newList_ok (s':={ s with heap:=s.heap.push { cls:=.type "list",data:=.seq (vs++ws).toArray } }) st hq (get_size _) (fun b p e=>Heap.get?_push_of_some _ e) (hv.append hv2) (k:=0) (Heap.get?_push_size _ rfl) ⟨rfl,rfl⟩
  exact q _ _ _ _ _ e1 e2 e3 e4
end
section
variable {prog:Program} {w:World} {G:Gl} {S:Stat} {K:Frag} {base:Heap}
variable {T:NT} {A:Around} {env:Env} {fr:List Env} {ρ:Loc} {μ μ' μ'':AA→Addr} {D D':AA→Prop} {H H' H'':AH} {s s' s'':Shared} {X:AV→AH→Prop} {call:Callee} {h':Heap} {E:Value→Shared→Prop}
theorem ne_data_ok {a b:AV} {u v:Value} {Q:Value→Shared→Prop} (x:VR μ D s.heap a u) (y:VR μ' D' s.heap b v) (da:isData a=true) (db:isData b=true) (dp:deep a≤8) (hu:A.units+64<cLine)
 (q:Q (.bool (!avEq a b)) s):wpAny (model prog w) A (compareOp .NotEq u v) Q E s:=by
 obtain⟨⟨as,r1⟩,c1⟩:=reads_of x da;obtain⟨⟨bs,r2⟩,c2⟩:=reads_of y db;have:=depth_toPy a;exact compareNe_reads r1 r2 c1 c2 (by have:=Nat.min_le_left (toPy a).depth (toPy b).depth; lia) (by refine rwE (eqv_toPy a b da db) ?_; exact q)
theorem ne_list_ok {l r:List AV} {a b:Addr} {vs us:List Value} {na nb:Nat} {Q:Value→Shared→Prop} (ha:IsL s.heap a vs.toArray na) (hb:IsL s.heap b us.toArray nb)
 (x:VRs μ D s.heap l vs) (y:VRs μ' D' s.heap r us) (da:areData l=true) (db:areData r=true) (dp:deeps l≤8) (hu:A.units+64<cLine)
 (q:Q (.bool (!avEqs l r)) s):wpAny (model prog w) A (compareOp .NotEq (.ref a) (.ref b)) Q E s:=by
 obtain⟨⟨as,r1⟩,c1⟩:=readsAll_of x da;obtain⟨⟨bs,r2⟩,c2⟩:=readsAll_of y db;have:=depths_toPy l;refine compareNe_reads (da:=.list (toPys l)) (db:=.list (toPys r)) (.list ha rfl rfl r1) (.list hb rfl rfl r2) c1 c2 ?_ ?_
 ·have:=Nat.min_le_left (PyData.depth (.list (toPys l))) (PyData.depth (.list (toPys r)));dsimp only[PyData.depth] at this ⊢;lia
 ·dsimp only[PyData.eqv];refine rwE (eqvs_toPy l r da db) ?_;exact q
theorem any_toPy {k:AV} (dk:isData k=true):∀{l:List AV},areData l=true→((toPys l).any fun y=>PyData.eqv y (toPy k))=l.any fun x=>avEq x k
 |[],_=>rfl
 |a::r,d=>by
  have ⟨d1,d2⟩:=Bool.and_eq_true_iff.mp d;exact congr (congrArg or (eqv_toPy a k d1 dk)) (any_toPy dk d2)
theorem in_tup_ok {k:AV} {l:List AV} {u v:Value} {Q:Value→Shared→Prop} (x:VR μ D s.heap k u) (y:VR μ' D' s.heap (.tup l) v) (dk:isData k=true) (dl:areData l=true) (dp:deep k≤8) (hu:A.units+64<cLine)
 (q:Q (.bool (l.any fun x=>avEq x k)) s):wpAny (model prog w) A (compareOp .In u v) Q E s:=by
 obtain⟨⟨as,r1⟩,c1⟩:=reads_of x dk;obtain⟨⟨bs,r2⟩,c2⟩:=reads_of y dl;have:=depth_toPy k;refine in_tuple_reads r2 r1 c2 c1 (by have:=Nat.min_le_right (PyData.depthAll (toPys l)) (toPy k).depth; lia) ?_;refine rwE (any_toPy dk dl) ?_; exact q
theorem notIn_tup_ok {k:AV} {l:List AV} {u v:Value} {Q:Value→Shared→Prop} (x:VR μ D s.heap k u) (y:VR μ' D' s.heap (.tup l) v) (dk:isData k=true) (dl:areData l=true) (dp:deep k≤8) (hu:A.units+64<cLine)
 (q:Q (.bool (!l.any fun x=>avEq x k)) s):wpAny (model prog w) A (compareOp .NotIn u v) Q E s:=by
 obtain⟨⟨as,r1⟩,c1⟩:=reads_of x dk;obtain⟨⟨bs,r2⟩,c2⟩:=reads_of y dl;have:=depth_toPy k;refine notIn_tuple_reads r2 r1 c2 c1 (by have:=Nat.min_le_right (PyData.depthAll (toPys l)) (toPy k).depth; lia) ?_;refine rwE (any_toPy dk dl) ?_; exact q
theorem twin_ind {K' K2 B:Type} {f:K'→K2} {g:B→K2} {v:B→Value} {M:List (K'×AV)→List B→Prop} (m0:M [] [])
 (m1:∀p q l xs,g q=f p.1→VR μ D h p.2 (v q)→M l xs→M (p::l) (q::xs)) (l:List (K'×AV)):∀{xs:List B},xs.map g=l.map (fun p=>f p.1)→VRs μ D h (l.map (·.2)) (xs.map v)→M l xs:=by
 induction l with
 |nil=>intro xs e y; exact (List.map_eq_nil_iff.mp e).symm▸m0
 |cons p l ih =>
  intro xs e y;refine (List.map_eq_cons_iff.mp e).elim fun q c=>c.elim fun t c=>?_;obtain rfl:=c.1;exact m1 p q l t c.2.1 (VRs.unc y).1 (ih c.2.2 (VRs.unc y).2)
theorem twin_lk {K' K2 B:Type} [DecidableEq K'] [DecidableEq K2] {f:K'→K2} (hf:∀a b,f a=f b→a=b) (g:B→K2) (v:B→Value) (k:K') {l:List (K'×AV)} {xs:List B} (e:xs.map g=l.map (fun p=>f p.1)) (y:VRs μ D h (l.map (·.2)) (xs.map v)) {P:Prop}
 (no:lk l k=none→xs.find? (fun q=>decide (g q=f k))=none→P) (yes:∀a q,lk l k=some a→xs.find? (fun q=>decide (g q=f k))=some q→VR μ D h a (v q)→P):P:=by
 revert no yes;refine twin_ind (M:=fun l xs=>(lk l k=none→xs.find? (fun q=>decide (g q=f k))=none→P)→(∀a q,lk l k=some a→xs.find? (fun q=>decide (g q=f k))=some q→VR μ D h a (v q)→P)→P) (fun no _=>no rfl rfl) (fun p q l xs e1 x1 ih no yes=>?_) l e y;by_cases z:p.1=k
 ·have e3:(p::l).find? (fun p=>decide (p.1=k))=some p:=List.find?_cons_of_pos (decide_eq_true z);exact yes p.2 q (congrArg (Option.map Prod.snd) e3) (List.find?_cons_of_pos (decide_eq_true (e1.trans (congrArg f z)))) x1
 ·have e2:(q::xs).find? (fun q=>decide (g q=f k))=xs.find? (fun q=>decide (g q=f k)):=List.find?_cons_of_neg fun w=>z (hf _ _ (e1.symm.trans (of_decide_eq_true w)));have e3:(p::l).find? (fun p=>decide (p.1=k))=l.find? (fun p=>decide (p.1=k)):=List.find?_cons_of_neg fun w=>z (of_decide_eq_true w);exact ih (fun a b=>no ((congrArg (Option.map Prod.snd) e3).trans a) (e2.trans b)) fun a q h1 h2=>yes a q ((congrArg (Option.map Prod.snd) e3).trans h1) (e2.trans h2)
theorem pairs_lk {K' K2:Type} [DecidableEq K'] [DecidableEq K2] (f:K'→K2) (hf:∀a b,f a=f b→a=b) (k:K') {l:List (K'×AV)} {kvs:List (K2×Value)} (e:kvs.map (·.1)=l.map (fun p=>f p.1)) (x:VRs μ D s.heap (l.map (·.2)) (kvs.map (·.2))) {P:Prop}
 (no:lk l k=none→valueAt kvs (f k)=none→P) (yes:∀a v,lk l k=some a→valueAt kvs (f k)=some v→VR μ D s.heap a v→P):P :=
 twin_lk hf Prod.fst Prod.snd k e x (fun h1 h2=>no h1 (congrArg (Option.map Prod.snd) h2)) fun a q h1 h2=>yes a q.2 h1 (congrArg (Option.map Prod.snd) h2)
theorem pairs_lkH (k:TK) {l:List (TK×AV)} {xs:List (TK×Addr×Value)} (e:xs.map (·.1)=l.map (·.1)) (x:VRs μ D s.heap (l.map (·.2)) (xs.map (·.2.2))) {P:Prop}
 (no:lk l k=none→atKey xs k=none→P) (yes:∀a p,lk l k=some a→atKey xs k=some p→VR μ D s.heap a p.2→P):P :=
 twin_lk (f:=id) (fun _ _ z=>z) Prod.fst (fun q:TK×Addr×Value=>q.2.2) k e x (fun h1 h2=>no h1 (congrArg (Option.map Prod.snd) h2)) fun a q h1 h2=>yes a q.2 h1 (congrArg (Option.map Prod.snd) h2)
theorem str_key {x:List Nat} {u:Value} (h:VR μ D s.heap (.str x) u):(sk prog w).is (strOf x) u=true:=by
 cases h with|str _ t e=>exact is_str _ _
theorem int_key {x:Int} {u:Value} (h:VR μ D s.heap (.int x) u):(ik prog w).is x u=true:=by
 cases h with|int _ t=>exact is_int _ _
theorem not_sysm {b:Addr} (h:b≠sysModules):(b==sysModules)=false:=beq_eq_false_iff_ne.mpr h
theorem in_ok (g:Ground0 prog w G S K base) (st:St prog w base T env fr ρ μ H s) (hu:A.units+200<cLine) (neg:Bool) {k v:AV} {u c:Value} (xk:VR μ (Dm H) s.heap k u) (xv:VR μ (Dm H) s.heap v c) {t:Bool} (e:inA S H k v=some t)
 {Q:Value→Shared→Prop} (q:∀tk,Q (.bool (if neg=true then !t else t)) { s with toks:=tk }):wpAny (model prog w) A (compareOp (if neg=true then .NotIn else .In) u c) Q E s:=by
 refine tupS e ?_ ?_<;>clear e
 ·intro l ea e; subst ea
  ·refine iS e fun hd e=>?_;obtain rfl:=Option.some.inj e;simp only[Bool.and_eq_true,decide_eq_true_eq] at hd;cases neg
   ·exact in_tup_ok xk xv hd.1.1.1 hd.1.1.2 hd.1.2 (by lia) (q s.toks)
   ·exact notIn_tup_ok xk xv hd.1.1.1 hd.1.1.2 hd.1.2 (by lia) (q s.toks)
 ·intro _ e;refine inO_I e ?_ ?_ ?_<;>clear e
  ·intro l x ho ek e; subst ek e;refine objOf_I g st.rep xv ho fun b r hb=>r.sdI fun kvs hD hc hk hv=>?_
   ·refine pairs_lk strOf (fun _ _=>strOf_inj) x hk hv (fun h1 h2=>?_) fun a y h1 h2 _=>?_
    ·cases neg
     ·exact wpAny_in_of (str_key xk) (not_sysm hb) hD.mapOf (by have:=q (s.toks+1); simpa [h1,h2] using this)
     ·exact wpAny_notIn_of (str_key xk) (not_sysm hb) hD.mapOf (by have:=q (s.toks+1); simpa [h1,h2] using this)
    ·cases neg
     ·exact wpAny_in_of (str_key xk) (not_sysm hb) hD.mapOf (by have:=q (s.toks+1); simpa [h1,h2] using this)
     ·exact wpAny_notIn_of (str_key xk) (not_sysm hb) hD.mapOf (by have:=q (s.toks+1); simpa [h1,h2] using this)
  ·intro l x ho ek e; subst ek e;refine objOf_I g st.rep xv ho fun b r hb=>r.idI fun kvs hD hk hv=>?_
   ·refine pairs_lk id (fun _ _ z=>z) x hk hv (fun h1 h2=>?_) fun a y h1 h2 _=>?_
    ·cases neg
     ·exact wpAny_in_of (int_key xk) (not_sysm hb) hD.mapOf (by have:=q (s.toks+1); simp only[id] at h2; simpa [h1,h2] using this)
     ·exact wpAny_notIn_of (int_key xk) (not_sysm hb) hD.mapOf (by have:=q (s.toks+1); simp only[id] at h2; simpa [h1,h2] using this)
    ·cases neg
     ·exact wpAny_in_of (int_key xk) (not_sysm hb) hD.mapOf (by have:=q (s.toks+1); simp only[id] at h2; simpa [h1,h2] using this)
     ·exact wpAny_notIn_of (int_key xk) (not_sysm hb) hD.mapOf (by have:=q (s.toks+1); simp only[id] at h2; simpa [h1,h2] using this)
  ·intro l kt ho hkt eq2; subst eq2;refine objOf_I g st.rep xv ho fun b r hb=>?_;refine (vr_tkI xk hkt) fun a eq1 ha=>?_; subst eq1;refine r.tdI fun xs hD hk hv=>?_
   ·refine pairs_lkH kt hk hv (fun h1 h2=>?_) fun a' y h1 h2 _=>?_
    ·cases neg
     ·exact wpAny_in_heap (knd:=tkKind prog w) (by show A.units+1+64<cLine; lia) ha (not_sysm hb) hD (by have:=q (s.toks+(tkKind prog w).draws kt); simpa [h1,h2] using this)
     ·exact wpAny_notIn_heap (knd:=tkKind prog w) (by show A.units+1+64<cLine; lia) ha (not_sysm hb) hD (by have:=q (s.toks+(tkKind prog w).draws kt); simpa [h1,h2] using this)
    ·cases neg
     ·exact wpAny_in_heap (knd:=tkKind prog w) (by show A.units+1+64<cLine; lia) ha (not_sysm hb) hD (by have:=q (s.toks+(tkKind prog w).draws kt); simpa [h1,h2] using this)
     ·exact wpAny_notIn_heap (knd:=tkKind prog w) (by show A.units+1+64<cLine; lia) ha (not_sysm hb) hD (by have:=q (s.toks+(tkKind prog w).draws kt); simpa [h1,h2] using this)
theorem eq_ok (st:St prog w base T env fr ρ μ H s) (hu:A.units+200<cLine) (neg:Bool) {a b:AV} {u v:Value} (xa:VR μ (Dm H) s.heap a u) (xb:VR μ (Dm H) s.heap b v) {t:Bool} (e:eqA H a b=some t)
 {Q:Value→Shared→Prop} (q:Q (.bool (if neg=true then !t else t)) s):wpAny (model prog w) A (compareOp (if neg=true then .NotEq else .Eq) u v) Q E s:=by
 refine eqA_I e ?_ ?_<;>clear e
 ·intro x y l r ea eb hx hy hd e; subst ea eb e;simp only[Bool.and_eq_true,decide_eq_true_eq] at hd
  ······refine xa.refI fun da=>xb.refI fun db=>(st.rep.obj x _ hx).listI fun _ _ hL hv=>(st.rep.obj y _ hy).listI fun _ _ hL2 hv2=>?_;cases neg
        ·exact eq_list_ok hL rfl rfl hL2 rfl rfl hv hv2 hd.1.1.1 hd.1.1.2 hd.1.2 (by lia) q
        ·exact ne_list_ok hL hL2 hv hv2 hd.1.1.1 hd.1.1.2 hd.1.2 (by lia) q
 ·intro hd e; subst e
  ·simp only[Bool.and_eq_true,decide_eq_true_eq] at hd;cases neg
   ·exact eq_data_ok xa xb hd.1.1.1 hd.1.1.2 hd.1.2 (by lia) q
   ·exact ne_data_ok xa xb hd.1.1.1 hd.1.1.2 hd.1.2 (by lia) q
theorem isA_ok {a b:AV} {u v:Value} (xa:VR μ D s.heap a u) (xb:VR μ D s.heap b v) {t:Bool} (e:isA a b=some t):v = .none∧(u==.none)=t:=by
 induction b using AV.casesOn<;>first|exact (noS e).elim|skip
 cases xb;refine⟨rfl,?_⟩;cases xa<;>first|exact Option.some.inj e|exact (noS e).elim
theorem cmp_ok (g:Ground0 prog w G S K base) (st:St prog w base T env fr ρ μ H s) (hu:A.units+200<cLine) {op:CmpOp} {a b:AV} {u v:Value} (xa:VR μ (Dm H) s.heap a u) (xb:VR μ (Dm H) s.heap b v) {t:Bool}
 (e:cmpA S H (cop op) a b=some t) {Q:Value→Shared→Prop} (q:∀tk,Q (.bool t) { s with toks:=tk }):wpAny (model prog w) A (compareOp op u v) Q E s:=by
 have neg:∀{o:Option Bool} {t:Bool},o.map (!·)=some t→∃t',o=some t'∧t = !t':=fun h=>by
  obtain⟨t',h1,h2⟩:=Option.map_eq_some_iff.mp h; exact⟨t',h1,h2.symm⟩
 have ord:∀{o:Cop},ordV o a b=some t→∃x y tx ty,a = .int x∧b = .int y∧u = .int x tx∧v = .int y ty∧ordA o x y=some t:=fun {o} h=>by
  refine ordV_I h fun x y ea eb h=>?_;subst ea eb;exact xa.intI fun tx=>xb.intI fun ty=>⟨x,y,tx,ty,rfl,rfl,rfl,rfl,h⟩
 cases op
 ·exact eq_ok st hu false xa xb e (q s.toks)
 ·refine E12 (neg e) fun t' h1 eq2=>?_; subst eq2;exact eq_ok st hu true xa xb h1 (q s.toks)
 ·refine E45 (ord e) fun x y tx ty eq4 eq5 eq6 eq7 h=>?_; subst eq4; subst eq5; subst eq6; subst eq7;obtain rfl:=Option.some.inj h; exact lt_int (q s.toks)
 ·refine E45 (ord e) fun x y tx ty eq4 eq5 eq6 eq7 h=>?_; subst eq4; subst eq5; subst eq6; subst eq7;obtain rfl:=Option.some.inj h; exact le_int (q s.toks)
 ·refine E45 (ord e) fun x y tx ty eq4 eq5 eq6 eq7 h=>?_; subst eq4; subst eq5; subst eq6; subst eq7;obtain rfl:=Option.some.inj h; exact gt_int (q s.toks)
 ·refine E45 (ord e) fun x y tx ty eq4 eq5 eq6 eq7 h=>?_; subst eq4; subst eq5; subst eq6; subst eq7;obtain rfl:=Option.some.inj h; exact ge_int (q s.toks)
 ·obtain⟨rfl,h⟩:=isA_ok xa xb e;exact is_none (by refine rwE h ?_; exact q s.toks)
 ·refine E12 (neg e) fun t' h1 eq2=>?_; subst eq2;obtain⟨rfl,h⟩:=isA_ok xa xb h1;exact isNot_none (by refine rwE h ?_; exact q s.toks)
 ·exact in_ok g st hu false xa xb e q
 ·refine E12 (neg e) fun t' h1 eq2=>?_; subst eq2;exact in_ok g st hu true xa xb h1 q
end
section
variable {prog:Program} {w:World} {G:Gl} {S:Stat} {K:Frag} {base:Heap}
variable {T:NT} {A:Around} {env:Env} {fr:List Env} {ρ:Loc} {μ μ' μ'':AA→Addr} {D D':AA→Prop} {H H' H'':AH} {s s' s'':Shared} {X:AV→AH→Prop} {call:Callee} {h':Heap} {E:Value→Shared→Prop}
theorem Ground0.lim (g:Ground0 prog w G S K base) (r:Rep prog w base fr μ H s.heap):s.heap.NoLimit:=g.nolimit.keeps r.stay
noncomputable def SC (prog:Program) (w:World) (S:Stat) (base:Heap) (T:NT) (A:Around) (env:Env) (fr:List Env) (call:Callee) (e:PySem.Expr) (m:ME):Prop :=
 ∀ρ μ H s (Q:Bool→AH→Prop) (X:AV→AH→Prop) (P:Bool→Shared→Prop) (E:Value→Shared→Prop),St prog w base T env fr ρ μ H s→cwp S call X m ρ Q H →
  (∀t s' μ' H',Ext fr μ H s μ' H' s'→St prog w base T env fr ρ μ' H' s'→Q t H'→P t s') →
  (∀e s',PX prog w S base fr μ H s X e s'→E e s')→wpAny (model prog w) A (PySem.isTrue e env (eval e env)) P E s
noncomputable def SL (prog:Program) (w:World) (S:Stat) (base:Heap) (T:NT) (A:Around) (env:Env) (fr:List Env) (call:Callee) (es:List PySem.Expr) (ms:List ME):Prop :=
 ∀pos ρ μ H s (Q:List AV→AH→Prop) (X:AV→AH→Prop) (P:List Value→Shared→Prop) (E:Value→Shared→Prop),St prog w base T env fr ρ μ H s→ewps S call X ms ρ Q H →
  (∀vs s' μ' H' as,Ext fr μ H s μ' H' s'→St prog w base T env fr ρ μ' H' s'→VRs μ' (Dm H') s'.heap as vs→as.length=es.length→Q as H'→P vs s') →
  (∀e s',PX prog w S base fr μ H s X e s'→E e s')→wpAny (model prog w) A (spliced (backTo pos (starEach es env))) P E s
theorem sl_nil:SL prog w S base T A env fr call [] []:=fun pos ρ μ H s Q X P E st h q _=>by
 exact spliced_nil (q [] s μ H [] (.refl ..) st .nil rfl h)
noncomputable def notStar:PySem.Expr→Bool
 |.Starred _ _=>false
 |_=>true
theorem star_one {e:PySem.Expr} {r:List PySem.Expr} (h:notStar e=true):starEach (e::r) env=(false,eval e env)::starEach r env:=by
 cases e<;>first|rfl|exact (noB h).elim
theorem star_cons {e:PySem.Expr} {r:List PySem.Expr} (h:notStar e=true) (pos:Pos):backTo pos (starEach (e::r) env)=(false,eval e env)::backTo pos (starEach r env):=by rw[star_one h]; rfl
theorem sl_cons {e:PySem.Expr} {m:ME} {es:List PySem.Expr} {ms:List ME} (hn:notStar e=true) (h1:SE prog w S base T A env fr call e m) (h2:SL prog w S base T A env fr call es ms):SL prog w S base T A env fr call (e::es) (m::ms):=by
 intro pos ρ μ H s Q X P E st h q hE;refine rwE (star_cons hn ..) ?_;refine spliced_cons (h1 ρ μ H s _ X _ _ st h (fun v s1 μ1 H1 a e1 st1 x1 k1=>?_) hE);refine h2 pos ρ μ1 H1 s1 _ X _ _ st1 k1 (fun vs s2 μ2 H2 as e2 st2 x2 l2 k2=>?_) fun e s' px=>hE e s' (px.up e1 st1.rep);exact q _ _ _ _ _ (e1.trans e2 st1.rep) st2 (.cons (e2.vr st1.rep x1) x2) (by simp[l2]) k2
theorem se_bin {l r:PySem.Expr} {ml mr:ME} {op:Operator} {o:Bop} {pos:Pos} (g:Ground0 prog w G S K base) (eo:bop op=some o) (h1:SE prog w S base T A env fr call l ml) (h2:SE prog w S base T A env fr call r mr) :
 SE prog w S base T A env fr call (.BinOp l op r pos) (.bin o ml mr):=by
 intro ρ μ H s Q X P E st h q hE;refine wpAny_BinOp (h1 ρ μ H s _ X _ _ st h (fun a s1 μ1 H1 av e1 st1 x1 k1=>?_) hE);refine h2 ρ μ1 H1 s1 _ X _ _ st1 k1 (fun b s2 μ2 H2 bv e2 st2 x2 k2=>?_) fun e s' px=>hE e s' (px.up e1 st1.rep);have e12:=e1.trans e2 st1.rep;exact bin_ok g (g.lim st2.rep) eo st2 (e2.vr st1.rep x1) x2 k2 fun v s3 μ3 H3 a e3 st3 x3 k3=>q _ _ _ _ _ (e12.trans e3 st2.rep) st3 x3 k3
theorem noMarks {op:CmpOp} {r:PySem.Expr} (h:noSet r=true):behindInMarks op r=false:=by
 cases r<;>first|rfl|exact (noB h).elim
theorem se_cmp {l r:PySem.Expr} {ml mr:ME} {op:CmpOp} {pos:Pos} (g:Ground0 prog w G S K base) (hu:A.units+200<cLine) (hr:noSet r=true) (h1:SE prog w S base T A env fr call l ml) (h2:SE prog w S base T A env fr call r mr) :
 SE prog w S base T A env fr call (.Compare l [op] [r] pos) (.cmp (cop op) ml mr):=by
 intro ρ μ H s Q X P E st h q hE;refine wpAny_Compare1 (h1 ρ μ H s _ X _ _ st h (fun a s1 μ1 H1 av e1 st1 x1 k1=>?_) hE) (noMarks hr);refine h2 ρ μ1 H1 s1 _ X _ _ st1 k1 (fun b s2 μ2 H2 bv e2 st2 x2 k2=>?_) fun e s' px=>hE e s' (px.up e1 st1.rep);refine oK_I k2 fun t ht k3=>?_;have e12:=e1.trans e2 st1.rep;exact cmp_ok g st2 hu (e2.vr st1.rep x1) x2 ht fun tk=>q _ _ _ _ _ (e12.trans st2.rep.same st2.rep) (st2.toks tk) (.bool t) k3
theorem sc_cmp {l r:PySem.Expr} {ml mr:ME} {op:CmpOp} {pos:Pos} (g:Ground0 prog w G S K base) (hu:A.units+200<cLine) (hr:noSet r=true) (h1:SE prog w S base T A env fr call l ml) (h2:SE prog w S base T A env fr call r mr) :
 SC prog w S base T A env fr call (.Compare l [op] [r] pos) (.cmp (cop op) ml mr):=by
 intro ρ μ H s Q X P E st h q hE;refine wpAny_isTrue_Compare1 (h1 ρ μ H s _ X _ _ st h (fun a s1 μ1 H1 av e1 st1 x1 k1=>?_) hE) (noMarks hr);refine h2 ρ μ1 H1 s1 _ X _ _ st1 k1 (fun b s2 μ2 H2 bv e2 st2 x2 k2=>?_) fun e s' px=>hE e s' (px.up e1 st1.rep);refine oK_I k2 fun t ht k3=>?_;have e12:=e1.trans e2 st1.rep;exact cmp_ok g st2 hu (e2.vr st1.rep x1) x2 ht fun tk=>wpAny_truthy_bool (q _ _ _ _ (e12.trans st2.rep.same st2.rep) (st2.toks tk) k3)
theorem truth_ok (st:St prog w base T env fr ρ μ H s) {a:AV} {u:Value} (x:VR μ (Dm H) s.heap a u) {t:Bool} (e:truthA S H a=some t) {Q:Bool→Shared→Prop} (q:∀tk,Q t { s with toks:=tk }):wpAny (model prog w) A (truthy u) Q E s:=by
 induction a using AV.casesOn with
 |none=>obtain rfl:=Option.some.inj e; cases x; exact truthy_none (q s.toks)
 |bool b=>obtain rfl:=Option.some.inj e; cases x; exact wpAny_truthy_bool (q s.toks)
 |int i =>
  obtain rfl:=Option.some.inj e; refine x.intI fun t=>?_;refine truthy_int ?_;have:(i != 0)=decide (i≠0):=by by_cases h:i=0<;>simp[h]
  refine rwE this ?_; exact q s.toks
 |str l =>
  ·refine iS e fun hl e=>?_;obtain rfl:=Option.some.inj e; refine x.strI fun t _=>?_;refine PySem.P.truthy_str (x:=strOf l) (by simp[Str.length]; lia) ?_;have:(((strOf l).length:Int) != 0) = !l.isEmpty:=by cases l<;>simp[Str.length]<;>lia
   refine rwE this ?_; exact q _
 |_=>exact (noS e).elim
theorem tru_ok (st:St prog w base T env fr ρ μ H s) {a:AV} {u:Value} (x:VR μ (Dm H) s.heap a u) {Q:Bool→AH→Prop} (h:tru S Q a H) {P:Bool→Shared→Prop} (q:∀t tk,Q t H→P t { s with toks:=tk }):wpAny (model prog w) A (truthy u) P E s:=by
 refine oK_I h fun t e k=>?_;exact truth_ok st x e fun tk=>q t tk k
noncomputable def plainTest:PySem.Expr→Bool
 |.UnaryOp .Not _ _=>false
 |.BoolOp _ _ _=>false
 |.IfExp _ _ _ _=>false
 |.Compare _ _ _ _=>false
 |_=>true
theorem isTrue_eq {e:PySem.Expr} (h:plainTest e=true) (whole:Sem Value):PySem.isTrue e env whole=(do let v ←whole; standAt e.pos; holding [v] (truthy v)):=by
 cases e<;>first|rfl|exact (noB h).elim|skip
 rename_i op x pos
 cases op<;>first|rfl|exact (noB h).elim
theorem sc_plain {e:PySem.Expr} {m:ME} (hp:plainTest e=true) (h1:SE prog w S base T A env fr call e m) (hc:∀X ρ Q H,cwp S call X m ρ Q H→ewp S call X m ρ (tru S Q) H):SC prog w S base T A env fr call e m:=by
 intro ρ μ H s Q X P E st h q hE;refine isTrue_plain (h1 ρ μ H s _ X _ _ st (hc _ _ _ _ h) (fun a s1 μ1 H1 av e1 st1 x1 k1=>?_) hE) (isTrue_eq hp _);exact tru_ok st1 x1 k1 fun t tk k=>q _ _ _ _ (e1.trans st1.rep.same st1.rep) (st1.toks tk) k
theorem sc_not {e:PySem.Expr} {m:ME} {pos:Pos} (h1:SC prog w S base T A env fr call e m):SC prog w S base T A env fr call (.UnaryOp .Not e pos) (.not m):=by
 intro ρ μ H s Q X P E st h q hE;exact isTrue_not (h1 ρ μ H s _ X _ _ st h (fun t s1 μ1 H1 e1 st1 k1=>q _ _ _ _ e1 st1 k1) hE)
theorem sc_and_nil {pos:Pos}:SC prog w S base T A env fr call (.BoolOp .And [] pos) (.and []):=by
 intro ρ μ H s Q X P E st h q hE;exact isTrue_and_nil (q _ _ _ _ (.refl ..) st h)
theorem sc_or_nil {pos:Pos}:SC prog w S base T A env fr call (.BoolOp .Or [] pos) (.or []):=by
 intro ρ μ H s Q X P E st h q hE;exact isTrue_or_nil (q _ _ _ _ (.refl ..) st h)
theorem sc_and {e:PySem.Expr} {m:ME} {es:List PySem.Expr} {ms:List ME} {pos:Pos} (h1:SC prog w S base T A env fr call e m) (h2:SC prog w S base T A env fr call (.BoolOp .And es pos) (.and ms)) :
 SC prog w S base T A env fr call (.BoolOp .And (e::es) pos) (.and (m::ms)):=by
 intro ρ μ H s Q X P E st h q hE;refine isTrue_and (h1 ρ μ H s _ X _ _ st h (fun t s1 μ1 H1 e1 st1 k1=>?_) hE);induction t using Bool.casesOn with
 |true=>exact h2 ρ μ1 H1 s1 Q X _ _ st1 k1 (fun t s2 μ2 H2 e2 st2 k2=>q _ _ _ _ (e1.trans e2 st1.rep) st2 k2) fun e s' px=>hE e s' (px.up e1 st1.rep)
 |false=>exact q _ _ _ _ e1 st1 k1
theorem sc_or {e:PySem.Expr} {m:ME} {es:List PySem.Expr} {ms:List ME} {pos:Pos} (h1:SC prog w S base T A env fr call e m) (h2:SC prog w S base T A env fr call (.BoolOp .Or es pos) (.or ms)) :
 SC prog w S base T A env fr call (.BoolOp .Or (e::es) pos) (.or (m::ms)):=by
 intro ρ μ H s Q X P E st h q hE;refine isTrue_or (h1 ρ μ H s _ X _ _ st h (fun t s1 μ1 H1 e1 st1 k1=>?_) hE);induction t using Bool.casesOn with
 |true=>exact q _ _ _ _ e1 st1 k1
 |false=>exact h2 ρ μ1 H1 s1 Q X _ _ st1 k1 (fun t s2 μ2 H2 e2 st2 k2=>q _ _ _ _ (e1.trans e2 st1.rep) st2 k2) fun e s' px=>hE e s' (px.up e1 st1.rep)
theorem se_ite {c a b:PySem.Expr} {mc ma mb:ME} {pos:Pos} (h1:SC prog w S base T A env fr call c mc) (h2:SE prog w S base T A env fr call a ma) (h3:SE prog w S base T A env fr call b mb):SE prog w S base T A env fr call (.IfExp c a b pos) (.ite mc ma mb):=by
 intro ρ μ H s Q X P E st h q hE;refine wpAny_IfExp (h1 ρ μ H s _ X _ _ st h (fun t s1 μ1 H1 e1 st1 k1=>?_) hE);induction t using Bool.casesOn with
 |true=>exact h2 ρ μ1 H1 s1 Q X _ _ st1 k1 (fun v s2 μ2 H2 a e2 st2 x2 k2=>q _ _ _ _ _ (e1.trans e2 st1.rep) st2 x2 k2) fun e s' px=>hE e s' (px.up e1 st1.rep)
 |false=>exact h3 ρ μ1 H1 s1 Q X _ _ st1 k1 (fun v s2 μ2 H2 a e2 st2 x2 k2=>q _ _ _ _ _ (e1.trans e2 st1.rep) st2 x2 k2) fun e s' px=>hE e s' (px.up e1 st1.rep)
theorem se_and1 {e:PySem.Expr} {m:ME} {pos:Pos} (h1:SE prog w S base T A env fr call e m):SE prog w S base T A env fr call (.BoolOp .And [e] pos) (.and [m]):=by
 intro ρ μ H s Q X P E st h q hE;exact BoolOp_one (h1 ρ μ H s Q X _ _ st h q hE)
theorem se_or1 {e:PySem.Expr} {m:ME} {pos:Pos} (h1:SE prog w S base T A env fr call e m):SE prog w S base T A env fr call (.BoolOp .Or [e] pos) (.or [m]):=by
 intro ρ μ H s Q X P E st h q hE;exact BoolOp_one (h1 ρ μ H s Q X _ _ st h q hE)
theorem se_and {e e2:PySem.Expr} {m m2:ME} {es:List PySem.Expr} {ms:List ME} {pos:Pos} (h1:SE prog w S base T A env fr call e m) (h2:SE prog w S base T A env fr call (.BoolOp .And (e2::es) pos) (.and (m2::ms))) :
 SE prog w S base T A env fr call (.BoolOp .And (e::e2::es) pos) (.and (m::m2::ms)):=by
 intro ρ μ H s Q X P E st h q hE;refine BoolOp_and (h1 ρ μ H s _ X _ _ st h (fun v s1 μ1 H1 a e1 st1 x1 k1=>?_) hE);dsimp only[List.isEmpty_cons,Bool.false_eq_true,if_false] at k1;refine oK_I k1 fun t ht k=>?_;refine truth_ok st1 x1 ht fun tk=>?_;have e1':=e1.trans (st1.rep.same (t:=tk)) st1.rep;have st1':=st1.toks tk;induction t using Bool.casesOn with
 |true=>exact h2 ρ μ1 H1 _ Q X _ _ st1' k (fun v s2 μ2 H2 a e2 st2 x2 k2=>q _ _ _ _ _ (e1'.trans e2 st1'.rep) st2 x2 k2) fun e s' px=>hE e s' (px.up e1' st1'.rep)
 |false=>exact q _ _ _ _ _ e1' st1' x1 k
theorem se_or {e e2:PySem.Expr} {m m2:ME} {es:List PySem.Expr} {ms:List ME} {pos:Pos} (h1:SE prog w S base T A env fr call e m) (h2:SE prog w S base T A env fr call (.BoolOp .Or (e2::es) pos) (.or (m2::ms))) :
 SE prog w S base T A env fr call (.BoolOp .Or (e::e2::es) pos) (.or (m::m2::ms)):=by
 intro ρ μ H s Q X P E st h q hE;refine BoolOp_or (h1 ρ μ H s _ X _ _ st h (fun v s1 μ1 H1 a e1 st1 x1 k1=>?_) hE);dsimp only[List.isEmpty_cons,Bool.false_eq_true,if_false] at k1;refine oK_I k1 fun t ht k=>?_;refine truth_ok st1 x1 ht fun tk=>?_;have e1':=e1.trans (st1.rep.same (t:=tk)) st1.rep;have st1':=st1.toks tk;induction t using Bool.casesOn with
 |true=>exact q _ _ _ _ _ e1' st1' x1 k
 |false=>exact h2 ρ μ1 H1 _ Q X _ _ st1' k (fun v s2 μ2 H2 a e2 st2 x2 k2=>q _ _ _ _ _ (e1'.trans e2 st1'.rep) st2 x2 k2) fun e s' px=>hE e s' (px.up e1' st1'.rep)
theorem se_not {e:PySem.Expr} {m:ME} {pos:Pos} (h1:SE prog w S base T A env fr call e m):SE prog w S base T A env fr call (.UnaryOp .Not e pos) (.not m):=by
 intro ρ μ H s Q X P E st h q hE;refine wpAny_UnaryOp (h1 ρ μ H s _ X _ _ st h (fun v s1 μ1 H1 a e1 st1 x1 k1=>?_) hE);refine oK_I k1 fun t ht k=>?_;refine not_of (truth_ok st1 x1 ht fun tk=>?_);exact q _ _ _ _ _ (e1.trans (st1.rep.same (t:=tk)) st1.rep) (st1.toks tk) (.bool _) k
theorem se_neg {e:PySem.Expr} {m:ME} {pos:Pos} (h1:SE prog w S base T A env fr call e m):SE prog w S base T A env fr call (.UnaryOp .USub e pos) (.neg m):=by
 intro ρ μ H s Q X P E st h q hE;refine wpAny_UnaryOp (h1 ρ μ H s _ X _ _ st h (fun v s1 μ1 H1 a e1 st1 x1 k1=>?_) hE);refine intP (f:=fun i=>Q (.int (-i)) H1) k1 fun i ea k2=>?_;clear k1; subst ea;refine x1.intI fun t=>?_;exact neg_int (q _ _ _ _ _ (e1.trans st1.rep.same st1.rep) (st1.toks _) (.int _ _) k2)
theorem se_tup {es:List PySem.Expr} {ms:List ME} {n:Nat} {pos:Pos} (hl:es.length<1000) (h1:SL prog w S base T A env fr call es ms):SE prog w S base T A env fr call (.Tuple es n pos) (.tup ms):=by
 intro ρ μ H s Q X P E st h q hE;refine wpAny_Tuple (h1 pos ρ μ H s _ X _ _ st h (fun vs s1 μ1 H1 as e1 st1 x1 l1 k1=>?_) hE);have hlen:=x1.length;refine⟨by refine rwE sizeLine_eq ?_; lia,?_⟩;obtain⟨r,e⟩:=st1.rep.more (s':={ s1 with heap:=s1.heap.push { cls:=.type "tuple",data:=.seq vs.toArray } }) (fun b p e=>Heap.get?_push_of_some _ e) ⟨rfl,rfl⟩
 have st2:=st1.ext e r;exact q _ _ _ _ _ (e1.trans e st1.rep) st2 (.tup (Heap.get?_push_size _ rfl) rfl rfl (by lia) (e.vrs st1.rep x1)) k1
theorem se_list {es:List PySem.Expr} {ms:List ME} {pos:Pos} (hl:es.length<1000) (h1:SL prog w S base T A env fr call es ms):SE prog w S base T A env fr call (.List es pos) (.list ms):=by
 intro ρ μ H s Q X P E st h q hE;refine wpAny_List (h1 pos ρ μ H s _ X _ _ st h (fun vs s1 μ1 H1 as e1 st1 x1 l1 k1=>?_) hE);have hlen:=x1.length;refine⟨by refine rwE sizeLine_eq ?_; lia,?_⟩;refine E34 (newList_ok (s':={ s1 with heap:=s1.heap.push { cls:=.type "list",data:=.seq vs.toArray } }) st1 k1 (get_size _) (fun b p e=>Heap.get?_push_of_some _ e) x1 (k:=0) (Heap.get?_push_size _ rfl) ⟨rfl,rfl⟩) fun μ' H' a e2 st2 x2 k2=>?_
 exact q _ _ _ _ _ (e1.trans e2 st1.rep) st2 x2 k2
end
theorem nm_inj_all:((List.range names.length).all fun i=>(List.range names.length).all fun j=>i==j||!(nmS i==nmS j))=true:=by decide +kernel
theorem nm_inj {i j:Nat} (hi:i<names.length) (hj:j<names.length) (e:nmS i=nmS j):i=j:=by
 have h1:=List.all_eq_true.mp nm_inj_all i (List.mem_range.mpr hi);have h2:=List.all_eq_true.mp h1 j (List.mem_range.mpr hj);rw[e] at h2;simpa using h2
section
variable {prog:Program} {w:World} {G:Gl} {S:Stat} {K:Frag} {base:Heap}
variable {T:NT} {A:Around} {env:Env} {fr:List Env} {ρ:Loc} {μ μ' μ'':AA→Addr} {D D':AA→Prop} {H H' H'':AH} {s s' s'':Shared} {X:AV→AH→Prop} {call:Callee} {h h':Heap} {E:Value→Shared→Prop}
theorem NsR.get {es:List DictEntry} {l:List (Nat×AV)} (x:NsR μ D h es l) {n:Nat} (hn:n<names.length) :
 (nsGet l n=none∧getL (nmS n) es=some none)∨∃a v,nsGet l n=some a∧getL (nmS n) es=some (some v)∧VR μ D h a v:=by
 induction x with
 |nil=>exact .inl ⟨rfl,rfl⟩
 |@cons e p es l t e1 e2 e3 e4 ih =>
  by_cases q:p.1=n
  ·refine .inr ⟨p.2,e.val,if_pos q,?_,e3⟩;unfold getL;have:e.key.isStr (nmS n)=true:=by rw[e1,q]; simp[Value.isStr]
   refine rwE (List.find?_cons) ?_; refine rwE this ?_; rfl
  ·have q':e.key.isStr (nmS n)=false:=by
    refine rwE e1 ?_; simp only[Value.isStr];exact beq_eq_false_iff_ne.mpr fun z=>q (nm_inj e2 hn z)
   have r:e.refKey=false:=by simp[DictEntry.refKey,e1]
   have g1:getL (nmS n) (e::es)=getL (nmS n) es:=by
    unfold getL; simp only[List.find?_cons,q',List.any_cons,r,Bool.false_or]
   have g2:nsGet (p::l) n=nsGet l n:=if_neg q;refine rwE g1 ?_; refine rwE g2 ?_; exact ih
theorem NsR.put {es:List DictEntry} {l:List (Nat×AV)} (x:NsR μ D h es l) {n:Nat} (hn:n<names.length) {a:AV} {v:Value} (y:VR μ D h a v) (hsh:Int) (t:Tok) :
 NsR μ D h (putL (nmS n) hsh (.str (nmS n) t) v es) (nsPut l n a):=by
 induction x with
 |nil=>exact .cons (p:=(n,a)) rfl hn y .nil
 |@cons e p es l t' e1 e2 e3 e4 ih =>
  by_cases q:p.1=n
  ·have:e.key.isStr (nmS n)=true:=by refine rwE e1 ?_; refine rwE q ?_; simp[Value.isStr]
   have g1:putL (nmS n) hsh (.str (nmS n) t) v (e::es) = { e with val:=v }::es:=if_pos this;refine rwE g1 ?_; refine rwE (show nsPut (p::l) n a=(n,a)::l from if_pos q) ?_;exact .cons (p:=(n,a)) (t:=t') (by refine rwE e1 ?_; refine rwE q ?_; rfl) hn y e4
  ·have q':e.key.isStr (nmS n)=false:=by
    refine rwE e1 ?_; dsimp only[Value.isStr];exact beq_eq_false_iff_ne.mpr fun z=>q (nm_inj e2 hn z)
   refine rwE (show putL (nmS n) hsh (.str (nmS n) t) v (e::es)=e::putL (nmS n) hsh (.str (nmS n) t) v es from if_neg (by with_reducible refine rwE q' ?_; exact Bool.false_ne_true)) ?_;refine rwE (show nsPut (p::l) n a=p::nsPut l n a from if_neg q) ?_;exact .cons e1 e2 e3 ih
theorem NsR.length {es:List DictEntry} {l:List (Nat×AV)} (x:NsR μ D h es l):es.length=l.length:=by
 induction x with
 |nil=>rfl
 |cons _ _ _ _ ih=>simp[ih]
theorem NsR.strs {es:List DictEntry} {l:List (Nat×AV)} (x:NsR μ D h es l):∀e∈es,e.refKey=false:=by
 induction x with
 |nil=>intro e he; simp at he
 |cons e1 _ _ _ ih =>
  intro e he;rcases List.mem_cons.mp he with rfl|he
  ·simp[DictEntry.refKey,e1]
  ·exact ih e he
theorem nsPut_length (l:List (Nat×AV)) (n:Nat) (a:AV):(nsPut l n a).length≤l.length+1:=by
 induction l with
 |nil=>exact Nat.le_refl 1
 |cons p r ih =>
  by_cases q:p.1=n
  ·exact (congrArg List.length (show nsPut (p::r) n a=(n,a)::r from if_pos q))▸Nat.le_succ _
  ·exact (congrArg List.length (show nsPut (p::r) n a=p::nsPut r n a from if_neg q))▸Nat.succ_le_succ ih
theorem inst_at {x C dx:Addr} {es:List DictEntry} {n:Nat} (h1:h.get? x=some (instObj C dx)) (h2:h.get? dx=some (dictOf es n)):W.InstAt h x (instObj C dx) C (some (dictOf es n)):=⟨h1,rfl,rfl,h2⟩
theorem getAttr_ok (g:Ground0 prog w G S K base) (st:St prog w base T env fr ρ μ H s) {a:AV} {u:Value} (x:VR μ (Dm H) s.heap a u) {n:Nat} {r:AV} (e:getA S H a n=some r) {Q:Value→Shared→Prop}
 (q:∀v tk,VR μ (Dm H) s.heap r v→Q v { s with toks:=tk }):wpAny (model prog w) A (getAttr u (nmS n) true) Q E s:=by
 refine getA_I e ?_;clear e; intro b C d l ea hb hd hp e;subst ea;refine x.refI fun _=>(st.rep.obj _ _ hb).instI fun h1 h2=>(st.rep.obj _ _ hd).nsI fun es m h3 h4=>E06 (g.plain C n hp) fun p1 p2 p3 p4 p5 p6=>?_;refine (h4.get p6).elim (fun z=>(noS (z.1.symm.trans e)).elim) fun z=>E23 z fun a' v k1 k2 k3=>?_;obtain rfl:=Option.some.inj (k1.symm.trans e);exact get_value (g.inn.keeps st.rep.stay) (inst_at h1 h3) (plainGet_of p1).1 (findObj_own p2 p3 rfl k2) k3.handed (q v _ k3)
theorem attrBase {o:PySem.Expr} (hn:noSuper o=true) (attr:Str) (whole:Sem Value):attributeBase o attr env whole=whole:=by
 cases o<;>first|rfl|skip
 rename_i f _ _ _
 cases f<;>first|rfl|skip
 rename_i as ks _ _ _
 cases as<;>first|rfl|skip
 cases ks<;>first|rfl|exact (noB hn).elim
theorem nameNo_some {x:Str} {n:Nat} (e:nameNo x=some n):x=nmS n∧n<names.length:=by
 unfold nameNo at e;simp only at e;split at e
 ·rename_i hl
  obtain rfl:=Option.some.inj e;refine⟨?_,hl⟩;have:=List.findIdx_getElem (w:=hl);unfold nmS;refine rwE (List.getD_eq_getElem?_getD) ?_; refine rwE (List.getElem?_eq_getElem hl) ?_; refine rwE Option.getD_some ?_;exact (beq_iff_eq.mp this).symm
 ·exact (noS e).elim
theorem se_attr {e:PySem.Expr} {m:ME} {x:Str} {n:Nat} {pos:Pos} (g:Ground0 prog w G S K base) (hn:noSuper e=true) (hx:nameNo x=some n) (h1:SE prog w S base T A env fr call e m):SE prog w S base T A env fr call (.Attribute e x pos) (.attr m n):=by
 intro ρ μ H s Q X P E st h q hE;obtain⟨rfl,hl⟩:=nameNo_some hx;refine rwE (arm_eval_Attribute ..) ?_; refine rwE (attrBase hn ..) ?_;refine wpAny_bind (h1 ρ μ H s _ X _ _ st h (fun v s1 μ1 H1 a e1 st1 x1 k1=>?_) hE);refine oK_I k1 fun r hr k2=>?_;refine wpAny_bind (wpAny_standAt (wpAny_bind (wpAny_holding (getAttr_ok g st1 x1 hr fun v' tk x2=>?_))));exact wpAny_bind (wpAny_letTemporaryGo (wpAny_pure (q _ _ _ _ _ (e1.trans st1.rep.same st1.rep) (st1.toks tk) x2 k2)))
theorem putL_length (name:Str) (hsh:Int) (k v:Value) (es:List DictEntry):(putL name hsh k v es).length≤es.length+1:=by
 induction es with
 |nil=>simp[putL]
 |cons e r ih=>unfold putL; split<;>simp<;>lia
theorem osa_own {K:Frag} {C x:Addr} {R:Result→Shared→Prop} {dx:Addr} {name:Str} {tk:Tok} {v:Value} {es:List DictEntry} {n:Nat} (X:K.In s.heap) (h1:s.heap.get? x=some (instObj C dx)) (h2:s.heap.get? dx=some (dictOf es n))
 (hp:plainOver K C=true) (ht:takerIn K C name=some none) (hh:hasDictIn K C=true) (hr:∀e∈es,e.refKey=false) (hz:es.length≤1000)
 (h:∀h',Heap.SameBut dx s.heap h'→h'.get? dx=some (dictOf (putL name (PyData.keyHash w.params name) (.str name s.toks) v es) (putN name es n))→R (.ok (.ret .none)) { s with heap:=h',toks:=s.toks+1 }) :
 codeAny (model prog w) A (.call (.builtin "object.__setattr__") ⟨[.ref x,.str name tk,v],[]⟩) R s:=by
 have I:=inst_at h1 h2;refine osa_open X I hp ht fun b=>?_;refine E12 (any_some hh) fun cd hc hd'=>?_;have pn:=putName_dict name (PyData.keyHash w.params name) (.str name s.toks) v es n;have D':(s.heap.update dx (Obj.putName name (PyData.keyHash w.params name) (.str name s.toks) v)).get? dx=some (dictOf (putL name (PyData.keyHash w.params name) (.str name s.toks) v es) (putN name es n)):=by
  have:=Heap.get?_update_self (Obj.putName name (PyData.keyHash w.params name) (.str name s.toks) v) h2 (by rw[pn]; rfl);rwa [pn] at this
 refine wpAny_bind (wpAny_pure (wpAny_bind (wpAny_bind (wpAny_loadPart h1 (wpAny_bind ((looks_clsIn X hc).here ?_))))));rw[hd'];refine wpAny_pure (a:=some dx) (wpAny_bind (wpAny_pure (wpAny_bind ?_)));unfold nsSet;refine wpAny_bind (wpAny_bind (wpAny_askSetting (wpAny_pure (wpAny_bind (wpAny_mkText (wpAny_bind (wpAny_loadPart h2 ?_)))))));have c:(!es.toArray.any (·.key.isStr name)&&es.toArray.any (·.refKey))=false:=by
  have:es.toArray.any (·.refKey)=false:=by
   rw[Array.any_eq_false']; intro e he; simpa using hr e (by simpa using he)
  refine rwE (this ..) ?_; refine rwE (Bool.and_false ..) ?_; rfl
 dsimp only;refine rwE (aRefKeyMayBeTheName_at ..) ?_; refine rwE (c ..) ?_;refine wpAny_updatePart h2 ?_;have hlen:=putL_length name (PyData.keyHash w.params name) (.str name s.toks) v es;refine wpAny_bind (wpAny_lookBehind D' (by show Data.pastItsLine _=_; exact pastItsLine_dict (by refine rwE List.size_toArray ?_; refine rwE sizeLine_eq ?_; lia)) ?_);exact wpAny_pure (h _ (Heap.SameBut.update ..) D')
theorem setAttr_ok (g:Ground0 prog w G S K base) (st:St prog w base T env fr ρ μ H s) {a b:AV} {u v:Value} (x:VR μ (Dm H) s.heap a u) (y:VR μ (Dm H) s.heap b v) {n:Nat} {N:AH→Prop} (e:putA S H a n b N) {Q:Unit→Shared→Prop}
 (q:∀s' μ' H',Ext fr μ H s μ' H' s'→St prog w base T env fr ρ μ' H' s'→N H'→Q () s'):wpAny (model prog w) A (setAttr u (nmS n) v) Q E s:=by
 refine putA_I e fun b' C d l ea hb hd hz hp hN=>?_;subst ea;refine x.refI fun _=>(st.rep.obj _ _ hb).instI fun h1 h2=>(st.rep.obj _ _ hd).nsI fun es k h3 h4=>?_;refine E06 (g.plain C n hp) fun p1 p2 p3 p4 p5 p6=>?_;have ht:takerIn K C (nmS n)=some none:=by unfold takerIn; rw[p3]; rfl
 refine set_plain (g.inn.keeps st.rep.stay) (inst_at h1 h3) p4 (osa_own (s:={ s with toks:=s.toks+1 }) (g.inn.keeps st.rep.stay) h1 h3 p5 ht p2 h4.strs (by refine rwE h4.length ?_; lia) fun h' hs hg=>?_);have dn:H d≠none:=by refine rwE hd ?_; simp
 have dm:∀c,upd H d (.ns (nsPut l n b)) c≠none↔H c≠none:=upd_dm dn;have tk:TupKeep s.heap h':=fun c p e k _=>⟨p.slots,(hs.2 c fun z=>st.rep.notTup e k ⟨d,dn,z.symm⟩).trans e⟩;have nr:NsR μ (Dm (upd H d (.ns (nsPut l n b)))) h' (putL (nmS n) (PyData.keyHash w.params (nmS n)) (.str (nmS n) (s.toks+1)) v es) (nsPut l n b) :=
  (h4.put p6 y _ _).mono (fun c hc=>⟨(dm c).mpr hc,rfl⟩) tk
 obtain⟨r,ee⟩:=st.rep.put (o:=.ns (nsPut l n b)) (s':={ s with heap:=h',toks:=s.toks+2 }) dn hs (.ns hg nr) rfl ⟨rfl,rfl⟩;exact q _ _ _ ee (st.ext ee r) hN
end
section
variable {prog:Program} {w:World} {G:Gl} {S:Stat} {K:Frag} {base:Heap}
variable {T:NT} {A:Around} {env:Env} {fr:List Env} {ρ:Loc} {μ μ' μ'':AA→Addr} {D D':AA→Prop} {H H' H'':AH} {s s' s'':Shared} {X:AV→AH→Prop} {call:Callee} {h h':Heap} {E:Value→Shared→Prop}
def Itm (s:Shared) (u:Value):Prop:=∃T id,s.TypeIs u T∧typeLookup (.type T) "__getitem__" = pure (some (.builtin id))
theorem nth_some {α:Type} {l:List α} {i:Int} {a:α} (e:nth l i=some a):0≤i∧i<1000000∧l[i.toNat]? = some a:=by
 unfold nth at e;refine kf fun kG=>?_;split at e
 ·rename_i h
  refine kG ?_; clear kG;exact⟨h.1,h.2,e⟩
 ·exact (noS e).elim
theorem seqIdx {i:Int} {n:Nat} (h0:0≤i) (h1:i.toNat<n):seqIndex? i n=some i.toNat:=by
 unfold seqIndex?;have:¬i<0:=by lia
 simp only[this,if_false];rw[if_pos (by simp; lia)]
theorem getO_ok (g:Ground0 prog w G S K base) (st:St prog w base T env fr ρ μ H s) (hu:A.units+200<cLine) {a k:AV} {u v:Value} (x:VR μ (Dm H) s.heap a u) (y:VR μ (Dm H) s.heap k v) {r:AV} {o:Option AO} (ho:objOf S H a=o) (e:getO o k=some r) :
 Itm s u∧∀{Q:Value→Shared→Prop},(∀v tk,VR μ (Dm H) s.heap r v→Q v { s with toks:=tk })→wpAny (model prog w) A (getItem u v) Q E s:=by
 refine getO_I e ?_ ?_ ?_ ?_<;>clear e
 ·intro l i eo ek e; subst ek;refine objOf_I g st.rep x (ho.trans eo) fun b o hb=>?_;refine y.intI fun t=>?_;refine kf fun kG=>?_;refine o.listI fun vs n hL hv=>?_;refine E03 (nth_some e) fun h0 h1 h2=>?_;refine E12 (hv.get h2) fun v hv' hr=>?_;refine kG ?_; clear kG;refine⟨⟨_,_,⟨_,hL,rfl⟩,list_getitem_lookup⟩,fun {Q} q=>?_⟩;exact wpAny_getItem_list ⟨_,hL,rfl,n,rfl⟩ h0 (by lia) (by simpa using hv') (q _ s.toks hr)
 ·intro l i eo ek e; subst ek;refine objOf_I g st.rep x (ho.trans eo) fun b o hb=>?_;refine o.sdI fun _ hD hc hk hv=>?_;refine⟨⟨_,_,hD.typeIs,slot_dict_getitem.lookup⟩,fun {Q} q=>?_⟩;refine kf fun kG=>?_;refine pairs_lk strOf (fun _ _=>strOf_inj) i hk hv (fun h1 h2=>?_) fun a y' h1 h2 h3=>?_
  ·rw[h1] at e;exact (noS e).elim
  ·rw[h1] at e;obtain rfl:=Option.some.inj e;refine kG ?_; clear kG;exact wpAny_getItem_of (str_key y) hD.mapOf h2 (q _ _ h3)
 ·intro l i eo ek e; subst ek;refine objOf_I g st.rep x (ho.trans eo) fun b o hb=>?_;refine o.idI fun _ hD hk hv=>?_;refine⟨⟨_,_,hD.typeIs,slot_dict_getitem.lookup⟩,fun {Q} q=>?_⟩;refine kf fun kG=>?_;refine pairs_lk id (fun _ _ z=>z) i hk hv (fun h1 h2=>?_) fun a y' h1 h2 h3=>?_
  ·rw[h1] at e;exact (noS e).elim
  ·rw[h1] at e;obtain rfl:=Option.some.inj e;refine kG ?_; clear kG;exact wpAny_getItem_of (int_key y) hD.mapOf h2 (q _ _ h3)
 ·intro l kt eo hkt e;refine objOf_I g st.rep x (ho.trans eo) fun b o hb=>?_;refine o.tdI fun _ hD hk hv=>?_;refine (vr_tkI y hkt) fun c eq1 ha=>?_; subst eq1;refine⟨⟨_,_,hD.typeIs,slot_dict_getitem.lookup⟩,fun {Q} q=>?_⟩;refine kf fun kG=>?_;refine pairs_lkH kt hk hv (fun h1 h2=>?_) fun a y' h1 h2 h3=>?_
  ·rw[h1] at e;exact (noS e).elim
  ·rw[h1] at e;obtain rfl:=Option.some.inj e;refine kG ?_; clear kG;exact wpAny_getItem_heap (knd:=tkKind prog w) (by show A.units+1+64<cLine; lia) ha hD h2 (q _ _ h3)
theorem getItem_ok (g:Ground0 prog w G S K base) (st:St prog w base T env fr ρ μ H s) (hu:A.units+200<cLine) {a k:AV} {u v:Value} (x:VR μ (Dm H) s.heap a u) (y:VR μ (Dm H) s.heap k v) {r:AV} (e:getI S H a k=some r) :
 Itm s u∧∀{Q:Value→Shared→Prop},(∀v tk,VR μ (Dm H) s.heap r v→Q v { s with toks:=tk })→wpAny (model prog w) A (getItem u v) Q E s:=by
 refine getI_I e ?_ ?_ ?_<;>clear e
 ·intro l i ea ek e; subst ea ek;refine y.intI fun t=>?_;refine x.tupI fun b o vs n e1 e2 e3 e4 e5=>?_;refine kf fun kG=>?_;refine E03 (nth_some e) fun h0 h1 h2=>?_;refine E12 (e5.get h2) fun v hv hr=>?_;refine kG ?_; clear kG;refine⟨⟨_,_,⟨_,e1,e2⟩,F.slot_tuple_getitem.lookup⟩,fun {Q} q=>?_⟩;have hlt:i.toNat<vs.size:=by
   have:=(List.getElem?_eq_some_iff.mp hv).1;simpa using this
  exact PyProof.Rows.getItem_tuple ⟨o,e1,e2,n,e3⟩ (by lia) (by lia) (seqIdx h0 hlt) (by simpa using hv) (q _ s.toks hr)
 ·intro l i c ea ek hc eq2; subst ea ek eq2;refine y.intI fun t=>?_;refine x.strI fun t' e1=>?_;refine E03 (nth_some hc) fun h0 h1 h2=>?_;have hlt:=(List.getElem?_eq_some_iff.mp h2).1;refine⟨⟨_,_,typeIs_str s _ _,F.slot_str_getitem.lookup⟩,fun {Q} q=>?_⟩;refine PySem.P.getItem_str (x:=strOf l) (c:=c) (by simp; lia) ?_ ?_
  ·refine rwE (seqIdx h0 (by simpa [Str.length] using hlt)) ?_;simpa [strOf] using h2
  ·exact q _ _ (.str [c] _ fun d hd=>by
    simp only[List.mem_singleton] at hd;subst hd;exact e1 _ (List.mem_of_getElem? h2))
 ·intro e;exact getO_ok g st hu x y rfl e
noncomputable def noSlice:PySem.Expr→Bool
 |.Slice _ _ _ _=>false
 |_=>true
theorem subscripted_eq {sl:PySem.Expr} (hn:noSlice sl=true) (o i:Value):subscripted sl false o i=operate [o,i] (getItem o i):=by
 cases sl<;>first|rfl|exact (noB hn).elim
theorem sub_tail {value sl:PySem.Expr} {o i:Value} {Q:Value→Shared→Prop} {ops:List Value} (t:Itm s o) (hs:subscripted sl false o i=operate ops (getItem o i)) (h:wpAny (model prog w) A (getItem o i) Q E s):wpAny (model prog w) A (subscriptTail value sl o i) Q E s:=by
 refine E22 t fun T id hT hl=>?_;skip
 refine wpAny_bind ?_;refine rwE (getitemInPython_of_ne hT.not_modules) ?_;refine wpAny_bind (wpAny_specialOf hT hl ?_);refine wpAny_pure (wpAny_bind ?_);refine rwE hs ?_;exact wpAny_operating (wpAny_mono h (fun r s₃ h₃=>wpAny_bind (wpAny_letTemporaryGo (wpAny_pure h₃))) fun _ _ x=>x)
theorem se_sub {e i:PySem.Expr} {m k:ME} {pos:Pos} (g:Ground0 prog w G S K base) (hu:A.units+200<cLine) (hn:noSlice i=true) (h1:SE prog w S base T A env fr call e m) (h2:SE prog w S base T A env fr call i k):SE prog w S base T A env fr call (.Subscript e i pos) (.sub m k):=by
 intro ρ μ H s Q X P E st h q hE;refine Subscript_ (h1 ρ μ H s _ X _ _ st h (fun v s1 μ1 H1 a e1 st1 x1 k1=>?_) hE);refine h2 ρ μ1 H1 s1 _ X _ _ st1 k1 (fun b s2 μ2 H2 bv e2 st2 x2 k2=>?_) fun e s' px=>hE e s' (px.up e1 st1.rep);refine kf fun kG=>?_;refine oK_I k2 fun r hr k3=>?_;obtain⟨t,gi⟩:=getItem_ok (E:=E) g st2 hu (e2.vr st1.rep x1) x2 hr;have e12:=e1.trans e2 st1.rep;refine kG ?_; clear kG;exact sub_tail t (subscripted_eq hn _ _) (gi fun v' tk x3=>q _ _ _ _ _ (e12.trans st2.rep.same st2.rep) (st2.toks tk) x3 k3)
theorem take_range {α:Type} (l:List α):∀n:Nat,(List.range n).filterMap (fun i=>l[i]?)=l.take n
 |0=>by simp
 |n+1=>by
  refine rwE List.range_succ ?_; refine rwE List.filterMap_append ?_; refine rwE (take_range l n) ?_; refine rwE List.take_succ ?_;cases e:l[n]?<;>simp[e]
theorem pick_eq {α:Type} (l:List α) (a b:Nat):((List.range (b - a)).map (a+·)).filterMap (fun i=>l[i]?)=(l.take b).drop a:=by
 refine rwE List.filterMap_map ?_; refine rwE List.drop_take ?_; refine rwS (take_range (l.drop a) (b - a)) ?_;congr 1
 funext i
 simp[List.getElem?_drop]
theorem cutAt_spec {n d:Nat} {v:AV} {k:Nat} (hd:d≤n) (e:cutAt n v d=some k):k≤n∧((v = .none∧k=d)∨∃i:Int,v = .int i∧(k:Int)=max 0 (min (if i<0 then i+n else i) n)):=by
 induction v using AV.casesOn with
 |none=>exact Option.some.inj e▸⟨hd,.inl ⟨rfl,rfl⟩⟩
 |int i =>
  have e:=Option.some.inj e;subst e;by_cases h:i<0
  ·simp only[if_pos h]; exact⟨by lia,.inr ⟨i,rfl,by refine rwE (if_pos h) ?_; lia⟩⟩
  ·simp only[if_neg h]; exact⟨by lia,.inr ⟨i,rfl,by refine rwE (if_neg h) ?_; lia⟩⟩
 |_=>exact (noS e).elim
theorem part_of {v:AV} {u:Value} (x:VR μ D h v u) {n d k:Nat} (hd:d≤n) (e:cutAt n v d=some k):∃p:Option (Int×Tok),IsPart u (p.map (·.1))∧u=partValue p ∧
 (match p.map (·.1) with|none=>(d:Int)|some i=>max 0 (min (if i<0 then i+n else i) n))=(k:Int):=by
 obtain⟨hk,⟨rfl,rfl⟩|⟨i,rfl,h2⟩⟩:=cutAt_spec hd e
 ·cases x; exact⟨none,.none,rfl,rfl⟩
 ·cases x with|int _ t=>exact⟨some (i,t),.int i t,rfl,h2.symm⟩
theorem bounds_of {lo hi:Option Int} {n a b:Nat} (h1:(match lo with|none=>((0:Nat):Int)|some i=>max 0 (min (if i<0 then i+n else i) n))=(a:Int)) (h2:(match hi with|none=>((n:Nat):Int)|some i=>max 0 (min (if i<0 then i+n else i) n))=(b:Int)) :
 sliceBounds lo hi none n=((a:Int),(b:Int),1):=by
 dsimp only[sliceBounds];simp only[Option.getD_none];refine rwS h1 ?_; refine rwS h2 ?_;cases lo<;>cases hi<;>rfl
theorem getSlice_ok (g:Ground0 prog w G S K base) (st:St prog w base T env fr ρ μ H s) {a lo hi:AV} {u vl vh:Value} (x:VR μ (Dm H) s.heap a u) (yl:VR μ (Dm H) s.heap lo vl) (yh:VR μ (Dm H) s.heap hi vh) {Q:AV→AH→Prop} (e:got H (cutA S H a lo hi) Q) {P:Value→Shared→Prop}
 (q:∀v s' μ' H' a,Ext fr μ H s μ' H' s'→St prog w base T env fr ρ μ' H' s'→VR μ' (Dm H') s'.heap a v→Q a H'→P v s') :
 Itm { s with heap:=s.heap.push { cls:=.type "slice",data:=.fields #[vl,vh,.none] } } u ∧
 wpAny (model prog w) A (getItem u (.ref s.heap.objs.size)) P E { s with heap:=s.heap.push { cls:=.type "slice",data:=.fields #[vl,vh,.none] } }:=by
 refine kf fun kG=>?_;obtain⟨r,ee⟩:=st.rep.more (s':={ s with heap:=s.heap.push { cls:=.type "slice",data:=.fields #[vl,vh,.none] } }) (fun b p e=>Heap.get?_push_of_some _ e) ⟨rfl,rfl⟩
 have st1:=st.ext ee r;have y1:=ee.vr st.rep x;refine kG ?_; clear kG;refine cutA_I e ?_ ?_<;>clear e
 ·intro l r ea hr hq hz; subst ea;refine x.strI fun t e1=>?_;refine cutL_I hr fun i j hi' hj' eq4=>?_; subst eq4;refine E13 (part_of yl (Nat.zero_le _) hi') fun p1 a1 eq2 b1=>?_; subst eq2;refine E13 (part_of yh (Nat.le_refl _) hj') fun p2 a2 eq2 b2=>?_; subst eq2;refine⟨⟨_,_,typeIs_str _ _ _,F.slot_str_getitem.lookup⟩,?_⟩;have hp:(slicePicked (strOf l) p1 p2 none)=(List.range (j - i)).map (i+·):=by
   dsimp only[slicePicked,Builtin.Str.strSliceIndices];dsimp only[Option.map_none,Option.getD_none];refine rwS (sliceRange_one ..) ?_;congr 1
   all_goals first|((refine rwS b1 ?_; rfl); cases p1<;>simp[Str.length]; done)|((refine rwS b2 ?_; rfl); cases p2<;>simp[Str.length]; done)
  have hx:((slicePicked (strOf l) p1 p2 none).filterMap ((strOf l).cps[·]?)).toArray=((l.take j).drop i).toArray:=by
   refine rwE (hp ..) ?_; refine rwS (pick_eq ..) ?_;simp[strOf]
  have sub:∀c∈(l.take j).drop i,c<1114112:=fun c hc=>e1 c (List.mem_of_mem_take (List.mem_of_mem_drop hc));refine wpAny_getItem_str_slice (l:=p1) (u:=p2) (st:=none) ⟨_,Heap.get?_push_size _ rfl,rfl,rfl⟩ rfl ?_;dsimp only[sliceMade];split
  ·rename_i hw
   have hlen:(slicePicked (strOf l) p1 p2 none).length=(strOf l).length:=by
    simp only[Bool.and_eq_true,beq_iff_eq] at hw;exact hw.2
   rw[hp,List.length_map,List.length_range] at hlen;have hl:l.length=j - i:=by simpa [Str.length] using hlen.symm
   have hjl:=(cutAt_spec (Nat.le_refl _) hj').1;have e0:i=0∧j=l.length∨l.length=0:=by lia
   have same:(l.take j).drop i=l:=by
    refine kf fun kG=>?_;rcases e0 with⟨rfl,rfl⟩|z
    ·refine kG ?_; clear kG;simp
    ·have:l=[]:=List.eq_nil_of_length_eq_zero z;subst this;refine kG ?_; clear kG;simp
   rw[same] at hq;exact q _ _ _ _ _ ee st1 (.str l t e1) hq
  ·refine rwE hx ?_;refine⟨by show ((l.take j).drop i).toArray.size≤sizeLine; refine rwE sizeLine_eq ?_; simp; lia,?_⟩;exact q _ _ _ _ _ (ee.trans st1.rep.same st1.rep) (st1.toks _) (.str _ _ sub) hq
 ·intro l r ho hr hq hz;refine cutL_I hr fun i j hi' hj' eq4=>?_; subst eq4;refine E13 (part_of yl (Nat.zero_le _) hi') fun p1 a1 eq2 b1=>?_; subst eq2;refine E13 (part_of yh (Nat.le_refl _) hj') fun p2 a2 eq2 b2=>?_; subst eq2;refine objOf_I g st1.rep y1 ho fun b o hb=>?_;refine o.listI fun vs n hL hv=>?_;refine⟨⟨_,_,⟨_,hL,rfl⟩,list_getitem_lookup⟩,?_⟩;have hlen:=hv.length;have hp:slicePick vs.toArray (p1.map (·.1)) (p2.map (·.1)) none=((vs.take j).drop i).toArray:=by
   dsimp only[slicePick];refine rwE (bounds_of (n:=vs.toArray.size) (a:=i) (b:=j) (by with_reducible refine rwS b1 ?_; with_reducible refine rwE hlen ?_; simp) (by with_reducible refine rwS b2 ?_; with_reducible refine rwE hlen ?_; simp)) ?_;simp only
   refine rwE (sliceRange_one ..) ?_; refine rwS (pick_eq ..) ?_;simp
  refine wpAny_getItem_list_slice ⟨_,hL,rfl,n,rfl⟩ (Heap.IsSliceOf.new ..) a1 a2 .none (by simp) ?_ (by refine rwE sizeLine_eq ?_; simp; lia);refine E34 (newList_ok (s':={ s with heap:=(s.heap.push { cls:=.type "slice",data:=.fields #[partValue p1,partValue p2,.none] }).push { cls:=.type "list",data:=.seq (slicePick vs.toArray (p1.map (·.1)) (p2.map (·.1)) none) } }) st1 hq (get_size _) (fun b p e=>Heap.get?_push_of_some _ e) ((hv.take j).drop i) (k:=0) (by refine rwS hp ?_; exact Heap.get?_push_size _ rfl) ⟨rfl,rfl⟩) fun μ' H' a e2 st2 x2 k2=>?_
  exact q _ _ _ _ _ (ee.trans e2 st1.rep) st2 x2 k2
end
section
variable {prog:Program} {w:World} {G:Gl} {S:Stat} {K:Frag} {base:Heap}
variable {T:NT} {A:Around} {env:Env} {fr:List Env} {ρ:Loc} {μ μ' μ'':AA→Addr} {D D':AA→Prop} {H H' H'':AH} {s s' s'':Shared} {X:AV→AH→Prop} {call:Callee} {h h':Heap} {E:Value→Shared→Prop}
noncomputable def SP (prog:Program) (w:World) (S:Stat) (base:Heap) (T:NT) (A:Around) (env:Env) (fr:List Env) (call:Callee) (e:Option PySem.Expr) (m:ME):Prop :=
 ∀ρ μ H s (Q X:AV→AH→Prop) (P:Value→Shared→Prop) (E:Value→Shared→Prop),St prog w base T env fr ρ μ H s→ewp S call X m ρ Q H →
  (∀v s' μ' H' a,Ext fr μ H s μ' H' s'→St prog w base T env fr ρ μ' H' s'→VR μ' (Dm H') s'.heap a v→Q a H'→P v s') →
  (∀e s',PX prog w S base fr μ H s X e s'→E e s')→wpAny (model prog w) A (evalPart e env) P E s
theorem sp_none:SP prog w S base T A env fr call none (.val .none):=fun ρ μ H s Q X P E st h q _=>by
 exact wpAny_evalPart_none (q _ _ μ H .none (.refl ..) st .none h)
theorem sp_some {e:PySem.Expr} {m:ME} (h1:SE prog w S base T A env fr call e m):SP prog w S base T A env fr call (some e) m:=h1
theorem se_cut {e:PySem.Expr} {lo hi:Option PySem.Expr} {m ml mh:ME} {p pos:Pos} (g:Ground0 prog w G S K base) (h1:SE prog w S base T A env fr call e m) (h2:SP prog w S base T A env fr call lo ml) (h3:SP prog w S base T A env fr call hi mh) :
 SE prog w S base T A env fr call (.Subscript e (.Slice lo hi none p) pos) (.cut m ml mh):=by
 intro ρ μ H s Q X P E st h q hE;refine Subscript_ (h1 ρ μ H s _ X _ _ st h (fun v s1 μ1 H1 a e1 st1 x1 k1=>?_) hE);refine wpAny_Slice (h2 ρ μ1 H1 s1 _ X _ _ st1 k1 (fun vl s2 μ2 H2 al e2 st2 x2 k2=>?_) fun e s' px=>hE e s' (px.up e1 st1.rep));have e12:=e1.trans e2 st1.rep;refine h3 ρ μ2 H2 s2 _ X _ _ st2 k2 (fun vh s3 μ3 H3 ah e3 st3 x3 k3=>?_) fun e s' px=>hE e s' (px.up e12 st2.rep);have e123:=e12.trans e3 st2.rep;refine wpAny_evalPart_none ?_;obtain⟨t,gi⟩:=getSlice_ok (A:=A) (E:=E) (P:=P) g st3 ((e2.trans e3 st2.rep).vr st1.rep x1) (e3.vr st2.rep x2) x3 k3 (fun v s4 μ4 H4 a4 e4 st4 x4 k4=>q _ _ _ _ _ (e123.trans e4 st3.rep) st4 x4 k4);exact sub_tail t rfl gi
theorem ld_blt {x:Str} {pos:Pos} {v:Value} {Q:Value→Shared→Prop} (F:Fix T A env fr) (g:Ground0 prog w G S K base) (st:St prog w base T env fr ρ μ H s) (hT:T.lookup x=some .glob)
 (hx:x∈([Str.ofString "len",Str.ofString "tuple",Str.ofString "range"]:List Str)) (hv:bootBuiltins x=some v) (h:Q v s):wpAny (model prog w) A (eval (.Name x pos) env) Q E s:=by
 obtain⟨mg,hg,_,mb,hb,hm⟩:=g.glo;obtain⟨h1,h2⟩:=hm x hx;exact Name_function_global F.kind (F.glo x hT) (loadGlobal_builtin (F.glob▸hg.keeps st.rep.stay) h1 (F.blt▸hb.keeps st.rep.stay) (h2.trans hv) h) (F.nd x _ hT).1
theorem callN {env:Env} {id:Str} {p pos:Pos} {args:List PySem.Expr} {Q:Value→Shared→Prop}
 (h:wpAny (model prog w) A (eval (.Name id p) env) (fun f s₁=>wpAny (model prog w) A (callWith pos f [] (backTo pos (starEach args env)) []) Q E s₁) E s) :
 wpAny (model prog w) A (eval (.Call (.Name id p) args [] pos) env) Q E s:=wpAny_Call_Name_kw (keywords:=[]) h
theorem se_len {e:PySem.Expr} {m:ME} {p pos:Pos} (F:Fix T A env fr) (g:Ground0 prog w G S K base) (hT:T.lookup (Str.ofString "len")=some .glob) (hn:notStar e=true) (h1:SE prog w S base T A env fr call e m) :
 SE prog w S base T A env fr call (.Call (.Name (Str.ofString "len") p) [e] [] pos) (.len m):=by
 intro ρ μ H s Q X P E st h q hE;refine callN (ld_blt F g st hT (by simp) PyProof.Rows.Boot.«len» ?_);refine rwE (star_cons hn ..) ?_;refine Calls.callWith_builtin rfl (evalArgs_plain (spliced_cons (h1 ρ μ H s _ X _ _ st h (fun v s1 μ1 H1 a e1 st1 x1 k1=>spliced_nil ?_) hE)));refine oK_I k1 fun n hn k2=>?_;have fin:∀t tk,P (.int (n:Int) t) { s1 with toks:=tk }:=fun t tk=>q _ _ _ _ _ (e1.trans st1.rep.same st1.rep) (st1.toks _) (.int _ _) k2;refine lenA_I hn ?_ ?_<;>clear hn
 ·intro l ea hn; subst ea hn;refine x1.tupI fun b o vs k y1 y2 y3 y4 y5=>?_;have hl:=y5.length;refine len_tuple ⟨o,y1,y2,k,y3⟩ (by simp at hl; lia) ?_;refine rwE (show (vs.size:Int)=(l.length:Int) from by simp at hl; lia) ?_;exact fin _ _
 ·intro l ho hz hn; subst hn
  ··refine objOf_I g st1.rep x1 ho fun b o hb=>?_;refine o.listI fun vs k hL hv=>?_;have hl:=hv.length;refine call_len_list ⟨_,hL,rfl,k,rfl⟩ (by simp; lia) ?_;refine rwE (show (vs.toArray.size:Int)=(l.length:Int) from by simp; lia) ?_;exact fin _ _
theorem se_tupOf {e:PySem.Expr} {m:ME} {p pos:Pos} (F:Fix T A env fr) (g:Ground0 prog w G S K base) (hT:T.lookup (Str.ofString "tuple")=some .glob) (hn:notStar e=true) (h1:SE prog w S base T A env fr call e m) :
 SE prog w S base T A env fr call (.Call (.Name (Str.ofString "tuple") p) [e] [] pos) (.tupOf m):=by
 intro ρ μ H s Q X P E st h q hE;refine callN (ld_blt F g st hT (by simp) PyProof.Rows.Boot.«tuple» ?_);refine rwE (star_cons hn ..) ?_;refine PyProof.Rows.callWith_type rfl (evalArgs_plain (spliced_cons (h1 ρ μ H s _ X _ _ st h (fun v s1 μ1 H1 a e1 st1 x1 k1=>spliced_nil ?_) hE)));refine lstP (f:=fun l=>l.length≤1000000∧Q (.tup l) H1) k1 fun l ho k2=>?_; clear k1;refine objOf_I g st1.rep x1 ho fun b o hb=>?_;refine o.listI fun vs k hL hv=>?_;have hl:=hv.length;refine call_tuple_list ⟨_,hL,rfl,k,rfl⟩ (fun h' hk=>?_) (by refine rwE sizeLine_eq ?_; simp; have:=k2.1; lia);obtain⟨r,e⟩:=st1.rep.more (s':={ s1 with heap:=h'.push { cls:=.type "tuple",data:=.seq vs.toArray } }) (fun b p e=>Heap.get?_push_of_some _ (hk b p e)) ⟨rfl,rfl⟩
 exact q _ _ _ _ _ (e1.trans e st1.rep) (st1.ext e r) (.tup (Heap.get?_push_size _ rfl) rfl rfl k2.1 (e.vrs st1.rep hv)) k2.2
def Prs {K' K2:Type} (f:K'→K2) (μ:AA→Addr) (D:AA→Prop) (h:Heap) (l:List (K'×AV)) (kvs:List (K2×Value)):Prop:=kvs.map (·.1)=l.map (fun p=>f p.1)∧VRs μ D h (l.map (·.2)) (kvs.map (·.2))
theorem twin_any {K' K2 B:Type} [DecidableEq K'] [DecidableEq K2] {f:K'→K2} (hf:∀a b,f a=f b→a=b) (g:B→K2) (k:K'):∀{l:List (K'×AV)} {xs:List B},xs.map g=l.map (fun p=>f p.1) →
 (xs.any fun q=>decide (g q=f k))=l.any fun p=>decide (p.1=k):=fun {l xs} e=>by
 have h1:(xs.any fun q=>decide (g q=f k))=(xs.map g).any fun c=>decide (c=f k):=(List.any_map (f:=g) (l:=xs) (p:=fun c=>decide (c=f k))).symm;have h2:((l.map (fun p=>f p.1)).any fun c=>decide (c=f k))=l.any fun p=>decide (f p.1=f k):=List.any_map (f:=fun p:K'×AV=>f p.1) (l:=l) (p:=fun c=>decide (c=f k));refine h1.trans ((congrArg (List.any · _) e).trans (h2.trans (congrArg (List.any l) (funext fun p=>decide_eq_decide.mpr ⟨hf _ _,congrArg f⟩))))
theorem any_rel {K' K2:Type} [DecidableEq K'] [DecidableEq K2] (f:K'→K2) (hf:∀a b,f a=f b→a=b) (k:K') {l:List (K'×AV)} {kvs:List (K2×Value)} (e:kvs.map (·.1)=l.map (fun p=>f p.1)) :
 (kvs.any fun kv=>decide (kv.1=f k))=l.any fun p=>decide (p.1=k):=twin_any hf Prod.fst k e
theorem twin_put {K' K2 B:Type} [DecidableEq K'] [DecidableEq K2] {f:K'→K2} (hf:∀a b,f a=f b→a=b) {g:B→K2} {v:B→Value} {put:B→B} (k:K') {a:AV} {u:Value} (x:VR μ D h a u) (p1:∀q,g q=f k→g (put q)=f k∧v (put q)=u) (p2:∀q,¬g q=f k→put q=q)
 {l:List (K'×AV)} {xs:List B} (e:xs.map g=l.map (fun p=>f p.1)) (y:VRs μ D h (l.map (·.2)) (xs.map v)) :
 (xs.map put).map g=(l.map fun p=>if p.1=k then (p.1,a) else p).map (fun p=>f p.1)∧VRs μ D h ((l.map fun p=>if p.1=k then (p.1,a) else p).map (·.2)) ((xs.map put).map v):=by
 refine twin_ind (M:=fun l xs=>(xs.map put).map g=(l.map fun p=>if p.1=k then (p.1,a) else p).map (fun p=>f p.1)∧VRs μ D h ((l.map fun p=>if p.1=k then (p.1,a) else p).map (·.2)) ((xs.map put).map v)) ⟨rfl,.nil⟩ (fun p q l xs e1 x1 ih=>?_) l e y;have c:g (put q)=f (if p.1=k then (p.1,a) else p).1∧VR μ D h (if p.1=k then (p.1,a) else p).2 (v (put q)):=by
  by_cases z:p.1=k
  ·have w:=p1 q (e1.trans (congrArg f z));refine rwE (if_pos z) ⟨w.1.trans (congrArg f z.symm),?_⟩;exact rwE w.2 x
  ·refine rwE (if_neg z) (rwE (p2 q fun w=>z (hf _ _ (e1.symm.trans w))) ⟨e1,x1⟩)
 exact⟨congr (congrArg List.cons c.1) ih.1,.cons c.2 ih.2⟩
theorem map_rel {K' K2:Type} [DecidableEq K'] [DecidableEq K2] (f:K'→K2) (hf:∀a b,f a=f b→a=b) (k:K') {a:AV} {v:Value} (x:VR μ D h a v) {l:List (K'×AV)} {kvs:List (K2×Value)} (y:Prs f μ D h l kvs) :
 Prs f μ D h (l.map fun p=>if p.1=k then (p.1,a) else p) (kvs.map fun kv=>if kv.1=f k then (kv.1,v) else kv) :=
 twin_put hf k x (fun q z=>by with_reducible refine rwE (if_pos z) ?_; exact⟨z,rfl⟩) (fun q z=>if_neg z) y.1 y.2
theorem stq_rel {K' K2:Type} [DecidableEq K'] [DecidableEq K2] (f:K'→K2) (hf:∀a b,f a=f b→a=b) (k:K') {a:AV} {v:Value} (x:VR μ D h a v) {l:List (K'×AV)} {kvs:List (K2×Value)} (y:Prs f μ D h l kvs) :
 Prs f μ D h (stq l k a) (stored kvs (f k) v):=by
 dsimp only[stq,stored];rw[any_rel f hf k y.1];split
 ·exact map_rel f hf k x y
 ·exact⟨by simp[y.1],by simpa using y.2.append (.cons x .nil)⟩
theorem stq_mem {K':Type} [DecidableEq K'] {l:List (K'×AV)} {k:K'} {a:AV} {p:K'×AV} (h:p∈stq l k a):p.1=k∨∃q∈l,q.1=p.1:=by
 unfold stq at h;split at h
 ·refine E12 (List.mem_map.mp h) fun q hq e=>?_;split at e
  ·rename_i z; subst e; exact .inl z
  ·subst e; exact .inr ⟨q,hq,rfl⟩
 ·rcases List.mem_append.mp h with h|h
  ·exact .inr ⟨p,h,rfl⟩
  ·simp only[List.mem_singleton] at h; subst h; exact .inl rfl
theorem Prs.mono {K' K2:Type} {f:K'→K2} {l:List (K'×AV)} {kvs:List (K2×Value)} (k:∀a,D a→D' a∧μ' a=μ a) (t:TupKeep h h') (y:Prs f μ D h l kvs):Prs f μ' D' h' l kvs:=⟨y.1,VRs.mono k t y.2⟩
inductive PRs (μ:AA→Addr) (D:AA→Prop) (h:Heap):List (AV×AV)→List (Value×Value)→Prop
 |nil:PRs μ D h [] []
 |cons {a b u v l vs}:VR μ D h a u→VR μ D h b v→PRs μ D h l vs→PRs μ D h ((a,b)::l) ((u,v)::vs)
theorem PRs.mono (k:∀a,D a→D' a∧μ' a=μ a) (t:TupKeep h h') {l:List (AV×AV)} {vs:List (Value×Value)} (x:PRs μ D h l vs):PRs μ' D' h' l vs:=by
 induction x with
 |nil=>exact .nil
 |cons p q _ ih=>exact .cons (p.mono k t) (q.mono k t) ih
theorem stq_length {K':Type} [DecidableEq K'] (l:List (K'×AV)) (k:K') (a:AV):(stq l k a).length≤l.length+1:=by
 unfold stq; split<;>simp
theorem store_ok {K' K2:Type} [DecidableEq K'] [DecidableEq K2] {knd:PySem.KeyKind prog w K2} (f:K'→K2) (hf:∀a b,f a=f b→a=b) (fk:AV→Option K') (Gd:K'→Prop) {d:Addr}
 (hk:∀(h:Heap) a k u,fk a=some k→VR μ D h a u→knd.is (f k) u=true∧Gd k):∀{l:List (AV×AV)} {vs:List (Value×Value)} {acc o:List (K'×AV)} {kvs:List (K2×Value)} {s:Shared} {P:PUnit→Shared→Prop},
 PRs μ D s.heap l vs→putAll fk l acc=some o→s.heap.DictOf knd d kvs→Prs f μ D s.heap acc kvs→(∀p∈acc,Gd p.1)→acc.length+l.length≤1000 →
 (∀h' kvs' tk,h'.DictOf knd d kvs'→Prs f μ D h' o kvs'→(∀p∈o,Gd p.1)→Heap.SameBut d s.heap h'→P ⟨⟩ { s with heap:=h',toks:=tk }) →
 wpAny (model prog w) A (storeAll d vs) P E s:=by
 intro l;induction l with
 |nil =>
  intro vs acc o kvs s P x e hD y hg hz q;cases x;obtain rfl:=Option.some.inj e;exact wpAny_pure (q s.heap kvs s.toks hD y hg (.refl ..))
 |cons p r ih =>
  intro vs acc o kvs s P x e hD y hg hz q;cases x with
  |@cons a b u v _ vs x1 x2 x3 =>
   refine putAll_I e fun k ha e=>?_
   ·obtain⟨hkey,gk⟩:=hk s.heap a k u ha x1;have hlen:kvs.length=acc.length:=by have:=congrArg List.length y.1; simpa using this
    unfold storeAll;refine rwE (List.forIn_cons ..) ?_;refine wpAny_bind (wpAny_bind (wpAny_dictSet_pairs hkey hD (fun h' hD' hs=>?_) (by refine rwE (sizeLine_eq ..) ?_; simp at hz; lia)));have hd:=hD;refine E34 hd fun od es ep ho hc hdat _=>?_;have tk:TupKeep s.heap h':=tupKeep_dict ho hdat hs;refine wpAny_pure (ih (s:={ s with heap:=h',toks:=s.toks+1 }) (x3.mono (fun _ z=>⟨z,rfl⟩) tk) e hD' (Prs.mono (fun _ z=>⟨z,rfl⟩) tk (stq_rel f hf k x2 y)) (fun p hp=>?_) (by have:=stq_length acc k b; simp at hz; lia) fun h2 kvs2 tk2 a1 a2 a3 a4=>?_)
    ·rcases stq_mem hp with z|⟨q',hq',z⟩
     ·refine rwE z ?_; exact gk
     ·refine rwS z ?_; exact hg q' hq'
    ·exact q h2 kvs2 tk2 a1 a2 a3 (hs.trans a4)
end
section
variable {prog:Program} {w:World} {G:Gl} {S:Stat} {K:Frag} {base:Heap}
variable {T:NT} {A:Around} {env:Env} {fr:List Env} {ρ:Loc} {μ μ' μ'' μ₀:AA→Addr} {D D':AA→Prop} {H H' H'' H₀:AH} {s s' s'' s₀:Shared} {X:AV→AH→Prop} {call:Callee} {h h':Heap} {E:Value→Shared→Prop}
def PrsH (μ:AA→Addr) (D:AA→Prop) (h:Heap) (l:List (TK×AV)) (xs:List (TK×Addr×Value)):Prop:=xs.map (·.1)=l.map (·.1)∧VRs μ D h (l.map (·.2)) (xs.map (·.2.2))
theorem any_relH (k:TK) {l:List (TK×AV)} {xs:List (TK×Addr×Value)} (e:xs.map (·.1)=l.map (·.1)):(atKey xs k).isSome=l.any fun p=>decide (p.1=k) :=
 (Option.isSome_map.trans List.isSome_find?).trans (twin_any (f:=id) (fun _ _ z=>z) Prod.fst k e)
theorem map_relH (k:TK) {a:AV} {v:Value} (x:VR μ D h a v) {l:List (TK×AV)} {xs:List (TK×Addr×Value)} (y:PrsH μ D h l xs):PrsH μ D h (l.map fun p=>if p.1=k then (p.1,a) else p) (xs.map (putAt k v)) :=
 twin_put (f:=id) (g:=Prod.fst) (v:=fun q:TK×Addr×Value=>q.2.2) (fun _ _ z=>z) k x (fun q z=>by with_reducible refine rwE (if_pos z) ?_; exact⟨z,rfl⟩) (fun q z=>if_neg z) y.1 y.2
theorem stq_relH (k:TK) {a:AV} {v:Value} {c:Addr} (x:VR μ D h a v) {l:List (TK×AV)} {xs:List (TK×Addr×Value)} (y:PrsH μ D h l xs):PrsH μ D h (stq l k a) (storedH xs k c v):=by
 dsimp only[stq,storedH];rw[any_relH k y.1];split
 ·exact map_relH k x y
 ·exact⟨by simp[y.1],by simpa using y.2.append (.cons x .nil)⟩
theorem PrsH.mono {l:List (TK×AV)} {xs:List (TK×Addr×Value)} (k:∀a,D a→D' a∧μ' a=μ a) (t:TupKeep h h') (y:PrsH μ D h l xs):PrsH μ' D' h' l xs:=⟨y.1,VRs.mono k t y.2⟩
theorem store_okH {d:Addr}:∀{l:List (AV×AV)} {vs:List (Value×Value)} {acc o:List (TK×AV)} {xs:List (TK×Addr×Value)} {s:Shared} {P:PUnit→Shared→Prop},A.units+64<cLine →
 PRs μ D s.heap l vs→putAll tk l acc=some o→s.heap.DictOfH (tkKind prog w) d xs→PrsH μ D s.heap acc xs→acc.length+l.length≤1000 →
 (∀h' xs' tk,h'.DictOfH (tkKind prog w) d xs'→PrsH μ D h' o xs'→Heap.SameBut d s.heap h'→TupKeep s.heap h'→P ⟨⟩ { s with heap:=h',toks:=tk }) →
 wpAny (model prog w) A (storeAll d vs) P E s:=by
 intro l;induction l with
 |nil =>
  intro vs acc o xs s P hu x e hD y hz q;cases x;obtain rfl:=Option.some.inj e;exact wpAny_pure (q s.heap xs s.toks hD y (.refl ..) (.refl _))
 |cons p r ih =>
  intro vs acc o xs s P hu x e hD y hz q;cases x with
  |@cons a b u v _ vs x1 x2 x3 =>
   refine putAll_I e fun k ha e=>?_
   ·refine (vr_tkI x1 ha) fun c eq1 hc=>?_; subst eq1;have hlen:xs.length=acc.length:=by have:=congrArg List.length y.1; simpa using this
    dsimp only[storeAll];refine rwE (List.forIn_cons ..) ?_;refine wpAny_bind (wpAny_bind (wpAny_dictSet_heap (knd:=tkKind prog w) hu hc hD (fun h' hD' hs=>?_) (by refine rwE (sizeLine_eq ..) ?_; simp at hz; lia)));have hd:=hD;refine E34 hd fun od es ep ho _ hdat _=>?_;have tk':TupKeep s.heap h':=tupKeep_dict ho hdat hs;refine wpAny_pure (ih (s:={ s with heap:=h',toks:=s.toks+(tkKind prog w).draws k }) hu (x3.mono (fun _ z=>⟨z,rfl⟩) tk') e hD' (PrsH.mono (fun _ z=>⟨z,rfl⟩) tk' (stq_relH k x2 y)) (by have:=stq_length acc k b; simp at hz; lia) fun h2 kvs2 tk2 a1 a2 a4 a5=>?_);refine q h2 kvs2 tk2 a1 a2 (hs.trans a4) fun b o e c sq=>?_;obtain⟨sl,e'⟩:=tk' b o e c sq;obtain⟨sl2,e2⟩:=a5 b _ e' c sq;exact⟨sl2,e2⟩
theorem Rep.add2 (r:Rep prog w base fr μ H s.heap) (e:Ext fr μ₀ H₀ s₀ μ H s) {a:AA} {o:AO} {n:Addr} (ha:H a=none) (hn0:s₀.heap.get? n=none) (hni:¬Img μ H n) (hb:base.get? n=none) (hf:n ∉ Lsf fr) (hs:Heap.SameBut n s.heap s'.heap) (tk:TupKeep s.heap s'.heap)
 (q:OR prog w (setμ μ a n) (Dm (upd H a o)) s'.heap o n) (gr:s'.gens=s.gens∧s'.os=s.os) :
 Rep prog w base fr (setμ μ a n) (upd H a o) s'.heap∧Ext fr μ₀ H₀ s₀ (setμ μ a n) (upd H a o) s':=by
 have up:=St.upd_up (μ:=μ) (n:=n) (o:=o) ha;have dn:∀b,upd H a o b≠none→b=a∨(b≠a∧H b≠none):=fun b hb=>by
  by_cases e:b=a
  ·exact .inl e
  ·exact .inr ⟨e,by simpa [upd,e] using hb⟩
 have sa:setμ μ a n a=n:=by simp[setμ]
 have so:∀b,b≠a→setμ μ a n b=μ b:=fun b e=>by simp[setμ,e]
 have ne:∀b,H b≠none→μ b≠n:=fun b hb e=>hni ⟨b,hb,e⟩;refine⟨⟨fun b c hb hc e=>?_,fun b p hb=>?_,fun b hb'=>?_,fun b hb=>?_,fun b p e=>?_⟩,
  ⟨fun b hb'=>?_,fun b hb hb'=>?_,fun b p e' n'=>?_,gr.1.trans e.rest.1,gr.2.trans e.rest.2⟩⟩
 ·rcases dn b hb with rfl|⟨nb,hb'⟩<;>rcases dn c hc with rfl|⟨nc,hc'⟩
  ·rfl
  ·rw[sa,so c nc] at e; exact absurd e.symm (ne c hc')
  ·rw[sa,so b nb] at e; exact absurd e (ne b hb')
  ·rw[so b nb,so c nc] at e; exact r.inj b c hb' hc' e
 ·by_cases e:b=a
  ·subst e;have:p=o:=by simp[upd] at hb; exact hb.symm
   subst this; refine rwE sa ?_; exact q
  ·have hb':H b=some p:=by simpa [upd,e] using hb
   have hne:H b≠none:=by refine rwE hb' ?_; simp
   refine rwE (so b e) ?_;exact (r.obj b p hb').mono up tk (hs.2 _ (ne b hne))
 ·rcases dn b hb' with rfl|⟨nb,hb''⟩
  ·refine rwE sa ?_; exact hb
  ·refine rwE (so b nb) ?_; exact r.new b hb''
 ·rcases dn b hb with rfl|⟨nb,hb'⟩
  ·refine rwE sa ?_; exact hf
  ·refine rwE (so b nb) ?_; exact r.ap b hb'
 ·refine (hs.2 b fun z=>?_).trans (r.stay b p e);rw[z,hb] at e; exact (noS e).elim
 ·obtain⟨h1,e1⟩:=e.old b hb';obtain⟨h2,e2⟩:=up b h1;exact⟨h2,e2.trans e1⟩
 ·rcases dn b hb with rfl|⟨nb,hb''⟩
  ·refine rwE sa ?_; exact hn0
  ·refine rwE (so b nb) ?_; exact e.fresh b hb'' hb'
 ·obtain⟨k1,sl,k2⟩:=e.keep b p e' n';have hbn:b≠n:=fun z=>by rw[z,hn0] at e'; exact (noS e').elim
  rw[hs.2 b hbn];exact⟨k1,sl,k2⟩
theorem Rep.skip2 (r:Rep prog w base fr μ H s.heap) (e:Ext fr μ₀ H₀ s₀ μ H s) {n:Addr} (hn0:s₀.heap.get? n=none) (hni:¬Img μ H n) (hb:base.get? n=none) (hs:Heap.SameBut n s.heap s'.heap) (tk:TupKeep s.heap s'.heap) (gr:s'.gens=s.gens∧s'.os=s.os) :
 Rep prog w base fr μ H s'.heap∧Ext fr μ₀ H₀ s₀ μ H s':=by
 have ne:∀b,H b≠none→μ b≠n:=fun b hb e=>hni ⟨b,hb,e⟩;refine⟨⟨r.inj,fun b p hb'=>?_,r.new,r.ap,fun b p e=>?_⟩,⟨e.old,e.fresh,fun b p e' n'=>?_,gr.1.trans e.rest.1,gr.2.trans e.rest.2⟩⟩
 ·exact (r.obj b p hb').mono (fun c hc=>⟨hc,rfl⟩) tk (hs.2 _ (ne b (by refine rwE hb' ?_; simp)))
 ·refine (hs.2 b fun z=>?_).trans (r.stay b p e);rw[z,hb] at e; exact (noS e).elim
 ·obtain⟨k1,sl,k2⟩:=e.keep b p e' n';have hbn:b≠n:=fun z=>by rw[z,hn0] at e'; exact (noS e').elim
  rw[hs.2 b hbn];exact⟨k1,sl,k2⟩
theorem newO2 (st₀:St prog w base T env fr ρ μ₀ H₀ s₀) (r:Rep prog w base fr μ H s.heap) (e:Ext fr μ₀ H₀ s₀ μ H s) {o:AO} {n:Addr} {Q:AV→AH→Prop} (h:newO H o Q) (hn0:s₀.heap.get? n=none) (hni:¬Img μ H n) (hb:base.get? n=none) (hf:n ∉ Lsf fr)
 (hs:Heap.SameBut n s.heap s'.heap) (tk:TupKeep s.heap s'.heap) (q:∀a,H a=none→OR prog w (setμ μ a n) (Dm (upd H a o)) s'.heap o n) (gr:s'.gens=s.gens∧s'.os=s.os) :
 ∃μ' H' a,Ext fr μ₀ H₀ s₀ μ' H' s'∧St prog w base T env fr ρ μ' H' s'∧VR μ' (Dm H') s'.heap a (.ref n)∧Q a H':=by
 rcases h with h|⟨a,ha,h⟩
 ·obtain⟨r',e'⟩:=r.skip2 e hn0 hni hb hs tk gr;exact⟨μ,H,.junk,e',st₀.ext e' r',.junk rfl,h⟩
 ·obtain⟨r',e'⟩:=r.add2 e ha hn0 hni hb hf hs tk (q a ha) gr;refine⟨_,_,_,e',st₀.ext e' r',?_,h⟩;have:=VR.ref (μ:=setμ μ a n) (D:=Dm (upd H a o)) (h:=s'.heap) (a:=a) (by simp[upd]);rwa [show setμ μ a n a=n from by simp[setμ]] at this
inductive PL (prog:Program) (w:World) (S:Stat) (base:Heap) (T:NT) (A:Around) (env:Env) (fr:List Env) (call:Callee):List (Option PySem.Expr)→List PySem.Expr→List ME→List ME→Prop
 |nil:PL prog w S base T A env fr call [] [] [] []
 |cons {k v mk mv ks vs mks mvs}:SE prog w S base T A env fr call k mk→SE prog w S base T A env fr call v mv→PL prog w S base T A env fr call ks vs mks mvs→PL prog w S base T A env fr call (some k::ks) (v::vs) (mk::mks) (mv::mvs)
theorem pl_ok {ks:List (Option PySem.Expr)} {vs:List PySem.Expr} {mks mvs:List ME} (x:PL prog w S base T A env fr call ks vs mks mvs) (pos:Pos) :
 ∀ρ μ H s (Q:List AV→AH→Prop) (X:AV→AH→Prop) (P:List (Value×Value)→Shared→Prop) (E:Value→Shared→Prop),St prog w base T env fr ρ μ H s→ewps S call X (weave mks mvs) ρ Q H →
 (∀prs s' μ' H' as,Ext fr μ H s μ' H' s'→St prog w base T env fr ρ μ' H' s'→PRs μ' (Dm H') s'.heap (pairUp as) prs→(pairUp as).length=ks.length→Q as H'→P prs s') →
 (∀e s',PX prog w S base fr μ H s X e s'→E e s')→wpAny (model prog w) A (evalPairs (pairTrees ks vs env pos)) P E s:=by
 induction x with
 |nil =>
  intro ρ μ H s Q X P E st h q hE;dsimp only[weave] at h;exact evalPairs_nil (q [] s μ H [] (.refl ..) st .nil rfl h)
 |cons h1 h2 _ ih =>
  intro ρ μ H s Q X P E st h q hE;dsimp only[weave] at h;refine evalPairs_cons (h1 ρ μ H s _ X _ _ st h (fun k s1 μ1 H1 a e1 st1 x1 k1=>?_) hE);skip
  refine wpAny_bind (h2 ρ μ1 H1 s1 _ X _ _ st1 k1 (fun v s2 μ2 H2 b e2 st2 x2 k2=>?_) fun e s' px=>hE e s' (px.up e1 st1.rep));have e12:=e1.trans e2 st1.rep;refine wpAny_bind (wpAny_standAt (wpAny_pure ?_));refine ih ρ μ2 H2 s2 _ X _ _ st2 k2 (fun prs s3 μ3 H3 as e3 st3 x3 l3 k3=>?_) fun e s' px=>hE e s' (px.up e12 st2.rep);exact q _ _ _ _ (a::b::as) (e12.trans e3 st2.rep) st3 (.cons ((e2.trans e3 st2.rep).vr st1.rep x1) (e3.vr st2.rep x2) x3) (congrArg (·+1) l3) k3
theorem se_dict0 {pos:Pos}:SE prog w S base T A env fr call (.Dict [] [] pos) (.dict []):=by
 intro ρ μ H s Q X P E st h q hE;refine wpAny_Dict_empty ?_;have fin:∀{o:AO},newO H o Q→(∀a,H a=none→OR prog w (setμ μ a s.heap.objs.size) (Dm (upd H a o)) (s.heap.push { cls:=.type "dict",data:=.dict #[] }) o s.heap.objs.size)→P (.ref s.heap.objs.size) { s with heap:=s.heap.push { cls:=.type "dict",data:=.dict #[] } }:=fun hn hq=>by
  refine E34 (newO_ok (s':={ s with heap:=s.heap.push { cls:=.type "dict",data:=.dict #[] } }) st hn (get_size _) (fun b p e=>Heap.get?_push_of_some _ e) hq ⟨rfl,rfl⟩) fun μ' H' a e2 st2 x2 k2=>?_
  exact q _ _ _ _ _ e2 st2 x2 k2
 rcases h with h|h|h
 ·exact fin h fun a ha=>.sd (kvs:=[]) (Heap.DictOf.new _) (fun p hp=>by simp at hp) rfl .nil
 ·exact fin h fun a ha=>.id (kvs:=[]) (Heap.DictOf.new _) rfl .nil
 ·exact fin h fun a ha=>.td (xs:=[]) (Heap.DictOfH.new _) rfl .nil
theorem str?_ok {a:AV} {x:List Nat} (e:str? a=some x):a = .str x:=by
 induction a using AV.casesOn<;>first|exact (noS e).elim|exact congrArg AV.str (Option.some.inj e)
theorem int?_ok {a:AV} {x:Int} (e:int? a=some x):a = .int x:=by
 induction a using AV.casesOn<;>first|exact (noS e).elim|exact congrArg AV.int (Option.some.inj e)
theorem d3P {v:AV} {A B D C:Prop} (h:match (generalizing:=false) v with|.str _=>A|.int _=>B|.tup _=>D|_=>False) (a:A→C) (b:B→C) (d:D→C):C:=by
 induction v using AV.casesOn<;>first|exact h.elim|exact a h|exact b h|exact d h
theorem dictO_I {H:AH} {l:List (AV×AV)} {Q:AV→AH→Prop} {C:Prop} (h:dictO H l Q) (k0:l=[]→C) (k1:oK (putAll str? l []) (fun o=>newO H (.sd o) Q)→C) (k2:oK (putAll int? l []) (fun o=>newO H (.id o) Q)→C) (k3:oK (putAll tk l []) (fun o=>newO H (.td o) Q)→C):C:=by
 induction l using List.casesOn with
 |nil=>exact k0 rfl
 |cons p r=>exact d3P h k1 k2 k3
theorem se_dict {ks:List (Option PySem.Expr)} {vs:List PySem.Expr} {mks mvs:List ME} {pos:Pos} (hu:A.units+200<cLine) (x:PL prog w S base T A env fr call ks vs mks mvs) (h0:ks≠[]) (hlen:ks.length≤15) (hall:ks.all (·.isSome)=true) (hl:ks.length=vs.length) :
 SE prog w S base T A env fr call (.Dict ks vs pos) (.dict (weave mks mvs)):=by
 intro ρ μ H s Q X P E st h q hE;refine wpAny_Dict_any hall hl h0 hlen ?_;obtain⟨r0,e0⟩:=st.rep.more (s':={ s with heap:=s.heap.push { cls:=.type "dict",data:=.dict #[] } }) (fun b p e=>Heap.get?_push_of_some _ e) ⟨rfl,rfl⟩
 have st0:=st.ext e0 r0;refine pl_ok x pos ρ μ H _ _ X _ _ st0 h (fun prs s1 μ1 H1 as e1 st1 x1 l1 k1=>?_) fun e s' px=>hE e s' (px.up e0 r0);have e01:=e0.trans e1 r0;have hd0:(s.heap.push { cls:=.type "dict",data:=.dict #[] }).get? s.heap.objs.size=some { cls:=.type "dict",data:=.dict #[] }:=Heap.get?_push_size _ rfl
 have hni0:¬Img μ H s.heap.objs.size:=fun⟨a,ha,e⟩=>by
  refine E12 (st.rep.there a ha) fun ob e' _=>?_;rw[e,get_size] at e'; exact (noS e').elim
 have hf:s.heap.objs.size ∉ Lsf fr:=fun hm=>st.fresh _ hm (get_size _);have hb:base.get? s.heap.objs.size=none:=nk (fun _ z=>st.rep.stay _ _ z) (get_size _);have hni:¬Img μ1 H1 s.heap.objs.size:=e1.notImg hd0 hni0;have hd1:s1.heap.get? s.heap.objs.size=some { cls:=.type "dict",data:=.dict #[] }:=(e1.keep _ _ hd0 hni0).1 hf
 have fin:∀{o:AO} {h':Heap} {tk:Nat},newO H1 o Q→Heap.SameBut s.heap.objs.size s1.heap h'→TupKeep s1.heap h'→(∀a,H1 a=none→OR prog w (setμ μ1 a s.heap.objs.size) (Dm (upd H1 a o)) h' o s.heap.objs.size)→P (.ref s.heap.objs.size) { s1 with heap:=h',toks:=tk }:=fun {o h' tk} hn hs htk hq=>by
  refine E34 (newO2 (s':={ s1 with heap:=h',toks:=tk }) st st1.rep e01 hn (get_size _) hni hb hf hs htk hq ⟨rfl,rfl⟩) fun μ' H' a e2 st2 x2 k2=>?_;exact q _ _ _ _ _ e2 st2 x2 k2
 have hlen1:(pairUp as).length≤1000:=by lia
 refine dictO_I k1 (fun hz=>?_) (fun k1=>?_) (fun k1=>?_) fun k1=>?_
 ·exfalso;have:ks.length=0:=by rw[←l1,hz]; rfl
  exact h0 (List.length_eq_zero_iff.mp this)
 ·refine oK_I k1 fun o ho k2=>?_;refine store_ok (knd:=sk prog w) strOf (fun _ _=>strOf_inj) str? (fun x=>∀c∈x,c<1114112) (fun h a k u e y=>?_) x1 ho ⟨_,#[],0,hd1,⟨rfl,rfl,rfl⟩,rfl,(fun _ he=>by simp at he),Pairs.nil,List.nodup_nil⟩ ⟨rfl,.nil⟩ (fun p hp=>by simp at hp) (by simp; lia) fun h' kvs' tk a1 a2 a3 a4=>?_
  ·have:=str?_ok e; subst this;exact⟨str_key (s:={ s with heap:=h }) y,by cases y with|str _ t e=>exact e⟩
  ·have htk:=tupKeep_dict (d:=s.heap.objs.size) hd1 rfl a4;exact fin k2 a4 htk fun a ha=>.sd a1 a3 a2.1 (VRs.mono (St.upd_up ha) (.refl _) a2.2)
 ·refine oK_I k1 fun o ho k2=>?_;refine store_ok (knd:=ik prog w) id (fun _ _ z=>z) int? (fun _=>True) (fun h a k u e y=>?_) x1 ho ⟨_,#[],0,hd1,⟨rfl,rfl,rfl⟩,rfl,(fun _ he=>by simp at he),Pairs.nil,List.nodup_nil⟩ ⟨rfl,.nil⟩ (fun p hp=>by simp at hp) (by simp; lia) fun h' kvs' tk a1 a2 a3 a4=>?_
  ·have:=int?_ok e; subst this;exact⟨int_key (s:={ s with heap:=h }) y,trivial⟩
  ·have htk:=tupKeep_dict (d:=s.heap.objs.size) hd1 rfl a4;exact fin k2 a4 htk fun a ha=>.id a1 a2.1 (VRs.mono (St.upd_up ha) (.refl _) a2.2)
 ·refine oK_I k1 fun o ho k2=>?_;refine store_okH (xs:=[]) (by lia) x1 ho ⟨_,#[],0,hd1,⟨rfl,rfl,rfl⟩,rfl,rfl,(fun _ hx=>by simp at hx),List.nodup_nil⟩ ⟨rfl,.nil⟩ (by simp; lia) fun h' kvs' tk a1 a2 a4 a5=>?_;exact fin k2 a4 a5 fun a ha=>.td a1 a2.1 (VRs.mono (St.upd_up ha) (.refl _) a2.2)
end
section
variable {prog:Program} {w:World} {G:Gl} {S:Stat} {K:Frag} {base:Heap}
variable {T:NT} {A:Around} {env:Env} {fr:List Env} {ρ:Loc} {μ μ' μ'' μ₀:AA→Addr} {D D':AA→Prop} {H H' H'' H₀:AH} {s s' s'' s₀:Shared} {X:AV→AH→Prop} {call:Callee} {h h':Heap} {E:Value→Shared→Prop}
noncomputable def CallOk (prog:Program) (w:World) (S:Stat) (base:Heap) (A:Around) (fr:List Env) (call:Callee):Prop :=
 ∀f as (Ps:Post) μ H s vals (R:Result→Shared→Prop),Rep prog w base fr μ H s.heap→s.heap.FunFrames base fr→VRs μ (Dm H) s.heap as vals→call f as Ps H →
  (∀v s' μ' H' a,Ext fr μ H s μ' H' s'→Rep prog w base fr μ' H' s'.heap→VR μ' (Dm H') s'.heap a v→Ps (.ok a) H'→R (.ok (.ret v)) s') →
  (∀e s' μ' H' x,Ext fr μ H s μ' H' s'→Rep prog w base fr μ' H' s'.heap→Flys S.unheld s.heap μ' H' s'.heap e x→Ps (.exc x) H'→R (.error e) s') →
  codeAny (model prog w) A (.call (.ref f) ⟨vals,[]⟩) R s
noncomputable def CallsOk (prog:Program) (w:World) (S:Stat) (base:Heap) (A:Around) (fr:List Env) (call:Callee):Prop :=
 ∀A':Around,A'.frames=A.frames→A'.handled=A.handled→A'.depth≤A.depth+1→A'.units≤A.units+4→CallOk prog w S base A' fr call
theorem CallsOk.here (c:CallsOk prog w S base A fr call):CallOk prog w S base A fr call:=c A rfl rfl (by lia) (by lia)
theorem plain_trees:∀{es:List PySem.Expr},es.all notStar=true→(pos:Pos)→(backTo pos (starEach es env)).any (·.1)=false
 |[],_,_=>rfl
 |e::r,h,pos=>by
  simp only[List.all_cons,Bool.and_eq_true] at h;rw[star_cons h.1,List.any_cons,plain_trees h.2 pos]; rfl
theorem callWith_ok {f:Value} {first:List Value} {es:List PySem.Expr} {ms:List ME} {pos:Pos} {Q:List AV→AH→Prop} {P:Value→Shared→Prop} (g:Ground0 prog w G S K base) (hk:keepIn K f=true) (hs:es.all notStar=true) (hl:es.length=ms.length) (h1:SL prog w S base T A env fr call es ms) (st:St prog w base T env fr ρ μ H s)
 (h:ewps S call X ms ρ Q H) (q:∀vs s' μ' H' as,Ext fr μ H s μ' H' s'→St prog w base T env fr ρ μ' H' s'→VRs μ' (Dm H') s'.heap as vs→Q as H'→wpAny (model prog w) A (PySem.call f (first++vs)) P E s')
 (hE:∀e s',PX prog w S base fr μ H s X e s'→E e s'):wpAny (model prog w) A (callWith pos f first (backTo pos (starEach es env)) []) P E s:=by
 induction es using List.casesOn with
 |nil =>
  induction ms using List.casesOn with
  |cons _ _=>simp at hl
  |nil =>
   exact callWith_K0 (g.inn.keeps st.rep.stay) hk (q [] s μ H [] (.refl ..) st .nil h)
 |cons e r =>
  simp only[List.all_cons,Bool.and_eq_true] at hs;exact callWith_K g.inn hk (h1 pos ρ μ H s _ X _ _ st h (fun vs s1 μ1 H1 as e1 st1 x1 l1 k1=>⟨g.inn.keeps st1.rep.stay,q vs s1 μ1 H1 as e1 st1 x1 k1⟩) hE) (star_one hs.1) (plain_trees hs.2 pos)
theorem ld_glob {x:Str} {pos:Pos} {v:Value} {Q:Value→Shared→Prop} (F:Fix T A env fr) (st:St prog w base T env fr ρ μ H s) (hT:T.lookup x=some .glob) {mg:Str→Option Value} (hg:base.Ns mainGlobals mg) (hv:mg x=some v) (h:Q v s):wpAny (model prog w) A (eval (.Name x pos) env) Q E s :=
 Name_function_global F.kind (F.glo x hT) (loadGlobal_global (F.glob▸hg.keeps st.rep.stay) hv h) (F.nd x _ hT).1
theorem se_call {x:Str} {f:Addr} {es:List PySem.Expr} {ms:List ME} {p pos:Pos} (F:Fix T A env fr) (g:Ground0 prog w G S K base) (c:CallsOk prog w S base A fr call) (hT:T.lookup x=some .glob) (hf:G.defs.lookup x=some f) (hs:es.all notStar=true) (hl:es.length=ms.length)
 (h1:SL prog w S base T A env fr call es ms):SE prog w S base T A env fr call (.Call (.Name x p) es [] pos) (.call f ms):=by
 intro ρ μ H s Q X P E st h q hE;refine E12 g.glo fun mg hg _=>?_;obtain⟨hv,hk⟩:=(g.defs mg hg).1 x f hf;refine callN (ld_glob F st hT hg hv (callWith_ok g hk hs hl h1 st h (fun vs s1 μ1 H1 as e1 st1 x1 k1=>?_) hE));refine wpAny_call (c.here f as _ μ1 H1 s1 vs _ st1.rep st1.frs x1 k1 (fun v s2 μ2 H2 a e2 r2 x2 k2=>?_) fun e s2 μ2 H2 y e2 r2 fl k2=>?_)
 ·exact q _ _ _ _ _ (e1.trans e2 st1.rep) (st1.ext e2 r2) x2 k2
 ·exact hE _ _ ⟨μ2,H2,y,e1.trans e2 st1.rep,r2,fl.up (e1.away st1.rep),k2⟩
theorem under_tc (C:Addr) (rest:List Value):A.under (.builtin "type.__call__" ⟨.ref C::rest,[]⟩) = { A with depth:=A.depth+1,units:=A.units+1 }:=by
 obtain⟨a,b,c,d,e⟩:=A;show Around.mk _ _ _ _ _=_
 have hg:(Code.builtin "type.__call__" ⟨.ref C::rest,[]⟩).guards=[]:=by unfold Code.guards; refine rwE (if_neg (by simp[Code.isGuard,guardIds])) ?_; rfl
 have he:(Code.builtin "type.__call__" ⟨.ref C::rest,[]⟩).envs=[]:=by unfold Code.envs; refine rwE (if_neg (by simp[Code.isFrame])) ?_; rfl
 have hw:(Code.builtin "type.__call__" ⟨.ref C::rest,[]⟩).weight=1:=by
  unfold Code.weight;rw[if_pos (by rfl),if_neg (by simp[Code.isGuard,guardIds]),if_neg (show ¬((Code.builtin "type.__call__" ⟨.ref C::rest,[]⟩).isCaller=true) from fun h=>noB h)]
  rfl
 refine rwE hg ?_; refine rwE he ?_; refine rwE hw ?_;rfl
theorem make_ok (g:Ground0 prog w G S K base) (c:CallsOk prog w S base A fr call) {C:Addr} {as:List AV} {vs:List Value} {Q:AV→AH→Prop} {P:Value→Shared→Prop} (st:St prog w base T env fr ρ μ H s) (x:VRs μ (Dm H) s.heap as vs) (h:makeA S call C as Q X H)
 (q:∀v s' μ' H' a,Ext fr μ H s μ' H' s'→St prog w base T env fr ρ μ' H' s'→VR μ' (Dm H') s'.heap a v→Q a H'→P v s') (hE:∀e s',PX prog w S base fr μ H s X e s'→E e s') :
 wpAny (model prog w) A (PySem.call (.ref C) vs) P E s:=by
 skip
 refine E24 h fun a d ha hd had h=>?_;refine oK_I h fun i hi h=>?_;refine E03 (g.init C i hi) fun g1 g2 g3=>?_;-- the two new objects
 have hda:upd H d (.ns []) a=none:=by unfold upd; refine rwE (if_neg had) ?_; exact ha
 obtain⟨r1,e1⟩:=st.rep.add (s':={ s with heap:=s.heap.push emptyDict }) hd (get_size _) st.fresh (fun b p e=>Heap.get?_push_of_some _ e) (.ns (es:=[]) (n:=0) (Heap.get?_push_size _ rfl) .nil) ⟨rfl,rfl⟩;have st1:=st.ext e1 r1;obtain⟨r2,e2⟩:=r1.add (a:=a) (o:=.inst C d) (n:=s.heap.objs.size+1) (s:={ s with heap:=s.heap.push emptyDict }) (s':={ s with heap:=(s.heap.push emptyDict).push (instObj C s.heap.objs.size) }) hda (by refine rwS (Heap.size_push s.heap emptyDict) ?_; exact get_size _) st1.fresh (fun b p e=>Heap.get?_push_of_some _ e) (by
  have hs:setμ (setμ μ d s.heap.objs.size) a (s.heap.objs.size+1) d=s.heap.objs.size:=by simp[setμ,Ne.symm had]
  have:((s.heap.push emptyDict).push (instObj C s.heap.objs.size)).get? (s.heap.objs.size+1)=some (instObj C s.heap.objs.size):=by
   refine rwS (Heap.size_push s.heap emptyDict) ?_; exact Heap.get?_push_size _ rfl
  exact .inst (by refine rwE hs ?_; exact this) (by simp[upd,Ne.symm had])) ⟨rfl,rfl⟩
 have e12:=e1.trans e2 r1;have st2:=st.ext e12 r2;have x2:=e12.vrs st.rep x;have xa:VR (setμ (setμ μ d s.heap.objs.size) a (s.heap.objs.size+1)) (Dm (upd (upd H d (.ns [])) a (.inst C d))) ((s.heap.push emptyDict).push (instObj C s.heap.objs.size)) (.ref a) (.ref (s.heap.objs.size+1)):=by
  have:=VR.ref (μ:=setμ (setμ μ d s.heap.objs.size) a (s.heap.objs.size+1)) (D:=Dm (upd (upd H d (.ns [])) a (.inst C d))) (h:=(s.heap.push emptyDict).push (instObj C s.heap.objs.size)) (a:=a) (by simp[upd]);rwa [show setμ (setμ μ d s.heap.objs.size) a (s.heap.objs.size+1) a=s.heap.objs.size+1 from by simp[setμ]] at this
 have X0:=g.inn.keeps st.rep.stay;refine wpAny_call ?_;obtain⟨hh,gg,dd,tt,os⟩:=s;induction i using Option.casesOn with
 |some f =>
  refine make_core (makes_of X0 g1) (looks_findIn X0 g3.1) (fun self=>bind_fn X0 self g3.2) (.inl rfl) ?_;have cc:=c (A.under (.builtin "type.__call__" ⟨.ref C::vs,[]⟩)) (by refine rwE (under_tc ..) ?_; rfl) (by refine rwE (under_tc ..) ?_; rfl) (by with_reducible refine rwE (under_tc ..) ?_; exact Nat.le_refl _) (by with_reducible refine rwE (under_tc ..) ?_; show A.units+1≤_; lia)
  refine cc f _ _ _ _ _ _ _ r2 st2.frs (.cons xa x2) h (fun v s3 μ3 H3 b e3 r3 x3 k3=>?_) fun e s3 μ3 H3 y e3 r3 fl k3=>?_
  ·obtain⟨rfl,k4⟩:=k3;cases x3;refine⟨rfl,?_⟩;exact q _ _ _ _ _ (e12.trans e3 r2) (st2.ext e3 r3) (e3.vr r2 xa) k4
  ·exact hE _ _ ⟨μ3,H3,y,e12.trans e3 r2,r3,fl.up (e12.away r2),k3⟩
 |none =>
  obtain⟨rfl,h2⟩:=h;cases x;have Y:=makes_of (M:=model prog w) X0 g1;refine make_core Y (looks_findIn X0 g3) (fun self=>Looks.of_pure (oi_bind self)) (.inr ⟨rfl,rfl⟩) ?_;have t1:Looks (model prog w) ((hh.push emptyDict).push (instObj C hh.objs.size)) (typeOf (.ref (hh.objs.size+1))) (.ref C):=(Looks.ld (o:=instObj C hh.objs.size) (by refine rwS (Heap.size_push hh emptyDict) ?_; exact Heap.get?_push_size _ rfl)).andThen .now;have t2:Looks (model prog w) ((hh.push emptyDict).push (instObj C hh.objs.size)) (isInstance (.ref (hh.objs.size+1)) (.type "object")) true:=t1.andThen (Y.top.keeps fun b o e=>Heap.get?_push_of_some _ (Heap.get?_push_of_some _ e))
  refine codeAny_call_builtin oi_plain entry_oi (@check_slot (model prog w) _ _ _ "object.__init__" "object" "__init__" (.ref (hh.objs.size+1)) [] [] _ oi_kind oi_split t2 (oi_args (.ref (hh.objs.size+1))) ?_)
  refine rwE (oi_run ..) ?_;exact wpAny_pure (And.intro rfl (q _ _ _ _ _ e12 st2 xa h2))
theorem se_make {x:Str} {C:Addr} {es:List PySem.Expr} {ms:List ME} {p pos:Pos} (F:Fix T A env fr) (g:Ground0 prog w G S K base) (c:CallsOk prog w S base A fr call) (hT:T.lookup x=some .glob) (hf:G.clss.lookup x=some C) (hs:es.all notStar=true) (hl:es.length=ms.length) (hk:keepIn K (.ref C)=true)
 (h1:SL prog w S base T A env fr call es ms):SE prog w S base T A env fr call (.Call (.Name x p) es [] pos) (.make C ms):=by
 intro ρ μ H s Q X P E st h q hE;refine E12 g.glo fun mg hg _=>?_;have hv:=(g.defs mg hg).2 x C hf;refine callN (ld_glob F st hT hg hv (callWith_ok g hk hs hl h1 st h (fun vs s1 μ1 H1 as e1 st1 x1 k1=>?_) hE));exact make_ok g c st1 x1 k1 (fun v s2 μ2 H2 a e2 st2 x2 k2=>q _ _ _ _ _ (e1.trans e2 st1.rep) st2 x2 k2) fun e s' px=>hE e s' (px.up e1 st1.rep)
end
section
variable {prog:Program} {w:World} {G:Gl} {S:Stat} {K:Frag} {base:Heap}
variable {T:NT} {A:Around} {env:Env} {fr:List Env} {ρ:Loc} {μ μ' μ'' μ₀:AA→Addr} {D D':AA→Prop} {H H' H'' H₀:AH} {s s' s'' s₀:Shared} {X:AV→AH→Prop} {call:Callee} {h h':Heap} {E:Value→Shared→Prop}
theorem callWithB_ok {id:String} {first:List Value} {es:List PySem.Expr} {ms:List ME} {pos:Pos} {Q:List AV→AH→Prop} {P:Value→Shared→Prop} (hs:es.all notStar=true) (hl:es.length=ms.length) (h1:SL prog w S base T A env fr call es ms) (st:St prog w base T env fr ρ μ H s)
 (h:ewps S call X ms ρ Q H) (q:∀vs s' μ' H' as,Ext fr μ H s μ' H' s'→St prog w base T env fr ρ μ' H' s'→VRs μ' (Dm H') s'.heap as vs→Q as H'→wpAny (model prog w) A (PySem.call (.builtin id) (first++vs)) P E s')
 (hE:∀e s',PX prog w S base fr μ H s X e s'→E e s'):wpAny (model prog w) A (callWith pos (.builtin id) first (backTo pos (starEach es env)) []) P E s:=by
 refine kf fun kG=>?_;induction es using List.casesOn with
 |nil =>
  induction ms using List.casesOn with
  |cons _ _ =>
   simp at hl
  |nil =>
   refine kG ?_; clear kG;exact Calls.callWith_builtin rfl (evalArgs_nil3 (q [] s μ H [] (.refl ..) st .nil h))
 |cons e r =>
  have hs':=hs;simp only[List.all_cons,Bool.and_eq_true] at hs;refine kG ?_; clear kG;refine Calls.callWith_builtin (plain_trees hs' pos) ?_;have:=h1 pos ρ μ H s _ X (fun vs s1=>wpAny (model prog w) A (PySem.call (.builtin id) (first++vs)) P E s1) _ st h (fun vs s1 μ1 H1 as e1 st1 x1 l1 k1=>q vs s1 μ1 H1 as e1 st1 x1 k1) hE;rw[star_cons hs.1] at this ⊢;exact evalArgs_plain this
theorem all_plain:∀{es:List PySem.Expr},es.all notStar=true→(pos:Pos)→(backTo pos (starEach es env)).all (fun x=>!x.1)=true
 |[],_,_=>rfl
 |e::r,h,pos=>by
  simp only[List.all_cons,Bool.and_eq_true] at h;rw[star_cons h.1,List.all_cons,all_plain h.2 pos]; rfl
theorem meth_open {o:PySem.Expr} {name:Str} {apos pos:Pos} {es:List PySem.Expr} {P:Value→Shared→Prop} (hn:noSuper o=true) (hline:(apos.endLine==pos.line)=true) (hfew:es.length<20) (hs:es.all notStar=true)
 (h:wpAny (model prog w) A (eval o env) (fun ov s1=>wpAny (model prog w) A (getMethod ov name (do return (←importBound o env).getD true)) (fun fl s2=>wpAny (model prog w) A (callWith pos fl.1 fl.2 (backTo pos (starEach es env)) []) P E s2) E s1) E s) :
 wpAny (model prog w) A (eval (.Call (.Attribute o name apos) es [] pos) env) P E s:=by
 refine rwE (arm_eval_Call ..) ?_; refine rwE (attrBase hn ..) ?_;refine wpAny_bind (wpAny_mono h (fun ov s1 h1=>wpAny_bind (wpAny_standAt ?_)) fun _ _ z=>z);have hform:methodCallForm (es.length+([]:List Keyword).length) (backTo pos (starEach es env)) (backToKw pos (keywordEach [] env))=true:=by
  dsimp only[methodCallForm];refine rwE (all_plain hs pos) ?_;simp[backToKw,show keywordEach ([]:List Keyword) env=[] from rfl]
  lia
 have hpos:methodCallPos true o env apos pos=pure pos:=by unfold methodCallPos; simp[hline]
 dsimp only[methodCall];refine rwE hform ?_;refine wpAny_bind (wpAny_holding (wpAny_mono (t:=calleeOf true o env ov name) h1 (fun fl s2 h2=>?_) fun _ _ z=>z));exact wpAny_bind (wpAny_of_eq hpos h2)
theorem nm_append:nmS nAppend=Str.ofString "append":=by decide +kernel
theorem nm_pop:nmS nPop=Str.ofString "pop":=by decide +kernel
theorem nm_get:nmS nGet=Str.ofString "get":=by decide +kernel
theorem isl_noDict {b:Addr} {l:Array Value} {n:Nat} (hL:IsL s.heap b l n):∀a,Value.ref b = .ref a→∃o,s.heap.get? a=some o∧o.dict=none:=fun a e=>by cases e; exact⟨_,hL,rfl⟩
theorem dictOf_noDict {K2:Type} [DecidableEq K2] {knd:PySem.KeyKind prog w K2} {b:Addr} {kvs:List (K2×Value)} (hD:s.heap.DictOf knd b kvs):∀a,Value.ref b = .ref a→∃o,s.heap.get? a=some o∧o.dict=none:=hD.mapOf.noDict
theorem getMethod_ok (g:Ground0 prog w G S K base) (st:St prog w base T env fr ρ μ H s) {a:AV} {u:Value} (x:VR μ (Dm H) s.heap a u) {n:Nat} {k:MK} (e:methOf S H a n=some k) {pl:Sem Bool} {Q:Value×List Value→Shared→Prop}
 (q:Q (match k with|.app=>.builtin "list.append" |.pop=>.builtin "list.pop" |.get=>.builtin "dict.get" |.fn f=>.ref f,[u]) s):wpAny (model prog w) A (getMethod u (nmS n) pl) Q E s:=by
 refine methOf_I e ?_ ?_ ?_ ?_ ?_ ?_
 ·intro l ho hn e'; subst e' hn;revert q; refine objOf_I g st.rep x ho fun b o hb q=>o.listI fun _ _ hL hv=>?_;refine rwE nm_append ?_;exact getMethod_builtin (T:="list") ⟨_,hL,rfl⟩ F.plainAttrs_list F.slot_list_append F.type_list_append (isl_noDict hL) q
 ·intro l ho hn e'; subst e' hn;revert q; refine objOf_I g st.rep x ho fun b o hb q=>o.listI fun _ _ hL hv=>?_;refine rwE nm_pop ?_;exact getMethod_builtin (T:="list") ⟨_,hL,rfl⟩ F.plainAttrs_list F.slot_list_pop F.type_list_pop (isl_noDict hL) q
 ·intro C d l f ho hd hg hf e'; subst e';revert q; refine objOf_I g st.rep x ho fun b o hb q=>?_
  ··refine o.instI fun h1 h2=>(st.rep.obj _ _ hd).nsI fun _ _ h3 h4=>?_;refine E06 (g.meth C n f hf) fun p1 p2 p3 p4 p5 p6=>?_;refine (h4.get p6).elim (fun z=>have k2:=z.2; ?_) fun z=>E23 z fun _ _ k1 _ _=>(noS (hg.symm.trans k1)).elim
    ·exact method_fn (g.inn.keeps st.rep.stay) (inst_at h1 h3) (plainGet_of p1).1 (plainGet_of p1).2 p3 (beq_iff_eq.mp p4) (by show (lookIn (nmS n) (dictOf _ _)).map _=_; rw[lookIn_dict,k2]; rfl) q
 ·intro l ho hn e'; subst e' hn
  ·revert q; refine objOf_I g st.rep x ho fun b o hb q=>?_;refine o.sdI fun _ hD hc hk hv=>?_;refine rwE nm_get ?_;exact getMethod_builtin (T:="dict") hD.typeIs F.plainAttrs_dict F.slot_dict_get F.type_dict_get (dictOf_noDict hD) q
 ·intro l ho hn e'; subst e' hn
  ·revert q; refine objOf_I g st.rep x ho fun b o hb q=>?_;refine o.idI fun _ hD hk hv=>?_;refine rwE nm_get ?_;exact getMethod_builtin (T:="dict") hD.typeIs F.plainAttrs_dict F.slot_dict_get F.type_dict_get (dictOf_noDict hD) q
 ·intro l ho hn e'; subst e' hn
  ·revert q; refine objOf_I g st.rep x ho fun b o hb q=>?_;refine o.tdI fun _ hD hk hv=>?_;refine rwE nm_get ?_;exact getMethod_builtin (T:="dict") hD.typeIs F.plainAttrs_dict F.slot_dict_get F.type_dict_get (dictOfH_noDict hD) q
theorem dget_ok (g:Ground0 prog w G S K base) (st:St prog w base T env fr ρ μ H s) (hu:A.units+200<cLine) {a k d r:AV} {u vk vd:Value} (x:VR μ (Dm H) s.heap a u) (y:VR μ (Dm H) s.heap k vk) (z:VR μ (Dm H) s.heap d vd) (e:getD (objOf S H a) k d=some r)
 {Q:Value→Shared→Prop} (q:∀v tk,VR μ (Dm H) s.heap r v→Q v { s with toks:=tk }):wpAny (model prog w) A (PySem.call (.builtin "dict.get") [u,vk,vd]) Q E s:=by
 refine getD_I e ?_ ?_ ?_<;>clear e
 ·intro l i ho ek e; subst ek;refine objOf_I g st.rep x ho fun b o hb=>?_;refine kf fun kG=>?_;refine o.sdI fun _ hD hc hk hv=>?_;subst e;refine kG ?_; clear kG;refine call_meetsIn F.slot_dict_get hD.typeIs F.entry_dict_get (F.args_dict_get_3 _ _ _) (meets_dict_get_default (sk prog w) b (str_key y) (not_sysm hb) vd) ⟨_,hD.mapOf,?_⟩;refine kf fun kG=>?_;refine pairs_lk strOf (fun _ _=>strOf_inj) i hk hv (fun h1 h2=>?_) fun a' v' h1 h2 h3=>?_
  ·refine kG ?_; clear kG;refine rwE h2 ?_;exact q _ _ (by rw[h1]; exact z)
  ·refine kG ?_; clear kG;refine rwE h2 ?_;exact q _ _ (by rw[h1]; exact h3)
 ·intro l i ho ek e; subst ek;refine objOf_I g st.rep x ho fun b o hb=>?_;refine kf fun kG=>?_;refine o.idI fun _ hD hk hv=>?_;subst e;refine kG ?_; clear kG;refine call_meetsIn F.slot_dict_get hD.typeIs F.entry_dict_get (F.args_dict_get_3 _ _ _) (meets_dict_get_default (ik prog w) b (int_key y) (not_sysm hb) vd) ⟨_,hD.mapOf,?_⟩;refine kf fun kG=>?_;refine pairs_lk id (fun _ _ z=>z) i hk hv (fun h1 h2=>?_) fun a' v' h1 h2 h3=>?_
  ·simp only[id] at h2;refine kG ?_; clear kG;refine rwE h2 ?_;exact q _ _ (by rw[h1]; exact z)
  ·simp only[id] at h2;refine kG ?_; clear kG;refine rwE h2 ?_;exact q _ _ (by rw[h1]; exact h3)
 ·intro l kt ho hkt eq2; subst eq2;refine objOf_I g st.rep x ho fun b o hb=>?_;refine (vr_tkI y hkt) fun c eq1 ha=>?_; subst eq1;refine o.tdI fun _ hD hk hv=>?_;refine call_meetsIn F.slot_dict_get hD.typeIs F.entry_dict_get (F.args_dict_get_3 _ _ _) (meetsH_dict_get_default (tkKind prog w) b c (not_sysm hb) vd) ⟨by show A.units+1+64<cLine; lia,kt,_,ha,hD,?_⟩;refine kf fun kG=>?_;refine pairs_lkH kt hk hv (fun h1 h2=>?_) fun a' v' h1 h2 h3=>?_
  ·refine kG ?_; clear kG;refine rwE h2 ?_;exact q _ _ (by rw[h1]; exact z)
  ·refine kG ?_; clear kG;refine rwE h2 ?_;exact q _ _ (by rw[h1]; exact h3)
theorem dget1_ok (g:Ground0 prog w G S K base) (st:St prog w base T env fr ρ μ H s) (hu:A.units+200<cLine) {a k r:AV} {u vk:Value} (x:VR μ (Dm H) s.heap a u) (y:VR μ (Dm H) s.heap k vk) (e:getD (objOf S H a) k .none=some r)
 {Q:Value→Shared→Prop} (q:∀v tk,VR μ (Dm H) s.heap r v→Q v { s with toks:=tk }):wpAny (model prog w) A (PySem.call (.builtin "dict.get") [u,vk]) Q E s:=by
 refine getD_I e ?_ ?_ ?_<;>clear e
 ·intro l i ho ek e; subst ek;refine objOf_I g st.rep x ho fun b o hb=>?_;refine kf fun kG=>?_;refine o.sdI fun _ hD hc hk hv=>?_;subst e;refine kG ?_; clear kG;refine call_meetsIn F.slot_dict_get hD.typeIs F.entry_dict_get (F.args_dict_get_2 _ _) (meets_dict_get (sk prog w) b (str_key y) (not_sysm hb)) ⟨_,hD.mapOf,?_⟩;refine kf fun kG=>?_;refine pairs_lk strOf (fun _ _=>strOf_inj) i hk hv (fun h1 h2=>?_) fun a' v' h1 h2 h3=>?_
  ·refine kG ?_; clear kG;refine rwE h2 ?_;exact q _ _ (by rw[h1]; exact .none)
  ·refine kG ?_; clear kG;refine rwE h2 ?_;exact q _ _ (by rw[h1]; exact h3)
 ·intro l i ho ek e; subst ek;refine objOf_I g st.rep x ho fun b o hb=>?_;refine kf fun kG=>?_;refine o.idI fun _ hD hk hv=>?_;subst e;refine kG ?_; clear kG;refine call_meetsIn F.slot_dict_get hD.typeIs F.entry_dict_get (F.args_dict_get_2 _ _) (meets_dict_get (ik prog w) b (int_key y) (not_sysm hb)) ⟨_,hD.mapOf,?_⟩;refine kf fun kG=>?_;refine pairs_lk id (fun _ _ z=>z) i hk hv (fun h1 h2=>?_) fun a' v' h1 h2 h3=>?_
  ·simp only[id] at h2;refine kG ?_; clear kG;refine rwE h2 ?_;exact q _ _ (by rw[h1]; exact .none)
  ·simp only[id] at h2;refine kG ?_; clear kG;refine rwE h2 ?_;exact q _ _ (by rw[h1]; exact h3)
 ·intro l kt ho hkt eq2; subst eq2;refine objOf_I g st.rep x ho fun b o hb=>?_;refine (vr_tkI y hkt) fun c eq1 ha=>?_; subst eq1;refine o.tdI fun _ hD hk hv=>?_;refine call_meetsIn F.slot_dict_get hD.typeIs F.entry_dict_get (F.args_dict_get_2 _ _) (meetsH_dict_get (tkKind prog w) b c (not_sysm hb)) ⟨by show A.units+1+64<cLine; lia,kt,_,ha,hD,?_⟩;refine kf fun kG=>?_;refine pairs_lkH kt hk hv (fun h1 h2=>?_) fun a' v' h1 h2 h3=>?_
  ·refine kG ?_; clear kG;refine rwE h2 ?_;exact q _ _ (by rw[h1]; exact .none)
  ·refine kG ?_; clear kG;refine rwE h2 ?_;exact q _ _ (by rw[h1]; exact h3)
theorem pop_sz {ws:List Value}:(ws.toArray.eraseIdxIfInBounds (ws.toArray.size - 1))=(ws.dropLast).toArray:=by
 apply Array.ext'
 simp only[List.eraseIdxIfInBounds_toArray,List.size_toArray];refine rwE List.eraseIdx_length_sub_one ?_; rfl
theorem dl_ok {D:AA→Prop} {l:List AV} {ws:List Value} (hlen:l.length=ws.length) (hv:VRs μ D h l ws):VRs μ D h l.dropLast ws.dropLast:=by
 have:=hv.take (l.length - 1);refine rwE List.dropLast_eq_take ?_; refine rwE List.dropLast_eq_take ?_; refine rwS hlen ?_;exact this
theorem se_meth {o:PySem.Expr} {m:ME} {x:Str} {n:Nat} {es:List PySem.Expr} {ms:List ME} {ap pos:Pos} (F:Fix T A env fr) (g:Ground0 prog w G S K base) (hu:A.units+200<cLine) (c:CallsOk prog w S base A fr call) (hn:noSuper o=true) (hx:nameNo x=some n) (hline:(ap.endLine==pos.line)=true)
 (hfew:es.length<20) (hs:es.all notStar=true) (hl:es.length=ms.length) (h0:SE prog w S base T A env fr call o m) (h1:SL prog w S base T A env fr call es ms):SE prog w S base T A env fr call (.Call (.Attribute o x ap) es [] pos) (.meth m n ms):=by
 intro ρ μ H s Q X P E st h q hE;obtain⟨rfl,hlt⟩:=nameNo_some hx;refine meth_open hn hline hfew hs (h0 ρ μ H s _ X _ _ st h (fun v s1 μ1 H1 a e1 st1 x1 k1=>?_) hE);refine oK_I k1 fun k hk k2=>?_;refine getMethod_ok g st1 x1 hk ?_;have hE1:∀e s',PX prog w S base fr μ1 H1 s1 X e s'→E e s':=fun e s' px=>hE e s' (px.up e1 st1.rep);induction k using MK.casesOn with
 |fn f =>
  have kp:keepIn K (.ref f)=true:=by
   exact methOf_I hk (fun _ _ _=>MK.noConfusion) (fun _ _ _=>MK.noConfusion) (fun _ _ _ f' _ _ _ hf e=>by cases e; exact (g.meth _ _ _ hf).2.2.2.2.1) (fun _ _ _=>MK.noConfusion) (fun _ _ _=>MK.noConfusion) fun _ _ _=>MK.noConfusion
  refine callWith_ok g kp hs hl h1 st1 k2 (fun vs s2 μ2 H2 as e2 st2 x2 k3=>?_) hE1;have e12:=e1.trans e2 st1.rep;refine wpAny_call (c.here f _ _ μ2 H2 s2 _ _ st2.rep st2.frs (.cons (e2.vr st1.rep x1) x2) k3 (fun v s3 μ3 H3 b e3 r3 x3 k4=>?_) fun e s3 μ3 H3 y e3 r3 fl k4=>?_)
  ·exact q _ _ _ _ _ (e12.trans e3 st2.rep) (st2.ext e3 r3) x3 k4
  ·exact hE _ _ ⟨μ3,H3,y,e12.trans e3 st2.rep,r3,fl.up (e12.away st2.rep),k4⟩
 |app =>
  refine callWithB_ok hs hl h1 st1 k2 (fun vs s2 μ2 H2 as e2 st2 x2 k3=>?_) hE1;refine appQ_I k3 fun b y l ea eb hl' hz k4=>?_;subst ea eb;refine x2.consI fun vy _ x2a x2b=>x2b.nilI ?_;refine (e2.vr st1.rep x1).refI fun db=>?_;refine (st2.rep.obj _ _ hl').listI fun ws kk hL hv=>?_;have hlen:=hv.length;refine append_at (its:=ws.toArray) (n:=kk) hL (fun h' hs' hg'=>?_) (by refine rwE sizeLine_eq ?_; simp; lia);have tk:TupKeep s2.heap h':=fun c p e k _=>⟨p.slots,(hs'.2 c fun z=>st2.rep.notTup e k ⟨b,db,z.symm⟩).trans e⟩;obtain⟨r,ee⟩:=st2.rep.put (o:=.list (l++[y])) (s':={ s2 with heap:=h' }) db hs' (.list (n:=kk+1) (vs:=ws++[vy]) (by simpa using hg') (VRs.mono (fun c hc=>⟨(upd_dm db c).mpr hc,rfl⟩) tk (hv.append (.cons x2a .nil)))) rfl ⟨rfl,rfl⟩;exact q _ _ _ _ _ ((e1.trans e2 st1.rep).trans ee st2.rep) (st2.ext ee r) .none k4
 |pop =>
  refine callWithB_ok hs hl h1 st1 k2 (fun vs s2 μ2 H2 as e2 st2 x2 k3=>?_) hE1;refine popQ_I k3 fun b l y ea eb hl' hz hy k5=>?_;subst ea eb;refine x2.nilI ?_;refine (e2.vr st1.rep x1).refI fun db=>?_;refine (st2.rep.obj _ _ hl').listI fun ws kk hL hv=>?_;have hlen:=hv.length;rw[List.getLast?_eq_getElem?] at hy;refine E12 (hv.get hy) fun vy hvy ry=>?_;have hu':=IsL.update hL (fun xs=>xs.eraseIdxIfInBounds (ws.toArray.size - 1));refine call_meets PySem.F.slot_list_pop ⟨_,hL,rfl⟩ PySem.F.entry_list_pop (PySem.F.args_list_pop_1 _) (PySem.MeetsSeq.list_pop_last (μ2 b) ws.toArray kk vy (by simpa [hlen] using hvy) (by refine rwE sizeLine_eq ?_; simp; lia)) ⟨hL,?_⟩;have hs':=Heap.SameBut.update s2.heap (μ2 b) (Obj.mapSeq fun xs=>xs.eraseIdxIfInBounds (ws.toArray.size - 1));have tk:TupKeep s2.heap (s2.heap.update (μ2 b) (Obj.mapSeq fun xs=>xs.eraseIdxIfInBounds (ws.toArray.size - 1))):=fun c p e k _=>⟨p.slots,(hs'.2 c fun z=>st2.rep.notTup e k ⟨b,db,z.symm⟩).trans e⟩;obtain⟨r,ee⟩:=st2.rep.put (o:=.list l.dropLast) (s':={ s2 with heap:=s2.heap.update (μ2 b) (Obj.mapSeq fun xs=>xs.eraseIdxIfInBounds (ws.toArray.size - 1)) }) db hs' (.list (vs:=ws.dropLast) (by refine rwS pop_sz ?_; exact hu') (VRs.mono (fun c hc=>⟨(upd_dm db c).mpr hc,rfl⟩) tk (dl_ok hlen hv))) rfl ⟨rfl,rfl⟩;exact q _ _ _ _ _ ((e1.trans e2 st1.rep).trans ee st2.rep) (st2.ext ee r) (ee.vr st2.rep ry) k5
 |get =>
  refine callWithB_ok hs hl h1 st1 k2 (fun vs s2 μ2 H2 as e2 st2 x2 k3=>?_) hE1;have e12:=e1.trans e2 st1.rep;have y1:=e2.vr st1.rep x1;refine getQ_I k3 (fun k r eb hr k4=>?_) (fun k d r eb hr k4=>?_)
  ·subst eb;refine x2.consI fun _ _ x2a x2b=>x2b.nilI ?_;exact dget1_ok g st2 hu y1 x2a hr fun v tk x3=>q _ _ _ _ _ (e12.trans st2.rep.same st2.rep) (st2.toks tk) x3 k4
  ·subst eb;refine x2.consI fun _ _ x2a x2b=>x2b.consI fun _ _ x2c x2d=>x2d.nilI ?_;exact dget_ok g st2 hu y1 x2a x2c hr fun v tk x3=>q _ _ _ _ _ (e12.trans st2.rep.same st2.rep) (st2.toks tk) x3 k4
end
structure ExtL (L:Addr) (fr:List Env) (μ:AA→Addr) (H:AH) (s:Shared) (μ':AA→Addr) (H':AH) (s':Shared):Prop where
 old:∀a,H a≠none→H' a≠none∧μ' a=μ a
 fresh:∀a,H' a≠none→H a=none→s.heap.get? (μ' a)=none
 keep:∀b o,b≠L→s.heap.get? b=some o→¬Img μ H b→(b ∉ Lsf fr→s'.heap.get? b=some o)∧∃sl,s'.heap.get? b=some { o with slots:=sl }
 rest:s'.gens=s.gens∧s'.os=s.os
inductive Raisd (C:Addr) (h0:Heap) (μ:AA→Addr) (H:AH) (h:Heap) (e:Value) (x:AV):Prop
 |mk (ea:Addr) (oe:Obj) (vs:Array Value) (Dd:Addr) (_:e = .ref ea) (_:h.get? ea=some oe) (_:oe.cls = .ref C) (_:oe.dict=some Dd) (_:oe.data = .fields vs) (_:vs[1]? = some .none) (_:h0.get? ea=none) (_:Bears h0 μ H h Dd x)
theorem Raisd.up {C:Addr} {h0 h1:Heap} {μ:AA→Addr} {H:AH} {h:Heap} {e:Value} {x:AV} (k:∀b,h1.get? b=none→h0.get? b=none) (y:Raisd C h1 μ H h e x):Raisd C h0 μ H h e x:=by
 obtain⟨ea,oe,vs,Dd,h1,h2,h3,h4,h5,h6,h7,h8⟩:=y;exact⟨ea,oe,vs,Dd,h1,h2,h3,h4,h5,h6,k _ h7,k _ h8.1,h8.2⟩
theorem ExtL.away {L:Addr} {fr:List Env} {μ μ':AA→Addr} {H H':AH} {s s':Shared} {prog:Program} {w:World} {base:Heap} (e:ExtL L fr μ H s μ' H' s') (r:Rep prog w base fr μ' H' s'.heap) (hL:∃o,s'.heap.get? L=some o):∀b,s'.heap.get? b=none→s.heap.get? b=none:=fun b hb=>by
 cases z:s.heap.get? b with
 |none=>rfl
 |some o =>
  by_cases im:Img μ H b
  ·refine E12 im fun c hc ec=>?_;obtain⟨h1,e1⟩:=e.old c hc;refine E12 (r.there c h1) fun ob e' _=>?_;rw[e1,ec,hb] at e'; exact (noS e').elim
  ·by_cases hl:b=L
   ·obtain⟨o',e'⟩:=hL;rw[←hl,hb] at e'; exact (noS e').elim
   ·obtain⟨_,sl,e'⟩:=e.keep _ o hl z im;rw[hb] at e'; exact (noS e').elim
section
variable {prog:Program} {w:World} {G:Gl} {S:Stat} {K:Frag} {base:Heap}
variable {T:NT} {A:Around} {env:Env} {fr:List Env} {ρ ρ':Loc} {μ μ' μ'' μ₀:AA→Addr} {D D':AA→Prop} {H H' H'' H₀:AH} {s s' s'' s₀:Shared} {call:Callee} {h h':Heap} {E:Value→Shared→Prop} {L:Addr}
theorem Ext.toL (x:Ext fr μ H s μ' H' s'):ExtL L fr μ H s μ' H' s':=⟨x.old,x.fresh,fun b o _ e n=>x.keep b o e n,x.rest⟩
theorem ExtL.notImg (x:ExtL L fr μ H s μ' H' s') {b:Addr} {o:Obj} (e:s.heap.get? b=some o) (n:¬Img μ H b):¬Img μ' H' b:=by
 rintro ⟨a,ha,rfl⟩
 by_cases q:H a=none
 ·rw[x.fresh a ha q] at e; exact (noS e).elim
 ·exact n ⟨a,q,(x.old a q).2.symm⟩
theorem ExtL.trans (x:ExtL L fr μ H s μ' H' s') (y:ExtL L fr μ' H' s' μ'' H'' s'') (r:Rep prog w base fr μ' H' s'.heap) (hL:∃o,s'.heap.get? L=some o) (nL:¬Img μ H L) (hLs:∃o,s.heap.get? L=some o):ExtL L fr μ H s μ'' H'' s'':=by
 refine⟨fun a ha=>?_,fun a ha hn=>?_,fun b o hb e n=>?_,y.rest.1.trans x.rest.1,y.rest.2.trans x.rest.2⟩
 ·obtain⟨h1,e1⟩:=x.old a ha;obtain⟨h2,e2⟩:=y.old a h1;exact⟨h2,e2.trans e1⟩
 ·by_cases q:H' a=none
  ·exact x.away r hL _ (y.fresh a ha q)
  ·refine rwE ((y.old a q).2) ?_; exact x.fresh a q hn
 ·obtain⟨k1,sl1,e1⟩:=x.keep b o hb e n;have n':=x.notImg e n;obtain⟨k2,sl2,e2⟩:=y.keep b _ hb e1 n';exact⟨fun hb'=>(y.keep b o hb (k1 hb') n').1 hb',sl2,e2⟩
structure Own (env:Env):Prop where
 frame:env.frame=some env.locals
 kind:env.scope.kind = .function
theorem Own.cond (o:Own env):(env.scope.kind==.class||(env.scope.kind==.module&&env.locals != env.globals))=false:=by (refine rwE o.kind ?_); rfl
theorem St.lob (st:St prog w base T env fr ρ μ H s):∃o,s.heap.get? env.locals=some o:=by
 obtain⟨m,⟨o,_,_,ho,_⟩,_⟩:=st.lo.loc; exact⟨o,ho⟩
theorem ExtL.go (x:ExtL env.locals fr μ H s μ' H' s') (y:Ext fr μ' H' s' μ'' H'' s'') (st:St prog w base T env fr ρ μ H s) (st':St prog w base T env fr ρ' μ' H' s'):ExtL env.locals fr μ H s μ'' H'' s'' :=
 x.trans y.toL st'.rep st'.lob st.lo.apart st.lob
theorem ExtL.go2 (x:ExtL env.locals fr μ H s μ' H' s') (y:ExtL env.locals fr μ' H' s' μ'' H'' s'') (st:St prog w base T env fr ρ μ H s) (st':St prog w base T env fr ρ' μ' H' s'):ExtL env.locals fr μ H s μ'' H'' s'' :=
 x.trans y st'.rep st'.lob st.lo.apart st.lob
theorem frames_store {d:Addr} (hs:Heap.SameBut d h h') (hd:∃o,h'.get? d=some o∧∀vs,o.data≠.fields vs):∀{l:List Env},h.FunFrames base l→h'.FunFrames base l:=fun {_} =>
 frames_go fun L o _ ho hdt=>by
  by_cases z:L=d
  ·subst z; exact hd
  ·exact⟨o,(hs.2 L z).trans ho,hdt⟩
theorem store_ok' {A₁:Around} (F:Fix T A env fr) (o:Own env) (st:St prog w base T env fr ρ μ H s) {x:Str} {i:Nat} (hx:T.lookup x=some (.loc i)) {a:AV} {v:Value} (y:VR μ (Dm H) s.heap a v) {Q:Unit→Shared→Prop}
 (q:∀s',ExtL env.locals fr μ H s μ H s'→St prog w base T env fr (setL ρ i a) μ H s'→(∀b u,VR μ (Dm H) s.heap b u→VR μ (Dm H) s'.heap b u)→Q () s'):wpAny (model prog w) A₁ (storeName env x v) Q E s:=by
 obtain⟨⟨m,hn,hl⟩,hc,ha⟩:=st.lo;have hn0:=hn;refine E33 hn0 fun oL es ep hoL hdL _=>?_;refine E22 F.fst fun e0 r hfr hf0=>?_;have hLf:env.locals∈Lsf fr:=List.mem_filterMap.mpr ⟨e0,by rw[hfr]; exact .head _,by refine rwS hf0 ?_; exact o.frame⟩;have hbL:=(st.frs.mem hLf).1;refine wpAny_storeName_local (F.loc x i hx) hn (fun h' hn' hs=>?_) o.cond;have tk:TupKeep s.heap h':=tupKeep_dict hoL hdL hs;have vr:∀b u,VR μ (Dm H) s.heap b u→VR μ (Dm H) h' b u:=fun b u z=>z.mono (fun _ d=>⟨d,rfl⟩) tk;refine q { s with heap:=h',toks:=s.toks+1 } ⟨fun a ha=>⟨ha,rfl⟩,fun a ha hn=>absurd hn ha,fun b p hb e _=>?_,rfl,rfl⟩ ⟨⟨st.rep.inj,fun b p hb=>?_,st.rep.new,st.rep.ap,fun b p e=>?_⟩,?_,⟨⟨_,hn',?_⟩,?_,ha⟩⟩ vr
 ·have:=(hs.2 b hb).trans e;exact⟨fun _=>this,p.slots,this⟩
 ·exact (st.rep.obj b p hb).mono (fun c hc=>⟨hc,rfl⟩) tk (hs.2 _ fun z=>ha ⟨b,by refine rwE hb ?_; simp,z⟩)
 ·exact (hs.2 b fun z=>by rw[z,hbL] at e; exact (noS e).elim).trans (st.rep.stay b p e)
 ·refine E33 hn' fun o' es' ep' ho' hd' _=>?_;exact frames_store hs ⟨o',ho',fun vs q=>by rw[hd'] at q; cases q⟩ st.frs
 ·intro y' j v' h1 h2;by_cases e:y'=x
  ·subst e;have:j=i:=by rw[hx] at h1; cases h1; rfl
   subst this;have:v'=a:=by simp[setL] at h2; exact h2.symm
   subst this;exact⟨v,by simp,vr _ _ y⟩
  ·have hij:j≠i:=fun z=>e (F.uniq y' x j (.inl h1) (.inl (z▸hx)));have h2':ρ j=some v':=by simpa [setL,hij] using h2
   refine E12 (hl y' j v' h1 h2') fun u e1 e2=>?_;exact⟨u,by simp[e,e1],vr _ _ e2⟩
 ·intro y' j v' h1 h2;have hij:j≠i:=fun z=>by
   have:=F.uniq y' x j (.inr h1) (.inl (z▸hx));subst this;rw[hx] at h1; cases h1
  have h2':ρ j=some v':=by simpa [setL,hij] using h2
  obtain⟨c,u,e1,⟨oc,e2,e2'⟩,e3⟩:=hc y' j v' h1 h2';refine⟨c,u,e1,⟨oc,(hs.2 c fun z=>?_).trans e2,e2'⟩,vr _ _ e3⟩;rw[z,hoL] at e2; obtain rfl:=Option.some.inj e2;rw[hdL] at e2'; cases e2'
end
section
variable {prog:Program} {w:World} {G:Gl} {S:Stat} {K:Frag} {base:Heap}
variable {T:NT} {A:Around} {env:Env} {fr:List Env} {ρ ρ':Loc} {μ μ' μ'' μ₀:AA→Addr} {D D':AA→Prop} {H H' H'' H₀:AH} {s s' s'' s₀:Shared} {call:Callee} {h h':Heap} {E:Value→Shared→Prop} {L:Addr}
structure Ends (prog:Program) (w:World) (S:Stat) (base:Heap) (T:NT) (env:Env) (fr:List Env) (μ:AA→Addr) (H:AH) (s:Shared) (X Y:Loc→AV→AH→Prop) (N:Loc→AH→Prop) (R:AV→AH→Prop) (P:Flow→Shared→Prop) (E:Value→Shared→Prop):Prop where
 next:∀s' μ' H' ρ',ExtL env.locals fr μ H s μ' H' s'→St prog w base T env fr ρ' μ' H' s'→N ρ' H'→P .next s'
 ret:∀v s' μ' H' a ρ',ExtL env.locals fr μ H s μ' H' s'→St prog w base T env fr ρ' μ' H' s'→VR μ' (Dm H') s'.heap a v→R a H'→P (.ret v) s'
 fly:∀e s' μ' H' ρ' x,ExtL env.locals fr μ H s μ' H' s'→St prog w base T env fr ρ' μ' H' s'→Flys S.unheld s.heap μ' H' s'.heap e x→X ρ' x H'→E e s'
 here:∀e s' μ' H' ρ' x,ExtL env.locals fr μ H s μ' H' s'→St prog w base T env fr ρ' μ' H' s'→Raisd S.unheld s.heap μ' H' s'.heap e x→Y ρ' x H'→E e s'
noncomputable def SS (prog:Program) (w:World) (S:Stat) (base:Heap) (T:NT) (A:Around) (env:Env) (fr:List Env) (call:Callee) (st:PySem.Stmt) (m:MS):Prop :=
 ∀ρ μ H s X Y N R P E,St prog w base T env fr ρ μ H s→swp S call m X Y ρ N R H→Ends prog w S base T env fr μ H s X Y N R P E→wpAny (model prog w) A (exec st env) P E s
noncomputable def SSs (prog:Program) (w:World) (S:Stat) (base:Heap) (T:NT) (A:Around) (env:Env) (fr:List Env) (call:Callee) (st:List PySem.Stmt) (m:List MS):Prop :=
 ∀ρ μ H s X Y N R P E,St prog w base T env fr ρ μ H s→swps S call m X Y ρ N R H→Ends prog w S base T env fr μ H s X Y N R P E→wpAny (model prog w) A (execs st env) P E s
theorem ExtL.refl (L:Addr) (fr:List Env) (μ:AA→Addr) (H:AH) (s:Shared):ExtL L fr μ H s μ H s:=(Ext.refl fr μ H s).toL
variable {X Y:Loc→AV→AH→Prop} {N:Loc→AH→Prop} {R:AV→AH→Prop} {P:Flow→Shared→Prop}
theorem Ends.px (k:Ends prog w S base T env fr μ H s X Y N R P E) (st:St prog w base T env fr ρ μ H s):∀e s',PX prog w S base fr μ H s (X ρ) e s'→E e s':=fun e s' p=>by
 cases p with|mk μ' H' x e1 r f h=>exact k.fly e s' μ' H' ρ x e1.toL (st.ext e1 r) f h
theorem Ends.on (k:Ends prog w S base T env fr μ H s X Y N R P E) (st:St prog w base T env fr ρ μ H s) (e:ExtL env.locals fr μ H s μ' H' s') (st':St prog w base T env fr ρ' μ' H' s'):Ends prog w S base T env fr μ' H' s' X Y N R P E where
 next:=fun s2 μ2 H2 ρ2 e2 st2 h=>k.next s2 μ2 H2 ρ2 (e.go2 e2 st st') st2 h
 ret:=fun v s2 μ2 H2 a ρ2 e2 st2 x h=>k.ret v s2 μ2 H2 a ρ2 (e.go2 e2 st st') st2 x h
 fly:=fun x s2 μ2 H2 ρ2 y e2 st2 f h=>k.fly x s2 μ2 H2 ρ2 y (e.go2 e2 st st') st2 (f.up (e.away st'.rep st'.lob)) h
 here:=fun x s2 μ2 H2 ρ2 y e2 st2 f h=>k.here x s2 μ2 H2 ρ2 y (e.go2 e2 st st') st2 (f.up (e.away st'.rep st'.lob)) h
theorem Ends.pxs (k:Ends prog w S base T env fr μ H s X Y N R P E) (st:St prog w base T env fr ρ μ H s) (e:ExtL env.locals fr μ H s μ' H' s') (st':St prog w base T env fr ρ' μ' H' s'):∀e s2,PX prog w S base fr μ' H' s' (X ρ') e s2→E e s2 :=
 (k.on st e st').px st'
theorem sss_nil:SSs prog w S base T A env fr call [] []:=fun ρ μ H s X Y N R P E st h k=>by
 exact wpAny_execs_nil (k.next s μ H ρ (.refl ..) st h)
theorem sss_cons {a:PySem.Stmt} {m:MS} {l:List PySem.Stmt} {ms:List MS} (h1:SS prog w S base T A env fr call a m) (h2:SSs prog w S base T A env fr call l ms):SSs prog w S base T A env fr call (a::l) (m::ms):=by
 intro ρ μ H s X Y N R P E st h k;exact wpAny_execs_cons (h1 ρ μ H s X Y _ R _ E st h
  ⟨fun s1 μ1 H1 ρ1 e1 st1 k1=>h2 ρ1 μ1 H1 s1 X Y N R P E st1 k1 (k.on st e1 st1),k.ret,k.fly,k.here⟩)
theorem ss_pass {pos:Pos}:SS prog w S base T A env fr call (.Pass pos) .pass:=fun ρ μ H s X Y N R P E st h k=>by
 exact wpAny_Pass (k.next s μ H ρ (.refl ..) st h)
theorem ss_ret {e:PySem.Expr} {m:ME} {pos:Pos} (h1:SE prog w S base T A env fr call e m):SS prog w S base T A env fr call (.Return (some e) pos) (.ret m):=fun ρ μ H s X Y N R P E st h k=>by
 exact wpAny_Return_some (h1 ρ μ H s R (X ρ) _ E st h (fun v s1 μ1 H1 a e1 st1 x1 k1=>k.ret v s1 μ1 H1 a ρ e1.toL st1 x1 k1) (k.px st))
theorem ss_ret0 {pos:Pos}:SS prog w S base T A env fr call (.Return none pos) (.ret (.val .none)):=fun ρ μ H s X Y N R P E st h k=>by
 refine (?_:wpAny (model prog w) A (exec (.Return none pos) env) P E s);exact fun _ _ _=>k.ret .none s μ H .none ρ (.refl ..) st .none h
theorem noswap {e:PySem.Expr} (h:noComp e=true) (t:Option PySem.Expr) (n:Nat):swapsWith e t n env=pure false:=by
 cases e<;>first|rfl|exact (noB h).elim
theorem noInter (o:Own env):interactive env=false:=by unfold interactive; rw[o.kind]; rfl
theorem ss_expr {e:PySem.Expr} {m:ME} {pos:Pos} (o:Own env) (hn:noComp e=true) (h1:SE prog w S base T A env fr call e m):SS prog w S base T A env fr call (.Expr e pos) (.expr m):=fun ρ μ H s X Y N R P E st h k=>by
 exact wpAny_Expr_any (h1 ρ μ H s _ (X ρ) _ E st h (fun v s1 μ1 H1 a e1 st1 x1 k1=>k.next s1 μ1 H1 ρ e1.toL st1 k1) (k.px st)) (noInter o) (noswap hn _ _)
theorem ss_if {c:PySem.Expr} {mc:ME} {a b:List PySem.Stmt} {ma mb:List MS} {pos:Pos} (h1:SC prog w S base T A env fr call c mc) (h2:SSs prog w S base T A env fr call a ma) (h3:SSs prog w S base T A env fr call b mb) :
 SS prog w S base T A env fr call (.If c a b pos) (.ife mc ma mb):=fun ρ μ H s X Y N R P E st h k=>by
 refine wpAny_If (h1 ρ μ H s _ (X ρ) _ E st h (fun t s1 μ1 H1 e1 st1 k1=>?_) (k.px st));induction t using Bool.casesOn with
 |true=>exact h2 ρ μ1 H1 s1 X Y N R P E st1 k1 (k.on st e1.toL st1)
 |false=>exact h3 ρ μ1 H1 s1 X Y N R P E st1 k1 (k.on st e1.toL st1)
theorem locNo_some {x:Str} {i:Nat} (e:Internal.locNo T x=some i):T.lookup x=some (.loc i):=by
 unfold Internal.locNo at e;revert e;induction T.lookup x using Option.casesOn with
 |none=>exact fun e=>(noS e).elim
 |some o=>induction o using Sl.casesOn with
  |loc j=>exact fun e=>congrArg (some ∘ Sl.loc) (Option.some.inj e)
  |_=>exact fun e=>(noS e).elim
theorem ss_name {e:PySem.Expr} {m:ME} {x:Str} {i:Nat} {p pos:Pos} (F:Fix T A env fr) (o:Own env) (hn:noComp e=true) (hx:Internal.locNo T x=some i) (h1:SE prog w S base T A env fr call e m):SS prog w S base T A env fr call (.Assign [.Name x p] e pos) (.asg (.loc i) m):=fun ρ μ H s X Y N R P E st h k=>by
 refine wpAny_Assign_Name (h1 ρ μ H s _ (X ρ) _ E st h (fun v s1 μ1 H1 a e1 st1 x1 k1=>?_) (k.px st)) (noswap hn _ _);exact store_ok' F o st1 (locNo_some hx) x1 fun s2 e2 st2 _=>k.next s2 μ1 H1 _ (e1.toL.go2 e2 st st1) st2 k1
theorem ss_attr {e ob:PySem.Expr} {m mo:ME} {x:Str} {n:Nat} {p pos:Pos} (g:Ground0 prog w G S K base) (hn:noComp e=true) (hx:nameNo x=some n) (h1:SE prog w S base T A env fr call e m) (h2:SE prog w S base T A env fr call ob mo) :
 SS prog w S base T A env fr call (.Assign [.Attribute ob x p] e pos) (.asg (.attr mo n) m):=fun ρ μ H s X Y N R P E st h k=>by
 obtain⟨rfl,hl⟩:=nameNo_some hx;refine plainObj_wpAny_Assign_Attribute (h1 ρ μ H s _ (X ρ) _ E st h (fun v s1 μ1 H1 a e1 st1 x1 k1=>?_) (k.px st)) (noswap hn _ _);refine h2 ρ μ1 H1 s1 _ (X ρ) _ E st1 k1 (fun vo s2 μ2 H2 ao e2 st2 x2 k2=>?_) (k.pxs st e1.toL st1);exact setAttr_ok g st2 x2 (e2.vr st1.rep x1) k2 fun s3 μ3 H3 e3 st3 k3=>k.next s3 μ3 H3 ρ ((e1.trans e2 st1.rep).trans e3 st2.rep).toL st3 k3
theorem setItem_ok (hu:A.units+200<cLine) (st:St prog w base T env fr ρ μ H s) {a b c:AV} {u v z:Value} (x:VR μ (Dm H) s.heap a u) (y:VR μ (Dm H) s.heap b v) (xz:VR μ (Dm H) s.heap c z) {N:AH→Prop} (e:setI H a b c N) {Q:Unit→Shared→Prop}
 (q:∀s' μ' H',Ext fr μ H s μ' H' s'→St prog w base T env fr ρ μ' H' s'→N H'→Q () s'):wpAny (model prog w) A (setItem u v z) Q E s:=by
 refine refP (f:=fun a=>setO H a (H a) b c N) e ?_;clear e
 ·intro r ea e;subst ea;refine x.refI fun dr=>?_;have dm:∀(o:AO) c,upd H r o c≠none↔H c≠none:=fun o=>upd_dm dr;have fin:∀(o:AO) (h':Heap) (tk:Nat),Heap.SameBut (μ r) s.heap h'→(TupKeep s.heap h'→OR prog w μ (Dm (upd H r o)) h' o (μ r))→N (upd H r o)→Q () { s with heap:=h',toks:=tk }:=fun o h' tk hs hq hN=>by
   have htk:TupKeep s.heap h':=fun c p e k _=>⟨p.slots,(hs.2 c fun z=>st.rep.notTup e k ⟨r,dr,z.symm⟩).trans e⟩;obtain⟨rr,ee⟩:=st.rep.put (o:=o) (s':={ s with heap:=h',toks:=tk }) dr hs (hq htk) rfl ⟨rfl,rfl⟩;exact q _ _ _ ee (st.ext ee rr) hN
  refine setO_I e ?_ ?_ ?_ ?_<;>clear e
  ·intro l i hr ek h0 h1 h2 hN; subst ek;refine y.intI fun t=>(st.rep.obj _ _ hr).listI fun vs n hL hv=>?_;have hlen:=hv.length;refine ki_setAt hL h0 (by lia) (by simp; lia) ?_;refine fin (.list (l.set i.toNat c)) _ s.toks (Heap.SameBut.update ..) (fun htk=>?_) hN;have hu':=IsL.update hL (·.setIfInBounds i.toNat z);exact .list (vs:=vs.set i.toNat z) (by simpa using hu') (VRs.mono (fun c hc=>⟨(dm _ c).mpr hc,rfl⟩) htk (hv.set i.toNat xz))
  ·intro l i hr ek hz hN; subst ek;refine (st.rep.obj _ _ hr).sdI fun kvs hD hc hk hv=>?_;have hlen:kvs.length=l.length:=by have:=congrArg List.length hk; simpa using this
   have hi:∀c∈i,c<1114112:=y.strI fun _ e1=>e1;refine wpAny_setItem_pairs (str_key y) hD (fun h' hD' hs=>?_) (by refine rwE sizeLine_eq ?_; lia);refine fin (.sd (stq l i c)) h' _ hs (fun htk=>?_) hN;have pr:=Prs.mono (fun d hd=>⟨(dm (.sd (stq l i c)) d).mpr hd,rfl⟩) htk (stq_rel strOf (fun _ _=>strOf_inj) i xz ⟨hk,hv⟩);refine .sd hD' (fun p hp=>?_) pr.1 pr.2;rcases stq_mem hp with z|⟨q',hq',z⟩
   ·refine rwE z ?_; exact hi
   ·refine rwS z ?_; exact hc q' hq'
  ·intro l i hr ek hz hN; subst ek;refine (st.rep.obj _ _ hr).idI fun kvs hD hk hv=>?_;have hlen:kvs.length=l.length:=by have:=congrArg List.length hk; simpa using this
   refine wpAny_setItem_pairs (int_key y) hD (fun h' hD' hs=>?_) (by refine rwE sizeLine_eq ?_; lia);refine fin (.id (stq l i c)) h' _ hs (fun htk=>?_) hN;have pr:=Prs.mono (fun d hd=>⟨(dm (.id (stq l i c)) d).mpr hd,rfl⟩) htk (stq_rel id (fun _ _ z=>z) i xz ⟨hk,hv⟩);exact .id hD' pr.1 pr.2
  ·intro l kt hr hkt hz hN;refine (vr_tkI y hkt) fun ca eq1 ha=>?_; subst eq1;refine (st.rep.obj _ _ hr).tdI fun xs hD hk hv=>?_;have hlen:xs.length=l.length:=by have:=congrArg List.length hk; simpa using this
   refine wpAny_setItem_heap (knd:=tkKind prog w) (by show A.units+1+64<cLine; lia) ha hD (fun h' hD' hs=>?_) (by refine rwE sizeLine_eq ?_; lia);refine fin (.td (stq l kt c)) h' _ hs (fun htk=>?_) hN;have pr:=PrsH.mono (fun d hd=>⟨(dm (.td (stq l kt c)) d).mpr hd,rfl⟩) htk (stq_relH (c:=ca) kt xz ⟨hk,hv⟩);exact .td hD' pr.1 pr.2
theorem ss_sub {e ob ix:PySem.Expr} {m mo mi:ME} {p pos:Pos} (hu:A.units+200<cLine) (hn:noComp e=true) (h1:SE prog w S base T A env fr call e m) (h2:SE prog w S base T A env fr call ob mo) (h3:SE prog w S base T A env fr call ix mi) :
 SS prog w S base T A env fr call (.Assign [.Subscript ob ix p] e pos) (.asg (.sub mo mi) m):=fun ρ μ H s X Y N R P E st h k=>by
 refine wpAny_Assign_Subscript (h1 ρ μ H s _ (X ρ) _ E st h (fun v s1 μ1 H1 a e1 st1 x1 k1=>?_) (k.px st)) (noswap hn _ _);refine h2 ρ μ1 H1 s1 _ (X ρ) _ E st1 k1 (fun vo s2 μ2 H2 ao e2 st2 x2 k2=>?_) (k.pxs st e1.toL st1);have e12:=e1.trans e2 st1.rep;refine h3 ρ μ2 H2 s2 _ (X ρ) _ E st2 k2 (fun vi s3 μ3 H3 ai e3 st3 x3 k3=>?_) (k.pxs st e12.toL st2);have e123:=e12.trans e3 st2.rep;exact setItem_ok hu st3 (e3.vr st2.rep x2) x3 ((e2.trans e3 st2.rep).vr st1.rep x1) k3 fun s4 μ4 H4 e4 st4 k4=>k.next s4 μ4 H4 ρ (e123.trans e4 st3.rep).toL st4 k4
end
section
variable {prog:Program} {w:World} {G:Gl} {S:Stat} {K:Frag} {base:Heap}
variable {T:NT} {A:Around} {env:Env} {fr:List Env} {ρ ρ' ρ₁:Loc} {μ μ' μ'' μ₀:AA→Addr} {D D':AA→Prop} {H H' H'' H₀:AH} {s s' s'' s₀:Shared} {call:Callee} {h h':Heap} {E:Value→Shared→Prop} {L:Addr}
variable {X Y:Loc→AV→AH→Prop} {N:Loc→AH→Prop} {R:AV→AH→Prop} {P:Flow→Shared→Prop}
theorem side {n:Addr} {on:Obj} (st:St prog w base T env fr ρ μ H s) (e:ExtL env.locals fr μ H s μ' H' s') (st':St prog w base T env fr ρ' μ' H' s') (hn0:s.heap.get? n=none) (hn:s'.heap.get? n=some on) (hd:∃vs,on.data = .fields vs)
 (hk:∀b o,b≠n→s'.heap.get? b=some o→s''.heap.get? b=some o) (gr:s''.gens=s'.gens∧s''.os=s'.os):ExtL env.locals fr μ H s μ' H' s''∧St prog w base T env fr ρ' μ' H' s'':=by
 refine kf fun kG=>?_;obtain⟨fs,hd⟩:=hd;have tk:TupKeep s'.heap s''.heap:=fun b o e c ⟨vs,k,q⟩=>⟨o.slots,hk b o (fun z=>by subst z; rw[hn] at e; obtain rfl:=Option.some.inj e; rw[hd] at q; cases q) e⟩;refine kG ?_; clear kG;have nr:∀b,H' b≠none→μ' b≠n:=fun b hb z=>by
  refine kf fun kG=>?_;refine E14 (st'.rep.there b hb) fun ob e' _ nf _=>?_;rw[z,hn] at e';obtain rfl:=Option.some.inj e';refine kG ?_; clear kG;exact nf _ hd
 have hb:base.get? n=none:=nk (fun _ z=>st.rep.stay _ _ z) hn0;refine kf fun kG=>?_;obtain⟨⟨m,hns,hl⟩,hc,ha⟩:=st'.lo;refine kG ?_; clear kG;have hL:env.locals≠n:=fun z=>by
  refine E33 hns fun o es ep ho hdt _=>?_;rw[z,hn] at ho;obtain rfl:=Option.some.inj ho;rw[hd] at hdt;cases hdt
 refine⟨⟨e.old,e.fresh,fun b o hbL eb nb=>?_,gr.1.trans e.rest.1,gr.2.trans e.rest.2⟩,⟨⟨st'.rep.inj,fun b p hb'=>?_,st'.rep.new,st'.rep.ap,fun b p eb=>?_⟩,?_,⟨⟨m,?_,fun x i v h1 h2=>?_⟩,fun x i v h1 h2=>?_,ha⟩⟩⟩
 ·refine kf fun kG=>?_;obtain⟨k1,sl,k2⟩:=e.keep b o hbL eb nb;have hbn:b≠n:=fun z=>by rw[z,hn0] at eb; exact (noS eb).elim
  refine kG ?_; clear kG;exact⟨fun q=>hk b _ hbn (k1 q),sl,hk b _ hbn k2⟩
 ·have hne:H' b≠none:=by refine rwE hb' ?_; simp
  refine E12 (st'.rep.there b hne) fun ob e' _=>?_;exact (st'.rep.obj b p hb').mono (fun c hc=>⟨hc,rfl⟩) tk ((hk _ _ (nr b hne) e').trans e'.symm)
 ·exact hk b p (fun z=>by rw[z,hb] at eb; exact (noS eb).elim) (st'.rep.stay b p eb)
 ·refine st'.frs.of_keeps fun b o eb nf=>⟨o,hk b o (fun z=>by subst z; rw[hn] at eb; obtain rfl:=Option.some.inj eb; exact nf _ hd) eb,rfl⟩
 ·refine E32 hns fun o es ep ho r=>?_;exact⟨o,es,ep,hk _ _ hL ho,r⟩
 ·refine E12 (hl x i v h1 h2) fun u e1 e2=>?_;exact⟨u,e1,e2.mono (fun _ d=>⟨d,rfl⟩) tk⟩
 ·refine kf fun kG=>?_;obtain⟨c,u,e1,⟨oc,e2,e2'⟩,e3⟩:=hc x i v h1 h2;refine kG ?_; clear kG;exact⟨c,u,e1,⟨oc,hk c oc (fun z=>by subst z; rw[hn] at e2; obtain rfl:=Option.some.inj e2; rw[hd] at e2'; cases e2') e2,e2'⟩,e3.mono (fun _ d=>⟨d,rfl⟩) tk⟩
theorem rec_kept (st:St prog w base T env fr ρ μ H s) (e:ExtL env.locals fr μ H s μ' H' s') {n:Addr} {on:Obj} (hn:s.heap.get? n=some on) (hd:∃vs,on.data = .fields vs):s'.heap.get? n=some on:=by
 obtain⟨fs,hd⟩:=hd;have h1:¬Img μ H n:=fun⟨a,ha,z⟩=>by
  refine E14 (st.rep.there a ha) fun ob e' _ nf _=>?_;rw[z,hn] at e'; obtain rfl:=Option.some.inj e'; exact nf _ hd
 have h2:n ∉ Lsf fr:=fun hm=>by
  obtain⟨_,o,ho,nf⟩:=st.frs.mem hm;rw[hn] at ho; obtain rfl:=Option.some.inj ho; exact nf _ hd
 have h3:n≠env.locals:=fun z=>by
  obtain⟨m,⟨o,es,ep,ho,hdt,_⟩,_⟩:=st.lo.loc;rw[←z,hn] at ho; obtain rfl:=Option.some.inj ho; rw[hd] at hdt; cases hdt
 exact (e.keep n on h3 hn h1).1 h2
theorem ExtL.tup (e:ExtL env.locals fr μ H s μ' H' s') (st:St prog w base T env fr ρ μ H s):TupKeep s.heap s'.heap:=fun b o eb c ⟨vs,k,q⟩=>by
 refine (e.keep b o (fun z=>?_) eb (st.rep.notTup eb c)).2;obtain⟨m,⟨o',es,ep,ho,hdt,_⟩,_⟩:=st.lo.loc;rw[←z,eb] at ho; obtain rfl:=Option.some.inj ho; rw[q] at hdt; cases hdt
structure Iter (prog:Program) (w:World) (A:Around) (E:Value→Shared→Prop) (it:Addr) (J:(AA→Addr)→(AA→Prop)→Shared→List AV→Prop):Prop where
 next:∀{μ D s a r} {Q:Option Value→Shared→Prop},J μ D s (a::r)→(∀v s',(∀b o,b≠it→s.heap.get? b=some o→s'.heap.get? b=some o)→s'.gens=s.gens∧s'.os=s.os→VR μ D s'.heap a v→J μ D s' r→Q (some v) s')→wpAny (model prog w) A (pyNext (.ref it)) Q E s
 stop:∀{μ D s} {Q:Option Value→Shared→Prop},J μ D s []→(∀s',(∀b o,b≠it→s.heap.get? b=some o→s'.heap.get? b=some o)→s'.gens=s.gens∧s'.os=s.os→Q none s')→wpAny (model prog w) A (pyNext (.ref it)) Q E s
 there:∀{μ D s l},J μ D s l→∃o,s.heap.get? it=some o∧∃vs,o.data = .fields vs
 keep:∀{μ D s l μ' D' s'},J μ D s l→(∀a,D a→D' a∧μ' a=μ a)→TupKeep s.heap s'.heap→(∀o,s.heap.get? it=some o→s'.heap.get? it=some o)→J μ' D' s' l
theorem for_ok {x:Str} {px:Pos} {i:Nat} {body:List PySem.Stmt} {ms:List MS} {it:Addr} {J:(AA→Addr)→(AA→Prop)→Shared→List AV→Prop} {l:List AV} {R':Result→Shared→Prop} (F:Fix T A env fr) (o:Own env) (hx:Internal.locNo T x=some i)
 (hb:SSs prog w S base T A env fr call body ms) (I:Iter prog w A (notedBy (model prog w) A env fun e s'=>R' (.error e) s') it J) (st:St prog w base T env fr ρ μ H s) (hit:s.heap.get? it=none)
 (e:ExtL env.locals fr μ H s μ' H' s') (st':St prog w base T env fr ρ μ' H' s') (j:J μ' (Dm H') s' l)
 (hgo:List.foldr (fun v k ρ=>swps S call ms (fun _ _ _=>False) (fun _ _ _=>False) (setL ρ i v) k R) N l ρ H')
 (hN:∀s' μ' H' ρ',ExtL env.locals fr μ H s μ' H' s'→St prog w base T env fr ρ' μ' H' s'→N ρ' H'→R' (.ok .next) s')
 (hR:∀v s' μ' H' a ρ',ExtL env.locals fr μ H s μ' H' s'→St prog w base T env fr ρ' μ' H' s'→VR μ' (Dm H') s'.heap a v→R a H'→R' (.ok (.ret v)) s') :
 codeAny (model prog w) A (.forLoop (.Name x px) (.ref it) body [] env) R' s':=by
 obtain⟨KI,hKI⟩:∃KI:Nat→Shared→Prop,∀n s1,KI n s1↔(∃μ1 H1 ρ1 rest,rest.length=n∧ExtL env.locals fr μ H s μ1 H1 s1∧St prog w base T env fr ρ1 μ1 H1 s1∧J μ1 (Dm H1) s1 rest ∧
  List.foldr (fun v k ρ=>swps S call ms (fun _ _ _=>False) (fun _ _ _=>False) (setL ρ i v) k R) N rest ρ1 H1):=⟨_,fun _ _=>.rfl⟩
 refine codeAny_forLoop KI (fun n s1 hI=>?_) l.length ((hKI _ _).mpr ⟨μ',H',ρ,l,rfl,e,st',j,hgo⟩) (fun _=>rfl);refine E45 ((hKI _ _).mp hI) fun μ1 H1 ρ1 rest eq4 e1 st1 j1 hg1=>?_; subst eq4;refine kf fun kG=>?_;refine E12 (I.there j1) fun on hon hdn=>?_;induction rest using List.casesOn with
 |nil =>
  refine kG ?_; clear kG;refine I.stop j1 fun s2 hk gr=>?_;refine kf fun kG=>?_;obtain⟨e2,st2⟩:=side st e1 st1 hit hon hdn hk gr;refine kG ?_; clear kG;exact wpAny_execs_nil (hN s2 μ1 H1 ρ1 e2 st2 hg1)
 |cons a r =>
  refine kG ?_; clear kG;refine I.next j1 fun v s2 hk gr xv j2=>?_;refine kf fun kG=>?_;obtain⟨e2,st2⟩:=side st e1 st1 hit hon hdn hk gr;refine E12 (I.there j2) fun on2 hon2 hdn2=>?_;refine kG ?_; clear kG;show wpAny _ _ (standAt px >>= fun _=>bindName env x v) _ _ _
  refine wpAny_bind (wpAny_standAt (wpAny_bindName (store_ok' F o st2 (locNo_some hx) xv fun s3 e3 st3 _=>?_)));have e23:=e2.go2 e3 st st2;have j3:=I.keep (s':=s3) j2 (fun a d=>⟨d,rfl⟩) (e3.tup st2) (fun o ho=>by rw[hon2] at ho; obtain rfl:=Option.some.inj ho; exact rec_kept st2 e3 hon2 hdn2);refine hb _ μ1 H1 s3 _ _ _ R _ _ st3 hg1 ⟨fun s4 μ4 H4 ρ4 e4 st4 k4=>?_,fun v' s4 μ4 H4 a' ρ4 e4 st4 x4 k4=>?_,fun _ _ _ _ _ _ _ _ _ f=>f.elim,fun _ _ _ _ _ _ _ _ _ f=>f.elim⟩
  ·refine E12 (I.there j3) fun on3 hon3 hdn3=>?_;refine⟨r.length,Nat.lt_succ_self _,(hKI _ _).mpr ⟨μ4,H4,ρ4,r,rfl,e23.go2 e4 st st3,st4,I.keep j3 e4.old (e4.tup st3) (fun o ho=>by rw[hon3] at ho; obtain rfl:=Option.some.inj ho; exact rec_kept st3 e4 hon3 hdn3),k4⟩⟩
  ·exact hR _ _ _ _ _ _ (e23.go2 e4 st st3) st4 x4 k4
theorem iter_tup (hh:A.handled=none) {it t:Addr}:Iter prog w A E it (fun μ D s l=>∃i items,IsTupIter s.heap it t i∧IsTup s.heap t items∧VRs μ D s.heap l (items.toList.drop i)) where
 next:=fun {μ D s a r Q} hh q=>by
  refine E23 hh fun i items h1 h2 h3=>?_;have hlen:=h3.length;have hlt:i<items.size:=by simp at hlen; lia
  have hx:items[i]? = some items[i]:=Array.getElem?_eq_getElem hlt;have hdrop:items.toList.drop i=items[i]::items.toList.drop (i+1):=by
   refine rwE (List.drop_eq_getElem_cons (by simpa using hlt)) ?_; simp
  rw[hdrop] at h3;cases h3 with
  |cons p q' =>
   have h1':=h1;refine E13 h1' fun oi hi1 hi2 hi3=>?_;refine next_tuple_item h1 h2 hx fun h' hit hs=>?_;have tk:TupKeep s.heap h':=fun b o e c ⟨vs,k,z⟩=>⟨o.slots,(hs.2 b fun y=>by subst y; rw[hi1] at e; obtain rfl:=Option.some.inj e; rw[hi3] at z; cases z).trans e⟩;refine q _ { s with heap:=h' } (fun b o nb e=>(hs.2 b nb).trans e) ⟨rfl,rfl⟩ (p.mono (fun _ d=>⟨d,rfl⟩) tk) ⟨i+1,items,hit,?_,VRs.mono (fun _ d=>⟨d,rfl⟩) tk q'⟩;obtain⟨o,ho,hc,n,hd⟩:=h2;obtain⟨sl,e⟩:=tk t o ho hc ⟨_,_,hd⟩;exact⟨_,e,hc,n,hd⟩
 stop:=fun {μ D s Q} g q=>by
  refine E23 g fun i items h1 h2 h3=>?_;have hlen:=h3.length;have hx:items[i]? = none:=by rw[Array.getElem?_eq_none]; simp at hlen; lia
  exact next_tuple_end hh h1 h2 hx fun h' hs=>q { s with heap:=h' } (fun b o nb e=>hs b o nb e) ⟨rfl,rfl⟩
 there:=fun g=>E23 g fun i items h _ _=>E13 h fun o h1 _ h3=>⟨o,h1,_,h3⟩
 keep:=fun {μ D s l μ' D' s'} g k tk hk=>E23 g fun i items h f v=>E13 h fun o h1 h2 h3=>by
  obtain⟨ot,g1,g2,n,g3⟩:=f;obtain⟨sl,e⟩:=tk t ot g1 g2 ⟨_,_,g3⟩;exact⟨i,items,⟨o,hk o h1,h2,h3⟩,⟨_,e,g2,n,g3⟩,VRs.mono k tk v⟩
theorem rangeL_nil {a n:Int} (h:n≤a):rangeL a n=[]:=by
 unfold rangeL;have:(n - a).toNat=0:=by lia
 rw[this]; rfl
theorem rangeL_cons {a n:Int} (h:a<n):rangeL a n = .int a::rangeL (a+1) n:=by
 unfold rangeL;have:(n - a).toNat=(n - (a+1)).toNat+1:=by lia
 refine rwE this ?_; refine rwE List.range_succ_eq_map ?_; refine rwE List.map_cons ?_; refine rwE List.map_map ?_;congr 1
 ·simp
 ·apply List.map_congr_left
  intro k _;simp; lia
theorem iter_range (hh:A.handled=none) {it:Addr} {n:Int}:Iter prog w A E it (fun μ D s l=>∃x,IsRangeIter s.heap it x (n - x) 1∧l=rangeL x n) where
 next:=fun {μ D s a r Q} ⟨x,h1,h2⟩ q=>by
  have hlt:x<n:=by
   by_cases z:x<n
   ·exact z
   ·rw[rangeL_nil (by lia)] at h2; cases h2
  rw[rangeL_cons hlt] at h2;cases h2;refine wpAny_pyNext_range_item h1 (by lia) fun h' hit hs=>q _ { s with heap:=h',toks:=s.toks+1 } (fun b o nb e=>(hs.2 b nb).trans e) ⟨rfl,rfl⟩ (.int _ _) ⟨x+1,?_,rfl⟩;refine rwE (show n - (x+1)=n - x - 1 from by lia) ?_; exact hit
 stop:=fun {μ D s Q} ⟨x,h1,h2⟩ q=>by
  have hle:n≤x:=by
   by_cases z:x<n
   ·rw[rangeL_cons z] at h2; cases h2
   ·lia
  exact wpAny_pyNext_range_end hh h1 (by lia) fun h' hs=>q { s with heap:=h' } (fun b o nb e=>hs b o nb e) ⟨rfl,rfl⟩
 there:=fun⟨x,h1,_⟩=>⟨_,h1,_,rfl⟩
 keep:=fun⟨x,h1,h2⟩ _ _ hk=>⟨x,hk _ h1,h2⟩
theorem noFold {e:PySem.Expr} (h:noSet e=true) (x:Value):foldedSetIterable e env x=pure x:=by
 cases e<;>first|rfl|exact (noB h).elim
theorem swp_for {S:Stat} {call:Callee} {i:Nat} {im:ME} {ms:List MS} {X Y:Loc→AV→AH→Prop} {ρ:Loc} {N:Loc→AH→Prop} {R:AV→AH→Prop} {H:AH} (him:∀l,im≠.range l):swp S call (.forr i im ms) X Y ρ N R H =
 ewp S call (X ρ) im ρ (fun v H=>oK (itemsF S H v) fun l=>List.foldr (fun v (k:Loc→AH→Prop) ρ=>swps S call ms (fun _ _ _=>False) (fun _ _ _=>False) (setL ρ i v) k R) N l ρ H) H:=by
 induction im using ME.casesOn<;>first|rfl|exact absurd rfl (him _)
theorem ss_for {x:Str} {px pos:Pos} {i:Nat} {ie:PySem.Expr} {im:ME} {body:List PySem.Stmt} {ms:List MS} (F:Fix T A env fr) (g:Ground0 prog w G S K base) (o:Own env) (hx:Internal.locNo T x=some i) (hs:noSet ie=true) (him:∀l,im≠.range l)
 (h1:SE prog w S base T A env fr call ie im) (hb:SSs prog w S base T A env fr call body ms):SS prog w S base T A env fr call (.For (.Name x px) ie body [] pos) (.forr i im ms):=fun ρ μ H s X Y N R P E st h k=>by
 have h':ewp S call (X ρ) im ρ (fun v H=>oK (itemsF S H v) fun l=>List.foldr (fun v k ρ=>swps S call ms (fun _ _ _=>False) (fun _ _ _=>False) (setL ρ i v) k R) N l ρ H) H:=by
  rw[swp_for him] at h; exact h
 refine wpAny_For (h1 ρ μ H s _ (X ρ) _ E st h' (fun v s1 μ1 H1 a e1 st1 x1 k1=>?_) (k.px st)) (noFold hs);refine kf fun kG=>?_;refine oK_I k1 fun l hl k2=>?_;refine kG ?_; clear kG;refine tupS hl ?_ ?_<;>clear hl
 ·intro l' ea hl;obtain rfl:=Option.some.inj hl;subst ea;refine x1.tupI fun b ob vs n y1 y2 y3 y4 y5=>?_;have ht:IsTup s1.heap b vs:=⟨ob,y1,y2,n,y3⟩;refine iter_tuple ht ?_;refine kf fun kG=>?_;obtain⟨r,e2⟩:=st1.rep.more (s':={ s1 with heap:=s1.heap.push { cls:=.type "tuple_iterator",data:=.fields #[.ref b,.int 0 0] } }) (fun b p e=>Heap.get?_push_of_some _ e) ⟨rfl,rfl⟩
  have st2:=st1.ext e2 r;have e12:=e1.trans e2 st1.rep;refine kG ?_; clear kG;refine for_ok (J:=fun μ D s l=>∃i items,IsTupIter s.heap s1.heap.objs.size b i∧IsTup s.heap b items∧VRs μ D s.heap l (items.toList.drop i)) F o hx hb (iter_tup F.hand) st1 (get_size _) e2.toL st2 ⟨0,vs,⟨_,Heap.get?_push_size _ rfl,rfl,rfl⟩,ht.keeps fun b p e=>Heap.get?_push_of_some _ e,by simpa using e2.vrs st1.rep y5⟩ k2 (fun s3 μ3 H3 ρ3 e3 st3 k3=>?_) fun v s3 μ3 H3 a3 ρ3 e3 st3 x3 k3=>?_
  ·exact k.next _ _ _ _ (e1.toL.go2 e3 st st1) st3 k3
  ·exact k.ret _ _ _ _ _ _ (e1.toL.go2 e3 st st1) st3 x3 k3
 ·intro _ hl
  ·refine lstS hl fun l' ho hl=>?_;have el:l'=[]∧l=[]:=by
    match l',hl with
    |[],hl=>exact⟨rfl,(Option.some.inj hl).symm⟩
   obtain⟨rfl,rfl⟩:=el;refine objOf_I g st1.rep x1 ho fun b oo hbs=>?_;refine kf fun kG=>?_;refine oo.listI fun vs n hL hv=>?_;cases hv;refine kG ?_; clear kG;refine wpAny_pyIter_list ⟨_,hL,rfl,n,rfl⟩ ?_;refine kf fun kG=>?_;obtain⟨r,e2⟩:=st1.rep.more (s':={ s1 with heap:=s1.heap.push { cls:=.type "list_iterator",data:=.fields #[.ref b,.int 0 0] } }) (fun b p e=>Heap.get?_push_of_some _ e) ⟨rfl,rfl⟩
   have st2:=st1.ext e2 r;have hni:s1.heap.get? s1.heap.objs.size=none:=get_size _;refine kG ?_; clear kG;refine codeAny_forLoop (fun n s2=>s2 = { s1 with heap:=s1.heap.push { cls:=.type "list_iterator",data:=.fields #[.ref b,.int 0 0] } }) (fun n s2 hI=>?_) 0 rfl (fun _=>rfl)
   subst hI;have hit:(s1.heap.push { cls:=.type "list_iterator",data:=.fields #[.ref b,.int 0 0] }).IsListIter s1.heap.objs.size b 0:=⟨_,Heap.get?_push_size _ rfl,rfl,rfl⟩
   refine wpAny_pyNext_list_end (items:=[].toArray) F.hand hit ⟨_,Heap.get?_push_of_some _ hL,rfl,_,rfl⟩ rfl fun h' hs'=>?_;refine kf fun kG=>?_;obtain⟨e3,st3⟩:=side (s'':={ s1 with heap:=h' }) st1 e2.toL st2 hni (Heap.get?_push_size _ rfl) ⟨_,rfl⟩ (fun b o nb e=>hs' b o nb e) ⟨rfl,rfl⟩;refine kG ?_; clear kG;exact wpAny_execs_nil (k.next _ _ _ _ (e1.toL.go2 e3 st st1) st3 k2)
end
section
variable {prog:Program} {w:World} {G:Gl} {S:Stat} {K:Frag} {base:Heap}
variable {T:NT} {A:Around} {env:Env} {fr:List Env} {ρ ρ' ρ₁:Loc} {μ μ' μ'' μ₀:AA→Addr} {D D':AA→Prop} {H H' H'' H₀:AH} {s s' s'' s₀:Shared} {call:Callee} {h h':Heap} {E:Value→Shared→Prop} {L:Addr}
variable {X Y:Loc→AV→AH→Prop} {N:Loc→AH→Prop} {R:AV→AH→Prop} {P:Flow→Shared→Prop}
theorem small_ok {a n:Int} (h1:-1000000≤a) (h2:a≤n) (h3:n≤1000000):Builtin.Range.small a n 1=true∧Builtin.Range.rangeSize a n 1=n - a:=by
 have e:Builtin.Range.rangeSize a n 1=n - a:=by
  unfold Builtin.Range.rangeSize;refine rwE (if_pos (by decide)) ?_;by_cases z:a<n
  ·refine rwE (if_pos z ..) ?_; refine rwE (Int.ediv_one ..) ?_; lia
  ·refine rwE (if_neg z) ?_; lia
 refine⟨?_,e⟩;unfold Builtin.Range.small;refine rwE e ?_;simp only[Builtin.Range.rangeFitsLong,Bool.and_eq_true,decide_eq_true_eq,Bool.or_eq_true];refine⟨⟨⟨⟨⟨by lia,by lia⟩,⟨by lia,by lia⟩⟩,⟨by lia,by lia⟩⟩,⟨by lia,by lia⟩⟩,.inr ?_⟩;simp; lia
theorem small_neg {a n:Int} (h1:-1000000≤a) (h2:n<a) (h3:n≤1000000) (h4:a≤2000000) (h5:-4000000≤n):Builtin.Range.small a n 1=true∧Builtin.Range.rangeSize a n 1=0:=by
 have e:Builtin.Range.rangeSize a n 1=0:=by
  unfold Builtin.Range.rangeSize;refine rwE (if_pos (by decide)) ?_; refine rwE (if_neg (by lia)) ?_; rfl
 refine⟨?_,e⟩;unfold Builtin.Range.small;refine rwE e ?_;simp only[Builtin.Range.rangeFitsLong,Bool.and_eq_true,decide_eq_true_eq,Bool.or_eq_true];refine⟨⟨⟨⟨⟨by lia,by lia⟩,⟨by lia,by lia⟩⟩,⟨by decide,by decide⟩⟩,⟨by decide,by decide⟩⟩,.inl rfl⟩
theorem range_ok {x:Str} {px:Pos} {i:Nat} {body:List PySem.Stmt} {ms:List MS} (F:Fix T A env fr) (o:Own env) (hx:Internal.locNo T x=some i) (hb:SSs prog w S base T A env fr call body ms)
 (st:St prog w base T env fr ρ μ H s) (k:Ends prog w S base T env fr μ H s X Y N R P E) {s1:Shared} {μ1:AA→Addr} {H1:AH} (e1:ExtL env.locals fr μ H s μ1 H1 s1) (st1:St prog w base T env fr ρ μ1 H1 s1) {a n:Int} {r:Addr} {t u v:Tok} (hr:PySem.IsRange s1.heap r a n 1 t u v)
 (h1:-1000000≤a) (h2:a≤n) (h3:n≤1000000) (hgo:List.foldr (fun v k ρ=>swps S call ms (fun _ _ _=>False) (fun _ _ _=>False) (setL ρ i v) k R) N (rangeL a n) ρ H1) :
 wpAny (model prog w) A (pyIter (.ref r)) (fun it s₂=>codeAny (model prog w) A (Code.forLoop (.Name x px) it body [] env) (fun r s'=>match r with|.ok f=>P f s'|.error e=>cameBackBy (model prog w) A env E e s') s₂) E s1:=by
 obtain⟨sm,sz⟩:=small_ok h1 h2 h3;refine wpAny_pyIter_range hr sm ?_;refine rwE sz ?_;obtain⟨rr,e2⟩:=st1.rep.more (s':={ s1 with heap:=s1.heap.push { cls:=.type "range_iterator",data:=.fields #[rawInt a,rawInt (n - a),rawInt 1] } }) (fun b p e=>Heap.get?_push_of_some _ e) ⟨rfl,rfl⟩
 have st2:=st1.ext e2 rr;refine for_ok (J:=fun μ D s l=>∃x,PySem.IsRangeIter s.heap s1.heap.objs.size x (n - x) 1∧l=rangeL x n) F o hx hb (iter_range F.hand) st1 (get_size _) e2.toL st2 ⟨a,Heap.get?_push_size _ rfl,rfl⟩ hgo (fun s3 μ3 H3 ρ3 e3 st3 k3=>?_) fun v s3 μ3 H3 a3 ρ3 e3 st3 x3 k3=>?_
 ·exact k.next _ _ _ _ (e1.go2 e3 st st1) st3 k3
 ·exact k.ret _ _ _ _ _ _ (e1.go2 e3 st st1) st3 x3 k3
theorem ss_range1 {x:Str} {px pr pos pc:Pos} {i:Nat} {e:PySem.Expr} {m:ME} {body:List PySem.Stmt} {ms:List MS} (F:Fix T A env fr) (g:Ground0 prog w G S K base) (o:Own env) (hx:Internal.locNo T x=some i) (hT:T.lookup (Str.ofString "range")=some .glob) (hn:notStar e=true)
 (h1:SE prog w S base T A env fr call e m) (hb:SSs prog w S base T A env fr call body ms):SS prog w S base T A env fr call (.For (.Name x px) (.Call (.Name (Str.ofString "range") pr) [e] [] pc) body [] pos) (.forr i (.range [m]) ms):=fun ρ μ H s X Y N R P E st h k=>by
 refine wpAny_For (callN (ld_blt F g st hT (by simp) PyProof.Rows.Boot.«range» ?_)) (fun _=>rfl);refine rwE (star_cons hn ..) ?_;refine PyProof.Rows.callWith_type rfl (evalArgs_plain (spliced_cons (h1 ρ μ H s _ (X ρ) _ E st h (fun v s1 μ1 H1 a e1 st1 x1 k1=>spliced_nil ?_) (k.px st))));refine oK_I k1 fun n hn' k1=>?_;have:=int?_ok hn';subst this
 ·refine E03 k1 fun hneg hz k2=>?_;refine x1.intI fun t=>?_;refine call_range_1 ?_;obtain⟨rr,e2⟩:=st1.rep.more (s':={ s1 with heap:=s1.heap.push { cls:=.type "range",data:=.fields #[.int 0 s1.toks,.int n t,.int 1 (s1.toks+1)] },toks:=s1.toks+1+1 }) (fun b p e=>Heap.get?_push_of_some _ e) ⟨rfl,rfl⟩
  have st2:=st1.ext e2 rr;have e12:=e1.trans e2 st1.rep;exact range_ok F o hx hb st k e12.toL st2 (IsRange.new ..) (by decide) hneg hz k2
theorem ss_range2 {x:Str} {px pr pos pc:Pos} {i:Nat} {e e':PySem.Expr} {m m':ME} {body:List PySem.Stmt} {ms:List MS} (F:Fix T A env fr) (g:Ground0 prog w G S K base) (o:Own env) (hx:Internal.locNo T x=some i) (hT:T.lookup (Str.ofString "range")=some .glob) (hn:notStar e=true) (hn':notStar e'=true)
 (h1:SE prog w S base T A env fr call e m) (h2:SE prog w S base T A env fr call e' m') (hb:SSs prog w S base T A env fr call body ms):SS prog w S base T A env fr call (.For (.Name x px) (.Call (.Name (Str.ofString "range") pr) [e,e'] [] pc) body [] pos) (.forr i (.range [m,m']) ms):=fun ρ μ H s X Y N R P E st h k=>by
 refine wpAny_For (callN (ld_blt F g st hT (by simp) PyProof.Rows.Boot.«range» ?_)) (fun _=>rfl);refine rwE (star_cons hn ..) ?_; refine rwE (star_cons hn' ..) ?_;refine PyProof.Rows.callWith_type rfl (evalArgs_plain (spliced_cons (h1 ρ μ H s _ (X ρ) _ E st h (fun v s1 μ1 H1 a e1 st1 x1 k1=>spliced_cons (h2 ρ μ1 H1 s1 _ (X ρ) _ E st1 k1 (fun v2 s2 μ2 H2 a2 e2 st2 x2 k2=>spliced_nil ?_) (k.pxs st e1.toL st1))) (k.px st))));refine oK_I k2 fun a ha' k2=>?_;refine oK_I k2 fun n hn2 k2=>?_;have:=int?_ok ha';subst this;have:=int?_ok hn2;subst this
 ·refine E04 k2 fun hz1 hneg hz2 k3=>?_;refine x1.intI fun t=>?_;refine x2.intI fun u=>?_;refine call_range_2 ?_;obtain⟨rr,e3⟩:=st2.rep.more (s':={ s2 with heap:=s2.heap.push { cls:=.type "range",data:=.fields #[.int a t,.int n u,.int 1 s2.toks] },toks:=s2.toks+1 }) (fun b p e=>Heap.get?_push_of_some _ e) ⟨rfl,rfl⟩
  have st3:=st2.ext e3 rr;have e123:=(e1.trans e2 st1.rep).trans e3 st2.rep;exact range_ok F o hx hb st k e123.toL st3 (IsRange.new ..) hz1 hneg hz2 k3
theorem ss_aug {x:Str} {i:Nat} {e:PySem.Expr} {m:ME} {op:Operator} {bo:Bop} {p pos:Pos} (F:Fix T A env fr) (o:Own env) (hx:Internal.locNo T x=some i) (hop:bop op=some bo) (h1:SE prog w S base T A env fr call e m):SS prog w S base T A env fr call (.AugAssign (.Name x p) op e pos) (.aug i bo m):=fun ρ μ H s X Y N R P E st h k=>by
 refine oK_I h fun a ha h=>?_;have hT:=locNo_some hx;obtain⟨⟨mm,hn,hl⟩,hc,hap⟩:=st.lo;refine E12 (hl x i a hT ha) fun u e1 e2=>?_;refine wpAny_AugAssign_Name (wpAny_loadName_local F.kind (F.loc x i hT) hn e1 ?_);refine h1 ρ μ H s _ (X ρ) _ E st h (fun v s1 μ1 H1 b ee st1 x1 k1=>?_) (k.px st);have y:=ee.vr st.rep e2;refine augQ_I k1 fun n n' ea eb eo k2=>?_
 ·subst ea eb eo;refine y.intI fun t=>?_;refine x1.intI fun t'=>?_;have:op = .Add:=bop_add (by assumption);subst this;refine wpAny_iadd_int (store_ok' (s:={ s1 with toks:=s1.toks+1 }) F o (st1.toks _) hT (.int _ _) fun s2 e2 st2 _=>?_);have e3:ExtL env.locals fr μ H s μ1 H1 { s1 with toks:=s1.toks+1 }:=(ee.trans (st1.rep.same (t:=s1.toks+1)) st1.rep).toL;exact k.next _ _ _ _ (e3.go2 e2 st (st1.toks _)) st2 k2
theorem nameIn_I {e:PySem.Expr} {i:Nat} {C:Prop} (h:nameIn T e=some i) (k:∀x p,e = .Name x p→Internal.locNo T x=some i→C):C:=by
 induction e using PySem.Expr.casesOn<;>first|exact (noS h).elim|exact k _ _ rfl h
theorem namesIn_I {e:PySem.Expr} {r:List PySem.Expr} {l:List Nat} {C:Prop} (h:Internal.namesIn T (e::r)=some l) (k:∀x p i l',e = .Name x p→Internal.locNo T x=some i→Internal.namesIn T r=some l'→l=i::l'→C):C:=by
 exact E12 (Option.bind_eq_some_iff.mp h) fun i he h=>E12 (Option.bind_eq_some_iff.mp h) fun l' hr h=>nameIn_I he fun x p ee he=>k x p i l' ee he hr (Option.some.inj h).symm
theorem namesIn_star:∀{es:List PySem.Expr} {l:List Nat},Internal.namesIn T es=some l→(assignEach es env).findIdx? (·.1)=none∧(assignEach es env).length=l.length∧es.length=l.length
 |[],l,h=>by obtain rfl:=Option.some.inj h; exact⟨rfl,rfl,rfl⟩
 |e::r,l,h=>by
  refine namesIn_I h fun x p i l' ee he hr el=>?_;subst ee el
  ··refine E03 (namesIn_star hr) fun a1 a2 a3=>?_
    ·refine⟨?_,by show (_::assignEach r env).length=_; simp[a2],by simp[a3]⟩;show List.findIdx? (·.1) ((false,assign (.Name x p) env)::assignEach r env)=none
     simp[List.findIdx?_cons,a1]
theorem vrs_imp {h h':Heap} (tr:∀b u,VR μ D h b u→VR μ D h' b u):∀{l:List AV} {vs:List Value},VRs μ D h l vs→VRs μ D h' l vs:=fun {_ _} x =>
 VRs.rec (motive_1:=fun _ _ _=>True) (motive_2:=fun l vs _=>VRs μ D h' l vs) trivial (by intros; trivial) (by intros; trivial) (by intros; trivial) (by intros; trivial) (by intros; trivial) (by intros; trivial) (by intros; trivial) .nil (fun p _ _ q=>.cons (tr _ _ p) q) x
theorem bindAll_ok (F:Fix T A env fr) (o:Own env):∀{es:List PySem.Expr} {l:List Nat} {as:List AV} {vs:List Value} {ρ:Loc} {s:Shared} {Q:Unit→Shared→Prop},Internal.namesIn T es=some l→as.length=l.length→VRs μ (Dm H) s.heap as vs→St prog w base T env fr ρ μ H s →
 (∀s',ExtL env.locals fr μ H s μ H s'→St prog w base T env fr (setLs ρ l as) μ H s'→Q () s')→wpAny (model prog w) A (assignInOrder ((assignEach es env).map (·.2)) vs) Q E s:=fun {es}=>by
 induction es with
 |nil =>
  intro l as vs ρ s Q h hl x st q;cases Option.some.inj h;induction as using List.casesOn with
  |nil=>refine x.nilI ?_; exact assignInOrder_nil (q s (.refl ..) st)
  |cons _ _=>exact (nomatch hl)
 |cons e r ih =>
  intro l as vs ρ s Q h hl x st q;refine namesIn_I h fun y p i l' ee he hr el=>?_;subst ee el
  ···induction as using List.casesOn with
     |nil=>exact (nomatch hl)
     |cons a as' =>
      refine x.consI fun v vs' x1 x2=>?_;show wpAny _ _ (assignInOrder (assign (.Name y p) env::(assignEach r env).map (·.2)) (v::vs')) _ _ _
      refine assignInOrder_cons ?_;show wpAny _ _ (standAt p >>= fun _=>bindName env y v) _ _ _
      refine wpAny_bind (wpAny_standAt (wpAny_bindName (store_ok' F o st (locNo_some he) x1 fun s1 e1 st1 tr=>?_)));have x2':VRs μ (Dm H) s1.heap as' vs':=vrs_imp tr x2;exact ih hr (Nat.succ.inj hl) x2' st1 fun s2 e2 st2=>q s2 (e1.go2 e2 st st1) st2
theorem ss_unp {e:PySem.Expr} {m:ME} {es:List PySem.Expr} {l:List Nat} {n:Nat} {p pos:Pos} (F:Fix T A env fr) (o:Own env) (hn:noComp e=true) (ht:noTup e=true) (hl:Internal.namesIn T es=some l) (h1:SE prog w S base T A env fr call e m) :
 SS prog w S base T A env fr call (.Assign [.Tuple es n p] e pos) (.asg (.unp l) m):=fun ρ μ H s X Y N R P E st h k=>by
 refine E03 (namesIn_star (env:=env) hl) fun c1 c2 c3=>?_;have hsw:swappedStores [.Tuple es n p] e env=pure none:=by
  cases e<;>first|rfl|exact (noB ht).elim
 refine Assign_Tuple (h1 ρ μ H s _ (X ρ) _ E st h (fun v s1 μ1 H1 a e1 st1 x1 k1=>?_) (k.px st)) (by refine rwE (show swapsWithSole [.Tuple es n p] e pos.line env=swapsWith e (some (.Tuple es n p)) pos.line env from rfl) ?_; exact noswap hn _ _) hsw;induction a using AV.casesOn with
 |tup vs =>
  obtain⟨hlen,k2⟩:=k1;refine x1.tupI fun b ob us kk y1 y2 y3 y4 y5=>?_;have hus:=y5.length;refine assign_Tuple_tuple F.hand ⟨ob,y1,y2,kk,y3⟩ (by refine rwE c2 ?_; refine rwS hlen ?_; refine rwE hus ?_; simp) c1 fun h' hs=>?_;obtain⟨r,e2⟩:=st1.rep.more (s':={ s1 with heap:=h' }) (fun b p e=>hs b p (Nat.ne_of_lt (Heap.lt_size e)) e) ⟨rfl,rfl⟩;have st2:=st1.ext e2 r;have e12:=e1.trans e2 st1.rep;refine bindAll_ok (s:={ s1 with heap:=h' }) F o hl hlen (e2.vrs st1.rep y5) st2 fun s3 e3 st3=>?_;exact k.next _ _ _ _ (e12.toL.go2 e3 st st2) st3 k2
 |_=>exact k1.elim
theorem while_ok {test:PySem.Expr} {mt:ME} {body:List PySem.Stmt} {ms:List MS} (ht:SC prog w S base T A env fr call test mt) (hb:SSs prog w S base T A env fr call body ms) (st:St prog w base T env fr ρ μ H s) {R':Result→Shared→Prop}
 (hN:∀s' μ' H' ρ',ExtL env.locals fr μ H s μ' H' s'→St prog w base T env fr ρ' μ' H' s'→N ρ' H'→R' (.ok .next) s')
 (hR:∀v s' μ' H' a ρ',ExtL env.locals fr μ H s μ' H' s'→St prog w base T env fr ρ' μ' H' s'→VR μ' (Dm H') s'.heap a v→R a H'→R' (.ok (.ret v)) s') (n:Nat)
 (hgo:Nat.rec (motive:=fun _=>Loc→AH→Prop) (fun _ _=>False) (fun _ k ρ=>cwp S call (fun _ _=>False) mt ρ fun t=>if t=true then swps S call ms (fun _ _ _=>False) (fun _ _ _=>False) ρ k R else N ρ) n ρ H) :
 codeAny (model prog w) A (.whileLoop test body [] env) R' s:=by
 obtain⟨KI,hKI⟩:∃KI:Nat→Shared→Prop,∀n s1,KI n s1↔(∃μ1 H1 ρ1,ExtL env.locals fr μ H s μ1 H1 s1∧St prog w base T env fr ρ1 μ1 H1 s1 ∧
  Nat.rec (motive:=fun _=>Loc→AH→Prop) (fun _ _=>False) (fun _ k ρ=>cwp S call (fun _ _=>False) mt ρ fun t=>if t=true then swps S call ms (fun _ _ _=>False) (fun _ _ _=>False) ρ k R else N ρ) n ρ1 H1):=⟨_,fun _ _=>.rfl⟩
 refine codeAny_whileLoop KI (fun n s1 hI=>?_) n ((hKI _ _).mpr ⟨μ,H,ρ,.refl ..,st,hgo⟩);refine E33 ((hKI _ _).mp hI) fun μ1 H1 ρ1 e1 st1 hg=>?_;cases n with
 |zero=>exact hg.elim
 |succ n =>
  refine ht ρ1 μ1 H1 s1 _ _ _ _ st1 hg (fun t s2 μ2 H2 e2 st2 k2=>?_) fun e s' p=>p.no;have e12:=e1.go e2 st st1;induction t using Bool.casesOn with
  |true =>
   refine hb ρ1 μ2 H2 s2 _ _ _ R _ _ st2 k2 ⟨fun s4 μ4 H4 ρ4 e4 st4 k4=>⟨n,Nat.lt_succ_self _,(hKI _ _).mpr ⟨μ4,H4,ρ4,e12.go2 e4 st st2,st4,k4⟩⟩,fun v' s4 μ4 H4 a' ρ4 e4 st4 x4 k4=>hR _ _ _ _ _ _ (e12.go2 e4 st st2) st4 x4 k4,fun _ _ _ _ _ _ _ _ _ f=>f.elim,fun _ _ _ _ _ _ _ _ _ f=>f.elim⟩
  |false=>exact wpAny_execs_nil (hN _ _ _ _ e12 st2 k2)
theorem ss_while {test:PySem.Expr} {mt:ME} {body:List PySem.Stmt} {ms:List MS} {pos:Pos} (ht:SC prog w S base T A env fr call test mt) (hb:SSs prog w S base T A env fr call body ms):SS prog w S base T A env fr call (.While test body [] pos) (.whl mt ms):=fun ρ μ H s X Y N R P E st h k=>by
 exact wpAny_While (while_ok ht hb st k.next k.ret 6 h)
end
def KeptX (fr:List Env) (no:Addr→Prop) (h h':Heap):Prop:=∀b o,¬no b→h.get? b=some o→(b ∉ Lsf fr→h'.get? b=some o)∧∃sl,h'.get? b=some { o with slots:=sl }
section
variable {prog:Program} {w:World} {G:Gl} {S:Stat} {K:Frag} {base:Heap} {M:Model}
variable {T:NT} {A:Around} {env:Env} {fr outer:List Env} {ρ ρ' ρ₁:Loc} {μ μ' μ'' μ₀:AA→Addr} {D D':AA→Prop} {H H' H'' H₀:AH} {s s' s'' s₀:Shared} {call:Callee} {h h' h0:Heap} {E:Value→Shared→Prop} {L:Addr}
theorem KeptX.trans {no no':Addr→Prop} {h1 h2 h3:Heap} (x:KeptX fr no h1 h2) (y:KeptX fr no' h2 h3) (k:∀b,no' b→(∃o,h1.get? b=some o)→no b):KeptX fr no h1 h3:=fun b o n e=>by
 obtain⟨k1,sl,e1⟩:=x b o n e;have n':¬no' b:=fun z=>n (k b z ⟨o,e⟩);obtain⟨_,sl2,e2⟩:=y b _ n' e1;exact⟨fun q=>(y b o n' (k1 q)).1 q,sl2,e2⟩
theorem mapf (o:Obj) {vs:Array Value} (hd:o.data = .fields vs) (f:Array Value→Array Value):Obj.mapFields f o = { o with data:=.fields (f vs) }:=by
 obtain⟨c,d,dt,sl⟩:=o; simp at hd; subst hd; rfl
theorem upd_self {h:Heap} {a:Addr} {o:Obj} {vs:Array Value} (e:h.get? a=some o) (hd:o.data = .fields vs) (f:Array Value→Array Value):(h.update a (Obj.mapFields f)).get? a=some { o with data:=.fields (f vs) }:=by
 have:=Heap.get?_update_self (Obj.mapFields f) e (Obj.isFreed_of_fields (Obj.data_mapFields hd f));rw[mapf o hd f] at this; exact this
noncomputable abbrev lastEntry (e:Addr) (oe:Obj) (vs:Array Value) (fl:Value) (h:Heap) (T:Addr):Prop :=
 h.get? e=some { oe with data:=.fields (vs.setIfInBounds 1 (.ref T)) }∧T≠e∧∃oT ts,h.get? T=some oT∧oT.data = .fields ts∧ts[3]? = some fl
theorem entry_ok {e:Addr} {oe:Obj} {vs:Array Value} {head:Value} {hadNext:Bool} {Q:Unit→Shared→Prop} (hfr:A.frames=some (env::outer)) (hl:s.heap.FunFrames base (env::outer)) (hf:env.frame=some L)
 (he:s.heap.get? e=some oe) (hd:oe.data = .fields vs) (hsz:1<vs.size)
 (q:∀h' T,lastEntry e oe vs (rawInt L) h' T→s.heap.get? T=none→KeptX (env::outer) (· = e) s.heap h'→Q () { s with heap:=h' }) :
 wpAny M A (do let a ←frameOf env; let pl ←entryPlaceOf L hadNext; let b ←EntryCells.newEntry head a .none (rawInt L) .none pl; setField (.ref e) 1 b) Q E s:=by
 have hene:e ∉ Lsf (env::outer):=fun hm=>by
  obtain⟨_,o,ho,hnf⟩:=hl.mem hm;rw[he] at ho; injection ho with ho; subst ho; exact hnf vs hd
 refine wpAny_bind (wpAny_frameOf_fun hfr hl hf fun h₁ hs₁=>?_);refine wpAny_bind (wpAny_entryPlaceOf fun pl hpl=>?_);skip
 refine wpAny_bind (wpAny_newObj_type ?_ (hpl.sizeOk5 _ _ _ _ _));have he₁:h₁.get? e=some oe:=(hs₁.2.1 e hene).trans he;refine wpAny_setField (Heap.get?_push_of_some _ he₁) hd hsz (q _ h₁.objs.size ?_ ?_ fun b o nb hb=>?_)
 ·have hne:h₁.objs.size≠e:=Nat.ne_of_gt (Heap.lt_size he₁);refine⟨upd_self (Heap.get?_push_of_some _ he₁) hd _,hne,_,_,(Heap.get?_update_other _ _ (Ne.symm hne)).trans (Heap.get?_push_size h₁ rfl),rfl,?_⟩;first|(simp; done)|(rcases hpl with rfl|⟨_,_,_,_,_,_,_,rfl⟩<;>simp)
 ·cases z:s.heap.get? h₁.objs.size with
  |none=>rfl
  |some o=>have:=Heap.lt_size z; rw[hs₁.1] at this; exact absurd this (Nat.lt_irrefl _)
 ·have step:∀p,h₁.get? b=some p→((h₁.push { cls:=.type "traceback",dict:=none,data:=.fields ([head,.ref L,.none,rawInt L,.none]++(if pl.isEmpty then List.replicate 6 Value.none else pl)).toArray }).update e (Obj.mapFields (·.setIfInBounds 1 (Value.ref h₁.objs.size)))).get? b=some p:=fun p hp =>
   (Heap.get?_update_other _ _ (fun z=>nb z.symm)).trans (Heap.get?_push_of_some _ hp)
  obtain⟨sl,k⟩:=hs₁.2.2 b o hb;exact⟨fun hn=>step _ ((hs₁.2.1 b hn).trans hb),sl,step _ k⟩
theorem note_first {e:Addr} {oe:Obj} {vs:Array Value} {Q:Unit→Shared→Prop} (hfr:A.frames=some (env::outer)) (hl:s.heap.FunFrames base (env::outer)) (hf:env.frame=some L)
 (he:s.heap.get? e=some oe) (hd:oe.data = .fields vs) (h1:vs[1]? = some .none)
 (q:∀h' T,lastEntry e oe vs (rawInt L) h' T→s.heap.get? T=none→KeptX (env::outer) (· = e) s.heap h'→Q () { s with heap:=h' }):wpAny M A (noteFrame (.ref e) env) Q E s:=by
 dsimp only[noteFrame];simp only[hf];refine wpAny_bind (wpAny_field he hd h1 ?_);refine rwE (if_neg (by decide)) ?_;exact entry_ok hfr hl hf he hd (Array.getElem?_eq_some_iff.mp h1).1 q
theorem note_next {e T:Addr} {oe oT:Obj} {vs ts:Array Value} {Q:Unit→Shared→Prop} (hfr:A.frames=some (env::outer)) (hl:s.heap.FunFrames base (env::outer)) (hf:env.frame=some L)
 (he:s.heap.get? e=some oe) (hd:oe.data = .fields vs) (h1:vs[1]? = some (.ref T)) (hTe:T≠e) (hT:s.heap.get? T=some oT) (hdT:oT.data = .fields ts) (h3:ts[3]? = some .none)
 (q:∀h' T',lastEntry e oe vs (rawInt L) h' T'→s.heap.get? T'=none→KeptX (env::outer) (fun b=>b=e∨b=T) s.heap h'→Q () { s with heap:=h' }):wpAny M A (noteFrame (.ref e) env) Q E s:=by
 dsimp only[noteFrame];simp only[hf];refine wpAny_bind (wpAny_field he hd h1 ?_);refine rwE (if_pos (show (Value.ref T != Value.none)=true from by simp)) ?_;refine wpAny_bind (wpAny_field hT hdT h3 ?_);refine rwE (if_neg (show ¬((Value.none==rawInt L)=true) from by simp[rawInt])) ?_;refine wpAny_bind (wpAny_setField hT hdT (Array.getElem?_eq_some_iff.mp h3).1 ?_);have other:∀b,b≠T→(s.heap.update T (Obj.mapFields (·.setIfInBounds 3 Value.none))).get? b=s.heap.get? b:=fun b hb=>Heap.get?_update_other _ _ (Ne.symm hb);have nr:∀b o,s.heap.get? b=some o→(∀vs,o.data≠.fields vs)→b≠T:=fun b o hb hnf z=>by
  rw[z,hT] at hb; injection hb with hb; subst hb; exact hnf ts hdT
 refine entry_ok (s:={ s with heap:=s.heap.update T (Obj.mapFields (·.setIfInBounds 3 Value.none)) }) hfr (hl.of_keeps fun b o hb hnf=>⟨o,(other b (nr b o hb hnf)).trans hb,rfl⟩) hf ((other e (Ne.symm hTe)).trans he) hd (Array.getElem?_eq_some_iff.mp h1).1 fun h' T' x1 x2 x3=>q h' T' x1 ?_ ?_
 ·have hne:T'≠T:=fun z=>by
   subst z;have:(s.heap.update T' (Obj.mapFields (·.setIfInBounds 3 Value.none))).get? T'=none:=x2;rw[upd_self hT hdT] at this; cases this
  exact (other T' hne).symm.trans x2
 ·intro b o nb hb;have n1:b≠e:=fun z=>nb (.inl z);have n2:b≠T:=fun z=>nb (.inr z);exact x3 b o n1 ((other b n2).trans hb)
theorem note_again {e T:Addr} {oe oT:Obj} {vs ts:Array Value} {Q:Unit→Shared→Prop} (hf:env.frame=some L)
 (he:s.heap.get? e=some oe) (hd:oe.data = .fields vs) (h1:vs[1]? = some (.ref T)) (hT:s.heap.get? T=some oT) (hdT:oT.data = .fields ts) (h3:ts[3]? = some (rawInt L)) (q:Q () s):wpAny M A (noteFrame (.ref e) env) Q E s:=by
 dsimp only[noteFrame];simp only[hf];refine wpAny_bind (wpAny_field he hd h1 ?_);refine rwE (if_pos (show (Value.ref T != Value.none)=true from by simp)) ?_;refine wpAny_bind (wpAny_field hT hdT h3 ?_);refine rwE (if_pos (show (rawInt L==rawInt L)=true from by simp)) ?_;exact wpAny_pure q
theorem flight_none {e T:Addr} {oe oT:Obj} {vs ts:Array Value} {x:Value} {Q:Unit→Shared→Prop}
 (he:s.heap.get? e=some oe) (hd:oe.data = .fields vs) (h1:vs[1]? = some (.ref T)) (hT:s.heap.get? T=some oT) (hdT:oT.data = .fields ts) (h3:ts[3]? = some x)
 (q:∀h',h'.get? T=some { oT with data:=.fields (ts.setIfInBounds 3 .none) }→(∀b,b≠T→h'.get? b=s.heap.get? b)→Q () { s with heap:=h' }):wpAny M A (setFlight (.ref e) none) Q E s:=by
 skip
 refine wpAny_bind (wpAny_field he hd h1 ?_);refine rwE (if_pos (show (Value.ref T != Value.none)=true from by simp)) ?_;exact wpAny_setField hT hdT (Array.getElem?_eq_some_iff.mp h3).1 (q _ (upd_self hT hdT _) fun b hb=>Heap.get?_update_other _ _ (Ne.symm hb))
theorem rec_go {no:Addr→Prop} (st:St prog w base T env fr ρ μ H s) (hb:base.StaysIn s₀.heap) (e:ExtL L fr μ₀ H₀ s₀ μ H s) (hno:∀b,no b→(∃o,s.heap.get? b=some o)→s₀.heap.get? b=none∧∃o vs,s.heap.get? b=some o∧o.data = .fields vs) (k:KeptX fr no s.heap h') :
 ExtL L fr μ₀ H₀ s₀ μ H { s with heap:=h' }∧St prog w base T env fr ρ μ H { s with heap:=h' }∧TupKeep s.heap h':=by
 have nof:∀b o,s.heap.get? b=some o→(∀vs,o.data≠.fields vs)→¬no b:=fun b o e1 nf z=>by
  obtain⟨_,o',vs,e2,d⟩:=hno b z ⟨o,e1⟩;rw[e1] at e2; obtain rfl:=Option.some.inj e2; exact nf _ d
 have tk:TupKeep s.heap h':=fun b o e1 c ⟨vs,n,q⟩=>(k b o (nof b o e1 fun ws z=>by rw[q] at z; cases z) e1).2;have keepI:∀a,H a≠none→h'.get? (μ a)=s.heap.get? (μ a):=fun a ha=>by
  refine E14 (st.rep.there a ha) fun ob e1 _ nf _=>?_;exact ((k _ _ (nof _ _ e1 nf) e1).1 (st.rep.ap a ha)).trans e1.symm
 refine⟨⟨e.old,e.fresh,fun b o hL eb nb=>?_,e.rest.1,e.rest.2⟩,⟨⟨st.rep.inj,fun b p hb'=>?_,st.rep.new,st.rep.ap,fun b p eb=>?_⟩,?_,⟨?_,fun x i v h1 h2=>?_,st.lo.apart⟩⟩,tk⟩
 ·obtain⟨k1,sl,k2⟩:=e.keep b o hL eb nb;have nn:¬no b:=fun z=>by
   rw[(hno b z ⟨_,k2⟩).1] at eb; exact (noS eb).elim
  obtain⟨_,sl2,k4⟩:=k b _ nn k2;exact⟨fun q=>(k b o nn (k1 q)).1 q,sl2,k4⟩
 ·exact (st.rep.obj b p hb').mono (fun c hc=>⟨hc,rfl⟩) tk (keepI b (by refine rwE hb' ?_; simp))
 ·have e1:=st.rep.stay b p eb;have nn:¬no b:=fun z=>by
   have:=(hno b z ⟨_,e1⟩).1;rw[hb b p eb] at this; cases this
  have nl:b ∉ Lsf fr:=fun z=>by
   rw[(st.frs.mem z).1] at eb; exact (noS eb).elim
  exact (k b p nn e1).1 nl
 ·refine st.frs.of_keeps fun b o eb nf=>?_;obtain⟨_,sl,e1⟩:=k b o (nof b o eb nf) eb;exact⟨_,e1,rfl⟩
 ·obtain⟨m,⟨o,es,ep,ho,hd,r⟩,hl⟩:=st.lo.loc;obtain⟨_,sl,e1⟩:=k _ o (nof _ o ho fun vs z=>by rw[hd] at z; cases z) ho;refine⟨m,⟨_,es,ep,e1,hd,r⟩,fun x i v h1 h2=>?_⟩;refine E12 (hl x i v h1 h2) fun u e2 e3=>?_;exact⟨u,e2,e3.mono (fun _ d=>⟨d,rfl⟩) tk⟩
 ·obtain⟨c,u,e1,⟨oc,e2,e2'⟩,e3⟩:=st.lo.cel x i v h1 h2;obtain⟨_,sl,e4⟩:=k c oc (nof c oc e2 fun vs z=>by rw[e2'] at z; cases z) e2;exact⟨c,u,e1,⟨_,e4,e2'⟩,e3.mono (fun _ d=>⟨d,rfl⟩) tk⟩
theorem Bears.go {no:Addr→Prop} {Dd:Addr} {x:AV} (hno:∀b,no b→(∃o,s.heap.get? b=some o)→∃o vs,s.heap.get? b=some o∧o.data = .fields vs) (k:KeptX fr no s.heap h') (tk:TupKeep s.heap h') (b:Bears h0 μ H s.heap Dd x):Bears h0 μ H h' Dd x:=by
 obtain⟨b1,b2,m,v,⟨o,es,ep,ho,hd,r⟩,e,xv⟩:=b;have nn:¬no Dd:=fun z=>by
  refine E22 (hno Dd z ⟨o,ho⟩) fun o' vs e1 d=>?_;rw[ho] at e1; obtain rfl:=Option.some.inj e1; rw[hd] at d; cases d
 obtain⟨_,sl,e1⟩:=k Dd o nn ho;exact⟨b1,b2,m,v,⟨_,es,ep,e1,hd,r⟩,e,xv.mono (fun _ d=>⟨d,rfl⟩) tk⟩
end
section
variable {prog:Program} {w:World} {G:Gl} {S:Stat} {K:Frag} {base:Heap} {M:Model}
variable {T:NT} {A:Around} {env env':Env} {fr outer:List Env} {ρ ρ' ρ₁:Loc} {μ μ' μ'' μ₀:AA→Addr} {D D':AA→Prop} {H H' H'' H₀:AH} {s s' s'' s₀:Shared} {call:Callee} {h h' h0:Heap} {E:Value→Shared→Prop} {L L':Addr}
def Any (C:Addr) (h0:Heap) (μ:AA→Addr) (H:AH) (h:Heap) (e:Value) (x:AV):Prop:=Raisd C h0 μ H h e x∨Flys C h0 μ H h e x
theorem note_ok {C:Addr} {v:Value} {x:AV} {Q:Unit→Shared→Prop} (hfr:A.frames=some (env'::outer)) (hf:env'.frame=some L) (st:St prog w base T env (env'::outer) ρ μ H s) (hb:base.StaysIn s₀.heap) (e:ExtL L' (env'::outer) μ₀ H₀ s₀ μ H s) (k:∀b,s.heap.get? b=none→s₀.heap.get? b=none)
 (y:Any C s₀.heap μ H s.heap v x)
 (q:∀h',ExtL L' (env'::outer) μ₀ H₀ s₀ μ H { s with heap:=h' }→St prog w base T env (env'::outer) ρ μ H { s with heap:=h' }→(∀b,h'.get? b=none→s₀.heap.get? b=none)→FlyG (rawInt L) C s₀.heap μ H h' v x→Q () { s with heap:=h' }):wpAny M A (noteFrame v env') Q E s:=by
 rcases y with⟨ea,oe,vs,Dd,rfl,h2,h3,h4,h5,h6,h7,h8⟩|⟨ea,oe,vs,T',oT,ts,Dd,rfl,h2,h3,h4,h5,h6,h7,h8,h9,h10,h11,h12,h13⟩
 ·refine note_first hfr st.frs hf h2 h5 h6 fun h' T1 ⟨x1,x2,oT,ts,x3,x4,x5⟩ x6 x7=>?_;have hno:∀b,b=ea→(∃o,s.heap.get? b=some o)→s₀.heap.get? b=none∧∃o vs,s.heap.get? b=some o∧o.data = .fields vs:=fun b z _=>by subst z; exact⟨h7,oe,vs,h2,h5⟩
  refine E03 (rec_go st hb e hno x7) fun g1 g2 g3=>?_;have sz:1<vs.size:=(Array.getElem?_eq_some_iff.mp h6).1;refine q h' g1 g2 (fun b z=>?_) ⟨ea,_,_,T1,oT,ts,Dd,rfl,x1,h3,h4,rfl,by simp[sz],x2,x3,x4,x5,h7,k _ x6,h8.go (fun b z w=>(hno b z w).2) x7 g3⟩;by_cases zb:b=ea
  ·subst zb; exact h7
  ·refine k b ?_;cases q':s.heap.get? b with
   |none=>rfl
   |some o=>obtain⟨_,sl,q2⟩:=x7 b o zb q'; rw[z] at q2; exact (noS q2).elim
 ·refine note_next hfr st.frs hf h2 h5 h6 h7 h8 h9 h10 fun h' T1 ⟨x1,x2,oT',ts',x3,x4,x5⟩ x6 x7=>?_;have hno:∀b,b=ea∨b=T'→(∃o,s.heap.get? b=some o)→s₀.heap.get? b=none∧∃o vs,s.heap.get? b=some o∧o.data = .fields vs:=fun b z _=>by
   rcases z with z|z
   ·subst z; exact⟨h11,oe,vs,h2,h5⟩
   ·subst z; exact⟨h12,oT,ts,h8,h9⟩
  refine E03 (rec_go st hb e hno x7) fun g1 g2 g3=>?_;have sz:1<vs.size:=(Array.getElem?_eq_some_iff.mp h6).1;refine q h' g1 g2 (fun b z=>?_) ⟨ea,_,_,T1,oT',ts',Dd,rfl,x1,h3,h4,rfl,by simp[sz],x2,x3,x4,x5,h11,k _ x6,h13.go (fun b z w=>(hno b z w).2) x7 g3⟩;by_cases zb:b=ea∨b=T'
  ·rcases zb with zb|zb<;>subst zb<;>assumption
  ·refine k b ?_;cases q':s.heap.get? b with
   |none=>rfl
   |some o=>obtain⟨_,sl,q2⟩:=x7 b o zb q'; rw[z] at q2; exact (noS q2).elim
theorem flight_ok {C:Addr} {v fl:Value} {x:AV} {Q:Unit→Shared→Prop} (st:St prog w base T env fr ρ μ H s) (hb:base.StaysIn s₀.heap) (e:ExtL L' fr μ₀ H₀ s₀ μ H s) (k:∀b,s.heap.get? b=none→s₀.heap.get? b=none)
 (y:FlyG fl C s₀.heap μ H s.heap v x)
 (q:∀h',ExtL L' fr μ₀ H₀ s₀ μ H { s with heap:=h' }→St prog w base T env fr ρ μ H { s with heap:=h' }→(∀b,h'.get? b=none→s₀.heap.get? b=none)→Flys C s₀.heap μ H h' v x→Q () { s with heap:=h' }):wpAny M A (setFlight v none) Q E s:=by
 obtain⟨ea,oe,vs,T',oT,ts,Dd,rfl,h2,h3,h4,h5,h6,h7,h8,h9,h10,h11,h12,h13⟩:=y;refine flight_none h2 h5 h6 h8 h9 h10 fun h' x1 x2=>?_;have hno:∀b,b=T'→(∃o,s.heap.get? b=some o)→s₀.heap.get? b=none∧∃o vs,s.heap.get? b=some o∧o.data = .fields vs:=fun b z _=>by subst z; exact⟨h12,oT,ts,h8,h9⟩
 have x7:KeptX fr (· = T') s.heap h':=fun b o nb eb=>by
  have:=(x2 b nb).trans eb;exact⟨fun _=>this,o.slots,this⟩
 refine E03 (rec_go st hb e hno x7) fun g1 g2 g3=>?_;have sz:3<ts.size:=(Array.getElem?_eq_some_iff.mp h10).1;refine q h' g1 g2 (fun b z=>?_) ⟨ea,oe,vs,T',_,_,Dd,rfl,(x2 _ (Ne.symm h7)).trans h2,h3,h4,h5,h6,h7,x1,rfl,by simp[sz],h11,h12,h13.go (fun b z w=>(hno b z w).2) x7 g3⟩;by_cases zb:b=T'
 ·subst zb; exact h12
 ·exact k b ((x2 b zb).symm.trans z)
theorem leaving_ok {C:Addr} {v:Value} {x:AV} {Q:Unit→Shared→Prop} (hfr:A.frames=some (env'::outer)) (hf:env'.frame=some L) (st:St prog w base T env (env'::outer) ρ μ H s) (hb:base.StaysIn s₀.heap) (e:ExtL L' (env'::outer) μ₀ H₀ s₀ μ H s) (k:∀b,s.heap.get? b=none→s₀.heap.get? b=none)
 (y:Any C s₀.heap μ H s.heap v x)
 (q:∀h',ExtL L' (env'::outer) μ₀ H₀ s₀ μ H { s with heap:=h' }→St prog w base T env (env'::outer) ρ μ H { s with heap:=h' }→(∀b,h'.get? b=none→s₀.heap.get? b=none)→Flys C s₀.heap μ H h' v x→Q () { s with heap:=h' }):wpAny M A (leaving env' v) Q E s:=by
 skip
 refine wpAny_bind (note_ok hfr hf st hb e k y fun h1 e1 st1 k1 y1=>?_);exact flight_ok (s:={ s with heap:=h1 }) st1 hb e1 k1 y1 q
end
theorem zip_lookup:∀{ns:List Str} {vs:List Value},ns.length=vs.length→∀n∈ns,((ns.zip vs).lookup n).isSome=true
 |[],_,_,n,h=>by cases h
 |a::r,v::t,e,n,h=>by
  simp only[List.zip_cons_cons,List.lookup_cons];by_cases z:n=a
  ·subst z; simp
  ·have:(n==a)=false:=by simpa using z
   refine rwE this ?_;cases h with
   |head=>exact absurd rfl z
   |tail _ h=>exact zip_lookup (by simpa using e) n h
 |a::r,[],e,_,_=>by simp at e
theorem fm_congr {α β:Type} {f g:α→Option β}:∀{l:List α},(∀x∈l,f x=g x)→l.filterMap f=l.filterMap g
 |[],_=>rfl
 |a::r,h=>by
  rw[List.filterMap_cons,List.filterMap_cons,h a (.head _),fm_congr fun x hx=>h x (.tail _ hx)]
theorem zip_self:∀{ns:List Str} {vs:List Value},ns.length=vs.length→ns.Nodup→ns.filterMap (fun n=>((ns.zip vs).lookup n).map (n,·))=ns.zip vs
 |[],vs,_,_=>by simp
 |a::r,v::t,e,nd=>by
  have nd':=List.nodup_cons.mp nd;refine rwE List.filterMap_cons ?_;simp only[List.zip_cons_cons,List.lookup_cons,beq_self_eq_true,Option.map_some];congr 1
  refine Eq.trans (fm_congr fun n hn=>?_) (zip_self (ns:=r) (vs:=t) (by simpa using e) nd'.2);have:(n==a)=false:=by
   have:n≠a:=fun z=>nd'.1 (z▸hn);simpa using this
  refine rwE this ?_; rfl
 |a::r,[],e,_=>by simp at e
theorem wif {α:Type} {M:Model} {A:Around} {c:Prop} [Decidable c] {x y:Sem α} {Q:α→Shared→Prop} {E:Value→Shared→Prop} {s:Shared} (h:¬c) (k:wpAny M A y Q E s):wpAny M A (if c then x else y) Q E s:=by refine rwE (if_neg h) ?_; exact k
theorem wfor {α β γ:Type} {M:Model} {A:Around} {l:List α} {b:β} {f:α→β→Sem (ForInStep β)} {g:β→Sem γ} {Q:γ→Shared→Prop} {E:Value→Shared→Prop} {s:Shared} (h:l=[]) (k:wpAny M A (g b) Q E s):wpAny M A (forIn l b f >>= g) Q E s:=by
 subst h; exact wpAny_bind (wpAny_pure k)
theorem wpb {α γ:Type} {M:Model} {A:Around} {a:α} {g:α→Sem γ} {Q:γ→Shared→Prop} {E:Value→Shared→Prop} {s:Shared} (k:wpAny M A (g a) Q E s):wpAny M A (pure a >>= g) Q E s:=wpAny_bind (wpAny_pure k)
theorem none_left {N:List Str} {vals:List Value} (hl:N.length=vals.length) (n:Nat):List.filter (fun n=>(List.lookup n (N.zip vals)).isNone) (N.take n)=[]:=by
 rw[List.filter_eq_nil_iff];intro x hx;have:=zip_lookup hl x (List.mem_of_mem_take hx);rw[←Option.not_isSome,this]; exact nofun
theorem binds_plain {s:Shared} {fd:FuncData} {vals:List Value} (h1:fd.params.posonlyargs=[]) (h2:fd.params.kwonlyargs=[]) (h3:fd.params.vararg=none) (h4:fd.params.kwarg=none) (h5:fd.defaults = .none)
 (hl:(fd.params.args.map (·.arg)).length=vals.length) (nd:(fd.params.args.map (·.arg)).Nodup):BindsTo s fd ⟨vals,[]⟩ ((fd.params.args.map (·.arg)).zip vals):=by
 obtain⟨_,_,⟨po,as,va,ko,_,ka,_⟩⟩:=fd;dsimp only at h1 h2 h3 h4 h5 hl nd ⊢;subst h1 h2 h3 h4 h5;have hl2:as.length=vals.length:=by simpa using hl
 intro M A E Q q;delta bindArgs
 dsimp only[List.map_nil,List.nil_append];refine wpb (wpb (wif ?_ (wif ?_ (wfor ?_ (wpb (wif ?_ (wpAny_pure ?_)))))))
 ·simp; lia
 ·show ¬((!(List.filter (fun n=>(List.lookup n ((as.map (·.arg)).zip vals)).isNone) ((as.map (·.arg)).take _)).isEmpty)=true)
  rw[none_left hl]; exact nofun
 ·exact (congrArg _ List.drop_nil).trans List.zip_nil_right
 ·exact nofun
 ·show Q (List.filterMap (fun n=>(List.lookup n ((as.map (·.arg)).zip vals)).map (n,·)) (as.map (·.arg)++[])) s
  refine rwE (List.append_nil ..) ?_; refine rwE (zip_self hl nd ..) ?_; exact q
theorem lookup_mem {T:NT} {x:Str} {sl:Sl} (h:T.lookup x=some sl):(x,sl)∈T:=by
 induction T with
 |nil=>exact (noS h).elim
 |cons p r ih =>
  obtain⟨y,v⟩:=p;rw[List.lookup_cons] at h;split at h
  ·rename_i e
   obtain rfl:=Option.some.inj h;have:x=y:=by simpa using e
   subst this; exact .head _
  ·exact .tail _ (ih h)
structure TabOk (names:List (Str×NameKind)) (T:NT):Prop where
 loc:∀x i,T.lookup x=some (.loc i)→names.lookup x=some .local
 cel:∀x i,T.lookup x=some (.cell i)→names.lookup x=some .cell∨names.lookup x=some .free
 glo:∀x,T.lookup x=some .glob→names.lookup x=some .globalImplicit
 uniq:∀x y i,(T.lookup x=some (.loc i)∨T.lookup x=some (.cell i))→(T.lookup y=some (.loc i)∨T.lookup y=some (.cell i))→x=y
 nd:∀x sl,T.lookup x=some sl→(x==Str.ofString "__debug__")=false∧(x==Str.ofString "__classdict__")=false
theorem tab_ok {names:List (Str×NameKind)} {T:NT} (h:tabB names T=true):TabOk names T:=by
 unfold tabB at h;rw[Bool.and_eq_true] at h;obtain⟨h1,h2⟩:=h;rw[List.all_eq_true] at h1 h2;have one:∀x sl,T.lookup x=some sl→_:=fun x sl e=>h1 _ (lookup_mem e);have ix:∀x i,(T.lookup x=some (.loc i)∨T.lookup x=some (.cell i))→∃sl,(x,sl)∈T∧idx sl=some i:=fun x i e=>by
  rcases e with e|e
  ·exact⟨_,lookup_mem e,rfl⟩
  ·exact⟨_,lookup_mem e,rfl⟩
 refine⟨fun x i e=>?_,fun x i e=>?_,fun x e=>?_,fun x y i ex ey=>?_,fun x sl e=>?_⟩
 ·have:=one x _ e; simp at this; exact this.2
 ·have:=one x _ e; simp at this; exact this.2
 ·have:=one x _ e; simp at this; exact this.2
 ·refine E12 (ix x i ex) fun sx mx ix1=>?_;refine E12 (ix y i ey) fun sy my iy1=>?_;have:=List.all_eq_true.mp (h2 _ mx) _ my;simpa [ix1,iy1] using this
 ·have:=one x _ e;rw[Bool.and_eq_true,Bool.and_eq_true] at this;obtain⟨⟨a,b⟩,_⟩:=this;exact⟨by simpa using a,by simpa using b⟩
noncomputable def noDefs:Value→Bool
 |.none=>true
 |_=>false
noncomputable def isCell (nm:List (Str×NameKind)) (p:Str×Sl):Bool:=match p.2 with
 |.cell _=>nm.lookup p.1==some .cell
 |_=>true
noncomputable def fdB (fd:FuncData) (n:Nat):Bool :=
 fd.closure.isEmpty&&fd.globals==mainGlobals&&fd.builtins==builtinsNs&&!fd.scope.isCoroutine&&!fd.scope.isGenerator&&fd.scope.kind==.function&&fd.params.posonlyargs.isEmpty&&fd.params.kwonlyargs.isEmpty &&
 fd.params.vararg.isNone&&fd.params.kwarg.isNone&&noDefs fd.defaults&&(fd.params.args.map (·.arg)).length==n&&decide (fd.params.args.map (·.arg)).Nodup &&
 (fd.params.args.map (·.arg)).zipIdx.all (fun p=>(tabOf 0 fd.scope.names).lookup p.1==some (.loc p.2)||((tabOf 0 fd.scope.names).lookup p.1==some (.cell p.2)&&fd.scope.names.lookup p.1==some .cell))&&tabB fd.scope.names (tabOf 0 fd.scope.names)&&(tabOf 0 fd.scope.names).all (isCell fd.scope.names)
structure DefOk (G:Gl) (base:Heap) (f:Addr) (fd:FuncData) (bd:List PySem.Stmt) (d:Fun):Prop where
 obj:∃fo,base.get? f=some fo∧fo.data = .func fd
 code:base.CodeRec fd.code fd.qualname
 body:fd.body = .stmts bd
 fits:fdB fd d.params=true
theorem cells_find:∀(names:List (Str×NameKind)) (n:Nat) (acc:List (Str×Addr)) (x:Str),(names.lookup x=some .cell∨(acc.lookup x).isSome=true)→((cellsFrom n names acc).lookup x).isSome=true
 |[],n,acc,x,h=>by
  rcases h with h|h
  ·exact (noS h).elim
  ·exact h
 |(y,k)::r,n,acc,x,h=>by
  dsimp only[cellsFrom];by_cases e:x=y
  ·subst e;rcases h with h|h
   ·simp at h
    subst h;rw[if_pos (by rfl)];exact cells_find r _ _ x (.inr (by simp))
   ·split
    ·exact cells_find r _ _ x (.inr (by simp))
    ·exact cells_find r _ _ x (.inr h)
  ·have e':(x==y)=false:=by simpa using e
   have h':r.lookup x=some .cell∨(acc.lookup x).isSome=true:=by
    rcases h with h|h
    ·rw[List.lookup_cons,e'] at h; exact .inl h
    ·exact .inr h
   split
   ·refine cells_find r _ _ x ?_;rcases h' with h'|h'
    ·exact .inl h'
    ·exact .inr (by refine rwE List.lookup_cons ?_; refine rwE e' ?_; exact h')
   ·exact cells_find r _ _ x h'
theorem bindL_else {k:Str→Option NameKind} {x:Str}:∀{ns:List Str} {vs:List Value} {m:Str→Option Value},x ∉ ns→bindL k (ns.zip vs) m x=m x
 |[],vs,m,_=>by simp[bindL]
 |a::r,[],m,_=>by simp[bindL]
 |a::r,v::t,m,h=>by
  dsimp only[List.zip_cons_cons,bindL];rw[bindL_else fun z=>h (.tail _ z)];split
  ·exact if_neg fun z=>h (by subst z; exact .head _)
  ·rfl
theorem bindC_else {k:Str→Option NameKind} {x:Str}:∀{ns:List Str} {vs:List Value} {m:Str→Option Value},x ∉ ns→bindC k (ns.zip vs) m x=m x
 |[],vs,m,_=>by simp[bindC]
 |a::r,[],m,_=>by simp[bindC]
 |a::r,v::t,m,h=>by
  dsimp only[List.zip_cons_cons,bindC];rw[bindC_else fun z=>h (.tail _ z)];split
  ·rfl
  ·exact if_neg fun z=>h (by subst z; exact .head _)
theorem bindL_get {k:Str→Option NameKind} {x:Str} {v:Value}:∀{ns:List Str} {vs:List Value} {m:Str→Option Value} {i:Nat},ns.Nodup→ns[i]? = some x→vs[i]? = some v→k x=some .local→bindL k (ns.zip vs) m x=some v
 |[],vs,m,i,_,h,_,_=>by simp at h
 |a::r,[],m,i,_,_,h,_=>by simp at h
 |a::r,u::t,m,0,nd,h1,h2,hk=>by
  simp at h1 h2; subst h1; subst h2
  simp only[List.zip_cons_cons,bindL,hk,if_true];refine rwE (bindL_else (List.nodup_cons.mp nd).1) ?_; simp
 |a::r,u::t,m,i+1,nd,h1,h2,hk=>by
  dsimp only[List.zip_cons_cons,bindL];exact bindL_get (List.nodup_cons.mp nd).2 (by simpa using h1) (by simpa using h2) hk
theorem bindC_get {k:Str→Option NameKind} {x:Str} {v:Value}:∀{ns:List Str} {vs:List Value} {m:Str→Option Value} {i:Nat},ns.Nodup→ns[i]? = some x→vs[i]? = some v→k x=some .cell→bindC k (ns.zip vs) m x=some v
 |[],vs,m,i,_,h,_,_=>by simp at h
 |a::r,[],m,i,_,_,h,_=>by simp at h
 |a::r,u::t,m,0,nd,h1,h2,hk=>by
  simp at h1 h2; subst h1; subst h2
  have:¬k a=some .local:=by refine rwE hk ?_; decide
  simp only[List.zip_cons_cons,bindC,if_neg this];refine rwE (bindC_else (List.nodup_cons.mp nd).1) ?_; simp
 |a::r,u::t,m,i+1,nd,h1,h2,hk=>by
  dsimp only[List.zip_cons_cons,bindC];exact bindC_get (List.nodup_cons.mp nd).2 (by simpa using h1) (by simpa using h2) hk
section
variable {prog:Program} {w:World} {G:Gl} {S:Stat} {K:Frag} {base:Heap} {M:Model}
variable {T:NT} {A:Around} {env env':Env} {fr outer:List Env} {ρ ρ' ρ₁:Loc} {μ μ' μ'' μ₀:AA→Addr} {D D':AA→Prop} {H H' H'' H₀:AH} {s s' s'' s₀ s₁:Shared} {call:Callee} {h h' h0:Heap} {E:Value→Shared→Prop} {L L':Addr}
theorem drop (r:Rep prog w base fr μ H s.heap) (k:∀b o,s.heap.get? b=some o→s₁.heap.get? b=some o) (gr:s₁.gens=s.gens∧s₁.os=s.os) (hL:s.heap.get? L=none) (hf:env.frame=some L)
 (e:ExtL L (env::fr) μ H s₁ μ' H' s') (r':Rep prog w base (env::fr) μ' H' s'.heap):Ext fr μ H s μ' H' s'∧Rep prog w base fr μ' H' s'.heap:=by
 have hin:∀b,b∈Lsf fr→b∈Lsf (env::fr):=fun b hb=>by
  show b∈List.filterMap _ (env::fr)
  rw[List.filterMap_cons,hf]; exact .tail _ hb
 refine⟨⟨e.old,fun a ha hn=>?_,fun b o eb nb=>?_,e.rest.1.trans gr.1,e.rest.2.trans gr.2⟩,⟨r'.inj,r'.obj,r'.new,fun a ha z=>r'.ap a ha (hin _ z),r'.stay⟩⟩
 ·have:=e.fresh a ha hn;exact nk (k _) this
 ·have nL:b≠L:=fun z=>by rw[z,hL] at eb; exact (noS eb).elim
  obtain⟨k1,sl,k2⟩:=e.keep b o nL (k b o eb) nb;refine⟨fun hb=>k1 fun z=>?_,sl,k2⟩;have:b∈List.filterMap (fun x:Env=>x.frame) (env::fr):=z;rw[List.filterMap_cons,hf] at this;rcases List.mem_cons.mp this with z|z
  ·exact nL z
  ·exact hb z
set_option backward.match.sparseCases true in
theorem enter_def {f:Addr} {fd:FuncData} {body:List PySem.Stmt} {d:Fun} (g:Ground0 prog w G S K base) (hd:DefOk G base f fd body d) (hA:A.frames=some fr) (hh:A.handled=none) (hroom:A.depth<recursionLimit)
 {as:List AV} {vals:List Value} {R:Result→Shared→Prop} (r:Rep prog w base fr μ H s.heap) (frs:s.heap.FunFrames base fr) (x:VRs μ (Dm H) s.heap as vals) (hlen:as.length=d.params)
 (q:∀env s1,env.frame=some env.locals→env.scope=fd.scope→Fix (tabOf 0 fd.scope.names) (A.deeper env) env (env::fr)→St prog w base (tabOf 0 fd.scope.names) env (env::fr) (args0 as) μ H s1 →
  (∀b o,s.heap.get? b=some o→s1.heap.get? b=some o)→s1.gens=s.gens∧s1.os=s.os→s.heap.get? env.locals=none →
  wpAny (model prog w) (A.deeper env) (execs body env) (fun f s'=>R (.ok (.ret (match f with|.ret v=>v|_=>.none))) s')
   (fun e s'=>wpAny (model prog w) (A.deeper env) (leaving env e) (fun _ s''=>R (.error e) s'') (fun e' s''=>R (.error e') s'') s') s1) :
 codeAny (model prog w) A (.call (.ref f) ⟨vals,[]⟩) R s:=by
 have fits:=hd.fits;unfold fdB at fits;simp only[Bool.and_eq_true,List.isEmpty_iff,beq_iff_eq,Option.isNone_iff_eq_none,decide_eq_true_eq,Bool.not_eq_true'] at fits;refine kf fun kG=>?_;obtain⟨⟨⟨⟨⟨⟨⟨⟨⟨⟨⟨⟨⟨⟨⟨f1,f2⟩,f3⟩,f4⟩,f5⟩,f6⟩,f7⟩,f8⟩,f9⟩,f10⟩,f11⟩,f12⟩,f13⟩,f14⟩,f15⟩,f16⟩:=fits;have f11':fd.defaults = .none:=by
  revert f11; generalize fd.defaults=d; induction d using Value.casesOn<;>first|exact fun _=>rfl|exact fun e=>(noB e).elim
 have TK:=tab_ok f15;refine E12 hd.obj fun fo hfo hfd=>?_;have hN:(fd.params.args.map (·.arg)).length=vals.length:=by refine rwE f12 ?_; refine rwS hlen ?_; refine rwE x.length ?_; rfl
 refine kG ?_; clear kG;have pOk:∀(i:Nat) (y:Str),(fd.params.args.map (·.arg))[i]? = some y→(tabOf 0 fd.scope.names).lookup y=some (.loc i)∨((tabOf 0 fd.scope.names).lookup y=some (.cell i)∧fd.scope.names.lookup y=some .cell):=fun i y hy=>by
  have:=List.all_eq_true.mp f14 (y,i) (List.mem_zipIdx_iff_getElem?.mpr hy);simpa using this
 refine codeAny_call_function hroom (r.stay _ _ hfo) hfd f4 f5 hd.body (hd.code.keeps r.stay) (binds_plain f7 f8 f9 f10 f11' hN f13 _ _ _ _ ?_);refine rwE f1 ?_;refine wpAny_newFunctionEnv_cells f6 (fun p hp=>?_) fun env he s1 ic=>?_
 ·refine kf fun kG=>?_;obtain⟨i,hi⟩:=List.mem_iff_getElem?.mp hp;rw[List.getElem?_zip_eq_some] at hi;rcases pOk i p.1 hi.1 with z|⟨z,z2⟩
  ·refine kG ?_; clear kG;exact .inl (TK.loc _ _ z)
  ·refine kG ?_; clear kG;exact .inr ⟨z2,cells_find _ _ _ _ (.inl z2)⟩
 have e1:env.locals=s.heap.objs.size:=by rw[he]; rfl
 have e2:env.frame=some env.locals:=by rw[he]; rfl
 have e3:env.scope=fd.scope:=by rw[he]; rfl
 have e4:env.cells=cellsFrom (s.heap.objs.size+1) fd.scope.names []:=by rw[he]; rfl
 have e5:env.globals=fd.globals:=by rw[he]; rfl
 have e6:env.builtins=fd.builtins:=by rw[he]; rfl
 have hk:=ic.toInCall.keep;have hko:∀y,env.kindOf y=fd.scope.names.lookup y:=fun y=>by rw[Env.kindOf,e3]
 refine⟨(g.nolimit.keeps r.stay).keeps hk,codeAny_func ?_⟩;refine kf fun kG=>?_;refine E21 ic.toInCall.same fun h1 tk hs1=>?_;have gr:s1.gens=s.gens∧s1.os=s.os:=by refine rwE hs1 ?_; exact⟨rfl,rfl⟩
 have hL:s.heap.get? env.locals=none:=by refine rwE e1 ?_; exact get_size _
 obtain⟨r1,ex1⟩:=r.more (s':=s1) hk gr;refine kG ?_; clear kG;have nI:¬Img μ H env.locals:=fun⟨a,ha,z⟩=>by
  refine E12 (r.there a ha) fun ob e' _=>?_;rw[z,hL] at e';exact (noS e').elim
 have r2:Rep prog w base (env::fr) μ H s1.heap:=⟨r1.inj,r1.obj,r1.new,fun a ha z=>by
  have:μ a∈List.filterMap (fun x:Env=>x.frame) (env::fr):=z;rw[List.filterMap_cons,e2] at this;refine kf fun kG=>?_;rcases List.mem_cons.mp this with z|z
  ·refine kG ?_; clear kG;exact nI ⟨a,ha,z⟩
  ·refine kG ?_; clear kG;exact r1.ap a ha z,r1.stay⟩
 have ns:=ic.toInCall.ns;have frs1:s1.heap.FunFrames base (env::fr):=by
  refine E33 ns fun o es ep ho hdt _=>?_;refine⟨by refine rwE e3 ?_; refine rwE f6 ?_; decide,⟨env.locals,o,e2,?_,ho,fun vs z=>by rw[hdt] at z; cases z⟩,ex1.frames r (fun _ h=>h) frs⟩;exact nk (r.stay _) hL
 have x1:=ex1.vrs r x;have par:∀y i v,((tabOf 0 fd.scope.names).lookup y=some (.loc i)∨(tabOf 0 fd.scope.names).lookup y=some (.cell i))→args0 as i=some v→(fd.params.args.map (·.arg))[i]? = some y∧∃u,vals[i]? = some u∧VR μ (Dm H) s1.heap v u:=fun y i v hy hv=>by
  refine E12 (x1.get hv) fun u hu xu=>?_;have hi:i<(fd.params.args.map (·.arg)).length:=by refine rwE hN ?_; exact (List.getElem?_eq_some_iff.mp hu).1
  have h1:(fd.params.args.map (·.arg))[i]? = some (fd.params.args.map (·.arg))[i]:=List.getElem?_eq_getElem hi;have h2:(fd.params.args.map (·.arg))[i]=y:=by
   refine TK.uniq _ _ i ?_ hy;refine kf fun kG=>?_;rcases pOk i _ h1 with z|⟨z,_⟩
   ·refine kG ?_; clear kG;exact .inl z
   ·refine kG ?_; clear kG;exact .inr z
  exact⟨h2▸h1,u,hu,xu⟩
 have lo:Lo (tabOf 0 fd.scope.names) env (args0 as) μ H s1.heap:=by
  refine⟨⟨_,ns,fun y i v h1 h2=>?_⟩,fun y i v h1 h2=>?_,nI⟩
  ·refine kf fun kG=>?_;obtain⟨p1,u,p2,p3⟩:=par y i v (.inl h1) h2;refine kG ?_; clear kG;exact⟨u,bindL_get f13 p1 p2 (by refine rwE (hko ..) ?_; exact TK.loc _ _ h1),p3⟩
  ·refine kf fun kG=>?_;obtain⟨p1,u,p2,p3⟩:=par y i v (.inr h1) h2;have hk':fd.scope.names.lookup y=some .cell:=by
    refine kf fun kG=>?_;rcases pOk i y p1 with z|⟨_,z⟩
    ·rw[z] at h1;cases h1
    ·refine kG ?_; clear kG;exact z
   obtain⟨c,hc'⟩:=Option.isSome_iff_exists.mp (cells_find fd.scope.names (s.heap.objs.size+1) [] y (.inl hk'));have hcl:env.cells.lookup y=some c:=by refine rwE e4 ?_; exact hc'
   have:=ic.cell y c hcl;rw[bindC_get f13 p1 p2 (by rw[hko]; exact hk')] at this;refine kG ?_; clear kG;exact⟨c,u,hcl,this,p3⟩
 have st:St prog w base (tabOf 0 fd.scope.names) env (env::fr) (args0 as) μ H s1:=⟨r2,frs1,lo⟩;have fx:Fix (tabOf 0 fd.scope.names) (A.deeper env) env (env::fr):=⟨Around.frames_deeper hA,hh,by refine rwE (e3 ..) ?_; exact f6,by refine rwE (e5 ..) ?_; exact f2,by refine rwE (e6 ..) ?_; exact f3,⟨env,fr,rfl,rfl⟩,fun y i z=>by refine rwE (hko ..) ?_; exact TK.loc y i z,fun y i z=>by refine rwE (hko ..) ?_; exact TK.cel y i z,fun y z=>by refine rwE (hko ..) ?_; exact TK.glo y z,TK.uniq,TK.nd,fun y i z=>by
  have:=List.all_eq_true.mp f16 _ (lookup_mem z);refine rwE e4 ?_;exact cells_find _ _ _ _ (.inl (by exact eq_of_beq this))⟩
 exact q env s1 e2 e3 fx st hk gr hL
theorem call_def {f:Addr} {fd:FuncData} {body:List PySem.Stmt} {d:Fun} (g:Ground0 prog w G S K base) (hd:DefOk G base f fd body d) (hA:A.frames=some fr) (hh:A.handled=none) (hroom:A.depth<recursionLimit) (F:Addr→Option Fun)
 (ih:∀env,env.frame=some env.locals→env.scope=fd.scope→Fix (tabOf 0 fd.scope.names) (A.deeper env) env (env::fr)→SSs prog w S base (tabOf 0 fd.scope.names) (A.deeper env) env (env::fr) call body d.body)
 {as:List AV} {Ps:Post} {vals:List Value} {R:Result→Shared→Prop} (r:Rep prog w base fr μ H s.heap) (frs:s.heap.FunFrames base fr) (x:VRs μ (Dm H) s.heap as vals)
 (hc:as.length=d.params∧swps S call d.body (fun _ x=>Ps (.exc x)) (fun _ x=>Ps (.exc x)) (args0 as) (fun _=>Ps (.ok .none)) (fun v=>Ps (.ok v)) H)
 (q:∀v s' μ' H' a,Ext fr μ H s μ' H' s'→Rep prog w base fr μ' H' s'.heap→VR μ' (Dm H') s'.heap a v→Ps (.ok a) H'→R (.ok (.ret v)) s')
 (qe:∀e s' μ' H' x,Ext fr μ H s μ' H' s'→Rep prog w base fr μ' H' s'.heap→Flys S.unheld s.heap μ' H' s'.heap e x→Ps (.exc x) H'→R (.error e) s') :
 codeAny (model prog w) A (.call (.ref f) ⟨vals,[]⟩) R s:=by
 obtain⟨hlen,hc⟩:=hc;refine enter_def g hd hA hh hroom r frs x hlen fun env s1 e2 e3 fx st hk gr hL=>?_;refine ih env e2 e3 fx (args0 as) μ H s1 _ _ _ _ _ _ st hc ⟨fun s' μ' H' ρ' ee st' k=>?_,fun v s' μ' H' a ρ' ee st' xv k=>?_,fun e s' μ' H' ρ' y ee st' fl k=>?_,fun e s' μ' H' ρ' y ee st' fl k=>?_⟩
 ·obtain⟨d1,d2⟩:=drop r hk gr hL e2 ee st'.rep;exact q .none s' μ' H' .none d1 d2 .none k
 ·obtain⟨d1,d2⟩:=drop r hk gr hL e2 ee st'.rep;exact q v s' μ' H' a d1 d2 xv k
 ·refine leaving_ok (Around.frames_deeper hA) e2 st' st.rep.stay ee (ee.away st'.rep st'.lob) (.inr fl) fun h2 ee2 st2 k2 fl2=>?_;obtain⟨d1,d2⟩:=drop (s':={ s' with heap:=h2 }) r hk gr hL e2 ee2 st2.rep;exact qe e _ μ' H' y d1 d2 (fl2.up fun b hb=>nk (hk b) hb) k
 ·refine leaving_ok (Around.frames_deeper hA) e2 st' st.rep.stay ee (ee.away st'.rep st'.lob) (.inl fl) fun h2 ee2 st2 k2 fl2=>?_;obtain⟨d1,d2⟩:=drop (s':={ s' with heap:=h2 }) r hk gr hL e2 ee2 st2.rep;exact qe e _ μ' H' y d1 d2 (fl2.up fun b hb=>nk (hk b) hb) k
end
noncomputable abbrev excM:List Value:=[.type "Exception",.type "BaseException",.type "object"]
structure ExcOk (G:Gl) (K:Frag) (base:Heap) (C fI:Addr) (fd:FuncData):Prop where
 keep:keepIn K (.ref C)=true
 cls:∀P:Prop,(∀nm q N bs sn sub ab col dd k0 k1 k2 k3 k5 mN,base.get? C=some (excClassObj nm q C N bs excM true sn sub ab col dd k0 k1 k2 k3 k5 "Exception.__new__")→base.Ns N mN→mN "__init__" = some (.ref fI)→mN "__setattr__" = none→mN (nmS 28)=none→mN "__getattribute__" = none→mN "__getattr__" = none→P)→P
 fn:∃fo,base.get? fI=some fo∧fo.cls = .type "function"
 ini:∀P:Prop,(∀self item p1 p2 p3 p4 bd,DefOk G base fI fd [.Assign [.Attribute (.Name self p1) (nmS 28) p2] (.Name item p3) p4] ⟨2,bd⟩→(tabOf 0 fd.scope.names).lookup self=some (.loc 0)→(tabOf 0 fd.scope.names).lookup item=some (.loc 1)→P)→P
theorem item_none:typeLookup (.type "Exception") (nmS 28)=pure none:=by refine rwE (typeLookup_type ..) ?_; refine rwE (builtinLookup_eq_fast ..) ?_; kernel_rfl
section
variable {prog:Program} {w:World} {G:Gl} {S:Stat} {K:Frag} {base:Heap} {M:Model}
variable {T:NT} {A:Around} {env env':Env} {fr outer:List Env} {ρ ρ' ρ₁:Loc} {μ μ' μ'' μ₀:AA→Addr} {D D':AA→Prop} {H H' H'' H₀:AH} {s s' s'' s₀ s₁:Shared} {call:Callee} {h h' h0:Heap} {E:Value→Shared→Prop} {L L' C fI:Addr} {fd:FuncData}
theorem St.local {A₁:Around} (F:Fix T A env fr) (st:St prog w base T env fr ρ μ H s) {x:Str} {i:Nat} {a:AV} {pos:Pos} (hT:T.lookup x=some (.loc i)) (ha:ρ i=some a) {Q:Value→Shared→Prop} (q:∀u,VR μ (Dm H) s.heap a u→Q u s):wpAny (model prog w) A₁ (eval (.Name x pos) env) Q E s:=by
 refine kf fun kG=>?_;obtain⟨⟨m,hn,hl⟩,hc,hap⟩:=st.lo;refine E12 (hl x i a hT ha) fun u e1 e2=>?_;refine kG ?_; clear kG;exact wpAny_Name (wpAny_loadName_local F.kind (F.loc x i hT) hn e1 (q u e2)) (F.nd x _ hT).1
open Builtin Builtin.ObjectAttr in
theorem lay_entry {nm q:Str} {N x:Addr} {bs:List Value} {sn:List Str} {sub:List Value} {ab:Bool} {col:Option Bool} {dd:Option Addr} {k0 k1 k2 k3 k5:Option Value} {newId:String} {mN:Str→Option Value} {name:Str} {v:Value} {g:Array GenState} {d:Drawn} {t:Nat} {os:OsState} {o:Obj} {tk:Tok} {Q:PySem.Fin→Shared→Prop}
 (hC:h.get? C=some (excClassObj nm q C N bs excM true sn sub ab col dd k0 k1 k2 k3 k5 newId)) (hn:h.Ns N mN) (hna:mN name=none) (hB:typeLookup (.type "Exception") name=pure none)
 (hx:h.get? x=some o) (hc:o.cls = .ref C) (hd:o.dict=none) {vs:Array Value} (hdt:o.data = .fields vs)
 (hq:∀h' tk',h'.get? x=some { o with dict:=some h.objs.size }→h'.Ns1 h.objs.size (fun y=>if y=name then some v else none)→(∀b ob,b≠x→h.get? b=some ob→h'.get? b=some ob)→Q (.done (.ret .none)) ⟨h',g,d,tk',os⟩) :
 wpAny (model prog w) A (Builtin.«object.__setattr__» ⟨[.ref x,.str name tk,v],[]⟩) Q E ⟨h,g,d,t,os⟩:=by
 have hpass:=F.store_Exception.passes (.ref x);have hmro:=F.store_Exception.mro;unfold Builtin.«object.__setattr__»
 repeat (first|rw[refuse_eq]|(rw[refuseLoop_ref,hpass])|(with_reducible refine wpAny_loadPart_at hx ?_; rw[hc])|with_reducible refine wpAny_mroOf_exc hC ?_|(with_reducible refine wpAny_typeLookup_exc hC hn hmro hB ?_; rw[hna])|wp_step)
 rw[hd,if_neg (by simp[typeHasDict])];refine rwE hdt ?_;dsimp only
 ·have hxs:x≠h.objs.size:=Nat.ne_of_lt (Heap.lt_size hx);refine wpAny_bind (wpAny_alloc' (wpAny_bind (wpAny_update' (Heap.get?_push_of_some _ hx) (wpAny_pure ?_))));have hx2:((h.push { cls:=.type "dict",data:=.dict #[] }).update x fun o=>{ cls:=o.cls,dict:=some h.objs.size,data:=o.data,slots:=o.slots }).get? x=some { o with dict:=some h.objs.size }:=by
   refine Heap.get?_update_self _ (Heap.get?_push_of_some _ hx) ?_;exact Obj.isFreed_of_fields (vs:=vs) hdt
  have hgd:((h.push { cls:=.type "dict",data:=.dict #[] }).update x fun o=>{ cls:=o.cls,dict:=some h.objs.size,data:=o.data,slots:=o.slots }).get? h.objs.size=some { cls:=.type "dict",data:=.dict #[] } :=
   (Heap.get?_update_ne _ _ _ _ hxs.symm).trans (Heap.get?_push_at rfl rfl)
  show wpAny _ _ (storeInDict h.objs.size (.str name tk) name v) _ _ _
  unfold storeInDict newKeyGuard;refine wpAny_bind (wpAny_pure (wpAny_bind (wpAny_nsSet1 (Heap.Ns1.of_empty ⟨_,#[],_,hgd,rfl,fun e he=>absurd he (by simp),fun _=>rfl⟩) fun h' hn' hs=>?_)));refine E33 (hn'.count (Within.cons name v Within.nil)) fun oD esD epD hoD hdD hcD=>?_;refine wpAny_bind (wpAny_lookBehind hoD (by rw[hdD]; exact pastItsLine_dict (Nat.le_trans hcD (by rw[List.length_cons,List.length_nil,sizeLine_eq]; lia))) ?_);wp_walk
  exact hq h' _ ((hs.2 x hxs).trans hx2) hn' fun b ob nb eb=>(hs.2 b (Nat.ne_of_lt (Heap.lt_size eb))).trans ((Heap.get?_update_ne _ _ _ _ nb).trans (Heap.get?_push_of_some _ eb))
theorem lay_attr {nm q:Str} {N x:Addr} {bs:List Value} {sn:List Str} {sub:List Value} {ab:Bool} {col:Option Bool} {dd:Option Addr} {k0 k1 k2 k3 k5:Option Value} {newId:String} {mN:Str→Option Value} {name:Str} {v:Value} {g:Array GenState} {d:Drawn} {t:Nat} {os:OsState} {o:Obj} {Q:Unit→Shared→Prop}
 (hC:h.get? C=some (excClassObj nm q C N bs excM true sn sub ab col dd k0 k1 k2 k3 k5 newId)) (hn:h.Ns N mN) (hns:mN "__setattr__" = none) (hna:mN name=none) (hB:typeLookup (.type "Exception") name=pure none)
 (hx:h.get? x=some o) (hc:o.cls = .ref C) (hd:o.dict=none) {vs:Array Value} (hdt:o.data = .fields vs)
 (hq:∀h' tk',h'.get? x=some { o with dict:=some h.objs.size }→h'.Ns1 h.objs.size (fun y=>if y=name then some v else none)→(∀b ob,b≠x→h.get? b=some ob→h'.get? b=some ob)→Q () ⟨h',g,d,tk',os⟩) :
 wpAny (model prog w) A (setAttr (.ref x) name v) Q E ⟨h,g,d,t,os⟩:=by
 have SF:=F.store_Exception;have f3:=SF.slot.bind (.ref x);unfold setAttr callSpecial? specialOf
 repeat (any_goals (first|assumption|(with_reducible refine wpAny_loadPart_at hx ?_; (refine rwE hc ?_))|(with_reducible refine wpAny_typeLookup_exc hC hn SF.mro SF.slot.lookup ?_; (refine rwE hns ?_))|wp_step))
 refine codeAny_call_builtin SF.slot.plain SF.entry ?_;refine rwE (show ([Value.ref x]++[Value.str name t,v]:List Value)=[.ref x,.str name t,v] from rfl) ?_;with_reducible refine wpAny_check_sa SF hC hx hc ?_
 with_reducible refine lay_entry hC hn hna hB hx hc hd hdt fun h' tk' a1 a2 a3=>?_
 repeat (any_goals (first|assumption|wp_step))
 exact hq h' tk' a1 a2 a3
theorem made_ok (g:Ground0 prog w G S K base) (X:ExcOk G K base C fI fd) (hh:A.handled=none) (hA:A.frames=some fr) (hr:A.depth+2<recursionLimit) (st:St prog w base T env fr ρ μ H s) {a:AV} {v:Value} (x:VR μ (Dm H) s.heap a v) {Q:Value→Shared→Prop}
 (q:∀ea s',Ext fr μ H s μ H s'→Rep prog w base fr μ H s'.heap→Raisd C s.heap μ H s'.heap (.ref ea) a→Q (.ref ea) s'):wpAny (model prog w) A (PySem.call (.ref C) [v]) Q E s:=by
 refine kf fun kG=>?_;refine X.cls _ fun nm q0 N bs sn sub ab col dd k0 k1 k2 k3 k5 mN hC hN hI hsa hit hga hgt=>?_;refine E12 X.fn fun fo hfo hfc=>?_;refine X.ini _ fun self item p1 p2 p3 p4 bd D l0 l1=>?_;obtain⟨hp,gg,dr,tk,os⟩:=s;have kb:=st.rep.stay;refine kG ?_; clear kG;refine wpAny_call_exc_init F.excBase_Exception (kb _ _ hC) (hN.keeps kb) hI (kb _ _ hfo) hfc fun h1 e M1=>?_;refine E13 M1.there fun t ht htn htt=>?_;refine rwE (under_tc ..) ?_;refine kf fun kG=>?_;obtain⟨r1,ex1⟩:=st.rep.more (s:=⟨hp,gg,dr,tk,os⟩) (s':=⟨h1,gg,dr,tk,os⟩) M1.keeps ⟨rfl,rfl⟩;have st1:=st.ext ex1 r1;refine kG ?_; clear kG;refine wpAny_call (enter_def (A:={ A with depth:=A.depth+1,units:=A.units+1 }) (s:=⟨h1,gg,dr,tk,os⟩) (as:=[.glob e,a]) g D hA hh (by show A.depth+1<_; lia) r1 st1.frs (.cons (.glob e) (.cons (ex1.vr st.rep x) .nil)) rfl fun env2 s2 f1 f2 F2 st2 hk2 gr2 hL2=>?_);refine wpAny_execs_cons (plainObj_wpAny_Assign_Attribute (st2.local F2 l1 rfl fun u xu=>st2.local F2 l0 rfl fun u' xu'=>?_) (by rfl));refine kf fun kG=>?_;cases xu';have k12:∀b o,hp.get? b=some o→s2.heap.get? b=some o:=fun b o eb=>hk2 b o (M1.keeps b o eb);have kb2:base.StaysIn s2.heap:=fun b o eb=>k12 b o (kb b o eb);have he2:=hk2 e _ ht;refine kG ?_; clear kG;have hne:e≠C:=fun z=>by
  have:=k12 C _ (kb _ _ hC);rw[←z,he2] at this;cases this
 refine kf fun kG=>?_;obtain⟨hp2,gg2,dr2,tk2,os2⟩:=s2;refine kG ?_; clear kG;have dom2:∀b,hp2.get? b=none→hp.get? b=none:=fun b hb=>nk (k12 b) hb;refine lay_attr (kb2 _ _ hC) (hN.keeps kb2) hsa hit item_none he2 rfl rfl rfl fun h3 tk3 I3 I4 K3=>?_;have no:∀b,b=e→(∃o,hp2.get? b=some o)→hp.get? b=none∧∃o vs,hp2.get? b=some o∧o.data = .fields vs:=fun b z _=>by subst z; exact⟨M1.new,_,_,he2,rfl⟩
 have KX:KeptX (env2::fr) (· = e) hp2 h3:=fun b o nb eb=>by
  have:=K3 b o nb eb;exact⟨fun _=>this,o.slots,this⟩
 have eL:ExtL env2.locals (env2::fr) μ H ⟨hp,gg,dr,tk,os⟩ μ H ⟨hp2,gg2,dr2,tk2,os2⟩:=⟨fun a ha=>⟨ha,rfl⟩,fun a ha hn=>absurd hn ha,fun b o _ eb _=>⟨fun _=>k12 b o eb,o.slots,k12 b o eb⟩,gr2⟩;refine E03 (rec_go (s₀:=⟨hp,gg,dr,tk,os⟩) st2 kb eL no KX) fun g1 g2 g3=>?_;refine wpAny_execs_nil ⟨rfl,?_⟩;have hLo:hp.get? env2.locals=none:=nk (M1.keeps _) hL2;refine kf fun kG=>?_;obtain⟨d1,d2⟩:=drop (L:=env2.locals) (s:=⟨hp,gg,dr,tk,os⟩) (s₁:=⟨hp,gg,dr,tk,os⟩) (s':=⟨h3,gg2,dr2,tk3,os2⟩) st.rep (fun _ _ z=>z) ⟨rfl,rfl⟩ hLo f1 ⟨g1.old,g1.fresh,g1.keep,g1.rest⟩ g2.rep;have hDo:hp2.get? hp2.objs.size=none:=get_size hp2;refine kG ?_; clear kG;refine q e ⟨h3,gg2,dr2,tk3,os2⟩ d1 d2 ⟨e,_,_,hp2.objs.size,rfl,I3,rfl,rfl,rfl,rfl,M1.new,dom2 _ hDo,fun⟨c,hc,z⟩=>?_,_,u,I4,by simp,xu.mono (fun _ d=>⟨d,rfl⟩) g3⟩;refine E12 (st2.rep.there c hc) fun ob e' _=>?_;rw[z] at e';have e'':hp2.get? hp2.objs.size=some ob:=e';rw[hDo] at e'';exact (noS e'').elim
theorem raise_made {nm q:Str} {N:Addr} {bs bm:List Value} {hdct:Bool} {sn:List Str} {sub:List Value} {ab:Bool} {col:Option Bool} {dd:Option Addr} {k0 k1 k2 k3 k5:Option Value} {newId:String} {x:Sem Value} {Q:Flow→Shared→Prop} (hbase:bm.contains (.type "BaseException")=true) (hh:A.handled=none)
 (h:wpAny M A x (fun v s₁=>∃e oe,v = .ref e∧s₁.heap.get? C=some (excClassObj nm q C N bs bm hdct sn sub ab col dd k0 k1 k2 k3 k5 newId)∧s₁.heap.get? e=some oe∧oe.cls = .ref C∧(∃vs,oe.data = .fields vs∧vs[1]? = some .none)∧E (.ref e) s₁) E s) :
 wpAny M A (raiseStmt env (some x) none) Q E s:=by
 have hcB:(Value.ref C::bm).contains (.type "BaseException")=true:=by refine rwE (List.contains_cons ..) ?_; refine rwE (hbase ..) ?_; refine rwE (Bool.or_true ..) ?_; rfl
 skip
 refine wpAny_bind (wpAny_mono h (fun v s₁ h₁=>?_) fun _ _ x=>x);refine kf fun kG=>?_;obtain⟨e,oe,rfl,hC,he,hcl,⟨vs,hd,hv⟩,hE⟩:=h₁;obtain⟨hp,g,d,tk,os⟩:=s₁;obtain⟨oc,od,odt,osl⟩:=oe;simp at hcl hd
 subst hcl;subst hd;refine kG ?_; clear kG
 repeat (first|with_reducible refine wpAny_loadPart_at he ?_|with_reducible refine wpAny_field he rfl hv ?_|with_reducible refine wpAny_loadPart_at hC ?_|(with_reducible refine wpAny_isSubtype_exc hC ?_; (refine rwE hcB ?_))|wp_step)
 exact wpAny_raiseNew_none hh hE
theorem ss_raise {x:Str} {CC:Addr} {es:List PySem.Expr} {ms:List ME} {p cpos pos:Pos} (F:Fix T A env fr) (g:Ground0 prog w G S K base) (X:ExcOk G K base S.unheld fI fd) (hr:A.depth+2<recursionLimit) (hT:T.lookup x=some .glob) (hf:G.clss.lookup x=some CC) (hs:es.all notStar=true) (hl:es.length=ms.length)
 (h1:SL prog w S base T A env fr call es ms):SS prog w S base T A env fr call (.Raise (some (.Call (.Name x p) es [] cpos)) none pos) (.raise CC ms):=fun ρ μ H s X' Y N R P E st h k=>by
 refine kf fun kG=>?_;obtain⟨rfl,h⟩:=h;refine X.cls _ fun nm q0 N0 bs sn sub ab col dd k0 k1 k2 k3 k5 mN hC hN hI hsa hit hga hgt=>?_;refine kG ?_; clear kG;refine rwE (arm_exec_Raise ..) ?_;refine wpAny_bind (wpAny_standAt (raise_made (C:=S.unheld) (nm:=nm) (q:=q0) (N:=N0) (bs:=bs) (hdct:=true) (sn:=sn) (sub:=sub) (ab:=ab) (col:=col) (dd:=dd) (k0:=k0) (k1:=k1) (k2:=k2) (k3:=k3) (k5:=k5) (newId:="Exception.__new__") (bm:=excM) (by decide) F.hand ?_))
 refine wpAny_bind (?_:wpAny (model prog w) A (eval (.Call (.Name x p) es [] cpos) env) _ _ s);refine E12 g.glo fun mg hg _=>?_;have hv:=(g.defs mg hg).2 x _ hf;refine callN (ld_glob F st hT hg hv (callWith_ok g X.keep hs hl h1 st h (fun vs s1 μ1 H1 as e1 st1 x1 k1=>?_) (k.px st)));refine kf fun kG=>?_;cases x1 with
 |nil =>
  refine kG ?_; clear kG;exact k1.elim
 |@cons a v as' vs' xa xr =>
  cases xr with
  |cons _ _ =>
   refine kG ?_; clear kG;exact k1.elim
  |nil =>
   refine kG ?_; clear kG;refine made_ok g X F.hand F.frames hr st1 xa fun ea s2 e2 r2 rs=>?_;refine wpAny_bind (wpAny_standAt (wpAny_pure ?_));refine kf fun kG=>?_;obtain⟨ea',oe,vs2,Dd,z1,z2,z3,z4,z5,z6,z7,z8⟩:=id rs;cases z1;refine kG ?_; clear kG;refine⟨ea,oe,rfl,r2.stay _ _ hC,z2,z3,⟨vs2,z5,z6⟩,?_⟩;have e12:=e1.trans e2 st1.rep;exact k.here _ _ _ _ ρ a e12.toL (st1.ext e2 r2) (rs.up (e1.away st1.rep)) k1
end
section
open Builtin Builtin.ObjectAttr
section
variable {prog:Program} {w:World} {A:Around} {E:Value→Shared→Prop} {h:Heap} {g:Array GenState} {d:Drawn} {t:Nat} {os:OsState}
variable {nm q:Str} {C N x:Addr} {bs:List Value} {sn:List Str} {sub:List Value} {ab:Bool} {col:Option Bool} {dd:Option Addr} {k0 k1 k2 k3 k5:Option Value} {newId:String}
 {mN mA:Str→Option Value} {name:Str} {v:Value}
theorem notCls {α:Type} {d:Data} {f:ClassData→α} {b:α} (h:∀c,d≠.cls c):Builtin.ObjectAttr.ownDict.match_1 (fun _=>α) d f (fun _=>b)=b:=by
 induction d using Data.casesOn<;>first|rfl|exact absurd rfl (h _)
theorem item_entry {tk:Tok} {Q:Fin→Shared→Prop}
 (hC:h.get? C=some (excClassObj nm q C N bs excM true sn sub ab col dd k0 k1 k2 k3 k5 newId)) (hn:h.Ns N mN) (hna:mN name=none)
 (hB:typeLookup (.type "Exception") name=pure none) (I:h.Inst x C mA) (hv:mA name=some v) (hq:Q (.done (.ret v)) ⟨h,g,d,t,os⟩) :
 wpAny (model prog w) A (Builtin.«object.__getattribute__» ⟨[.ref x,.str name tk],[]⟩) Q E ⟨h,g,d,t,os⟩:=by
 refine kf fun kG=>?_;refine E14 I fun o hx hc hnc hd=>?_;rcases hd with⟨_,hmA⟩|⟨dx,hdx,hne,hns⟩
 ·rw[hmA name] at hv;exact (noS hv).elim
 have hmro:=F.attrBase_Exception.mro;refine kG ?_; clear kG;unfold Builtin.«object.__getattribute__»
 repeat (first|(with_reducible refine wpAny_loadPart_at hx ?_; (refine rwE hc ?_))|(with_reducible refine wpAny_typeLookup_exc hC hn hmro hB ?_; (refine rwE hna ?_))|wp_step)
 refine rwE (notCls hnc) ?_;skip
 repeat (first|(with_reducible refine wpAny_loadPart_at hx ?_; (refine rwE hc ?_))|with_reducible refine wpAny_loadPart_at hC ?_|wp_step)
 refine rwE hdx ?_;skip
 repeat (first|(with_reducible refine wpAny_nsGet hns.ns ?_; (refine rwE hv ?_))|wp_step)
 exact hq
theorem item_by {tk:Tok} {fill expr:Bool} {Q:Value→Shared→Prop}
 (hC:h.get? C=some (excClassObj nm q C N bs excM true sn sub ab col dd k0 k1 k2 k3 k5 newId)) (hn:h.Ns N mN) (hga:mN "__getattribute__" = none) (hg:mN "__getattr__" = none) (hna:mN name=none)
 (hB:typeLookup (.type "Exception") name=pure none) (I:h.Inst x C mA) (hv:mA name=some v) (hh:handedIn v=true) (hq:Q v ⟨h,g,d,t,os⟩) :
 wpAny (model prog w) A (getAttrBy (.ref x) (.str name tk) fill expr) Q E ⟨h,g,d,t,os⟩:=by
 refine E13 (id I) fun o hx hc _=>?_;have FB:=F.attrBase_Exception;have hmro:=F.attrBase_Exception.mro;have f3:=FB.ga.bind (.ref x);have hx0:(expr&&onTheHeap (Value.builtin "BaseException.__getattribute__"))=false:=by cases expr<;>rfl
 have hx2:(Value.builtin "BaseException.__getattribute__"==Value.builtin "object.__getattribute__")=false:=by decide +kernel
 have hx1:(onTheHeap (Value.ref C)&&Value.builtin "BaseException.__getattribute__"==Value.builtin "object.__getattribute__")=false:=by rw[hx2]; rfl
 have hho:=handedOut_of hh
 repeat (any_goals (first|assumption|(with_reducible refine wpAny_loadPart_at hx ?_; (refine rwE hc ?_))|(with_reducible refine wpAny_typeLookup_exc hC hn hmro FB.ga.lookup ?_; (refine rwE hga ?_))|(with_reducible refine wpAny_typeLookup_exc hC hn hmro FB.noGetattr ?_; (refine rwE hg ?_))|wp_step))
 refine codeAny_call_builtin FB.ga.plain F.entry_bexc_ga (wpAny_check_ga_own FB hC .base hx hc (item_entry hC hn hna hB I hv ?_))
 repeat (any_goals (first|assumption|wp_step))
theorem item_attr {expr:Bool} {Q:Value→Shared→Prop}
 (hC:h.get? C=some (excClassObj nm q C N bs excM true sn sub ab col dd k0 k1 k2 k3 k5 newId)) (hn:h.Ns N mN) (hga:mN "__getattribute__" = none) (hg:mN "__getattr__" = none) (hna:mN name=none)
 (hB:typeLookup (.type "Exception") name=pure none) (I:h.Inst x C mA) (hv:mA name=some v) (hh:handedIn v=true) (hq:Q v ⟨h,g,d,t+1,os⟩) :
 wpAny (model prog w) A (getAttr (.ref x) name expr) Q E ⟨h,g,d,t,os⟩:=by
 unfold getAttr
 repeat (any_goals (first|assumption|with_reducible apply item_by hC hn hga hg hna hB I hv hh|wp_step))
end
end
section
variable {prog:Program} {w:World} {G:Gl} {S:Stat} {K:Frag} {base:Heap} {M:Model}
variable {T:NT} {A A₁:Around} {env env':Env} {fr outer:List Env} {ρ ρ' ρ₁ ρ₂:Loc} {μ μ' μ'' μ₀:AA→Addr} {D D':AA→Prop} {H H' H'' H₀:AH} {s s' s'' s₀ s₁:Shared} {call:Callee} {h h' h0:Heap} {E:Value→Shared→Prop} {L L' C fI:Addr} {fd:FuncData}
theorem local_set (F:Fix T A env fr) (o:Own env) (st:St prog w base T env fr ρ μ H s) {x:Str} {i:Nat} (hx:T.lookup x=some (.loc i)) {m:Str→Option Value} {w':Option Value} (hn:s.heap.Ns env.locals m) (hl:∀x i v,T.lookup x=some (.loc i)→ρ i=some v→∃u,m x=some u∧VR μ (Dm H) s.heap v u)
 (hn':h'.Ns env.locals (fun y=>if y=x then w' else m y)) (hs:Heap.SameBut env.locals s.heap h') (h1:∀j,j≠i→∀v,ρ₂ j=some v→ρ j=some v) (h2:∀v,ρ₂ i=some v→∃u,w'=some u∧VR μ (Dm H) s.heap v u) {t:Nat} :
 ExtL env.locals fr μ H s μ H { s with heap:=h',toks:=t }∧St prog w base T env fr ρ₂ μ H { s with heap:=h',toks:=t }∧TupKeep s.heap h':=by
 have ha:=st.lo.apart;have hc:=st.lo.cel;have hn0:=hn;refine kf fun kG=>?_;refine E33 hn0 fun oL es ep hoL hdL _=>?_;refine E22 F.fst fun e0 r hfr hf0=>?_;have hLf:env.locals∈Lsf fr:=List.mem_filterMap.mpr ⟨e0,by rw[hfr]; exact .head _,by refine rwS hf0 ?_; exact o.frame⟩;have hbL:=(st.frs.mem hLf).1;have tk:TupKeep s.heap h':=tupKeep_dict hoL hdL hs;have vr:∀b u,VR μ (Dm H) s.heap b u→VR μ (Dm H) h' b u:=fun b u z=>z.mono (fun _ d=>⟨d,rfl⟩) tk;refine kG ?_; clear kG;refine⟨⟨fun a ha=>⟨ha,rfl⟩,fun a ha hn=>absurd hn ha,fun b p hb e _=>?_,rfl,rfl⟩,⟨⟨st.rep.inj,fun b p hb=>?_,st.rep.new,st.rep.ap,fun b p e=>?_⟩,?_,⟨⟨_,hn',?_⟩,?_,ha⟩⟩,tk⟩
 ·have:=(hs.2 b hb).trans e;exact⟨fun _=>this,p.slots,this⟩
 ·exact (st.rep.obj b p hb).mono (fun c hc=>⟨hc,rfl⟩) tk (hs.2 _ fun z=>ha ⟨b,by refine rwE hb ?_; simp,z⟩)
 ·exact (hs.2 b fun z=>by rw[z,hbL] at e; exact (noS e).elim).trans (st.rep.stay b p e)
 ·refine E33 hn' fun o' es' ep' ho' hd' _=>?_;exact frames_store hs ⟨o',ho',fun vs q=>by rw[hd'] at q; cases q⟩ st.frs
 ·intro y' j v' g1 g2;by_cases e:y'=x
  ·refine kf fun kG=>?_;subst e;have:j=i:=by rw[hx] at g1; cases g1; rfl
   subst this;refine E12 (h2 v' g2) fun u e1 e2=>?_;refine kG ?_; clear kG;exact⟨u,by simp[e1],vr _ _ e2⟩
  ·have hij:j≠i:=fun z=>e (F.uniq y' x j (.inl g1) (.inl (z▸hx)));refine kf fun kG=>?_;obtain⟨u,e1,e2⟩:=hl y' j v' g1 (h1 j hij v' g2);refine kG ?_; clear kG;exact⟨u,by simp[e,e1],vr _ _ e2⟩
 ·intro y' j v' g1 g2;have hij:j≠i:=fun z=>by
   have:=F.uniq y' x j (.inr g1) (.inl (z▸hx));subst this;rw[hx] at g1;cases g1
  refine kf fun kG=>?_;obtain⟨c,u,e1,⟨oc,e2,e2'⟩,e3⟩:=hc y' j v' g1 (h1 j hij v' g2);refine kG ?_; clear kG;refine⟨c,u,e1,⟨oc,(hs.2 c fun z=>?_).trans e2,e2'⟩,vr _ _ e3⟩;rw[z,hoL] at e2;obtain rfl:=Option.some.inj e2;rw[hdL] at e2';cases e2'
theorem ss_try {x n y at':Str} {CC:Addr} {i j nn:Nat} {b:List PySem.Stmt} {ms:List MS} {p1 p2 p3 p4 p5 p6 pos:Pos} (F:Fix T A env (env::outer)) (g:Ground0 prog w G S K base) (o:Own env) (X:ExcOk G K base S.unheld fI fd) (hT:T.lookup x=some .glob) (hf:G.clss.lookup x=some CC)
 (hn:Internal.locNo T n=some i) (hy:Internal.locNo T y=some j) (ha:nameNo at'=some nn) (hb:SSs prog w S base T A env (env::outer) call b ms) :
 SS prog w S base T A env (env::outer) call (.Try b [.ExceptHandler (some (.Name x p1)) (some n) [.Assign [.Name y p2] (.Attribute (.Name n p3) at' p4) p5] p6] [] [] pos) (.tryl ms CC i j nn):=fun ρ μ H s X' Y N R P E st h k=>by
 refine kf fun kG=>?_;obtain⟨rfl,rfl,hij,h⟩:=h;obtain⟨rfl,_⟩:=nameNo_some ha;have hTn:=locNo_some hn;have hTy:=locNo_some hy;refine kG ?_; clear kG;refine wpAny_Try_except (hb ρ μ H s _ _ N R _ _ st h ⟨fun s' μ' H' ρ' e1 st1 k1=>wpAny_execs_nil (k.next s' μ' H' ρ' e1 st1 k1),fun v s' μ' H' a ρ' e1 st1 x1 k1=>k.ret v s' μ' H' a ρ' e1 st1 x1 k1,fun e s1 μ1 H1 ρ1 xv e1 st1 fl k1=>?_,fun _ _ _ _ _ _ _ _ _ f=>f.elim⟩);refine kf fun kG=>?_;obtain⟨hρ,k1⟩:=k1;refine kG ?_; clear kG;refine note_ok F.frames o.frame st1 st.rep.stay e1 (e1.away st1.rep st1.lob) (.inr fl) fun h2 e2 st2 k2 f2=>?_;refine flight_ok (s:={ s1 with heap:=h2 }) st2 st.rep.stay e2 k2 f2 fun h3 e3 st3 k3 f3=>?_;refine kf fun kG=>?_;obtain⟨ea,oe,vs,T',oT,ts,Dd,rfl,z2,z3,z4,z5,z6⟩:=id f3;refine X.cls _ fun nm q0 N0 bs sn sub ab col dd k0 kk1 kk2 kk3 k5 mN hC hN hI hsa hit hga hgt=>?_;obtain⟨mg,hg,_⟩:=g.glo;have hv:=(g.defs mg hg).2 x _ hf;refine kG ?_; clear kG;refine wpAny_handleBy_cons (codeAny_handlers_test ?_) (by intro q; cases q);refine Name_function_global F.kind (F.glo x hT) (loadGlobal_global (F.glob▸hg.keeps st3.rep.stay) hv ?_) (F.nd x _ hT).1;refine wpAny_excMatches_sub_self (bm:=excM) (st3.rep.stay _ _ hC) z2 z3 (by decide) ?_;dsimp only;refine codeAny_handlers_suite_as ?_;refine flight_ok (s:={ s1 with heap:=h3 }) st3 st.rep.stay e3 k3 f3 fun h4 e4 st4 k4 f4=>?_;refine store_ok' (s:={ s1 with heap:=h4 }) (a:=.glob ea) F o st4 hTn (.glob ea) fun s5 e5 st5 vr5=>?_;refine kf fun kG=>?_;obtain⟨ea',oe4,vs4,T4,oT4,ts4,Dd4,y1,y2,y3,y4,y5,y6,y7,y8,y9,y10,y11,y12,y13⟩:=id f4;cases y1;obtain⟨q1,q2,m,v,hns,hmv,xv1⟩:=y13;have st4':St prog w base T env (env::outer) ρ1 μ1 H1 { s1 with heap:=h4 }:=st4;refine kG ?_; clear kG;have nI:¬Img μ1 H1 ea:=fun⟨c,hc,z⟩=>by
  refine kf fun kG=>?_;obtain⟨ob,e',_,nf,_⟩:=st4'.rep.there c hc;rw[z] at e';have e'':h4.get? ea=some ob:=e';rw[y2] at e'';obtain rfl:=Option.some.inj e'';refine kG ?_; clear kG;exact nf _ y5
 have nEL:ea≠env.locals:=fun z=>by
  obtain⟨oo,ho⟩:=st.lob;rw[←z,y11] at ho;exact (noS ho).elim
 have nDL:Dd4≠env.locals:=fun z=>by
  obtain⟨oo,ho⟩:=st.lob;rw[←z,q1] at ho;exact (noS ho).elim
 refine kf fun kG=>?_;obtain⟨_,sl1,g1⟩:=e5.keep ea oe4 nEL y2 nI;obtain⟨oD,esD,epD,hoD,rD⟩:=hns;obtain⟨_,sl2,g2⟩:=e5.keep Dd4 oD nDL hoD q2;have I5:s5.heap.Inst ea S.unheld m:=⟨_,g1,y3,(fun c z=>by
  have z':oe4.data = .cls c:=z;rw[y5] at z'; cases z'),.inr ⟨Dd4,y4,(fun z=>by
   refine kf fun kG=>?_;subst z;rw[y2] at hoD;obtain rfl:=Option.some.inj hoD;rw[y5] at rD;refine kG ?_; clear kG;cases rD.1),⟨_,esD,epD,g2,rD⟩⟩⟩
 have e45:=e4.go2 e5 st st4;refine kG ?_; clear kG;refine wpAny_execs_cons (wpAny_Assign_Name ?_ (by rfl));rw[arm_eval_Attribute,attrBase (by rfl)];have hi5:setL ρ1 i (.glob ea) i=some (.glob ea):=by simp[setL]
 refine wpAny_bind (st5.local F hTn hi5 fun u xu=>?_);refine kf fun kG=>?_;cases xu;obtain⟨hp5,gg5,dr5,tk5,os5⟩:=s5;have st6:=st5.toks (tk5+1);refine kG ?_; clear kG;refine wpAny_bind (wpAny_standAt (wpAny_bind (wpAny_holding (item_attr (st5.rep.stay _ _ hC) (hN.keeps st5.rep.stay) hga hgt hit item_none I5 hmv xv1.handed ?_))));refine wpAny_bind (wpAny_letTemporaryGo (wpAny_pure ?_));have e6:ExtL env.locals (env::outer) μ H s μ1 H1 ⟨hp5,gg5,dr5,tk5+1,os5⟩:=⟨e45.old,e45.fresh,e45.keep,e45.rest⟩;refine store_ok' (s:=⟨hp5,gg5,dr5,tk5+1,os5⟩) (a:=xv) F o st6 hTy (vr5 _ _ xv1) fun s7 e7 st7 _=>wpAny_execs_nil ?_;have e67:=e6.go2 e7 st st6;refine kf fun kG=>?_;obtain⟨m7,hn7,hl7⟩:=st7.lo.loc;refine kG ?_; clear kG;show wpAny _ _ (do bindName env n .none; unbindBehindTheSuite env n p6) _ _ _
 refine wpAny_nameGoes_keeps (F.loc n i hTn) hn7 o.cond fun h8 v8 hn8 hs8=>?_;obtain⟨e8,st8,_⟩:=local_set (ρ₂:=setL ρ1 j xv) (t:=s7.toks+1) F o st7 hTn hn7 hl7 hn8 hs8 (fun j' hj' v' z=>by
  by_cases q:j'=j
  ·simpa [setL,q] using z
  ·have:ρ1 j'=some v':=by simpa [setL,q] using z
   simp[setL,q,hj',this]) (fun v' z=>by
  have:ρ1 i=some v':=by simpa [setL,hij] using z
  rw[hρ] at this;exact (noS this).elim)
 exact k.next _ _ _ _ (e67.go2 e8 st st7) st8 k1
end
noncomputable def fromOn (a b:Int) (k:Nat):Bool:=if (1:Int)>0 then decide (a≤k)&&decide ((k:Int)<b)&&((k:Int) - a) % 1==0 else decide (b<k)&&decide ((k:Int)≤a)&&(a - k) % (-1)==0
theorem keep_front (n:Nat):∀(l:List Value) (j:Nat),((l.zipIdx j).filterMap fun (x,k)=>if fromOn (n:Int) ((l.length+j:Nat):Int) k then none else some x)=l.take (n - j)
 |[],j=>by simp
 |x::r,j=>by
  rw[List.zipIdx_cons,List.filterMap_cons];have ih:=keep_front n r (j+1);have e1:r.length+(j+1)=(x::r).length+j:=by simp; lia
  rw[e1] at ih;by_cases h:n≤j
  ·have hf:fromOn (n:Int) (((x::r).length+j:Nat):Int) j=true:=by
    unfold fromOn;rw[if_pos (by decide)];have a1:(n:Int)≤(j:Int):=by lia
    have a2:(j:Int)<(((x::r).length+j:Nat):Int):=by simp; lia
    simp only[a1,a2,decide_true,Bool.and_self,Int.emod_one,beq_self_eq_true,Bool.true_and]
   simp only[hf,if_true];with_reducible refine rwE ih ?_
   have:n - j=0:=by lia
   have:n - (j+1)=0:=by lia
   simp[*]
  ·have hf:fromOn (n:Int) (((x::r).length+j:Nat):Int) j=false:=by
    dsimp only[fromOn];rw[if_pos (by decide)];have a1:¬(n:Int)≤(j:Int):=by lia
    simp[a1]
   simp only[hf,Bool.false_eq_true,if_false];rw[ih];have:n - j=(n - (j+1))+1:=by lia
   refine rwE this ?_; refine rwE List.take_succ_cons ?_; rfl
section
variable {prog:Program} {w:World} {G:Gl} {S:Stat} {K:Frag} {base:Heap} {M:Model}
variable {T:NT} {A A₁:Around} {env env':Env} {fr outer:List Env} {ρ ρ' ρ₁ ρ₂:Loc} {μ μ' μ'' μ₀:AA→Addr} {D D':AA→Prop} {H H' H'' H₀:AH} {s s' s'' s₀ s₁:Shared} {call:Callee} {h h' h0:Heap} {E:Value→Shared→Prop} {L L' C fI:Addr} {fd:FuncData}
theorem delTail {l sl:Addr} {items:List Value} {m i:Nat} {t:Tok} {Q:Unit→Shared→Prop} (hl:IsL s.heap l items.toArray m) (hs:s.heap.IsSliceOf sl (.int (i:Int) t) .none .none) (hsz:items.length≤1000000)
 (h:∀h' m',IsL h' l (items.take i).toArray m'→Heap.SameBut l s.heap h'→Q () { s with heap:=h' }):wpAny (model prog w) A (delItem (.ref l) (.ref sl)) Q E s:=by
 refine E13 (id hs) fun os hos hcs hds=>?_;have hTs:s.TypeIs (.ref sl) "slice":=⟨os,hos,hcs⟩
 have hz:items.toArray.size≤sizeLine:=by refine rwE sizeLine_eq ?_; simp; lia
 refine wpAny_delItem_slot ⟨_,hl,rfl⟩ (by decide) F.slot_list_delitem (wpAny_call_entry F.slot_list_delitem ⟨_,hl,rfl⟩ F.entry_list_delitem ?_ (F.args_list_delitem_2 _ _));show wpAny _ _ (Builtin.List.listSubscript? (.ref sl) >>= _) _ _ s
 refine wpAny_bind ?_;unfold Builtin.List.listSubscript?;refine wpAny_bind (wpAny_specialOf hTs slice_no_index ?_);dsimp only[Option.isNone_none,if_true];refine wpAny_pure ?_;show wpAny _ _ (typeOf (.ref sl) >>= _) _ _ s
 refine wpAny_bind (wpAny_typeOf hTs ?_);refine rwE (if_neg (by decide)) ?_;refine rwE (listSliceParts_eq ..) ?_;refine wpAny_bind (wpAny_bind (wpAny_field hos hds (x:=.none) rfl (wpAny_bind (wpAny_listPart .none ?_))));rw[if_neg (show ¬((rawPart none==rawInt 0)=true) from Bool.false_ne_true)];refine wpAny_bind (wpAny_field hos hds (x:=.int (i:Int) t) rfl (wpAny_bind (wpAny_listPart (.int _ _) ?_)));refine wpAny_bind (wpAny_field hos hds (x:=.none) rfl (wpAny_bind (wpAny_listPart .none (wpAny_pure ?_))));refine wpAny_bind (m:=Builtin.List.listItems (.ref l)) ?_;skip
 refine wpAny_bind (wpAny_seqItems hl rfl (wpAny_pure ?_));refine wpAny_bind (wpAny_of_eq (sliceIndices_raw (some (i:Int)) none none items.toArray.size (by simp)) ?_);have hb:sliceBounds (some (i:Int)) none none items.toArray.size=(((min i items.length:Nat):Int),((items.length:Nat):Int),1):=by
  refine bounds_of ?_ ?_
  ·simp; lia
  ·simp
 refine rwE hb ?_;have kf:=keep_front (min i items.length) items 0;have hk:((items.toArray.toList.zipIdx.filterMap fun (x,k)=>if fromOn ((min i items.length:Nat):Int) ((items.length:Nat):Int) k then none else some x).toArray)=(items.take i).toArray:=by
  dsimp only[Nat.add_zero,Nat.sub_zero] at kf;rw[kf,List.take_eq_take_iff.mpr];simp
 wp_step
 refine wpAny_rule ?_;refine wpAny_bind (?_:wpAny _ _ (updateSeq l fun xs=>(xs.toList.zipIdx.filterMap fun (x,k)=>if fromOn ((min i items.length:Nat):Int) ((items.length:Nat):Int) k then none else some x).toArray) _ _ s);refine wpAny_updateSeq hl rfl (hz:=hz) (_hz':=by refine rwE hk ?_; have:=hz; rw[sizeLine_eq] at *; simp at *; lia) ?_;have hu:=IsL.update hl (fun xs=>(xs.toList.zipIdx.filterMap fun (x,k)=>if fromOn ((min i items.length:Nat):Int) ((items.length:Nat):Int) k then none else some x).toArray);rw[hk] at hu;exact wpAny_bind (wpAny_letGo (wpAny_pure ⟨_,rfl,h _ _ hu (Heap.SameBut.update ..)⟩))
theorem ss_del {e lo:PySem.Expr} {m ml:ME} {p1 p2 pos:Pos} (h1:SE prog w S base T A env fr call e m) (h2:SE prog w S base T A env fr call lo ml):SS prog w S base T A env fr call (.Delete [.Subscript e (.Slice (some lo) none none p1) p2] pos) (.del m ml):=fun ρ μ H s X Y N R P E st h k=>by
 refine wpAny_Delete (wpAny_deleteEach_cons (wpAny_delete_Subscript (h1 ρ μ H s _ (X ρ) _ E st h (fun v s1 μ1 H1 a e1 st1 x1 k1=>?_) (k.px st))));refine wpAny_Slice (h2 ρ μ1 H1 s1 _ (X ρ) _ E st1 k1 (fun u s2 μ2 H2 b e2 st2 x2 k2=>?_) (k.pxs st e1.toL st1));refine wpAny_evalPart_none ?_;refine wpAny_evalPart_none ?_;have e12:=e1.trans e2 st1.rep;have x1':=e2.vr st1.rep x1;refine delQ_I k2 fun b' i l ea eb hb h0 hi hz k3=>?_
 ·subst ea eb
  ·refine x2.intI fun t=>?_;refine x1'.refI fun dr=>?_;obtain⟨r3,e3⟩:=st2.rep.more (s':={ s2 with heap:=s2.heap.push { cls:=.type "slice",data:=.fields #[.int i t,.none,.none] } }) (fun b p e=>Heap.get?_push_of_some _ e) ⟨rfl,rfl⟩
   have st3:=st2.ext e3 r3;have oo:=st3.rep.obj _ _ hb;refine oo.listI fun vs n hL hv=>?_;have hlen:=hv.length;have hi':((i.toNat:Nat):Int)=i:=by lia
   refine delTail (items:=vs) (i:=i.toNat) (t:=t) hL (by refine rwE hi' ?_; exact Heap.IsSliceOf.new ..) (by lia) fun h' m' hL' hs'=>?_;have dm:∀c,upd H2 b' (.list (l.take i.toNat)) c≠none↔H2 c≠none:=upd_dm dr;have htk:TupKeep (s2.heap.push { cls:=.type "slice",data:=.fields #[.int i t,.none,.none] }) h':=fun c p e k _=>⟨p.slots,(hs'.2 c fun z=>st3.rep.notTup e k ⟨b',dr,z.symm⟩).trans e⟩
   obtain⟨r4,e4⟩:=st3.rep.put (o:=.list (l.take i.toNat)) (s':={ s2 with heap:=h' }) dr hs' (.list (vs:=vs.take i.toNat) hL' (VRs.mono (fun c hc=>⟨(dm c).mpr hc,rfl⟩) htk (hv.take i.toNat))) rfl ⟨rfl,rfl⟩;have e1234:=(e12.trans e3 st2.rep).trans e4 st3.rep;refine wpAny_deleteEach_nil (k.next _ _ _ ρ e1234.toL (st3.ext e4 r4) k3)
end
section
variable {prog:Program} {w:World} {G:Gl} {S:Stat} {K:Frag} {base:Heap} {M:Model}
variable {T T':NT} {A A₁:Around} {env cenv env':Env} {fr outer:List Env} {ρ ρ' ρ₁ ρ₂:Loc} {μ μ' μ'' μ₀ μ₁:AA→Addr} {D D':AA→Prop} {H H' H'' H₀ H₁:AH} {s s' s'' s₀ s₁:Shared} {call:Callee} {h h' h0:Heap} {E:Value→Shared→Prop} {L L':Addr}
theorem junk_go {no:Addr→Prop} (st0:St prog w base T env fr ρ μ₀ H₀ s₀) (e:Ext fr μ₀ H₀ s₀ μ₁ H₁ s₁) (st:St prog w base T env fr ρ μ₁ H₁ s₁) (h1:∀b,no b→s₀.heap.get? b=none∧¬Img μ₁ H₁ b)
 (h2:∀b o,no b→s₁.heap.get? b=some o→(o.cls = .type "tuple"→∀vs n,o.data≠.seq vs n)∧∀v,o.data≠.cell v) (k:∀b o,¬no b→s₁.heap.get? b=some o→s'.heap.get? b=some o) (gr:s'.gens=s₁.gens∧s'.os=s₁.os) :
 Ext fr μ₀ H₀ s₀ μ₁ H₁ s'∧St prog w base T env fr ρ μ₁ H₁ s'∧TupKeep s₁.heap s'.heap:=by
 have tk:TupKeep s₁.heap s'.heap:=fun b o e1 c ⟨vs,n,q⟩=>⟨o.slots,k b o (fun z=>(h2 b o z e1).1 c vs n q) e1⟩;have hL:¬no env.locals:=fun z=>by
  obtain⟨o,ho⟩:=st0.lob;rw[(h1 _ z).1] at ho; exact (noS ho).elim
 have hF:∀b,b∈Lsf fr→¬no b:=fun b hb z=>by
  obtain⟨_,o,ho,_⟩:=st0.frs.mem hb;rw[(h1 _ z).1] at ho; exact (noS ho).elim
 have keepI:∀a,H₁ a≠none→s'.heap.get? (μ₁ a)=s₁.heap.get? (μ₁ a):=fun a ha=>by
  refine E12 (st.rep.there a ha) fun ob e1 _=>?_;exact (k _ _ (fun z=>(h1 _ z).2 ⟨a,ha,rfl⟩) e1).trans e1.symm
 refine⟨⟨e.old,e.fresh,fun b o eb nb=>?_,gr.1.trans e.rest.1,gr.2.trans e.rest.2⟩,⟨⟨st.rep.inj,fun b p hb'=>?_,st.rep.new,st.rep.ap,fun b p eb=>?_⟩,?_,⟨?_,fun x i v g1 g2=>?_,st.lo.apart⟩⟩,tk⟩
 ·have nn:¬no b:=fun z=>by rw[(h1 _ z).1] at eb; exact (noS eb).elim
  obtain⟨k1,sl,k2⟩:=e.keep b o eb nb;exact⟨fun q=>k b _ nn (k1 q),sl,k b _ nn k2⟩
 ·exact (st.rep.obj b p hb').mono (fun c hc=>⟨hc,rfl⟩) tk (keepI b (by refine rwE hb' ?_; simp))
 ·have e0:=st0.rep.stay b p eb;exact k b p (fun z=>by rw[(h1 _ z).1] at e0; exact (noS e0).elim) (st.rep.stay b p eb)
 ·exact frames_go (fun L o hL ho hd=>⟨o,k _ _ (hF _ hL) ho,hd⟩) st.frs
 ·obtain⟨m,⟨o,es,ep,ho,hd,r⟩,hl⟩:=st.lo.loc;refine⟨m,⟨o,es,ep,k _ _ hL ho,hd,r⟩,fun x i v g1 g2=>?_⟩;refine E12 (hl x i v g1 g2) fun u e2 e3=>?_;exact⟨u,e2,e3.mono (fun _ d=>⟨d,rfl⟩) tk⟩
 ·obtain⟨c,u,e1,⟨oc,e2,e2'⟩,e3⟩:=st.lo.cel x i v g1 g2;exact⟨c,u,e1,⟨oc,k c oc (fun z=>(h2 c oc z e2).2 _ e2') e2,e2'⟩,e3.mono (fun _ d=>⟨d,rfl⟩) tk⟩
theorem rec_goX {no:Addr→Prop} (st0:St prog w base T env fr ρ₁ μ₀ H₀ s₀) (e:ExtL L fr μ₀ H₀ s₀ μ₁ H₁ s₁) (st:St prog w base T env fr ρ μ₁ H₁ s₁) (h1:∀b,no b→s₀.heap.get? b=none∧¬Img μ₁ H₁ b)
 (h2:∀b o,no b→s₁.heap.get? b=some o→(o.cls = .type "tuple"→∀vs n,o.data≠.seq vs n)∧∀v,o.data≠.cell v) (k:∀b o,¬no b→s₁.heap.get? b=some o→s'.heap.get? b=some o) (gr:s'.gens=s₁.gens∧s'.os=s₁.os) :
 ExtL L fr μ₀ H₀ s₀ μ₁ H₁ s'∧St prog w base T env fr ρ μ₁ H₁ s'∧TupKeep s₁.heap s'.heap:=by
 have tk:TupKeep s₁.heap s'.heap:=fun b o e1 c ⟨vs,n,q⟩=>⟨o.slots,k b o (fun z=>(h2 b o z e1).1 c vs n q) e1⟩;have hL:¬no env.locals:=fun z=>by
  obtain⟨o,ho⟩:=st0.lob;rw[(h1 _ z).1] at ho; exact (noS ho).elim
 have hF:∀b,b∈Lsf fr→¬no b:=fun b hb z=>by
  obtain⟨_,o,ho,_⟩:=st0.frs.mem hb;rw[(h1 _ z).1] at ho; exact (noS ho).elim
 have keepI:∀a,H₁ a≠none→s'.heap.get? (μ₁ a)=s₁.heap.get? (μ₁ a):=fun a ha=>by
  refine E12 (st.rep.there a ha) fun ob e1 _=>?_;exact (k _ _ (fun z=>(h1 _ z).2 ⟨a,ha,rfl⟩) e1).trans e1.symm
 refine⟨⟨e.old,e.fresh,fun b o hbL eb nb=>?_,gr.1.trans e.rest.1,gr.2.trans e.rest.2⟩,⟨⟨st.rep.inj,fun b p hb'=>?_,st.rep.new,st.rep.ap,fun b p eb=>?_⟩,?_,⟨?_,fun x i v g1 g2=>?_,st.lo.apart⟩⟩,tk⟩
 ·have nn:¬no b:=fun z=>by rw[(h1 _ z).1] at eb; exact (noS eb).elim
  obtain⟨k1,sl,k2⟩:=e.keep b o hbL eb nb;exact⟨fun q=>k b _ nn (k1 q),sl,k b _ nn k2⟩
 ·exact (st.rep.obj b p hb').mono (fun c hc=>⟨hc,rfl⟩) tk (keepI b (by refine rwE hb' ?_; simp))
 ·have e0:=st0.rep.stay b p eb;exact k b p (fun z=>by rw[(h1 _ z).1] at e0; exact (noS e0).elim) (st.rep.stay b p eb)
 ·exact frames_go (fun L o hL ho hd=>⟨o,k _ _ (hF _ hL) ho,hd⟩) st.frs
 ·obtain⟨m,⟨o,es,ep,ho,hd,r⟩,hl⟩:=st.lo.loc;refine⟨m,⟨o,es,ep,k _ _ hL ho,hd,r⟩,fun x i v g1 g2=>?_⟩;refine E12 (hl x i v g1 g2) fun u e2 e3=>?_;exact⟨u,e2,e3.mono (fun _ d=>⟨d,rfl⟩) tk⟩
 ·obtain⟨c,u,e1,⟨oc,e2,e2'⟩,e3⟩:=st.lo.cel x i v g1 g2;exact⟨c,u,e1,⟨oc,k c oc (fun z=>(h2 c oc z e2).2 _ e2') e2,e2'⟩,e3.mono (fun _ d=>⟨d,rfl⟩) tk⟩
theorem adopt (e:Ext fr μ₀ H₀ s₀ μ₁ H₁ s₁) (st:St prog w base T env fr ρ μ₁ H₁ s₁) (st0:St prog w base T env fr ρ μ₀ H₀ s₀) {a:AA} {o:AO} {n:Addr} (ha:H₁ a=none) (h1:s₀.heap.get? n=none) (h2:¬Img μ₁ H₁ n)
 (q:OR prog w (setμ μ₁ a n) (Dm (upd H₁ a o)) s₁.heap o n):Ext fr μ₀ H₀ s₀ (setμ μ₁ a n) (upd H₁ a o) s₁∧St prog w base T env fr ρ (setμ μ₁ a n) (upd H₁ a o) s₁:=by
 have up:∀b,H₁ b≠none→upd H₁ a o b≠none∧setμ μ₁ a n b=μ₁ b:=fun b hb=>by
  have:b≠a:=fun e=>hb (e▸ha);simp[upd,setμ,this,hb]
 have dn:∀b,upd H₁ a o b≠none→b=a∨(b≠a∧H₁ b≠none):=fun b hb=>by
  by_cases e:b=a
  ·exact .inl e
  ·exact .inr ⟨e,by simpa [upd,e] using hb⟩
 have sa:setμ μ₁ a n a=n:=by simp[setμ]
 have so:∀b,b≠a→setμ μ₁ a n b=μ₁ b:=fun b e=>by simp[setμ,e]
 have ne:∀b,H₁ b≠none→μ₁ b≠n:=fun b hb e=>h2 ⟨b,hb,e⟩;have tk:=TupKeep.refl s₁.heap;have nL:n≠env.locals:=fun z=>by
  obtain⟨o,ho⟩:=st0.lob;rw[←z,h1] at ho; exact (noS ho).elim
 refine⟨⟨fun b hb=>?_,fun b hb hb'=>?_,e.keep,e.rest⟩,⟨⟨fun b c hb hc ee=>?_,fun b p hb=>?_,fun b hb=>?_,fun b hb=>?_,st.rep.stay⟩,st.frs,⟨?_,fun x i v g1 g2=>?_,?_⟩⟩⟩
 ·obtain⟨x1,x2⟩:=e.old b hb;obtain⟨y1,y2⟩:=up b x1;exact⟨y1,y2.trans x2⟩
 ·rcases dn b hb with rfl|⟨nb,hb''⟩
  ·refine rwE sa ?_; exact h1
  ·refine rwE (so b nb) ?_; exact e.fresh b hb'' hb'
 ·rcases dn b hb with rfl|⟨nb,hb'⟩<;>rcases dn c hc with rfl|⟨nc,hc'⟩
  ·rfl
  ·rw[sa,so c nc] at ee; exact absurd ee.symm (ne c hc')
  ·rw[sa,so b nb] at ee; exact absurd ee (ne b hb')
  ·rw[so b nb,so c nc] at ee; exact st.rep.inj b c hb' hc' ee
 ·by_cases eb:b=a
  ·subst eb;have:p=o:=by simp[upd] at hb; exact hb.symm
   subst this; refine rwE sa ?_; exact q
  ·have hb':H₁ b=some p:=by simpa [upd,eb] using hb
   refine rwE (so b eb) ?_;exact (st.rep.obj b p hb').mono up tk rfl
 ·rcases dn b hb with rfl|⟨nb,hb'⟩
  ·refine rwE sa ?_;exact nk (st0.rep.stay _) h1
  ·refine rwE (so b nb) ?_; exact st.rep.new b hb'
 ·rcases dn b hb with rfl|⟨nb,hb'⟩
  ·rw[sa]; exact fun hm=>by
    obtain⟨_,o,ho,_⟩:=st0.frs.mem hm;rw[h1] at ho; exact (noS ho).elim
  ·refine rwE (so b nb) ?_; exact st.rep.ap b hb'
 ·refine E12 st.lo.loc fun m hn hl=>?_;refine⟨m,hn,fun x i v g1 g2=>?_⟩;refine E12 (hl x i v g1 g2) fun u e2 e3=>?_;exact⟨u,e2,e3.mono up tk⟩
 ·refine E23 (st.lo.cel x i v g1 g2) fun c u e1 e2 e3=>?_;exact⟨c,u,e1,e2,e3.mono up tk⟩
 ·rintro ⟨c,hc,z⟩
  rcases dn c hc with rfl|⟨nc,hc'⟩
  ·rw[sa] at z; exact nL z
  ·rw[so c nc] at z; exact st.lo.apart ⟨c,hc',z⟩
theorem lookup_map {f:Str→NameKind→NameKind} {x:Str}:∀{l:List (Str×NameKind)},(l.map fun p=>(p.1,f p.1 p.2)).lookup x=(l.lookup x).map (f x)
 |[]=>rfl
 |(y,k)::r=>by
  simp only[List.map_cons,List.lookup_cons];by_cases e:x=y
  ·subst e; simp
  ·have e':(x==y)=false:=by simpa using e
   simp only[e',lookup_map]
theorem relabel_kind {scope:Scope} (x:Str):(relabel scope env).names.lookup x=(scope.names.lookup x).map fun k=>if (k==.free&&env.scope.kind==.function&&env.kindOf x==some .cell) then .cell else k:=by
 have:(relabel scope env).names=scope.names.map fun p=>(p.1,if (p.2==.free&&env.scope.kind==.function&&env.kindOf p.1==some .cell) then NameKind.cell else p.2):=by
  skip
  apply List.map_congr_left
  rintro ⟨n,k⟩ _
  dsimp only;split<;>rfl
 refine rwE this ?_;exact lookup_map (f:=fun n k=>if (k==.free&&env.scope.kind==.function&&env.kindOf n==some .cell) then NameKind.cell else k)
noncomputable def clos (env:Env):List (Str×NameKind)→List (Str×Addr)→List (Str×Addr)
 |[],acc=>acc
 |(n,k)::r,acc=>if k==.free then clos env r ((n,(env.cells.lookup n).getD 0)::acc) else clos env r acc
theorem clos_loop:∀(l:List (Str×NameKind)) (acc:List (Str×Addr)),(∀n,(n,NameKind.free)∈l→(env.cells.lookup n).isSome=true) →
 (forIn l acc fun (x:Str×NameKind) (cs:List (Str×Addr))=>(match x with|(name,kind)=>if kind==.free then do let c ←cellOf env name; pure (ForInStep.yield ((name,c)::cs)) else pure (ForInStep.yield cs):Sem (ForInStep (List (Str×Addr)))))=pure (clos env l acc)
 |[],acc,_=>by (refine rwE List.forIn_nil ?_); rfl
 |(n,k)::r,acc,h=>by
  refine rwE (List.forIn_cons ..) ?_;by_cases hk:k = .free
  ·subst hk;obtain⟨c,hc⟩:=Option.isSome_iff_exists.mp (h n (.head _));have:cellOf env n=pure c:=by unfold cellOf; refine rwE hc ?_; rfl
   simp only[beq_self_eq_true,if_true,this];show (forIn r ((n,c)::acc) _:Sem _)=_
   rw[clos_loop r _ fun m hm=>h m (.tail _ hm)];exact congrArg pure (show clos env r ((n,c)::acc)=clos env ((n,.free)::r) acc from (congrArg (fun z=>clos env r ((n,Option.getD z 0)::acc)) hc).symm.trans (if_pos rfl).symm)
  ·have hk':(k==NameKind.free)=false:=by simpa using hk
   simp only[hk',Bool.false_eq_true,if_false];show (forIn r acc _:Sem _)=_
   rw[clos_loop r _ fun m hm=>h m (.tail _ hm)];exact congrArg pure (show clos env r acc=clos env ((n,k)::r) acc from (if_neg (by rw[hk']; exact nofun)).symm)
theorem clos_get {x:Str}:∀{l:List (Str×NameKind)} {acc:List (Str×Addr)},(env.cells.lookup x).isSome=true→((x,NameKind.free)∈l∨acc.lookup x=env.cells.lookup x)→(clos env l acc).lookup x=env.cells.lookup x
 |[],acc,_,h=>by
  rcases h with h|h
  ·cases h
  ·exact h
 |(n,k)::r,acc,hs,h=>by
  obtain⟨c,hc⟩:=Option.isSome_iff_exists.mp hs;dsimp only[clos];by_cases hk:k = .free
  ·subst hk;rw[if_pos (by rfl)];by_cases e:x=n
   ·subst e;exact clos_get hs (.inr (by simp[hc]))
   ·have e':(x==n)=false:=by simpa using e
    refine clos_get hs ?_;rcases h with h|h
    ·cases h with
     |head=>exact absurd rfl e
     |tail _ h=>exact .inl h
    ·exact .inr (by refine rwE List.lookup_cons ?_; refine rwE e' ?_; exact h)
  ·refine rwE (if_neg (by simpa using hk)) ?_;refine clos_get hs ?_;rcases h with h|h
   ·cases h with
    |head=>exact absurd rfl hk
    |tail _ h=>exact .inl h
   ·exact .inr h
theorem closure_ok {scope:Scope} (h:∀n,(n,NameKind.free)∈scope.names→(env.cells.lookup n).isSome=true):closureFor scope env=pure (clos env scope.names []):=by
 dsimp only[closureFor];have:=clos_loop scope.names [] h;first
  |(simp only[this]; rfl)
  |(refine Eq.trans ?_ this; rfl)
end
theorem mem_lookup {α β:Type} [BEq α] [LawfulBEq α] {l:List (α×β)} {x:α} {v:β} (h:l.lookup x=some v):(x,v)∈l:=by
 induction l with
 |nil=>exact (noS h).elim
 |cons p r ih =>
  obtain⟨y,u⟩:=p;rw[List.lookup_cons] at h;revert h;induction e:x==y using Bool.casesOn with
  |true=>exact fun h=>eq_of_beq e▸Option.some.inj h▸.head _
  |false=>exact fun h=>.tail _ (ih h)
structure CompOk (T:NT) (x:Str) (sc:Scope):Prop where
 kind:sc.kind = .function
 tab:TabOk sc.names (compTab T x T.length sc.names)
 var:(compTab T x T.length sc.names).lookup x=some (.loc T.length)
 loc:∀y j,(compTab T x T.length sc.names).lookup y=some (.loc j)→y=x∧j=T.length
 cel:∀y j,(compTab T x T.length sc.names).lookup y=some (.cell j)→T.lookup y=some (.cell j)∧j<T.length
 noCell:∀y∈sc.names,y.2≠.cell
 locals:∀y∈sc.names,y.2 = .local→sc.names.lookup y.1=some .local
 free:∀y,(y,NameKind.free)∈sc.names→sc.names.lookup y=some .free∧∃i,T.lookup y=some (.cell i)
theorem comp_ok {T:NT} {x:Str} {sc:Scope} (h:compB T x sc=true):CompOk T x sc:=by
 unfold compB at h;simp only[Bool.and_eq_true,beq_iff_eq,List.all_eq_true] at h;obtain⟨⟨⟨⟨h1,h2⟩,h3⟩,h4⟩,h5⟩:=h;refine⟨h1,tab_ok h2,h3,fun y j e=>?_,fun y j e=>?_,fun y hy=>?_,fun y hy e=>?_,fun y hy=>?_⟩
 ·exact (Bool.and_eq_true_iff.mp (h4 _ (lookup_mem e))).imp eq_of_beq eq_of_beq
 ·exact (Bool.and_eq_true_iff.mp (h4 _ (lookup_mem e))).imp eq_of_beq of_decide_eq_true
 ·have:=(h5 y hy).1.1; simpa using this
 ·have:=(h5 y hy).1.2; simpa [e] using this
 ·have:=(h5 _ hy).2;simp only[bne_self_eq_false,Bool.false_or,Bool.and_eq_true,beq_iff_eq] at this;refine⟨this.1,?_⟩;have h6:=this.2;revert h6;induction T.lookup y using Option.casesOn with
  |none=>exact fun h=>(noB h).elim
  |some o=>induction o using Sl.casesOn with
   |cell i=>exact fun _=>⟨i,rfl⟩
   |_=>exact fun h=>(noB h).elim
section
variable {prog:Program} {w:World} {G:Gl} {S:Stat} {K:Frag} {base:Heap} {M:Model}
variable {T T':NT} {A A₁:Around} {env cenv env':Env} {fr outer:List Env} {ρ ρ' ρ₁ ρ₂:Loc} {μ μ' μ'' μ₀ μ₁:AA→Addr} {D D':AA→Prop} {H H' H'' H₀ H₁:AH} {s s' s'' s₀ s₁:Shared} {call:Callee} {h h' h0:Heap} {E:Value→Shared→Prop} {L L' C:Addr} {x:Str} {scope:Scope}
theorem clos_cells (F:Fix T A env fr) (CO:CompOk T x scope):∀n,(n,NameKind.free)∈scope.names→(env.cells.lookup n).isSome=true:=fun n hn=>by
 obtain⟨_,i,hi⟩:=CO.free n hn;exact F.cells n i hi
theorem comp_fix (F:Fix T A env fr) (CO:CompOk T x scope):Fix (compTab T x T.length scope.names) A (compEnvC scope (clos env scope.names []) C env) fr:=by
 have hk:∀y,(compEnvC scope (clos env scope.names []) C env).kindOf y=(relabel scope env).names.lookup y:=fun y=>rfl;refine⟨F.frames,F.hand,CO.kind,F.glob,F.blt,F.fst,fun y i z=>?_,fun y i z=>?_,fun y z=>?_,CO.tab.uniq,CO.tab.nd,fun y i z=>?_⟩
 ·rw[hk,relabel_kind,CO.tab.loc y i z]; rfl
 ·refine rwE (hk ..) ?_; refine rwE (relabel_kind ..) ?_;rcases CO.tab.cel y i z with e|e
  ·refine rwE e ?_; exact .inl rfl
  ·refine rwE e ?_;by_cases q:(env.scope.kind==.function&&env.kindOf y==some NameKind.cell)=true
   ·left; simp_all
   ·right; simp_all
 ·rw[hk,relabel_kind,CO.tab.glo y z]; rfl
 ·obtain⟨c1,_⟩:=CO.cel y i z;have hs:=F.cells y i c1;show ((clos env scope.names []).lookup y).isSome=true
  have hf:(y,NameKind.free)∈scope.names:=by
   rcases CO.tab.cel y i z with e|e
   ·exact absurd rfl (CO.noCell _ (mem_lookup e))
   ·exact mem_lookup e
  refine rwE (clos_get hs (.inl hf)) ?_;exact hs
theorem comp_st (F:Fix T A env fr) (CO:CompOk T x scope) (st:St prog w base T env fr ρ μ H s) {m:Str→Option Value} (hn:s.heap.Ns C m) {a:AV} {v:Value} (hm:m x=some v) (xv:VR μ (Dm H) s.heap a v) (hC:¬Img μ H C) :
 St prog w base (compTab T x T.length scope.names) (compEnvC scope (clos env scope.names []) C env) fr (setL ρ T.length a) μ H s:=by
 refine⟨st.rep,st.frs,⟨⟨m,hn,fun y i v' z1 z2=>?_⟩,fun y i v' z1 z2=>?_,hC⟩⟩
 ·obtain⟨rfl,rfl⟩:=CO.loc y i z1;have:v'=a:=by simp[setL] at z2; exact z2.symm
  subst this;exact⟨v,hm,xv⟩
 ·obtain⟨c1,c2⟩:=CO.cel y i z1;have z2':ρ i=some v':=by
   have:i≠T.length:=by lia
   simpa [setL,this] using z2
  refine E23 (st.lo.cel y i v' c1 z2') fun c u e1 e2 e3=>?_;refine⟨c,u,?_,e2,e3⟩;show (clos env scope.names []).lookup y=some c
  have hf:(y,NameKind.free)∈scope.names:=by
   rcases CO.tab.cel y i z1 with e|e
   ·exact absurd rfl (CO.noCell _ (mem_lookup e))
   ·exact mem_lookup e
  refine rwE (clos_get (F.cells y i c1) (.inl hf)) ?_; exact e1
noncomputable def SCs (prog:Program) (w:World) (S:Stat) (base:Heap) (T:NT) (A:Around) (env:Env) (fr:List Env) (call:Callee) (es:List PySem.Expr) (ms:List ME):Prop :=
 ∀ρ μ H s (Q:Bool→AH→Prop) (X:AV→AH→Prop) (P:Bool→Shared→Prop) (E:Value→Shared→Prop),St prog w base T env fr ρ μ H s→cands S call X ms ρ Q H →
  (∀t s' μ' H',Ext fr μ H s μ' H' s'→St prog w base T env fr ρ μ' H' s'→Q t H'→P t s') →
  (∀e s',PX prog w S base fr μ H s X e s'→E e s')→wpAny (model prog w) A (forIn es true fun c r=>if r=true then do let ok ←PySem.isTrue c env (eval c env); pure (ForInStep.yield ok) else pure (ForInStep.yield r)) P E s
theorem scs_nil:SCs prog w S base T A env fr call [] []:=fun ρ μ H s Q X P E st h q _=>by
 refine rwE List.forIn_nil ?_;exact wpAny_pure (q true s μ H (.refl ..) st h)
theorem forin_false {es:List PySem.Expr} {P:Bool→Shared→Prop} (h:P false s):wpAny M A (forIn es false fun c r=>if r=true then do let ok ←PySem.isTrue c env (eval c env); pure (ForInStep.yield ok) else pure (ForInStep.yield r)) P E s:=by
 induction es with
 |nil=>(refine rwE List.forIn_nil ?_); exact wpAny_pure h
 |cons e r ih =>
  refine rwE (List.forIn_cons ..) ?_;exact wpAny_bind (wpAny_pure ih)
theorem scs_cons {e:PySem.Expr} {m:ME} {es:List PySem.Expr} {ms:List ME} (h1:SC prog w S base T A env fr call e m) (h2:SCs prog w S base T A env fr call es ms):SCs prog w S base T A env fr call (e::es) (m::ms):=fun ρ μ H s Q X P E st h q hE=>by
 refine rwE (List.forIn_cons ..) ?_;refine wpAny_bind (wpAny_bind (h1 ρ μ H s _ X _ _ st h (fun t s1 μ1 H1 e1 st1 k1=>wpAny_pure ?_) hE));induction t using Bool.casesOn with
 |true=>exact h2 ρ μ1 H1 s1 Q X P E st1 k1 (fun t s2 μ2 H2 e2 st2 k2=>q t s2 μ2 H2 (e1.trans e2 st1.rep) st2 k2) fun e s' px=>hE e s' (px.up e1 st1.rep)
 |false=>exact forin_false (q false s1 μ1 H1 e1 st1 k1)
end
section
variable {prog:Program} {w:World} {G:Gl} {S:Stat} {K:Frag} {base:Heap} {M:Model}
variable {T T':NT} {A A₁:Around} {env cenv env':Env} {fr outer:List Env} {ρ ρ' ρ₁ ρ₂:Loc} {μ μ' μ'' μ₀ μ₁ μ₂:AA→Addr} {D':AA→Prop} {H H' H'' H₀ H₁ H₂:AH} {s s' s'' s₀ s₁ s₂:Shared} {call:Callee} {h h' h0:Heap} {E:Value→Shared→Prop} {L L' it D C:Addr} {x:Str} {scope:Scope} {acc:List AV}
structure CI (prog:Program) (w:World) (base:Heap) (T:NT) (env:Env) (fr:List Env) (ρ:Loc) (μ₀:AA→Addr) (H₀:AH) (s₀:Shared) (it D C:Addr) (μ₁:AA→Addr) (H₁:AH) (s₁:Shared) (acc:List AV):Prop where
 st0:St prog w base T env fr ρ μ₀ H₀ s₀
 ext:Ext fr μ₀ H₀ s₀ μ₁ H₁ s₁
 st:St prog w base T env fr ρ μ₁ H₁ s₁
 ns:∃m,s₁.heap.Ns C m
 out:∃vs n,IsL s₁.heap D (List.toArray vs) n∧VRs μ₁ (Dm H₁) s₁.heap acc vs
 itr:∃o,s₁.heap.get? it=some o∧∃vs,o.data = .fields vs
 no0:s₀.heap.get? it=none∧s₀.heap.get? D=none∧s₀.heap.get? C=none
 nI:¬Img μ₁ H₁ it∧¬Img μ₁ H₁ D∧¬Img μ₁ H₁ C
theorem CI.apart (c:CI prog w base T env fr ρ μ₀ H₀ s₀ it D C μ₁ H₁ s₁ acc):it≠D∧it≠C∧D≠C:=by
 refine kf fun kG=>?_;refine E43 c.ns fun m oC es ep h1 h2 _=>?_;refine E22 c.out fun vs n h3 _=>?_;obtain⟨oi,h4,ws,h5⟩:=c.itr;refine kG ?_; clear kG;refine⟨fun z=>?_,fun z=>?_,fun z=>?_⟩
 ·rw[z,h3] at h4;obtain rfl:=Option.some.inj h4;cases h5
 ·rw[z,h1] at h4;obtain rfl:=Option.some.inj h4;rw[h2] at h5;cases h5
 ·rw[z] at h3;have:=h3.symm.trans h1;obtain rfl:=Option.some.inj this;cases h2
theorem CI.nL (c:CI prog w base T env fr ρ μ₀ H₀ s₀ it D C μ₁ H₁ s₁ acc):it ∉ Lsf fr∧D ∉ Lsf fr∧C ∉ Lsf fr:=by
 have:∀b,s₀.heap.get? b=none→b ∉ Lsf fr:=fun b hb hm=>by
  obtain⟨_,o,ho,_⟩:=c.st0.frs.mem hm;rw[hb] at ho; exact (noS ho).elim
 exact⟨this _ c.no0.1,this _ c.no0.2.1,this _ c.no0.2.2⟩
theorem CI.go (c:CI prog w base T env fr ρ μ₀ H₀ s₀ it D C μ₁ H₁ s₁ acc) (e:Ext fr μ₁ H₁ s₁ μ₂ H₂ s₂) (r:Rep prog w base fr μ₂ H₂ s₂.heap):CI prog w base T env fr ρ μ₀ H₀ s₀ it D C μ₂ H₂ s₂ acc:=by
 refine kf fun kG=>?_;refine E43 c.ns fun m oC es ep h1 h2 h2'=>?_;refine E22 c.out fun vs n h3 h3'=>?_;obtain⟨oi,h4,ws,h5⟩:=c.itr;refine E03 c.nI fun n1 n2 n3=>?_;refine E03 c.nL fun l1 l2 l3=>?_;refine kG ?_; clear kG;exact⟨c.st0,c.ext.trans e c.st.rep,c.st.ext e r,⟨m,oC,es,ep,(e.keep _ _ h1 n3).1 l3,h2,h2'⟩,⟨vs,n,(e.keep _ _ h3 n2).1 l2,e.vrs c.st.rep h3'⟩,⟨oi,(e.keep _ _ h4 n1).1 l1,ws,h5⟩,c.no0,e.notImg h4 n1,e.notImg h3 n2,e.notImg h1 n3⟩
theorem CI.stepI (c:CI prog w base T env fr ρ μ₀ H₀ s₀ it D C μ₁ H₁ s₁ acc) (k:∀b o,b≠it→s₁.heap.get? b=some o→s'.heap.get? b=some o) (gr:s'.gens=s₁.gens∧s'.os=s₁.os) (ho:∃o,s'.heap.get? it=some o∧∃vs,o.data = .fields vs) :
 CI prog w base T env fr ρ μ₀ H₀ s₀ it D C μ₁ H₁ s' acc∧TupKeep s₁.heap s'.heap:=by
 refine kf fun kG=>?_;refine E43 c.ns fun m oC es ep h1 h2 h2'=>?_;refine E22 c.out fun vs n h3 h3'=>?_;obtain⟨oi,h4,ws,h5⟩:=c.itr;refine E03 c.apart fun a1 a2 a3=>?_;obtain⟨e,st,tk⟩:=junk_go (no:=(· = it)) (s':=s') c.st0 c.ext c.st (fun b z=>by refine rwE z ?_; exact⟨c.no0.1,c.nI.1⟩) (fun b o z eb=>by rw[z,h4] at eb; obtain rfl:=Option.some.inj eb; exact⟨(fun _ vs n q=>by rw[h5] at q; cases q),(fun v q=>by rw[h5] at q; cases q)⟩) (fun b o z eb=>k b o z eb) gr;refine kG ?_; clear kG;exact⟨⟨c.st0,e,st,⟨m,oC,es,ep,k _ _ (Ne.symm a2) h1,h2,h2'⟩,⟨vs,n,k _ _ (Ne.symm a1) h3,VRs.mono (fun _ d=>⟨d,rfl⟩) tk h3'⟩,ho,c.no0,c.nI⟩,tk⟩
theorem CI.stepC (c:CI prog w base T env fr ρ μ₀ H₀ s₀ it D C μ₁ H₁ s₁ acc) {m:Str→Option Value} (hn:h'.Ns C m) (hs:Heap.SameBut C s₁.heap h') (t:Nat) :
 CI prog w base T env fr ρ μ₀ H₀ s₀ it D C μ₁ H₁ { s₁ with heap:=h',toks:=t } acc∧TupKeep s₁.heap h':=by
 refine kf fun kG=>?_;refine E43 c.ns fun m0 oC es ep h1 h2 h2'=>?_;refine E22 c.out fun vs n h3 h3'=>?_;obtain⟨oi,h4,ws,h5⟩:=c.itr;refine E03 c.apart fun a1 a2 a3=>?_;obtain⟨e,st,tk⟩:=junk_go (no:=(· = C)) (s':={ s₁ with heap:=h',toks:=t }) c.st0 c.ext c.st (fun b z=>by refine rwE z ?_; exact⟨c.no0.2.2,c.nI.2.2⟩) (fun b o z eb=>by rw[z,h1] at eb; obtain rfl:=Option.some.inj eb; exact⟨(fun _ vs n q=>by rw[h2] at q; cases q),(fun v q=>by rw[h2] at q; cases q)⟩) (fun b o z eb=>(hs.2 b z).trans eb) ⟨rfl,rfl⟩;refine kG ?_; clear kG;exact⟨⟨c.st0,e,st,⟨m,hn⟩,⟨vs,n,(hs.2 _ a3).trans h3,VRs.mono (fun _ d=>⟨d,rfl⟩) tk h3'⟩,⟨oi,(hs.2 _ a2).trans h4,ws,h5⟩,c.no0,c.nI⟩,tk⟩
theorem CI.stepD (c:CI prog w base T env fr ρ μ₀ H₀ s₀ it D C μ₁ H₁ s₁ acc) {vs:List Value} {n n':Nat} (hL:IsL s₁.heap D vs.toArray n) (hv:VRs μ₁ (Dm H₁) s₁.heap acc vs) {a:AV} {v:Value} (xv:VR μ₁ (Dm H₁) s₁.heap a v) (hs:Heap.SameBut D s₁.heap h') (hL':IsL h' D (vs++[v]).toArray n') :
 CI prog w base T env fr ρ μ₀ H₀ s₀ it D C μ₁ H₁ { s₁ with heap:=h' } (acc++[a])∧TupKeep s₁.heap h':=by
 refine kf fun kG=>?_;refine E43 c.ns fun m oC es ep h1 h2 h2'=>?_;obtain⟨oi,h4,ws,h5⟩:=c.itr;refine E03 c.apart fun a1 a2 a3=>?_;refine kG ?_; clear kG;obtain⟨e,st,tk⟩:=junk_go (no:=(· = D)) (s':={ s₁ with heap:=h' }) c.st0 c.ext c.st (fun b z=>by refine rwE z ?_; exact⟨c.no0.2.1,c.nI.2.1⟩) (fun b o z eb=>by
  rw[z] at eb;have:=hL.symm.trans eb;refine kf fun kG=>?_;obtain rfl:=Option.some.inj this;refine kG ?_; clear kG;exact⟨(fun q=>by simp at q),(fun v q=>by simp at q)⟩) (fun b o z eb=>(hs.2 b z).trans eb) ⟨rfl,rfl⟩
 exact⟨⟨c.st0,e,st,⟨m,oC,es,ep,(hs.2 _ (Ne.symm a3)).trans h1,h2,h2'⟩,⟨vs++[v],n',hL',VRs.mono (fun _ d=>⟨d,rfl⟩) tk (hv.append (.cons xv .nil))⟩,⟨oi,(hs.2 _ a1).trans h4,ws,h5⟩,c.no0,c.nI⟩,tk⟩
theorem comp_loop {elt iter:PySem.Expr} {px pos:Pos} {ifs:List PySem.Expr} {me:ME} {mifs:List ME} {J:(AA→Addr)→(AA→Prop)→Shared→List AV→Prop} {Q:AV→AH→Prop} {R':Result→Shared→Prop} {l:List AV} (F:Fix T A env fr) (CO:CompOk T x scope)
 (hifs:SCs prog w S base (compTab T x T.length scope.names) A (compEnvC scope (clos env scope.names []) C env) fr call ifs mifs) (helt:SE prog w S base (compTab T x T.length scope.names) A (compEnvC scope (clos env scope.names []) C env) fr call elt me)
 (I:Iter prog w A (notedBy (model prog w) A (compEnvC scope (clos env scope.names []) C env) fun e s'=>R' (.error e) s') it J) (c:CI prog w base T env fr ρ μ₀ H₀ s₀ it D C μ₁ H₁ s₁ []) (j:J μ₁ (Dm H₁) s₁ l) (hz:l.length≤1000000)
 (hgo:List.foldr (fun x k acc=>cands S call (fun _ _=>False) mifs (setL ρ T.length x) fun t=>if t=true then ewp S call (fun _ _=>False) me (setL ρ T.length x) fun y=>k (acc++[y]) else k acc) (fun acc H=>newO H (.list acc) Q) l [] H₁)
 (hend:∀s2 μ2 H2 acc m vs n,Ext fr μ₀ H₀ s₀ μ2 H2 s2→St prog w base T env fr ρ μ2 H2 s2→s2.heap.Ns C m→IsL s2.heap D (List.toArray vs) n→VRs μ2 (Dm H2) s2.heap acc vs→¬Img μ2 H2 D→¬Img μ2 H2 C→D≠C→newO H2 (.list acc) Q→R' (.ok .next) s2) :
 codeAny (model prog w) A (.compLoop (.ListComp elt [⟨.Name x px,iter,ifs,0⟩] scope pos) 0 (.ref it) (.ref D) (compEnvC scope (clos env scope.names []) C env)) R' s₁:=by
 have FC:=comp_fix (C:=C) F CO;obtain⟨KI,hKI⟩:∃KI:Nat→Shared→Prop,∀n s1,KI n s1↔(∃μ1 H1 rest acc,rest.length=n∧acc.length+rest.length≤1000000∧CI prog w base T env fr ρ μ₀ H₀ s₀ it D C μ1 H1 s1 acc∧J μ1 (Dm H1) s1 rest ∧
  List.foldr (fun x k acc=>cands S call (fun _ _=>False) mifs (setL ρ T.length x) fun t=>if t=true then ewp S call (fun _ _=>False) me (setL ρ T.length x) fun y=>k (acc++[y]) else k acc) (fun acc H=>newO H (.list acc) Q) rest acc H1):=⟨_,fun _ _=>.rfl⟩
 refine codeAny_compLoop_tests KI (fun n s1 hI=>?_) l.length ((hKI _ _).mpr ⟨μ₁,H₁,l,[],rfl,by simpa using hz,c,j,hgo⟩);refine E45 ((hKI _ _).mp hI) fun μ1 H1 rest acc eq4 hz1 c1 j1 hg1=>?_; subst eq4;refine kf fun kG=>?_;induction rest using List.casesOn with
 |nil =>
  refine kG ?_; clear kG;refine I.stop j1 fun s2 hk gr=>?_;refine kf fun kG=>?_;refine E43 c1.ns fun m oC es ep h1 h2 h2'=>?_;refine E22 c1.out fun vs n h3 h3'=>?_;obtain⟨oi,h4,ws,h5⟩:=c1.itr;refine E03 c1.apart fun a1 a2 a3=>?_;obtain⟨e,st,tk⟩:=junk_go (no:=(· = it)) (s':=s2) c1.st0 c1.ext c1.st (fun b z=>by refine rwE z ?_; exact⟨c1.no0.1,c1.nI.1⟩) (fun b o z eb=>by rw[z,h4] at eb; obtain rfl:=Option.some.inj eb; exact⟨(fun _ vs n q=>by rw[h5] at q; cases q),(fun v q=>by rw[h5] at q; cases q)⟩) (fun b o z eb=>hk b o z eb) gr;refine kG ?_; clear kG;exact hend s2 μ1 H1 acc m vs n e st ⟨oC,es,ep,hk _ _ (Ne.symm a2) h1,h2,h2'⟩ (hk _ _ (Ne.symm a1) h3) (VRs.mono (fun _ d=>⟨d,rfl⟩) tk h3') c1.nI.2.1 c1.nI.2.2 a3 hg1
 |cons a r =>
  refine kG ?_; clear kG;refine I.next j1 fun v s2 hk gr xv j2=>?_;refine kf fun kG=>?_;obtain⟨c2,tk2⟩:=c1.stepI hk gr (I.there j2);obtain⟨m,hn⟩:=c2.ns;refine kG ?_; clear kG;refine wpAny_assign_Name (wpAny_storeName_local (FC.loc x _ CO.var) hn (fun h3 hn3 hs3=>?_) ?_)
  ·refine kf fun kG=>?_;obtain⟨c3,tk3⟩:=c2.stepC hn3 hs3 (s2.toks+1);have j3:=I.keep (s':={ s2 with heap:=h3,toks:=s2.toks+1 }) j2 (fun a d=>⟨d,rfl⟩) tk3 (fun o ho=>(hs3.2 _ c2.apart.2.1).trans ho);have xv3:=xv.mono (fun _ d=>⟨d,rfl⟩) tk3;have st3:=comp_st F CO c3.st hn3 (by simp) xv3 c3.nI.2.2;refine kG ?_; clear kG;refine hifs _ μ1 H1 _ _ _ _ _ st3 hg1 (fun t s4 μ4 H4 e4 st4 k4=>?_) (fun e s' p=>p.no);have c4:=c3.go e4 st4.rep;have keepI:∀{μa Ha sa μb Hb sb} {ac:List AV},CI prog w base T env fr ρ μ₀ H₀ s₀ it D C μa Ha sa ac→Ext fr μa Ha sa μb Hb sb→J μa (Dm Ha) sa r→J μb (Dm Hb) sb r:=fun {μa Ha sa μb Hb sb ac} ca ea ja=>I.keep ja ea.old (ea.tup ca.st.rep) fun o ho=>(ea.keep _ _ ho ca.nI.1).1 ca.nL.1;have j4:=keepI c3 e4 j3;refine kf fun kG=>?_;induction t using Bool.casesOn with
   |false =>
    refine kG ?_; clear kG;exact⟨r.length,Nat.lt_succ_self _,(hKI _ _).mpr ⟨μ4,H4,r,acc,rfl,by simp at hz1; lia,c4,j4,k4⟩⟩
   |true =>
    refine kG ?_; clear kG;refine helt _ μ4 H4 _ _ _ _ _ st4 k4 (fun u s5 μ5 H5 y e5 st5 y5 k5=>?_) (fun e s' p=>p.no);have c5:=c4.go e5 st5.rep;have j5:=keepI c4 e5 j4;refine E22 c5.out fun vs n hL hv=>?_;have hlen:=hv.length;refine append_at hL (fun h6 hs6 hg6=>?_) (by refine rwE sizeLine_eq ?_; simp at hz1 ⊢; lia);refine kf fun kG=>?_;obtain⟨c6,tk6⟩:=c5.stepD (n':=n+1) hL hv y5 hs6 (by simpa using hg6);have j6:=I.keep (s':={ s5 with heap:=h6 }) j5 (fun a d=>⟨d,rfl⟩) tk6 (fun o ho=>(hs6.2 _ c5.apart.1).trans ho);refine kG ?_; clear kG;exact⟨r.length,Nat.lt_succ_self _,(hKI _ _).mpr ⟨μ5,H5,r,acc++[y],rfl,by simp at hz1 ⊢; lia,c6,j6,k5⟩⟩
  ·show (scope.kind==.class||(scope.kind==.module&&_))=false
   refine rwE CO.kind ?_;rfl
theorem comp_copy {iter:PySem.Expr} {px pe pos:Pos} {Q:AV→AH→Prop} {R':Result→Shared→Prop} {l:List AV} {ax:Addr} {vs:List Value} {n:Nat} (F:Fix T A env fr) (CO:CompOk T x scope)
 (c:CI prog w base T env fr ρ μ₀ H₀ s₀ it D C μ₀ H₀ s₁ []) (hit:s₁.heap.IsListIter it ax 0) (hl0:∃o,s₀.heap.get? ax=some o) (hl:IsL s₁.heap ax vs.toArray n) (hv:VRs μ₀ (Dm H₀) s₁.heap l vs) (hz:l.length≤1000000) (hgo:newO H₀ (.list l) Q)
 (hend:∀s2 μ2 H2 acc m vs n,Ext fr μ₀ H₀ s₀ μ2 H2 s2→St prog w base T env fr ρ μ2 H2 s2→s2.heap.Ns C m→IsL s2.heap D (List.toArray vs) n→VRs μ2 (Dm H2) s2.heap acc vs→¬Img μ2 H2 D→¬Img μ2 H2 C→D≠C→newO H2 (.list acc) Q→R' (.ok .next) s2) :
 codeAny (model prog w) A (.compLoop (.ListComp (.Name x pe) [⟨.Name x px,iter,[],0⟩] scope pos) 0 (.ref it) (.ref D) (compEnvC scope (clos env scope.names []) C env)) R' s₁:=by
 have FC:=comp_fix (C:=C) F CO;have nax:∀b,s₀.heap.get? b=none→ax≠b:=fun b hb z=>by
  obtain⟨o,ho⟩:=hl0;rw[z,hb] at ho;exact (noS ho).elim
 have na1:=nax _ c.no0.1;have na2:=nax _ c.no0.2.1;have na3:=nax _ c.no0.2.2;refine kf fun kG=>?_;obtain⟨KI,hKI⟩:∃KI:Nat→Shared→Prop,∀n' s1,KI n' s1↔(∃k acc rest,rest.length=n'∧acc++rest=l∧CI prog w base T env fr ρ μ₀ H₀ s₀ it D C μ₀ H₀ s1 acc∧s1.heap.IsListIter it ax k∧IsL s1.heap ax vs.toArray n∧VRs μ₀ (Dm H₀) s1.heap rest (vs.drop k)):=⟨_,fun _ _=>.rfl⟩;refine kG ?_; clear kG;refine codeAny_compLoop_tests KI (fun n' s1 hI=>?_) l.length ((hKI _ _).mpr ⟨0,[],l,rfl,rfl,c,hit,hl,by simpa using hv⟩);refine E36 ((hKI _ _).mp hI) fun k acc rest eq3 hal c1 hi1 hl1 hr1=>?_; subst eq3;refine kf fun kG=>?_;refine E03 c1.apart fun a1 a2 a3=>?_;induction rest using List.casesOn with
 |nil =>
  have hk:vs[k]? = none:=by
   have:=hr1.length;rw[List.getElem?_eq_none];simp at this
   lia
  refine kG ?_; clear kG;refine wpAny_pyNext_list_end F.hand hi1 ⟨_,hl1,rfl,n,rfl⟩ (by simpa using hk) fun h2 hs2=>?_;refine kf fun kG=>?_;refine E43 c1.ns fun m oC es ep h1 h2' h2''=>?_;refine E22 c1.out fun us n2 h3 h3'=>?_;obtain⟨oi,h4,ws,h5⟩:=c1.itr;obtain⟨e,st,tk⟩:=junk_go (no:=(· = it)) (s':={ s1 with heap:=h2 }) c1.st0 c1.ext c1.st (fun b z=>by refine rwE z ?_; exact⟨c1.no0.1,c1.nI.1⟩) (fun b o z eb=>by rw[z,h4] at eb; obtain rfl:=Option.some.inj eb; exact⟨(fun _ vs n q=>by rw[h5] at q; cases q),(fun v q=>by rw[h5] at q; cases q)⟩) (fun b o z eb=>hs2 b o z eb) ⟨rfl,rfl⟩;have:acc=l:=by simpa using hal
  refine kG ?_; clear kG;exact hend _ μ₀ H₀ acc m us n2 e st ⟨oC,es,ep,hs2 _ _ (Ne.symm a2) h1,h2',h2''⟩ (hs2 _ _ (Ne.symm a1) h3) (VRs.mono (fun _ d=>⟨d,rfl⟩) tk h3') c1.nI.2.1 c1.nI.2.2 a3 (this▸hgo)
 |cons a r =>
  have hlen:=hr1.length;have hlt:k<vs.length:=by simp at hlen; lia
  have hdrop:vs.drop k=vs[k]::vs.drop (k+1):=List.drop_eq_getElem_cons hlt;rw[hdrop] at hr1;cases hr1 with
  |cons xv xr =>
   refine kG ?_; clear kG;refine wpAny_pyNext_list_item (x:=vs[k]) hi1 ⟨_,hl1,rfl,n,rfl⟩ (by simp[hlt]) fun h2 hi2 hs2=>?_;refine kf fun kG=>?_;refine E13 (id hi2) fun oi2 ho2 hc2 hd2=>?_;obtain⟨c2,tk2⟩:=c1.stepI (s':={ s1 with heap:=h2 }) (fun b o nb eb=>(hs2.2 b nb).trans eb) ⟨rfl,rfl⟩ ⟨oi2,ho2,_,hd2⟩;have xv2:=xv.mono (fun _ d=>⟨d,rfl⟩) tk2;have xr2:=VRs.mono (fun _ d=>⟨d,rfl⟩) tk2 xr;have hl2:IsL h2 ax vs.toArray n:=(hs2.2 _ na1).trans hl1;obtain⟨m,hn⟩:=c2.ns;refine kG ?_; clear kG;refine wpAny_assign_Name (wpAny_storeName_local (FC.loc x _ CO.var) hn (fun h3 hn3 hs3=>?_) ?_)
   ·refine kf fun kG=>?_;obtain⟨c3,tk3⟩:=c2.stepC hn3 hs3 (s1.toks+1);have xv3:=xv2.mono (fun _ d=>⟨d,rfl⟩) tk3;have xr3:=VRs.mono (fun _ d=>⟨d,rfl⟩) tk3 xr2;have hl3:IsL h3 ax vs.toArray n:=(hs3.2 _ na3).trans hl2;have hi3:h3.IsListIter it ax (k+1):=⟨oi2,(hs3.2 _ a2).trans ho2,hc2,hd2⟩;refine kG ?_; clear kG;refine rwE List.forIn_nil ?_;refine wpAny_pure ?_;refine rwE (if_pos rfl) ?_;refine wpAny_Name (wpAny_loadName_local FC.kind (FC.loc x _ CO.var) hn3 (by simp:(if x=x then some vs[k] else m x)=some vs[k]) ?_) (FC.nd x _ CO.var).1;refine E22 c3.out fun us n2 hL hv2=>?_;have hz':us.length≤1000000:=by
     have h1:=hv2.length;have h2:=congrArg List.length hal;simp at h2
     lia
    refine append_at hL (fun h6 hs6 hg6=>?_) (by refine rwE sizeLine_eq ?_; simp; lia);refine kf fun kG=>?_;obtain⟨c6,tk6⟩:=c3.stepD (n':=n2+1) hL hv2 xv3 hs6 (by simpa using hg6);refine kG ?_; clear kG;exact⟨r.length,Nat.lt_succ_self _,(hKI _ _).mpr ⟨k+1,acc++[a],r,rfl,by simpa using hal,c6,⟨oi2,(hs6.2 _ a1).trans ((hs3.2 _ a2).trans ho2),hc2,hd2⟩,(hs6.2 _ na2).trans hl3,VRs.mono (fun _ d=>⟨d,rfl⟩) tk6 xr3⟩⟩
   ·show (scope.kind==.class||(scope.kind==.module&&_))=false
    refine rwE CO.kind ?_;rfl
end
section
variable {prog:Program} {w:World} {G:Gl} {S:Stat} {K:Frag} {base:Heap} {M:Model}
variable {T T':NT} {A A₁:Around} {env cenv env':Env} {fr outer:List Env} {ρ ρ' ρ₁ ρ₂:Loc} {μ μ' μ'' μ₀ μ₁ μ₂:AA→Addr} {D':AA→Prop} {H H' H'' H₀ H₁ H₂:AH} {s s' s'' s₀ s₁ s₂:Shared} {call:Callee} {h h' h0:Heap} {E:Value→Shared→Prop} {L L' it D C:Addr} {x:Str} {scope:Scope} {acc:List AV}
theorem go_L {me:ME} {ms:List ME} {P:Nat→Prop} {C:Prop} (h:match (generalizing:=false) me,ms with|.loc j,[]=>P j|_,_=>False) (k:∀j,me = .loc j→ms=[]→P j→C):C:=by
 induction me using ME.casesOn<;>first|exact h.elim|skip
 induction ms using List.casesOn<;>first|exact h.elim|exact k _ rfl rfl h
theorem go_I {a:AV} {me:ME} {ms:List ME} {n:Nat} {P:List AV→Prop} {P2:AV→Prop} {C:Prop} (h:match (generalizing:=false) a with|.tup l=>P l|v=>(match (generalizing:=false) me,ms with|.loc j,[]=>if j=n then P2 v else False|_,_=>False))
 (k1:∀l,a = .tup l→P l→C) (k2:me = .loc n→ms=[]→(∀l,a≠.tup l)→P2 a→C):C:=by
 have z:(∀l,a≠.tup l)→(match (generalizing:=false) me,ms with|.loc j,[]=>if j=n then P2 a else False|_,_=>False)→C:=fun na h=>go_L h fun j e1 e2 p=>by
  by_cases q:j=n
  ·subst q; rw[if_pos rfl] at p; exact k2 e1 e2 na p
  ·rw[if_neg q] at p; exact p.elim
 induction a using AV.casesOn<;>first|exact k1 _ rfl h|exact z (fun _=>AV.noConfusion) h
theorem comp_run {elt iter:PySem.Expr} {px pos:Pos} {ifs:List PySem.Expr} {me:ME} {mifs:List ME} {Q:AV→AH→Prop} {RR:Value→Addr→Result→Shared→Prop} {a:AV} {xv:Value} (F:Fix T A env fr) (g:Ground0 prog w G S K base) (CO:CompOk T x scope)
 (hifs:∀C,SCs prog w S base (compTab T x T.length scope.names) A (compEnvC scope (clos env scope.names []) C env) fr call ifs mifs) (helt:∀C,SE prog w S base (compTab T x T.length scope.names) A (compEnvC scope (clos env scope.names []) C env) fr call elt me)
 (hcopy:me = .loc T.length→mifs=[]→∃pe,elt = .Name x pe∧ifs=[]) (st0:St prog w base T env fr ρ μ₀ H₀ s₀) (xa:VR μ₀ (Dm H₀) s₀.heap a xv)
 (hgo:match (generalizing:=false) a with
  |.tup l=>List.foldr (fun x k acc=>cands S call (fun _ _=>False) mifs (setL ρ T.length x) fun t=>if t=true then ewp S call (fun _ _=>False) me (setL ρ T.length x) fun y=>k (acc++[y]) else k acc) (fun acc H=>newO H (.list acc) Q) l [] H₀
  |v=>(match (generalizing:=false) me,mifs with
   |.loc j,[]=>if j=T.length then oK (itemsA S H₀ v) fun l=>newO H₀ (.list l) Q else False
   |_,_=>False))
 (hend:∀D C s2 μ2 H2 a' m,Ext fr μ₀ H₀ s₀ μ2 H2 s2→St prog w base T env fr ρ μ2 H2 s2→VR μ2 (Dm H2) s2.heap a' (.ref D)→Q a' H2→s2.heap.Ns C m→s₀.heap.get? C=none→¬Img μ2 H2 C→RR (.ref D) C (.ok .next) s2) :
 wpAny (model prog w) A (pyIter xv) (fun it s₂=>wpAny (model prog w) A (newList []) (fun acc s₃=>wpAny (model prog w) A (newFunctionEnv scope env.globals (clos env scope.names []) [] env.qual none .none (some env)) (fun cenv s₄ =>
  codeAny (model prog w) A (.compStart (.ListComp elt [⟨.Name x px,iter,ifs,0⟩] scope pos) 0 it acc { cenv with scope:=relabel scope env }) (RR acc cenv.locals) s₄) E s₃) E s₂) E s₀:=by
 -- the result takes its role
 have fin:∀{D C s2 μ2 H2 acc m vs n},s₀.heap.get? D=none→s₀.heap.get? C=none→Ext fr μ₀ H₀ s₀ μ2 H2 s2→St prog w base T env fr ρ μ2 H2 s2→s2.heap.Ns C m→IsL s2.heap D (List.toArray vs) n→VRs μ2 (Dm H2) s2.heap acc vs→¬Img μ2 H2 D→¬Img μ2 H2 C→D≠C→newO H2 (.list acc) Q→RR (.ref D) C (.ok .next) s2:=by
  intro D C s2 μ2 H2 acc m vs n hD hC e st hn hL hv nD nC nDC hq;refine kf fun kG=>?_;rcases hq with hq|⟨r,hr,hq⟩
  ·refine kG ?_; clear kG;exact hend D C s2 μ2 H2 .junk m e st (.junk rfl) hq hn hC nC
  ·refine kG ?_; clear kG;have up:∀b,H2 b≠none→upd H2 r (.list acc) b≠none∧setμ μ2 r D b=μ2 b:=fun b hb=>by
    have:b≠r:=fun e=>hb (e▸hr);simp[upd,setμ,this,hb]
   refine kf fun kG=>?_;obtain⟨e',st'⟩:=adopt (o:=.list acc) e st st0 hr hD nD (.list hL (VRs.mono up (TupKeep.refl _) hv));refine kG ?_; clear kG;refine hend D C s2 _ _ (.ref r) m e' st' ?_ hq hn hC fun⟨c,hc,z⟩=>?_
   ·have:=VR.ref (μ:=setμ μ2 r D) (D:=Dm (upd H2 r (.list acc))) (h:=s2.heap) (a:=r) (by simp[upd]);rwa [show setμ μ2 r D r=D from by simp[setμ]] at this
   ·by_cases q:c=r
    ·subst q;exact nDC (by simpa [setμ] using z)
    ·exact nC ⟨c,by simpa [upd,q] using hc,by simpa [setμ,q] using z⟩
 -- the block is entered
 have enter:∀(ito:Obj) (J:Prop),(∃vs,ito.data = .fields vs)→(∀s₄,CI prog w base T env fr ρ μ₀ H₀ s₀ s₀.heap.objs.size (s₀.heap.objs.size+1) (s₀.heap.objs.size+2) μ₀ H₀ s₄ []→s₄.heap.get? s₀.heap.objs.size=some ito →
  (∀b o,s₀.heap.get? b=some o→s₄.heap.get? b=some o)→codeAny (model prog w) A (.compStart (.ListComp elt [⟨.Name x px,iter,ifs,0⟩] scope pos) 0 (.ref s₀.heap.objs.size) (.ref (s₀.heap.objs.size+1)) (compEnvC scope (clos env scope.names []) (s₀.heap.objs.size+2) env)) (RR (.ref (s₀.heap.objs.size+1)) (s₀.heap.objs.size+2)) s₄)→ito.isFreed=false →
  wpAny (model prog w) A (newList []) (fun acc s₃=>wpAny (model prog w) A (newFunctionEnv scope env.globals (clos env scope.names []) [] env.qual none .none (some env)) (fun cenv s₄ =>
  codeAny (model prog w) A (.compStart (.ListComp elt [⟨.Name x px,iter,ifs,0⟩] scope pos) 0 (.ref s₀.heap.objs.size) acc { cenv with scope:=relabel scope env }) (RR acc cenv.locals) s₄) E s₃) E { s₀ with heap:=s₀.heap.push ito }:=by
  intro ito _ hito k hfr;refine wpAny_newObj_type (wpAny_newFunctionEnv CO.noCell (by intro y hy; simp at hy) (fun h₁ hns₁ hsb₁=>?_) CO.kind);dsimp only at hns₁ hsb₁ ⊢;have sz1:(s₀.heap.push ito).objs.size=s₀.heap.objs.size+1:=Heap.size_push ..;have sz2:((s₀.heap.push ito).push { cls:=.type "list",data:=.seq ([]:List Value).toArray }).objs.size=s₀.heap.objs.size+2:=by refine rwE (Heap.size_push ..) ?_; refine rwE (sz1 ..) ?_; rfl
  rw[sz2] at hns₁ hsb₁;have old:∀b o,((s₀.heap.push ito).push { cls:=.type "list",data:=.seq ([]:List Value).toArray }).get? b=some o→h₁.get? b=some o:=fun b o eb =>
   (hsb₁.2 b (Nat.ne_of_lt (sz2▸Heap.lt_size eb))).trans (Heap.get?_push_of_some _ eb)
  have k0:∀b o,s₀.heap.get? b=some o→h₁.get? b=some o:=fun b o eb=>old b o (Heap.get?_push_of_some _ (Heap.get?_push_of_some _ eb));have hit:h₁.get? s₀.heap.objs.size=some ito:=old _ _ (Heap.get?_push_of_some _ (Heap.get?_push_size _ hfr));have hD:IsL h₁ (s₀.heap.objs.size+1) (List.toArray []) 0:=by
   have:=old (s₀.heap.objs.size+1) _ (by refine rwS sz1 ?_; exact Heap.get?_push_size _ rfl);exact this
  obtain⟨r,e⟩:=st0.rep.more (s':={ s₀ with heap:=h₁,toks:=s₀.toks+([]:List (Str×Value)).length }) k0 ⟨rfl,rfl⟩;have nn:∀i,s₀.heap.get? (s₀.heap.objs.size+i)=none:=fun i=>Heap.get?_none_of_le (Nat.le_add_right ..);have nI:∀b,s₀.heap.get? b=none→¬Img μ₀ H₀ b:=fun b hb ⟨c,hc,z⟩=>by
   refine E12 (st0.rep.there c hc) fun ob e' _=>?_;rw[z,hb] at e'; exact (noS e').elim
  refine rwE sz1 ?_;show codeAny _ _ _ (RR (.ref (s₀.heap.objs.size+1)) _) _
  have goal:=k { s₀ with heap:=h₁,toks:=s₀.toks+([]:List (Str×Value)).length } ⟨st0,e,st0.ext e r,⟨_,hns₁⟩,⟨[],0,hD,.nil⟩,⟨ito,hit,hito⟩,⟨nn 0,nn 1,nn 2⟩,nI _ (nn 0),nI _ (nn 1),nI _ (nn 2)⟩ hit k0;refine rwE sz2 ?_;exact goal
 have nn:∀i,s₀.heap.get? (s₀.heap.objs.size+i)=none:=fun i=>Heap.get?_none_of_le (Nat.le_add_right ..);refine kf fun kG=>?_;refine kG ?_; clear kG;refine go_I hgo (fun l ea hgo=>?_) fun em ems na hgo=>?_
 ·subst ea;refine xa.tupI fun b ob vs n y1 y2 y3 y4 y5=>?_;have ht:IsTup s₀.heap b vs:=⟨ob,y1,y2,n,y3⟩;refine iter_tuple ht (enter _ True ⟨_,rfl⟩ (fun s₄ c hit k0=>?_) rfl);have hit':IsTupIter s₄.heap s₀.heap.objs.size b 0:=⟨_,hit,rfl,rfl⟩;have loop:codeAny (model prog w) A (.compLoop (.ListComp elt [⟨.Name x px,iter,ifs,0⟩] scope pos) 0 (.ref s₀.heap.objs.size) (.ref (s₀.heap.objs.size+1)) (compEnvC scope (clos env scope.names []) (s₀.heap.objs.size+2) env)) (RR (.ref (s₀.heap.objs.size+1)) (s₀.heap.objs.size+2)) s₄ :=
   comp_loop (J:=fun μ D s l=>∃i items,IsTupIter s.heap s₀.heap.objs.size b i∧IsTup s.heap b items∧VRs μ D s.heap l (items.toList.drop i)) F CO (hifs _) (helt _) (iter_tup F.hand) c ⟨0,vs,hit',ht.keeps k0,by simpa using c.ext.vrs st0.rep y5⟩ y4 hgo
    fun s2 μ2 H2 acc m vs n e st hn hL hv nD nC nDC hq=>fin (nn 1) (nn 2) e st hn hL hv nD nC nDC hq
  exact codeAny_compStart_list loop (wpAny_pyIter_tupleiter hit' loop)
 ······refine oK_I hgo fun l hl hq=>?_;refine E12 (hcopy em ems) fun pe eq1 eq2=>?_; subst eq1 eq2 em ems;refine tupS hl (fun l ea _=>(na l ea).elim) fun _ hl=>itemsA_of na hl fun ho hz=>?_;refine objOf_I g st0.rep xa ho fun b oo hbs=>?_;refine oo.listI fun vs n hL hv=>?_;refine wpAny_pyIter_list ⟨_,hL,rfl,n,rfl⟩ (enter _ True ⟨_,rfl⟩ (fun s₄ c hit k0=>?_) rfl);have hit':s₄.heap.IsListIter s₀.heap.objs.size b 0:=⟨_,hit,rfl,rfl⟩;have loop:codeAny (model prog w) A (.compLoop (.ListComp (.Name x pe) [⟨.Name x px,iter,[],0⟩] scope pos) 0 (.ref s₀.heap.objs.size) (.ref (s₀.heap.objs.size+1)) (compEnvC scope (clos env scope.names []) (s₀.heap.objs.size+2) env)) (RR (.ref (s₀.heap.objs.size+1)) (s₀.heap.objs.size+2)) s₄ :=
        comp_copy F CO c hit' ⟨_,hL⟩ (k0 _ _ hL) (c.ext.vrs st0.rep hv) hz hq
         fun s2 μ2 H2 acc m vs n e st hn hL hv nD nC nDC hq=>fin (nn 1) (nn 2) e st hn hL hv nD nC nDC hq
       exact codeAny_compStart_list loop (wpAny_pyIter_listiter hit' loop)
theorem se_comp {elt iter:PySem.Expr} {px pos:Pos} {ifs:List PySem.Expr} {me mit:ME} {mifs:List ME} (F:Fix T A env fr) (g:Ground0 prog w G S K base) (CO:CompOk T x scope) (hset:noSet iter=true) (h1:SE prog w S base T A env fr call iter mit)
 (hifs:∀C,SCs prog w S base (compTab T x T.length scope.names) A (compEnvC scope (clos env scope.names []) C env) fr call ifs mifs) (helt:∀C,SE prog w S base (compTab T x T.length scope.names) A (compEnvC scope (clos env scope.names []) C env) fr call elt me)
 (hcopy:me = .loc T.length→mifs=[]→∃pe,elt = .Name x pe∧ifs=[]):SE prog w S base T A env fr call (.ListComp elt [⟨.Name x px,iter,ifs,0⟩] scope pos) (.comp me T.length mit mifs):=by
 intro ρ μ H s Q X P E st h q hE;refine rwE (eval_ListComp ..) ?_;refine wpAny_comprehension_free (use:=none) rfl (noFold hset) (closure_ok (clos_cells F CO)) CO.kind CO.locals ?_;refine h1 ρ μ H s _ X _ E st h (fun v s1 μ1 H1 a e1 st1 x1 k1=>?_) hE;refine comp_run (RR:=fun acc C=>compPost (model prog w) A E none P acc C) (Q:=Q) F g CO hifs helt hcopy st1 x1 k1 fun D C s2 μ2 H2 a' m e2 st2 x2 k2 hn hC nC=>?_;refine⟨m,hn,fun h' hs'=>?_⟩;refine E33 hn fun o es ep ho hd _=>?_;obtain⟨e3,st3,tk3⟩:=junk_go (no:=(· = C)) (s':={ s2 with heap:=h' }) st1 e2 st2 (fun b z=>by refine rwE z ?_; exact⟨hC,nC⟩) (fun b oo z eb=>by rw[z,ho] at eb; obtain rfl:=Option.some.inj eb; exact⟨(fun _ vs n q=>by rw[hd] at q; cases q),(fun v q=>by rw[hd] at q; cases q)⟩) (fun b oo z eb=>(hs'.2 b z).trans eb) ⟨rfl,rfl⟩;exact q _ _ _ _ a' (e1.trans e3 st1.rep) st3 (x2.mono (fun _ d=>⟨d,rfl⟩) tk3) k2
theorem ss_comp {elt iter:PySem.Expr} {px pos spos py:Pos} {ifs:List PySem.Expr} {me mit:ME} {mifs:List ME} {y:Str} {i:Nat} (F:Fix T A env fr) (g:Ground0 prog w G S K base) (o:Own env) (CO:CompOk T x scope) (hset:noSet iter=true) (hy:Internal.locNo T y=some i) (h1:SE prog w S base T A env fr call iter mit)
 (hifs:∀C,SCs prog w S base (compTab T x T.length scope.names) A (compEnvC scope (clos env scope.names []) C env) fr call ifs mifs) (helt:∀C,SE prog w S base (compTab T x T.length scope.names) A (compEnvC scope (clos env scope.names []) C env) fr call elt me)
 (hcopy:me = .loc T.length→mifs=[]→∃pe,elt = .Name x pe∧ifs=[]):SS prog w S base T A env fr call (.Assign [.Name y py] (.ListComp elt [⟨.Name x px,iter,ifs,0⟩] scope pos) spos) (.asg (.loc i) (.comp me T.length mit mifs)):=fun ρ μ H s X Y N R P E st h k=>by
 have hT:=locNo_some hy;have hsw:swapsWith (.ListComp elt [⟨.Name x px,iter,ifs,0⟩] scope pos) (some (.Name y py)) spos.line env=pure (env.blockKind==.function&&env.kindOf y==some .local&&py.line==pos.line&&!(scope.names.any fun (n,k)=>n==y&&(k==.local||k==.cell))):=rfl;cases hb:(env.blockKind==.function&&env.kindOf y==some .local&&py.line==pos.line&&!(scope.names.any fun (n,k)=>n==y&&(k==.local||k==.cell))) with
 |false =>
  rw[hb] at hsw;refine wpAny_Assign_Name (se_comp F g CO hset h1 hifs helt hcopy ρ μ H s _ (X ρ) _ E st h (fun v s1 μ1 H1 a e1 st1 x1 k1=>?_) (k.px st)) hsw;exact store_ok' F o st1 hT x1 fun s2 e2 st2 _=>k.next s2 μ1 H1 _ (e1.toL.go2 e2 st st1) st2 k1
 |true =>
  rw[hb] at hsw;refine rwE (exec_Assign_Name_used _ _ _ _ hsw) ?_;refine wpAny_bind (wpAny_standAt (wpAny_bind ?_));show wpAny _ A (do let _ ←comprehension (.ListComp elt [⟨.Name x px,iter,ifs,0⟩] scope pos) scope env _ (newList []) false (eval iter env) (some (assign (.Name y py) env))) _ _ s
  refine wpAny_bind (wpAny_mono (wpAny_comprehension_free (use:=some (assign (.Name y py) env)) (Q:=fun _ s'=>P .next s') rfl (noFold hset) (closure_ok (clos_cells F CO)) CO.kind CO.locals ?_) (fun _ s' hq=>wpAny_pure (wpAny_pure hq)) fun _ _ e=>e);refine h1 ρ μ H s _ (X ρ) _ E st h (fun v s1 μ1 H1 a e1 st1 x1 k1=>?_) (k.px st);refine comp_run (RR:=fun acc C=>compPost (model prog w) A E (some (assign (.Name y py) env)) (fun _ s'=>P .next s') acc C) (Q:=fun v=>N (setL ρ i v)) F g CO hifs helt hcopy st1 x1 k1 fun D C s2 μ2 H2 a' m e2 st2 x2 k2 hn hC nC=>?_;show wpAny _ A (assign (.Name y py) env (.ref D)) _ _ _
  refine wpAny_assign_Name (store_ok' F o st2 hT x2 fun s3 e3 st3 vr3=>?_);refine E33 hn fun oC es ep ho hd hr=>?_;have nCL:C≠env.locals:=fun z=>by
   obtain⟨oo,hoo⟩:=st1.lob;rw[←z,hC] at hoo; exact (noS hoo).elim
  have nCF:C ∉ Lsf fr:=fun hm=>by
   obtain⟨_,oo,hoo,_⟩:=st1.frs.mem hm;rw[hC] at hoo; exact (noS hoo).elim
  have ho3:=(e3.keep C oC nCL ho nC).1 nCF;refine⟨m,⟨oC,es,ep,ho3,hd,hr⟩,fun h' hs'=>?_⟩;have e13:ExtL env.locals fr μ1 H1 s1 μ2 H2 s3:=e2.toL.go2 e3 st1 st2;obtain⟨e4,st4,tk4⟩:=rec_goX (no:=(· = C)) (s':={ s3 with heap:=h' }) st1 e13 st3 (fun b z=>by refine rwE z ?_; exact⟨hC,e3.notImg ho nC⟩) (fun b oo z eb=>by rw[z,ho3] at eb; obtain rfl:=Option.some.inj eb; exact⟨(fun _ vs n q=>by rw[hd] at q; cases q),(fun v q=>by rw[hd] at q; cases q)⟩) (fun b oo z eb=>(hs'.2 b z).trans eb) ⟨rfl,rfl⟩;exact k.next _ _ _ _ (e1.toL.go2 e4 st st1) st4 k2
end
section
variable {prog:Program} {w:World} {A:Around} {E:Value→Shared→Prop} {s:Shared} {d it:Addr} {od:Obj} {es:Array DictEntry} {ep i:Nat}
theorem keys_iter {Q:Value→Shared→Prop} (hd:(d==sysModules)=false) (ho:s.heap.get? d=some od) (hc:od.ExactDict) (hdat:od.data = .dict es ep)
 (hQ:Q (.ref s.heap.objs.size) { s with heap:=s.heap.push { cls:=.type "dict_keyiterator",data:=.fields #[.ref d,.int 0 0,.int es.size 0,.int ep 0] } }):wpAny (model prog w) A (pyIter (.ref d)) Q E s:=by
 have hT:s.TypeIs (.ref d) "dict":=⟨od,ho,hc.1⟩
 refine wpAny_pyIter_slot hT F.slot_dict_iter (wpAny_call_entry F.slot_dict_iter hT F.entry_dict_iter ?_ (F.args_dict_iter_1 _));unfold Builtin.«dict.__iter__»;refine wpAny_bind ?_;unfold Builtin.Dict.dictSlotNone;refine wpAny_bind (wpAny_notOrdered_dict hT ?_);show wpAny _ _ (pure (Value.ref d)) _ _ s
 refine wpAny_pure ?_;show wpAny _ _ (Builtin.Dict.showsAll d >>= _) _ _ s
 unfold Builtin.Dict.showsAll;refine rwE (if_neg (by rw[hd]; exact Bool.false_ne_true)) ?_;refine wpAny_bind (wpAny_pure ?_);refine wpAny_bind (wpAny_dictEntries ho hdat ?_);refine wpAny_bind (wpAny_dictEpoch ho hdat ?_);refine wpAny_bind (wpAny_newObj_type (wpAny_pure ⟨_,rfl,"dict_keyiterator",_,⟨_,Heap.get?_push_size _ rfl,rfl⟩,F.slot_dict_keyiterator_next.lookup,?_⟩))
 simpa [rawInt] using hQ
theorem keys_next {Q:Option Value→Shared→Prop} (hit:s.heap.IsKeyIter it d i es.size ep) (ho':s.heap.get? d=some od) (hdd:od.data = .dict es ep) (hlt:i<es.size)
 (hQ:∀h',h'.IsKeyIter it d (i+1) es.size ep→Heap.SameBut it s.heap h'→Q (some es[i].key) { s with heap:=h' }):wpAny (model prog w) A (pyNext (.ref it)) Q E s:=by
 refine E13 (id hit) fun o ho hc hd=>?_;skip
 refine wpAny_bind (wpAny_attempt (wpAny_callSpecial?_slot (name:=Str.ofString "__next__") hit.typeIs F.slot_dict_keyiterator_next
  (wpAny_call_entry F.slot_dict_keyiterator_next hit.typeIs F.entry_dict_keyiterator_next ?_ (F.args_dict_keyiterator_next_1 _))))
 refine wpAny_bind (wpAny_pure ?_);refine wpAny_bind ?_;refine wpAny_bind ?_;first|refine wpAny_bind (wpAny_typeNameOfWhole_keyiter hit.typeIs (wpAny_pure ?_))|refine wpAny_bind (wpAny_typeNameOf_keyiter hit.typeIs (wpAny_pure ?_))
 refine wpAny_bind (wpAny_fieldsOf ho hd ?_);have hown:Builtin.Dict_items.ownsTuple "dict_keyiterator" = false:=by decide
 dsimp only[hown,Bool.false_eq_true,if_false];show wpAny _ _ (if (Value.ref d==Value.none)=true then _ else _) _ _ s
 rw[if_neg (show ¬((Value.ref d==Value.none)=true) from Bool.false_ne_true)];refine wpAny_bind (wpAny_pure ?_);refine wpAny_bind (wpAny_dictEntries ho' hdd ?_);refine rwE (if_neg (by simp)) ?_;refine wpAny_bind (wpAny_pure ?_);refine wpAny_bind (wpAny_dictEpoch ho' hdd ?_);refine rwE (if_neg (by simp)) ?_;refine wpAny_pure ?_;simp only[show ¬((i:Int)<0) from by lia,if_false,Int.toNat_natCast,Array.getElem?_eq_getElem hlt];refine wpAny_bind ?_;first|refine wpAny_bind (wpAny_typeNameOfWhole_keyiter hit.typeIs (wpAny_pure ?_))|refine wpAny_bind (wpAny_typeNameOf_keyiter hit.typeIs (wpAny_pure ?_))
 refine wpAny_bind (wpAny_isOneOf_keyiter hit.typeIs ?_);show wpAny _ _ (setField (.ref it) 1 (rawInt ((i:Int)+1)) >>= _) _ _ s
 refine wpAny_bind (wpAny_setField ho hd (by simp) ?_);have hit':(s.heap.update it (Obj.mapFields (·.setIfInBounds 1 (rawInt ((i:Int)+1))))).IsKeyIter it d (i+1) es.size ep :=
  ⟨_,Heap.get?_update_self _ ho (Obj.isFreed_of_fields (Obj.data_mapFields hd _)),(Obj.cls_mapFields ..).trans hc,by refine rwE (Obj.data_mapFields hd ..) ?_; simp[rawInt]⟩
 refine wpAny_bind (wpAny_holding ?_);refine wpAny_bind (wpAny_isOneOf_keyiter (s:={ s with heap:=s.heap.update it (Obj.mapFields (·.setIfInBounds 1 (rawInt ((i:Int)+1)))) }) hit'.typeIs ?_);show wpAny _ _ (pure es[i].key) _ _ _
 exact wpAny_pure (wpAny_pure ⟨_,rfl,wpAny_pure (hQ _ hit' (Heap.SameBut.update ..))⟩)
theorem keys_end {Q:Option Value→Shared→Prop} (hh:A.handled=none) (hit:s.heap.IsKeyIter it d i es.size ep) (ho':s.heap.get? d=some od) (hdd:od.data = .dict es ep) (hge:es.size≤i)
 (hQ:∀h',Heap.ExtBut it s.heap h'→Q none { s with heap:=h' }):wpAny (model prog w) A (pyNext (.ref it)) Q E s:=by
 refine E13 (id hit) fun o ho hc hd=>?_;skip
 refine wpAny_bind (wpAny_attempt (wpAny_callSpecial?_slot (name:=Str.ofString "__next__") hit.typeIs F.slot_dict_keyiterator_next
  (wpAny_call_entry F.slot_dict_keyiterator_next hit.typeIs F.entry_dict_keyiterator_next ?_ (F.args_dict_keyiterator_next_1 _))))
 refine wpAny_bind (wpAny_pure ?_);refine wpAny_bind ?_;refine wpAny_bind ?_;first|refine wpAny_bind (wpAny_typeNameOfWhole_keyiter hit.typeIs (wpAny_pure ?_))|refine wpAny_bind (wpAny_typeNameOf_keyiter hit.typeIs (wpAny_pure ?_))
 refine wpAny_bind (wpAny_fieldsOf ho hd ?_);have hown:Builtin.Dict_items.ownsTuple "dict_keyiterator" = false:=by decide
 dsimp only[hown,Bool.false_eq_true,if_false];show wpAny _ _ (if (Value.ref d==Value.none)=true then _ else _) _ _ s
 rw[if_neg (show ¬((Value.ref d==Value.none)=true) from Bool.false_ne_true)];refine wpAny_bind (wpAny_pure ?_);refine wpAny_bind (wpAny_dictEntries ho' hdd ?_);refine rwE (if_neg (by simp)) ?_;refine wpAny_bind (wpAny_pure ?_);refine wpAny_bind (wpAny_dictEpoch ho' hdd ?_);refine rwE (if_neg (by simp)) ?_;refine wpAny_pure ?_;simp only[show ¬((i:Int)<0) from by lia,if_false,Int.toNat_natCast,Array.getElem?_eq_none hge];refine wpAny_bind ?_;first|refine wpAny_bind (wpAny_typeNameOfWhole_keyiter hit.typeIs (wpAny_pure ?_))|refine wpAny_bind (wpAny_typeNameOf_keyiter hit.typeIs (wpAny_pure ?_))
 show wpAny _ _ (setField (.ref it) 0 .none >>= _) _ _ s
 refine wpAny_bind (wpAny_setField ho hd (by simp) ?_);show wpAny _ _ (newExc (.type "StopIteration") [] >>= _) _ _ _
 refine wpAny_bind ?_;dsimp only[newExc,newTuple];refine wpAny_bind (wpAny_newObj_type ?_ (by size_fits));refine wpAny_bind (m:=firstArgMember _ _) (wpAny_of_eq (a:=Value.none) (by first|rfl|(dsimp only[firstArgMember]; rfl)) ?_);refine wpAny_newObj_type ?_ (by size_fits);dsimp only[raiseNew];refine wpAny_bind (wpAny_handled ?_);refine rwE (show A.in1.handled=none from hh) ?_;refine wpAny_bind (wpAny_pure (wpAny_throw ?_));refine wpAny_bind (wpAny_isInstance (T:="StopIteration") (b:=true) ⟨_,Heap.get?_push_size _ rfl,rfl⟩ isSubtype_stop ?_)
 exact wpAny_pure (hQ _ (((Heap.SameBut.update ..).extBut.push _).push _))
end
section
variable {prog:Program} {w:World} {G:Gl} {S:Stat} {K:Frag} {base:Heap} {M:Model}
variable {T T':NT} {A A₁:Around} {env cenv env':Env} {fr outer:List Env} {ρ ρ' ρ₁ ρ₂:Loc} {μ μ' μ'' μ₀ μ₁ μ₂:AA→Addr} {D':AA→Prop} {H H' H'' H₀ H₁ H₂:AH} {s s' s'' s₀ s₁ s₂:Shared} {call:Callee} {h h' h0:Heap} {E:Value→Shared→Prop} {L L' it D C:Addr} {x:Str}
noncomputable def SQ (prog:Program) (w:World) (S:Stat) (base:Heap) (T:NT) (A:Around) (env:Env) (fr:List Env) (call:Callee) (e:PySem.Expr) (m:ME):Prop :=
 ∀ρ μ H s (Q:AV→AH→Prop) (P:Value→Shared→Prop) (E:Value→Shared→Prop),St prog w base T env fr ρ μ H s→ewp S call (fun _ _=>False) m ρ Q H →
  (∀v tk a,VR μ (Dm H) s.heap a v→Q a H→P v { s with toks:=tk })→wpAny (model prog w) A (eval e env) P E s
theorem sq_int {i k pos}:SQ prog w S base T A env fr call (.Constant (.int i) k pos) (.val (.int i)):=fun ρ μ H s Q P E st h q=>wpAny_Constant_int (q _ _ _ (.int i _) (h))
theorem sq_str {x:Str} {k pos} (hx:(x.cps.toList.all fun c=>decide (c<1114112))=true):SQ prog w S base T A env fr call (.Constant (.str x) k pos) (.val (.str x.cps.toList)):=fun ρ μ H s Q P E st h q =>
 wpAny_Constant_str (q _ _ _ (by
  have e:strOf x.cps.toList=x:=by cases x; rfl
  have:=VR.str (μ:=μ) (D:=Dm H) (h:=s.heap) x.cps.toList s.toks (fun c hc=>of_decide_eq_true (List.all_eq_true.mp hx c hc));rwa [e] at this) (h))
theorem sq_name {x:Str} {pos:Pos} {m:ME} (F:Fix T A env fr) (g:Ground0 prog w G S K base) (e:nameE G T x=some m):SQ prog w S base T A env fr call (.Name x pos) m :=
 fun _ _ _ s _ _ _ st h q=>name_ok F g e st h fun v a x k=>q v s.toks a x k
theorem sq_attr {e:PySem.Expr} {m:ME} {x:Str} {n:Nat} {pos:Pos} (g:Ground0 prog w G S K base) (hn:noSuper e=true) (hx:nameNo x=some n) (h1:SQ prog w S base T A env fr call e m):SQ prog w S base T A env fr call (.Attribute e x pos) (.attr m n):=by
 intro ρ μ H s Q P E st h q;refine kf fun kG=>?_;obtain⟨rfl,hl⟩:=nameNo_some hx;refine kG ?_; clear kG;refine rwE (arm_eval_Attribute ..) ?_; refine rwE (attrBase hn ..) ?_;refine wpAny_bind (h1 ρ μ H s _ _ E st h (fun v tk1 a x1 k1=>?_));refine oK_I k1 fun r hr k2=>?_;refine wpAny_bind (wpAny_standAt (wpAny_bind (wpAny_holding (getAttr_ok (s:={ s with toks:=tk1 }) g (st.toks tk1) x1 hr fun v' tk x2=>?_))));exact wpAny_bind (wpAny_letTemporaryGo (wpAny_pure (q _ tk _ x2 k2)))
theorem sq_sub {e i:PySem.Expr} {m k:ME} {pos:Pos} (g:Ground0 prog w G S K base) (hu:A.units+200<cLine) (hn:noSlice i=true) (h1:SQ prog w S base T A env fr call e m) (h2:SQ prog w S base T A env fr call i k):SQ prog w S base T A env fr call (.Subscript e i pos) (.sub m k):=by
 intro ρ μ H s Q P E st h q;refine Subscript_ (h1 ρ μ H s _ _ E st h (fun v tk1 a x1 k1=>?_));refine h2 ρ μ H { s with toks:=tk1 } _ _ E (st.toks tk1) k1 (fun b tk2 bv x2 k2=>?_);refine kf fun kG=>?_;refine oK_I k2 fun r hr k3=>?_;obtain⟨t,gi⟩:=getItem_ok (s:={ s with toks:=tk2 }) (E:=E) g (st.toks tk2) hu x1 x2 hr;refine kG ?_; clear kG;exact sub_tail t (subscripted_eq hn _ _) (gi fun v' tk x3=>q _ tk _ x3 k3)
theorem ss_forkv {px p1 p2 p3 pos:Pos} {n i:Nat} {ie ob e1 e2 e3:PySem.Expr} {mi mo m1 m2 m3:ME} (F:Fix T A env fr) (g:Ground0 prog w G S K base) (o:Own env) (hu:A.units+200<cLine) (hx:Internal.locNo T x=some i) (hs:noSet ie=true) (hn1:notStar e1=true) (hn2:notStar e2=true) (hnc:noComp e3=true)
 (hi:SQ prog w S base T A env fr call ie mi) (ho:SQ prog w S base T A env fr call ob mo) (h1:SQ prog w S base T A env fr call e1 m1) (h2:SQ prog w S base T A env fr call e2 m2) (h3:SQ prog w S base T A env fr call e3 m3) :
 SS prog w S base T A env fr call (.For (.Name x px) ie [.Assign [.Subscript ob (.Tuple [e1,e2] n p1) p2] e3 p3] [] pos) (.forkv i mi mo m1 m2 m3):=fun ρ μ H s X Y N R P E st h k=>by
 have hT:=locNo_some hx;refine wpAny_For (hi ρ μ H s _ _ E st h (fun v tk a xa k1=>?_)) (noFold hs);refine kvO_I k1 ?_;clear k1
 ···intro r l ea hr k1;subst ea;refine xa.refI fun dr=>?_;have oo:=st.rep.obj _ _ hr;refine kf fun kG=>?_;refine oo.tdI fun xs hD hk hv=>?_;refine E36 hD fun od es ep hod hex hdat hes his hnd=>?_;have hesz:=size_of_entries hes;have hxl:xs.length=l.length:=by have:=congrArg List.length hk; simpa using this
    have nsys:(μ r==sysModules)=false:=beq_eq_false_iff_ne.mpr fun z=>by
     have h1:=st.rep.new r dr;rw[z] at h1;exact g.sysm h1
    refine kG ?_; clear kG;refine keys_iter (s:={ s with toks:=tk }) nsys hod hex hdat ?_;have hit0:s.heap.get? s.heap.objs.size=none:=get_size _;refine kf fun kG=>?_;obtain⟨rr,ee⟩:=st.rep.more (s':={ s with heap:=s.heap.push { cls:=.type "dict_keyiterator",data:=.fields #[.ref (μ r),.int 0 0,.int es.size 0,.int ep 0] },toks:=tk }) (fun b p e=>Heap.get?_push_of_some _ e) ⟨rfl,rfl⟩
    have st2:=st.ext ee rr;refine kG ?_; clear kG;obtain⟨KI,hKI⟩:∃KI:Nat→Shared→Prop,∀n' s1,KI n' s1↔(∃ρ1 H1 j rest,n'=List.length rest∧ExtL env.locals fr μ H s μ H1 s1∧St prog w base T env fr ρ1 μ H1 s1∧s1.heap.IsKeyIter s.heap.objs.size (μ r) j es.size ep∧s1.heap.get? (μ r)=some od∧rest=l.drop j∧H1 r=some (.td l) ∧
     List.foldr (kvQ S call i r l mo m1 m2 m3) N rest ρ1 H1):=⟨_,fun _ _=>.rfl⟩
    refine codeAny_forLoop KI (fun n' s1 hI=>?_) l.length ((hKI _ _).mpr ⟨ρ,H,0,l,rfl,ee.toL,st2,⟨_,Heap.get?_push_size _ rfl,rfl,rfl⟩,Heap.get?_push_of_some _ hod,rfl,hr,k1⟩) (fun _=>rfl);refine kf fun kG=>?_;refine E48 ((hKI _ _).mp hI) fun ρ1 H1 j rest eq4 e1' st1 hit hod1 hrest hr1 hg=>?_; subst eq4;refine E13 (id hit) fun oi hoi hci hdi=>?_;have nri:μ r≠s.heap.objs.size:=fun z=>by rw[z,hit0] at hod; exact (noS hod).elim
    induction rest using List.casesOn with
    |nil =>
     have hge:es.size≤j:=by
      have:=congrArg List.length hrest;simp at this
      lia
     refine kG ?_; clear kG;refine keys_end F.hand hit hod1 hdat hge fun h' hs'=>?_;refine kf fun kG=>?_;obtain⟨e3',st3⟩:=side (s'':={ s1 with heap:=h' }) st e1' st1 hit0 hoi ⟨_,hdi⟩ (fun b o nb e=>hs' b o nb e) ⟨rfl,rfl⟩;refine kG ?_; clear kG;exact wpAny_execs_nil (k.next _ _ _ _ e3' st3 hg)
    |cons p rest' =>
     have hlt:j<es.size:=by
      have:=congrArg List.length hrest;simp at this
      lia
     have hxj:j<xs.length:=by lia
     have hlj:j<l.length:=by lia
     have hp:p=l[j]∧rest'=l.drop (j+1):=by
      rw[List.drop_eq_getElem_cons hlj] at hrest;injection hrest with a b
      exact⟨a,b⟩
     have hej:es[j].key = .ref xs[j].2.1:=by
      have:=entry_at hes j;rw[Array.getElem?_eq_getElem hlt,List.getElem?_eq_getElem hxj] at this;injection this with this
      refine rwE this ?_;rfl
     have hkj:xs[j].1=p.1:=by
      have:=congrArg (fun z=>z[j]?) hk;simp only[List.getElem?_map,List.getElem?_eq_getElem hxj,List.getElem?_eq_getElem hlj,Option.map_some,Option.some.injEq] at this;refine rwE this ?_; refine rwE hp.1 ?_; rfl
     have hisj:IsTK s.heap p.1 xs[j].2.1:=hkj▸his xs[j] (List.getElem_mem hxj);refine kG ?_; clear kG;refine keys_next hit hod1 hdat hlt fun h2' hit2 hs2=>?_;refine kf fun kG=>?_;obtain⟨e2',st2'⟩:=side (s'':={ s1 with heap:=h2' }) st e1' st1 hit0 hoi ⟨_,hdi⟩ (fun b o nb e=>(hs2.2 b nb).trans e) ⟨rfl,rfl⟩;have hod2:h2'.get? (μ r)=some od:=(hs2.2 _ nri).trans hod1;refine kG ?_; clear kG;refine rwE hej ?_;show wpAny _ _ (standAt px >>= fun _=>bindName env x (.ref xs[j].2.1)) _ _ _
     refine E12 st2'.lo.loc fun m hn hl=>?_;refine wpAny_bind (wpAny_standAt (wpAny_bindName (wpAny_storeName_local (s:={ s1 with heap:=h2' }) (F.loc x i hT) hn (fun h3' hn3 hs3=>?_) o.cond)));have xk2:VR μ (Dm H1) h2' (tkV p.1) (.ref xs[j].2.1):=VR.mono (fun _ f=>f.elim) (e2'.tup st) hisj;obtain⟨e3',st3,tk3⟩:=local_set (s:={ s1 with heap:=h2' }) (ρ₂:=setL ρ1 i (tkV p.1)) (t:=s1.toks+1) F o st2' hT hn hl hn3 hs3 (fun j' hj' v' z=>by simpa [setL,hj'] using z) (fun v' z=>by
      have:v'=tkV p.1:=by simp[setL] at z; exact z.symm
      subst this;exact⟨_,rfl,xk2⟩)
     have e13:=e2'.go2 e3' st st2';have nrL:μ r≠env.locals:=fun z=>st.lo.apart ⟨r,dr,z⟩;have niL:s.heap.objs.size≠env.locals:=fun z=>by
      obtain⟨oo,hoo⟩:=st.lob;rw[←z,hit0] at hoo;exact (noS hoo).elim
     have hod3:h3'.get? (μ r)=some od:=(hs3.2 _ nrL).trans hod2;refine E13 (id hit2) fun oi2 hoi2 hci2 hdi2=>?_;have hoi3:h3'.get? s.heap.objs.size=some oi2:=(hs3.2 _ niL).trans hoi2;refine wpAny_execs_cons (wpAny_Assign_Subscript (h3 _ μ H1 _ _ _ _ st3 hg (fun vx tk4 x x4 k4=>?_)) (noswap hnc _ _));refine ho _ μ H1 _ _ _ _ (st3.toks tk4) k4 (fun vo tk5 ao x5 k5=>?_);refine wpAny_Tuple (?_:wpAny _ _ (spliced (backTo p1 (starEach [e1,e2] env))) _ _ _);refine rwE (star_cons hn1 ..) ?_; refine rwE (star_cons hn2 ..) ?_;refine spliced_cons (h1 _ μ H1 _ _ _ _ (st3.toks tk5) k5 (fun v1 tk6 a1 x6 k6=>?_));refine spliced_cons (h2 _ μ H1 _ _ _ _ (st3.toks tk6) k6 (fun v2 tk7 a2 x7 k7=>?_));refine spliced_nil ⟨by refine rwE sizeLine_eq ?_; simp,?_⟩;have st7:=st3.toks tk7;refine kf fun kG=>?_;obtain⟨r8,e8⟩:=st7.rep.more (s:={ s1 with heap:=h3',toks:=tk7 }) (s':={ s1 with heap:=h3'.push { cls:=.type "tuple",data:=.seq [v1,v2].toArray },toks:=tk7 }) (fun b p e=>Heap.get?_push_of_some _ e) ⟨rfl,rfl⟩
     have st8:=st7.ext e8 r8;have xt:VR μ (Dm H1) (h3'.push { cls:=.type "tuple",data:=.seq [v1,v2].toArray }) (.tup [a1,a2]) (.ref h3'.objs.size):=.tup (Heap.get?_push_size _ rfl) rfl rfl (by simp) (.cons (e8.vr st7.rep x6) (.cons (e8.vr st7.rep x7) .nil))
     have x4':=e8.vr st7.rep x4;have x5':=e8.vr st7.rep x5;refine setT_I k7 fun q l' kt ea hq hkt hz k8=>?_
     ···subst ea;refine E03 k8 fun kr kq kk=>?_;refine (vr_tkI xt hkt) fun ca hca hta=>?_;cases hca;refine kG ?_; clear kG;refine x5'.refI fun dq=>?_;have oo2:=st8.rep.obj _ _ hq;refine oo2.tdI fun xs2 hD2 hk2 hv2=>?_;have hlen2:xs2.length=l'.length:=by have:=congrArg List.length hk2; simpa using this
        refine wpAny_setItem_heap (s:={ s1 with heap:=h3'.push { cls:=.type "tuple",data:=.seq [v1,v2].toArray },toks:=tk7 }) (knd:=tkKind prog w) (by show A.units+1+64<cLine; lia) hta hD2 (fun h' hD' hs'=>?_) (by refine rwE sizeLine_eq ?_; lia)
        have dm:∀(o:AO) c,upd H1 q o c≠none↔H1 c≠none:=fun o=>upd_dm dq;have htk:TupKeep (h3'.push { cls:=.type "tuple",data:=.seq [v1,v2].toArray }) h':=fun c p e k _=>⟨p.slots,(hs'.2 c fun z=>st8.rep.notTup e k ⟨q,dq,z.symm⟩).trans e⟩
        have pr:=PrsH.mono (fun d hd=>⟨(dm (.td (stq l' kt x)) d).mpr hd,rfl⟩) htk (stq_relH (c:=h3'.objs.size) kt x4' ⟨hk2,hv2⟩);have fin:∀tk9,∃m'<(p::rest').length,KI m' { s1 with heap:=h',toks:=tk9 }:=fun tk9=>by
         refine kf fun kG=>?_;obtain⟨r9,e9⟩:=st8.rep.put (o:=.td (stq l' kt x)) (s':={ s1 with heap:=h',toks:=tk9 }) dq hs' (.td hD' pr.1 pr.2) rfl ⟨rfl,rfl⟩;have st9:=st8.ext e9 r9;have e19:ExtL env.locals fr μ H s μ (upd H1 q (.td (stq l' kt x))) { s1 with heap:=h',toks:=tk9 }:=by
          have e13':ExtL env.locals fr μ H s μ H1 { s1 with heap:=h3',toks:=tk7 }:=⟨e13.old,e13.fresh,e13.keep,e13.rest⟩;exact (e13'.go e8 st st7).go e9 st st8
         have nq:μ r≠μ q:=fun z=>kq (st8.rep.inj r q (by refine rwE hr1 ?_; simp) dq z).symm;refine kG ?_; clear kG;have nqi:s.heap.objs.size≠μ q:=fun z=>by
          refine kf fun kG=>?_;refine E14 (st3.rep.there q dq) fun ob e' _ nf _=>?_;have e'':h3'.get? (μ q)=some ob:=e';rw[←z,hoi3] at e'';obtain rfl:=Option.some.inj e'';refine kG ?_; clear kG;exact nf _ hdi2
         exact⟨rest'.length,Nat.lt_succ_self _,(hKI _ _).mpr ⟨_,_,j+1,rest',rfl,e19,st9,⟨oi2,(hs'.2 _ nqi).trans (Heap.get?_push_of_some _ hoi3),hci2,hdi2⟩,(hs'.2 _ nq).trans (Heap.get?_push_of_some _ hod3),hp.2,kr,kk⟩⟩
        exact wpAny_execs_nil (fin _)
end
inductive All2 {α β:Type} (P:α→β→Prop):List α→List β→Prop
 |nil:All2 P [] []
 |cons {a b l r}:P a b→All2 P l r→All2 P (a::l) (b::r)
theorem All2.len {α β:Type} {P:α→β→Prop} {l:List α} {r:List β} (h:All2 P l r):l.length=r.length:=by
 induction h with
 |nil=>rfl
 |cons _ _ ih=>exact congrArg (·+1) ih
theorem All2.imp {α β:Type} {P Q:α→β→Prop} (k:∀a b,P a b→Q a b) {l:List α} {r:List β} (h:All2 P l r):All2 Q l r:=by
 induction h with
 |nil=>exact .nil
 |cons h1 _ ih=>exact .cons (k _ _ h1) ih
theorem All2.I {α β:Type} {P:α→β→Prop} {l:List α} {r:List β} {C:Prop} (h:All2 P l r) (c0:l=[]→r=[]→C) (c1:∀a b l' r',l=a::l'→r=b::r'→P a b→All2 P l' r'→C):C :=
 All2.casesOn (motive:=fun x y _=>(x=[]→y=[]→C)→(∀a b l' r',x=a::l'→y=b::r'→P a b→All2 P l' r'→C)→C) h (fun c _=>c rfl rfl) (fun p q _ c=>c _ _ _ _ rfl rfl p q) c0 c1
theorem All2.ht {α β:Type} {P:α→β→Prop} {a:α} {b:β} {l:List α} {r:List β} (h:All2 P (a::l) (b::r)):P a b∧All2 P l r :=
 h.I (fun e _=>(List.cons_ne_nil _ _ e).elim) fun _ _ _ _ e1 e2 p q=>by
  obtain⟨rfl,rfl⟩:=List.cons.inj e1;obtain⟨rfl,rfl⟩:=List.cons.inj e2;exact⟨p,q⟩
theorem All2.hd {α β:Type} {P:α→β→Prop} {a:α} {b:β} {l:List α} {r:List β} (h:All2 P (a::l) (b::r)):P a b:=h.ht.1
theorem All2.tl {α β:Type} {P:α→β→Prop} {a:α} {b:β} {l:List α} {r:List β} (h:All2 P (a::l) (b::r)):All2 P l r:=h.ht.2
structure Cx (prog:Program) (w:World) (G:Gl) (S:Stat) (K:Frag) (base:Heap) (A:Around) (fr:List Env) (call:Callee) (fI:Addr) (fd:FuncData):Prop where
 g:Ground0 prog w G S K base
 c:CallsOk prog w S base A fr call
 hu:A.units+200<cLine
 hr:A.depth+2<recursionLimit
 X:ExcOk G K base S.unheld fI fd
 keepC:∀x C,G.clss.lookup x=some C→keepIn K (.ref C)=true
def EA (G:Gl) (T:NT) (e:PySem.Expr) (m:ME):Prop:=∀{prog:Program} {w:World} {S:Stat} {K:Frag} {base:Heap} {A:Around} {fr:List Env} {call:Callee} {fI:Addr} {fd:FuncData} {env:Env},Cx prog w G S K base A fr call fI fd→Fix T A env fr→SE prog w S base T A env fr call e m
def CA (G:Gl) (T:NT) (e:PySem.Expr) (m:ME):Prop:=∀{prog:Program} {w:World} {S:Stat} {K:Frag} {base:Heap} {A:Around} {fr:List Env} {call:Callee} {fI:Addr} {fd:FuncData} {env:Env},Cx prog w G S K base A fr call fI fd→Fix T A env fr→SC prog w S base T A env fr call e m
def OA (G:Gl) (T:NT) (e:Option PySem.Expr) (m:ME):Prop:=∀{prog:Program} {w:World} {S:Stat} {K:Frag} {base:Heap} {A:Around} {fr:List Env} {call:Callee} {fI:Addr} {fd:FuncData} {env:Env},Cx prog w G S K base A fr call fI fd→Fix T A env fr→SP prog w S base T A env fr call e m
structure EC (G:Gl) (T:NT) (e:PySem.Expr) (m:ME):Prop where
 ex:EA G T e m
 te:CA G T e m
structure ES (G:Gl) (T:NT) (e:PySem.Expr) (m:ME):Prop extends EC G T e m where
 st:notStar e=true
noncomputable abbrev ELs (G:Gl) (T:NT):List PySem.Expr→List ME→Prop:=All2 (ES G T)
theorem and_true' {a b:Bool} (h:(a&&b)=true):a=true∧b=true:=by rwa [Bool.and_eq_true] at h
section
variable {prog:Program} {w:World} {G:Gl} {S:Stat} {K:Frag} {base:Heap}
variable {T:NT} {A:Around} {env:Env} {fr:List Env} {call:Callee} {fI:Addr} {fd:FuncData}
theorem EC.no {e:PySem.Expr} {m:ME} (h:EA G T e m) (hc:∀S call X ρ Q H,¬cwp S call X m ρ Q H):EC G T e m:=⟨h,fun _ _ _ _ _ _ _ _ _ _ _ k _ _=>(hc _ _ _ _ _ _ k).elim⟩
theorem EC.pl {e:PySem.Expr} {m:ME} (h:EA G T e m) (hp:plainTest e=true) (hc:∀S call X ρ Q H,cwp S call X m ρ Q H→ewp S call X m ρ (tru S Q) H):EC G T e m:=⟨h,fun X F=>sc_plain hp (h X F) (hc _ _)⟩
section
variable {es:List PySem.Expr} {ms:List ME}
theorem ELs.sl (X:Cx prog w G S K base A fr call fI fd) (F:Fix T A env fr) (h:ELs G T es ms):SL prog w S base T A env fr call es ms:=by
 induction h with
 |nil=>exact sl_nil
 |cons h1 _ ih=>exact sl_cons h1.st (h1.ex X F) ih
theorem ELs.star (h:ELs G T es ms):es.all notStar=true:=by
 induction h with
 |nil=>rfl
 |cons h1 _ ih=>(refine rwE List.all_cons ?_; refine rwE h1.st ?_; refine rwE ih ?_); rfl
theorem ELs.scs (X:Cx prog w G S K base A fr call fI fd) (F:Fix T A env fr) (h:ELs G T es ms):SCs prog w S base T A env fr call es ms:=by
 induction h with
 |nil=>exact scs_nil
 |cons h1 _ ih=>exact scs_cons (h1.te X F) ih
variable {pos:Pos}
theorem ec_and (h:ELs G T es ms):EC G T (.BoolOp .And es pos) (.and ms):=by
 induction h with
 |nil=>exact⟨fun _ _ ρ μ H s Q X P E st h _ _=>False.elim h,fun _ _=>sc_and_nil⟩
 |cons h1 h2 ih =>
  refine⟨?_,fun X F=>sc_and (h1.te X F) (ih.te X F)⟩;exact h2.I (fun e1 e2=>by subst e1 e2; exact fun X F=>se_and1 (h1.ex X F)) fun _ _ _ _ e1 e2 _ _=>by subst e1 e2; exact fun X F=>se_and (h1.ex X F) (ih.ex X F)
theorem ec_or (h:ELs G T es ms):EC G T (.BoolOp .Or es pos) (.or ms):=by
 induction h with
 |nil=>exact⟨fun _ _ ρ μ H s Q X P E st h _ _=>False.elim h,fun _ _=>sc_or_nil⟩
 |cons h1 h2 ih =>
  refine⟨?_,fun X F=>sc_or (h1.te X F) (ih.te X F)⟩;exact h2.I (fun e1 e2=>by subst e1 e2; exact fun X F=>se_or1 (h1.ex X F)) fun _ _ _ _ e1 e2 _ _=>by subst e1 e2; exact fun X F=>se_or (h1.ex X F) (ih.ex X F)
noncomputable abbrev KLs (G:Gl) (T:NT):List (Option PySem.Expr)→List ME→Prop:=All2 fun o m=>∃e,o=some e∧EC G T e m
theorem pl_of (X:Cx prog w G S K base A fr call fI fd) (F:Fix T A env fr) {ks:List (Option PySem.Expr)} {mks:List ME} (h:KLs G T ks mks):∀{es:List PySem.Expr} {ms:List ME},ks.length=es.length→ELs G T es ms→PL prog w S base T A env fr call ks es mks ms∧ks.all (·.isSome)=true:=by
 induction h with
 |nil=>exact fun hl h2=>h2.I (fun e1 e2=>by subst e1 e2; exact⟨.nil,rfl⟩) fun _ _ _ _ e _ _ _=>by subst e; exact nomatch hl
 |cons h1 _ ih =>
  exact fun hl h2=>h2.I (fun e _=>by subst e; exact nomatch hl) fun a b l r e1 e2 k1 k2=>by
   subst e1 e2;exact E12 h1 fun e ee g1=>by
    subst ee;exact have q:=ih (Nat.succ.inj hl) k2; ⟨.cons (g1.ex X F) (k1.ex X F) q.1,q.2⟩
theorem pl_nil {mks ms:List ME} (p:PL prog w S base T A env fr call [] [] mks ms):mks=[]∧ms=[]:=by
 refine PL.casesOn (motive:=fun ks _ mks ms _=>ks=[]→mks=[]∧ms=[]) p ?_ ?_ rfl
 ·exact fun _=>⟨rfl,rfl⟩
 ·intros; exact nomatch ‹_::_=[]›
theorem ec_dict {ks:List (Option PySem.Expr)} {mks:List ME} (hl:ks.length=es.length∧ks.length≤15) (h1:KLs G T ks mks) (h2:ELs G T es ms):EC G T (.Dict ks es pos) (.dict (weave mks ms)):=by
 refine .no (fun X F=>?_) fun _ _ _ _ _ _=>id;obtain⟨p1,p2⟩:=pl_of X F h1 hl.1 h2;induction ks using List.casesOn with
 |nil=>induction es using List.casesOn with
  |nil =>
   have q:=pl_nil p1;rw[q.1,q.2]; exact se_dict0
  |cons _ _=>cases hl.1
 |cons k r=>exact se_dict X.hu p1 nofun hl.2 p2 hl.1
end
theorem ec_call {x:Str} {es:List PySem.Expr} {ms:List ME} {f:Addr} {p pos:Pos} (hT:T.lookup x=some .glob) (hf:G.defs.lookup x=some f) (a:ELs G T es ms):EC G T (.Call (.Name x p) es [] pos) (.call f ms) :=
 .pl (fun X F=>se_call F X.g X.c hT hf a.star a.len (a.sl X F)) rfl fun _ _ _ _ _ _ h=>h
theorem ec_make {x:Str} {es:List PySem.Expr} {ms:List ME} {C:Addr} {p pos:Pos} (hT:T.lookup x=some .glob) (hf:G.clss.lookup x=some C) (a:ELs G T es ms):EC G T (.Call (.Name x p) es [] pos) (.make C ms) :=
 .no (fun X F=>se_make F X.g X.c hT hf a.star a.len (X.keepC _ _ hf) (a.sl X F)) fun _ _ _ _ _ _=>id
theorem ec_len {x:Str} {e:PySem.Expr} {m:ME} {p pos:Pos} (hT:T.lookup x=some .glob) (hx:x=Str.ofString "len") (a:ES G T e m):EC G T (.Call (.Name x p) [e] [] pos) (.len m) :=
 .no (fun X F=>by subst hx; exact se_len F X.g hT a.st (a.ex X F)) fun _ _ _ _ _ _=>id
theorem ec_tupOf {x:Str} {e:PySem.Expr} {m:ME} {p pos:Pos} (hT:T.lookup x=some .glob) (hx:x=Str.ofString "tuple") (a:ES G T e m):EC G T (.Call (.Name x p) [e] [] pos) (.tupOf m) :=
 .no (fun X F=>by subst hx; exact se_tupOf F X.g hT a.st (a.ex X F)) fun _ _ _ _ _ _=>id
theorem ec_loc {x:Str} {i:Nat} {pos:Pos} (h:nameE G T x=some (.loc i)):EC G T (.Name x pos) (.loc i):=.pl (fun X F=>se_name F X.g h) rfl fun _ _ _ _ _ _ h=>h
theorem ec_gval {x:Str} {v:AV} {pos:Pos} (h:nameE G T x=some (.val v)):EC G T (.Name x pos) (.val v):=.no (fun X F=>se_name F X.g h) fun _ _ _ _ _ _=>id
theorem ec_none {k pos}:EC G T (.Constant .none k pos) (.val .none):=.no (fun _ _=>se_none) fun _ _ _ _ _ _=>id
theorem ec_bool {b k pos}:EC G T (.Constant (.bool b) k pos) (.val (.bool b)):=.no (fun _ _=>se_bool) fun _ _ _ _ _ _=>id
theorem ec_int {i k pos}:EC G T (.Constant (.int i) k pos) (.val (.int i)):=.no (fun _ _=>se_int) fun _ _ _ _ _ _=>id
theorem ec_str {x:Str} {k pos} (hx:(x.cps.toList.all fun c=>decide (c<1114112))=true):EC G T (.Constant (.str x) k pos) (.val (.str x.cps.toList)):=.no (fun _ _=>se_str hx) fun _ _ _ _ _ _=>id
section
variable {e i c a b:PySem.Expr} {m k mc ma mb:ME} {pos p:Pos}
theorem ec_attr {x:Str} {n:Nat} (hn:noSuper e=true) (hx:nameNo x=some n) (h1:EC G T e m):EC G T (.Attribute e x pos) (.attr m n):=.no (fun X F=>se_attr X.g hn hx (h1.ex X F)) fun _ _ _ _ _ _=>id
theorem ec_cut {lo hi:Option PySem.Expr} {ml mh:ME} (h1:EC G T e m) (h2:OA G T lo ml) (h3:OA G T hi mh):EC G T (.Subscript e (.Slice lo hi none p) pos) (.cut m ml mh):=.no (fun X F=>se_cut X.g (h1.ex X F) (h2 X F) (h3 X F)) fun _ _ _ _ _ _=>id
theorem ec_sub (hn:noSlice i=true) (h1:EC G T e m) (h2:EC G T i k):EC G T (.Subscript e i pos) (.sub m k):=.pl (fun X F=>se_sub X.g X.hu hn (h1.ex X F) (h2.ex X F)) rfl fun _ _ _ _ _ _ h=>h
theorem ec_meth {x:Str} {n:Nat} {es:List PySem.Expr} {ms:List ME} (hc:(p.endLine==pos.line&&decide (es.length<20)&&noSuper e)=true) (hx:nameNo x=some n) (h1:EC G T e m) (a:ELs G T es ms):EC G T (.Call (.Attribute e x p) es [] pos) (.meth m n ms):=by
 have c:=and_true' hc;have d:=and_true' c.1;exact .pl (fun X F=>se_meth F X.g X.hu X.c c.2 hx d.1 (of_decide_eq_true d.2) a.star a.len (h1.ex X F) (a.sl X F)) rfl fun _ _ _ _ _ _ h=>h
theorem ec_bin {op:Operator} {o:Bop} (ho:bop op=some o) (h1:EC G T e m) (h2:EC G T i k):EC G T (.BinOp e op i pos) (.bin o m k):=.pl (fun X F=>se_bin X.g ho (h1.ex X F) (h2.ex X F)) rfl fun _ _ _ _ _ _ h=>h
theorem ec_not (h1:EC G T e m):EC G T (.UnaryOp .Not e pos) (.not m):=⟨fun X F=>se_not (h1.ex X F),fun X F=>sc_not (h1.te X F)⟩
theorem ec_neg (h1:EC G T e m):EC G T (.UnaryOp .USub e pos) (.neg m):=.no (fun X F=>se_neg (h1.ex X F)) fun _ _ _ _ _ _=>id
theorem ec_cmp {op:CmpOp} (hr:noSet i=true) (h1:EC G T e m) (h2:EC G T i k):EC G T (.Compare e [op] [i] pos) (.cmp (cop op) m k):=⟨fun X F=>se_cmp X.g X.hu hr (h1.ex X F) (h2.ex X F),fun X F=>sc_cmp X.g X.hu hr (h1.ex X F) (h2.ex X F)⟩
theorem ec_ite (h1:EC G T c mc) (h2:EC G T a ma) (h3:EC G T b mb):EC G T (.IfExp c a b pos) (.ite mc ma mb):=.no (fun X F=>se_ite (h1.te X F) (h2.ex X F) (h3.ex X F)) fun _ _ _ _ _ _=>id
theorem ec_tup {es:List PySem.Expr} {ms:List ME} {n:Nat} (hl:es.length<1000) (a:ELs G T es ms):EC G T (.Tuple es n pos) (.tup ms):=.no (fun X F=>se_tup hl (a.sl X F)) fun _ _ _ _ _ _=>id
theorem ec_list {es:List PySem.Expr} {ms:List ME} (hl:es.length<1000) (a:ELs G T es ms):EC G T (.List es pos) (.list ms):=.no (fun X F=>se_list hl (a.sl X F)) fun _ _ _ _ _ _=>id
structure CP (G:Gl) (T:NT) (x:Str) (sc:Scope) (elt it:PySem.Expr) (ifs:List PySem.Expr) (me mit:ME) (mifs:List ME):Prop where
 c:(compB T x sc&&noSet it)=true
 h:me = .loc T.length→mifs=[]→∃pe,elt = .Name x pe∧ifs=[]
 e:EC G (compTab T x T.length sc.names) elt me
 i:EC G T it mit
 t:ELs G (compTab T x T.length sc.names) ifs mifs
theorem ec_comp {x:Str} {sc:Scope} {elt it:PySem.Expr} {ifs:List PySem.Expr} {me mit:ME} {mifs:List ME} (q:CP G T x sc elt it ifs me mit mifs):EC G T (.ListComp elt [⟨.Name x p,it,ifs,0⟩] sc pos) (.comp me T.length mit mifs) :=
 have c:=and_true' q.c;have CO:=comp_ok c.1;.no (fun X F=>se_comp F X.g CO c.2 (q.i.ex X F) (fun _=>q.t.scs X (comp_fix F CO)) (fun _=>q.e.ex X (comp_fix F CO)) q.h) fun _ _ _ _ _ _=>id
end
end
noncomputable def wit {α:Type} (o:Option α):Option {a:α // o=some a}:=match o with
 |some a=>some ⟨a,rfl⟩
 |none=>none
noncomputable def chk (b:Bool):Option (PLift (b=true)):=match b with
 |true=>some ⟨rfl⟩
 |false=>none
noncomputable def isLoc:ME→Bool
 |.loc _=>true
 |_=>false
noncomputable def cpW (x:Str) (elt:PySem.Expr) (ifs:List PySem.Expr) (me:ME) (mifs:List ME) (n:Nat):Option (PLift (me = .loc n→mifs=[]→∃pe,elt = .Name x pe∧ifs=[])):=match chk (!isLoc me),mifs with
 |some h,_=>some ⟨fun e _=>by subst e; exact absurd h.1 nofun⟩
 |none,_::_=>some ⟨nofun⟩
 |none,[]=>match elt,ifs with
  |.Name y p,[]=>(chk (y==x)).bind fun h=>some ⟨fun _ _=>⟨p,by (refine rwE (eq_of_beq h.1) ?_; rfl),rfl⟩⟩
  |_,_=>none
noncomputable abbrev OE (G:Gl) (T:NT) (e:PySem.Expr):=Option {m:ME // EC G T e m}
noncomputable def cCon (G:Gl) (T:NT):(c:PySem.Const)→(k:Nat)→(pos:Pos)→OE G T (.Constant c k pos)
 |.none,_,_=>some ⟨_,ec_none⟩
 |.bool _,_,_=>some ⟨_,ec_bool⟩
 |.int _,_,_=>some ⟨_,ec_int⟩
 |.str x,_,_=>(chk (x.cps.toList.all fun c=>decide (c<1114112))).bind fun h=>some ⟨_,ec_str h.1⟩
 |_,_,_=>none
noncomputable def cNam (G:Gl) (T:NT) (x:Str) (pos:Pos):OE G T (.Name x pos):=(wit (nameE G T x)).bind fun
 |⟨.loc _,h⟩=>some ⟨_,ec_loc h⟩
 |⟨.val _,h⟩=>some ⟨_,ec_gval h⟩
 |_=>none
noncomputable def callTo (G:Gl) (T:NT) (x:Str) (p pos:Pos):(es:List PySem.Expr)→(ms:List ME)→ELs G T es ms→OE G T (.Call (.Name x p) es [] pos)
 |es,ms,a=>(chk (T.lookup x==some .glob)).bind fun hT=>match wit (G.defs.lookup x),wit (G.clss.lookup x) with
  |some f,_=>some ⟨_,ec_call (eq_of_beq hT.1) f.2 a⟩
  |none,some C=>some ⟨_,ec_make (eq_of_beq hT.1) C.2 a⟩
  |none,none=>match es,ms,a with
   |[e],[m],a=>match chk (x==Str.ofString "len"),chk (x==Str.ofString "tuple") with
    |some h,_=>some ⟨_,ec_len (eq_of_beq hT.1) (eq_of_beq h.1) a.hd⟩
    |none,some h=>some ⟨_,ec_tupOf (eq_of_beq hT.1) (eq_of_beq h.1) a.hd⟩
    |none,none=>none
   |_,_,_=>none
mutual
noncomputable def cE (G:Gl):(T:NT)→(e:PySem.Expr)→OE G T e
 |T,.Constant c k pos=>cCon G T c k pos
 |T,.Name x pos=>cNam G T x pos
 |T,.Attribute e a _=>(chk (noSuper e)).bind fun hn=>(wit (nameNo a)).bind fun i=>(cE G T e).bind fun m=>some ⟨_,ec_attr hn.1 i.2 m.2⟩
 |T,.Subscript e (.Slice lo hi none _) _=>(cE G T e).bind fun m=>(cO G T lo).bind fun l=>(cO G T hi).bind fun h=>some ⟨_,ec_cut m.2 l.2 h.2⟩
 |T,.Subscript e i _=>(chk (noSlice i)).bind fun hn=>(cE G T e).bind fun m=>(cE G T i).bind fun k=>some ⟨_,ec_sub hn.1 m.2 k.2⟩
 |T,.Call (.Attribute e a ap) as [] pos=>(chk (ap.endLine==pos.line&&decide (as.length<20)&&noSuper e)).bind fun hc=>(wit (nameNo a)).bind fun i=>(cE G T e).bind fun m=>(cEs G T as).bind fun l=>some ⟨_,ec_meth hc.1 i.2 m.2 l.2⟩
 |T,.Call (.Name x p) as [] pos=>(cEs G T as).bind fun l=>callTo G T x p pos as l.1 l.2
 |T,.BinOp l o r _=>(wit (bop o)).bind fun o=>(cE G T l).bind fun m=>(cE G T r).bind fun k=>some ⟨_,ec_bin o.2 m.2 k.2⟩
 |T,.UnaryOp .Not e _=>(cE G T e).bind fun m=>some ⟨_,ec_not m.2⟩
 |T,.UnaryOp .USub e _=>(cE G T e).bind fun m=>some ⟨_,ec_neg m.2⟩
 |T,.BoolOp .And l _=>(cEs G T l).bind fun m=>some ⟨_,ec_and m.2⟩
 |T,.BoolOp .Or l _=>(cEs G T l).bind fun m=>some ⟨_,ec_or m.2⟩
 |T,.Compare l [o] [r] _=>(chk (noSet r)).bind fun hr=>(cE G T l).bind fun m=>(cE G T r).bind fun k=>some ⟨_,ec_cmp hr.1 m.2 k.2⟩
 |T,.IfExp c a b _=>(cE G T c).bind fun c=>(cE G T a).bind fun a=>(cE G T b).bind fun b=>some ⟨_,ec_ite c.2 a.2 b.2⟩
 |T,.Tuple l _ _=>(chk (decide (l.length<1000))).bind fun h=>(cEs G T l).bind fun m=>some ⟨_,ec_tup (of_decide_eq_true h.1) m.2⟩
 |T,.List l _=>(chk (decide (l.length<1000))).bind fun h=>(cEs G T l).bind fun m=>some ⟨_,ec_list (of_decide_eq_true h.1) m.2⟩
 |T,.Dict ks vs _=>(chk (decide (ks.length=vs.length∧ks.length≤15))).bind fun h=>(cOs G T ks).bind fun k=>(cEs G T vs).bind fun m=>some ⟨_,ec_dict (of_decide_eq_true h.1) k.2 m.2⟩
 |T,.ListComp e [⟨.Name x _,it,ifs,0⟩] sc _=>(chk (compB T x sc&&noSet it)).bind fun hc=>(cE G (compTab T x T.length sc.names) e).bind fun m=>(cE G T it).bind fun i=>(cEs G (compTab T x T.length sc.names) ifs).bind fun t=>(cpW x e ifs m.1 t.1 T.length).bind fun h=>some ⟨_,ec_comp ⟨hc.1,h.1,m.2,i.2,t.2⟩⟩
 |_,_=>none
noncomputable def cEs (G:Gl):(T:NT)→(es:List PySem.Expr)→Option {ms:List ME // ELs G T es ms}
 |_,[]=>some ⟨_,.nil⟩
 |T,e::r=>(chk (notStar e)).bind fun h=>(cE G T e).bind fun m=>(cEs G T r).bind fun l=>some ⟨_,.cons ⟨m.2,h.1⟩ l.2⟩
noncomputable def cO (G:Gl):(T:NT)→(e:Option PySem.Expr)→Option {m:ME // OA G T e m}
 |_,none=>some ⟨_,fun _ _=>sp_none⟩
 |T,some e=>(cE G T e).bind fun m=>some ⟨_,fun X F=>sp_some (m.2.ex X F)⟩
noncomputable def cOs (G:Gl):(T:NT)→(es:List (Option PySem.Expr))→Option {ms:List ME // KLs G T es ms}
 |_,[]=>some ⟨_,.nil⟩
 |T,some e::r=>(cE G T e).bind fun m=>(cOs G T r).bind fun l=>some ⟨_,.cons ⟨_,rfl,m.2⟩ l.2⟩
 |_,none::_=>none
end
def QA (G:Gl) (T:NT) (e:PySem.Expr) (m:ME):Prop:=∀{prog:Program} {w:World} {S:Stat} {K:Frag} {base:Heap} {A:Around} {fr:List Env} {call:Callee} {fI:Addr} {fd:FuncData} {env:Env},Cx prog w G S K base A fr call fI fd→Fix T A env fr→SQ prog w S base T A env fr call e m
def SA (G:Gl) (T:NT) (s:PySem.Stmt) (m:MS):Prop:=∀{prog:Program} {w:World} {S:Stat} {K:Frag} {base:Heap} {A:Around} {outer:List Env} {call:Callee} {fI:Addr} {fd:FuncData} {env:Env},Cx prog w G S K base A (env::outer) call fI fd→Fix T A env (env::outer)→Own env→SS prog w S base T A env (env::outer) call s m
noncomputable abbrev SAs (G:Gl) (T:NT):List PySem.Stmt→List MS→Prop:=All2 (SA G T)
noncomputable abbrev OQ (G:Gl) (T:NT) (e:PySem.Expr):=Option {m:ME // QA G T e m}
noncomputable abbrev OS (G:Gl) (T:NT) (s:PySem.Stmt):=Option {m:MS // SA G T s m}
theorem SAs.sss {prog:Program} {w:World} {G:Gl} {S:Stat} {K:Frag} {base:Heap} {T:NT} {A:Around} {env:Env} {outer:List Env} {call:Callee} {fI:Addr} {fd:FuncData} {es:List PySem.Stmt} {ms:List MS} (X:Cx prog w G S K base A (env::outer) call fI fd) (F:Fix T A env (env::outer)) (o:Own env) (h:SAs G T es ms):SSs prog w S base T A env (env::outer) call es ms:=by
 induction h with
 |nil=>exact sss_nil
 |cons h1 _ ih=>exact sss_cons (h1 X F o) ih
noncomputable def cQ (G:Gl) (T:NT):(e:PySem.Expr)→OQ G T e
 |.Name x _=>(wit (nameE G T x)).bind fun h=>some ⟨_,fun X F=>sq_name F X.g h.2⟩
 |.Constant c _ _=>match c with
  |.int _=>some ⟨_,fun _ _=>sq_int⟩
  |.str x=>(chk (x.cps.toList.all fun c=>decide (c<1114112))).bind fun h=>some ⟨_,fun _ _=>sq_str h.1⟩
  |_=>none
 |.Attribute e a _=>(chk (noSuper e)).bind fun hn=>(wit (nameNo a)).bind fun i=>(cQ G T e).bind fun m=>some ⟨_,fun X F=>sq_attr X.g hn.1 i.2 (m.2 X F)⟩
 |.Subscript e i _=>(chk (noSlice i)).bind fun hn=>(cQ G T e).bind fun m=>(cQ G T i).bind fun k=>some ⟨_,fun X F=>sq_sub X.g X.hu hn.1 (m.2 X F) (k.2 X F)⟩
 |_=>none
noncomputable def notRange:ME→Bool
 |.range _=>false
 |_=>true
noncomputable def cRng (G:Gl) (T:NT) (x y:Str) (px p pc pos:Pos) (i:{i:Nat // locNo T x=some i}) (b:List PySem.Stmt) (ms:{ms:List MS // SAs G T b ms}) (hy:y=Str.ofString "range") (hT:T.lookup y=some .glob):(es:List PySem.Expr)→(l:List ME)→ELs G T es l→OS G T (.For (.Name x px) (.Call (.Name y p) es [] pc) b [] pos)
 |[_],[m],a=>some ⟨.forr i.1 (.range [m]) ms.1,fun X F o=>by subst hy; exact ss_range1 F X.g o i.2 hT a.hd.st (a.hd.ex X F) (ms.2.sss X F o)⟩
 |[_,_],[m,k],a=>some ⟨.forr i.1 (.range [m,k]) ms.1,fun X F o=>by subst hy; exact ss_range2 F X.g o i.2 hT a.hd.st a.tl.hd.st (a.hd.ex X F) (a.tl.hd.ex X F) (ms.2.sss X F o)⟩
 |_,_,_=>none
noncomputable def cFor (G:Gl) (T:NT) (x:Str) (px pos:Pos) (it:PySem.Expr) (b:List PySem.Stmt) (ms:{ms:List MS // SAs G T b ms}):OS G T (.For (.Name x px) it b [] pos):=(wit (locNo T x)).bind fun i =>
 let plain (it:PySem.Expr):OS G T (.For (.Name x px) it b [] pos):=(chk (noSet it)).bind fun hs=>(cE G T it).bind fun m=>(chk (notRange m.1)).bind fun hr=>some ⟨_,fun X F o=>ss_for F X.g o i.2 hs.1 (fun l z=>by rw[z] at hr; exact absurd hr.1 nofun) (m.2.ex X F) (ms.2.sss X F o)⟩
 match it with
 |.Call (.Name y p) as [] pc=>match chk (y==Str.ofString "range"),chk (T.lookup y==some .glob) with
  |some hy,some hT=>(cEs G T as).bind fun l=>cRng G T x y px p pc pos i b ms (eq_of_beq hy.1) (eq_of_beq hT.1) as l.1 l.2
  |_,_=>plain _
 |it=>plain it
noncomputable def cKv (G:Gl) (T:NT) (x:Str) (px pos:Pos):(it:PySem.Expr)→(b:List PySem.Stmt)→OS G T (.For (.Name x px) it b [] pos)
 |it,[.Assign [.Subscript ob (.Tuple [e1,e2] _ _) _] e3 _]=>(wit (locNo T x)).bind fun i=>(chk (noSet it&&notStar e1&&notStar e2&&noComp e3)).bind fun h=>(cQ G T it).bind fun mi=>(cQ G T ob).bind fun mo=>(cQ G T e1).bind fun m1=>(cQ G T e2).bind fun m2=>(cQ G T e3).bind fun m3 =>
  some ⟨_,fun X F o=>have a:=and_true' h.1; have b:=and_true' a.1; have c:=and_true' b.1; ss_forkv F X.g o X.hu i.2 c.1 c.2 b.2 a.2 (mi.2 X F) (mo.2 X F) (m1.2 X F) (m2.2 X F) (m3.2 X F)⟩
 |_,_=>none
noncomputable def cAsg (G:Gl) (T:NT) (pos:Pos):(t e:PySem.Expr)→OS G T (.Assign [t] e pos)
 |.Name y _,.ListComp e [⟨.Name x _,it,ifs,0⟩] sc _=>(wit (locNo T y)).bind fun j=>(chk (compB T x sc&&noSet it)).bind fun hc=>(cE G (compTab T x T.length sc.names) e).bind fun m=>(cE G T it).bind fun i=>(cEs G (compTab T x T.length sc.names) ifs).bind fun t=>(cpW x e ifs m.1 t.1 T.length).bind fun h =>
  some ⟨_,fun X F o=>have c:=and_true' hc.1; have CO:=comp_ok c.1; ss_comp F X.g o CO c.2 j.2 (i.2.ex X F) (fun _=>t.2.scs X (comp_fix F CO)) (fun _=>m.2.ex X (comp_fix F CO)) h.1⟩
 |.Name x _,e=>(chk (noComp e)).bind fun hc=>(wit (locNo T x)).bind fun i=>(cE G T e).bind fun m=>some ⟨_,fun X F o=>ss_name F o hc.1 i.2 (m.2.ex X F)⟩
 |.Attribute ob a _,e=>(chk (noComp e)).bind fun hc=>(wit (nameNo a)).bind fun i=>(cE G T e).bind fun m=>(cE G T ob).bind fun k=>some ⟨_,fun X F o=>ss_attr X.g hc.1 i.2 (m.2.ex X F) (k.2.ex X F)⟩
 |.Subscript ob ix _,e=>(chk (noComp e)).bind fun hc=>(cE G T e).bind fun m=>(cE G T ob).bind fun k=>(cE G T ix).bind fun i=>some ⟨_,fun X F o=>ss_sub X.hu hc.1 (m.2.ex X F) (k.2.ex X F) (i.2.ex X F)⟩
 |.Tuple es _ _,e=>(chk (noComp e)).bind fun hc=>(chk (noTup e)).bind fun ht=>(wit (namesIn T es)).bind fun l=>(cE G T e).bind fun m=>some ⟨_,fun X F o=>ss_unp F o hc.1 ht.1 l.2 (m.2.ex X F)⟩
 |_,_=>none
noncomputable def cRet (G:Gl) (T:NT) (pos:Pos):(e:Option PySem.Expr)→OS G T (.Return e pos)
 |none=>some ⟨_,fun _ _ _=>ss_ret0⟩
 |some e=>(cE G T e).bind fun m=>some ⟨_,fun X F _=>ss_ret (m.2.ex X F)⟩
noncomputable def cDel (G:Gl) (T:NT) (pos:Pos):(ts:List PySem.Expr)→OS G T (.Delete ts pos)
 |[.Subscript e (.Slice (some lo) none none _) _]=>(cE G T e).bind fun m=>(cE G T lo).bind fun l=>some ⟨_,fun X F _=>ss_del (m.2.ex X F) (l.2.ex X F)⟩
 |_=>none
noncomputable def cRaise (G:Gl) (T:NT) (pos:Pos):(e:Option PySem.Expr)→OS G T (.Raise e none pos)
 |some (.Call (.Name x _) as [] _)=>(chk (T.lookup x==some .glob)).bind fun hT=>(wit (G.clss.lookup x)).bind fun C=>(cEs G T as).bind fun l=>some ⟨_,fun X F o=>ss_raise F X.g X.X X.hr (eq_of_beq hT.1) C.2 l.2.star l.2.len (l.2.sl X F)⟩
 |_=>none
noncomputable def cTry (G:Gl) (T:NT) (pos:Pos) (b:List PySem.Stmt) (ms:{ms:List MS // SAs G T b ms}):(hs:List PySem.ExceptHandler)→OS G T (.Try b hs [] [] pos)
 |[.ExceptHandler (some (.Name x _)) (some n) [.Assign [.Name y _] (.Attribute (.Name z _) a _) _] _]=>(chk (n==z)).bind fun hz=>(chk (T.lookup x==some .glob)).bind fun hT=>(wit (G.clss.lookup x)).bind fun C=>(wit (locNo T n)).bind fun i=>(wit (locNo T y)).bind fun j=>(wit (nameNo a)).bind fun k =>
  some ⟨.tryl ms.1 C.1 i.1 j.1 k.1,fun X F o=>by refine rwS (eq_of_beq hz.1) ?_; exact ss_try F X.g o X.X (eq_of_beq hT.1) C.2 i.2 j.2 k.2 (ms.2.sss X F o)⟩
 |_=>none
theorem sa_cont {G:Gl} {T:NT} {pos:Pos}:SA G T (.Continue pos) .cont:=fun _ _ _ _ _ _ _ _ _ _ _ _ _ _ k _ _=>k.elim
mutual
noncomputable def cS (G:Gl) (T:NT):(s:PySem.Stmt)→OS G T s
 |.Assign [t] e pos=>cAsg G T pos t e
 |.AugAssign (.Name x _) o e _=>(wit (locNo T x)).bind fun i=>(wit (bop o)).bind fun o=>(cE G T e).bind fun m=>some ⟨_,fun X F w=>ss_aug F w i.2 o.2 (m.2.ex X F)⟩
 |.If c a b _=>(cE G T c).bind fun m=>(cSs G T a).bind fun k=>(cSs G T b).bind fun l=>some ⟨_,fun X F o=>ss_if (m.2.te X F) (k.2.sss X F o) (l.2.sss X F o)⟩
 |.While c b [] _=>(cE G T c).bind fun m=>(cSs G T b).bind fun k=>some ⟨_,fun X F o=>ss_while (m.2.te X F) (k.2.sss X F o)⟩
 |.For (.Name x px) it b [] pos=>match cKv G T x px pos it b with
  |some r=>some r
  |none=>(cSs G T b).bind fun ms=>cFor G T x px pos it b ms
 |.Return e pos=>cRet G T pos e
 |.Expr e _=>(chk (noComp e)).bind fun h=>(cE G T e).bind fun m=>some ⟨_,fun X F o=>ss_expr o h.1 (m.2.ex X F)⟩
 |.Delete ts pos=>cDel G T pos ts
 |.Raise e none pos=>cRaise G T pos e
 |.Try b hs [] [] pos=>(cSs G T b).bind fun ms=>cTry G T pos b ms hs
 |.Pass _=>some ⟨_,fun _ _ _=>ss_pass⟩
 |.Continue _=>some ⟨_,sa_cont⟩
 |_=>none
noncomputable def cSs (G:Gl) (T:NT):(s:List PySem.Stmt)→Option {ms:List MS // SAs G T s ms}
 |[]=>some ⟨_,.nil⟩
 |s::r=>(cS G T s).bind fun m=>(cSs G T r).bind fun l=>some ⟨_,.cons m.2 l.2⟩
end
section
variable {prog:Program} {w:World} {G:Gl} {S:Stat} {K:Frag} {base:Heap} {fI:Addr} {fd:FuncData} {F:Addr→Option Fun}
theorem wpF_ok (g:Ground0 prog w G S K base) (X:ExcOk G K base S.unheld fI fd) (kc:∀x C,G.clss.lookup x=some C→keepIn K (.ref C)=true) (hF:∀f d,F f=some d→∃fd body,DefOk G base f fd body d∧SAs G (tabOf 0 fd.scope.names) body d.body) :
 ∀(n:Nat) (A:Around) (fr:List Env),A.frames=some fr→A.handled=none→Room n A→CallOk prog w S base A fr (wpF S F n):=by
 intro n;induction n with
 |zero=>intro A fr _ _ _ f as Ps μ H s vals R _ _ _ h _ _; exact h.elim
 |succ n ih =>
  intro A fr hA hh hr f as Ps μ H s vals R r frs x h q qe;replace h:(match F f with
   |some d=>fun H=>as.length=d.params∧swps S (wpF S F n) d.body (fun _ x=>Ps (.exc x)) (fun _ x=>Ps (.exc x)) (args0 as) (fun _=>Ps (.ok .none)) (fun v=>Ps (.ok v)) H
   |none=>fun _=>False:AH→Prop) H:=h
  cases hd:F f with
  |none=>rw[hd] at h; exact h.elim
  |some d =>
   rw[hd] at h;obtain⟨fd',body,D,DC⟩:=hF f d hd;obtain⟨r1,r2⟩:=hr;refine call_def g D hA hh (by lia) F (fun env e1 e2 fx=>?_) r frs x h q qe;have A1:(A.deeper env).depth=A.depth+1:=rfl;have A2:(A.deeper env).units=A.units+3:=rfl;have cx:Cx prog w G S K base (A.deeper env) (env::fr) (wpF S F n) fI fd:=by
    refine⟨g,fun A' f1 f2 f3 f4=>ih A' (env::fr) (f1.trans fx.frames) (f2.trans fx.hand) ⟨?_,?_⟩,by refine rwE A2 ?_; lia,by refine rwE A1 ?_; lia,X,kc⟩
    ·rw[A1] at f3; lia
    ·rw[A2] at f4; lia
   exact DC.sss cx fx ⟨e1,fx.kind⟩
end
end Mine.Internal
end
section
open PySem PySem.W PyProof.Rows
namespace Mine.Internal
noncomputable def gDefs:List (Str×Addr):=[(⟨#[95,119,97,108,108]⟩,21),(⟨#[105,110,110,101,114,95,107,105,110,100,115]⟩,145),(⟨#[114,111,119,95,108,101,118,101,108]⟩,152),(⟨#[114,111,119,95,108,101,110,103,116,104]⟩,159),(⟨#[99,104,101,99,107,95,107,105,110,100,95,114,111,119]⟩,166),(⟨#[99,104,101,99,107,95,110,97,109,101,100]⟩,173),(⟨#[99,104,101,99,107,95,97,114,103,115]⟩,180),(⟨#[109,97,121,95,115,116,97,110,100]⟩,187),(⟨#[99,108,97,115,115,95,107,105,110,100]⟩,194),(⟨#[112,114,105,109,95,107,105,110,100]⟩,201),(⟨#[107,105,110,100,95,115,111,114,116]⟩,208),(⟨#[101,108,101,109,95,111,102]⟩,215),(⟨#[116,105,100,95,111,102]⟩,222),(⟨#[97,114,103,115,95,111,102]⟩,229),(⟨#[105,115,95,118,97,108,117,101]⟩,236),(⟨#[105,115,95,114,101,102]⟩,243),(⟨#[105,115,95,118,97,114]⟩,250),(⟨#[99,108,111,115,101]⟩,257),(⟨#[99,108,111,115,101,95,105,110]⟩,264),(⟨#[119,105,116,104,95,105,110,110,101,114]⟩,271),(⟨#[98,111,120,95,111,102]⟩,278),(⟨#[112,105,99,107,95,97,114,103]⟩,285),(⟨#[105,110,116,95,114,97,110,103,101]⟩,292),(⟨#[105,115,95,105,110,116]⟩,299),(⟨#[116,121,112,101,95,111,102]⟩,348),(⟨#[99,111,117,110,116,95,115,116,101,112]⟩,745),(⟨#[103,111,95,100,101,101,112,101,114]⟩,752),(⟨#[110,101,120,116,95,110,117,109,98,101,114]⟩,759),(⟨#[101,118,97,108,95,101,120,112,114]⟩,766),(⟨#[101,118,97,108,95,112,108,97,99,101]⟩,773),(⟨#[107,105,110,100,95,105,110]⟩,780),(⟨#[108,97,121,111,117,116,95,105,110]⟩,787),(⟨#[105,115,95,113,117,101,115,116,105,111,110]⟩,794),(⟨#[110,101,119,95,105,116,101,109]⟩,801),(⟨#[110,101,119,95,119,111,114,100,115]⟩,808),(⟨#[98,108,111,99,107,95,110,117,109,98,101,114]⟩,815),(⟨#[98,108,111,99,107,95,108,105,100,115]⟩,822),(⟨#[98,101,103,105,110,95,98,108,111,99,107]⟩,829),(⟨#[108,97,121,95,99,101,108,108,115]⟩,836),(⟨#[99,101,108,108,95,111,102]⟩,843),(⟨#[116,104,114,111,119,95,110,101,119]⟩,850),(⟨#[116,104,114,111,119,95,110,111,116,104,105,110,103]⟩,857),(⟨#[116,104,114,111,119,95,105,116,101,109]⟩,864),(⟨#[114,111,119,95,116,97,107,105,110,103]⟩,871),(⟨#[119,104,101,110,95,115,97,121,115]⟩,878),(⟨#[112,117,115,104,95,103,117,97,114,100]⟩,885),(⟨#[100,114,111,112,95,103,117,97,114,100,115]⟩,892),(⟨#[105,116,101,109,95,105,115]⟩,899),(⟨#[112,108,97,105,110,95,107,105,110,100]⟩,906),(⟨#[107,101,112,116,95,108,97,121,111,117,116]⟩,1009),(⟨#[105,115,95,115,116,114,117,99,116]⟩,1016),(⟨#[105,115,95,99,111,109,112,111,115,101,100]⟩,1023),(⟨#[100,101,102,97,117,108,116,95,111,102]⟩,1030),(⟨#[100,101,102,97,117,108,116,95,112,97,114,116,115]⟩,1035),(⟨#[100,101,102,97,117,108,116,115,95,111,102]⟩,1042),(⟨#[110,101,119,95,105,110,115,116,97,110,99,101]⟩,1049),(⟨#[101,114,114,111,114,95,105,116,101,109]⟩,1056),(⟨#[97,115,95,116,119,105,110]⟩,1063),(⟨#[118,97,108,117,101,95,97,116]⟩,1070),(⟨#[112,117,116,95,118,97,108,117,101,95,97,116]⟩,1077),(⟨#[98,111,120,95,118,97,108,117,101]⟩,1084),(⟨#[117,110,98,111,120,95,118,97,108,117,101]⟩,1091),(⟨#[102,114,111,109,95,114,101,102,101,114,101,110,99,101]⟩,1098),(⟨#[118,97,108,117,101,95,119,105,116,104,105,110]⟩,1105),(⟨#[116,104,114,111,119,95,111,118,101,114]⟩,1112),(⟨#[119,105,116,104,95,104,111,108,101]⟩,1138),(⟨#[105,110,100,101,120,95,105,110]⟩,1145),(⟨#[105,116,101,109,95,112,108,97,99,101]⟩,1152),(⟨#[105,116,101,109,95,118,97,108,117,101]⟩,1159),(⟨#[115,116,111,114,101,95,105,116,101,109]⟩,1237),(⟨#[114,101,97,100,121,95,116,97,114,103,101,116]⟩,1282),(⟨#[119,114,105,116,101,95,116,97,114,103,101,116]⟩,1289),(⟨#[99,117,116]⟩,1334),(⟨#[105,110,95,114,97,110,103,101]⟩,1341),(⟨#[102,111,108,100,95,119,104,111,108,101]⟩,1348),(⟨#[102,111,108,100,95,99,111,110,118]⟩,1355),(⟨#[112,97,105,114,95,118,97,108,117,101]⟩,1362),(⟨#[110,117,109,98,101,114,95,97,115]⟩,1369),(⟨#[99,111,110,118,101,114,116,95,118,97,108,117,101]⟩,1376),(⟨#[116,97,107,101,95,118,97,114,105,97,98,108,101]⟩,1421),(⟨#[105,110,115,116,97,108,108,95,101,118,95,99,97,115,116,115]⟩,1447),(⟨#[95,108,97,119,95,97,100,100]⟩,1485),(⟨#[95,108,97,119,95,114,101,102,101,114,115]⟩,1492),(⟨#[95,108,97,119,95,112,108,97,105,110]⟩,1499),(⟨#[95,108,97,119,95,115,101,101,110]⟩,1506),(⟨#[95,108,97,119,95,110,111,110,101]⟩,1513),(⟨#[95,108,97,119,95,103,111,101,115]⟩,1520),(⟨#[95,108,97,119,95,115,116,111,112]⟩,1527),(⟨#[95,108,97,119,95,98,111,120,101,100]⟩,1534),(⟨#[95,108,97,119,95,102,114,111,109]⟩,1541),(⟨#[95,108,97,119,95,116,117,114,110,101,100]⟩,1548),(⟨#[95,108,97,119,95,111,118,101,114]⟩,1555),(⟨#[95,108,97,119,95,109,97,100,101]⟩,1562),(⟨#[95,108,97,119,95,115,112,111,116]⟩,1569),(⟨#[95,108,97,119,95,108,111,111,107,101,100]⟩,1576),(⟨#[95,108,97,119,95,105,116,101,109]⟩,1583),(⟨#[95,108,97,119,95,112,108,97,99,101]⟩,1590),(⟨#[95,108,97,119,95,109,101,97,110]⟩,1597),(⟨#[95,108,97,119,95,116,114,101,101]⟩,1604),(⟨#[95,108,97,119,95,101,114,114,111,114]⟩,1611),(⟨#[95,108,97,119,95,119,105,112,101,100]⟩,1618),(⟨#[95,108,97,119,95,114,117,110]⟩,1625),(⟨#[95,108,97,119,95,97,110,121]⟩,1632),(⟨#[95,108,97,119,95,112,105,99,107]⟩,1639),(⟨#[95,108,97,119,95,115,105,109,112,108,101]⟩,1646),(⟨#[95,108,97,119,95,111,98,106,101,99,116]⟩,1653),(⟨#[95,108,97,119,95,105,110,116]⟩,1660),(⟨#[95,108,97,119,95,114,105,103,104,116]⟩,1667),(⟨#[95,108,97,119,95,97,114,114,97,121]⟩,1674),(⟨#[95,108,97,119,95,100,101,101,100]⟩,1681),(⟨#[95,108,97,119,95,107,110,111,119,110]⟩,1688),(⟨#[95,108,97,119,95,107,105,110,100,115]⟩,1695),(⟨#[95,108,97,119,95,116,104,105,110,103]⟩,1700),(⟨#[95,108,97,119,95,119,111,114,108,100]⟩,1707),(⟨#[95,108,97,119,95,116,104,105,110,103,115]⟩,1714),(⟨#[95,108,97,119,95,115,101,116,116,108,101,100]⟩,1721),(⟨#[108,97,119]⟩,1728)]
noncomputable def gClss:List (Str×Addr):=[(⟨#[82,117,110,101,69,114,114,111,114]⟩,38),(⟨#[66,97,100,75,105,110,100]⟩,51),(⟨#[76,111,97,100,70,97,117,108,116]⟩,63),(⟨#[82,117,110,66,111,117,110,100]⟩,75),(⟨#[76,101,102,116,79,117,116]⟩,87),(⟨#[75,105,110,100,84,97,98,108,101]⟩,134),(⟨#[84,121,112,101,68,101,102]⟩,316),(⟨#[83,116,111,114,101]⟩,337),(⟨#[68,105,97,103,115]⟩,386),(⟨#[85,110,105,116]⟩,407),(⟨#[84,104,114,111,119,110]⟩,428),(⟨#[85,110,104,101,108,100]⟩,448),(⟨#[73,116,101,109]⟩,468),(⟨#[65,99,116]⟩,489),(⟨#[71,117,97,114,100]⟩,510),(⟨#[69,118,69,120,112,114]⟩,531),(⟨#[69,118,80,108,97,99,101]⟩,552),(⟨#[69,118,84,97,114,103,101,116]⟩,587),(⟨#[83,112,108,105,116,115]⟩,608),(⟨#[66,101,103,105,110,115]⟩,629),(⟨#[67,97,108,108,115]⟩,657),(⟨#[80,108,111,116]⟩,734),(⟨#[83,104,97,112,101]⟩,923),(⟨#[66,101,100]⟩,1000),(⟨#[69,118,72,101,108,100]⟩,1129),(⟨#[69,118,69,108,101,109]⟩,1176),(⟨#[69,108,101,109,65,116]⟩,1195),(⟨#[69,108,101,109,84,97,114,103,101,116]⟩,1228),(⟨#[69,118,76,101,110]⟩,1254),(⟨#[69,118,78,101,119,65,114,114,97,121]⟩,1273),(⟨#[69,118,65,115,115,105,103,110]⟩,1306),(⟨#[69,118,67,111,109,112,111,117,110,100]⟩,1325),(⟨#[69,118,67,111,110,118]⟩,1393),(⟨#[69,118,73,115]⟩,1412),(⟨#[69,118,65,115]⟩,1438)]
noncomputable def gVals:List (Str×AV):=[(⟨#[76,70,95,78,79,84,89,80,69]⟩,.int (1)),
 (⟨#[76,70,95,69,78,85,77]⟩,.int (12)),
 (⟨#[86,79,73,68]⟩,.int (0)),
 (⟨#[66,79,79,76]⟩,.int (1)),
 (⟨#[67,72,65,82]⟩,.int (2)),
 (⟨#[73,49]⟩,.int (3)),
 (⟨#[85,49]⟩,.int (4)),
 (⟨#[73,50]⟩,.int (5)),
 (⟨#[85,50]⟩,.int (6)),
 (⟨#[73,52]⟩,.int (7)),
 (⟨#[85,52]⟩,.int (8)),
 (⟨#[73,56]⟩,.int (9)),
 (⟨#[85,56]⟩,.int (10)),
 (⟨#[78,73,78,84]⟩,.int (11)),
 (⟨#[79,66,74,69,67,84]⟩,.int (12)),
 (⟨#[83,84,82,73,78,71]⟩,.int (13)),
 (⟨#[78,85,76,76,75]⟩,.int (14)),
 (⟨#[80,82,73,77,95,69,78,68]⟩,.int (16)),
 (⟨#[82,95,80,82,73,77]⟩,.int (1)),
 (⟨#[82,95,67,76,65,83,83]⟩,.int (2)),
 (⟨#[82,95,86,65,76,85,69]⟩,.int (3)),
 (⟨#[82,95,65,82,82,65,89]⟩,.int (4)),
 (⟨#[82,95,66,89,82,69,70]⟩,.int (5)),
 (⟨#[82,95,86,65,82]⟩,.int (6)),
 (⟨#[82,95,77,86,65,82]⟩,.int (7)),
 (⟨#[82,95,66,79,88,69,68]⟩,.int (8)),
 (⟨#[82,95,82,79,82,69,70]⟩,.int (9)),
 (⟨#[82,95,70,84,78]⟩,.int (10)),
 (⟨#[82,95,82,65,87]⟩,.int (11)),
 (⟨#[68,69,69,80,69,83,84,95,75,73,78,68]⟩,.int (24)),
 (⟨#[72,69,65,86,73,69,83,84,95,75,73,78,68]⟩,.int (4096)),
 (⟨#[80,82,73,77,95,84,73,68]⟩,.glob 90),
 (⟨#[84,73,68,95,80,82,73,77]⟩,.glob 91),
 (⟨#[65,82,82,65,89,95,84,73,68]⟩,.int (5)),
 (⟨#[78,85,76,76,65,66,76,69,95,84,73,68]⟩,.int (8)),
 (⟨#[73,78,84,95,82,65,78,71,69,83]⟩,.glob 92),
 (⟨#[83,95,83,84,82,85,67,84]⟩,.int (2)),
 (⟨#[83,95,69,78,85,77]⟩,.int (5)),
 (⟨#[86,65,95,78,79,78,69]⟩,.int (0)),
 (⟨#[84,95,78,85,76,76,65,66,76,69]⟩,.int (8)),
 (⟨#[84,95,78,85,76,76,82,69,70]⟩,.int (21)),
 (⟨#[84,95,73,78,68,69,88]⟩,.int (22)),
 (⟨#[84,95,67,65,83,84]⟩,.int (23)),
 (⟨#[84,95,68,73,86,90,69,82,79]⟩,.int (25)),
 (⟨#[84,95,79,86,69,82,70,76,79,87]⟩,.int (26)),
 (⟨#[84,95,65,82,82,65,89,84,89,80,69]⟩,.int (27)),
 (⟨#[84,95,73,78,86,65,76,73,68,79,80]⟩,.int (29)),
 (⟨#[84,95,79,79,77]⟩,.int (30)),
 (⟨#[88,95,69,76,69,77]⟩,.int (6)),
 (⟨#[88,95,76,69,78]⟩,.int (7)),
 (⟨#[88,95,78,69,87,65,82,82]⟩,.int (10)),
 (⟨#[88,95,67,79,78,86]⟩,.int (19)),
 (⟨#[88,95,73,83]⟩,.int (20)),
 (⟨#[88,95,65,83]⟩,.int (21)),
 (⟨#[88,95,65,83,83,73,71,78]⟩,.int (22)),
 (⟨#[88,95,67,79,77,80,79,85,78,68]⟩,.int (23)),
 (⟨#[67,86,95,78,85,77]⟩,.int (1)),
 (⟨#[67,86,95,67,65,83,84]⟩,.int (3)),
 (⟨#[67,86,95,66,79,88]⟩,.int (4)),
 (⟨#[67,86,95,85,78,66,79,88]⟩,.int (5)),
 (⟨#[67,86,95,87,82,65,80]⟩,.int (6)),
 (⟨#[67,86,95,85,78,87,82,65,80]⟩,.int (7)),
 (⟨#[67,86,95,78,85,76,76]⟩,.int (8)),
 (⟨#[67,86,95,76,73,70,84]⟩,.int (9)),
 (⟨#[83,95,66,76,79,67,75]⟩,.int (3)),
 (⟨#[88,95,72,69,76,68]⟩,.int (90)),
 (⟨#[77,79,83,84,95,78,69,83,84,69,68]⟩,.int (870)),
 (⟨#[83,65,89,95,78,85,76,76]⟩,.str [79,98,106,101,99,116,32,114,101,102,101,114,101,110,99,101,32,110,111,116,32,115,101,116,32,116,111,32,97,110,32,105,110,115,116,97,110,99,101,32,111,102,32,97,110,32,111,98,106,101,99,116,46]),
 (⟨#[67,70,95,77,69,83,83,65,71,69]⟩,.int (1)),
 (⟨#[83,65,89,95,67,65,83,84]⟩,.str [83,112,101,99,105,102,105,101,100,32,99,97,115,116,32,105,115,32,110,111,116,32,118,97,108,105,100,46]),
 (⟨#[83,65,89,95,78,79,95,86,65,76,85,69]⟩,.str [78,117,108,108,97,98,108,101,32,111,98,106,101,99,116,32,109,117,115,116,32,104,97,118,101,32,97,32,118,97,108,117,101,46]),
 (⟨#[83,65,89,95,77,69,77,79,82,89]⟩,.str [73,110,115,117,102,102,105,99,105,101,110,116,32,109,101,109,111,114,121,32,116,111,32,99,111,110,116,105,110,117,101,32,116,104,101,32,101,120,101,99,117,116,105,111,110,32,111,102,32,116,104,101,32,112,114,111,103,114,97,109,46]),
 (⟨#[77,79,83,84,95,73,84,69,77,83]⟩,.int (65536)),
 (⟨#[83,65,89,95,73,78,68,69,88]⟩,.str [73,110,100,101,120,32,119,97,115,32,111,117,116,115,105,100,101,32,116,104,101,32,98,111,117,110,100,115,32,111,102,32,116,104,101,32,97,114,114,97,121,46]),
 (⟨#[83,65,89,95,83,84,79,82,69]⟩,.str [65,116,116,101,109,112,116,101,100,32,116,111,32,97,99,99,101,115,115,32,97,110,32,101,108,101,109,101,110,116,32,97,115,32,97,32,116,121,112,101,32,105,110,99,111,109,112,97,116,105,98,108,101,32,119,105,116,104,32,116,104,101,32,97,114,114,97,121,46]),
 (⟨#[83,65,89,95,79,86,69,82]⟩,.str [65,114,105,116,104,109,101,116,105,99,32,111,112,101,114,97,116,105,111,110,32,114,101,115,117,108,116,101,100,32,105,110,32,97,110,32,111,118,101,114,102,108,111,119,46]),
 (⟨#[70,68,95,79,86,69,82,70,76,79,87]⟩,.int (220)),
 (⟨#[70,68,95,67,79,78,86,69,82,84]⟩,.int (221)),
 (⟨#[70,68,95,90,69,82,79]⟩,.int (20)),
 (⟨#[83,65,89,95,90,69,82,79]⟩,.str [65,116,116,101,109,112,116,101,100,32,116,111,32,100,105,118,105,100,101,32,98,121,32,122,101,114,111,46]),
 (⟨#[95,108,97,119,95,87,79,82,68,83]⟩,.tup [.tup [.str [33,110,117,108,108],.int (21),.str [79,98,106,101,99,116,32,114,101,102,101,114,101,110,99,101,32,110,111,116,32,115,101,116,32,116,111,32,97,110,32,105,110,115,116,97,110,99,101,32,111,102,32,97,110,32,111,98,106,101,99,116,46]],.tup [.str [33,105,110,100,101,120],.int (22),.str [73,110,100,101,120,32,119,97,115,32,111,117,116,115,105,100,101,32,116,104,101,32,98,111,117,110,100,115,32,111,102,32,116,104,101,32,97,114,114,97,121,46]],.tup [.str [33,99,97,115,116],.int (23),.str [83,112,101,99,105,102,105,101,100,32,99,97,115,116,32,105,115,32,110,111,116,32,118,97,108,105,100,46]],.tup [.str [33,111,118,101,114],.int (26),.str [65,114,105,116,104,109,101,116,105,99,32,111,112,101,114,97,116,105,111,110,32,114,101,115,117,108,116,101,100,32,105,110,32,97,110,32,111,118,101,114,102,108,111,119,46]],.tup [.str [33,115,116,111,114,101],.int (27),.str [65,116,116,101,109,112,116,101,100,32,116,111,32,97,99,99,101,115,115,32,97,110,32,101,108,101,109,101,110,116,32,97,115,32,97,32,116,121,112,101,32,105,110,99,111,109,112,97,116,105,98,108,101,32,119,105,116,104,32,116,104,101,32,97,114,114,97,121,46]],.tup [.str [33,118,97,108,117,101],.int (29),.str [78,117,108,108,97,98,108,101,32,111,98,106,101,99,116,32,109,117,115,116,32,104,97,118,101,32,97,32,118,97,108,117,101,46]],.tup [.str [33,109,101,109,111,114,121],.int (30),.str [73,110,115,117,102,102,105,99,105,101,110,116,32,109,101,109,111,114,121,32,116,111,32,99,111,110,116,105,110,117,101,32,116,104,101,32,101,120,101,99,117,116,105,111,110,32,111,102,32,116,104,101,32,112,114,111,103,114,97,109,46]]]),
 (⟨#[95,108,97,119,95,69,68,71,69,83]⟩,.tup [.int (0),.int (1),.int (-1),.int (2),.int (2147483647),.int (-2147483648),.int (65537),.int (1000000)]),
 (⟨#[95,108,97,119,95,73,78,84,83]⟩,.tup [.tup [.str [105,52],.int (0)],.tup [.str [105,52],.int (1)],.tup [.str [105,52],.int (2)],.tup [.str [105,52],.int (-1)],.tup [.str [105,52],.int (3)],.tup [.str [117,52],.int (1)],.tup [.str [117,52],.int (4294967295)],.tup [.str [117,52],.int (2147483648)],.tup [.str [105,56],.int (1)],.tup [.str [105,56],.int (-1)],.tup [.str [105,56],.int (2147483648)],.tup [.str [105,56],.int (-2147483649)],.tup [.str [117,56],.int (18446744073709551615)],.tup [.str [117,56],.int (0)],.tup [.str [105,52],.int (65537)],.tup [.str [105,52],.int (-2147483648)],.tup [.str [105,56],.int (2147483647)],.tup [.str [105,56],.int (-2147483648)],.tup [.str [117,56],.int (2147483648)],.tup [.str [117,52],.int (2)]]),
 (⟨#[95,108,97,119,95,70,73,82,83,84]⟩,.tup [.int (0),.int (1),.int (3),.int (1),.int (0),.int (1),.int (3),.int (1),.int (2),.int (10),.int (5),.int (4),.int (2),.int (0),.int (7),.int (8),.int (1),.int (3)])]
noncomputable def gl:Gl:=⟨gDefs,gClss,gVals⟩
noncomputable def tMeth:List (Addr×List (Nat×Addr)):=[(134,[(5,124),(6,131)]),(316,[]),(337,[]),(386,[(6,369)]),(407,[]),(468,[]),(489,[]),(510,[]),(531,[(82,528)]),(552,[(83,549)]),(587,[(84,570),(85,577),(86,584)]),(608,[(84,605)]),(629,[]),(657,[]),(734,[(81,682),(75,689),(76,703),(77,710),(78,717),(79,731)]),(923,[]),(1000,[(81,682),(75,948),(76,962),(77,969),(78,976),(79,990),(80,997)]),(1129,[(82,1126)]),(1176,[(82,1173)]),(1195,[(83,1192)]),(1228,[(84,1211),(85,1218),(86,1225)]),(1254,[(82,1251)]),(1273,[(82,1270)]),(1306,[(82,1303)]),(1325,[(82,1322)]),(1393,[(82,1390)]),(1412,[(82,1409)]),(1438,[(82,1435)])]
noncomputable def tInit:List (Addr×Option Addr):=[(134,some 117),(316,some 313),(337,some 334),(386,some 362),(407,some 404),(468,some 465),(489,some 486),(510,some 507),(531,none),(552,none),(587,none),(608,none),(629,none),(657,some 647),(734,some 675),(923,some 920),(1000,some 941),(1129,none),(1176,none),(1195,none),(1228,none),(1254,none),(1273,none),(1306,none),(1325,none),(1393,none),(1412,none),(1438,none)]
noncomputable def tPlain:List (Addr×List Nat):=[(134,[0,1,2,3,4]),(316,[87,88,89,90,91,93,92,94,95,96,13,18,97,98,99,100,101,102,103]),(337,[10,11,12,13,14,15,16]),(386,[0]),(407,[17,18,19,20,21,22,23,24,25]),(468,[29,30,31,32,0,33,34]),(489,[29,35,36,37,38,39,40,41,42,43]),(510,[29,0,107]),(531,[]),(552,[]),(587,[]),(608,[]),(629,[]),(657,[0]),(734,[44,17,10,46,50,51,52,53,54,55,56,59,61,62,63,64,65,66,67,68,69,70,71,72]),(923,[104,31,47,105,106]),(1000,[44,17,10,45,46,47,23,48,49,50,51,52,53,54,55,56,57,58,59,60,61,62,63,64,65,66,67,68,69,70,71,72,73,74]),(1129,[]),(1176,[]),(1195,[]),(1228,[]),(1254,[]),(1273,[]),(1306,[]),(1325,[]),(1393,[]),(1412,[]),(1438,[])]
noncomputable def tObj:List (Addr×List (Int×AV)):=[(90,[(0,.int (20)),(1,.int (9)),(2,.int (10)),(3,.int (11)),(4,.int (12)),(5,.int (13)),(6,.int (14)),(7,.int (15)),(8,.int (16)),(9,.int (17)),(10,.int (18)),(11,.int (19)),(12,.int (1)),(13,.int (4))]),
 (91,[(20,.int (0)),(9,.int (1)),(10,.int (2)),(11,.int (3)),(12,.int (4)),(13,.int (5)),(14,.int (6)),(15,.int (7)),(16,.int (8)),(17,.int (9)),(18,.int (10)),(19,.int (11)),(1,.int (12)),(4,.int (13))]),
 (92,[(1,.tup [.int (0),.int (255)]),(2,.tup [.int (0),.int (65535)]),(3,.tup [.int (-128),.int (127)]),(4,.tup [.int (0),.int (255)]),(5,.tup [.int (-32768),.int (32767)]),(6,.tup [.int (0),.int (65535)]),(7,.tup [.int (-2147483648),.int (2147483647)]),(8,.tup [.int (0),.int (4294967295)]),(9,.tup [.int (-9223372036854775808),.int (9223372036854775807)]),(10,.tup [.int (0),.int (18446744073709551615)]),(11,.tup [.int (-2147483648),.int (2147483647)])])]
noncomputable def kl:List Addr:=[38,51,63,75,87,134,316,337,386,407,428,448,468,489,510,531,552,587,608,629,657,734,923,1000,1129,1176,1195,1228,1254,1273,1306,1325,1393,1412,1438,37,50,62,74,86,133,315,336,385,406,427,447,467,488,509,530,551,586,607,628,656,733,922,999,1128,1175,1194,1227,1253,1272,1305,1324,1392,1411,1437,0,3,20,21,34,35,90,91,92,93,94,95,96,97,98,99,100,101,102,103,116,117,123,124,130,131,144,145,151,152,158,159,165,166,172,173,179,180,186,187,193,194,200,201,207,208,214,215,221,222,228,229,235,236,242,243,249,250,256,257,263,264,270,271,277,278,284,285,291,292,298,299,312,313,333,334,347,348,361,362,368,369,375,376,382,383,403,404,424,425,444,445,464,465,485,486,506,507,527,528,548,549,569,570,576,577,583,584,604,605,625,626,646,647,653,654,674,675,681,682,688,689,695,696,702,703,709,710,716,717,723,724,730,731,744,745,751,752,758,759,765,766,772,773,779,780,786,787,793,794,800,801,807,808,814,815,821,822,828,829,835,836,842,843,849,850,856,857,863,864,870,871,877,878,884,885,891,892,898,899,905,906,919,920,940,941,947,948,954,955,961,962,968,969,975,976,982,983,989,990,996,997,1008,1009,1015,1016,1022,1023,1029,1030,1034,1035,1041,1042,1048,1049,1055,1056,1062,1063,1069,1070,1076,1077,1083,1084,1090,1091,1097,1098,1104,1105,1111,1112,1125,1126,1137,1138,1144,1145,1151,1152,1158,1159,1172,1173,1191,1192,1210,1211,1217,1218,1224,1225,1236,1237,1250,1251,1269,1270,1281,1282,1288,1289,1302,1303,1321,1322,1333,1334,1340,1341,1347,1348,1354,1355,1361,1362,1368,1369,1375,1376,1389,1390,1408,1409,1420,1421,1434,1435,1446,1447,1448,1449,1450,1451,1452,1453,1454,1455,1456,1457,1458,1459,1460,1461,1462,1463,1464,1465,1466,1467,1468,1469,1470,1471,1472,1473,1474,1475,1476,1477,1478,1484,1485,1491,1492,1498,1499,1505,1506,1512,1513,1519,1520,1526,1527,1533,1534,1540,1541,1547,1548,1554,1555,1561,1562,1568,1569,1575,1576,1582,1583,1589,1590,1596,1597,1603,1604,1610,1611,1617,1618,1624,1625,1631,1632,1638,1639,1645,1646,1652,1653,1659,1660,1666,1667,1673,1674,1680,1681,1687,1688,1694,1695,1699,1700,1706,1707,1713,1714,1720,1721,1727,1728]
noncomputable def fl:List Addr:=[21,35,117,124,131,145,152,159,166,173,180,187,194,201,208,215,222,229,236,243,250,257,264,271,278,285,292,299,313,334,348,362,369,376,383,404,425,445,465,486,507,528,549,570,577,584,605,626,647,654,675,682,689,696,703,710,717,724,731,745,752,759,766,773,780,787,794,801,808,815,822,829,836,843,850,857,864,871,878,885,892,899,906,920,941,948,955,962,969,976,983,990,997,1009,1016,1023,1030,1035,1042,1049,1056,1063,1070,1077,1084,1091,1098,1105,1112,1126,1138,1145,1152,1159,1173,1192,1211,1218,1225,1237,1251,1270,1282,1289,1303,1322,1334,1341,1348,1355,1362,1369,1376,1390,1409,1421,1435,1447,1485,1492,1499,1506,1513,1520,1527,1534,1541,1548,1555,1562,1569,1576,1583,1590,1597,1604,1611,1618,1625,1632,1639,1646,1653,1660,1667,1674,1681,1688,1695,1700,1707,1714,1721,1728]
end Mine.Internal
end
section
open PySem PySem.W PyProof.Rows PySem.Calls PySem.Spec PySem.SeqAt
namespace Mine.Internal
theorem gotP {p:Prop} {o:Option (PLift p)} (h:o.isSome=true):p:=match o,h with|some x,_=>x.1
theorem str_of {l:List Nat} {s:Str} (h:(s.cps.toList==l)=true):s=strOf l:=by
 have:=eq_of_beq h;subst this; rfl
abbrev VK (K:Frag) (a:AV) (v:Value):Prop:=∀base,K.In base→VR0 base a v
abbrev VKs (K:Frag) (a:List AV) (v:List Value):Prop:=∀base,K.In base→VRs0 base a v
mutual
noncomputable def vrW (K:Frag):(a:AV)→(v:Value)→Option (PLift (VK K a v))
 |.none,.none=>some ⟨fun _ _=>.none⟩
 |.bool a,.bool b=>(chk (a==b)).bind fun h=>some ⟨fun _ _=>eq_of_beq h.1▸.bool a⟩
 |.int i,.int j _=>(chk (i==j)).bind fun h=>some ⟨fun _ _=>eq_of_beq h.1▸.int i _⟩
 |.str l,.str s _=>(chk (s.cps.toList==l)).bind fun h=>(chk (l.all fun c=>decide (c<1114112))).bind fun k=>some ⟨fun _ _=>str_of h.1▸.str l _ fun c hc=>of_decide_eq_true (List.all_eq_true.mp k.1 c hc)⟩
 |.tup l,.ref a=>(wit (K.lookup a)).bind fun o=>match o with
  |⟨⟨.type "tuple",_,.seq vs _,_⟩,ho⟩=>(chk (decide (l.length≤1000000))).bind fun h=>(vrsW K l vs.toList).bind fun k=>some ⟨fun b X=>.tup (X _ _ ho) rfl rfl (of_decide_eq_true h.1) (k.1 b X)⟩
  |_=>none
 |.glob a,.ref b=>(chk (a==b)).bind fun h=>some ⟨fun _ _=>eq_of_beq h.1▸.glob a⟩
 |_,_=>none
noncomputable def vrsW (K:Frag):(a:List AV)→(v:List Value)→Option (PLift (VKs K a v))
 |[],[]=>some ⟨fun _ _=>.nil⟩
 |a::r,v::t=>(vrW K a v).bind fun h=>(vrsW K r t).bind fun k=>some ⟨fun b X=>.cons (h.1 b X) (k.1 b X)⟩
 |_,_=>none
end
noncomputable def vrB (K:Frag) (a:AV) (v:Value):Bool:=(vrW K a v).isSome
structure EK (K:Frag) (l:List (Int×AV)) (es:List DictEntry):Prop where
 k:∀prog w base,K.In base→(∀e∈es,∃k,(ik prog w).is k e.key=true∧e.hash=(ik prog w).hash k)∧∃kvs:List (Int×Value),PySem.Pairs (ik prog w) es kvs∧kvs.map (·.1)=l.map (·.1)∧VRs0 base (l.map (·.2)) (kvs.map (·.2))
theorem EK.cons {K:Frag} {j:Int} {t:Tok} {h:Int} {a:AV} {v:Value} {r:List (Int×AV)} {es:List DictEntry} (hh:h=hashInt j) (x:VK K a v) (y:EK K r es):EK K ((j,a)::r) (⟨h,.int j t,v⟩::es):=⟨fun prog w b X=>by
 obtain⟨g1,kvs,g2,g3,g4⟩:=y.k prog w b X;refine⟨fun e he=>?_,(j,v)::kvs,.cons (is_int _ _) rfl g2,congrArg _ g3,.cons (x b X) g4⟩;rcases List.mem_cons.mp he with rfl|he
 ·exact⟨j,is_int _ _,hh⟩
 ·exact g1 e he⟩
noncomputable def entW (K:Frag):(l:List (Int×AV))→(es:List DictEntry)→Option (PLift (EK K l es))
 |[],[]=>some ⟨⟨fun _ _ _ _=>⟨(fun _ he=>nomatch he),[],.nil,rfl,.nil⟩⟩⟩
 |(k,a)::r,⟨h,.int j t,v⟩::es=>(chk (j==k)).bind fun h1=>(chk (h==hashInt j)).bind fun h2=>(vrW K a v).bind fun x=>(entW K r es).bind fun y=>some ⟨eq_of_beq h1.1▸.cons (eq_of_beq h2.1) x.1 y.1⟩
 |_,_=>none
noncomputable def idW (K:Frag) (a:Addr) (l:List (Int×AV)):Option (PLift (∀prog w base,K.In base→OR prog w (fun _=>0) (fun _=>False) base (.id l) a)):=(wit (K.lookup a)).bind fun o=>match o with
 |⟨⟨.type "dict",none,.dict es ep,sl⟩,ho⟩=>(chk sl.isEmpty).bind fun h1=>(entW K l es.toList).bind fun h2=>(chk (decide (l.map (·.1)).Nodup)).bind fun h3=>some ⟨fun prog w b X=>by
  obtain⟨g1,kvs,g2,g3,g4⟩:=h2.1.k prog w b X;exact .id ⟨_,es,ep,X _ _ ho,⟨rfl,rfl,by simpa using h1.1⟩,rfl,fun e he=>g1 e (by simpa using he),g2,by with_reducible refine rwE g3 ?_; exact of_decide_eq_true h3.1⟩ g3 g4⟩
 |_=>none
noncomputable def idB (K:Frag) (a:Addr) (l:List (Int×AV)):Bool:=(idW K a l).isSome
section
variable {prog:Program} {w:World} {K:Frag} {base:Heap}
theorem vrB_ok (X:K.In base) (a:AV) (v:Value) (h:vrB K a v=true):VR0 base a v:=gotP h base X
theorem idB_ok (X:K.In base) {a:Addr} {l:List (Int×AV)} (h:idB K a l=true):OR prog w (fun _=>0) (fun _=>False) base (.id l) a:=gotP h prog w base X
end
structure Tabs where
 G:Gl
 meth:List (Addr×List (Nat×Addr))
 init:List (Addr×Option Addr)
 plain:List (Addr×List Nat)
 obj:List (Addr×List (Int×AV))
 unheld:Addr
noncomputable def Tabs.stat (t:Tabs) (l:Addr) (zs:List Int):Stat where
 obj:=fun a=>match t.obj.lookup a with
  |some d=>some (.id d)
  |none=>if a=l then some (.list (zs.map .int)) else none
 meth:=fun C n=>(t.meth.lookup C).bind (·.lookup n)
 plain:=fun C n=>(t.plain.lookup C).any (·.contains n)
 init:=fun C=>t.init.lookup C
 unheld:=t.unheld
noncomputable def refIs (r:Option (Option Value)) (f:Addr):Bool:=r==some (some (.ref f))
noncomputable def objB (t:Tabs) (K:Frag):Bool:=t.obj.all fun p=>idB K p.1 p.2&&!(p.1==sysModules)
noncomputable def methB (t:Tabs) (K:Frag):Bool:=t.meth.all fun p=>p.2.all fun q=>plainGet K p.1 (nmS q.1)&&hasDictIn K p.1&&refIs (findIn K (.ref p.1) (nmS q.1)) q.2&&isFn K (.ref q.2)&&keepIn K (.ref q.2)&&decide (q.1<names.length)
noncomputable def initB (t:Tabs) (K:Frag):Bool:=t.init.all fun p=>makesIn K p.1&&keepIn K (.ref p.1)&&(match p.2 with
 |some f=>refIs (findIn K (.ref p.1) "__init__") f&&typeIn K (.ref f)==some (.type "function")
 |none=>findIn K (.ref p.1) "__init__"==some (some (.builtin "object.__init__")))
noncomputable def plainB (t:Tabs) (K:Frag):Bool:=t.plain.all fun p=>p.2.all fun n=>plainGet K p.1 (nmS n)&&hasDictIn K p.1&&findIn K (.ref p.1) (nmS n)==some none&&findIn K (.ref p.1) "__setattr__"==some (some (.builtin "object.__setattr__"))&&plainOver K p.1&&decide (n<names.length)
noncomputable def defsB (t:Tabs) (K:Frag):Bool:=t.G.defs.all (fun p=>refIs (nsIn K mainGlobals p.1) p.2&&keepIn K (.ref p.2))&&t.G.clss.all (fun p=>refIs (nsIn K mainGlobals p.1) p.2&&keepIn K (.ref p.2))
noncomputable def valsB (t:Tabs) (K:Frag):Bool:=t.G.vals.all fun p=>match nsIn K mainGlobals p.1 with|some (some u)=>vrB K p.2 u|_=>false
noncomputable def freeB (K:Frag):Bool:=([Str.ofString "len",Str.ofString "tuple",Str.ofString "range"]:List Str).all fun x=>nsIn K mainGlobals x==some none
theorem mem_of_look {α β:Type} [BEq α] [LawfulBEq α] {l:List (α×β)} {x:α} {v:β} (h:l.lookup x=some v):(x,v)∈l:=mem_lookup h
section
variable {prog:Program} {w:World} {K:Frag} {base:Heap} {mg mb:Str→Option Value}
theorem ground (t:Tabs) (X:K.In base) (g:base.Ns mainGlobals mg) (b:base.Ns builtinsNs mb) (lim:base.NoLimit) (bb:∀x:Str,x≠"__name__"→mb x=bootBuiltins x) (hs:base.get? sysModules≠none)
 {l:Addr} {zs:List Int} (hl:l≠sysModules) (ho:OR prog w (fun _=>0) (fun _=>False) base (.list (zs.map .int)) l)
 (h1:objB t K=true) (h2:methB t K=true) (h3:initB t K=true) (h4:plainB t K=true) (h5:defsB t K=true) (h6:valsB t K=true) (h7:freeB K=true):Ground0 prog w t.G (t.stat l zs) K base:=by
 simp only[objB,methB,plainB,defsB,freeB,List.all_eq_true,Bool.and_eq_true,refIs,beq_iff_eq,decide_eq_true_eq,Bool.not_eq_true',beq_eq_false_iff_ne] at h1 h2 h4 h5 h7;replace h3:=List.all_eq_true.mp h3;replace h6:=List.all_eq_true.mp h6;refine⟨X,⟨mg,g,fun x v e=>?_,mb,b,fun x hx=>⟨ns_none_of X g (h7 x hx),bb x fun z=>?_⟩⟩,lim,fun a o e=>?_,hs,fun a o e=>?_,fun mg' g'=>⟨fun x f e=>?_,fun x C e=>?_⟩,fun C i e=>?_,fun C n e=>?_,fun C n f e=>?_⟩
 ·unfold gval at e;revert e;induction hv:t.G.vals.lookup x using Option.casesOn with
  |some v' =>
   intro e;obtain rfl:=Option.some.inj e;have:=h6 _ (mem_of_look hv);dsimp only at this;revert this;induction hu:nsIn K mainGlobals x using Option.casesOn with
   |none=>exact fun z=>(noB z).elim
   |some o=>induction o using Option.casesOn with
    |none=>exact fun z=>(noB z).elim
    |some u=>exact fun z=>⟨u,mg_of X g hu,vrB_ok X _ _ z⟩
  |none =>
   induction ha:t.G.defs.lookup x using Option.casesOn with
   |some a =>
    intro e;obtain rfl:=Option.some.inj e;exact⟨_,mg_of X g (h5.1 _ (mem_of_look ha)).1,.glob a⟩
   |none =>
    intro e;refine E12 (Option.map_eq_some_iff.mp e) fun a ha eq2=>?_; subst eq2;exact⟨_,mg_of X g (h5.2 _ (mem_of_look ha)).1,.glob a⟩
 ·subst z;revert hx; decide +kernel
 ·dsimp only[Tabs.stat] at e;revert e;induction hd:t.obj.lookup a using Option.casesOn with
  |some d=>exact fun e=>Option.some.inj e▸idB_ok X (h1 _ (mem_of_look hd)).1
  |none =>
   intro e; dsimp only at e;split at e
   ·rename_i hal
    obtain rfl:=Option.some.inj e; subst hal; exact ho
   ·exact (noS e).elim
 ·dsimp only[Tabs.stat] at e;revert e;induction hd:t.obj.lookup a using Option.casesOn with
  |some d=>exact fun _=>(h1 _ (mem_of_look hd)).2
  |none =>
   intro e; dsimp only at e;split at e
   ·rename_i hal
    subst hal; exact hl
   ·exact (noS e).elim
 ·have:=h5.1 _ (mem_of_look e);exact⟨mg_of X g' this.1,this.2⟩
 ·exact mg_of X g' (h5.2 _ (mem_of_look e)).1
 ·have ⟨h,h'⟩:=Bool.and_eq_true_iff.mp (h3 _ (mem_of_look e));have ⟨a,b⟩:=Bool.and_eq_true_iff.mp h;refine⟨a,b,?_⟩;induction i using Option.casesOn with
  |some f=>simpa [refIs] using h'
  |none=>simpa using h'
 ·dsimp only[Tabs.stat] at e;cases q:t.plain.lookup C with
  |none=>simp[q] at e
  |some l' =>
  have hc:l'.contains n=true:=by simpa [q] using e
  have hl':=q;have:=h4 _ (mem_of_look hl') n (by simpa using hc);obtain⟨⟨⟨⟨⟨a1,a2⟩,a3⟩,a4⟩,a5⟩,a6⟩:=this;exact⟨a1,a2,a3,a4,a5,a6⟩
 ·dsimp only[Tabs.stat] at e;refine E12 (Option.bind_eq_some_iff.mp e) fun l' hl' hc=>?_;have:=h2 _ (mem_of_look hl') (n,f) (mem_of_look hc);obtain⟨⟨⟨⟨⟨a1,a2⟩,a3⟩,a4⟩,a5⟩,a6⟩:=this;exact⟨a1,a2,a3,a4,a5,a6⟩
end
structure FK (K:Frag) (f:Addr) (n:Nat) (fd:FuncData):Prop where
 o:∃c d sl,K.lookup f=some ⟨c,d,.func fd,sl⟩
 c:codeIn K fd.code fd.qualname=true
 f:fdB fd n=true
noncomputable def fnW (K:Frag) (f:Addr) (n:Nat):Option {fd:FuncData // FK K f n fd}:=(wit (K.lookup f)).bind fun o=>match o with
 |⟨⟨c,d,.func fd,sl⟩,ho⟩=>(chk (codeIn K fd.code fd.qualname)).bind fun h1=>(chk (fdB fd n)).bind fun h2=>some ⟨fd,⟨c,d,sl,ho⟩,h1.1,h2.1⟩
 |_=>none
theorem FK.ok {G:Gl} {K:Frag} {base:Heap} {f:Addr} {n:Nat} {fd:FuncData} (q:FK K f n fd) (X:K.In base) {b:List PySem.Stmt} (hb:fd.body = .stmts b) (m:List MS):DefOk G base f fd b ⟨n,m⟩:=by
 refine E31 q.o fun c d sl ho=>?_;exact⟨⟨_,X _ _ ho,rfl⟩,codeRec_of X q.c,hb,q.f⟩
noncomputable def stsW (b:FuncBody):Option {l:List PySem.Stmt // b = .stmts l}:=match b with
 |.stmts l=>some ⟨l,rfl⟩
 |_=>none
structure DK (G:Gl) (K:Frag) (f:Addr) (n:Nat) (m:List MS):Prop where
 k:∀base,K.In base→∃fd body,DefOk G base f fd body ⟨n,m⟩∧SAs G (tabOf 0 fd.scope.names) body m
noncomputable def defW (G:Gl) (K:Frag) (f:Addr) (n:Nat):Option {m:List MS // DK G K f n m}:=(fnW K f n).bind fun fd=>(stsW fd.1.body).bind fun b=>(cSs G (tabOf 0 fd.1.scope.names) b.1).bind fun m =>
 some ⟨m.1,⟨fun _ X=>⟨_,_,fd.2.ok X b.2 m.1,m.2⟩⟩⟩
theorem ns_in {K:Frag} {base:Heap} {N:Addr} {m:Str→Option Value} {x:Str} {r:Option Value} (X:K.In base) (g:base.Ns N m) (e:nsIn K N x=some r):m x=r:=by
 refine E34 g fun o es ep ho hd _ hf=>?_;dsimp only[nsIn] at e;revert e;induction q:K.lookup N using Option.casesOn with
 |none=>exact fun e=>(noS e).elim
 |some o' =>
  have:=X _ _ q;rw[ho] at this;obtain rfl:=Option.some.inj this;obtain⟨c,d,da,sl⟩:=o;cases hd;refine rwS (hf x) ?_;dsimp only[nsFind,findBy];with_reducible refine rwS (Array.find?_toList) ?_
  induction hen:es.toList.find? fun z=>z.key.isStr x using Option.casesOn with
  |some en=>exact fun e=>Option.some.inj e
  |none =>
   intro e; dsimp only at e;split at e
   ·exact (noS e).elim
   ·exact Option.some.inj e
structure IK (K:Frag) (f:Addr) (fd:FuncData):Prop where
 o:∃d sl,K.lookup f=some ⟨.type "function",d,.func fd,sl⟩
 k:FK K f 2 fd
 b:∃self item p1 p2 p3 p4,fd.body = .stmts [.Assign [.Attribute (.Name self p1) (nmS 28) p2] (.Name item p3) p4]∧(tabOf 0 fd.scope.names).lookup self=some (.loc 0)∧(tabOf 0 fd.scope.names).lookup item=some (.loc 1)
noncomputable def bodW (T:NT):(l:List PySem.Stmt)→Option (PLift (∃self item p1 p2 p3 p4,l=[.Assign [.Attribute (.Name self p1) (nmS 28) p2] (.Name item p3) p4]∧T.lookup self=some (.loc 0)∧T.lookup item=some (.loc 1)))
 |[.Assign [.Attribute (.Name self p1) a p2] (.Name item p3) p4]=>(chk (a==nmS 28)).bind fun h1=>(chk (T.lookup self==some (.loc 0))).bind fun h2=>(chk (T.lookup item==some (.loc 1))).bind fun h3=>some ⟨self,item,p1,p2,p3,p4,by (refine rwE (eq_of_beq h1.1) ?_; rfl),eq_of_beq h2.1,eq_of_beq h3.1⟩
 |_=>none
noncomputable def iniW (K:Frag) (f:Addr):Option {fd:FuncData // IK K f fd}:=(wit (K.lookup f)).bind fun o=>match o with
 |⟨⟨.type "function",d,.func fd,sl⟩,ho⟩=>(chk (codeIn K fd.code fd.qualname)).bind fun h1=>(chk (fdB fd 2)).bind fun h2=>(stsW fd.body).bind fun b=>(bodW (tabOf 0 fd.scope.names) b.1).bind fun q =>
  some ⟨fd,⟨d,sl,ho⟩,⟨⟨_,d,sl,ho⟩,h1.1,h2.1⟩,have ⟨s,i,p1,p2,p3,p4,e,l⟩:=q.1; ⟨s,i,p1,p2,p3,p4,b.2.trans (congrArg _ e),l⟩⟩
 |_=>none
structure CK (K:Frag) (C fI:Addr):Prop where
 k:∀base,K.In base→∀P:Prop,(∀nm q N bs sn sub ab col dd k0 k1 k2 k3 k5 mN,base.get? C=some (excClassObj nm q C N bs excM true sn sub ab col dd k0 k1 k2 k3 k5 "Exception.__new__")→base.Ns N mN→mN "__init__" = some (.ref fI)→mN "__setattr__" = none→mN (nmS 28)=none→mN "__getattribute__" = none→mN "__getattr__" = none→P)→P
noncomputable def clsW (K:Frag) (C fI:Addr):Option (PLift (CK K C fI)):=(wit (K.lookup C)).bind fun o=>match o with
 |⟨⟨.type "type",dd,.cls ⟨nm,bs,.ref C'::bm,ns,qn,true,sn,sub,ab,col,false⟩,⟨[k0,k1,k2,k3,some (.builtin n),k5]⟩⟩,ho⟩ =>
  (chk (C'==C&&n=="Exception.__new__"&&bm==excM)).bind fun h1=>(chk (nsOkIn K ns)).bind fun h2=>(chk (nsIn K ns "__init__"==some (some (.ref fI))&&nsIn K ns "__setattr__"==some none&&nsIn K ns (nmS 28)==some none&&nsIn K ns "__getattribute__"==some none&&nsIn K ns "__getattr__"==some none)).bind fun h3=>some ⟨⟨fun base X P k=>by
   have h1:=h1.1;have h3:=h3.1;simp only[Bool.and_eq_true,beq_iff_eq] at h1 h3;obtain⟨⟨rfl,rfl⟩,rfl⟩:=h1;have hN:base.Ns ns (base.nsMap ns):=.of_isNs (isNs_of_in X h2.1);exact k nm qn ns bs sn sub ab col dd k0 k1 k2 k3 k5 _ (X _ _ ho) hN (ns_in X hN h3.1.1.1.1) (ns_in X hN h3.1.1.1.2) (ns_in X hN h3.1.1.2) (ns_in X hN h3.1.2) (ns_in X hN h3.2)⟩⟩
 |_=>none
theorem exc_ok {G:Gl} {K:Frag} {base:Heap} (X:K.In base) {C fI:Addr} (hk:keepIn K (.ref C)=true) (h1:(clsW K C fI).isSome=true) (h2:(iniW K fI).isSome=true):∃fd,ExcOk G K base C fI fd:=by
 obtain⟨q,_⟩:=Option.isSome_iff_exists.mp h2;refine E21 q.2.o fun d sl ho=>?_;refine E62 q.2.b fun s i p1 p2 p3 p4 e l=>?_;exact⟨q.1,hk,(gotP h1).k _ X,⟨_,X _ _ ho,rfl⟩,fun _ k=>k s i p1 p2 p3 p4 [] (q.2.k.ok X e []) l.1 l.2⟩
end Mine.Internal
end
section
open PySem PySem.W PyProof.Rows
namespace Mine.Internal
noncomputable abbrev jI (i:Int):ME:=.val (.int i)
noncomputable abbrev jZ (s:List Nat):ME:=.val (.str s)
noncomputable abbrev jA (i:Nat) (e:ME):MS:=.asg (.loc i) e
noncomputable abbrev j0:ME:=.loc 0
noncomputable abbrev j1:ME:=.loc 1
noncomputable abbrev j2:ME:=.loc 2
noncomputable abbrev j3:ME:=.loc 3
noncomputable abbrev j4:ME:=.loc 4
noncomputable abbrev j5:ME:=.loc 5
noncomputable abbrev j6:ME:=.loc 6
noncomputable abbrev j7:ME:=.loc 7
noncomputable abbrev j8:ME:=.loc 8
noncomputable abbrev j9:ME:=.loc 9
noncomputable abbrev j10:ME:=.loc 10
noncomputable abbrev j11:ME:=.loc 11
noncomputable def b35:List MS:=[.asg (.attr j0 26) j1,.asg (.attr j0 27) j2]
noncomputable def b117:List MS:=[.asg (.attr j0 0) (.list []),.asg (.attr j0 1) (.dict []),.asg (.attr j0 2) (.list []),.asg (.attr j0 3) (.list []),.asg (.attr j0 4) (.list []),.forr 1 (.range [(jI 16)]) [jA 2 (.tup [(jI 1),j1]),.expr (.meth (.attr j0 0) 8 [j2]),.asg (.sub (.attr j0 1) j2) j1,.expr (.meth (.attr j0 2) 8 [(jI 1)]),.expr (.meth (.attr j0 3) 8 [(jI 1)]),.expr (.meth (.attr j0 4) 8 [(jI 0)])]]
noncomputable def b124:List MS:=[.ife (.or [(.cmp .lt j1 (jI 0)),(.cmp .ge j1 (.len (.attr j0 0)))]) [.raise 51 [(jZ [110,117,109,98,101,114]),j1]] [],.ret (.sub (.attr j0 0) j1)]
noncomputable def b131:List MS:=[jA 2 (.meth (.attr j0 1) 7 [j1,(.neg (jI 1))]),.ife (.cmp .ge j2 (jI 0)) [.ret j2] [],.expr (.call 166 [j0,j1]),jA 3 (jI 1),jA 4 (jI 1),jA 5 (jI 0),.ife (.or [(.cmp .eq (.sub j1 (jI 0)) (jI 6)),(.cmp .eq (.sub j1 (jI 0)) (jI 7))]) [jA 5 (jI 1)] [],jA 6 (.call 152 [(.sub j1 (jI 0))]),.forr 7 (.call 145 [j1]) [.ife (.cmp .gt (.bin .add (.sub (.attr j0 2) j7) j6) j3) [jA 3 (.bin .add (.sub (.attr j0 2) j7) j6)] [],.aug 4 .add (.sub (.attr j0 3) j7),.ife (.cmp .eq (.sub (.attr j0 4) j7) (jI 1)) [jA 5 (jI 1)] []],.ife (.cmp .gt j3 (jI 24)) [.raise 51 [(jZ [100,101,112,116,104]),j3]] [],.ife (.cmp .gt j4 (jI 4096)) [.raise 51 [(jZ [108,97,114,103,101]),j4]] [],jA 8 (.len (.attr j0 0)),.expr (.meth (.attr j0 0) 8 [j1]),.asg (.sub (.attr j0 1) j1) j8,.expr (.meth (.attr j0 2) 8 [j3]),.expr (.meth (.attr j0 3) 8 [j4]),.expr (.meth (.attr j0 4) 8 [j5]),.ret j8]
noncomputable def b145:List MS:=[jA 1 (.sub j0 (jI 0)),.ife (.or [(.cmp .eq j1 (jI 2)),(.cmp .eq j1 (jI 3))]) [.ret (.sub j0 (jI 2))] [],.ife (.or [(.cmp .eq j1 (jI 4)),(.cmp .eq j1 (jI 5)),(.cmp .eq j1 (jI 8)),(.cmp .eq j1 (jI 9)),(.cmp .eq j1 (jI 11))]) [.ret (.tup [(.sub j0 (jI 1))])] [],.ife (.cmp .eq j1 (jI 10)) [.ret (.bin .add (.tup [(.sub j0 (jI 1))]) (.sub j0 (jI 3)))] [],.ret (.tup [])]
noncomputable def b152:List MS:=[.ife (.or [(.cmp .eq j0 (jI 2)),(.cmp .eq j0 (jI 3)),(.cmp .eq j0 (jI 4))]) [.ret (jI 1)] [],.ret (jI 0)]
noncomputable def b159:List MS:=[.ife (.or [(.cmp .eq j0 (jI 2)),(.cmp .eq j0 (jI 3))]) [.ret (jI 3)] [],.ife (.cmp .eq j0 (jI 10)) [.ret (jI 4)] [],.ret (jI 2)]
noncomputable def b166:List MS:=[.ife (.or [(.cmp .eq (.len j1) (jI 0)),(.cmp .le (.sub j1 (jI 0)) (jI 1)),(.cmp .gt (.sub j1 (jI 0)) (jI 11))]) [.raise 51 [(jZ [115,111,114,116]),(jI 0)]] [],jA 2 (.sub j1 (jI 0)),.ife (.cmp .ne (.len j1) (.call 159 [j2])) [.raise 51 [(jZ [108,101,110,103,116,104]),j2]] [],.forr 3 (.call 145 [j1]) [.expr (.meth j0 5 [j3])],.ife (.or [(.cmp .eq j2 (jI 2)),(.cmp .eq j2 (jI 3))]) [.expr (.call 173 [j0,j1])] [.ife (.or [(.cmp .eq j2 (jI 6)),(.cmp .eq j2 (jI 7))]) [.ife (.cmp .lt (.sub j1 (jI 1)) (jI 0)) [.raise 51 [(jZ [112,108,97,99,101]),(.sub j1 (jI 1))]] []] [.ife (.cmp .eq j2 (jI 10)) [.ife (.or [(.not (.call 187 [j0,(.sub j1 (jI 1))])),(.cmp .lt (.sub j1 (jI 2)) (jI 0))]) [.raise 51 [(jZ [109,101,116,104,111,100]),(.sub j1 (jI 2))]] [],.expr (.call 180 [j0,(.sub j1 (jI 3))])] [.ife (.cmp .eq j2 (jI 8)) [.ife (.not (.or [(.call 236 [j0,(.sub j1 (jI 1))]),(.call 250 [j0,(.sub j1 (jI 1))])])) [.raise 51 [(jZ [98,111,120,101,100]),(.sub j1 (jI 1))]] []] [.ife (.not (.call 187 [j0,(.sub j1 (jI 1))])) [.raise 51 [(jZ [105,110,110,101,114]),(.sub j1 (jI 1))]] []]]]]]
noncomputable def b173:List MS:=[.ife (.or [(.cmp .le (.sub j1 (jI 1)) (jI 0)),(.cmp .isIn (.sub j1 (jI 1)) (.val (.glob 91)))]) [.raise 51 [(jZ [110,97,109,101,100]),(.sub j1 (jI 1))]] [],.expr (.call 180 [j0,(.sub j1 (jI 2))])]
noncomputable def b180:List MS:=[.forr 2 j1 [.ife (.not (.call 187 [j0,j2])) [.raise 51 [(jZ [97,114,103,117,109,101,110,116]),j2]] []]]
noncomputable def b187:List MS:=[.ife (.or [(.cmp .eq j1 (jI 0)),(.cmp .eq j1 (jI 14))]) [.ret (.val (.bool false))] [],jA 2 (.sub (.meth j0 5 [j1]) (jI 0)),.ret (.or [(.cmp .le j2 (jI 4)),(.cmp .eq j2 (jI 6)),(.cmp .eq j2 (jI 7))])]
noncomputable def b194:List MS:=[.ife (.cmp .isIn j1 (.val (.glob 91))) [.ret (.call 201 [j1,j2])] [],.ret (.meth j0 6 [(.tup [(jI 2),j1,j2])])]
noncomputable def b201:List MS:=[.ife (.cmp .gt (.len j1) (jI 0)) [.raise 51 [(jZ [97,114,103,117,109,101,110,116]),j0]] [],.ret (.sub (.val (.glob 91)) j0)]
noncomputable def b208:List MS:=[.ret (.sub (.meth j0 5 [j1]) (jI 0))]
noncomputable def b215:List MS:=[jA 2 (.meth j0 5 [j1]),.ife (.or [(.cmp .eq (.sub j2 (jI 0)) (jI 4)),(.cmp .eq (.sub j2 (jI 0)) (jI 5)),(.cmp .eq (.sub j2 (jI 0)) (jI 9)),(.cmp .eq (.sub j2 (jI 0)) (jI 8))]) [.ret (.sub j2 (jI 1))] [],.ret (.neg (jI 1))]
noncomputable def b222:List MS:=[jA 2 (.meth j0 5 [j1]),.ife (.or [(.cmp .eq (.sub j2 (jI 0)) (jI 2)),(.cmp .eq (.sub j2 (jI 0)) (jI 3))]) [.ret (.sub j2 (jI 1))] [],.ife (.cmp .eq (.sub j2 (jI 0)) (jI 1)) [.ret (.meth (.val (.glob 90)) 7 [j1,(jI 0)])] [],.ife (.cmp .eq (.sub j2 (jI 0)) (jI 4)) [.ret (jI 5)] [],.ret (jI 0)]
noncomputable def b229:List MS:=[jA 2 (.meth j0 5 [j1]),.ife (.or [(.cmp .eq (.sub j2 (jI 0)) (jI 2)),(.cmp .eq (.sub j2 (jI 0)) (jI 3))]) [.ret (.sub j2 (jI 2))] [],.ret (.tup [])]
noncomputable def b236:List MS:=[.ife (.and [(.cmp .le (jI 1) j1),(.cmp .le j1 (jI 11))]) [.ret (.val (.bool true))] [],.ret (.cmp .eq (.sub (.meth j0 5 [j1]) (jI 0)) (jI 3))]
noncomputable def b243:List MS:=[.ife (.or [(.cmp .eq j1 (jI 12)),(.cmp .eq j1 (jI 13)),(.cmp .eq j1 (jI 14))]) [.ret (.val (.bool true))] [],jA 2 (.sub (.meth j0 5 [j1]) (jI 0)),.ret (.or [(.cmp .eq j2 (jI 2)),(.cmp .eq j2 (jI 4)),(.cmp .eq j2 (jI 8))])]
noncomputable def b250:List MS:=[jA 2 (.sub (.meth j0 5 [j1]) (jI 0)),.ret (.or [(.cmp .eq j2 (jI 6)),(.cmp .eq j2 (jI 7))])]
noncomputable def b257:List MS:=[.expr (.meth j0 5 [j1]),.ife (.cmp .eq (.sub (.attr j0 4) j1) (jI 0)) [.ret j1] [],.ret (.call 264 [j0,j1,j2,j3,(.dict [])])]
noncomputable def b264:List MS:=[.ife (.cmp .eq (.sub (.attr j0 4) j1) (jI 0)) [.ret j1] [],.ife (.cmp .isIn j1 j4) [.ret (.sub j4 j1)] [],jA 5 (.sub (.attr j0 0) j1),.ife (.cmp .eq (.sub j5 (jI 0)) (jI 6)) [.ret (.call 285 [j2,(.sub j5 (jI 1)),j1])] [],.ife (.cmp .eq (.sub j5 (jI 0)) (jI 7)) [.ret (.call 285 [j3,(.sub j5 (jI 1)),j1])] [],jA 6 (.list []),.forr 7 (.call 145 [j5]) [.expr (.meth j6 8 [(.call 264 [j0,j7,j2,j3,j4])])],.asg (.sub j4 j1) (.call 271 [j0,j5,(.tupOf j6)]),.ret (.sub j4 j1)]
noncomputable def b271:List MS:=[jA 3 (.sub j1 (jI 0)),.ife (.or [(.cmp .eq j3 (jI 2)),(.cmp .eq j3 (jI 3))]) [.ret (.meth j0 6 [(.tup [j3,(.sub j1 (jI 1)),j2])])] [],.ife (.cmp .eq j3 (jI 10)) [.ret (.meth j0 6 [(.tup [j3,(.sub j2 (jI 0)),(.sub j1 (jI 2)),(.cut j2 (jI 1) (.val .none))])])] [],.ife (.cmp .eq j3 (jI 8)) [.ret (.call 278 [j0,(.sub j2 (jI 0))])] [],.ret (.meth j0 6 [(.tup [j3,(.sub j2 (jI 0))])])]
noncomputable def b278:List MS:=[.ife (.call 250 [j0,j1]) [.ret (.meth j0 6 [(.tup [(jI 8),j1])])] [],.ife (.not (.call 236 [j0,j1])) [.ret j1] [],.ife (.cmp .eq (.call 222 [j0,j1]) (jI 8)) [.ret (.meth j0 6 [(.tup [(jI 8),(.sub (.call 229 [j0,j1]) (jI 0))])])] [],.ret (.meth j0 6 [(.tup [(jI 8),j1])])]
noncomputable def b285:List MS:=[.ife (.cmp .lt j1 (.len j0)) [.ret (.sub j0 j1)] [],.ret j2]
noncomputable def b292:List MS:=[.ife (.cmp .notIn j0 (.val (.glob 92))) [.raise 51 [(jZ [114,97,110,103,101]),j0]] [],.ret (.sub (.val (.glob 92)) j0)]
noncomputable def b299:List MS:=[.ret (.and [(.cmp .le (jI 1) j0),(.cmp .le j0 (jI 11))])]
noncomputable def b313:List MS:=[.asg (.attr j0 87) j1,.asg (.attr j0 88) j2,.asg (.attr j0 89) j3,.asg (.attr j0 90) j4,.asg (.attr j0 91) j5,.asg (.attr j0 93) (.list []),.asg (.attr j0 92) (.list []),.asg (.attr j0 94) (.list []),.asg (.attr j0 95) (.list []),.forr 8 j6 [.expr (.meth (.attr j0 92) 8 [j8]),.expr (.meth (.attr j0 94) 8 [(jI 0)]),.expr (.meth (.attr j0 95) 8 [(.tup [(jI 0),(.tup [])])])],.asg (.attr j0 96) (.list []),.asg (.attr j0 13) (.list []),.asg (.attr j0 18) j7,.asg (.attr j0 97) (jI 0),.asg (.attr j0 98) (.neg (jI 1)),.asg (.attr j0 99) (.list []),.asg (.attr j0 100) (.list []),.asg (.attr j0 101) (.list []),.asg (.attr j0 102) (jI 0),.asg (.attr j0 103) (jI 0)]
noncomputable def b334:List MS:=[.asg (.attr j0 10) (.make 134 []),.asg (.attr j0 11) (.list [(.val .none)]),.asg (.attr j0 12) (.list [(.val .none)]),.asg (.attr j0 13) (.list [(.val .none)]),.asg (.attr j0 14) (.dict []),.asg (.attr j0 15) (.list []),.asg (.attr j0 16) (jI 0)]
noncomputable def b348:List MS:=[jA 2 (.call 222 [(.attr j0 10),j1]),.ife (.or [(.cmp .le j2 (jI 0)),(.cmp .ge j2 (.len (.attr j0 11)))]) [.ret (.val .none)] [],.ret (.sub (.attr j0 11) j2)]
noncomputable def b362:List MS:=[.asg (.attr j0 0) (.list [])]
noncomputable def b369:List MS:=[.expr (.meth (.attr j0 0) 8 [(.tup [j1,j2,j3])])]
noncomputable def b376:List MS:=[.expr (.call 21 [(jI 0)])]
noncomputable def b383:List MS:=[.expr (.call 21 [(jI 1)])]
noncomputable def b404:List MS:=[.asg (.attr j0 17) j1,.asg (.attr j0 18) j2,.asg (.attr j0 19) (.list [(.val .none)]),.asg (.attr j0 20) (.list [(.val .none)]),.asg (.attr j0 21) (.dict []),.asg (.attr j0 22) (.make 386 []),.asg (.attr j0 23) (.dict []),.asg (.attr j0 24) (.dict []),.asg (.attr j0 25) (.dict [])]
noncomputable def b445:List MS:=[.asg (.attr j0 28) j1]
noncomputable def b465:List MS:=[.asg (.attr j0 29) j1,.asg (.attr j0 30) j2,.asg (.attr j0 31) j3,.asg (.attr j0 32) (.val .none),.asg (.attr j0 0) (.list []),.asg (.attr j0 33) (jI 0),.asg (.attr j0 34) (.val .none)]
noncomputable def b486:List MS:=[.asg (.attr j0 29) j1,.asg (.attr j0 35) j2,.asg (.attr j0 36) (.dict []),.asg (.attr j0 37) j3,.asg (.attr j0 38) j4,.asg (.attr j0 39) j5,.asg (.attr j0 40) (.list []),.asg (.attr j0 41) (.list []),.asg (.attr j0 42) (.dict []),.asg (.attr j0 43) (jI 0)]
noncomputable def b507:List MS:=[.asg (.attr j0 29) j1,.asg (.attr j0 0) j2,.asg (.attr j0 107) j3]
noncomputable def b528:List MS:=[.raise 87 [(.sub j3 (jI 0)),(jI 0)]]
noncomputable def b549:List MS:=[.raise 87 [(.sub j3 (jI 0)),(jI 0)]]
noncomputable def b570:List MS:=[.raise 87 [(.sub j3 (jI 0)),(jI 0)]]
noncomputable def b577:List MS:=[.raise 87 [(.sub j3 (jI 0)),(jI 0)]]
noncomputable def b584:List MS:=[.raise 87 [(.sub j3 (jI 0)),(jI 0)]]
noncomputable def b605:List MS:=[.ret j2]
noncomputable def b626:List MS:=[.ret (.val .none)]
noncomputable def b647:List MS:=[.asg (.attr j0 0) j1]
noncomputable def b654:List MS:=[.ret (.meth (.attr j0 0) 7 [(.tup [j2,(.sub j3 (jI 1))]),j3])]
noncomputable def b675:List MS:=[.asg (.attr j0 44) j1,.asg (.attr j0 17) (.attr j1 17),.asg (.attr j0 10) (.attr (.attr j1 17) 10),.asg (.attr j0 46) (.list [(.val .none)]),.asg (.attr j0 50) (jI 0),.asg (.attr j0 51) j2,.asg (.attr j0 52) (jI 0),.asg (.attr j0 53) (jI 0),.asg (.attr j0 54) (.list []),.asg (.attr j0 55) (jI 0),.asg (.attr j0 56) (.dict []),.asg (.attr j0 59) (.dict []),.asg (.attr j0 61) (.make 657 [(.dict [])]),.asg (.attr j0 62) (.dict []),.asg (.attr j0 63) (.dict []),.asg (.attr j0 64) (.dict []),.asg (.attr j0 65) (.dict []),.asg (.attr j0 66) (.dict []),.asg (.attr j0 67) (.dict []),.asg (.attr j0 68) (.dict []),.asg (.attr j0 69) (.dict []),.asg (.attr j0 70) (.make 608 []),.asg (.attr j0 71) (.make 629 []),.asg (.attr j0 72) (.val .none)]
noncomputable def b682:List MS:=[.ret (.or [(.cmp .eq j1 j2),(.cmp .eq j2 (jI 12)),(.cmp .isIn (.tup [j1,j2]) (.attr j0 59))])]
noncomputable def b689:List MS:=[.ret j2]
noncomputable def b696:List MS:=[.expr (.call 21 [(jI 2)])]
noncomputable def b703:List MS:=[.ret (jI 0)]
noncomputable def b710:List MS:=[.ret j1]
noncomputable def b717:List MS:=[.raise 87 [(jZ [101,114,114,111,114]),j1]]
noncomputable def b724:List MS:=[.expr (.call 21 [(jI 3)])]
noncomputable def b731:List MS:=[.ret j2]
noncomputable def b745:List MS:=[.asg (.attr j0 50) (.bin .add (.attr j0 50) (jI 1)),.ife (.cmp .gt (.attr j0 50) (.attr j0 51)) [.raise 75 [(.attr j0 50),(.attr j0 52)]] []]
noncomputable def b752:List MS:=[jA 2 (.attr j0 53),.ife (.cmp .gt (.bin .add j2 j1) (jI 870)) [.raise 75 [(.attr j0 50),(.attr j0 52)]] [],.asg (.attr j0 53) (.bin .add j2 j1),.ret j2]
noncomputable def b759:List MS:=[.asg (.attr j0 55) (.bin .add (.attr j0 55) (jI 1)),.ret (.attr j0 55)]
noncomputable def b766:List MS:=[.expr (.call 745 [j0]),jA 3 (.call 752 [j0,(jI 2)]),jA 4 (.meth (.attr j0 62) 7 [(.sub j2 (jI 0))]),.ife (.cmp .is j4 (.val .none)) [.raise 87 [(.sub j2 (jI 0)),(jI 0)]] [],jA 5 (.meth j4 82 [j0,j1,j2]),.asg (.attr j0 53) j3,.ret j5]
noncomputable def b773:List MS:=[jA 4 (.meth (.attr j0 63) 7 [(.sub j2 (jI 0))]),jA 5 (.call 752 [j0,(jI 2)]),.ife (.cmp .is j4 (.val .none)) [jA 6 (.tup [(.list [(.call 766 [j0,j1,j2])]),(jI 0),(.tup [])])] [jA 6 (.meth j4 83 [j0,j1,j2,j3])],.asg (.attr j0 53) j5,.ret j6]
noncomputable def b780:List MS:=[.ret (.meth j0 75 [j1,j2])]
noncomputable def b787:List MS:=[.ret (.meth j0 80 [j1])]
noncomputable def b794:List MS:=[.ret (.and [(.cmp .eq (.call 208 [(.attr j0 10),j1]) (jI 3)),(.cmp .eq (.call 222 [(.attr j0 10),j1]) (jI 8))])]
noncomputable def b801:List MS:=[jA 3 (.len (.attr j0 46)),.expr (.meth (.attr j0 46) 8 [(.make 468 [j3,j1,j2])]),.ret j3]
noncomputable def b808:List MS:=[jA 2 (.call 801 [j0,(jI 13),(.list [])]),.asg (.attr (.sub (.attr j0 46) j2) 32) j1,.ret j2]
noncomputable def b815:List MS:=[.ife (.cmp .eq (.sub j0 (jI 0)) (jI 3)) [.ret (.sub j0 (jI 2))] [],.ret (jI 0)]
noncomputable def b829:List MS:=[.ife (.cmp .eq j2 (jI 0)) [.ret (.val .none)] [],.ife (.cmp .eq (.attr j1 43) j2) [.asg (.attr j1 43) (jI 0),.ret (.val .none)] [],.expr (.call 836 [j0,j1,j2])]
noncomputable def b843:List MS:=[jA 4 (.meth (.attr j1 36) 7 [j2]),.ife (.cmp .is j4 (.val .none)) [jA 4 (.list [(.meth j0 76 [(.call 780 [j0,j1,j3])])]),.asg (.sub (.attr j1 36) j2) j4] [],.ret j4]
noncomputable def b850:List MS:=[.expr (.call 864 [j0,(.meth j0 78 [j1,j2])])]
noncomputable def b857:List MS:=[.expr (.call 850 [j0,(jI 21),(jZ [79,98,106,101,99,116,32,114,101,102,101,114,101,110,99,101,32,110,111,116,32,115,101,116,32,116,111,32,97,110,32,105,110,115,116,97,110,99,101,32,111,102,32,97,110,32,111,98,106,101,99,116,46])])]
noncomputable def b864:List MS:=[.ife (.cmp .eq j1 (jI 0)) [jA 1 (.meth j0 78 [(jI 21),(jZ [79,98,106,101,99,116,32,114,101,102,101,114,101,110,99,101,32,110,111,116,32,115,101,116,32,116,111,32,97,110,32,105,110,115,116,97,110,99,101,32,111,102,32,97,110,32,111,98,106,101,99,116,46])])] [],jA 2 (.bin .sub (.len (.attr j0 54)) (jI 1)),.whl (.cmp .ge j2 (jI 0)) [jA 3 (.sub (.attr j0 54) j2),.ife (.cmp .is (.attr j3 0) (.val .none)) [.raise 428 [j1,(.attr j3 29),(.neg (jI 1))]] [],jA 4 (.call 871 [j0,j3,j1]),.ife (.cmp .ge j4 (jI 0)) [.raise 428 [j1,(.attr j3 29),j4]] [],jA 2 (.bin .sub j2 (jI 1))],.raise 448 [j1]]
noncomputable def b871:List MS:=[.forr 3 (.range [(.len (.attr j1 0))]) [.asg (.unp [4,5,6,7]) (.sub (.attr j1 0) j3),.ife (.and [(.cmp .ge j4 (jI 0)),(.not (.call 899 [j0,j2,(.call 780 [j0,(.attr j1 107),j4])]))]) [.cont] [],.ife (.cmp .is j6 (.val .none)) [.ret j3] [],.expr (.call 829 [j0,(.attr j1 107),(.call 815 [j7])]),.ife (.call 878 [j0,(.attr j1 107),j5,j6,j2]) [.ret j3] []],.ret (.neg (jI 1))]
noncomputable def b885:List MS:=[jA 3 (.len (.attr j0 54)),.expr (.meth (.attr j0 54) 8 [(.make 510 [(.call 759 [j0]),j1,j2])]),.ret j3]
noncomputable def b892:List MS:=[.del (.attr j0 54) j1]
noncomputable def b899:List MS:=[jA 2 (.meth j0 77 [j2]),jA 3 (.sub (.attr j0 46) j1),.ife (.cmp .isNot (.attr j3 34) (.val .none)) [.forr 4 (.attr (.attr j3 34) 104) [.ife (.meth j0 81 [j4,j2]) [.ret (.val (.bool true))] []],.ret (.val (.bool false))] [],.ret (.meth j0 81 [(.attr j3 30),j2])]
noncomputable def b906:List MS:=[.ife (.cmp .ne (.call 208 [(.attr j0 10),j1]) (jI 3)) [.ret j1] [],jA 2 (.call 348 [j0,j1]),.ife (.cmp .is j2 (.val .none)) [.raise 63 [(jI 1),j1]] [],.ife (.cmp .ne (.attr j2 89) (jI 5)) [.ret j1] [],.ife (.not (.call 299 [(.attr j2 98)])) [.raise 63 [(jI 12),j1]] [],.ret (.attr j2 98)]
noncomputable def b920:List MS:=[.asg (.attr j0 104) j1,.asg (.attr j0 31) j2,.asg (.attr j0 47) j3,.asg (.attr j0 105) j4,.asg (.attr j0 106) j5]
noncomputable def b941:List MS:=[.asg (.attr j0 44) j1,.asg (.attr j0 17) (.attr j1 17),.asg (.attr j0 10) (.attr (.attr j1 17) 10),.asg (.attr j0 45) (.val .none),.asg (.attr j0 46) (.list [(.val .none)]),.asg (.attr j0 47) (.dict []),.asg (.attr j0 23) (.dict []),.asg (.attr j0 48) (.dict []),.asg (.attr j0 49) (.list []),.asg (.attr j0 50) (jI 0),.asg (.attr j0 51) j2,.asg (.attr j0 52) (jI 0),.asg (.attr j0 53) (jI 0),.asg (.attr j0 54) (.list []),.asg (.attr j0 55) (jI 0),.asg (.attr j0 56) (.dict []),.asg (.attr j0 57) (.dict []),.asg (.attr j0 58) (.dict []),.asg (.attr j0 59) (.dict []),.asg (.attr j0 60) (.list []),.asg (.attr j0 61) (.make 657 [(.dict [])]),.asg (.attr j0 62) (.dict []),.asg (.attr j0 63) (.dict []),.asg (.attr j0 64) (.dict []),.asg (.attr j0 65) (.dict []),.asg (.attr j0 66) (.dict []),.asg (.attr j0 67) (.dict []),.asg (.attr j0 68) (.dict []),.asg (.attr j0 69) (.dict []),.asg (.attr j0 70) (.make 608 []),.asg (.attr j0 71) (.make 629 []),.asg (.attr j0 72) (.val .none),.asg (.attr j0 73) (.dict []),.asg (.attr j0 74) (.dict [])]
noncomputable def b948:List MS:=[.ret (.call 257 [(.attr j0 10),j2,(.attr j1 38),(.attr j1 39)])]
noncomputable def b955:List MS:=[.expr (.call 21 [(jI 4)])]
noncomputable def b962:List MS:=[.ret (.call 1030 [j0,j1])]
noncomputable def b969:List MS:=[.ret (.ite (.call 794 [j0,j1]) (.sub (.call 229 [(.attr j0 10),j1]) (jI 0)) j1)]
noncomputable def b976:List MS:=[.ret (.call 1056 [j0,j1,j2])]
noncomputable def b983:List MS:=[.expr (.call 21 [(jI 5)])]
noncomputable def b990:List MS:=[.ret (.call 1063 [j0,j1,j2])]
noncomputable def b997:List MS:=[.ret (.call 1009 [j0,j1])]
noncomputable def b1009:List MS:=[.ife (.cmp .notIn j1 (.attr j0 58)) [.raise 87 [(jZ [108,97,121,111,117,116]),j1]] [],.ret (.sub (.attr j0 58) j1)]
noncomputable def b1016:List MS:=[.ret (.and [(.cmp .eq (.call 208 [(.attr j0 10),j1]) (jI 3)),(.cmp .eq (.call 906 [(.attr j0 17),j1]) j1)])]
noncomputable def b1023:List MS:=[.ret (.and [(.not (.and [(.cmp .le (jI 1) j1),(.cmp .le j1 (jI 11))])),(.or [(.call 794 [j0,j1]),(.call 1016 [j0,j1])])])]
noncomputable def b1030:List MS:=[.ife (.not (.call 1023 [j0,j1])) [.ret (jI 0)] [],jA 2 (.list [j1]),.whl (.cmp .gt (.len j2) (jI 0)) [jA 3 (.sub j2 (.bin .sub (.len j2) (jI 1))),jA 4 (.call 1035 [j0,j3]),.ife (.cmp .eq (.len j4) (jI 0)) [.expr (.meth j2 9 [])] [],.forr 5 j4 [.expr (.meth j2 8 [j5])]],.ret (.sub (.attr j0 73) j1)]
noncomputable def b1035:List MS:=[.ife (.cmp .isIn j1 (.attr j0 73)) [.ret (.list [])] [],jA 2 (.ite (.call 794 [j0,j1]) (.tup [(.sub (.call 229 [(.attr j0 10),j1]) (jI 0))]) (.attr (.call 787 [j0,j1]) 104)),jA 3 (.comp j10 10 j2 [(.and [(.call 1023 [j0,j10]),(.cmp .notIn j10 (.attr j0 73))])]),.ife (.cmp .eq (.len j3) (jI 0)) [jA 4 (.tupOf (.comp (.meth (.attr j0 73) 7 [j10,(jI 0)]) 10 j2 [])),.asg (.sub (.attr j0 73) j1) (.ite (.call 794 [j0,j1]) (.tup [(jI 0),(.sub j4 (jI 0))]) j4)] [],.ret j3]
noncomputable def b1042:List MS:=[jA 2 (.list []),.forr 3 j1 [.expr (.meth j2 8 [(.call 1030 [j0,j3])])],.ret j2]
noncomputable def b1049:List MS:=[.ret (.call 801 [j0,j1,(.call 1042 [j0,(.attr (.call 787 [j0,j1]) 104)])])]
noncomputable def b1056:List MS:=[jA 3 (.call 194 [(.attr j0 10),j1,(.tup [])]),jA 4 (.call 1049 [j0,j3]),jA 5 (.meth (.attr (.call 787 [j0,j3]) 31) 7 [(jI 1),(.neg (jI 1))]),.ife (.cmp .ge j5 (jI 0)) [.asg (.sub (.attr (.sub (.attr j0 46) j4) 31) j5) (.call 808 [j0,j2])] [],.ret j4]
noncomputable def b1063:List MS:=[jA 3 (.call 906 [(.attr j0 17),j1]),.ife (.or [(.not (.call 236 [(.attr j0 10),j1])),(.cmp .gt j3 (jI 11))]) [.ret j2] [],.asg (.unp [4,5]) (.call 292 [j3]),.ret (.bin .add j4 (.bin .mod (.bin .sub j2 j4) (.bin .add (.bin .sub j5 j4) (jI 1))))]
noncomputable def b1070:List MS:=[jA 1 (.sub (.sub j0 (jI 0)) (.sub j0 (jI 1))),.forr 2 (.sub j0 (jI 2)) [jA 1 (.sub j1 j2)],.ret j1]
noncomputable def b1077:List MS:=[jA 2 (.sub j0 (jI 0)),jA 3 (.sub j0 (jI 2)),jA 4 (.list []),jA 5 (.sub j2 (.sub j0 (jI 1))),.forr 6 j3 [.expr (.meth j4 8 [j5]),jA 5 (.sub j5 j6)],.forr 7 (.range [(.len j3)]) [jA 8 (.bin .sub (.bin .sub (.len j3) (jI 1)) j7),jA 9 (.sub j4 j8),jA 1 (.bin .add (.bin .add (.cut j9 (.val .none) (.sub j3 j8)) (.tup [j1])) (.cut j9 (.bin .add (.sub j3 j8) (jI 1)) (.val .none)))],.asg (.sub j2 (.sub j0 (jI 1))) j1]
noncomputable def b1084:List MS:=[.ife (.not (.call 236 [(.attr j0 10),j1])) [.ret j2] [],.ife (.call 794 [j0,j1]) [.ife (.cmp .eq (.sub j2 (jI 0)) (jI 0)) [.ret (jI 0)] [],.ret (.call 1084 [j0,(.sub (.call 229 [(.attr j0 10),j1]) (jI 0)),(.sub j2 (jI 1))])] [],.ret (.call 801 [j0,j1,(.list [j2])])]
noncomputable def b1091:List MS:=[.ife (.call 794 [j0,j1]) [.ife (.cmp .eq j2 (jI 0)) [.ret (.call 1030 [j0,j1])] [],jA 3 (.sub (.call 229 [(.attr j0 10),j1]) (jI 0)),.ife (.cmp .ne (.attr (.sub (.attr j0 46) j2) 30) j3) [.expr (.call 850 [j0,(jI 23),(jZ [83,112,101,99,105,102,105,101,100,32,99,97,115,116,32,105,115,32,110,111,116,32,118,97,108,105,100,46])])] [],.ret (.tup [(jI 1),(.call 1091 [j0,j3,j2])])] [],.ife (.cmp .eq j2 (jI 0)) [.expr (.call 857 [j0])] [],jA 4 (.sub (.attr j0 46) j2),.ife (.or [(.cmp .isNot (.attr j4 34) (.val .none)),(.not (.call 236 [(.attr j0 10),(.attr j4 30)]))]) [.expr (.call 850 [j0,(jI 23),(jZ [83,112,101,99,105,102,105,101,100,32,99,97,115,116,32,105,115,32,110,111,116,32,118,97,108,105,100,46])])] [],.ife (.cmp .ne (.call 906 [(.attr j0 17),(.attr j4 30)]) (.call 906 [(.attr j0 17),j1])) [.expr (.call 850 [j0,(jI 23),(jZ [83,112,101,99,105,102,105,101,100,32,99,97,115,116,32,105,115,32,110,111,116,32,118,97,108,105,100,46])])] [],.ret (.sub (.attr j4 31) (jI 0))]
noncomputable def b1098:List MS:=[.ife (.call 236 [(.attr j0 10),j1]) [.ret (.call 1091 [j0,j1,j2])] [],.ife (.and [(.cmp .ne j2 (jI 0)),(.not (.call 899 [j0,j2,j1]))]) [.expr (.call 850 [j0,(jI 23),(jZ [83,112,101,99,105,102,105,101,100,32,99,97,115,116,32,105,115,32,110,111,116,32,118,97,108,105,100,46])])] [],.ret j2]
noncomputable def b1105:List MS:=[.ife (.cmp .eq (.sub j1 (jI 0)) (jI 0)) [.expr (.call 850 [j0,(jI 29),(jZ [78,117,108,108,97,98,108,101,32,111,98,106,101,99,116,32,109,117,115,116,32,104,97,118,101,32,97,32,118,97,108,117,101,46])])] [],.ret (.sub j1 (jI 1))]
noncomputable def b1112:List MS:=[.expr (.call 850 [j0,(jI 26),(jZ [65,114,105,116,104,109,101,116,105,99,32,111,112,101,114,97,116,105,111,110,32,114,101,115,117,108,116,101,100,32,105,110,32,97,110,32,111,118,101,114,102,108,111,119,46])])]
noncomputable def b1126:List MS:=[.ret (.sub j3 (jI 2))]
noncomputable def b1138:List MS:=[jA 4 (.len (.attr j1 41)),.expr (.meth (.attr j1 41) 8 [j3]),jA 5 (.call 752 [j0,(jI 1)]),jA 6 (.call 766 [j0,j1,j2]),.asg (.attr j0 53) j5,.del (.attr j1 41) j4,.ret j6]
noncomputable def b1145:List MS:=[jA 3 (.call 752 [j0,(jI 1)]),jA 4 (.call 766 [j0,j1,j2]),.asg (.attr j0 53) j3,jA 5 (.call 906 [(.attr j0 17),(.call 780 [j0,j1,(.sub j2 (jI 1))])]),.ife (.and [(.or [(.cmp .eq j5 (jI 9)),(.cmp .eq j5 (jI 10))]),(.not (.and [(.cmp .le (.neg (jI 2147483648)) j4),(.cmp .le j4 (jI 2147483647))]))]) [.expr (.call 1112 [j0])] [],.ret j4]
noncomputable def b1152:List MS:=[.ife (.cmp .eq j1 (jI 0)) [.expr (.call 857 [j0])] [],jA 3 (.attr (.sub (.attr j0 46) j1) 31),.ife (.or [(.cmp .lt j2 (jI 0)),(.cmp .ge j2 (.len j3))]) [.expr (.call 850 [j0,(jI 22),(jZ [73,110,100,101,120,32,119,97,115,32,111,117,116,115,105,100,101,32,116,104,101,32,98,111,117,110,100,115,32,111,102,32,116,104,101,32,97,114,114,97,121,46])])] [],.ret (.tup [j3,j2,(.tup [])])]
noncomputable def b1159:List MS:=[.ret (.meth j0 79 [j3,(.call 1070 [(.call 1152 [j0,j1,j2])])])]
noncomputable def b1173:List MS:=[jA 4 (.call 766 [j1,j2,(.sub j3 (jI 2))]),.ret (.call 1159 [j1,j4,(.call 1145 [j1,j2,(.sub j3 (jI 3))]),(.call 780 [j1,j2,(.sub j3 (jI 1))])])]
noncomputable def b1192:List MS:=[jA 5 (.call 766 [j1,j2,(.sub j3 (jI 2))]),jA 6 (.call 1152 [j1,j5,(.call 1145 [j1,j2,(.sub j3 (jI 3))])]),jA 7 (.call 780 [j1,j2,(.call 215 [(.attr j1 10),(.sub (.sub j3 (jI 2)) (jI 1))])]),.ife (.and [(.not j4),(.not (.call 236 [(.attr j1 10),j7])),(.cmp .ne (.call 215 [(.attr j1 10),(.attr (.sub (.attr j1 46) j5) 30)]) j7)]) [.expr (.call 850 [j1,(jI 27),(jZ [65,116,116,101,109,112,116,101,100,32,116,111,32,97,99,99,101,115,115,32,97,110,32,101,108,101,109,101,110,116,32,97,115,32,97,32,116,121,112,101,32,105,110,99,111,109,112,97,116,105,98,108,101,32,119,105,116,104,32,116,104,101,32,97,114,114,97,121,46])])] [],.ret j6]
noncomputable def b1211:List MS:=[jA 4 (.call 766 [j1,j2,(.sub j3 (jI 2))]),.ret (.tup [j4,(.call 1145 [j1,j2,(.sub j3 (jI 3))])])]
noncomputable def b1218:List MS:=[.ret (.call 1159 [j1,(.sub j4 (jI 0)),(.sub j4 (jI 1)),(.call 780 [j1,j2,(.sub j3 (jI 1))])])]
noncomputable def b1225:List MS:=[.expr (.call 1237 [j1,(.sub j4 (jI 0)),(.sub j4 (jI 1)),j5])]
noncomputable def b1237:List MS:=[jA 4 (.call 1152 [j0,j1,j2]),jA 5 (.call 215 [(.attr j0 10),(.attr (.sub (.attr j0 46) j1) 30)]),.ife (.and [(.call 243 [(.attr j0 10),j5]),(.cmp .ne j3 (jI 0)),(.not (.call 899 [j0,j3,j5]))]) [.expr (.call 850 [j0,(jI 27),(jZ [65,116,116,101,109,112,116,101,100,32,116,111,32,97,99,99,101,115,115,32,97,110,32,101,108,101,109,101,110,116,32,97,115,32,97,32,116,121,112,101,32,105,110,99,111,109,112,97,116,105,98,108,101,32,119,105,116,104,32,116,104,101,32,97,114,114,97,121,46])])] [],.expr (.call 1077 [j4,(.meth j0 79 [j5,j3])])]
noncomputable def b1251:List MS:=[jA 4 (.call 766 [j1,j2,(.sub j3 (jI 2))]),.ife (.cmp .eq j4 (jI 0)) [.expr (.call 857 [j1])] [],.ret (.len (.attr (.sub (.attr j1 46) j4) 31))]
noncomputable def b1270:List MS:=[jA 4 (.call 1145 [j1,j2,(.sub j3 (jI 2))]),.ife (.or [(.cmp .lt j4 (jI 0)),(.cmp .gt j4 (jI 2147483647))]) [.expr (.call 1112 [j1])] [],.ife (.cmp .gt j4 (jI 65536)) [.expr (.call 850 [j1,(jI 30),(jZ [73,110,115,117,102,102,105,99,105,101,110,116,32,109,101,109,111,114,121,32,116,111,32,99,111,110,116,105,110,117,101,32,116,104,101,32,101,120,101,99,117,116,105,111,110,32,111,102,32,116,104,101,32,112,114,111,103,114,97,109,46])])] [],jA 5 (.call 780 [j1,j2,(.sub j3 (jI 1))]),.ret (.call 801 [j1,j5,(.bin .mul (.list [(.meth j1 76 [(.call 215 [(.attr j1 10),j5])])]) j4)])]
noncomputable def b1282:List MS:=[jA 3 (.call 752 [j0,(jI 2)]),jA 4 (.meth (.sub (.attr j0 64) (.sub j2 (jI 0))) 84 [j0,j1,j2]),.asg (.attr j0 53) j3,.ret j4]
noncomputable def b1289:List MS:=[jA 5 (.call 752 [j0,(jI 2)]),.expr (.meth (.sub (.attr j0 64) (.sub j2 (jI 0))) 86 [j0,j1,j2,j3,j4]),.asg (.attr j0 53) j5]
noncomputable def b1303:List MS:=[jA 4 (.call 1282 [j1,j2,(.sub j3 (jI 2))]),jA 5 (.call 766 [j1,j2,(.sub j3 (jI 3))]),.expr (.call 1289 [j1,j2,(.sub j3 (jI 2)),j4,j5]),.ret j5]
noncomputable def b1322:List MS:=[jA 4 (.call 1282 [j1,j2,(.sub j3 (jI 2))]),jA 5 (.meth (.sub (.attr j1 64) (.sub (.sub j3 (jI 2)) (jI 0))) 85 [j1,j2,(.sub j3 (jI 2)),j4]),jA 6 (.call 1138 [j1,j2,(.sub j3 (jI 3)),j5]),.expr (.call 1289 [j1,j2,(.sub j3 (jI 2)),j4,j6]),.ife (.sub j3 (jI 4)) [.ret j5] [],.ret j6]
noncomputable def b1334:List MS:=[.asg (.unp [2,3]) (.call 292 [j0]),.ret (.bin .add j2 (.bin .mod (.bin .sub j1 j2) (.bin .add (.bin .sub j3 j2) (jI 1))))]
noncomputable def b1341:List MS:=[.asg (.unp [2,3]) (.call 292 [j0]),.ret (.and [(.cmp .le j2 j1),(.cmp .le j1 j3)])]
noncomputable def b1348:List MS:=[.ife (.call 1341 [j0,j1]) [.ret (.tup [j1,(jI 0)])] [],.ife j2 [.ret (.tup [(.val .none),(jI 220)])] [],.ret (.tup [(.call 1334 [j0,j1]),(jI 0)])]
noncomputable def b1355:List MS:=[jA 3 (.call 1348 [j0,j1,j2]),.ife (.cmp .is (.sub j3 (jI 0)) (.val .none)) [.ret (.tup [(.val .none),(jI 221)])] [],.ret j3]
noncomputable def b1362:List MS:=[.ife (.cmp .eq (.sub j1 (jI 1)) (jI 20)) [.expr (.call 850 [j0,(jI 25),(jZ [65,116,116,101,109,112,116,101,100,32,116,111,32,100,105,118,105,100,101,32,98,121,32,122,101,114,111,46])])] [],.ife (.cmp .is (.sub j1 (jI 0)) (.val .none)) [.expr (.call 1112 [j0])] [],.ret (.sub j1 (jI 0))]
noncomputable def b1369:List MS:=[jA 4 (.call 906 [(.attr j0 17),j1]),.ife (.cmp .eq j4 (jI 1)) [.ret j2] [],.ret (.call 1362 [j0,(.call 1355 [j4,j2,j3])])]
noncomputable def b1376:List MS:=[.ife (.cmp .eq j3 (jI 1)) [.ret (.call 1369 [j0,j2,j5,j4])] [],.ife (.or [(.cmp .eq j3 (jI 3)),(.cmp .eq j3 (jI 5))]) [.ret (.call 1098 [j0,j2,(.call 1084 [j0,j1,j5])])] [],.ife (.cmp .eq j3 (jI 4)) [.ret (.call 1084 [j0,j1,j5])] [],.ife (.cmp .eq j3 (jI 6)) [.ret (.tup [(jI 1),j5])] [],.ife (.cmp .eq j3 (jI 7)) [.ret (.call 1105 [j0,j5])] [],.ret j5]
noncomputable def b1390:List MS:=[jA 4 (.call 780 [j1,j2,(.sub j3 (jI 1))]),.ife (.cmp .eq (.sub j3 (jI 3)) (jI 8)) [.ret (.meth j1 76 [j4])] [],jA 5 (.call 766 [j1,j2,(.sub j3 (jI 2))]),jA 6 (.call 780 [j1,j2,(.sub (.sub j3 (jI 2)) (jI 1))]),.ife (.cmp .ne (.sub j3 (jI 3)) (jI 9)) [.ret (.call 1376 [j1,j6,j4,(.sub j3 (jI 3)),(.sub j3 (jI 4)),j5])] [],.ife (.cmp .eq (.sub j5 (jI 0)) (jI 0)) [.ret (.meth j1 76 [j4])] [],jA 7 (.sub (.call 229 [(.attr j1 10),j6]) (jI 0)),.ret (.tup [(jI 1),(.call 1376 [j1,j7,(.sub (.call 229 [(.attr j1 10),j4]) (jI 0)),(.sub j3 (jI 5)),(.sub j3 (jI 4)),(.sub j5 (jI 1))])])]
noncomputable def b1409:List MS:=[jA 4 (.call 1084 [j1,(.call 780 [j1,j2,(.sub (.sub j3 (jI 2)) (jI 1))]),(.call 766 [j1,j2,(.sub j3 (jI 2))])]),jA 5 (.call 780 [j1,j2,(.sub j3 (jI 3))]),.ife (.or [(.cmp .eq j4 (jI 0)),(.not (.call 899 [j1,j4,j5]))]) [.ret (jI 0)] [],.ife (.sub j3 (jI 4)) [.expr (.call 1421 [j1,j2,(.sub j3 (jI 4)),j5,j4])] [],.ret (jI 1)]
noncomputable def b1421:List MS:=[jA 5 j4,.ife (.call 236 [(.attr j0 10),j3]) [jA 5 (.call 1091 [j0,j3,j4])] [],.asg (.sub (.call 843 [j0,j1,j2,(.attr (.sub (.attr (.attr j0 44) 20) j2) 30)]) (jI 0)) j5]
noncomputable def b1435:List MS:=[jA 4 (.call 1084 [j1,(.call 780 [j1,j2,(.sub (.sub j3 (jI 2)) (jI 1))]),(.call 766 [j1,j2,(.sub j3 (jI 2))])]),jA 5 (.call 780 [j1,j2,(.sub j3 (jI 1))]),.ife (.or [(.cmp .eq j4 (jI 0)),(.not (.call 899 [j1,j4,j5]))]) [.ret (.meth j1 76 [j5])] [],.ret (.call 1098 [j1,j5,j4])]
noncomputable def b1447:List MS:=[.asg (.sub (.attr j0 62) (jI 19)) (.make 1393 []),.asg (.sub (.attr j0 62) (jI 20)) (.make 1412 []),.asg (.sub (.attr j0 62) (jI 21)) (.make 1438 [])]
noncomputable def b1485:List MS:=[.expr (.meth (.sub j0 (jZ [114,111,119,115])) 8 [(.tup [j1,j2,j3])]),.ife (.cmp .eq (.cut j1 (.neg (jI 2)) (.val .none)) (jZ [91,93])) [.expr (.meth (.sub j0 (jZ [97,114,114,97,121,115])) 8 [(.bin .sub (.len (.sub j0 (jZ [114,111,119,115]))) (jI 1))])] [],.ret (.bin .sub (.len (.sub j0 (jZ [114,111,119,115]))) (jI 1))]
noncomputable def b1492:List MS:=[.ret (.or [(.cmp .isIn j0 (.tup [(jZ [111]),(jZ [97]),(jZ [98]),(jZ [116])])),(.cmp .eq (.cut j0 (.neg (jI 2)) (.val .none)) (jZ [91,93])),(.cmp .eq (.sub j0 (jI 0)) (jZ [33]))])]
noncomputable def b1499:List MS:=[.ret (.ite (.cmp .eq j1 (jZ [101])) (.sub j0 (jZ [117,110,100,101,114])) j1)]
noncomputable def b1506:List MS:=[jA 3 (.dict [(jZ [117,49]),(.tup [(jI 0),(jI 256)]),(jZ [105,52]),(.tup [(.neg (jI 2147483648)),(jI 4294967296)]),(jZ [117,52]),(.tup [(jI 0),(jI 4294967296)]),(jZ [105,56]),(.tup [(.neg (jI 9223372036854775808)),(jI 18446744073709551616)])]),.asg (.unp [4,5]) (.meth j3 7 [(.call 1499 [j0,j1]),(.tup [(jI 0),(jI 0)])]),.ife (.cmp .eq j5 (jI 0)) [.ret j2] [],.ret (.bin .add j4 (.bin .mod (.bin .sub j2 j4) j5))]
noncomputable def b1513:List MS:=[.ret (.ite (.cmp .eq (.sub j0 (jI 0)) (jZ [63])) (.tup [(jI 0),(jI 0)]) (jI 0))]
noncomputable def b1520:List MS:=[jA 3 (.sub (.sub (.sub j0 (jZ [114,111,119,115])) j1) (jI 0)),.ret (.or [(.cmp .eq j3 j2),(.cmp .eq j2 (jZ [111])),(.cmp .isIn (.tup [j3,j2]) (.sub j0 (jZ [112,97,105,114,115])))])]
noncomputable def b1527:List MS:=[.asg (.sub j0 (jZ [98,97,100])) j1,.ret (jI 0)]
noncomputable def b1534:List MS:=[.ife (.call 1492 [j1]) [.ret j2] [],.ife (.cmp .eq (.sub j1 (jI 0)) (jZ [63])) [.ret (.ite (.sub j2 (jI 0)) (.call 1534 [j0,(.cut j1 (jI 1) (.val .none)),(.sub j2 (jI 1))]) (jI 0))] [],.ret (.call 1485 [j0,j1,(.list [j2]),(.val .none)])]
noncomputable def b1541:List MS:=[.ife (.call 1492 [j1]) [.ret (.ite (.or [(.cmp .eq j2 (jI 0)),(.call 1520 [j0,j2,j1])]) j2 (.call 1527 [j0,(jZ [33,99,97,115,116])]))] [],.ife (.cmp .eq j2 (jI 0)) [.ret (.ite (.cmp .eq (.sub j1 (jI 0)) (jZ [63])) (.tup [(jI 0),(jI 0)]) (.call 1527 [j0,(jZ [33,110,117,108,108])]))] [],jA 3 (.sub (.sub (.sub j0 (jZ [114,111,119,115])) j2) (jI 0)),.ife (.cmp .eq (.sub j1 (jI 0)) (jZ [63])) [.ret (.ite (.cmp .eq j3 (.cut j1 (jI 1) (.val .none))) (.tup [(jI 1),(.sub (.sub (.sub (.sub j0 (jZ [114,111,119,115])) j2) (jI 1)) (jI 0))]) (.call 1527 [j0,(jZ [33,99,97,115,116])]))] [],.ife (.or [(.call 1492 [j3]),(.cmp .ne (.call 1499 [j0,j3]) (.call 1499 [j0,j1]))]) [.ret (.call 1527 [j0,(jZ [33,99,97,115,116])])] [],.ret (.sub (.sub (.sub (.sub j0 (jZ [114,111,119,115])) j2) (jI 1)) (jI 0))]
noncomputable def b1548:List MS:=[jA 4 (.call 1506 [j0,j1,j2]),.ife (.and [j3,(.cmp .ne j4 j2)]) [.ret (.call 1527 [j0,(jZ [33,111,118,101,114])])] [],.ret j4]
noncomputable def b1555:List MS:=[.ret (.and [(.cmp .isIn j0 (.tup [(jZ [105,56]),(jZ [117,56])])),(.or [(.cmp .lt j1 (.neg (jI 2147483648))),(.cmp .gt j1 (jI 2147483647))])])]
noncomputable def b1562:List MS:=[.ife (.or [(.call 1555 [j2,j3]),(.cmp .lt j3 (jI 0)),(.cmp .gt j3 (jI 2147483647))]) [.ret (.call 1527 [j0,(jZ [33,111,118,101,114])])] [],.ife (.cmp .gt j3 (jI 65536)) [.ret (.call 1527 [j0,(jZ [33,109,101,109,111,114,121])])] [],.ret (.call 1485 [j0,j1,(.bin .mul (.list [(.call 1513 [(.cut j1 (.val .none) (.neg (jI 2)))])]) j3),(.val .none)])]
noncomputable def b1569:List MS:=[jA 2 (.call 1597 [j0,(.sub j1 (jI 2))]),.ife (.sub j0 (jZ [98,97,100])) [.ret (.tup [(jI 0),(jI 0)])] [],jA 3 (.call 1597 [j0,(.sub j1 (jI 3))]),.ife (.and [(.cmp .eq (.sub j0 (jZ [98,97,100])) (jZ [])),(.call 1555 [(.sub (.sub j1 (jI 3)) (jI 1)),j3])]) [.expr (.call 1527 [j0,(jZ [33,111,118,101,114])])] [],.ret (.tup [j2,j3])]
noncomputable def b1576:List MS:=[.ife (.cmp .eq j1 (jI 0)) [.expr (.call 1527 [j0,(jZ [33,110,117,108,108])])] [.ife (.or [(.cmp .lt j2 (jI 0)),(.cmp .ge j2 (.len (.sub (.sub (.sub j0 (jZ [114,111,119,115])) j1) (jI 1))))]) [.expr (.call 1527 [j0,(jZ [33,105,110,100,101,120])])] []]]
noncomputable def b1583:List MS:=[.asg (.unp [2,3]) (.call 1569 [j0,j1]),jA 4 (jI 0),.ife (.and [(.cmp .eq (.sub j1 (jI 0)) (jZ [97,115,115,105,103,110])),(.cmp .eq (.sub j0 (jZ [98,97,100])) (jZ []))]) [jA 4 (.call 1597 [j0,(.sub j1 (jI 4))])] [],.ife (.cmp .eq (.sub j0 (jZ [98,97,100])) (jZ [])) [.expr (.call 1576 [j0,j2,j3])] [],.ife (.sub j0 (jZ [98,97,100])) [.ret (jI 0)] [],.asg (.unp [5,6,7]) (.sub (.sub j0 (jZ [114,111,119,115])) j2),jA 8 (.call 1506 [j0,(.sub j1 (jI 1)),(.sub j6 j3)]),.ife (.cmp .eq (.sub j1 (jI 0)) (jZ [101,108,101,109])) [.ret j8] [],.ife (.cmp .eq (.sub j1 (jI 0)) (jZ [99,111,109,112,111,117,110,100])) [jA 4 (.call 1597 [j0,(.sub j1 (jI 4))]),.ife (.sub j0 (jZ [98,97,100])) [.ret (jI 0)] []] [],.ife (.and [(.call 1492 [(.cut j5 (.val .none) (.neg (jI 2)))]),(.cmp .ne j4 (jI 0)),(.not (.call 1520 [j0,j4,(.cut j5 (.val .none) (.neg (jI 2)))]))]) [.ret (.call 1527 [j0,(jZ [33,115,116,111,114,101])])] [],.asg (.sub j6 j3) (.call 1506 [j0,(.cut j5 (.val .none) (.neg (jI 2))),j4]),.ret (.ite (.and [(.cmp .eq (.sub j1 (jI 0)) (jZ [99,111,109,112,111,117,110,100])),(.sub j1 (jI 5))]) j8 j4)]
noncomputable def b1590:List MS:=[.asg (.unp [2,3]) (.call 1569 [j0,j1]),.ife (.cmp .eq (.sub j0 (jZ [98,97,100])) (jZ [])) [.expr (.call 1576 [j0,j2,j3])] [],.ife (.and [(.cmp .eq (.sub j0 (jZ [98,97,100])) (jZ [])),(.not (.sub j1 (jI 4))),(.call 1492 [(.sub j1 (jI 1))]),(.cmp .ne (.cut (.sub (.sub (.sub j0 (jZ [114,111,119,115])) j2) (jI 0)) (.val .none) (.neg (jI 2))) (.sub j1 (jI 1)))]) [.expr (.call 1527 [j0,(jZ [33,115,116,111,114,101])])] [],.ret (.tup [j2,j3])]
noncomputable def b1597:List MS:=[.ife (.cmp .eq (.sub j1 (jI 0)) (jZ [104,101,108,100])) [.ret (.sub j1 (jI 2))] [],.ife (.cmp .isIn (.sub j1 (jI 0)) (.tup [(jZ [101,108,101,109]),(jZ [97,115,115,105,103,110]),(jZ [99,111,109,112,111,117,110,100])])) [.ret (.call 1583 [j0,j1])] [],jA 2 (.call 1597 [j0,(.sub j1 (jI 2))]),.ife (.sub j0 (jZ [98,97,100])) [.ret (jI 0)] [],.ife (.cmp .eq (.sub j1 (jI 0)) (jZ [99,97,115,116])) [.ret (.call 1541 [j0,(.sub j1 (jI 1)),(.call 1534 [j0,(.sub (.sub j1 (jI 2)) (jI 1)),j2])])] [],.ife (.cmp .eq (.sub j1 (jI 0)) (jZ [98,111,120])) [.ret (.call 1534 [j0,(.sub (.sub j1 (jI 2)) (jI 1)),j2])] [],.ife (.cmp .eq (.sub j1 (jI 0)) (jZ [119,114,97,112])) [.ret (.tup [(jI 1),j2])] [],.ife (.cmp .eq (.sub j1 (jI 0)) (jZ [118,97,108,117,101])) [.ret (.ite (.sub j2 (jI 0)) (.sub j2 (jI 1)) (.call 1527 [j0,(jZ [33,118,97,108,117,101])]))] [],.ife (.cmp .eq (.sub j1 (jI 0)) (jZ [110,117,109])) [.ret (.call 1548 [j0,(.sub j1 (jI 1)),j2,(.sub j1 (jI 3))])] [],.ife (.cmp .eq (.sub j1 (jI 0)) (jZ [110,101,119])) [.ret (.call 1562 [j0,(.sub j1 (jI 1)),(.sub (.sub j1 (jI 2)) (jI 1)),j2])] [],.ret (.ite j2 (.len (.sub (.sub (.sub j0 (jZ [114,111,119,115])) j2) (jI 1))) (.call 1527 [j0,(jZ [33,110,117,108,108])]))]
noncomputable def b1604:List MS:=[jA 2 (.sub (.sub j0 (jZ [107,105,110,100,115])) (.sub j1 (jI 1))),.ife (.cmp .eq (.sub j1 (jI 0)) (jZ [104,101,108,100])) [.ret (.tup [(jI 90),j2,(.sub j1 (jI 2))])] [],jA 3 (.call 1604 [j0,(.sub j1 (jI 2))]),.ife (.cmp .eq (.sub j1 (jI 0)) (jZ [99,97,115,116])) [.ret (.tup [(jI 19),j2,j3,(.ite (.call 1492 [(.sub j1 (jI 1))]) (jI 3) (jI 5)),(jI 0)])] [],.ife (.cmp .eq (.sub j1 (jI 0)) (jZ [98,111,120])) [.ret (.tup [(jI 19),j2,j3,(jI 4),(jI 0)])] [],.ife (.cmp .eq (.sub j1 (jI 0)) (jZ [119,114,97,112])) [.ret (.tup [(jI 19),j2,j3,(jI 6),(jI 0)])] [],.ife (.cmp .eq (.sub j1 (jI 0)) (jZ [118,97,108,117,101])) [.ret (.tup [(jI 19),j2,j3,(jI 7),(jI 0)])] [],.ife (.cmp .eq (.sub j1 (jI 0)) (jZ [110,117,109])) [.ret (.tup [(jI 19),j2,j3,(jI 1),(.sub j1 (jI 3))])] [],.ife (.cmp .eq (.sub j1 (jI 0)) (jZ [110,101,119])) [.ret (.tup [(jI 10),j2,j3])] [],.ife (.cmp .eq (.sub j1 (jI 0)) (jZ [108,101,110])) [.ret (.tup [(jI 7),j2,j3])] [],jA 4 (.tup [(jI 6),j2,j3,(.call 1604 [j0,(.sub j1 (jI 3))])]),.ife (.cmp .eq (.sub j1 (jI 0)) (jZ [97,115,115,105,103,110])) [.ret (.tup [(jI 22),j2,j4,(.call 1604 [j0,(.sub j1 (jI 4))])])] [],.ife (.cmp .eq (.sub j1 (jI 0)) (jZ [99,111,109,112,111,117,110,100])) [.ret (.tup [(jI 23),j2,j4,(.call 1604 [j0,(.sub j1 (jI 4))]),(.sub j1 (jI 5))])] [],.ret j4]
noncomputable def b1611:List MS:=[jA 2 (.len (.sub j0 (jZ [114,111,119,115]))),.forr 3 (.range [(jI 7)]) [.ife (.cmp .eq (.sub (.sub (.val (.tup [(.tup [(.str [33,110,117,108,108]),(.int 21),(.str [79,98,106,101,99,116,32,114,101,102,101,114,101,110,99,101,32,110,111,116,32,115,101,116,32,116,111,32,97,110,32,105,110,115,116,97,110,99,101,32,111,102,32,97,110,32,111,98,106,101,99,116,46])]),(.tup [(.str [33,105,110,100,101,120]),(.int 22),(.str [73,110,100,101,120,32,119,97,115,32,111,117,116,115,105,100,101,32,116,104,101,32,98,111,117,110,100,115,32,111,102,32,116,104,101,32,97,114,114,97,121,46])]),(.tup [(.str [33,99,97,115,116]),(.int 23),(.str [83,112,101,99,105,102,105,101,100,32,99,97,115,116,32,105,115,32,110,111,116,32,118,97,108,105,100,46])]),(.tup [(.str [33,111,118,101,114]),(.int 26),(.str [65,114,105,116,104,109,101,116,105,99,32,111,112,101,114,97,116,105,111,110,32,114,101,115,117,108,116,101,100,32,105,110,32,97,110,32,111,118,101,114,102,108,111,119,46])]),(.tup [(.str [33,115,116,111,114,101]),(.int 27),(.str [65,116,116,101,109,112,116,101,100,32,116,111,32,97,99,99,101,115,115,32,97,110,32,101,108,101,109,101,110,116,32,97,115,32,97,32,116,121,112,101,32,105,110,99,111,109,112,97,116,105,98,108,101,32,119,105,116,104,32,116,104,101,32,97,114,114,97,121,46])]),(.tup [(.str [33,118,97,108,117,101]),(.int 29),(.str [78,117,108,108,97,98,108,101,32,111,98,106,101,99,116,32,109,117,115,116,32,104,97,118,101,32,97,32,118,97,108,117,101,46])]),(.tup [(.str [33,109,101,109,111,114,121]),(.int 30),(.str [73,110,115,117,102,102,105,99,105,101,110,116,32,109,101,109,111,114,121,32,116,111,32,99,111,110,116,105,110,117,101,32,116,104,101,32,101,120,101,99,117,116,105,111,110,32,111,102,32,116,104,101,32,112,114,111,103,114,97,109,46])])])) j3) (jI 0)) j1) [.expr (.call 1485 [j0,j1,(.sub (.tup [(.list [(.bin .add j2 (jI 1)),(jI 0)]),(.list [(jI 0),(.bin .add j2 (jI 1)),(jI 0)])]) (.sub (.sub j0 (jZ [102,111,114,109,115])) j3)),(.val .none)]),.expr (.call 1485 [j0,(jZ [116]),(.list []),(.sub (.sub (.val (.tup [(.tup [(.str [33,110,117,108,108]),(.int 21),(.str [79,98,106,101,99,116,32,114,101,102,101,114,101,110,99,101,32,110,111,116,32,115,101,116,32,116,111,32,97,110,32,105,110,115,116,97,110,99,101,32,111,102,32,97,110,32,111,98,106,101,99,116,46])]),(.tup [(.str [33,105,110,100,101,120]),(.int 22),(.str [73,110,100,101,120,32,119,97,115,32,111,117,116,115,105,100,101,32,116,104,101,32,98,111,117,110,100,115,32,111,102,32,116,104,101,32,97,114,114,97,121,46])]),(.tup [(.str [33,99,97,115,116]),(.int 23),(.str [83,112,101,99,105,102,105,101,100,32,99,97,115,116,32,105,115,32,110,111,116,32,118,97,108,105,100,46])]),(.tup [(.str [33,111,118,101,114]),(.int 26),(.str [65,114,105,116,104,109,101,116,105,99,32,111,112,101,114,97,116,105,111,110,32,114,101,115,117,108,116,101,100,32,105,110,32,97,110,32,111,118,101,114,102,108,111,119,46])]),(.tup [(.str [33,115,116,111,114,101]),(.int 27),(.str [65,116,116,101,109,112,116,101,100,32,116,111,32,97,99,99,101,115,115,32,97,110,32,101,108,101,109,101,110,116,32,97,115,32,97,32,116,121,112,101,32,105,110,99,111,109,112,97,116,105,98,108,101,32,119,105,116,104,32,116,104,101,32,97,114,114,97,121,46])]),(.tup [(.str [33,118,97,108,117,101]),(.int 29),(.str [78,117,108,108,97,98,108,101,32,111,98,106,101,99,116,32,109,117,115,116,32,104,97,118,101,32,97,32,118,97,108,117,101,46])]),(.tup [(.str [33,109,101,109,111,114,121]),(.int 30),(.str [73,110,115,117,102,102,105,99,105,101,110,116,32,109,101,109,111,114,121,32,116,111,32,99,111,110,116,105,110,117,101,32,116,104,101,32,101,120,101,99,117,116,105,111,110,32,111,102,32,116,104,101,32,112,114,111,103,114,97,109,46])])])) j3) (jI 2))])] []],.ret j2]
noncomputable def b1618:List MS:=[.asg (.unp [4,5]) j2,.ife (.or [(.cmp .ne (.sub j3 (jI 0)) (.sub (.sub (.sub j0 (jZ [114,111,119,115])) j4) (jI 1))),(.cmp .ne (.tup [(.sub j3 (jI 1)),(.sub j3 (jI 2))]) (.tup [j5,(.tup [])]))]) [.ret (.val (.bool false))] [],.ife (.sub j1 (jI 4)) [.ret (.val (.bool true))] [],.asg (.sub (.sub j3 (jI 0)) j5) (.call 1513 [(.sub j1 (jI 1))]),.asg (.sub (.sub (.sub (.sub j0 (jZ [114,111,119,115])) j4) (jI 1)) j5) (.call 1513 [(.sub j1 (jI 1))]),.ret (.val (.bool true))]
noncomputable def b1625:List MS:=[jA 2 (.sub j0 (jZ [101,118])),.asg (.attr j2 53) (jI 0),jA 3 (.call 1604 [j0,j1]),jA 4 (jI 0),jA 5 (.val .none),.tryl [.ife (.cmp .eq (.sub j1 (jI 0)) (jZ [112,108,97,99,101])) [jA 5 (.call 773 [j2,(.sub j0 (jZ [97,99,116])),j3,(.sub j1 (jI 4))])] [jA 5 (.call 766 [j2,(.sub j0 (jZ [97,99,116])),j3])]] 448 6 4 28,.asg (.sub j0 (jZ [98,97,100])) (jZ []),jA 7 (.ite (.cmp .eq (.sub j1 (jI 0)) (jZ [112,108,97,99,101])) (.call 1590 [j0,j1]) (.call 1597 [j0,j1])),.ife (.sub j0 (jZ [98,97,100])) [.ret (.cmp .eq j4 (.call 1611 [j0,(.sub j0 (jZ [98,97,100]))]))] [],.ife j4 [.ret (.val (.bool false))] [],.ife (.cmp .eq (.sub j1 (jI 0)) (jZ [112,108,97,99,101])) [.ret (.call 1618 [j0,j1,j7,j5])] [],.ret (.cmp .eq j5 j7)]
noncomputable def b1632:List MS:=[jA 1 (.sub j0 (jZ [97,116])),.asg (.sub j0 (jZ [97,116])) (.bin .add j1 (jI 1)),.ife (.cmp .lt j1 (.len (.sub j0 (jZ [115,99,114,105,112,116])))) [.ret (.sub (.sub j0 (jZ [115,99,114,105,112,116])) j1)] [],.ife (.cmp .lt j1 (.len (.val (.tup [(.int 0),(.int 1),(.int 3),(.int 1),(.int 0),(.int 1),(.int 3),(.int 1),(.int 2),(.int 10),(.int 5),(.int 4),(.int 2),(.int 0),(.int 7),(.int 8),(.int 1),(.int 3)])))) [.ret (.sub (.val (.tup [(.int 0),(.int 1),(.int 3),(.int 1),(.int 0),(.int 1),(.int 3),(.int 1),(.int 2),(.int 10),(.int 5),(.int 4),(.int 2),(.int 0),(.int 7),(.int 8),(.int 1),(.int 3)])) j1)] [],.ret (.bin .add (.bin .mul (jI 7) j1) (jI 3))]
noncomputable def b1639:List MS:=[.ret (.sub j1 (.bin .mod (.call 1632 [j0]) (.len j1)))]
noncomputable def b1646:List MS:=[jA 1 (.call 1639 [j0,(.tup [(jZ [105,52]),(jZ [117,52]),(jZ [101]),(jZ [105,56]),(jZ [63,105,52]),(jZ [63,101])])]),jA 2 (.call 1639 [j0,(.val (.tup [(.int 0),(.int 1),(.int (-1)),(.int 2),(.int 2147483647),(.int (-2147483648)),(.int 65537),(.int 1000000)]))]),.ife (.cmp .ne (.sub j1 (jI 0)) (jZ [63])) [.ret (.tup [(jZ [104,101,108,100]),j1,(.call 1506 [j0,j1,j2])])] [],.ife (.cmp .eq j2 (jI 2)) [.ret (.tup [(jZ [104,101,108,100]),j1,(.tup [(jI 0),(jI 0)])])] [],.ret (.tup [(jZ [104,101,108,100]),j1,(.tup [(jI 1),(.call 1506 [j0,(.cut j1 (jI 1) (.val .none)),j2])])])]
noncomputable def b1653:List MS:=[jA 1 (.call 1632 [j0]),.ife (.cmp .eq (.bin .mod j1 (jI 4)) (jI 3)) [.ret (.tup [(jZ [98,111,120]),(jZ [111]),(.call 1646 [j0])])] [],.ret (.tup [(jZ [104,101,108,100]),(jZ [111]),(.bin .mod (.bin .div j1 (jI 4)) (.len (.sub j0 (jZ [114,111,119,115]))))])]
noncomputable def b1660:List MS:=[jA 1 (.call 1632 [j0]),.ife (.cmp .eq (.bin .mod j1 (jI 6)) (jI 4)) [.ret (.tup [(jZ [99,97,115,116]),(jZ [105,52]),(.call 1653 [j0])])] [],.ife (.cmp .eq (.bin .mod j1 (jI 6)) (jI 5)) [.ret (.tup [(jZ [110,117,109]),(jZ [105,52]),(.tup [(jZ [104,101,108,100]),(jZ [105,56]),(.sub (.tup [(jI 1),(jI 2147483648),(.neg (jI 2147483649)),(jI 4294967296)]) (.bin .mod (.bin .div j1 (jI 6)) (jI 4)))]),(.bin .mod (.bin .div j1 (jI 24)) (jI 2))])] [],.asg (.unp [2,3]) (.sub (.val (.tup [(.tup [(.str [105,52]),(.int 0)]),(.tup [(.str [105,52]),(.int 1)]),(.tup [(.str [105,52]),(.int 2)]),(.tup [(.str [105,52]),(.int (-1))]),(.tup [(.str [105,52]),(.int 3)]),(.tup [(.str [117,52]),(.int 1)]),(.tup [(.str [117,52]),(.int 4294967295)]),(.tup [(.str [117,52]),(.int 2147483648)]),(.tup [(.str [105,56]),(.int 1)]),(.tup [(.str [105,56]),(.int (-1))]),(.tup [(.str [105,56]),(.int 2147483648)]),(.tup [(.str [105,56]),(.int (-2147483649))]),(.tup [(.str [117,56]),(.int 18446744073709551615)]),(.tup [(.str [117,56]),(.int 0)]),(.tup [(.str [105,52]),(.int 65537)]),(.tup [(.str [105,52]),(.int (-2147483648))]),(.tup [(.str [105,56]),(.int 2147483647)]),(.tup [(.str [105,56]),(.int (-2147483648))]),(.tup [(.str [117,56]),(.int 2147483648)]),(.tup [(.str [117,52]),(.int 2)])])) (.bin .add (.bin .mod j1 (jI 6)) (.bin .mul (.bin .mod (.bin .div j1 (jI 6)) (jI 5)) (jI 4)))),.ret (.tup [(jZ [104,101,108,100]),j2,j3])]
noncomputable def b1667:List MS:=[jA 2 (.call 1632 [j0]),.ife (.cmp .eq j1 (jZ [111])) [.ret (.call 1653 [j0])] [],.ife (.cmp .eq (.bin .mod j2 (jI 3)) (jI 2)) [.ret (.tup [(jZ [99,97,115,116]),j1,(.call 1653 [j0])])] [],.ife (.call 1492 [j1]) [.ret (.tup [(jZ [104,101,108,100]),j1,(.ite (.bin .mod j2 (jI 3)) (jI 0) (.ite (.cmp .eq j1 (jZ [98])) (jI 2) (jI 1)))])] [],.ife (.and [(.cmp .eq (.sub j1 (jI 0)) (jZ [63])),(.cmp .eq (.bin .mod j2 (jI 3)) (jI 1))]) [.ret (.tup [(jZ [119,114,97,112]),j1,(.tup [(jZ [110,117,109]),(.cut j1 (jI 1) (.val .none)),(.tup [(jZ [104,101,108,100]),(jZ [105,56]),(.bin .mul (jI 2) (.sub (.val (.tup [(.int 0),(.int 1),(.int (-1)),(.int 2),(.int 2147483647),(.int (-2147483648)),(.int 65537),(.int 1000000)])) (.bin .mod (.bin .div j2 (jI 3)) (jI 8))))]),(.bin .mod (.bin .div j2 (jI 24)) (jI 2))])])] [],.ife (.cmp .eq (.sub j1 (jI 0)) (jZ [63])) [.ret (.tup [(jZ [104,101,108,100]),j1,(.tup [(jI 0),(jI 0)])])] [],.ife (.cmp .eq (.bin .mod j2 (jI 3)) (jI 1)) [.ret (.tup [(jZ [110,117,109]),j1,(.tup [(jZ [104,101,108,100]),(jZ [105,56]),(.sub (.val (.tup [(.int 0),(.int 1),(.int (-1)),(.int 2),(.int 2147483647),(.int (-2147483648)),(.int 65537),(.int 1000000)])) (.bin .mod (.bin .div j2 (jI 3)) (jI 8)))]),(.bin .mod (.bin .div j2 (jI 24)) (jI 2))])] [],.ret (.tup [(jZ [104,101,108,100]),j1,(.call 1506 [j0,j1,(.sub (.val (.tup [(.int 0),(.int 1),(.int (-1)),(.int 2),(.int 2147483647),(.int (-2147483648)),(.int 65537),(.int 1000000)])) (.bin .mod (.bin .div j2 (jI 3)) (jI 8)))])])]
noncomputable def b1674:List MS:=[jA 1 (.call 1632 [j0]),jA 2 (.sub (.bin .add (.sub j0 (jZ [97,114,114,97,121,115])) (.list [(jI 0)])) (.bin .mod j1 (.bin .add (.len (.sub j0 (jZ [97,114,114,97,121,115]))) (jI 1)))),jA 3 (.ite j2 (.cut (.sub (.sub (.sub j0 (jZ [114,111,119,115])) j2) (jI 0)) (.val .none) (.neg (jI 2))) (.sub (.tup [(jZ [105,52]),(jZ [97]),(jZ [111])]) (.bin .mod (.bin .div j1 (jI 8)) (jI 3)))),jA 4 j3,.ife (.cmp .eq (.bin .mod (.bin .div j1 (jI 16)) (jI 3)) (jI 1)) [jA 5 (.dict [(jZ [105,52]),(jZ [117,52]),(jZ [117,52]),(jZ [105,52]),(jZ [101]),(.sub j0 (jZ [117,110,100,101,114])),(jZ [98]),(jZ [97]),(jZ [97]),(jZ [111])]),jA 4 (.meth j5 7 [j3,j3])] [],.ife (.and [(.cmp .eq (.bin .mod (.bin .div j1 (jI 16)) (jI 3)) (jI 2)),(.call 1492 [j3])]) [jA 4 (jZ [111])] [],.ife (.cmp .eq (.bin .mod (.bin .div j1 (jI 48)) (jI 3)) (jI 1)) [.ret (.tup [j4,(.tup [(jZ [99,97,115,116]),(.bin .add j4 (jZ [91,93])),(.tup [(jZ [104,101,108,100]),(jZ [111]),j2])])])] [],.ret (.tup [j4,(.tup [(jZ [104,101,108,100]),(.bin .add j4 (jZ [91,93])),j2])])]
noncomputable def b1681:List MS:=[jA 1 (.bin .mod (.call 1632 [j0]) (jI 9)),.ife (.cmp .eq j1 (jI 7)) [jA 2 (.call 1639 [j0,(.tup [(jZ [105,52]),(jZ [97]),(jZ [63,105,52]),(jZ [101]),(jZ [111])])]),.ret (.tup [(jZ [110,101,119]),(.bin .add j2 (jZ [91,93])),(.call 1660 [j0])])] [],.ife (.cmp .eq j1 (jI 8)) [jA 3 (.call 1639 [j0,(.tup [(jZ [105,52]),(jZ [63,105,52]),(jZ [101]),(jZ [97]),(jZ [63,101]),(jZ [98]),(jZ [105,52,91,93]),(jZ [116]),(jZ [117,52]),(jZ [97,91,93]),(jZ [101,91,93]),(jZ [111,91,93])])]),jA 4 (.tup [(jZ [99,97,115,116]),j3,(.call 1653 [j0])]),.ret (.ite (.cmp .eq (.sub j3 (jI 0)) (jZ [63])) (.tup [(jZ [118,97,108,117,101]),(.cut j3 (jI 1) (.val .none)),j4]) j4)] [],.asg (.unp [5,6]) (.call 1674 [j0]),.ife (.cmp .eq j1 (jI 6)) [.ret (.tup [(jZ [108,101,110]),(jZ [105,52]),j6])] [],jA 7 (.call 1660 [j0]),.ife (.cmp .eq j1 (jI 0)) [.ret (.tup [(jZ [101,108,101,109]),j5,j6,j7])] [],.ife (.cmp .lt j1 (jI 3)) [.ret (.tup [(jZ [97,115,115,105,103,110]),j5,j6,j7,(.call 1667 [j0,j5])])] [],.ife (.cmp .eq j1 (jI 3)) [.ret (.tup [(jZ [99,111,109,112,111,117,110,100]),j5,j6,j7,(.call 1667 [j0,j5]),(.bin .mod (.call 1632 [j0]) (jI 2))])] [],.ret (.tup [(jZ [112,108,97,99,101]),j5,j6,j7,(.bin .mod j1 (jI 2))])]
noncomputable def b1688:List MS:=[jA 1 (.tup [(jZ [104,101,108,100]),(jZ [105,52]),(jI 0)]),jA 2 (.tup [(jZ [104,101,108,100]),(jZ [105,52,91,93]),(jI 0)]),jA 3 (.tup [(jZ [104,101,108,100]),(jZ [97,91,93]),(jI 6)]),jA 4 (.tup [(jZ [104,101,108,100]),(jZ [97]),(jI 1)]),.ret (.tup [(.tup [(jZ [101,108,101,109]),(jZ [105,52]),j2,(.tup [(jZ [104,101,108,100]),(jZ [105,52]),(.neg (jI 1))])]),(.tup [(jZ [101,108,101,109]),(jZ [105,52]),(.tup [(jZ [104,101,108,100]),(jZ [105,52,91,93]),(jI 4)]),(.tup [(jZ [104,101,108,100]),(jZ [105,52]),(jI 2)])]),(.tup [(jZ [101,108,101,109]),(jZ [105,52]),(.tup [(jZ [104,101,108,100]),(jZ [105,52,91,93]),(jI 4)]),(.tup [(jZ [104,101,108,100]),(jZ [105,52]),(.neg (jI 1))])]),(.tup [(jZ [101,108,101,109]),(jZ [105,52]),j2,(.tup [(jZ [104,101,108,100]),(jZ [105,56]),(jI 2147483648)])]),(.tup [(jZ [97,115,115,105,103,110]),(jZ [97]),j3,j1,j4]),(.tup [(jZ [97,115,115,105,103,110]),(jZ [97]),j3,(.tup [(jZ [104,101,108,100]),(jZ [105,52]),(jI 2)]),j4]),(.tup [(jZ [97,115,115,105,103,110]),(jZ [97]),(.tup [(jZ [104,101,108,100]),(jZ [97,91,93]),(jI 0)]),j1,(.tup [(jZ [99,97,115,116]),(jZ [97]),(.tup [(jZ [104,101,108,100]),(jZ [111]),(jI 3)])])]),(.tup [(jZ [99,111,109,112,111,117,110,100]),(jZ [97]),j3,(.tup [(jZ [104,101,108,100]),(jZ [105,52]),(jI 2)]),(.tup [(jZ [99,97,115,116]),(jZ [97]),(.tup [(jZ [104,101,108,100]),(jZ [111]),(jI 3)])]),(jI 0)]),(.tup [(jZ [112,108,97,99,101]),(jZ [97]),j3,j1,(jI 0)]),(.tup [(jZ [112,108,97,99,101]),(jZ [97]),j3,j1,(jI 1)]),(.tup [(jZ [108,101,110]),(jZ [105,52]),j2]),(.tup [(jZ [110,101,119]),(jZ [105,52,91,93]),(.tup [(jZ [104,101,108,100]),(jZ [105,52]),(.neg (jI 1))])]),(.tup [(jZ [110,101,119]),(jZ [111,91,93]),(.tup [(jZ [104,101,108,100]),(jZ [117,52]),(jI 65537)])]),(.tup [(jZ [110,101,119]),(jZ [105,52,91,93]),(.tup [(jZ [104,101,108,100]),(jZ [105,52]),(jI 2)])]),(.tup [(jZ [99,97,115,116]),(jZ [105,52]),(.tup [(jZ [104,101,108,100]),(jZ [111]),(jI 0)])]),(.tup [(jZ [99,97,115,116]),(jZ [105,52]),(.tup [(jZ [104,101,108,100]),(jZ [111]),(jI 13)])]),(.tup [(jZ [99,97,115,116]),(jZ [63,105,52]),(.tup [(jZ [104,101,108,100]),(jZ [111]),(jI 11)])]),(.tup [(jZ [118,97,108,117,101]),(jZ [105,52]),(.tup [(jZ [99,97,115,116]),(jZ [63,105,52]),(.tup [(jZ [104,101,108,100]),(jZ [111]),(jI 0)])])]),(.tup [(jZ [110,117,109]),(jZ [105,52]),(.tup [(jZ [104,101,108,100]),(jZ [105,56]),(jI 2147483648)]),(jI 1)]),(.tup [(jZ [97,115,115,105,103,110]),(jZ [117,52]),(.tup [(jZ [104,101,108,100]),(jZ [117,52,91,93]),(jI 4)]),j1,(.tup [(jZ [104,101,108,100]),(jZ [117,52]),(jI 4294967295)])])])]
noncomputable def b1695:List MS:=[jA 1 (.dict [(jZ [117,49]),(jI 4),(jZ [105,52]),(jI 7),(jZ [117,52]),(jI 8),(jZ [105,56]),(jI 9),(jZ [117,56]),(jI 10),(jZ [111]),(jI 12),(jZ [116]),(jI 13)]),.asg (.sub j1 (jZ [97])) (.meth j0 6 [(.tup [(jI 2),(jI 64),(.tup [])])]),.asg (.sub j1 (jZ [98])) (.meth j0 6 [(.tup [(jI 2),(jI 65),(.tup [])])]),.asg (.sub j1 (jZ [101])) (.meth j0 6 [(.tup [(jI 3),(jI 66),(.tup [])])]),.asg (.sub j1 (jZ [63,105,52])) (.meth j0 6 [(.tup [(jI 3),(jI 8),(.tup [(jI 7)])])]),.asg (.sub j1 (jZ [63,101])) (.meth j0 6 [(.tup [(jI 3),(jI 8),(.tup [(.sub j1 (jZ [101]))])])]),.forr 2 (.tup [(jZ [105,52]),(jZ [117,52]),(jZ [117,49]),(jZ [105,56]),(jZ [101]),(jZ [111]),(jZ [97]),(jZ [98]),(jZ [63,105,52])]) [.asg (.sub j1 (.bin .add j2 (jZ [91,93]))) (.meth j0 6 [(.tup [(jI 4),(.sub j1 j2)])])],.ret j1]
noncomputable def b1700:List MS:=[.expr (.call 801 [(.sub j0 (jZ [101,118])),(.sub (.sub j0 (jZ [107,105,110,100,115])) j1),(.comp j5 5 j2 [])]),.expr (.call 1485 [j0,j1,j2,(.val .none)])]
noncomputable def b1707:List MS:=[jA 1 (.make 337 []),jA 2 (.make 1000 [(.make 407 [j1,(jI 0)]),(jI 100000)]),.asg (.attr j2 62) (.dict [(jI 90),(.make 1129 []),(jI 6),(.make 1176 []),(jI 7),(.make 1254 []),(jI 10),(.make 1273 []),(jI 22),(.make 1306 []),(jI 23),(.make 1325 [])]),.asg (.sub (.attr j2 63) (jI 6)) (.make 1195 []),.asg (.sub (.attr j2 64) (jI 6)) (.make 1228 []),.expr (.call 1447 [j2]),jA 3 (.dict [(jZ [115,99,114,105,112,116]),j0,(jZ [97,116]),(jI 0),(jZ [101,118]),j2,(jZ [97,99,116]),(.make 489 [(jI 1),(.val .none),(jI 0),(.tup []),(.tup [])]),(jZ [107,105,110,100,115]),(.call 1695 [(.attr j1 10)]),(jZ [114,111,119,115]),(.list [(.tup [(jZ []),(.list []),(.val .none)])]),(jZ [97,114,114,97,121,115]),(.list []),(jZ [98,97,100]),(jZ []),(jZ [102,111,114,109,115]),(.list [])]),jA 4 (.call 1632 [j3]),.asg (.sub j3 (jZ [117,110,100,101,114])) (.sub (.tup [(jZ [105,52]),(jZ [117,49]),(jZ [105,56]),(jZ [117,52])]) (.bin .mod j4 (jI 4))),.asg (.sub j3 (jZ [112,97,105,114,115])) (.dict [(.tup [(jZ [98,91,93]),(jZ [97,91,93])]),(jI 1),(.tup [(jZ [97,91,93]),(jZ [111,91,93])]),(jI 1),(.tup [(jZ [105,52,91,93]),(jZ [117,52,91,93])]),(jI 1)]),.ife (.cmp .eq (.bin .mod (.bin .div j4 (jI 4)) (jI 2)) (jI 0)) [.asg (.sub (.sub j3 (jZ [112,97,105,114,115])) (.tup [(jZ [98]),(jZ [97])])) (jI 1),.asg (.sub (.sub j3 (jZ [112,97,105,114,115])) (.tup [(jZ [98,91,93]),(jZ [111,91,93])])) (jI 1)] [],.forkv 5 (.sub j3 (jZ [112,97,105,114,115])) (.attr j2 59) (.sub (.sub j3 (jZ [107,105,110,100,115])) (.sub j5 (jI 0))) (.sub (.sub j3 (jZ [107,105,110,100,115])) (.sub j5 (jI 1))) (jI 1),.asg (.attr j1 11) (.bin .mul (.list [(.val .none)]) (jI 67)),.asg (.sub (.attr j1 11) (jI 8)) (.make 316 [(jI 8),(jZ [78,117,108,108,97,98,108,101]),(jI 2),(jI 0),(.neg (jI 1)),(.tup [(jZ [84])]),(jI 0)]),.asg (.sub (.attr j1 11) (jI 66)) (.make 316 [(jI 66),(jZ [69]),(jI 5),(jI 0),(.neg (jI 1)),(.tup []),(jI 1)]),.asg (.attr (.sub (.attr j1 11) (jI 66)) 98) (.sub (.sub j3 (jZ [107,105,110,100,115])) (.sub j3 (jZ [117,110,100,101,114]))),.forr 6 (.range [(jI 7)]) [.asg (.unp [7,8,9]) (.sub (.val (.tup [(.tup [(.str [33,110,117,108,108]),(.int 21),(.str [79,98,106,101,99,116,32,114,101,102,101,114,101,110,99,101,32,110,111,116,32,115,101,116,32,116,111,32,97,110,32,105,110,115,116,97,110,99,101,32,111,102,32,97,110,32,111,98,106,101,99,116,46])]),(.tup [(.str [33,105,110,100,101,120]),(.int 22),(.str [73,110,100,101,120,32,119,97,115,32,111,117,116,115,105,100,101,32,116,104,101,32,98,111,117,110,100,115,32,111,102,32,116,104,101,32,97,114,114,97,121,46])]),(.tup [(.str [33,99,97,115,116]),(.int 23),(.str [83,112,101,99,105,102,105,101,100,32,99,97,115,116,32,105,115,32,110,111,116,32,118,97,108,105,100,46])]),(.tup [(.str [33,111,118,101,114]),(.int 26),(.str [65,114,105,116,104,109,101,116,105,99,32,111,112,101,114,97,116,105,111,110,32,114,101,115,117,108,116,101,100,32,105,110,32,97,110,32,111,118,101,114,102,108,111,119,46])]),(.tup [(.str [33,115,116,111,114,101]),(.int 27),(.str [65,116,116,101,109,112,116,101,100,32,116,111,32,97,99,99,101,115,115,32,97,110,32,101,108,101,109,101,110,116,32,97,115,32,97,32,116,121,112,101,32,105,110,99,111,109,112,97,116,105,98,108,101,32,119,105,116,104,32,116,104,101,32,97,114,114,97,121,46])]),(.tup [(.str [33,118,97,108,117,101]),(.int 29),(.str [78,117,108,108,97,98,108,101,32,111,98,106,101,99,116,32,109,117,115,116,32,104,97,118,101,32,97,32,118,97,108,117,101,46])]),(.tup [(.str [33,109,101,109,111,114,121]),(.int 30),(.str [73,110,115,117,102,102,105,99,105,101,110,116,32,109,101,109,111,114,121,32,116,111,32,99,111,110,116,105,110,117,101,32,116,104,101,32,101,120,101,99,117,116,105,111,110,32,111,102,32,116,104,101,32,112,114,111,103,114,97,109,46])])])) j6),jA 10 (.meth (.attr j1 10) 6 [(.tup [(jI 2),j8,(.tup [])])]),jA 11 (.bin .mod (.bin .div j4 (.bin .mul (jI 8) (.bin .pow (jI 2) j6))) (jI 2)),.asg (.sub (.sub j3 (jZ [107,105,110,100,115])) j7) j10,.expr (.meth (.sub j3 (jZ [102,111,114,109,115])) 8 [j11]),.ife (.cmp .eq j11 (jI 0)) [.asg (.sub (.attr j2 58) j10) (.make 923 [(.tup [(jI 13),(jI 12)]),(.dict [(jI 1),(jI 0),(jI 2),(jI 1)]),(.list []),(.list []),(.list [(jI 1),(jI 2)])])] [.asg (.sub (.attr j2 58) j10) (.make 923 [(.tup [(jI 12),(jI 13),(jI 7)]),(.dict [(jI 2),(jI 0),(jI 1),(jI 1),(jI 64),(jI 2)]),(.list []),(.list []),(.list [(jI 2),(jI 1),(jI 64)])])]],.ret j3]
noncomputable def b1714:List MS:=[.expr (.call 1700 [j0,(jZ [97]),(.list [])]),.expr (.call 1700 [j0,(jZ [98]),(.list [])]),.expr (.call 808 [(.sub j0 (jZ [101,118])),(jZ [97,98])]),.expr (.call 1485 [j0,(jZ [116]),(.list []),(jZ [97,98])]),.expr (.call 1700 [j0,(jZ [105,52,91,93]),(.list [(jI 5),(.neg (jI 1))])]),.expr (.call 1700 [j0,(jZ [101,91,93]),(.list [(jI 1),(jI 2)])]),.expr (.call 1700 [j0,(jZ [98,91,93]),(.list [(jI 2),(jI 0)])]),.expr (.call 1700 [j0,(jZ [111,91,93]),(.list [(jI 3),(jI 1),(jI 0)])]),.expr (.call 1700 [j0,(jZ [97,91,93]),(.list [(jI 1),(jI 2)])]),.expr (.call 1700 [j0,(jZ [63,105,52,91,93]),(.list [(.tup [(jI 1),(jI 7)]),(.tup [(jI 0),(jI 0)])])]),.expr (.call 1700 [j0,(jZ [105,52]),(.list [(jI 2)])]),.expr (.call 1700 [j0,(jZ [101]),(.list [(jI 1)])]),.expr (.call 1700 [j0,(.sub j0 (jZ [117,110,100,101,114])),(.list [(jI 0)])]),.expr (.call 1700 [j0,(jZ [105,56]),(.list [(jI 1)])]),.expr (.call 1700 [j0,(jZ [117,52,91,93]),(.list [(jI 4294967295)])])]
noncomputable def b1721:List MS:=[jA 1 (.attr (.sub j0 (jZ [101,118])) 46),.ife (.cmp .ne (.len j1) (.len (.sub j0 (jZ [114,111,119,115])))) [.ret (.val (.bool false))] [],.forr 2 (.range [(jI 1),(.len j1)]) [.asg (.unp [3,4,5]) (.sub (.sub j0 (jZ [114,111,119,115])) j2),jA 6 (.sub j1 j2),.ife (.or [(.cmp .ne (.attr j6 30) (.sub (.sub j0 (jZ [107,105,110,100,115])) j3)),(.cmp .ne (.attr j6 31) j4),(.cmp .ne (.attr j6 32) j5),(.cmp .ne (.attr j6 29) j2)]) [.ret (.val (.bool false))] []],.ret (.val (.bool true))]
noncomputable def b1728:List MS:=[jA 0 (.cut j0 (.val .none) (jI 40)),jA 1 (.call 1707 [j0]),.expr (.call 1714 [j1]),.forr 2 (.call 1688 [j1]) [.ife (.not (.call 1625 [j1,j2])) [.ret (.val (.bool false))] []],.forr 3 (.range [(.bin .add (jI 2) (.bin .div (.len j0) (jI 5)))]) [.ife (.not (.call 1625 [j1,(.call 1681 [j1])])) [.ret (.val (.bool false))] []],.ret (.call 1721 [j1])]
noncomputable def tFun:List (Addr×Fun):=[(35,⟨3,b35⟩),(117,⟨1,b117⟩),(124,⟨2,b124⟩),(131,⟨2,b131⟩),(145,⟨1,b145⟩),(152,⟨1,b152⟩),(159,⟨1,b159⟩),(166,⟨2,b166⟩),(173,⟨2,b173⟩),(180,⟨2,b180⟩),(187,⟨2,b187⟩),(194,⟨3,b194⟩),(201,⟨2,b201⟩),(208,⟨2,b208⟩),(215,⟨2,b215⟩),(222,⟨2,b222⟩),(229,⟨2,b229⟩),(236,⟨2,b236⟩),(243,⟨2,b243⟩),(250,⟨2,b250⟩),(257,⟨4,b257⟩),(264,⟨5,b264⟩),(271,⟨3,b271⟩),(278,⟨2,b278⟩),(285,⟨3,b285⟩),(292,⟨1,b292⟩),(299,⟨1,b299⟩),(313,⟨8,b313⟩),(334,⟨1,b334⟩),(348,⟨2,b348⟩),(362,⟨1,b362⟩),(369,⟨4,b369⟩),(376,⟨2,b376⟩),(383,⟨1,b383⟩),(404,⟨3,b404⟩),(445,⟨2,b445⟩),(465,⟨4,b465⟩),(486,⟨6,b486⟩),(507,⟨4,b507⟩),(528,⟨4,b528⟩),(549,⟨5,b549⟩),(570,⟨4,b570⟩),(577,⟨5,b577⟩),(584,⟨6,b584⟩),(605,⟨3,b605⟩),(626,⟨4,b626⟩),(647,⟨2,b647⟩),(654,⟨4,b654⟩),(675,⟨3,b675⟩),(682,⟨3,b682⟩),(689,⟨3,b689⟩),(696,⟨3,b696⟩),(703,⟨2,b703⟩),(710,⟨2,b710⟩),(717,⟨3,b717⟩),(724,⟨2,b724⟩),(731,⟨3,b731⟩),(745,⟨1,b745⟩),(752,⟨2,b752⟩),(759,⟨1,b759⟩),(766,⟨3,b766⟩),(773,⟨4,b773⟩),(780,⟨3,b780⟩),(787,⟨2,b787⟩),(794,⟨2,b794⟩),(801,⟨3,b801⟩),(808,⟨2,b808⟩),(815,⟨1,b815⟩),(829,⟨3,b829⟩),(843,⟨4,b843⟩),(850,⟨3,b850⟩),(857,⟨1,b857⟩),(864,⟨2,b864⟩),(871,⟨3,b871⟩),(885,⟨3,b885⟩),(892,⟨2,b892⟩),(899,⟨3,b899⟩),(906,⟨2,b906⟩),(920,⟨6,b920⟩),(941,⟨3,b941⟩),(948,⟨3,b948⟩),(955,⟨3,b955⟩),(962,⟨2,b962⟩),(969,⟨2,b969⟩),(976,⟨3,b976⟩),(983,⟨2,b983⟩),(990,⟨3,b990⟩),(997,⟨2,b997⟩),(1009,⟨2,b1009⟩),(1016,⟨2,b1016⟩),(1023,⟨2,b1023⟩),(1030,⟨2,b1030⟩),(1035,⟨2,b1035⟩),(1042,⟨2,b1042⟩),(1049,⟨2,b1049⟩),(1056,⟨3,b1056⟩),(1063,⟨3,b1063⟩),(1070,⟨1,b1070⟩),(1077,⟨2,b1077⟩),(1084,⟨3,b1084⟩),(1091,⟨3,b1091⟩),(1098,⟨3,b1098⟩),(1105,⟨2,b1105⟩),(1112,⟨1,b1112⟩),(1126,⟨4,b1126⟩),(1138,⟨4,b1138⟩),(1145,⟨3,b1145⟩),(1152,⟨3,b1152⟩),(1159,⟨4,b1159⟩),(1173,⟨4,b1173⟩),(1192,⟨5,b1192⟩),(1211,⟨4,b1211⟩),(1218,⟨5,b1218⟩),(1225,⟨6,b1225⟩),(1237,⟨4,b1237⟩),(1251,⟨4,b1251⟩),(1270,⟨4,b1270⟩),(1282,⟨3,b1282⟩),(1289,⟨5,b1289⟩),(1303,⟨4,b1303⟩),(1322,⟨4,b1322⟩),(1334,⟨2,b1334⟩),(1341,⟨2,b1341⟩),(1348,⟨3,b1348⟩),(1355,⟨3,b1355⟩),(1362,⟨2,b1362⟩),(1369,⟨4,b1369⟩),(1376,⟨6,b1376⟩),(1390,⟨4,b1390⟩),(1409,⟨4,b1409⟩),(1421,⟨5,b1421⟩),(1435,⟨4,b1435⟩),(1447,⟨1,b1447⟩),(1485,⟨4,b1485⟩),(1492,⟨1,b1492⟩),(1499,⟨2,b1499⟩),(1506,⟨3,b1506⟩),(1513,⟨1,b1513⟩),(1520,⟨3,b1520⟩),(1527,⟨2,b1527⟩),(1534,⟨3,b1534⟩),(1541,⟨3,b1541⟩),(1548,⟨4,b1548⟩),(1555,⟨2,b1555⟩),(1562,⟨4,b1562⟩),(1569,⟨2,b1569⟩),(1576,⟨3,b1576⟩),(1583,⟨2,b1583⟩),(1590,⟨2,b1590⟩),(1597,⟨2,b1597⟩),(1604,⟨2,b1604⟩),(1611,⟨2,b1611⟩),(1618,⟨4,b1618⟩),(1625,⟨2,b1625⟩),(1632,⟨1,b1632⟩),(1639,⟨2,b1639⟩),(1646,⟨1,b1646⟩),(1653,⟨1,b1653⟩),(1660,⟨1,b1660⟩),(1667,⟨2,b1667⟩),(1674,⟨1,b1674⟩),(1681,⟨1,b1681⟩),(1688,⟨1,b1688⟩),(1695,⟨1,b1695⟩),(1700,⟨3,b1700⟩),(1707,⟨1,b1707⟩),(1714,⟨1,b1714⟩),(1721,⟨1,b1721⟩),(1728,⟨1,b1728⟩)]
noncomputable def funs (f:Addr):Option Fun:=tFun.lookup f
noncomputable def tabs:Tabs:=⟨gl,tMeth,tInit,tPlain,tObj,448⟩
noncomputable abbrev sta (l:Addr) (zs:List Int):Stat:=tabs.stat l zs
theorem unf {S:Stat} {F:Addr→Option Fun} {n:Nat} {f:Addr} {vs:List AV} {Q:Post} {H:AH} {d:Fun} (h:F f=some d) (hl:vs.length=d.params) (k:swps S (wpF S F n) d.body (fun _ x=>Q (.exc x)) (fun _ x=>Q (.exc x)) (args0 vs) (fun _=>Q (.ok .none)) (fun v=>Q (.ok v)) H):wpF S F (n+1) f vs Q H:=by
 have e:wpF S F (n+1) f vs Q H=((match F f with
  |some d=>fun H=>vs.length=d.params∧swps S (wpF S F n) d.body (fun _ x=>Q (.exc x)) (fun _ x=>Q (.exc x)) (args0 vs) (fun _=>Q (.ok .none)) (fun v=>Q (.ok v)) H
  |none=>fun _=>False:AH→Prop) H):=rfl
 rw[e,h]; exact⟨hl,k⟩
noncomputable abbrev pw:Program:=PySem.Challenge.pw_xm0326_01
noncomputable def hsh (P:Params) (x:Str):Int:=if x.cps.isEmpty then 0 else reduceHash (P.strHash x.cps)
noncomputable def ent (P:Params) (x:Str) (t:Nat) (v:Value):DictEntry:=⟨hsh P x,.str x t,v⟩
noncomputable def tup (l:List Value):Obj:=⟨.type "tuple",none,.seq l.toArray 0,#[]⟩
noncomputable def fld (l:List Value):Obj:=⟨.none,none,.fields l.toArray,#[]⟩
noncomputable def nat (n:Nat):Value:=.int n 0
noncomputable def strL:List Str→Nat→List Value
 |[],_=>[]
 |x::r,t=>.str x t::strL r (t+1)
noncomputable def fileS:Str:="/claim/cut.py"
noncomputable def dct (l:List DictEntry) (n:Nat):Obj:=⟨.type "dict",none,.dict l.toArray n,#[]⟩
structure Cl where
 name:Str
 addr:Addr
 mro:List Value
 made:String
noncomputable def bfm (x:String) (v:Value):Obj:=⟨.type "builtin_function_or_method",none,.fields #[.builtin x,v],#[]⟩
structure TS where
 T:BT
 n:Nat
 k:Nat
 g:List DictEntry
 e:Nat
 pl:List Value
 md:Value
 cls:List Cl
 exc:Nat
noncomputable def TS.put (s:TS) (o:Obj):TS:={ s with T:=s.T.ins s.n o,n:=s.n+1 }
noncomputable def TS.puts (s:TS):List Obj→TS
 |[]=>s
 |o::r=>(s.put o).puts r
noncomputable def inl (x:Str):Bool:=x==("default_parts" : Str)||x==("_law_thing" : Str)
noncomputable def fnObjs (a t:Nat) (md:Value) (name qual:Str) (ps:Arguments) (body:List Stmt) (sc:Scope) (line:Nat):List Obj×Nat :=
 let fd:FuncData:={ name,qualname:=qual,params:=ps,body:=.stmts body,scope:=sc,globals:=builtinsNs,closure:=[],defaults:=.none,kwdefaults:=.none }
 let fn (c:Nat):Obj:=⟨.type "function",none,.func { fd with globals:=mainGlobals,builtins:=builtinsNs,pyModule:=md,code:=.ref c },#[]⟩
 let cd (l1 l2 tm:Value) (u:Nat):Obj:=⟨.type "code",none,.fields #[.str name t,.str qual (t+1),.str fileS (t+2),nat line,nat ps.args.length,nat 0,nat 0,nat 3,.ref a,.bool true,nat 181,.ref (a+1),.none,l1,l2,tm,nat u,nat line,.str fileS (u+1)],#[]⟩
 match inl name,(sc.names.filter fun (n,k)=>k==.local||(k==.cell&&(ps.args.map (·.arg)).contains n)).map (·.1) with
 |false,l=>([tup [],fld [],tup (strL l (t+3)),tup [],⟨.none,none,.func fd,#[]⟩,cd (.ref (a+2)) (.ref (a+3)) (.ref (a+4)) (t+3+l.length),fn (a+5)],t+5+l.length)
 |true,_=>([tup [],fld [],⟨.none,none,.func fd,#[]⟩,cd .none .none (.ref (a+2)) (t+3),fn (a+3)],t+5)
noncomputable def setG (g:List DictEntry) (x:Str) (e:DictEntry):List DictEntry:=match x==("__name__" : Str) with
 |true=>(match g with|f::r=>{ f with val:=e.val }::r|[]=>[])
 |false=>g++[e]
noncomputable def TS.bind (P:Params) (s:TS) (x:Str) (v:Value):TS:={ s with k:=s.k+1,g:=setG s.g x (ent P x s.k v),e:=(match x==("__name__" : Str) with|true=>s.e|false=>s.e+1),md:=(match x==("__name__" : Str) with|true=>v|false=>s.md) }
noncomputable def constV (c:Const) (t:Nat):Value×Nat:=match c with
 |.int i=>(.int i t,t+1)
 |.str x=>(.str x t,t+1)
 |_=>(.none,t)
structure Bd where
 a:Nat
 t:Nat
 os:List Obj
 es:List DictEntry
 pl:List Value
noncomputable def defIn (P:Params) (md:Value) (cn:Str) (b:Bd):Stmt→Bd
 |.FunctionDef name ps body _ _ _ sc _ _ pos =>
  let (os,t):=fnObjs b.a b.t md name (cn++("." : Str)++name) ps body sc pos.line
  let f:=b.a+os.length - 1
  ⟨b.a+os.length,t+1,b.os++os,b.es++[ent P name t (.ref f)],b.pl++[nat pos.line,nat pos.col,.ref (f - 1)]⟩
 |_=>b
noncomputable def clsStep (P:Params) (s:TS) (name:Str) (base:Option Str) (body:List Stmt) (statics:List Str) (pos:Pos):TS :=
 let a:=s.n
 let t:=s.k
 let md:=s.md
 let own:Option Cl:=base.bind fun b=>s.cls.find? fun c=>c.name==b
 let made:String:=match base,own with|none,_=>"object.__new__" |some _,some c=>c.made|some _,none=>"Exception.__new__"
 let tail:List Value:=match base,own with|none,_=>[.type "object"]|some _,some c=>c.mro|some _,none=>[.type "Exception",.type "BaseException",.type "object"]
 let bases:List Value:=match base,own with|none,_=>[]|some _,some c=>[.ref c.addr]|some _,none=>[.type "Exception"]
 let b0:Bd:=⟨a+7,t+12,[],[],[]⟩
 let b:=body.foldl (defIn P md name) b0
 let nm:=statics.length
 let m:=b.a
 let C:=m+2
 let t1:=b.t+nm
 let head:List DictEntry:=[ent P "__module__" (t+7) md]
 let ql:List DictEntry:=[ent P "__qualname__" (t+9) (.str name (t+8))]
 let ln:List DictEntry:=[ent P "__firstlineno__" (t+11) (.int pos.line (t+10))]
 let st:List DictEntry:=[ent P "__static_attributes__" t1 (.ref m)]
 let t2:=t1+1
 let gs (x:String) (u:Nat) (f f':Value):Obj:=⟨.type "getset_descriptor",none,.fields #[.str x u,.ref C,f,f'],#[]⟩
 let (des,dob,t3,ep):List DictEntry×List Obj×Nat×Nat:=match base,own with
  |none,_=>([ent P "__dict__" (t2+1) (.ref (C+1)),ent P "__weakref__" (t2+3) (.ref (C+2))],[gs "__dict__" t2 (.builtin "function.__dict__") (.builtin "function.__dict__#set"),gs "__weakref__" (t2+2) (.builtin "ExceptionGroup.__weakref__") .none],t2+4,4)
  |some _,some _=>([],[],t2,2)
  |some _,none=>([ent P "__weakref__" (t2+1) (.ref (C+1))],[gs "__weakref__" t2 (.builtin "ExceptionGroup.__weakref__") .none],t2+2,3)
 let doc:List DictEntry:=[ent P "__doc__" t3 .none]
 let t4:=t3+1
 let t5:=match base,own with|some _,none=>t4+2|_,_=>t4
 let cdo:Obj:=⟨.type "code",none,.fields #[.str name (t+2),.str name (t+3),.str fileS (t+4),nat pos.line,nat 0,nat 0,nat 0,nat 0,.ref (a+3),.bool false,nat 181,.ref (a+4),.none,.none,.none,.none,nat (t+5),nat pos.line,.str fileS (t+6)],#[]⟩
 let mro:List Value:=.ref C::tail
 let co:Obj:=⟨.type "type",none,.cls { name,bases:=(match bases with|[]=>[.type "object"]|_=>bases),mro,ns:=m+1,qualname:=name },#[(match base with|none=>none|some _=>some (.ref a)),none,some (.str name t),some (.str name (t+8)),some (.builtin made),some (.bool true)]⟩
 let l1:List Obj:=[tup bases,bfm "type.__prepare__" (.type "type"),dct (head++ql++ln++b.es++st) (4+b.es.length),tup [],fld b.pl,cdo,
  ⟨.type "frame",none,.plain,#[some (.ref (a+5)),some (.ref 3),some (.ref (a+2)),none,some md,none,some (.ref 0)]⟩]
 let l2:List Obj:=[tup (strL statics b.t),dct (head++ln++b.es++st++des++doc) ep,co]
 let l3:List Obj:=[⟨.type "super",none,.fields #[.ref C,.ref C,.ref C],#[]⟩,bfm "object.__init_subclass__" (.ref C)]
 let s1:TS:=s.puts (l1++b.os++l2++dob++l3)
 let s2:={ s1 with k:=t5+1,pl:=s1.pl++[nat pos.line,nat pos.col,Value.ref (a+5)],cls:=Cl.mk name C mro made::s1.cls }
 let s3:=match base,own with
  |some _,some c=>{ s2 with T:=s2.T.set c.addr (Obj.mapCls fun cd=>{ cd with subclasses:=cd.subclasses++[Value.ref C] }) }
  |some _,none =>
   let kn:Str:="type.__subclasses__.Exception.n"
   let ki:Str:=⟨("type.__subclasses__.Exception." : Str).cps++#[48+s2.exc]⟩
   let n1:DictEntry:=ent P ki t4 (nat C)
   { s2 with exc:=s2.exc+1,T:=s2.T.set 2 fun o=>match o with
    |⟨c,dd,.dict es e,sl⟩=>(match es.toList with
     |[]=>⟨c,dd,.dict [n1,ent P kn (t4+1) (nat 1)].toArray 2,sl⟩
     |x::y::r=>⟨c,dd,.dict (x::{ y with val:=nat (s2.exc+1) }::(r++[n1])).toArray (e+1),sl⟩
     |_=>o)
    |o=>o }
  |none,_=>s2
 s3.bind P name (.ref C)
structure Lt where
 a:Nat
 t:Nat
 os:List Obj
 vs:List Value
mutual
noncomputable def litE (g:List DictEntry) (s:Lt):Expr→Lt
 |.Constant (.int i) _ _=>{ s with t:=s.t+1,vs:=s.vs++[.int i s.t] }
 |.Constant (.str x) _ _=>{ s with t:=s.t+1,vs:=s.vs++[.str x s.t] }
 |.UnaryOp .USub (.Constant (.int i) _ _) _=>{ s with t:=s.t+2,vs:=s.vs++[.int (-i) (s.t+1)] }
 |.Name x _=>{ s with vs:=s.vs++[((g.find? fun e=>e.key.isStr x).map (·.val)).getD .none] }
 |.Tuple es _ _ =>
  let r:=litEs g ⟨s.a,s.t,[],[]⟩ es
  ⟨r.a+1,r.t,s.os++(r.os++[tup r.vs]),s.vs++[.ref r.a]⟩
 |_=>s
noncomputable def litEs (g:List DictEntry) (s:Lt):List Expr→Lt
 |[]=>s
 |e::r=>litEs g (litE g s e) r
end
noncomputable def litKv (g:List DictEntry) (s:Lt):List (Option Expr)→List Expr→Lt
 |some k::r,v::vs=>litKv g (litE g (litE g s k) v) r vs
 |_,_=>s
noncomputable def pairs:List Value→List DictEntry
 |.int i t::v::r=>⟨i,.int i t,v⟩::pairs r
 |_=>[]
noncomputable def topStep (P:Params) (s:TS):Stmt→TS
 |.Assign [.Name x _] (.Constant c _ _) _=>let (v,t):=constV c s.k; ({ s with k:=t }:TS).bind P x v
 |.Assign [.Name x _] (.Tuple es q c) _ =>
  let r:=litE s.g ⟨s.n,s.k,[],[]⟩ (.Tuple es q c)
  let s1:=s.puts r.os
  ({ s1 with k:=r.t }:TS).bind P x (.ref (r.a - 1))
 |.Assign [.Name x _] (.Dict ks vs _) _ =>
  let r:=litKv s.g ⟨s.n+1,s.k,[],[]⟩ ks vs
  let es:=pairs r.vs
  let s1:=s.puts (dct es es.length::r.os)
  ({ s1 with k:=r.t+es.length }:TS).bind P x (.ref s.n)
 |.FunctionDef name ps body _ _ _ sc _ _ pos =>
  let (os,t):=fnObjs s.n s.k s.md name name ps body sc pos.line
  let s1:=s.puts os
  ({ s1 with k:=t,pl:=s1.pl++[nat pos.line,nat pos.col,.ref (s1.n - 2)] }:TS).bind P name (.ref (s1.n - 1))
 |.ClassDef name bases _ body _ _ _ _ _ statics pos=>clsStep P s name (match bases with|[.Name b _]=>some b|_=>none) body statics pos
 |_=>s
noncomputable def endPos:Stmt→Pos
 |.FunctionDef _ _ _ _ _ _ _ _ _ q=>q
 |.ClassDef _ _ _ _ _ _ _ _ _ _ q=>q
 |.Assign (e::_) _ _=>e.pos
 |_=>default
noncomputable def entsOf (o:Obj):List DictEntry:=match o.data with|.dict es _=>es.toList|_=>[]
noncomputable def TS.out (s:TS) (os:OsState):SharedT:=⟨(s.T.set 3 fun o=>{ o with data:=.dict s.g.toArray s.e }).set 12 fun _=>fld s.pl,s.n,{},#[],boot_drawn,s.k,os⟩
noncomputable def st (s:String) (t:Nat):Value:=.str (Str.ofString s) t
noncomputable def insAll:List Obj→Nat→BT→BT
 |[],_,t=>t
 |o::r,n,t=>insAll r (n+1) (t.ins n o)
noncomputable def o13:Obj:=⟨.type "code",none,.fields #[st "<module>" 182,st "<module>" 183,st "/claim/cut.py" 184,.int 1 0,.int 0 0,.int 0 0,.int 0 0,.int 0 0,.ref 11,.bool false,.int 181 0,.ref 12,.none,.none,.none,.none,.int 185 0,.int 1 0,st "/claim/cut.py" 186],#[]⟩
noncomputable def o14:Obj:=⟨.type "frame",none,.plain,#[some (.ref 13),some (.ref 3),some (.ref 3),none,some (st "__main__" 164),none,some (.ref 0)]⟩
noncomputable def bt0 (P:Params):BT:=insAll [boot_o_0 P,boot_o_1 P,boot_o_2 P,boot_o_3 P,boot_o_4 P,boot_o_5 P,boot_o_6 P,boot_o_7 P,boot_o_8 P,boot_o_9 P,boot_o_10 P,tup [],fld [],o13,o14] 0 .nil
noncomputable def ts0 (P:Params):TS:=⟨bt0 P,15,187,entsOf (boot_o_3 P),9,[],st "__main__" 164,[],0⟩
noncomputable def env:Env:={ scope:=pw.main.scope,locals:=mainNs,globals:=mainNs,cells:=[],code:=.ref 13,frame:=some 14 }
noncomputable def cd:Code:=.body pw.main.body env
noncomputable def pos0:Pos:=default
noncomputable abbrev B:List Frame:=[topFrame pos0]
noncomputable abbrev S0:=ts0
noncomputable abbrev tw_seg:=PySem.W.Fast.tw10110043849684766642 PySem.W.Fast.tw14364793385576792824
noncomputable def S1 (P:Params):TS:={ ((pw.main.body.drop 0).take 39).foldl (topStep P) (S0 P) with n:=90,k:=355 }
theorem g0 (w:World) (os:OsState):tw_seg pw w 11 (some (.ref 6)) 1 1409 ((S0 w.params).out os) (piecesOf ((pw.main.body.drop 0).take 39) env cd ⟨0,0,0,0⟩ B)=some (.next,(S1 w.params).out os,cd,⟨49,0,49,13⟩):=by kernel_rfl
noncomputable def S2 (P:Params):TS:={ ((pw.main.body.drop 39).take 1).foldl (topStep P) (S1 P) with n:=91,k:=384 }
theorem g1f (w:World) (os:OsState):tw_seg pw (w.withFollow "special-get-raises" false) 11 (some (.ref 6)) 1 207 ((S1 ((w.withFollow "special-get-raises" false)).params).out os) (piecesOf ((pw.main.body.drop 39).take 1) env cd ⟨49,0,49,13⟩ B)=some (.next,(S2 ((w.withFollow "special-get-raises" false)).params).out os,cd,⟨50,0,50,8⟩):=by kernel_rfl
theorem g1t (w:World) (os:OsState):tw_seg pw (w.withFollow "special-get-raises" true) 11 (some (.ref 6)) 1 207 ((S1 ((w.withFollow "special-get-raises" true)).params).out os) (piecesOf ((pw.main.body.drop 39).take 1) env cd ⟨49,0,49,13⟩ B)=some (.next,(S2 ((w.withFollow "special-get-raises" true)).params).out os,cd,⟨50,0,50,8⟩):=by kernel_rfl
theorem g1 (w:World) (os:OsState):tw_seg pw w 11 (some (.ref 6)) 1 207 ((S1 w.params).out os) (piecesOf ((pw.main.body.drop 39).take 1) env cd ⟨49,0,49,13⟩ B)=some (.next,(S2 w.params).out os,cd,⟨50,0,50,8⟩):=byRow2 "special-get-raises" (P:=fun w=>tw_seg pw w 11 (some (.ref 6)) 1 207 ((S1 w.params).out os) (piecesOf ((pw.main.body.drop 39).take 1) env cd ⟨49,0,49,13⟩ B)=some (.next,(S2 w.params).out os,cd,⟨50,0,50,8⟩)) (fun w=>g1f w os) (fun w=>g1t w os) w
noncomputable def S3 (P:Params):TS:={ ((pw.main.body.drop 40).take 1).foldl (topStep P) (S2 P) with n:=92,k:=413 }
theorem g2f (w:World) (os:OsState):tw_seg pw (w.withFollow "special-get-raises" false) 11 (some (.ref 6)) 1 207 ((S2 ((w.withFollow "special-get-raises" false)).params).out os) (piecesOf ((pw.main.body.drop 40).take 1) env cd ⟨50,0,50,8⟩ B)=some (.next,(S3 ((w.withFollow "special-get-raises" false)).params).out os,cd,⟨51,0,51,8⟩):=by kernel_rfl
theorem g2t (w:World) (os:OsState):tw_seg pw (w.withFollow "special-get-raises" true) 11 (some (.ref 6)) 1 207 ((S2 ((w.withFollow "special-get-raises" true)).params).out os) (piecesOf ((pw.main.body.drop 40).take 1) env cd ⟨50,0,50,8⟩ B)=some (.next,(S3 ((w.withFollow "special-get-raises" true)).params).out os,cd,⟨51,0,51,8⟩):=by kernel_rfl
theorem g2 (w:World) (os:OsState):tw_seg pw w 11 (some (.ref 6)) 1 207 ((S2 w.params).out os) (piecesOf ((pw.main.body.drop 40).take 1) env cd ⟨50,0,50,8⟩ B)=some (.next,(S3 w.params).out os,cd,⟨51,0,51,8⟩):=byRow2 "special-get-raises" (P:=fun w=>tw_seg pw w 11 (some (.ref 6)) 1 207 ((S2 w.params).out os) (piecesOf ((pw.main.body.drop 40).take 1) env cd ⟨50,0,50,8⟩ B)=some (.next,(S3 w.params).out os,cd,⟨51,0,51,8⟩)) (fun w=>g2f w os) (fun w=>g2t w os) w
noncomputable def S4 (P:Params):TS:={ ((pw.main.body.drop 41).take 2).foldl (topStep P) (S3 P) with n:=92,k:=417 }
theorem g3 (w:World) (os:OsState):tw_seg pw w 11 (some (.ref 6)) 1 19 ((S3 w.params).out os) (piecesOf ((pw.main.body.drop 41).take 2) env cd ⟨51,0,51,8⟩ B)=some (.next,(S4 w.params).out os,cd,⟨53,0,53,12⟩):=by kernel_rfl
noncomputable def S5 (P:Params):TS:={ ((pw.main.body.drop 43).take 1).foldl (topStep P) (S4 P) with n:=104,k:=456 }
theorem g4f (w:World) (os:OsState):tw_seg pw (w.withFollow "special-get-raises" false) 11 (some (.ref 6)) 1 223 ((S4 ((w.withFollow "special-get-raises" false)).params).out os) (piecesOf ((pw.main.body.drop 43).take 1) env cd ⟨53,0,53,12⟩ B)=some (.next,(S5 ((w.withFollow "special-get-raises" false)).params).out os,cd,⟨54,0,54,10⟩):=by kernel_rfl
theorem g4t (w:World) (os:OsState):tw_seg pw (w.withFollow "special-get-raises" true) 11 (some (.ref 6)) 1 223 ((S4 ((w.withFollow "special-get-raises" true)).params).out os) (piecesOf ((pw.main.body.drop 43).take 1) env cd ⟨53,0,53,12⟩ B)=some (.next,(S5 ((w.withFollow "special-get-raises" true)).params).out os,cd,⟨54,0,54,10⟩):=by kernel_rfl
theorem g4 (w:World) (os:OsState):tw_seg pw w 11 (some (.ref 6)) 1 223 ((S4 w.params).out os) (piecesOf ((pw.main.body.drop 43).take 1) env cd ⟨53,0,53,12⟩ B)=some (.next,(S5 w.params).out os,cd,⟨54,0,54,10⟩):=byRow2 "special-get-raises" (P:=fun w=>tw_seg pw w 11 (some (.ref 6)) 1 223 ((S4 w.params).out os) (piecesOf ((pw.main.body.drop 43).take 1) env cd ⟨53,0,53,12⟩ B)=some (.next,(S5 w.params).out os,cd,⟨54,0,54,10⟩)) (fun w=>g4f w os) (fun w=>g4t w os) w
noncomputable def S6 (P:Params):TS:={ ((pw.main.body.drop 44).take 39).foldl (topStep P) (S5 P) with n:=342,k:=828 }
theorem g5 (w:World) (os:OsState):tw_seg pw w 11 (some (.ref 6)) 1 1597 ((S5 w.params).out os) (piecesOf ((pw.main.body.drop 44).take 39) env cd ⟨54,0,54,10⟩ B)=some (.next,(S6 w.params).out os,cd,⟨285,0,294,22⟩):=by kernel_rfl
noncomputable def S7 (P:Params):TS:={ ((pw.main.body.drop 83).take 29).foldl (topStep P) (S6 P) with n:=473,k:=1073 }
theorem g6 (w:World) (os:OsState):tw_seg pw w 11 (some (.ref 6)) 1 1478 ((S6 w.params).out os) (piecesOf ((pw.main.body.drop 83).take 29) env cd ⟨285,0,294,22⟩ B)=some (.next,(S7 w.params).out os,cd,⟨358,0,367,27⟩):=by kernel_rfl
noncomputable def S8 (P:Params):TS:={ ((pw.main.body.drop 112).take 6).foldl (topStep P) (S7 P) with n:=613,k:=1291 }
theorem g7 (w:World) (os:OsState):tw_seg pw w 11 (some (.ref 6)) 1 1425 ((S7 w.params).out os) (piecesOf ((pw.main.body.drop 112).take 6) env cd ⟨358,0,367,27⟩ B)=some (.next,(S8 w.params).out os,cd,⟨405,0,408,19⟩):=by kernel_rfl
noncomputable def S9 (P:Params):TS:={ ((pw.main.body.drop 118).take 22).foldl (topStep P) (S8 P) with n:=872,k:=1663 }
theorem g8 (w:World) (os:OsState):tw_seg pw w 11 (some (.ref 6)) 1 1586 ((S8 w.params).out os) (piecesOf ((pw.main.body.drop 118).take 22) env cd ⟨405,0,408,19⟩ B)=some (.next,(S9 w.params).out os,cd,⟨562,0,572,13⟩):=by kernel_rfl
noncomputable def S10 (P:Params):TS:={ ((pw.main.body.drop 140).take 35).foldl (topStep P) (S9 P) with n:=1113,k:=2056 }
theorem g9 (w:World) (os:OsState):tw_seg pw w 11 (some (.ref 6)) 1 1543 ((S9 w.params).out os) (piecesOf ((pw.main.body.drop 140).take 35) env cd ⟨562,0,572,13⟩ B)=some (.next,(S10 w.params).out os,cd,⟨793,0,794,39⟩):=by kernel_rfl
noncomputable def S11 (P:Params):TS:={ ((pw.main.body.drop 175).take 10).foldl (topStep P) (S10 P) with n:=1257,k:=2273 }
theorem g10 (w:World) (os:OsState):tw_seg pw w 11 (some (.ref 6)) 1 1476 ((S10 w.params).out os) (piecesOf ((pw.main.body.drop 175).take 10) env cd ⟨793,0,794,39⟩ B)=some (.next,(S11 w.params).out os,cd,⟨855,0,861,40⟩):=by kernel_rfl
noncomputable def S12 (P:Params):TS:={ ((pw.main.body.drop 185).take 20).foldl (topStep P) (S11 P) with n:=1415,k:=2521 }
theorem g11 (w:World) (os:OsState):tw_seg pw w 11 (some (.ref 6)) 1 1589 ((S11 w.params).out os) (piecesOf ((pw.main.body.drop 185).take 20) env cd ⟨855,0,861,40⟩ B)=some (.next,(S12 w.params).out os,cd,⟨958,0,967,16⟩):=by kernel_rfl
noncomputable def S13 (P:Params):TS:={ ((pw.main.body.drop 205).take 41).foldl (topStep P) (S12 P) with n:=1708,k:=3000 }
theorem g12 (w:World) (os:OsState):tw_seg pw w 11 (some (.ref 6)) 1 1593 ((S12 w.params).out os) (piecesOf ((pw.main.body.drop 205).take 41) env cd ⟨958,0,967,16⟩ B)=some (.next,(S13 w.params).out os,cd,⟨1266,0,1296,12⟩):=by kernel_rfl
noncomputable def S14 (P:Params):TS:={ ((pw.main.body.drop 246).take 3).foldl (topStep P) (S13 P) with n:=1729,k:=3030 }
theorem g13 (w:World) (os:OsState):tw_seg pw w 11 (some (.ref 6)) 1 97 ((S13 w.params).out os) (piecesOf ((pw.main.body.drop 246).take 3) env cd ⟨1266,0,1296,12⟩ B)=some (.next,(S14 w.params).out os,cd,⟨1323,0,1333,26⟩):=by kernel_rfl
theorem seg_eq:segRunT treeTable=tw_seg:=by
 have h1:@segRunT = @PySem.W.Fast.tw10110043849684766642:=PySem.W.Fast.te10110043849684766642;have h2:treeTable=PySem.W.Fast.tw14364793385576792824:=PySem.W.Fast.te14364793385576792824;rw[h1,h2]
theorem tg_eq:@topGo = @PySem.W.Fast.tw15667345088766844465:=PySem.W.Fast.te15667345088766844465
theorem pre_run (w:World) (os:OsState):topGo treeTable pw w 11 (some (.ref 6)) 12 ⟨boot_heap w.params,#[],boot_drawn,boot_toks,os⟩ (topStub pw)=some ((((S0 w.params).out os).abs),⟨denote treeTable cd,cd,pos0,B⟩):=by
 kernel_rfl
theorem block_run (w:World) (os:OsState):segRun treeTable pw w 11 (some (.ref 6)) 1 1 ((S0 w.params).out os).abs (blockOf pw.main.body env cd pos0 B)=some (.next,((S0 w.params).out os).abs,cd,pos0):=by
 kernel_rfl
theorem opens:opening pw=plainProg pw.main.scope.names:=by kernel_rfl
theorem fences (s:Shared):fenceModules? pw s=some s:=by kernel_rfl
theorem open_all (N:Nat) (hN:Nat.ble 600 N=true):∀w:World,(fencedOpening treeTable pw w N).map (fun s=>(s.heap,s.gens,s.drawn,s.toks))=some (boot_heap w.params,#[],boot_drawn,boot_toks):=boot_open opens hN fences
theorem size_all (w:World):((boot_heap w.params).isNs mainGlobals&&(#[]:Array GenState).size==0,(boot_heap w.params).objs.size,(boot_heap w.params).nsMap mainGlobals "__annotations__")=(true,11,some (.ref 6)):=by kernel_rfl
theorem behind:behindTheImports pw=pw.main.body:=by kernel_rfl
theorem step_run {a k N M:Nat} {S S':SharedT} {p p':Pos} {r:Shared} {w:World}
 (g:segRunT treeTable pw w 11 (some (.ref 6)) 1 N S (piecesOf ((pw.main.body.drop a).take k) env cd p B)=some (.next,S',cd,p'))
 (k':topRun treeTable pw w 11 (some (.ref 6)) M S'.abs (restOf (pw.main.body.drop (a+k)) env cd p' B)=some r) :
 topRun treeTable pw w 11 (some (.ref 6)) (N+M) S.abs (restOf (pw.main.body.drop a) env cd p B)=some r:=by
 have e:(pw.main.body.drop a).take k++pw.main.body.drop (a+k)=pw.main.body.drop a:=by rw[←List.drop_drop,List.take_append_drop]
 rw[←e];exact piece_app (segRun_of g) k'
theorem r14 (w:World) (os:OsState):topRun treeTable pw w 11 (some (.ref 6)) 2 ((S14 w.params).out os).abs (restOf (pw.main.body.drop 249) env cd ⟨1323,0,1333,26⟩ B)=some ((S14 w.params).out os).abs:=by kernel_rfl
theorem r13 (w:World) (os:OsState):topRun treeTable pw w 11 (some (.ref 6)) 99 ((S13 w.params).out os).abs (restOf (pw.main.body.drop 246) env cd ⟨1266,0,1296,12⟩ B)=some ((S14 w.params).out os).abs:=step_run (a:=246) (k:=3) (N:=97) (M:=2) (congrFun (congrFun seg_eq _) _▸g13 w os) (r14 w os)
theorem r12 (w:World) (os:OsState):topRun treeTable pw w 11 (some (.ref 6)) 1692 ((S12 w.params).out os).abs (restOf (pw.main.body.drop 205) env cd ⟨958,0,967,16⟩ B)=some ((S14 w.params).out os).abs:=step_run (a:=205) (k:=41) (N:=1593) (M:=99) (congrFun (congrFun seg_eq _) _▸g12 w os) (r13 w os)
theorem r11 (w:World) (os:OsState):topRun treeTable pw w 11 (some (.ref 6)) 3281 ((S11 w.params).out os).abs (restOf (pw.main.body.drop 185) env cd ⟨855,0,861,40⟩ B)=some ((S14 w.params).out os).abs:=step_run (a:=185) (k:=20) (N:=1589) (M:=1692) (congrFun (congrFun seg_eq _) _▸g11 w os) (r12 w os)
theorem r10 (w:World) (os:OsState):topRun treeTable pw w 11 (some (.ref 6)) 4757 ((S10 w.params).out os).abs (restOf (pw.main.body.drop 175) env cd ⟨793,0,794,39⟩ B)=some ((S14 w.params).out os).abs:=step_run (a:=175) (k:=10) (N:=1476) (M:=3281) (congrFun (congrFun seg_eq _) _▸g10 w os) (r11 w os)
theorem r9 (w:World) (os:OsState):topRun treeTable pw w 11 (some (.ref 6)) 6300 ((S9 w.params).out os).abs (restOf (pw.main.body.drop 140) env cd ⟨562,0,572,13⟩ B)=some ((S14 w.params).out os).abs:=step_run (a:=140) (k:=35) (N:=1543) (M:=4757) (congrFun (congrFun seg_eq _) _▸g9 w os) (r10 w os)
theorem r8 (w:World) (os:OsState):topRun treeTable pw w 11 (some (.ref 6)) 7886 ((S8 w.params).out os).abs (restOf (pw.main.body.drop 118) env cd ⟨405,0,408,19⟩ B)=some ((S14 w.params).out os).abs:=step_run (a:=118) (k:=22) (N:=1586) (M:=6300) (congrFun (congrFun seg_eq _) _▸g8 w os) (r9 w os)
theorem r7 (w:World) (os:OsState):topRun treeTable pw w 11 (some (.ref 6)) 9311 ((S7 w.params).out os).abs (restOf (pw.main.body.drop 112) env cd ⟨358,0,367,27⟩ B)=some ((S14 w.params).out os).abs:=step_run (a:=112) (k:=6) (N:=1425) (M:=7886) (congrFun (congrFun seg_eq _) _▸g7 w os) (r8 w os)
theorem r6 (w:World) (os:OsState):topRun treeTable pw w 11 (some (.ref 6)) 10789 ((S6 w.params).out os).abs (restOf (pw.main.body.drop 83) env cd ⟨285,0,294,22⟩ B)=some ((S14 w.params).out os).abs:=step_run (a:=83) (k:=29) (N:=1478) (M:=9311) (congrFun (congrFun seg_eq _) _▸g6 w os) (r7 w os)
theorem r5 (w:World) (os:OsState):topRun treeTable pw w 11 (some (.ref 6)) 12386 ((S5 w.params).out os).abs (restOf (pw.main.body.drop 44) env cd ⟨54,0,54,10⟩ B)=some ((S14 w.params).out os).abs:=step_run (a:=44) (k:=39) (N:=1597) (M:=10789) (congrFun (congrFun seg_eq _) _▸g5 w os) (r6 w os)
theorem r4 (w:World) (os:OsState):topRun treeTable pw w 11 (some (.ref 6)) 12609 ((S4 w.params).out os).abs (restOf (pw.main.body.drop 43) env cd ⟨53,0,53,12⟩ B)=some ((S14 w.params).out os).abs:=step_run (a:=43) (k:=1) (N:=223) (M:=12386) (congrFun (congrFun seg_eq _) _▸g4 w os) (r5 w os)
theorem r3 (w:World) (os:OsState):topRun treeTable pw w 11 (some (.ref 6)) 12628 ((S3 w.params).out os).abs (restOf (pw.main.body.drop 41) env cd ⟨51,0,51,8⟩ B)=some ((S14 w.params).out os).abs:=step_run (a:=41) (k:=2) (N:=19) (M:=12609) (congrFun (congrFun seg_eq _) _▸g3 w os) (r4 w os)
theorem r2 (w:World) (os:OsState):topRun treeTable pw w 11 (some (.ref 6)) 12835 ((S2 w.params).out os).abs (restOf (pw.main.body.drop 40) env cd ⟨50,0,50,8⟩ B)=some ((S14 w.params).out os).abs:=step_run (a:=40) (k:=1) (N:=207) (M:=12628) (congrFun (congrFun seg_eq _) _▸g2 w os) (r3 w os)
theorem r1 (w:World) (os:OsState):topRun treeTable pw w 11 (some (.ref 6)) 13042 ((S1 w.params).out os).abs (restOf (pw.main.body.drop 39) env cd ⟨49,0,49,13⟩ B)=some ((S14 w.params).out os).abs:=step_run (a:=39) (k:=1) (N:=207) (M:=12835) (congrFun (congrFun seg_eq _) _▸g1 w os) (r2 w os)
theorem r0 (w:World) (os:OsState):topRun treeTable pw w 11 (some (.ref 6)) 14451 ((S0 w.params).out os).abs (restOf (pw.main.body.drop 0) env cd ⟨0,0,0,0⟩ B)=some ((S14 w.params).out os).abs:=step_run (a:=0) (k:=39) (N:=1409) (M:=13042) (congrFun (congrFun seg_eq _) _▸g0 w os) (r1 w os)
-- M 14451
noncomputable def Tf (P:Params):BT:=((S14 P).T.set 3 fun o=>{ o with data:=.dict (S14 P).g.toArray (S14 P).e }).set 12 fun _=>fld (S14 P).pl
noncomputable def Hf (P:Params):Heap:=absHeap (Tf P) 1729 {}
theorem k_end (P:Params):(S14 P).k=3030:=by kernel_rfl
theorem n_end (P:Params):(S14 P).n=1729:=by kernel_rfl
theorem s_end (P:Params) (os:OsState):((S14 P).out os).abs=⟨Hf P,#[],boot_drawn,3030,os⟩:=by
 unfold TS.out SharedT.abs Hf Tf;rw[k_end,n_end]
theorem run_all (w:World) (os:OsState):topRun treeTable pw w 11 (some (.ref 6)) 14464 ⟨boot_heap w.params,#[],boot_drawn,boot_toks,os⟩ (topStub pw)=some ⟨Hf w.params,#[],boot_drawn,3030,os⟩:=by
 rw[←s_end];exact go_top (n:=12) (N:=14452) (pre_run w os) (piece_block (n:=1) (N:=14451) (block_run w os) (r0 w os))
noncomputable def lawStmt:List Stmt:=pw.main.body.drop 248
noncomputable def qv:Program:={ pw with main:={ pw.main with body:=lawStmt } }
noncomputable def looseN:List Str:=(pw.main.body.take 248).flatMap fun s=>match s with
 |.FunctionDef n _ _ _ _ _ _ _ _ _=>[n]|.ClassDef n _ _ _ _ _ _ _ _ _ _=>[n]|.Assign [.Name n _] _ _=>[n]|_=>[]
noncomputable abbrev sf (P:Params) (os:OsState):Shared:=⟨Hf P,#[],boot_drawn,3030,os⟩
theorem imp_none:importedModules pw.main.body=[]:=by kernel_rfl
theorem looksA (P:Params) (os:OsState):(namesBound pw (Hf P),laidKept (boot_heap P) (Hf P),staticsOk [] (boot_heap P) (Hf P),(sf P os).heap.bltView,tabsOk qv (sf P os),pinSeenD qv (drecsOf qv) (sf P os),plainSeenE qv (looseW qv looseN) (sf P os),plainSeenD qv looseN (sf P os),clsSeenW qv looseN (sf P os),(sf P os).heap.isNs builtinsNs,(sf P os).heap.isNs mainGlobals,(sf P os).heap.accountedOkI [],tablesOk qv (sf P os).heap,(sf P os).heap.keysOk (looseW qv looseN) ((recsOf qv).map (·.name)) ((litsOf qv).map (·.1)) ((clssOf qv (looseW qv looseN)).map (·.name)),wideSeen qv (sf P os),seen ((recsOf qv).map (·.name)) (ownsOf qv) [] { sf P os with gens:=#[] }) =
 (true,true,true,bltViewBooted,true,pinGoodD (drecsOf qv),plainGoodE qv (looseW qv looseN),plainGoodD qv looseN,clsGoodW qv looseN,true,true,true,true,true,wideGood qv,expectedOf qv):=by
 unfold namesBound Heap.keysOk; rw[show @PySem.instDecidableEqStr=PySem.W.Fast.sDec from PySem.W.Fast.sDec_eq,show @Program.boundNames = @PySem.W.Fast.tw18344453789297297638 from PySem.W.Fast.te18344453789297297638,show @looseW = @PySem.W.Fast.tw821141287760084731 from PySem.W.Fast.te821141287760084731,show @wideSeen = @PySem.W.Fast.tw7317090234206586261 from PySem.W.Fast.te7317090234206586261,show @seen = @PySem.W.Fast.tw5160383126252970620 from PySem.W.Fast.te5160383126252970620]; kernel_rfl
theorem seen_all (P:Params) (os:OsState):openSeen qv looseN [] (fun _=>true) true (sf P os)=openGood qv looseN:=by
 have h:=looksA P os;simp only[Prod.mk.injEq] at h;obtain⟨_,_,_,a2,a4,a5,a6,a7,a9,b1,b2,b3,b4,b5,a8,a1⟩:=h;unfold openSeen openGood;rw[a1,a2,b5,b3,b2,b1,b4,a4,a5,a6,a7,a8,a9];rfl
theorem looks3 (P:Params) (os:OsState):(staticsOk [] (boot_heap P) (Hf P)&&namesBound pw (Hf P)&&gensDone (sf P os)&&laidKept (boot_heap P) (Hf P))=true:=by
 have h:=looksA P os;simp only[Prod.mk.injEq] at h;obtain⟨a1,a2,a3,_⟩:=h;rw[a1,a2,a3]; rfl
theorem left:LeftO pw qv looseN (fun _=>true) (fun s=>s.heap) (fun w=>Hf w.params) 20000 :=
 LeftO.of_pieces (open_all 20000 rfl) size_all run_all rfl fun w=>funext fun os=>by
  rw[imp_none];exact Prod.ext (looks3 w.params os) (Prod.ext (seen_all w.params os) rfl)
noncomputable abbrev rowL:OpenRow:=PySem.Challenge.rw_xm0326_01.row
theorem tablesP:pw.tablesWhole=true:=by
 unfold Program.tablesWhole TablesWhole.wProgram TablesWhole.holds; rw[show @TablesWhole.wModule = @PySem.W.Fast.tw6116379765354995101 from PySem.W.Fast.te6116379765354995101,show @Scope.bears = @PySem.W.Fast.tw15985051520779696433 from PySem.W.Fast.te15985051520779696433]; kernel_rfl
theorem bareP:Program.bare pw:=⟨rfl,rfl,rfl,rfl,rfl,tablesP⟩
theorem okP:(chainsOk qv&&opensWell pw&&(frees rowL.toRowW&&rowL.toRowW.within.isEmpty))=true:=by kernel_rfl
noncomputable def lawD:DefRec:=match lawStmt with
 |[.FunctionDef name a b _ _ _ sc _ _ pos]=>⟨name,a,b,sc,pos⟩
 |_=>⟨⟨#[]⟩,⟨[],[],none,[],[],none,[]⟩,[],pw.main.scope,pos0⟩
theorem def1:defOf qv rowL.name=some (lawD,[]):=by kernel_rfl
theorem def2:rowL.prog.theDef rowL.name=some (lawD.params,lawD.body,lawD.scope):=by kernel_rfl
theorem def3:kwWritten? lawD.params.kwonlyargs lawD.params.kw_defaults=some []:=by kernel_rfl
noncomputable def KF (P:Params):Frag:=kl.map fun a=>(a,((Tf P).get a).getD default)
theorem look_map {f:Addr→Obj} {a:Addr} {o:Obj}:∀{l:List Addr},(l.map fun a=>(a,f a)).lookup a=some o→a∈l∧o=f a
 |[],h=>by cases h
 |b::r,h=>by
  rw[List.map_cons,List.lookup_cons] at h;split at h
  ·rename_i e
   cases h;have:a=b:=by simpa using e
   subst this; exact⟨.head _,rfl⟩
  ·obtain⟨h1,h2⟩:=look_map h;exact⟨.tail _ h1,h2⟩
theorem kf_there (P:Params):(kl.all fun a=>decide (a<1729)&&(match (Tf P).get a with|some o=>!o.isFreed|none=>false))=true:=by kernel_rfl
theorem kf_in (P:Params):(KF P).In (Hf P):=fun a o e=>by
 obtain⟨h1,h2⟩:=look_map e;have:=List.all_eq_true.mp (kf_there P) a h1;rw[Bool.and_eq_true,decide_eq_true_eq] at this;obtain⟨h3,h4⟩:=this;split at h4
 ·rename_i o' ho
  rw[ho] at h2;simp only[Option.getD_some] at h2;subst h2;unfold Hf;rw[abs_get h3 ho];obtain⟨c,d,dt,sl⟩:=o;cases dt<;>first|rfl|(simp[Obj.isFreed] at h4)
 ·cases h4
theorem kf_obj (P:Params):objB tabs (KF P)=true:=by kernel_rfl
theorem kf_vals (P:Params):valsB tabs (KF P)=true:=by kernel_rfl
theorem kf_free (P:Params):freeB (KF P)=true:=by kernel_rfl
theorem kf_exc (P:Params):(keepIn (KF P) (.ref 448)&&(clsW (KF P) 448 445).isSome&&(iniW (KF P) 445).isSome)=true:=by kernel_rfl
theorem kf_init (P:Params):initB tabs (KF P)=true:=by kernel_rfl
theorem kf_defs (P:Params):defsB tabs (KF P)=true:=by kernel_rfl
theorem kf_meth (P:Params):methB tabs (KF P)=true:=by kernel_rfl
theorem kf_comp (P:Params):tFun.map (fun p=>(defW gl (KF P) p.1 p.2.params).map (·.1))=tFun.map (fun p=>some p.2.body):=by kernel_rfl
theorem kf_plain (P:Params):plainB tabs (KF P)=true:=by kernel_rfl
end Mine.Internal
end
section
open PySem PySem.W PyProof.Rows PySem.Calls PySem.Spec PySem.SeqAt
namespace Mine.Internal
section
variable {prog:Program} {w:World} {base:Heap} {mg mb:Str→Option Value} {P:Params}
theorem fun_ok (X:(KF P).In base):∀f d,funs f=some d→∃fd body,DefOk gl base f fd body d∧SAs gl (tabOf 0 fd.scope.names) body d.body:=fun f d h=>by
 have hm:=mem_of_look h;have h2:=List.map_inj_left.mp (kf_comp P) (f,d) hm;obtain⟨⟨m,q⟩,_,e⟩:=Option.map_eq_some_iff.mp h2;dsimp only at e;subst e;exact q.k _ X
theorem cls_keep (P:Params):∀x C,gl.clss.lookup x=some C→keepIn (KF P) (.ref C)=true:=fun x C h=>by
 have:=kf_defs P;unfold defsB at this;simp only[Bool.and_eq_true,List.all_eq_true] at this;exact (this.2 _ (mem_of_look h)).2
theorem ground_ok (X:(KF P).In base) (g:base.Ns mainGlobals mg) (b:base.Ns builtinsNs mb) (lim:base.NoLimit) (bb:∀x:Str,x≠"__name__"→mb x=bootBuiltins x) (hs:base.get? sysModules≠none)
 {l:Addr} {zs:List Int} (hl:l≠sysModules) (ho:OR prog w (fun _=>0) (fun _=>False) base (.list (zs.map .int)) l):Ground0 prog w gl (sta l zs) (KF P) base :=
 ground tabs X g b lim bb hs hl ho (kf_obj P) (kf_meth P) (kf_init P) (kf_plain P) (kf_defs P) (kf_vals P) (kf_free P)
theorem exc_fine (X:(KF P).In base):∃fI fd,ExcOk gl (KF P) base 448 fI fd:=by
 have h:=kf_exc P;simp only[Bool.and_eq_true] at h;obtain⟨fd,e⟩:=exc_ok X h.1.1 h.1.2 h.2;exact⟨445,fd,e⟩
theorem law_call (X:(KF P).In base) (g:base.Ns mainGlobals mg) (b:base.Ns builtinsNs mb) (lim:base.NoLimit) (bb:∀x:Str,x≠"__name__"→mb x=bootBuiltins x) (hs:base.get? sysModules≠none)
 {l:Addr} {zs:List Int} (hl:l≠sysModules) (ho:OR prog w (fun _=>0) (fun _=>False) base (.list (zs.map .int)) l) {f:Addr} {n:Nat} {s:Shared} {A:Around} (hA:A.frames=some []) (hh:A.handled=none) (hr:Room n A) (hb:s.heap=base)
 (h:wpF (sta l zs) funs n f [.glob l] (fun r _=>r = .ok (.bool true)) (fun _=>none)) {R:Result→Shared→Prop} (q:∀s',(∀b o,s.heap.get? b=some o→s'.heap.get? b=some o)→s'.gens=s.gens→s'.os=s.os→R (.ok (.ret (.bool true))) s') :
 codeAny (model prog w) A (.call (.ref f) ⟨[.ref l],[]⟩) R s:=by
 obtain⟨fI,fd,ex⟩:=exc_fine X;have G:=ground_ok (prog:=prog) (w:=w) X g b lim bb hs hl ho;refine wpF_ok G ex (cls_keep P) (fun_ok X) n A [] hA hh hr f [.glob l] _ (fun _=>0) (fun _=>none) s [.ref l] R ⟨fun a b ha=>absurd rfl ha,fun a o ha=>(by cases ha),fun a ha=>absurd rfl ha,fun a ha=>absurd rfl ha,fun b o e=>by with_reducible refine rwE hb ?_; exact e⟩ trivial (.cons (.glob l) .nil) h (fun v s' μ' H' a e r x k=>?_) fun e s' μ' H' x ee r fl k=>by cases k
 cases k;cases x;exact q s' (fun b o eb=>(e.keep b o eb (fun⟨a,ha,_⟩=>ha rfl)).1 (by simp[Lsf])) e.rest.1 e.rest.2
end
abbrev Laid1 (w:World) (h:Heap):Prop:=∀b o,(Hf w.params).get? b=some o→h.get? b=some o
theorem law_at {K:Frag} {base:Heap} {mg:Str→Option Value} {P:Params} (X:(KF P).In base) (g:base.Ns mainGlobals mg):mg lawD.name=some (.ref 1728):=by
 have h:=kf_defs P;dsimp only[defsB] at h;simp only[Bool.and_eq_true,List.all_eq_true,refIs,beq_iff_eq] at h;have hm:(Str.ofString "law",1728)∈tabs.G.defs:=mem_of_look (show gDefs.lookup (Str.ofString "law")=some 1728 by decide +kernel)
 have:=mg_of X g (h.1 _ hm).1;have e:lawD.name=Str.ofString "law":=by rfl
 with_reducible refine rwE e ?_; exact this
theorem ints_vr {base:Heap} {vs:List Value} {zs:List Int} (h:IntsAre vs zs):VRs0 base (zs.map .int) vs:=by
 induction h with
 |nil=>exact .nil
 |cons _ _ _ ih=>exact .cons (.int _ _) ih
theorem sys_there (P:Params):(match (Tf P).get sysModules with|some o=>(alive o).isSome|none=>false)=true:=by kernel_rfl
theorem sys_at (P:Params):((Hf P).get? sysModules).isSome=true:=by
 have h:=sys_there P;cases e:(Tf P).get sysModules with
 |none=>rw[e] at h; exact (noB h).elim
 |some o=>rw[e] at h; unfold Hf; (with_reducible refine rwE (abs_get (by decide) e) ?_); exact h
theorem roomC {n:Nat} (h:n≤300):Room n callerA:=by
 have e1:recursionLimit=1000:=by decide
 have e2:6000<cLine:=by decide
 have d1:callerA.depth=301:=by rfl
 have d2:callerA.units=4:=by rfl
 exact⟨by with_reducible refine rwE d1 ?_; with_reducible refine rwE e1 ?_; omega,by with_reducible refine rwE d2 ?_; omega⟩
theorem good_true {w:World} {s₀ s₁ s':Shared} {args:List WData} (k:∀b o,s₁.heap.get? b=some o→s'.heap.get? b=some o) (ho:s'.os=s₁.os) (hg:s'.gens = #[]):GoodWG rowL.claim (classAt s₀.heap) (ExcName.means s₀.heap) args s₁ (.ok (.ret (.bool true))) s':=by
 exact⟨.inl ⟨.bool true,.bool true,[],rfl,fun cls=>rfl,.bool _,(by kernel_rfl),fun _=>⟨List.nodup_nil,fun a ha=>by cases ha⟩⟩,.of_keep k,ho,.of_eq hg⟩
theorem call_of (n:Nat) (hn:n≤300) (h:∀l zs,zs.length≤63→tObj.lookup l=none→wpF (sta l zs) funs n 1728 [.glob l] (fun r _=>r = .ok (.bool true)) (fun _=>none)):WalkO qv looseN (fun _ _=>True) Laid1 rowL.toRowW lawD [] fun f vs=>PySem.call f vs:=by
 intro w s₀ s₁ mg mb G Y fa o pm cd doc dV kV ho hd hcd hD hmg hg args vals as hpre hlay hrd hwl hlo;have T:=G.T;have hlo':=hlo;have X:(KF w.params).In s₁.heap:=fun a o e=>Y _ _ (kf_in w.params a o e);have hfa:fa=1728:=by
  have:=law_at (K:=KF w.params) X T.g;rw[hmg] at this; injection this with this; injection this
 subst hfa;wrow_args hpre hlay hrd hwl hlo
 rename_i zs _ _ _ _ _ as1 as2 l vs as3 hL ra wl r0 hI hr hc _
 show wpAny _ _ (PySem.call (.ref 1728) [.ref l]) _ _ _
 refine wpAny_call ?_;have hl:l≠sysModules:=by
  cases r0 with|list _ _ _ _=>exact beq_eq_false_iff_ne.mp (hlo' l (List.mem_append_left _ (.head _)))
 have hlk:tObj.lookup l=none:=by
  cases e:tObj.lookup l with
  |none=>rfl
  |some d =>
   have hb:=kf_obj w.params;unfold objB at hb;simp only[List.all_eq_true,Bool.and_eq_true] at hb;have hi:=(hb (l,d) (mem_of_look e)).1;refine (idB_ok (prog:=pw) (w:=w) X hi).idI fun _ ⟨o2,_,_,ho2,_,hd2,_⟩ _ _=>?_;obtain⟨o',ho',_,n',hd'⟩:=hL;cases ho'.symm.trans ho2;rw[hd'] at hd2; cases hd2
 have hor:OR pw w (fun _=>0) (fun _=>False) s₁.heap (.list (zs.map .int)) l:=by
  cases wl with|list h1 _ =>
   rename_i vs' _
   obtain⟨o',ho',_,n',hd'⟩:=hL;have:=h1.symm.trans ho';cases this;have e:vs'=vs:=by injection hd' with e1 _; simpa using congrArg Array.toList e1
   subst e;exact .list (vs:=vs') (n:=0) h1 (ints_vr hI)
 have hsys:s₁.heap.get? sysModules≠none:=by
  obtain⟨o,ho⟩:=Option.isSome_iff_exists.mp (sys_at w.params);rw[Y _ _ ho]; exact nofun
 refine law_call (P:=w.params) X T.g T.b T.nolimit T.builtins hsys hl hor (A:=callerA) rfl rfl (roomC hn) rfl (h l zs (by omega) hlk) fun s' k1 k2 k3=>?_;exact good_true (w:=w) k1 k3 (k2.trans hg)
end Mine.Internal
end
section
open PySem PySem.W PyProof.Rows
namespace Mine.Internal
noncomputable abbrev rwc:OpenLaw:=PySem.Challenge.rw_xm0326_01
theorem sA:namesResolve rwc.row.prog=true:=by
 rw[show @namesResolve = @PySem.W.Fast.tw8377067652309620493 from PySem.W.Fast.te8377067652309620493]; kernel_rfl
theorem sB0:noRoadLSs { strict:=!(importedModules rwc.row.prog.main.body).all cThrough.contains,foot:=none,bare:=(["vars","dir","locals"]:List PySem.Str).filter (readsOut rwc.row.prog rwc.row.prog.main.body) } rwc.row.prog.main.body=true:=by
 rw[show @noRoadLSs = @PySem.W.Fast.tw8326940854005059898 from PySem.W.Fast.te8326940854005059898,show @readsOut = @PySem.W.Fast.tw13343964577679436407 from PySem.W.Fast.te13343964577679436407]; kernel_rfl
theorem sC:namesMeet rwc.row.prog rwc.row.prog.main.body (fun _ n=>attrL n)=true:=by
 rw[show @namesMeet = @PySem.W.Fast.tw17119622794617984870 from PySem.W.Fast.te17119622794617984870,show @attrL = @PySem.W.Fast.tw17868728402115742887 from PySem.W.Fast.te17868728402115742887]; kernel_rfl
theorem sD:sreFenced rwc.row.prog.main=true:=by kernel_rfl
theorem sE:((moduleNames rwc.row.prog.main.body).isEmpty||lookedIntoSs (moduleNames rwc.row.prog.main.body) rwc.row.prog.main.body)=true:=by kernel_rfl
theorem sF:(rwc.row.prog.boundNames.all fun n=>!worldNames.contains n)=true:=by
 rw[show @PySem.instDecidableEqStr=PySem.W.Fast.sDec from PySem.W.Fast.sDec_eq,show @Program.boundNames = @PySem.W.Fast.tw18344453789297297638 from PySem.W.Fast.te18344453789297297638,show @worldNames = @PySem.W.Fast.tw14412699480532031325 from PySem.W.Fast.te14412699480532031325]; kernel_rfl
theorem sG:rwc.row.prog.boundNames.contains rwc.row.name=true:=by
 rw[show @PySem.instDecidableEqStr=PySem.W.Fast.sDec from PySem.W.Fast.sDec_eq,show @Program.boundNames = @PySem.W.Fast.tw18344453789297297638 from PySem.W.Fast.te18344453789297297638]; kernel_rfl
theorem sH:(!startupNames.contains rwc.row.name)=true:=by
 rw[show @PySem.instDecidableEqStr=PySem.W.Fast.sDec from PySem.W.Fast.sDec_eq]; kernel_rfl
theorem sRow:rwc.row.wellSaid=true:=by
 have h:rwc.row.partSaid=true:=by
  unfold OpenRow.partSaid looksOpen;refine look_both (look_both (look_both (look_both (look_both (look_both (look_both (look_both (look_both (look_both (look_both (look_both (look_both (look_both (look_both (look_both (look_both (look_both sD sE) sA) sF) sB0) sC) ?_) ?_) ?_) ?_) ?_) ?_) ?_) ?_) ?_) ?_) ?_) ?_) ?_
  all_goals kernel_rfl
 exact look_both (look_both h sG) sH
theorem tA:rwc.footing.all footLine=true:=by rw[show @footLine = @PySem.W.Fast.tw10501279942588096481 from PySem.W.Fast.te10501279942588096481]; kernel_rfl
theorem tB:noClassBlock rwc.prog rwc.footing=true:=by rw[show @noClassBlock = @PySem.W.Fast.tw8179353310426384613 from PySem.W.Fast.te8179353310426384613]; kernel_rfl
theorem tC:noRoadLSs { strict:=true,foot:=some rwc.bound',writes:=rwc.writes,may:=rwc.may } rwc.footing=true:=by rw[show @noRoadLSs = @PySem.W.Fast.tw8326940854005059898 from PySem.W.Fast.te8326940854005059898,show @OpenLaw.bound' = @PySem.W.Fast.tw797321630700447069 from PySem.W.Fast.te797321630700447069]; kernel_rfl
theorem tD:defStands rwc.about rwc.above=true:=by rw[show @defStands = @PySem.W.Fast.tw9558739934217749035 from PySem.W.Fast.te9558739934217749035]; kernel_rfl
theorem tE:rwc.namesIt=true:=by rw[show @OpenLaw.namesIt = @PySem.W.Fast.tw16286561074155671207 from PySem.W.Fast.te16286561074155671207]; kernel_rfl
theorem tF:(rwc.bound'.all fun n=>!builtinNamed n||rwc.about==[n]||!rwc.reads n)=true:=by rw[show @OpenLaw.bound' = @PySem.W.Fast.tw797321630700447069 from PySem.W.Fast.te797321630700447069,show @OpenLaw.reads = @PySem.W.Fast.tw6984425678791042302 from PySem.W.Fast.te6984425678791042302,show @builtinNamed=PySem.W.Fast.qNamed from PySem.W.Fast.named_eq]; kernel_rfl
theorem tG:namesMeet rwc.prog rwc.footing (fun sc n=>(!(["type","isinstance","issubclass","getattr","hasattr"]:List PySem.Str).contains n||sc.names.lookup n==some .globalImplicit) &&
 (rwc.may != some n||sc.kind==.module||sc.names.lookup n==some .globalImplicit))=true:=by rw[show @namesMeet = @PySem.W.Fast.tw17119622794617984870 from PySem.W.Fast.te17119622794617984870,show @PySem.instDecidableEqStr=PySem.W.Fast.sDec from PySem.W.Fast.sDec_eq]; kernel_rfl
theorem tH:namesMeet rwc.prog rwc.above (fun _ n=>!rwc.own.contains n)=true:=by rw[show @namesMeet = @PySem.W.Fast.tw17119622794617984870 from PySem.W.Fast.te17119622794617984870,show @PySem.instDecidableEqStr=PySem.W.Fast.sDec from PySem.W.Fast.sDec_eq,show @OpenLaw.own = @PySem.W.Fast.tw10792542408131684335 from PySem.W.Fast.te10792542408131684335]; kernel_rfl
theorem tI:namesMeet rwc.prog rwc.footing (fun sc n=>sc.kind==.module||sc.names.lookup n != some .globalExplicit)=true:=by rw[show @namesMeet = @PySem.W.Fast.tw17119622794617984870 from PySem.W.Fast.te17119622794617984870,show @PySem.instDecidableEqStr=PySem.W.Fast.sDec from PySem.W.Fast.sDec_eq]; kernel_rfl
theorem tJ:rwc.own.contains rwc.name=true:=by rw[show @PySem.instDecidableEqStr=PySem.W.Fast.sDec from PySem.W.Fast.sDec_eq,show @OpenLaw.own = @PySem.W.Fast.tw10792542408131684335 from PySem.W.Fast.te10792542408131684335]; kernel_rfl
theorem tK:(rwc.own.eraseDups.length==rwc.own.length)=true:=by rw[show @PySem.instDecidableEqStr=PySem.W.Fast.sDec from PySem.W.Fast.sDec_eq,show @OpenLaw.own = @PySem.W.Fast.tw10792542408131684335 from PySem.W.Fast.te10792542408131684335]; kernel_rfl
theorem tL:(rwc.own.all fun n=>!builtinNamed n)=true:=by rw[show @OpenLaw.own = @PySem.W.Fast.tw10792542408131684335 from PySem.W.Fast.te10792542408131684335,show @builtinNamed=PySem.W.Fast.qNamed from PySem.W.Fast.named_eq]; kernel_rfl
theorem said:rwc.wellSaid=true:=by
 unfold OpenLaw.wellSaid;refine look_both (look_both (look_both (look_both (look_both (look_both (look_both (look_both (look_both (look_both (look_both (look_both (look_both (look_both (look_both (look_both (look_both (look_both sRow ?_) tA) tB) ?_) ?_) tC) tD) tE) ?_) tF) ?_) ?_) tG) tJ) tK) tL) tH) tI
 all_goals kernel_rfl
theorem promised:rowL.toRowW.promised:=⟨[.list []],by decide +kernel,by decide +kernel⟩
theorem head (call:WalkO qv looseN (fun _ _=>True) Laid1 rowL.toRowW lawD [] fun f vs=>PySem.call f vs):PySem.Challenge.rw_xm0326_01.Holds :=
 holds_law said fun k1=>holds_open (q:=qv) (loose:=looseN) (Xt:=fun _=>true) (XP:=fun _ _=>True) (YP:=Laid1) (d:=lawD) (kwd:=[]) left
  (fun w s e b o h=>by have e':s.heap=Hf w.params:=e; rw[e']; exact h) (fun w h h' y k b o e=>k b o (y b o e)) (fun _ _=>trivial) (fun _ _ _ _ _=>trivial)
  def1 def2 def3 (fun _ _=>recFacts_nil rfl) rfl k1 okP bareP promised call
theorem oKj {α:Type} {o:Option α} {a:α} {f:α→Prop} (h:o=some a) (k:f a):oK o f:=by subst h; exact k
structure Ops (σ:Type) where
 hv:σ→AH
 new (A:σ) (o:AO):Option {p:AV×σ // ∀Q:AV→AH→Prop,Q p.1 (hv p.2)→newO (hv A) o Q}
 dict (A:σ):Option {p:AV×σ // ∀Q:AV→AH→Prop,Q p.1 (hv p.2)→dictO (hv A) [] Q}
 upd (A:σ) (a:AA) (o:AO):Option {B:σ // hv B=upd (hv A) a o}
 inst (A:σ) (C:Addr):Option {p:(AA×AA)×σ // hv A p.1.1=none∧hv A p.1.2=none∧p.1.1≠p.1.2∧hv p.2=Internal.upd (Internal.upd (hv A) p.1.2 (.ns [])) p.1.1 (.inst C p.1.2)}
section
variable {H:AH} {S:Stat} {call:Callee}
theorem set_l {a:AA} {l:List AV} {i:Int} {k x:AV} {N:AH→Prop} (h:H a=some (.list l)) (e:k = .int i) (c:0≤i∧i<1000000∧i.toNat<l.length) (n:N (upd H a (.list (l.set i.toNat x)))):setO H a (H a) k x N:=by
 subst e; rw[h]; exact⟨c.1,c.2.1,c.2.2,n⟩
theorem set_s {a:AA} {l:List (List Nat×AV)} {y:List Nat} {k x:AV} {N:AH→Prop} (h:H a=some (.sd l)) (e:k = .str y) (c:l.length<1000) (n:N (upd H a (.sd (stq l y x)))):setO H a (H a) k x N:=by
 subst e; rw[h]; exact⟨c,n⟩
theorem set_i {a:AA} {l:List (Int×AV)} {y:Int} {k x:AV} {N:AH→Prop} (h:H a=some (.id l)) (e:k = .int y) (c:l.length<1000) (n:N (upd H a (.id (stq l y x)))):setO H a (H a) k x N:=by
 subst e; rw[h]; exact⟨c,n⟩
theorem set_t {a:AA} {l:List (TK×AV)} {k:AV} {t:TK} {x:AV} {N:AH→Prop} (h:H a=some (.td l)) (e:tk k=some t) (c:l.length<1000) (n:N (upd H a (.td (stq l t x)))):setO H a (H a) k x N:=by
 rw[h]; exact⟨c,oKj e n⟩
theorem set_r {v k x:AV} {a:AA} {N:AH→Prop} (e:v = .ref a) (n:setO H a (H a) k x N):setI H v k x N:=by subst e; exact n
theorem put_i {v:AV} {a d:AA} {C:Addr} {l:List (Nat×AV)} {n:Nat} {x:AV} {N:AH→Prop} (e:v = .ref a) (h:H a=some (.inst C d)) (h2:H d=some (.ns l)) (c:l.length<100∧S.plain C n=true) (k:N (upd H d (.ns (nsPut l n x)))):putA S H v n x N:=by
 subst e; unfold putA; simp only[h,h2]; exact⟨c.1,c.2,k⟩
theorem app_i {v:AV} {a:AA} {l:List AV} {x:AV} {Q X:AV→AH→Prop} (e:v = .ref a) (h:H a=some (.list l)) (c:l.length<100000) (k:Q .none (upd H a (.list (l++[x])))):methA S call .app v [x] Q X H:=by
 subst e;show (match H a with|some (.list l)=>l.length<100000∧Q .none (upd H a (.list (l++[x])))|_=>False)
 rw[h]; exact⟨c,k⟩
theorem wpF_i {F:Addr→Option Fun} {f:Addr} {d:Fun} {n:Nat} {vs:List AV} {Q:Post} (h:F f=some d) (hl:vs.length=d.params) (k:swps S (wpF S F n) d.body (fun _ x=>Q (.exc x)) (fun _ x=>Q (.exc x)) (args0 vs) (fun _=>Q (.ok .none)) (fun v=>Q (.ok v)) H):wpF S F (n+1) f vs Q H:=by
 exact unf h hl k
theorem if1 {t:Bool} {f g:AH→Prop} (e:t=true) (h:f H):ifQ f g t H:=by subst e; exact h
theorem if2 {t:Bool} {f g:AH→Prop} (e:t=false) (h:g H):ifQ f g t H:=by subst e; exact h
theorem ite1 {t:Bool} {f g:Prop} (e:t=true) (h:f):if t=true then f else g:=by subst e; exact h
theorem ite2 {t:Bool} {f g:Prop} (e:t=false) (h:g):if t=true then f else g:=by subst e; exact h
theorem neg_i {v:AV} {i:Int} {Q:AV→AH→Prop} (e:v = .int i) (q:Q (.int (-i)) H):(match (generalizing:=false) v with|.int i=>Q (.int (-i)) H|_=>False):=by subst e; exact q
theorem aug_i {i:Nat} {ρ:Loc} {N:Loc→AH→Prop} {a b:AV} {o:Bop} {x y:Int} (e1:a = .int x) (e2:b = .int y) (e3:o = .add) (q:N (setL ρ i (.int (x+y))) H):augQ i o ρ N a b H:=by subst e1 e2 e3; exact⟨rfl,q⟩
theorem unp_i {l:List Nat} {v:AV} {vs:List AV} (e:v = .tup vs) {N:List AV→Prop} (c:vs.length=l.length) (q:N vs):(match (generalizing:=false) v with|.tup vs=>vs.length=l.length∧N vs|_=>False):=by subst e; exact⟨c,q⟩
end
section
variable {R:Type}
noncomputable def witK {α:Type} (o:Option α) (k:(a:α)→o=some a→Option R):Option R:=match o,k with
 |some a,k=>k a rfl
 |none,_=>none
noncomputable def chkK (b:Bool) (k:b=true→Option R):Option R:=match b,k with
 |true,k=>k rfl
 |false,_=>none
noncomputable def boolK (b:Bool) (k:b=true→Option R) (j:b=false→Option R):Option R:=match b,k,j with
 |true,k,_=>k rfl
 |false,_,j=>j rfl
noncomputable def refK (v:AV) (k:(a:AA)→v = .ref a→Option R):Option R:=match v,k with
 |.ref a,k=>k a rfl
 |_,_=>none
noncomputable def intK (v:AV) (k:(i:Int)→v = .int i→Option R):Option R:=match v,k with
 |.int a,k=>k a rfl
 |_,_=>none
noncomputable def strK (v:AV) (k:(x:List Nat)→v = .str x→Option R):Option R:=match v,k with
 |.str a,k=>k a rfl
 |_,_=>none
noncomputable def tupK (v:AV) (k:(l:List AV)→v = .tup l→Option R):Option R:=match v,k with
 |.tup a,k=>k a rfl
 |_,_=>none
noncomputable def noneK (v:AV) (k:v = .none→Option R):Option R:=match v,k with
 |.none,k=>k rfl
 |_,_=>none
noncomputable def aoK (o:Option AO) (c1:(l:List AV)→o=some (.list l)→Option R) (c2:(l:List (List Nat×AV))→o=some (.sd l)→Option R) (c3:(l:List (Int×AV))→o=some (.id l)→Option R) (c4:(l:List (TK×AV))→o=some (.td l)→Option R):Option R:=match o,c1,c2,c3,c4 with
 |some (.list l),k,_,_,_=>k l rfl
 |some (.sd l),_,k,_,_=>k l rfl
 |some (.id l),_,_,k,_=>k l rfl
 |some (.td l),_,_,_,k=>k l rfl
 |_,_,_,_,_=>none
noncomputable def listK (o:Option AO) (k:(l:List AV)→o=some (.list l)→Option R):Option R:=match o,k with
 |some (.list l),k=>k l rfl
 |_,_=>none
noncomputable def nsK (o:Option AO) (k:(l:List (Nat×AV))→o=some (.ns l)→Option R):Option R:=match o,k with
 |some (.ns l),k=>k l rfl
 |_,_=>none
noncomputable def tdK (o:Option AO) (k:(l:List (TK×AV))→o=some (.td l)→Option R):Option R:=match o,k with
 |some (.td l),k=>k l rfl
 |_,_=>none
noncomputable def instK (o:Option AO) (k:(c:Addr)→(d:AA)→o=some (.inst c d)→Option R):Option R:=match o,k with
 |some (.inst c d),k=>k c d rfl
 |_,_=>none
end
section
variable {σ:Type} (O:Ops σ) (S:Stat) (call:Callee)
def GE (e:ME) (ρ:Loc) (A:σ) (v:AV) (B:σ):Prop:=∀(Q:AV→AH→Prop) (X),Q v (O.hv B)→ewp S call X e ρ Q (O.hv A)
def GEs (l:List ME) (ρ:Loc) (A:σ) (v:List AV) (B:σ):Prop:=∀(Q:List AV→AH→Prop) (X),Q v (O.hv B)→ewps S call X l ρ Q (O.hv A)
def GA (l:List ME) (ρ:Loc) (A:σ) (v:AV) (B:σ):Prop:=∀(Q:AV→AH→Prop) (X),Q v (O.hv B)→andp S call X l ρ Q (O.hv A)
def GO (l:List ME) (ρ:Loc) (A:σ) (v:AV) (B:σ):Prop:=∀(Q:AV→AH→Prop) (X),Q v (O.hv B)→orp S call X l ρ Q (O.hv A)
def GC (e:ME) (ρ:Loc) (A:σ) (t:Bool) (B:σ):Prop:=∀(Q:Bool→AH→Prop) (X),Q t (O.hv B)→cwp S call X e ρ Q (O.hv A)
def GCa (l:List ME) (ρ:Loc) (A:σ) (t:Bool) (B:σ):Prop:=∀(Q:Bool→AH→Prop) (X),Q t (O.hv B)→cands S call X l ρ Q (O.hv A)
def GCo (l:List ME) (ρ:Loc) (A:σ) (t:Bool) (B:σ):Prop:=∀(Q:Bool→AH→Prop) (X),Q t (O.hv B)→cors S call X l ρ Q (O.hv A)
def GF (f:Addr) (vs:List AV) (A:σ) (v:AV) (B:σ):Prop:=∀Q:Post,Q (.ok v) (O.hv B)→call f vs Q (O.hv A)
def GG (g:Option Got1) (A:σ) (v:AV) (B:σ):Prop:=∀Q:AV→AH→Prop,Q v (O.hv B)→got (O.hv A) g Q
def GD (l:List (AV×AV)) (A:σ) (v:AV) (B:σ):Prop:=∀Q:AV→AH→Prop,Q v (O.hv B)→dictO (O.hv A) l Q
def GM (m:MK) (u:AV) (vs:List AV) (A:σ) (v:AV) (B:σ):Prop:=∀(Q:AV→AH→Prop) (X),Q v (O.hv B)→methA S call m u vs Q X (O.hv A)
def GN (C:Addr) (vs:List AV) (A:σ) (v:AV) (B:σ):Prop:=∀(Q:AV→AH→Prop) (X),Q v (O.hv B)→makeA S call C vs Q X (O.hv A)
def GP (W:(AH→Prop)→AH→Prop) (A B:σ):Prop:=∀N:AH→Prop,N (O.hv B)→W N (O.hv A)
noncomputable abbrev KK (α:Type) (P:α→σ→Prop):=(R:Type)→((v:α)→(B:σ)→P v B→Option R)→Option R
noncomputable abbrev KN (P:σ→Prop):=(R:Type)→((B:σ)→P B→Option R)→Option R
noncomputable abbrev XC:=(f:Addr)→(vs:List AV)→(A:σ)→KK (σ:=σ) AV (GF O call f vs A)
noncomputable def xnewK (A:σ) (o:AO) (R:Type) (k:(v:AV)→(B:σ)→(∀Q:AV→AH→Prop,Q v (O.hv B)→newO (O.hv A) o Q)→Option R):Option R:=(O.new A o).bind fun p=>k p.1.1 p.1.2 p.2
noncomputable def xupd (A:σ) (a:AA) (o:AO) (R:Type) (k:(B:σ)→O.hv B=upd (O.hv A) a o→Option R):Option R:=(O.upd A a o).bind fun p=>k p.1 p.2
noncomputable def xgot (A:σ):(g:Option Got1)→KK AV (GG O g A)
 |some (.v a),_,k=>k a A fun _ q=>q
 |some (.l l),_,k=>xnewK O A (.list l) _ k
 |none,_,_=>none
noncomputable def xdict (A:σ):(l:List (AV×AV))→KK AV (GD O l A)
 |[],_,k=>(O.dict A).bind fun p=>k p.1.1 p.1.2 p.2
 |(.str a,b)::r,_,k=>witK (putAll str? ((.str a,b)::r) []) fun o h=>xnewK O A (.sd o) _ fun v B g=>k v B fun Q q=>oKj h (g Q q)
 |(.int a,b)::r,_,k=>witK (putAll int? ((.int a,b)::r) []) fun o h=>xnewK O A (.id o) _ fun v B g=>k v B fun Q q=>oKj h (g Q q)
 |(.tup a,b)::r,_,k=>witK (putAll tk ((.tup a,b)::r) []) fun o h=>xnewK O A (.td o) _ fun v B g=>k v B fun Q q=>oKj h (g Q q)
 |_,_,_=>none
noncomputable def xset (A:σ) (a:AA) (k x:AV) (R:Type) (K:(B:σ)→GP O (fun N H=>setO H a (H a) k x N) A B→Option R):Option R :=
 aoK (O.hv A a) (fun l h=>intK k fun i e=>chkK (decide (0≤i∧i<1000000∧i.toNat<l.length)) fun c=>xupd O A a (.list (l.set i.toNat x)) _ fun B g=>K B fun N n=>set_l h e (of_decide_eq_true c) (g▸n))
  (fun l h=>strK k fun y e=>chkK (decide (l.length<1000)) fun c=>xupd O A a (.sd (stq l y x)) _ fun B g=>K B fun N n=>set_s h e (of_decide_eq_true c) (g▸n))
  (fun l h=>intK k fun y e=>chkK (decide (l.length<1000)) fun c=>xupd O A a (.id (stq l y x)) _ fun B g=>K B fun N n=>set_i h e (of_decide_eq_true c) (g▸n))
  fun l h=>witK (tk k) fun t e=>chkK (decide (l.length<1000)) fun c=>xupd O A a (.td (stq l t x)) _ fun B g=>K B fun N n=>set_t h e (of_decide_eq_true c) (g▸n)
noncomputable def xput (A:σ) (v:AV) (n:Nat) (x:AV) (R:Type) (K:(B:σ)→GP O (fun N H=>putA S H v n x N) A B→Option R):Option R :=
 refK v fun a e=>instK (O.hv A a) fun C d h=>nsK (O.hv A d) fun l h2=>chkK (decide (l.length<100∧S.plain C n=true)) fun c=>xupd O A d (.ns (nsPut l n x)) _ fun B g=>K B fun N q=>put_i e h h2 (of_decide_eq_true c) (g▸q)
variable {call} (xc:XC O call)
noncomputable def xmeth (A:σ):(m:MK)→(v:AV)→(vs:List AV)→KK AV (GM O S call m v vs A)
 |.app,v,[x],_,k=>refK v fun a e=>listK (O.hv A a) fun l h=>chkK (decide (l.length<100000)) fun c=>xupd O A a (.list (l++[x])) _ fun B g=>k .none B fun Q X q=>app_i e h (of_decide_eq_true c) (g▸q)
 |.get,v,[y],_,k=>witK (getD (objOf S (O.hv A) v) y .none) fun r h=>k r A fun Q X q=>oKj h q
 |.get,v,[y,d],_,k=>witK (getD (objOf S (O.hv A) v) y d) fun r h=>k r A fun Q X q=>oKj h q
 |.fn f,v,vs,_,k=>xc f (v::vs) A _ fun r B h=>k r B fun Q X q=>h _ q
 |_,_,_,_,_=>none
noncomputable def xmake (A:σ) (C:Addr) (vs:List AV) (R:Type) (K:(v:AV)→(B:σ)→GN O S call C vs A v B→Option R):Option R:=(O.inst A C).bind fun p=>witK (S.init C) fun i hi=>match i,hi,vs,K with
 |some f,hi,vs,K=>xc f (.ref p.1.1.1::vs) p.1.2 _ fun r B h=>noneK r fun e=>K (.ref p.1.1.1) B fun Q X q=>⟨_,_,p.2.1,p.2.2.1,p.2.2.2.1,oKj hi (p.2.2.2.2▸h _ ⟨e,q⟩)⟩
 |none,hi,[],K=>K (.ref p.1.1.1) p.1.2 fun Q X q=>⟨_,_,p.2.1,p.2.2.1,p.2.2.2.1,oKj hi ⟨rfl,p.2.2.2.2▸q⟩⟩
 |_,_,_,_=>none
mutual
noncomputable def xe:(e:ME)→(ρ:Loc)→(A:σ)→KK AV (GE O S call e ρ A)
 |.val v,_,A,_,k=>k v A fun _ _ q=>q
 |.loc i,ρ,A,_,k=>witK (ρ i) fun v h=>k v A fun _ _ q=>oKj h q
 |.attr e n,ρ,A,_,k=>xe e ρ A _ fun v B h=>witK (getA S (O.hv B) v n) fun r g=>k r B fun _ X q=>h _ X (oKj g q)
 |.sub e i,ρ,A,_,k=>xe e ρ A _ fun v B h=>xe i ρ B _ fun u C g=>witK (getI S (O.hv C) v u) fun r f=>k r C fun _ X q=>h _ X (g _ X (oKj f q))
 |.cut e a b,ρ,A,_,k=>xe e ρ A _ fun v B h=>xe a ρ B _ fun u C g=>xe b ρ C _ fun w D f=>xgot O D (cutA S (O.hv D) v u w) _ fun r E z=>k r E fun _ X q=>h _ X (g _ X (f _ X (z _ q)))
 |.call f as,ρ,A,_,k=>xes as ρ A _ fun vs B h=>xc f vs B _ fun r C g=>k r C fun _ X q=>h _ X (g _ q)
 |.make C as,ρ,A,_,k=>xes as ρ A _ fun vs B h=>xmake O S xc B C vs _ fun r D g=>k r D fun _ X q=>h _ X (g _ X q)
 |.meth e n as,ρ,A,_,k=>xe e ρ A _ fun v B h=>witK (methOf S (O.hv B) v n) fun m f=>xes as ρ B _ fun vs C g=>xmeth O S xc C m v vs _ fun r D z=>k r D fun _ X q=>h _ X (oKj f (g _ X (z _ X q)))
 |.len e,ρ,A,_,k=>xe e ρ A _ fun v B h=>witK (lenA S (O.hv B) v) fun r g=>k (.int r) B fun _ X q=>h _ X (oKj g q)
 |.bin o e i,ρ,A,_,k=>xe e ρ A _ fun v B h=>xe i ρ B _ fun u C g=>xgot O C (binA S (O.hv C) o v u) _ fun r D z=>k r D fun _ X q=>h _ X (g _ X (z _ q))
 |.cmp o e i,ρ,A,_,k=>xe e ρ A _ fun v B h=>xe i ρ B _ fun u C g=>witK (cmpA S (O.hv C) o v u) fun r f=>k (.bool r) C fun _ X q=>h _ X (g _ X (oKj f q))
 |.and l,ρ,A,_,k=>xand l ρ A _ k
 |.or l,ρ,A,_,k=>xor l ρ A _ k
 |.not e,ρ,A,_,k=>xe e ρ A _ fun v B h=>witK (truthA S (O.hv B) v) fun r g=>k (.bool (!r)) B fun _ X q=>h _ X (oKj g q)
 |.neg e,ρ,A,_,k=>xe e ρ A _ fun v B h=>intK v fun i g=>k (.int (-i)) B fun _ X q=>h _ X (neg_i g q)
 |.ite c a b,ρ,A,_,k=>xc' c ρ A _ fun t B h=>boolK t (fun g=>xe a ρ B _ fun r C f=>k r C fun _ X q=>h _ X (if1 g (f _ X q))) fun g=>xe b ρ B _ fun r C f=>k r C fun _ X q=>h _ X (if2 g (f _ X q))
 |.tup l,ρ,A,_,k=>xes l ρ A _ fun vs B h=>k (.tup vs) B fun _ X q=>h _ X q
 |.list l,ρ,A,_,k=>xes l ρ A _ fun vs B h=>xnewK O B (.list vs) _ fun r C g=>k r C fun _ X q=>h _ X (g _ q)
 |.dict l,ρ,A,_,k=>xes l ρ A _ fun vs B h=>xdict O B (pairUp vs) _ fun r C g=>k r C fun _ X q=>h _ X (g _ q)
 |_,_,_,_,_=>none
noncomputable def xes:(l:List ME)→(ρ:Loc)→(A:σ)→KK (List AV) (GEs O S call l ρ A)
 |[],_,A,_,k=>k [] A fun _ _ q=>q
 |e::r,ρ,A,_,k=>xe e ρ A _ fun v B h=>xes r ρ B _ fun vs C g=>k (v::vs) C fun _ X q=>h _ X (g _ X q)
noncomputable def xand:(l:List ME)→(ρ:Loc)→(A:σ)→KK AV (GA O S call l ρ A)
 |[],_,_,_,_=>none
 |[e],ρ,A,_,k=>xe e ρ A _ fun v B h=>k v B fun _ X q=>h _ X q
 |e::f::r,ρ,A,_,k=>xe e ρ A _ fun v B h=>witK (truthA S (O.hv B) v) fun t g=>boolK t (fun z=>xand (f::r) ρ B _ fun u C y=>k u C fun _ X q=>h _ X (oKj g (ite1 z (y _ X q)))) fun z=>k v B fun _ X q=>h _ X (oKj g (ite2 z q))
noncomputable def xor:(l:List ME)→(ρ:Loc)→(A:σ)→KK AV (GO O S call l ρ A)
 |[],_,_,_,_=>none
 |[e],ρ,A,_,k=>xe e ρ A _ fun v B h=>k v B fun _ X q=>h _ X q
 |e::f::r,ρ,A,_,k=>xe e ρ A _ fun v B h=>witK (truthA S (O.hv B) v) fun t g=>boolK t (fun z=>k v B fun _ X q=>h _ X (oKj g (ite1 z q))) fun z=>xor (f::r) ρ B _ fun u C y=>k u C fun _ X q=>h _ X (oKj g (ite2 z (y _ X q)))
noncomputable def xc':(e:ME)→(ρ:Loc)→(A:σ)→KK Bool (GC O S call e ρ A)
 |.not e,ρ,A,_,k=>xc' e ρ A _ fun t B h=>k (!t) B fun _ X q=>h _ X q
 |.and l,ρ,A,_,k=>xcands l ρ A _ k
 |.or l,ρ,A,_,k=>xcors l ρ A _ k
 |.cmp o e i,ρ,A,_,k=>xe e ρ A _ fun v B h=>xe i ρ B _ fun u C g=>witK (cmpA S (O.hv C) o v u) fun r f=>k r C fun _ X q=>h _ X (g _ X (oKj f q))
 |.call f as,ρ,A,_,k=>xes as ρ A _ fun vs B h=>xc f vs B _ fun r C g=>witK (truthA S (O.hv C) r) fun t z=>k t C fun _ X q=>h _ X (g _ (oKj z q))
 |_,_,_,_,_=>none
noncomputable def xcands:(l:List ME)→(ρ:Loc)→(A:σ)→KK Bool (GCa O S call l ρ A)
 |[],_,A,_,k=>k true A fun _ _ q=>q
 |e::r,ρ,A,_,k=>xc' e ρ A _ fun t B h=>boolK t (fun g=>xcands r ρ B _ fun u C f=>k u C fun _ X q=>h _ X (if1 g (f _ X q))) fun g=>k false B fun _ X q=>h _ X (if2 g q)
noncomputable def xcors:(l:List ME)→(ρ:Loc)→(A:σ)→KK Bool (GCo O S call l ρ A)
 |[],_,A,_,k=>k false A fun _ _ q=>q
 |e::r,ρ,A,_,k=>xc' e ρ A _ fun t B h=>boolK t (fun g=>k true B fun _ X q=>h _ X (if1 g q)) fun g=>xcors r ρ B _ fun u C f=>k u C fun _ X q=>h _ X (if2 g (f _ X q))
end
set_option genCtorIdx false in
inductive XO where
 |next (ρ:Loc)
 |ret (v:AV)
def XP (o:XO) (N:Loc→AH→Prop) (R:AV→AH→Prop) (H:AH):Prop:=match o with
 |.next ρ=>N ρ H
 |.ret v=>R v H
theorem xp_n {o:XO} {ρ:Loc} {N:Loc→AH→Prop} {R:AV→AH→Prop} {H:AH} (e:o = .next ρ) (q:N ρ H):XP o N R H:=by subst e; exact q
theorem xp_r {o:XO} {v:AV} {N:Loc→AH→Prop} {R:AV→AH→Prop} {H:AH} (e:o = .ret v) (q:R v H):XP o N R H:=by subst e; exact q
noncomputable def xoK {R:Type} (o:XO) (k:(ρ:Loc)→o = .next ρ→Option R) (j:(v:AV)→o = .ret v→Option R):Option R:=match o,k,j with
 |.next ρ,k,_=>k ρ rfl
 |.ret v,_,j=>j v rfl
def GS (s:MS) (ρ:Loc) (A:σ) (o:XO) (B:σ):Prop:=∀N R,XP o N R (O.hv B)→∀X Y,swp S call s X Y ρ N R (O.hv A)
def GSs (l:List MS) (ρ:Loc) (A:σ) (o:XO) (B:σ):Prop:=∀N R,XP o N R (O.hv B)→∀X Y,swps S call l X Y ρ N R (O.hv A)
def GL (i:Nat) (b:List MS) (X Y:Loc→AV→AH→Prop) (l:List AV) (ρ:Loc) (A:σ) (o:XO) (B:σ):Prop:=∀N R,XP o N R (O.hv B)→List.foldr (fun v (k:Loc→AH→Prop) ρ=>swps S call b X Y (setL ρ i v) k R) N l ρ (O.hv A)
noncomputable def xfor (i:Nat) (b:List MS) (f:(ρ:Loc)→(A:σ)→KK XO (GSs O S (call:=call) b ρ A)) (X Y:Loc→AV→AH→Prop):(l:List AV)→(ρ:Loc)→(A:σ)→KK XO (GL O S (call:=call) i b X Y l ρ A)
 |[],ρ,A,_,k=>k (.next ρ) A fun _ _ q=>q
 |v::r,ρ,A,_,k=>f (setL ρ i v) A _ fun o B h=>xoK o (fun ρ' e=>xfor i b f X Y r ρ' B _ fun o' C g=>k o' C fun N R q=>h _ _ (xp_n e (g N R q)) X Y) fun u e=>k (.ret u) B fun N R q=>h (List.foldr (fun v (k:Loc→AH→Prop) ρ=>swps S call b X Y (setL ρ i v) k R) N r) R (xp_r e q) X Y
noncomputable def tdE:(l l':List (TK×AV))→Option (PLift (l=l'))
 |[],[]=>some ⟨rfl⟩
 |(k,.int a)::r,(k',.int b)::t=>(chk (decide (k=k'))).bind fun h=>(chk (decide (a=b))).bind fun h2=>(tdE r t).bind fun h3=>some ⟨by (refine rwE (of_decide_eq_true h.1) ?_; refine rwE (of_decide_eq_true h2.1) ?_; refine rwE h3.1 ?_; rfl)⟩
 |_,_=>none
noncomputable def tdB (l:List (TK×AV)):(o:Option AO)→Option (PLift (o=some (.td l)))
 |some (.td l')=>(tdE l l').bind fun h=>some ⟨by (refine rwE h.1 ?_; rfl)⟩
 |_=>none
theorem kv_r {v:AV} {q r:AA} (e:v = .ref q) (h:q≠r):(match (generalizing:=false) v with|.ref q=>q≠r|_=>False):=by subst e; exact h
theorem kvo_i {i:Nat} {ob e1 e2 e3:ME} {ρ:Loc} {N:Loc→AH→Prop} {v:AV} {H:AH} {r:AA} {l:List (TK×AV)} (e:v = .ref r) (h:H r=some (.td l)) (q:List.foldr (kvQ S call i r l ob e1 e2 e3) N l ρ H):kvO S call i ob e1 e2 e3 ρ N v H:=by
 subst e;show (match H r with|some (.td l)=>List.foldr (kvQ S call i r l ob e1 e2 e3) N l ρ H|_=>False)
 rw[h]; exact q
def GK (i:Nat) (r:AA) (l0:List (TK×AV)) (ob e1 e2 e3:ME) (l:List (TK×AV)) (ρ:Loc) (A B:σ):Prop:=∀N:AH→Prop,N (O.hv B)→∀M:Loc→AH→Prop,(∀ρ',ρ'=l.foldl (fun ρ p=>setL ρ i (tkV p.1)) ρ→∀H,N H→M ρ' H)→List.foldr (kvQ S call i r l0 ob e1 e2 e3) M l ρ (O.hv A)
noncomputable def xkv (i:Nat) (r:AA) (l0:List (TK×AV)) (ob e1 e2 e3:ME):(l:List (TK×AV))→(ρ:Loc)→(A:σ)→KN (GK O S (call:=call) i r l0 ob e1 e2 e3 l ρ A)
 |[],ρ,A,_,k=>k A fun _ n _ m=>m _ rfl _ n
 |p::t,ρ,A,_,k=>xe O S xc e3 (setL ρ i (tkV p.1)) A _ fun x B1 h1=>xe O S xc ob (setL ρ i (tkV p.1)) B1 _ fun o B2 h2=>refK o fun q eq=>xe O S xc e1 (setL ρ i (tkV p.1)) B2 _ fun a B3 h3=>xe O S xc e2 (setL ρ i (tkV p.1)) B3 _ fun b B4 h4 =>
  xset O B4 q (.tup [a,b]) x _ fun C g=>chkK (decide (q≠r)) fun hq=>(tdB l0 (O.hv C r)).bind fun hd=>xkv i r l0 ob e1 e2 e3 t (setL ρ i (tkV p.1)) C _ fun D z =>
   k D fun N n M m=>h1 _ _ (h2 _ _ (h3 _ _ (h4 _ _ (set_r eq (g _ ⟨hd.1,kv_r eq (of_decide_eq_true hq),z N n M m⟩)))))
omit xc in
theorem forr_p {i:Nat} {it:ME} {b:List MS} {X Y:Loc→AV→AH→Prop} {ρ:Loc} {N:Loc→AH→Prop} {R:AV→AH→Prop} {H:AH} (e:notRange it=true) (k:ewp S call (X ρ) it ρ (fun v H=>oK (itemsF S H v) fun l=>List.foldr (fun v (k:Loc→AH→Prop) ρ=>swps S call b (fun _ _ _=>False) (fun _ _ _=>False) (setL ρ i v) k R) N l ρ H) H):swp S call (.forr i it b) X Y ρ N R H:=by
 rw[swp_for fun l z=>by subst z; exact noB e]; exact k
mutual
noncomputable def xs:(s:MS)→(ρ:Loc)→(A:σ)→KK XO (GS O S (call:=call) s ρ A)
 |.asg t e,ρ,A,_,k=>xe O S xc e ρ A _ fun v B h=>match t,k with
  |.loc i,k=>k (.next (setL ρ i v)) B fun N R q X Y=>h _ _ q
  |.attr o n,k=>xe O S xc o ρ B _ fun u C g=>xput O S C u n v _ fun D f=>k (.next ρ) D fun N R q X Y=>h _ _ (g _ _ (f _ q))
  |.sub o i,k=>xe O S xc o ρ B _ fun u C g=>xe O S xc i ρ C _ fun w D f=>refK u fun a ea=>xset O D a w v _ fun E z=>k (.next ρ) E fun N R q X Y=>h _ _ (g _ _ (f _ _ (set_r ea (z _ q))))
  |.unp l,k=>tupK v fun vs ev=>chkK (decide (vs.length=l.length)) fun c=>k (.next (setLs ρ l vs)) B fun N R q X Y=>h (asgQ S call (.unp l) X ρ N) _ (unp_i (N:=fun vs=>N (setLs ρ l vs) (O.hv B)) ev (of_decide_eq_true c) q)
 |.aug i o e,ρ,A,_,k=>witK (ρ i) fun a ha=>xe O S xc e ρ A _ fun v B h=>intK a fun x ea=>intK v fun y ev=>chkK (decide (o = .add)) fun eo=>k (.next (setL ρ i (.int (x+y)))) B fun N R q X Y=>oKj ha (h _ _ (aug_i ea ev (of_decide_eq_true eo) q))
 |.ife c a b,ρ,A,_,k=>xc' O S xc c ρ A _ fun t B h=>boolK t (fun g=>xss a ρ B _ fun o C f=>k o C fun N R q X Y=>h _ _ (if1 g (f N R q X Y))) fun g=>xss b ρ B _ fun o C f=>k o C fun N R q X Y=>h _ _ (if2 g (f N R q X Y))
 |.forr i (.range [.val (.int n)]) b,ρ,A,_,k=>chkK (decide (0≤n∧n≤1000000)) fun c=>xfor O S i b (fun ρ A=>xss b ρ A) (fun _ _ _=>False) (fun _ _ _=>False) (rangeL 0 n) ρ A _ fun o B h=>k o B fun N R q X Y=>⟨(of_decide_eq_true c).1,(of_decide_eq_true c).2,h N R q⟩
 |.forr i it b,ρ,A,_,k=>chkK (notRange it) fun hr=>xe O S xc it ρ A _ fun v B h=>witK (itemsF S (O.hv B) v) fun l g=>xfor O S i b (fun ρ A=>xss b ρ A) (fun _ _ _=>False) (fun _ _ _=>False) l ρ B _ fun o C f=>k o C fun N R q X Y=>forr_p S hr (h _ _ (oKj g (f N R q)))
 |.forkv i it ob e1 e2 e3,ρ,A,_,k=>xe O S xc it ρ A _ fun v B h=>refK v fun r er=>tdK (O.hv B r) fun l hl=>xkv O S xc i r l ob e1 e2 e3 l ρ B _ fun C z=>k (.next (l.foldl (fun ρ p=>setL ρ i (tkV p.1)) ρ)) C fun N R q X Y=>h _ _ (kvo_i S er hl (z (N _) q N fun _ e _ n=>e▸n))
 |.ret e,ρ,A,_,k=>xe O S xc e ρ A _ fun v B h=>k (.ret v) B fun N R q X Y=>h _ _ q
 |.expr e,ρ,A,_,k=>xe O S xc e ρ A _ fun v B h=>k (.next ρ) B fun N R q X Y=>h _ _ q
 |.pass,ρ,A,_,k=>k (.next ρ) A fun N R q X Y=>q
 |_,_,_,_,_=>none
noncomputable def xss:(l:List MS)→(ρ:Loc)→(A:σ)→KK XO (GSs O S (call:=call) l ρ A)
 |[],ρ,A,_,k=>k (.next ρ) A fun _ _ q _ _=>q
 |s::r,ρ,A,_,k=>xs s ρ A _ fun o B h=>xoK o (fun ρ' e=>xss r ρ' B _ fun o' C g=>k o' C fun N R q X Y=>h (fun ρ=>swps S call r X Y ρ N R) R (xp_n e (g N R q X Y)) X Y) fun v e=>k (.ret v) B fun N R q X Y=>h (fun ρ=>swps S call r X Y ρ N R) R (xp_r e q) X Y
end
noncomputable def xss0 (l:List MS) (ρ:Loc) (A:σ):Option {p:XO×σ // GSs O S (call:=call) l ρ A p.1 p.2}:=xss O S xc l ρ A _ fun o B h=>some ⟨(o,B),h⟩
end
noncomputable def xF {σ:Type} (O:Ops σ) (S:Stat) (F:Addr→Option Fun):(n:Nat)→XC O (wpF S F n)
 |0=>fun _ _ _ _ _=>none
 |n+1=>fun f vs A _ k=>witK (F f) fun d hd=>chkK (decide (vs.length=d.params)) fun hl=>xss O S (xF O S F n) d.body (args0 vs) A _ fun o B h =>
  xoK o (fun _ e=>k .none B fun Q q=>wpF_i hd (of_decide_eq_true hl) (h (fun _=>Q (.ok .none)) (fun v=>Q (.ok v)) (xp_n e q) _ _)) fun v e=>k v B fun Q q=>wpF_i hd (of_decide_eq_true hl) (h (fun _=>Q (.ok .none)) (fun v=>Q (.ok v)) (xp_r e q) _ _)
noncomputable def xF0 {σ:Type} (O:Ops σ) (S:Stat) (F:Addr→Option Fun) (n:Nat) (f:Addr) (vs:List AV) (A:σ):Option {p:AV×σ // GF O (wpF S F n) f vs A p.1 p.2}:=xF O S F n f vs A _ fun v B h=>some ⟨(v,B),h⟩
theorem swps_append {S:Stat} {call:Callee} {a b:List MS} {X Y:Loc→AV→AH→Prop} {ρ:Loc} {N:Loc→AH→Prop} {R:AV→AH→Prop}:swps S call (a++b) X Y ρ N R=swps S call a X Y ρ (fun ρ=>swps S call b X Y ρ N R) R:=by
 induction a generalizing ρ with
 |nil=>rfl
 |cons s r ih=>exact congrArg (fun k=>swp S call s X Y ρ k R) (funext fun ρ=>ih)
noncomputable abbrev XH:=List AO
noncomputable def hv (A:XH):AH
 |.f k=>A[k]?
 |_=>none
theorem hvF {A:XH} {k:Nat}:hv A (.f k)=A[k]?:=rfl
theorem hv_new (A:XH):hv A (.f A.length)=none:=List.getElem?_eq_none (Nat.le_refl _)
theorem hv_push (A:XH) (o:AO):upd (hv A) (.f A.length) o=hv (A++[o]):=by
 funext a
 induction a using AA.casesOn with
 |f k =>
  by_cases h:k=A.length
  ·subst h; simp[upd,hvF]
  ·have h':AA.f k≠.f A.length:=by simpa using h
   simp only[upd,if_neg h',hvF];rcases Nat.lt_or_ge k A.length with h1|h1
   ·rw[List.getElem?_append_left h1]
   ·rw[List.getElem?_eq_none h1,List.getElem?_eq_none (by simp; lia)]
 |_=>rfl
theorem hv_set (A:XH) (k:Nat) (o:AO) (h:k<A.length):upd (hv A) (.f k) o=hv (A.set k o):=by
 funext a
 induction a using AA.casesOn with
 |f j =>
  by_cases e:j=k
  ·subst e; simp[upd,hvF,h]
  ·have h':AA.f j≠.f k:=by simpa using e
   simp only[upd,if_neg h',hvF,List.getElem?_set_ne (Ne.symm e)]
 |_=>rfl
noncomputable def xnew (A:XH) (o:AO):{p:AV×XH // ∀Q:AV→AH→Prop,Q p.1 (hv p.2)→newO (hv A) o Q}:=⟨(.ref (.f A.length),A++[o]),fun Q q=>.inr ⟨_,hv_new A,hv_push A o▸q⟩⟩
noncomputable def opX (kd:Nat→Nat):Ops XH where
 hv:=hv
 new A o:=some (xnew A o)
 dict A:=match kd A.length with
  |2=>some ⟨(xnew A (.td [])).1,fun Q q=>.inr (.inr ((xnew A (.td [])).2 Q q))⟩
  |1=>some ⟨(xnew A (.id [])).1,fun Q q=>.inr (.inl ((xnew A (.id [])).2 Q q))⟩
  |_=>some ⟨(xnew A (.sd [])).1,fun Q q=>.inl ((xnew A (.sd [])).2 Q q)⟩
 upd A a o:=match a with
  |.f k=>(chk (decide (k<A.length))).bind fun h=>some ⟨A.set k o,(hv_set A k o (of_decide_eq_true h.1)).symm⟩
  |_=>none
 inst A C:=some ⟨((.f (A.length+1),.f A.length),(A++[.ns []])++[.inst C (.f A.length)]),List.getElem?_eq_none (Nat.le_succ _),hv_new A,by simp,by
  have e:(A++[AO.ns []]).length=A.length+1:=by simp
  refine rwE (hv_push ..) ?_; refine rwS (e ..) ?_; exact (hv_push _ _).symm⟩
noncomputable def opR (H:AH):Ops Unit:=⟨fun _=>H,fun _ _=>none,fun _=>none,fun _ _ _=>none,fun _ _=>none⟩
structure RRun (S:Stat) (H:AH) (n:Nat) (f:Addr) (vs:List AV) (v:AV):Prop where
 h:(xF0 (opR H) S funs n f vs ()).map (·.1.1)=some v
theorem RRun.ok {S:Stat} {H:AH} {n:Nat} {f:Addr} {vs:List AV} {v:AV} (r:RRun S H n f vs v) {Q:Post} (q:Q (.ok v) H):wpF S funs n f vs Q H:=by
 obtain⟨p,_,rfl⟩:=Option.map_eq_some_iff.mp r.h;exact p.2 Q q
inductive B0 where
 |i4|u4|u1|i8|e|o|a|b|q4
 deriving DecidableEq
inductive Nm where
 |s (x:B0)|u8|t|qe|arr (x:B0)|err (p:Fin 7)
 deriving DecidableEq
noncomputable def s0:B0→List Nat
 |.i4=>[105,52]|.u4=>[117,52]|.u1=>[117,49]|.i8=>[105,56]|.e=>[101]|.o=>[111]|.a=>[97]|.b=>[98]|.q4=>[63,105,52]
noncomputable def errS:Fin 7→List Nat:=fun p=>([[33,110,117,108,108],[33,105,110,100,101,120],[33,99,97,115,116],[33,111,118,101,114],[33,115,116,111,114,101],[33,118,97,108,117,101],[33,109,101,109,111,114,121]]:List (List Nat)).getD p.val []
noncomputable def nmT:Nm→List Nat
 |.s x=>s0 x|.u8=>[117,56]|.t=>[116]|.qe=>[63,101]|.arr x=>s0 x++[91,93]|.err p=>errS p
noncomputable def k0:B0→Int
 |.i4=>7|.u4=>8|.u1=>4|.i8=>9|.e=>18|.o=>12|.a=>16|.b=>17|.q4=>19
noncomputable def nmK:Nm→Int
 |.s x=>k0 x|.u8=>10|.t=>13|.qe=>20
 |.arr .i4=>21|.arr .u4=>22|.arr .u1=>23|.arr .i8=>24|.arr .e=>25|.arr .o=>26|.arr .a=>27|.arr .b=>28|.arr .q4=>29
 |.err p=>30+(p.val:Int)
theorem pr {n k:Nat} (h:k+1≤n):∃m,n=m+1:=⟨n - 1,(Nat.sub_add_cancel (Nat.le_trans (Nat.succ_le_succ (Nat.zero_le k)) h)).symm⟩
@[elab_as_elim] theorem prC {b n:Nat} {C:Nat→Prop} (h:b≤n) (z:Nat.ble 1 b=true) (c:∀m,b≤m+1→C (m+1)):C n:=by
 obtain⟨m,rfl⟩:=pr (Nat.le_trans (Nat.le_of_ble_eq_true z) h); exact c m h
theorem prk {n j:Nat} (h:j≤n):∃m,n=m+j:=⟨n - j,(Nat.sub_add_cancel h).symm⟩
theorem fB {a b m:Nat} (h:b≤m+1) (q:Nat.ble (a+1) b=true):a≤m:=Nat.le_of_succ_le_succ (Nat.le_trans (Nat.le_of_ble_eq_true q) h)
inductive U4 where
 |i4|u1|i8|u4
 deriving DecidableEq
noncomputable def U4.b:U4→B0
 |.i4=>.i4|.u1=>.u1|.i8=>.i8|.u4=>.u4
noncomputable def uS:U4→List Nat
 |.i4=>[105,52]|.u1=>[117,49]|.i8=>[105,56]|.u4=>[117,52]
noncomputable def uK:U4→Int
 |.i4=>7|.u1=>4|.i8=>9|.u4=>8
structure Th where
 nm:Nm
 slots:List AV
 text:Option (List Nat)
structure Cst where
 zs:List Int
 u:U4
 pb:Bool
 fm:Nat→Bool
structure Wd where
 things:List Th
 rows:List Th
 arrays:List Int
 at':Int
 bad:List Nat
 steps:Int
 nested:Int
 holes:List AV
 defaults:List (Int×AV)
 pend2:Option (List AV)
 pend3:Option (List AV)
noncomputable def textV:Option (List Nat)→AV
 |none=>.none
 |some x=>.str x
noncomputable def itemNs (j:Nat) (t:Th):List (Nat×AV):=[(29,.int ((j:Int)+1)),(30,.int (nmK t.nm)),(31,.ref (.r 2 j)),(32,textV t.text),(0,.junk),(33,.int 0),(34,.none)]
noncomputable def rowV (j:Nat) (t:Th):AV:=.tup [.str (nmT t.nm),.ref (.r 3 j),textV t.text]
noncomputable def wSd (c:Cst) (W:Wd):List (List Nat×AV):=[([115,99,114,105,112,116],.ref (.f 0)),([97,116],.int W.at'),([101,118],.ref (.f 27)),([97,99,116],.ref (.f 80)),([107,105,110,100,115],.ref (.f 85)),([114,111,119,115],.ref (.f 87)),([97,114,114,97,121,115],.ref (.f 88)),([98,97,100],.str W.bad),([102,111,114,109,115],.ref (.f 89)),([117,110,100,101,114],.str (uS c.u)),([112,97,105,114,115],.ref (.f 91))]
noncomputable def evNs (W:Wd):List (Nat×AV):=[(44,.ref (.f 16)),(17,.ref (.f 2)),(10,.ref (.f 4)),(45,.none),(46,.ref (.f 28)),(47,.ref (.f 29)),(23,.ref (.f 30)),(48,.ref (.f 31)),(49,.ref (.f 32)),(50,.int W.steps),(51,.int 100000),(52,.int 0),(53,.int W.nested),(54,.ref (.f 33)),(55,.int 0),(56,.ref (.f 34)),(57,.ref (.f 35)),(58,.ref (.f 36)),(59,.ref (.f 37)),(60,.ref (.f 38)),(61,.ref (.f 41)),(62,.ref (.f 68)),(63,.ref (.f 43)),(64,.ref (.f 44)),(65,.ref (.f 45)),(66,.ref (.f 46)),(67,.ref (.f 47)),(68,.ref (.f 48)),(69,.ref (.f 49)),(70,.ref (.f 51)),(71,.ref (.f 53)),(72,.none),(73,.ref (.f 54)),(74,.ref (.f 55))]
noncomputable def kR0:List AV:=[.tup [.int 1,.int 0],.tup [.int 1,.int 1],.tup [.int 1,.int 2],.tup [.int 1,.int 3],.tup [.int 1,.int 4],.tup [.int 1,.int 5],.tup [.int 1,.int 6],.tup [.int 1,.int 7],.tup [.int 1,.int 8],.tup [.int 1,.int 9],.tup [.int 1,.int 10],.tup [.int 1,.int 11],.tup [.int 1,.int 12],.tup [.int 1,.int 13],.tup [.int 1,.int 14],.tup [.int 1,.int 15],.tup [.int 2,.int 64,.tup []],.tup [.int 2,.int 65,.tup []],.tup [.int 3,.int 66,.tup []],.tup [.int 3,.int 8,.tup [.int 7]],.tup [.int 3,.int 8,.tup [.int 18]],.tup [.int 4,.int 7],.tup [.int 4,.int 8],.tup [.int 4,.int 4],.tup [.int 4,.int 9],.tup [.int 4,.int 18],.tup [.int 4,.int 12],.tup [.int 4,.int 16],.tup [.int 4,.int 17],.tup [.int 4,.int 19]]
noncomputable def kE:List AV:=[21,22,23,26,27,29,30].map fun t=>.tup [.int 2,.int t,.tup []]
noncomputable def kIx0:List (TK×AV):=[([.i 1,.i 0],.int 0),([.i 1,.i 1],.int 1),([.i 1,.i 2],.int 2),([.i 1,.i 3],.int 3),([.i 1,.i 4],.int 4),([.i 1,.i 5],.int 5),([.i 1,.i 6],.int 6),([.i 1,.i 7],.int 7),([.i 1,.i 8],.int 8),([.i 1,.i 9],.int 9),([.i 1,.i 10],.int 10),([.i 1,.i 11],.int 11),([.i 1,.i 12],.int 12),([.i 1,.i 13],.int 13),([.i 1,.i 14],.int 14),([.i 1,.i 15],.int 15),([.i 2,.i 64,.t []],.int 16),([.i 2,.i 65,.t []],.int 17),([.i 3,.i 66,.t []],.int 18),([.i 3,.i 8,.t [7]],.int 19),([.i 3,.i 8,.t [18]],.int 20),([.i 4,.i 7],.int 21),([.i 4,.i 8],.int 22),([.i 4,.i 4],.int 23),([.i 4,.i 9],.int 24),([.i 4,.i 18],.int 25),([.i 4,.i 12],.int 26),([.i 4,.i 16],.int 27),([.i 4,.i 17],.int 28),([.i 4,.i 19],.int 29)]
noncomputable def kEx:List (TK×AV):=[(21,30),(22,31),(23,32),(26,33),(27,34),(29,35),(30,36)].map fun p=>([.i 2,.i p.1,.t []],.int p.2)
noncomputable def kDep0:List AV:=[.int 1,.int 1,.int 1,.int 1,.int 1,.int 1,.int 1,.int 1,.int 1,.int 1,.int 1,.int 1,.int 1,.int 1,.int 1,.int 1,.int 1,.int 1,.int 1,.int 2,.int 2,.int 2,.int 2,.int 2,.int 2,.int 2,.int 2,.int 2,.int 2,.int 3]
noncomputable def kSd0:List (List Nat×AV):=[([117,49],.int 4),([105,52],.int 7),([117,52],.int 8),([105,56],.int 9),([117,56],.int 10),([111],.int 12),([116],.int 13),([97],.int 16),([98],.int 17),([101],.int 18),([63,105,52],.int 19),([63,101],.int 20),([105,52,91,93],.int 21),([117,52,91,93],.int 22),([117,49,91,93],.int 23),([105,56,91,93],.int 24),([101,91,93],.int 25),([111,91,93],.int 26),([97,91,93],.int 27),([98,91,93],.int 28),([63,105,52,91,93],.int 29)]
noncomputable def kES:List (List Nat×AV):=[([33,110,117,108,108],.int 30),([33,105,110,100,101,120],.int 31),([33,99,97,115,116],.int 32),([33,111,118,101,114],.int 33),([33,115,116,111,114,101],.int 34),([33,118,97,108,117,101],.int 35),([33,109,101,109,111,114,121],.int 36)]
noncomputable def kinTd:Bool→List (TK×AV)
 |true=>[([.i 28,.i 27],.int 1),([.i 27,.i 26],.int 1),([.i 21,.i 22],.int 1),([.i 17,.i 16],.int 1),([.i 28,.i 26],.int 1)]
 |false=>[([.i 28,.i 27],.int 1),([.i 27,.i 26],.int 1),([.i 21,.i 22],.int 1)]
noncomputable def pairTd:Bool→List (TK×AV)
 |true=>[([.s [98,91,93],.s [97,91,93]],.int 1),([.s [97,91,93],.s [111,91,93]],.int 1),([.s [105,52,91,93],.s [117,52,91,93]],.int 1),([.s [98],.s [97]],.int 1),([.s [98,91,93],.s [111,91,93]],.int 1)]
 |false=>[([.s [98,91,93],.s [97,91,93]],.int 1),([.s [97,91,93],.s [111,91,93]],.int 1),([.s [105,52,91,93],.s [117,52,91,93]],.int 1)]
noncomputable def typL:List AV:=[.none,.none,.none,.none,.none,.none,.none,.none,.ref (.f 95),.none,.none,.none,.none,.none,.none,.none,.none,.none,.none,.none,.none,.none,.none,.none,.none,.none,.none,.none,.none,.none,.none,.none,.none,.none,.none,.none,.none,.none,.none,.none,.none,.none,.none,.none,.none,.none,.none,.none,.none,.none,.none,.none,.none,.none,.none,.none,.none,.none,.none,.none,.none,.none,.none,.none,.none,.none,.ref (.f 106)]
noncomputable def e66 (c:Cst):List (Nat×AV):=[(87,.int 66),(88,.str [69]),(89,.int 5),(90,.int 0),(91,.int (-1)),(93,.ref (.f 107)),(92,.ref (.f 108)),(94,.ref (.f 109)),(95,.ref (.f 110)),(96,.ref (.f 111)),(13,.ref (.f 112)),(18,.int 1),(97,.int 0),(98,.int (uK c.u)),(99,.ref (.f 113)),(100,.ref (.f 114)),(101,.ref (.f 115)),(102,.int 0),(103,.int 0)]
noncomputable def thL (n:Nat):List AV:=.none::(List.range n).map fun j=>.ref (.r 0 j)
noncomputable def rowL0 (M:List Th):List AV:=.tup [.str [],.ref (.f 86),.none]::M.mapIdx rowV
noncomputable def layL (p:Nat):List (Int×AV):=[(30,.ref (.f 121)),(31,.ref (.f 127)),(32,.ref (.f 133)),(33,.ref (.f 139)),(34,.ref (.f 145)),(35,.ref (.f 151)),(36,.ref (.f 157))].take p
noncomputable def formI:Bool→Int
 |true=>1
 |false=>0
noncomputable def formL (c:Cst):Nat→List AV
 |0=>[]
 |p+1=>formL c p++[.int (formI (c.fm p))]
noncomputable def shpS:Bool→List (Int×AV)
 |true=>[(2,.int 0),(1,.int 1),(64,.int 2)]
 |false=>[(1,.int 0),(2,.int 1)]
noncomputable def shpF:Bool→List AV
 |true=>[.int 2,.int 1,.int 64]
 |false=>[.int 1,.int 2]
noncomputable def shpK:Bool→AV
 |true=>.tup [.int 12,.int 13,.int 7]
 |false=>.tup [.int 13,.int 12]
noncomputable def shp (i:Nat) (b:Bool):List AO:=[.id (shpS b),.list [],.list [],.list (shpF b),.ns [(104,shpK b),(31,.ref (.f i)),(47,.ref (.f (i+1))),(105,.ref (.f (i+2))),(106,.ref (.f (i+3)))],.inst 923 (.f (i+4))]
noncomputable def shps (c:Cst):Nat→List AO
 |0=>[]
 |p+1=>shps c p++shp (116+6*p) (c.fm p)
noncomputable def fixA (p:Nat) (fl:List AV) (c:Cst) (W:Wd):List AO:=[
 .list (c.zs.map .int),
 .ns [(10,.ref (.f 4)),(11,.ref (.f 93)),(12,.ref (.f 11)),(13,.ref (.f 12)),(14,.ref (.f 13)),(15,.ref (.f 14)),(16,.int 0)],
 .inst 337 (.f 1),
 .ns [(0,.ref (.f 5)),(1,.ref (.f 6)),(2,.ref (.f 7)),(3,.ref (.f 8)),(4,.ref (.f 9))],
 .inst 134 (.f 3),
 .list (kR0++kE.take p),
 .td (kIx0++kEx.take p),
 .list (kDep0++List.replicate p (.int 1)),
 .list (kDep0++List.replicate p (.int 1)),
 .list (List.replicate (30+p) (.int 0)),
 .list [.none],
 .list [.none],
 .list [.none],
 .sd [],
 .list [],
 .ns [(17,.ref (.f 2)),(18,.int 0),(19,.ref (.f 17)),(20,.ref (.f 18)),(21,.ref (.f 19)),(22,.ref (.f 21)),(23,.ref (.f 23)),(24,.ref (.f 24)),(25,.ref (.f 25))],
 .inst 407 (.f 15),
 .list [.none],
 .list [.none],
 .sd [],
 .ns [(0,.ref (.f 22))],
 .inst 386 (.f 20),
 .list [],
 .sd [],
 .sd [],
 .sd [],
 .ns (evNs W),
 .inst 1000 (.f 26),
 .list (thL W.things.length),
 .sd [],
 .sd [],
 .sd [],
 .list [],
 .list [],
 .sd [],
 .sd [],
 .id (layL p),
 .td (kinTd c.pb),
 .list [],
 .sd [],
 .ns [(0,.ref (.f 39))],
 .inst 657 (.f 40),
 .sd [],
 .id [(6,.ref (.f 70))],
 .id [(6,.ref (.f 72))],
 .sd [],
 .sd [],
 .sd [],
 .sd [],
 .sd [],
 .ns [],
 .inst 608 (.f 50),
 .ns [],
 .inst 629 (.f 52),
 .id W.defaults,
 .sd [],
 .ns [],
 .inst 1129 (.f 56),
 .ns [],
 .inst 1176 (.f 58),
 .ns [],
 .inst 1254 (.f 60),
 .ns [],
 .inst 1273 (.f 62),
 .ns [],
 .inst 1306 (.f 64),
 .ns [],
 .inst 1325 (.f 66),
 .id [(90,.ref (.f 57)),(6,.ref (.f 59)),(7,.ref (.f 61)),(10,.ref (.f 63)),(22,.ref (.f 65)),(23,.ref (.f 67)),(19,.ref (.f 74)),(20,.ref (.f 76)),(21,.ref (.f 78))],
 .ns [],
 .inst 1195 (.f 69),
 .ns [],
 .inst 1228 (.f 71),
 .ns [],
 .inst 1393 (.f 73),
 .ns [],
 .inst 1412 (.f 75),
 .ns [],
 .inst 1438 (.f 77),
 .ns [(29,.int 1),(35,.none),(36,.ref (.f 81)),(37,.int 0),(38,.tup []),(39,.tup []),(40,.ref (.f 82)),(41,.ref (.f 83)),(42,.ref (.f 84)),(43,.int 0)],
 .inst 489 (.f 79),
 .sd [],
 .list [],
 .list W.holes,
 .sd [],
 .sd (kSd0++kES.take p),
 .list [],
 .list (rowL0 W.rows),
 .list (W.arrays.map .int),
 .list fl,
 .sd (wSd c W),
 .td (pairTd c.pb),
 .list [.none],
 .list typL,
 .ns [(87,.int 8),(88,.str [78,117,108,108,97,98,108,101]),(89,.int 2),(90,.int 0),(91,.int (-1)),(93,.ref (.f 96)),(92,.ref (.f 97)),(94,.ref (.f 98)),(95,.ref (.f 99)),(96,.ref (.f 100)),(13,.ref (.f 101)),(18,.int 0),(97,.int 0),(98,.int (-1)),(99,.ref (.f 102)),(100,.ref (.f 103)),(101,.ref (.f 104)),(102,.int 0),(103,.int 0)],
 .inst 316 (.f 94),
 .list [],
 .list [.str [84]],
 .list [.int 0],
 .list [.tup [.int 0,.tup []]],
 .list [],
 .list [],
 .list [],
 .list [],
 .list [],
 .ns (e66 c),
 .inst 316 (.f 105),
 .list [],
 .list [],
 .list [],
 .list [],
 .list [],
 .list [],
 .list [],
 .list [],
 .list []]
noncomputable def fixP (p:Nat) (c:Cst) (W:Wd):List AO:=fixA p (formL c p) c W++shps c p
noncomputable def fix (c:Cst) (W:Wd):List AO:=fixP 7 c W
noncomputable def mk (c:Cst) (W:Wd) (T:List AO):AH
 |.f n=>(fix c W)[n]?
 |.r 0 j=>(W.things[j]?).map fun _=>.inst 468 (.r 1 j)
 |.r 1 j=>(W.things[j]?).map fun t=>.ns (itemNs j t)
 |.r 2 j=>((W.things.map (·.slots)++W.pend2.toList)[j]?).map .list
 |.r 3 j=>((W.rows.map (·.slots)++W.pend3.toList)[j]?).map .list
 |.r (_+4) _=>none
 |.t n=>T[n]?
theorem oKi {α:Type} {o:Option α} {f:α→Prop} {a:α} (h:o=some a) (k:f a):oK o f:=by rw[h]; exact k
theorem dT {p:Prop} [d:Decidable p] {A B:AH→Prop} {H:AH} (h:p) (k:A H):Decidable.rec (motive:=fun _=>AH→Prop) (fun _=>B) (fun _=>A) (instDecidableEqBool (decide p) true) H:=by
 have e:decide p=true:=decide_eq_true h;refine rwE (show instDecidableEqBool (decide p) true=isTrue e from Subsingleton.elim _ _) ?_; exact k
theorem dF {p:Prop} [d:Decidable p] {A B:AH→Prop} {H:AH} (h:¬p) (k:B H):Decidable.rec (motive:=fun _=>AH→Prop) (fun _=>B) (fun _=>A) (instDecidableEqBool (decide p) true) H:=by
 have e:¬decide p=true:=by simpa using h
 refine rwE (show instDecidableEqBool (decide p) true=isFalse e from Subsingleton.elim _ _) ?_; exact k
theorem dI {p:Prop} [d:Decidable p] {A B:AH→Prop} {H:AH} (k1:p→A H) (k2:¬p→B H):Decidable.rec (motive:=fun _=>AH→Prop) (fun _=>B) (fun _=>A) (instDecidableEqBool (decide p) true) H:=by
 by_cases h:p
 ·exact dT h (k1 h)
 ·exact dF h (k2 h)
section
variable {c:Cst} {W:Wd} {T:List AO}
theorem mkF {n:Nat}:mk c W T (.f n)=(fix c W)[n]?:=rfl
theorem mkR0 {j:Nat}:mk c W T (.r 0 j)=(W.things[j]?).map fun _=>.inst 468 (.r 1 j):=rfl
theorem mkR1 {j:Nat}:mk c W T (.r 1 j)=(W.things[j]?).map fun t=>.ns (itemNs j t):=rfl
theorem mkR2 {j:Nat}:mk c W T (.r 2 j)=((W.things.map (·.slots)++W.pend2.toList)[j]?).map .list:=rfl
theorem mkR3 {j:Nat}:mk c W T (.r 3 j)=((W.rows.map (·.slots)++W.pend3.toList)[j]?).map .list:=rfl
theorem mkT {n:Nat}:mk c W T (.t n)=T[n]?:=rfl
theorem mk_f {W':Wd} {k:Nat} {o:AO} (h:(fix c W).set k o=fix c W') (hk:k<116) (e1:W'.things=W.things) (e2:W'.rows=W.rows) (e3:W'.pend2=W.pend2) (e4:W'.pend3=W.pend3):upd (mk c W T) (.f k) o=mk c W' T:=by
 funext a
 dsimp only[upd];split
 ·subst a;simp only[mkF,←h];rw[List.getElem?_set_self (by simp[fix,fixP,fixA]; lia)]
 ·rename_i ne
  induction a using AA.casesOn with
  |f j=>simp only[mkF,←h]; rw[List.getElem?_set_ne]; intro e; exact ne (by (refine rwE e ?_; rfl))
  |r k j =>
   match k with
   |0=>simp[mkR0,e1]
   |1=>simp[mkR1,e1]
   |2=>simp[mkR2,e1,e3]
   |3=>simp[mkR3,e2,e4]
   |_+4=>rfl
  |t n=>rfl
theorem u_at {x:Int}:upd (mk c W T) (.f 90) (.sd (stq (wSd c W) [97,116] (.int x)))=mk c { W with at':=x } T:=mk_f rfl (by decide) rfl rfl rfl rfl
theorem u_bad {x:List Nat}:upd (mk c W T) (.f 90) (.sd (stq (wSd c W) [98,97,100] (.str x)))=mk c { W with bad:=x } T:=mk_f rfl (by decide) rfl rfl rfl rfl
theorem u_steps {x:Int}:upd (mk c W T) (.f 26) (.ns (nsPut (evNs W) 50 (.int x)))=mk c { W with steps:=x } T:=mk_f rfl (by decide) rfl rfl rfl rfl
theorem u_nested {x:Int}:upd (mk c W T) (.f 26) (.ns (nsPut (evNs W) 53 (.int x)))=mk c { W with nested:=x } T:=mk_f rfl (by decide) rfl rfl rfl rfl
theorem u_holes {x:List AV}:upd (mk c W T) (.f 83) (.list x)=mk c { W with holes:=x } T:=mk_f rfl (by decide) rfl rfl rfl rfl
theorem u_defaults {x:List (Int×AV)}:upd (mk c W T) (.f 54) (.id x)=mk c { W with defaults:=x } T:=mk_f rfl (by decide) rfl rfl rfl rfl
theorem u_arrays {x:Int}:upd (mk c W T) (.f 88) (.list (W.arrays.map .int++[.int x]))=mk c { W with arrays:=W.arrays++[x] } T:=by
 refine mk_f ?_ (by decide) rfl rfl rfl rfl;have e:(W.arrays++[x]).map AV.int=W.arrays.map .int++[.int x]:=by simp
 show (fixA 7 (formL c 7) c W++shps c 7).set 88 _=fixA 7 (formL c 7) c { W with arrays:=W.arrays++[x] }++shps c 7
 unfold fixA;rw[e];rfl
theorem t_new:mk c W T (.t T.length)=none:=by simp[mkT]
theorem u_new {o:AO}:upd (mk c W T) (.t T.length) o=mk c W (T++[o]):=by
 funext a
 dsimp only[upd];split
 ·subst a; simp[mkT]
 ·rename_i ne
  induction a using AA.casesOn with
  |t j =>
   dsimp only[mkT];rcases Nat.lt_trichotomy j T.length with h|h|h
   ·refine rwE (List.getElem?_append_left h) ?_; rfl
   ·exact absurd (by refine rwE h ?_; rfl) ne
   ·refine rwE (List.getElem?_eq_none (by lia)) ?_; refine rwE (List.getElem?_eq_none (by simp; lia)) ?_; rfl
  |f _=>rfl
  |r k j=>match k with
   |0=>rfl
   |1=>rfl
   |2=>rfl
   |3=>rfl
   |_+4=>rfl
theorem t_get {o:AO}:mk c W (T++[o]) (.t T.length)=some o:=by simp[mkT]
theorem newT {o:AO} {Q:AV→AH→Prop} (q:Q (.ref (.t T.length)) (mk c W (T++[o]))):newO (mk c W T) o Q:=.inr ⟨_,t_new,by refine rwE u_new ?_; exact q⟩
theorem p2_new (h:W.pend2=none):mk c W T (.r 2 W.things.length)=none:=by simp[mkR2,h]
theorem u_p2 {x:List AV} (h:W.pend2=none):upd (mk c W T) (.r 2 W.things.length) (.list x)=mk c { W with pend2:=some x } T:=by
 funext a
 unfold upd;split
 ·subst a; simp[mkR2]
 ·rename_i ne
  induction a using AA.casesOn with
  |r k j=>match k with
   |0=>rfl
   |1=>rfl
   |3=>rfl
   |_+4=>rfl
   |2 =>
    simp only[mkR2,h,Option.toList];have hj:j≠W.things.length:=fun e=>ne (by rw[e]);rcases Nat.lt_or_ge j W.things.length with h1|h1
    ·rw[List.getElem?_append_left (by simpa using h1),List.getElem?_append_left (by simpa using h1)]
    ·rw[List.getElem?_eq_none (by simp; lia),List.getElem?_eq_none (by simp; lia)]
  |f _=>rfl
  |t _=>rfl
theorem newP2 {x:List AV} {Q:AV→AH→Prop} (h:W.pend2=none) (q:Q (.ref (.r 2 W.things.length)) (mk c { W with pend2:=some x } T)):newO (mk c W T) (.list x) Q:=.inr ⟨_,p2_new h,by refine rwE (u_p2 h) ?_; exact q⟩
theorem p3_new (h:W.pend3=none):mk c W T (.r 3 W.rows.length)=none:=by simp[mkR3,h]
theorem u_p3 {x:List AV} (h:W.pend3=none):upd (mk c W T) (.r 3 W.rows.length) (.list x)=mk c { W with pend3:=some x } T:=by
 funext a
 unfold upd;split
 ·subst a; simp[mkR3]
 ·rename_i ne
  induction a using AA.casesOn with
  |r k j=>match k with
   |0=>rfl
   |1=>rfl
   |2=>rfl
   |_+4=>rfl
   |3 =>
    simp only[mkR3,h,Option.toList];have hj:j≠W.rows.length:=fun e=>ne (by rw[e]);rcases Nat.lt_or_ge j W.rows.length with h1|h1
    ·rw[List.getElem?_append_left (by simpa using h1),List.getElem?_append_left (by simpa using h1)]
    ·rw[List.getElem?_eq_none (by simp; lia),List.getElem?_eq_none (by simp; lia)]
  |f _=>rfl
  |t _=>rfl
theorem newP3 {x:List AV} {Q:AV→AH→Prop} (h:W.pend3=none) (q:Q (.ref (.r 3 W.rows.length)) (mk c { W with pend3:=some x } T)):newO (mk c W T) (.list x) Q:=.inr ⟨_,p3_new h,by refine rwE (u_p3 h) ?_; exact q⟩
theorem g_p2 {x:List AV} (h:W.pend2=some x):mk c W T (.r 2 W.things.length)=some (.list x):=by simp[mkR2,h]
theorem g_p3 {x:List AV} (h:W.pend3=some x):mk c W T (.r 3 W.rows.length)=some (.list x):=by simp[mkR3,h]
theorem u_p2' {x y:List AV} (h:W.pend2=some x):upd (mk c W T) (.r 2 W.things.length) (.list y)=mk c { W with pend2:=some y } T:=by
 funext a
 unfold upd;split
 ·subst a; simp[mkR2]
 ·rename_i ne
  induction a using AA.casesOn with
  |r k j=>match k with
   |0=>rfl
   |1=>rfl
   |3=>rfl
   |_+4=>rfl
   |2 =>
    simp only[mkR2,h,Option.toList];have hj:j≠W.things.length:=fun e=>ne (by rw[e]);rcases Nat.lt_or_ge j W.things.length with h1|h1
    ·rw[List.getElem?_append_left (by simpa using h1),List.getElem?_append_left (by simpa using h1)]
    ·rw[List.getElem?_eq_none (by simp; lia),List.getElem?_eq_none (by simp; lia)]
  |f _=>rfl
  |t _=>rfl
end
noncomputable def kd (n:Nat):Nat:=if n=6∨n=37 then 2 else if n=36∨n=43∨n=44∨n=54 then 1 else 0
noncomputable def A7 (s:List AV):XH:=[
 .list s,
 .ns [(10,.ref (.f 4)),(11,.ref (.f 10)),(12,.ref (.f 11)),(13,.ref (.f 12)),(14,.ref (.f 13)),(15,.ref (.f 14)),(16,.int 0)],
 .inst 337 (.f 1),
 .ns [(0,.ref (.f 5)),(1,.ref (.f 6)),(2,.ref (.f 7)),(3,.ref (.f 8)),(4,.ref (.f 9))],
 .inst 134 (.f 3),
 .list [.tup [.int 1,.int 0],.tup [.int 1,.int 1],.tup [.int 1,.int 2],.tup [.int 1,.int 3],.tup [.int 1,.int 4],.tup [.int 1,.int 5],.tup [.int 1,.int 6],.tup [.int 1,.int 7],.tup [.int 1,.int 8],.tup [.int 1,.int 9],.tup [.int 1,.int 10],.tup [.int 1,.int 11],.tup [.int 1,.int 12],.tup [.int 1,.int 13],.tup [.int 1,.int 14],.tup [.int 1,.int 15],.tup [.int 2,.int 64,.tup []],.tup [.int 2,.int 65,.tup []],.tup [.int 3,.int 66,.tup []],.tup [.int 3,.int 8,.tup [.int 7]],.tup [.int 3,.int 8,.tup [.int 18]],.tup [.int 4,.int 7],.tup [.int 4,.int 8],.tup [.int 4,.int 4],.tup [.int 4,.int 9],.tup [.int 4,.int 18],.tup [.int 4,.int 12],.tup [.int 4,.int 16],.tup [.int 4,.int 17],.tup [.int 4,.int 19]],
 .td [([.i 1,.i 0],.int 0),([.i 1,.i 1],.int 1),([.i 1,.i 2],.int 2),([.i 1,.i 3],.int 3),([.i 1,.i 4],.int 4),([.i 1,.i 5],.int 5),([.i 1,.i 6],.int 6),([.i 1,.i 7],.int 7),([.i 1,.i 8],.int 8),([.i 1,.i 9],.int 9),([.i 1,.i 10],.int 10),([.i 1,.i 11],.int 11),([.i 1,.i 12],.int 12),([.i 1,.i 13],.int 13),([.i 1,.i 14],.int 14),([.i 1,.i 15],.int 15),([.i 2,.i 64,.t []],.int 16),([.i 2,.i 65,.t []],.int 17),([.i 3,.i 66,.t []],.int 18),([.i 3,.i 8,.t [7]],.int 19),([.i 3,.i 8,.t [18]],.int 20),([.i 4,.i 7],.int 21),([.i 4,.i 8],.int 22),([.i 4,.i 4],.int 23),([.i 4,.i 9],.int 24),([.i 4,.i 18],.int 25),([.i 4,.i 12],.int 26),([.i 4,.i 16],.int 27),([.i 4,.i 17],.int 28),([.i 4,.i 19],.int 29)],
 .list [.int 1,.int 1,.int 1,.int 1,.int 1,.int 1,.int 1,.int 1,.int 1,.int 1,.int 1,.int 1,.int 1,.int 1,.int 1,.int 1,.int 1,.int 1,.int 1,.int 2,.int 2,.int 2,.int 2,.int 2,.int 2,.int 2,.int 2,.int 2,.int 2,.int 3],
 .list [.int 1,.int 1,.int 1,.int 1,.int 1,.int 1,.int 1,.int 1,.int 1,.int 1,.int 1,.int 1,.int 1,.int 1,.int 1,.int 1,.int 1,.int 1,.int 1,.int 2,.int 2,.int 2,.int 2,.int 2,.int 2,.int 2,.int 2,.int 2,.int 2,.int 3],
 .list [.int 0,.int 0,.int 0,.int 0,.int 0,.int 0,.int 0,.int 0,.int 0,.int 0,.int 0,.int 0,.int 0,.int 0,.int 0,.int 0,.int 0,.int 0,.int 0,.int 0,.int 0,.int 0,.int 0,.int 0,.int 0,.int 0,.int 0,.int 0,.int 0,.int 0],
 .list [.none],
 .list [.none],
 .list [.none],
 .sd [],
 .list [],
 .ns [(17,.ref (.f 2)),(18,.int 0),(19,.ref (.f 17)),(20,.ref (.f 18)),(21,.ref (.f 19)),(22,.ref (.f 21)),(23,.ref (.f 23)),(24,.ref (.f 24)),(25,.ref (.f 25))],
 .inst 407 (.f 15),
 .list [.none],
 .list [.none],
 .sd [],
 .ns [(0,.ref (.f 22))],
 .inst 386 (.f 20),
 .list [],
 .sd [],
 .sd [],
 .sd [],
 .ns [(44,.ref (.f 16)),(17,.ref (.f 2)),(10,.ref (.f 4)),(45,.none),(46,.ref (.f 28)),(47,.ref (.f 29)),(23,.ref (.f 30)),(48,.ref (.f 31)),(49,.ref (.f 32)),(50,.int 0),(51,.int 100000),(52,.int 0),(53,.int 0),(54,.ref (.f 33)),(55,.int 0),(56,.ref (.f 34)),(57,.ref (.f 35)),(58,.ref (.f 36)),(59,.ref (.f 37)),(60,.ref (.f 38)),(61,.ref (.f 41)),(62,.ref (.f 68)),(63,.ref (.f 43)),(64,.ref (.f 44)),(65,.ref (.f 45)),(66,.ref (.f 46)),(67,.ref (.f 47)),(68,.ref (.f 48)),(69,.ref (.f 49)),(70,.ref (.f 51)),(71,.ref (.f 53)),(72,.none),(73,.ref (.f 54)),(74,.ref (.f 55))],
 .inst 1000 (.f 26),
 .list [.none],
 .sd [],
 .sd [],
 .sd [],
 .list [],
 .list [],
 .sd [],
 .sd [],
 .id [],
 .td [],
 .list [],
 .sd [],
 .ns [(0,.ref (.f 39))],
 .inst 657 (.f 40),
 .sd [],
 .id [(6,.ref (.f 70))],
 .id [(6,.ref (.f 72))],
 .sd [],
 .sd [],
 .sd [],
 .sd [],
 .sd [],
 .ns [],
 .inst 608 (.f 50),
 .ns [],
 .inst 629 (.f 52),
 .id [],
 .sd [],
 .ns [],
 .inst 1129 (.f 56),
 .ns [],
 .inst 1176 (.f 58),
 .ns [],
 .inst 1254 (.f 60),
 .ns [],
 .inst 1273 (.f 62),
 .ns [],
 .inst 1306 (.f 64),
 .ns [],
 .inst 1325 (.f 66),
 .id [(90,.ref (.f 57)),(6,.ref (.f 59)),(7,.ref (.f 61)),(10,.ref (.f 63)),(22,.ref (.f 65)),(23,.ref (.f 67)),(19,.ref (.f 74)),(20,.ref (.f 76)),(21,.ref (.f 78))],
 .ns [],
 .inst 1195 (.f 69),
 .ns [],
 .inst 1228 (.f 71),
 .ns [],
 .inst 1393 (.f 73),
 .ns [],
 .inst 1412 (.f 75),
 .ns [],
 .inst 1438 (.f 77),
 .ns [(29,.int 1),(35,.none),(36,.ref (.f 81)),(37,.int 0),(38,.tup []),(39,.tup []),(40,.ref (.f 82)),(41,.ref (.f 83)),(42,.ref (.f 84)),(43,.int 0)],
 .inst 489 (.f 79),
 .sd [],
 .list [],
 .list [],
 .sd [],
 .sd [([117,49],.int 4),([105,52],.int 7),([117,52],.int 8),([105,56],.int 9),([117,56],.int 10),([111],.int 12),([116],.int 13),([97],.int 16),([98],.int 17),([101],.int 18),([63,105,52],.int 19),([63,101],.int 20),([105,52,91,93],.int 21),([117,52,91,93],.int 22),([117,49,91,93],.int 23),([105,56,91,93],.int 24),([101,91,93],.int 25),([111,91,93],.int 26),([97,91,93],.int 27),([98,91,93],.int 28),([63,105,52,91,93],.int 29)],
 .list [],
 .list [.tup [.str [],.ref (.f 86),.none]],
 .list [],
 .list [],
 .sd [([115,99,114,105,112,116],.ref (.f 0)),([97,116],.int 0),([101,118],.ref (.f 27)),([97,99,116],.ref (.f 80)),([107,105,110,100,115],.ref (.f 85)),([114,111,119,115],.ref (.f 87)),([97,114,114,97,121,115],.ref (.f 88)),([98,97,100],.str []),([102,111,114,109,115],.ref (.f 89))]]
noncomputable def W0:Wd:=⟨[],[],[],1,[],0,0,[],[],none,none⟩
theorem mk0 (c:Cst):mk c W0 []=hv (fix c W0):=by
 funext a
 induction a using AA.casesOn with
 |f n=>rfl
 |r k j =>
  rcases k with _|_|_|_|k<;>rfl
 |t n=>rfl
theorem nthI {α:Type} {l:List α} {i:Int} (h0:0≤i) (h1:i<l.length) (h2:l.length≤1000000):∃x,nth l i=some x∧x∈l:=by
 unfold nth;rw[if_pos ⟨h0,by lia⟩];have hl:i.toNat<l.length:=by lia
 exact⟨l[i.toNat],List.getElem?_eq_getElem hl,List.getElem_mem hl⟩
section
variable {l:Addr} {zs:List Int} {Q:Post} {n:Nat}
structure XRun (S:Stat) (k:Nat) (b:List MS) (ρ:Loc) (A:XH) (ρ':Loc) (A':XH):Prop where
 h:(xss0 (opX kd) S (xF (opX kd) S funs k) b ρ A).map (·.1)=some (.next ρ',A')
theorem XRun.ok {S:Stat} {k:Nat} {b:List MS} {ρ ρ':Loc} {A A':XH} (r:XRun S k b ρ A ρ' A') {X Y:Loc→AV→AH→Prop} {N:Loc→AH→Prop} {R:AV→AH→Prop} (q:N ρ' (hv A')):swps S (wpF S funs k) b X Y ρ N R (hv A):=by
 obtain⟨⟨⟨_,_⟩,h⟩,_,e⟩:=Option.map_eq_some_iff.mp r.h;cases e;exact h N R q X Y
noncomputable abbrev ρ7:Loc:=setL (setL (setL (args0 [.ref (.f 0)]) 1 (.ref (.f 2))) 2 (.ref (.f 27))) 3 (.ref (.f 90))
theorem x_seven (s:List AV):XRun (sta l zs) 200 (b1707.take 7) (args0 [.ref (.f 0)]) [.list s] (ρ7) (A7 s):=⟨by kernel_rfl⟩
noncomputable def wA (a:Int) (r:List (List Nat×AV)):AO:=.sd ([([115,99,114,105,112,116],.ref (.f 0)),([97,116],.int a),([101,118],.ref (.f 27)),([97,99,116],.ref (.f 80)),([107,105,110,100,115],.ref (.f 85)),([114,111,119,115],.ref (.f 87)),([97,114,114,97,121,115],.ref (.f 88)),([98,97,100],.str []),([102,111,114,109,115],.ref (.f 89))]++r)
noncomputable def A8 (s:List AV):XH:=(A7 s).set 90 (wA 1 [])
noncomputable def A9 (s:List AV) (u:U4):XH:=(A7 s).set 90 (wA 1 [([117,110,100,101,114],.str (uS u))])
theorem u8 (s:List AV):upd (hv (A7 s)) (.f 90) (.sd (stq [([115,99,114,105,112,116],AV.ref (AA.f 0)),([97,116],AV.int 0),([101,118],AV.ref (AA.f 27)),([97,99,116],AV.ref (AA.f 80)),([107,105,110,100,115],AV.ref (AA.f 85)),([114,111,119,115],AV.ref (AA.f 87)),([97,114,114,97,121,115],AV.ref (AA.f 88)),([98,97,100],AV.str []),([102,111,114,109,115],AV.ref (AA.f 89))] [97,116] (AV.int (0+1))))=hv (A8 s):=hv_set _ _ _ (of_decide_eq_true rfl)
theorem c_any7 (xs:List Int) (hz:xs.length≤1000) (q:∀z:Int,Q (.ok (.int z)) (hv (A8 (xs.map .int)))):wpF (sta l zs) funs (n+1) 1632 [.ref (.f 90)] Q (hv (A7 (xs.map .int))):=by
 refine unf (d:=⟨1,b1632⟩) rfl rfl ?_;have e3:lenA (sta l zs) (hv (A8 (xs.map .int))) (.ref (.f 0))=some xs.length:=by
  show (if (xs.map AV.int).length≤1000000 then some (xs.map AV.int).length else none)=_
  with_reducible refine rwE (List.length_map ..) ?_; with_reducible refine rwE (if_pos (by lia) ..) ?_; rfl
 refine⟨of_decide_eq_true rfl,?_⟩;with_reducible refine rwE (u8 ..) ?_
 refine oKi e3 ?_;refine dI (fun h1=>?_) (fun h1=>?_)
 ·conv=>whnf
  refine E12 (nthI (l:=xs.map AV.int) (i:=0) (by decide) (by simpa using h1) (by simp; lia)) fun x ex hx=>?_;refine E12 (List.mem_map.mp hx) fun z _ eq2=>?_; subst eq2;exact oKi (a:=.int z) ex (q _)
 ·conv=>whnf
  exact q _
noncomputable def A11 (s:List AV) (u:U4) (b:Bool):XH:=(A9 s u).set 90 (wA 1 [([117,110,100,101,114],.str (uS u)),([112,97,105,114,115],.ref (.f 91))])++[.td (pairTd b)]
theorem x_ten (s:List AV) (u:U4) (z:Int):XRun (sta l zs) 200 ((b1707.drop 9).take 1) (setL ρ7 4 (.int z)) (A9 s u) (setL ρ7 4 (.int z)) (A11 s u false):=⟨by kernel_rfl⟩
theorem x_br (s:List AV) (u:U4) (z:Int):XRun (sta l zs) 200 [.asg (.sub (.sub (.loc 3) (.val (.str [112,97,105,114,115]))) (.tup [(.val (.str [98])),(.val (.str [97]))])) (.val (.int (1))),.asg (.sub (.sub (.loc 3) (.val (.str [112,97,105,114,115]))) (.tup [(.val (.str [98,91,93])),(.val (.str [111,91,93]))])) (.val (.int (1)))] (setL ρ7 4 (.int z)) (A11 s u false) ((setL ρ7 4 (.int z))) (A11 s u true):=⟨by kernel_rfl⟩
noncomputable def ρ12 (z:Int) (b:Bool):Loc:=((pairTd b).map (·.1)).foldl (fun ρ k=>setL ρ 5 (tkV k)) (setL ρ7 4 (.int z))
theorem x_rest (c:Cst) (z:Int):XRun (sta l zs) 200 ((b1707.drop 11).take 5) (setL ρ7 4 (.int z)) (A11 (c.zs.map .int) c.u c.pb) ((ρ12 z c.pb)) (fixP 0 c W0):=by
 obtain⟨cz,u,pb,fm⟩:=c;cases u<;>cases pb<;>exact⟨by kernel_rfl⟩
noncomputable def v5:Bool→AV
 |true=>tkV [.s [98,91,93],.s [111,91,93]]
 |false=>tkV [.s [105,52,91,93],.s [117,52,91,93]]
theorem setL_same (ρ:Loc) (i:Nat) (a b:AV):setL (setL ρ i a) i b=setL ρ i b:=by
 funext j; unfold setL; split<;>rfl
theorem ρ12_eq (z:Int) (b:Bool):ρ12 z b=setL (setL ρ7 4 (.int z)) 5 (v5 b):=by
 cases b<;>simp[ρ12,pairTd,setL_same,v5]
noncomputable def lb:List MS:=match b1707.drop 16 with
 |.forr _ _ b::_=>b
 |_=>[]
noncomputable def tW:Nat→List AV
 |0=>[.str [33,110,117,108,108],.int 21,.str [79,98,106,101,99,116,32,114,101,102,101,114,101,110,99,101,32,110,111,116,32,115,101,116,32,116,111,32,97,110,32,105,110,115,116,97,110,99,101,32,111,102,32,97,110,32,111,98,106,101,99,116,46]]
 |1=>[.str [33,105,110,100,101,120],.int 22,.str [73,110,100,101,120,32,119,97,115,32,111,117,116,115,105,100,101,32,116,104,101,32,98,111,117,110,100,115,32,111,102,32,116,104,101,32,97,114,114,97,121,46]]
 |2=>[.str [33,99,97,115,116],.int 23,.str [83,112,101,99,105,102,105,101,100,32,99,97,115,116,32,105,115,32,110,111,116,32,118,97,108,105,100,46]]
 |3=>[.str [33,111,118,101,114],.int 26,.str [65,114,105,116,104,109,101,116,105,99,32,111,112,101,114,97,116,105,111,110,32,114,101,115,117,108,116,101,100,32,105,110,32,97,110,32,111,118,101,114,102,108,111,119,46]]
 |4=>[.str [33,115,116,111,114,101],.int 27,.str [65,116,116,101,109,112,116,101,100,32,116,111,32,97,99,99,101,115,115,32,97,110,32,101,108,101,109,101,110,116,32,97,115,32,97,32,116,121,112,101,32,105,110,99,111,109,112,97,116,105,98,108,101,32,119,105,116,104,32,116,104,101,32,97,114,114,97,121,46]]
 |5=>[.str [33,118,97,108,117,101],.int 29,.str [78,117,108,108,97,98,108,101,32,111,98,106,101,99,116,32,109,117,115,116,32,104,97,118,101,32,97,32,118,97,108,117,101,46]]
 |_=>[.str [33,109,101,109,111,114,121],.int 30,.str [73,110,115,117,102,102,105,99,105,101,110,116,32,109,101,109,111,114,121,32,116,111,32,99,111,110,116,105,110,117,101,32,116,104,101,32,101,120,101,99,117,116,105,111,110,32,111,102,32,116,104,101,32,112,114,111,103,114,97,109,46]]
noncomputable def ρr (z:Int) (b:Bool) (c:Cst):Nat→Loc
 |0=>setL (setL ρ7 4 (.int z)) 5 (v5 b)
 |p+1=>setL (setL (setLs (setL (ρr z b c p) 6 (.int p)) [7,8,9] (tW p)) 10 (.int (30+p))) 11 (.int (formI (c.fm p)))
noncomputable def ρm (z:Int) (b:Bool) (c:Cst) (p:Nat):Loc:=setL (setLs (setL (ρr z b c p) 6 (.int p)) [7,8,9] (tW p)) 10 (.int (30+p))
noncomputable def fixM (p:Nat) (c:Cst):List AO:=(fixA p (formL c p) c W0 |>.set 5 (.list (kR0++kE.take (p+1))) |>.set 6 (.td (kIx0++kEx.take (p+1))) |>.set 7 (.list (kDep0++List.replicate (p+1) (.int 1))) |>.set 8 (.list (kDep0++List.replicate (p+1) (.int 1))) |>.set 9 (.list (List.replicate (30+(p+1)) (.int 0))))++shps c p
theorem x_m (c:Cst) (z:Int) (b:Bool):∀p,p<7→XRun (sta l zs) 200 (lb.take 2) (setL (ρr z b c p) 6 (.int p)) (fixP p c W0) ((ρm z b c p)) (fixM p c)
 |0,_=>⟨by kernel_rfl⟩
 |1,_=>⟨by kernel_rfl⟩
 |2,_=>⟨by kernel_rfl⟩
 |3,_=>⟨by kernel_rfl⟩
 |4,_=>⟨by kernel_rfl⟩
 |5,_=>⟨by kernel_rfl⟩
 |6,_=>⟨by kernel_rfl⟩
 |n+7,h=>absurd h (by lia)
noncomputable def fixQ (p:Nat) (b:Bool) (c:Cst):List AO:=fixA (p+1) (formL c p++[.int (formI b)]) c W0++(shps c p++shp (116+6*p) b)
theorem x_e (c:Cst) (z:Int) (b t:Bool):∀p,p<7→XRun (sta l zs) 200 (lb.drop 3) (setL (ρm z b c p) 11 (.int (formI t))) (fixM p c) ((setL (ρm z b c p) 11 (.int (formI t)))) (fixQ p t c)
 |0,_=>by cases t<;>exact⟨by kernel_rfl⟩
 |1,_=>by cases t<;>exact⟨by kernel_rfl⟩
 |2,_=>by cases t<;>exact⟨by kernel_rfl⟩
 |3,_=>by cases t<;>exact⟨by kernel_rfl⟩
 |4,_=>by cases t<;>exact⟨by kernel_rfl⟩
 |5,_=>by cases t<;>exact⟨by kernel_rfl⟩
 |6,_=>by cases t<;>exact⟨by kernel_rfl⟩
 |n+7,h=>absurd h (by lia)
end
section
variable {l:Addr} {zs:List Int} {Q:Post} {n:Nat}
theorem fixQ_eq (p:Nat) (c:Cst):fixQ p (c.fm p) c=fixP (p+1) c W0:=rfl
theorem lb_eq:lb=lb.take 2++((lb.drop 2).take 1++lb.drop 3):=by rfl
theorem round0 (c:Cst) (z:Int) (b:Bool) (hx:formI (c.fm 0)=Int.fmod (Int.fdiv z (8*2 ^ 0)) 2) {X Y:Loc→AV→AH→Prop} {N:Loc→AH→Prop} {R:AV→AH→Prop}
 (q:N (ρr z b c 1) (hv (fixP 1 c W0))):swps (sta l zs) (wpF (sta l zs) funs 200) lb X Y (setL (ρr z b c 0) 6 (.int 0)) N R (hv (fixP 0 c W0)):=by
 refine rwE lb_eq ?_; refine rwE swps_append ?_;refine XRun.ok (x_m c z b 0 (by decide)) ?_;refine rwE swps_append ?_;refine (?_:_→_) (XRun.ok (S:=sta l zs) (k:=200) (X:=X) (Y:=Y) (N:=N) (R:=R) (x_e (l:=l) (zs:=zs) c z b (c.fm 0) 0 (by decide)) q);refine rwE hx ?_;intro e;(conv=>whnf); exact e
theorem round1 (c:Cst) (z:Int) (b:Bool) (hx:formI (c.fm 1)=Int.fmod (Int.fdiv z (8*2 ^ 1)) 2) {X Y:Loc→AV→AH→Prop} {N:Loc→AH→Prop} {R:AV→AH→Prop}
 (q:N (ρr z b c 2) (hv (fixP 2 c W0))):swps (sta l zs) (wpF (sta l zs) funs 200) lb X Y (setL (ρr z b c 1) 6 (.int 1)) N R (hv (fixP 1 c W0)):=by
 refine rwE lb_eq ?_; refine rwE swps_append ?_;refine XRun.ok (x_m c z b 1 (by decide)) ?_;refine rwE swps_append ?_;refine (?_:_→_) (XRun.ok (S:=sta l zs) (k:=200) (X:=X) (Y:=Y) (N:=N) (R:=R) (x_e (l:=l) (zs:=zs) c z b (c.fm 1) 1 (by decide)) q);refine rwE hx ?_;intro e;(conv=>whnf); exact e
theorem round2 (c:Cst) (z:Int) (b:Bool) (hx:formI (c.fm 2)=Int.fmod (Int.fdiv z (8*2 ^ 2)) 2) {X Y:Loc→AV→AH→Prop} {N:Loc→AH→Prop} {R:AV→AH→Prop}
 (q:N (ρr z b c 3) (hv (fixP 3 c W0))):swps (sta l zs) (wpF (sta l zs) funs 200) lb X Y (setL (ρr z b c 2) 6 (.int 2)) N R (hv (fixP 2 c W0)):=by
 refine rwE lb_eq ?_; refine rwE swps_append ?_;refine XRun.ok (x_m c z b 2 (by decide)) ?_;refine rwE swps_append ?_;refine (?_:_→_) (XRun.ok (S:=sta l zs) (k:=200) (X:=X) (Y:=Y) (N:=N) (R:=R) (x_e (l:=l) (zs:=zs) c z b (c.fm 2) 2 (by decide)) q);refine rwE hx ?_;intro e;(conv=>whnf); exact e
theorem round3 (c:Cst) (z:Int) (b:Bool) (hx:formI (c.fm 3)=Int.fmod (Int.fdiv z (8*2 ^ 3)) 2) {X Y:Loc→AV→AH→Prop} {N:Loc→AH→Prop} {R:AV→AH→Prop}
 (q:N (ρr z b c 4) (hv (fixP 4 c W0))):swps (sta l zs) (wpF (sta l zs) funs 200) lb X Y (setL (ρr z b c 3) 6 (.int 3)) N R (hv (fixP 3 c W0)):=by
 refine rwE lb_eq ?_; refine rwE swps_append ?_;refine XRun.ok (x_m c z b 3 (by decide)) ?_;refine rwE swps_append ?_;refine (?_:_→_) (XRun.ok (S:=sta l zs) (k:=200) (X:=X) (Y:=Y) (N:=N) (R:=R) (x_e (l:=l) (zs:=zs) c z b (c.fm 3) 3 (by decide)) q);refine rwE hx ?_;intro e;(conv=>whnf); exact e
theorem round4 (c:Cst) (z:Int) (b:Bool) (hx:formI (c.fm 4)=Int.fmod (Int.fdiv z (8*2 ^ 4)) 2) {X Y:Loc→AV→AH→Prop} {N:Loc→AH→Prop} {R:AV→AH→Prop}
 (q:N (ρr z b c 5) (hv (fixP 5 c W0))):swps (sta l zs) (wpF (sta l zs) funs 200) lb X Y (setL (ρr z b c 4) 6 (.int 4)) N R (hv (fixP 4 c W0)):=by
 refine rwE lb_eq ?_; refine rwE swps_append ?_;refine XRun.ok (x_m c z b 4 (by decide)) ?_;refine rwE swps_append ?_;refine (?_:_→_) (XRun.ok (S:=sta l zs) (k:=200) (X:=X) (Y:=Y) (N:=N) (R:=R) (x_e (l:=l) (zs:=zs) c z b (c.fm 4) 4 (by decide)) q);refine rwE hx ?_;intro e;(conv=>whnf); exact e
theorem round5 (c:Cst) (z:Int) (b:Bool) (hx:formI (c.fm 5)=Int.fmod (Int.fdiv z (8*2 ^ 5)) 2) {X Y:Loc→AV→AH→Prop} {N:Loc→AH→Prop} {R:AV→AH→Prop}
 (q:N (ρr z b c 6) (hv (fixP 6 c W0))):swps (sta l zs) (wpF (sta l zs) funs 200) lb X Y (setL (ρr z b c 5) 6 (.int 5)) N R (hv (fixP 5 c W0)):=by
 refine rwE lb_eq ?_; refine rwE swps_append ?_;refine XRun.ok (x_m c z b 5 (by decide)) ?_;refine rwE swps_append ?_;refine (?_:_→_) (XRun.ok (S:=sta l zs) (k:=200) (X:=X) (Y:=Y) (N:=N) (R:=R) (x_e (l:=l) (zs:=zs) c z b (c.fm 5) 5 (by decide)) q);refine rwE hx ?_;intro e;(conv=>whnf); exact e
theorem round6 (c:Cst) (z:Int) (b:Bool) (hx:formI (c.fm 6)=Int.fmod (Int.fdiv z (8*2 ^ 6)) 2) {X Y:Loc→AV→AH→Prop} {N:Loc→AH→Prop} {R:AV→AH→Prop}
 (q:N (ρr z b c 7) (hv (fixP 7 c W0))):swps (sta l zs) (wpF (sta l zs) funs 200) lb X Y (setL (ρr z b c 6) 6 (.int 6)) N R (hv (fixP 6 c W0)):=by
 refine rwE lb_eq ?_; refine rwE swps_append ?_;refine XRun.ok (x_m c z b 6 (by decide)) ?_;refine rwE swps_append ?_;refine (?_:_→_) (XRun.ok (S:=sta l zs) (k:=200) (X:=X) (Y:=Y) (N:=N) (R:=R) (x_e (l:=l) (zs:=zs) c z b (c.fm 6) 6 (by decide)) q);refine rwE hx ?_;intro e;(conv=>whnf); exact e
theorem fm01 (z:Int):formI (decide (Int.fmod z 2≠0))=Int.fmod z 2:=by
 have:Int.fmod z 2=0∨Int.fmod z 2=1:=by
  refine rwE (Int.fmod_eq_emod_of_nonneg z (by decide)) ?_;lia
 rcases this with h|h<;>simp[h,formI]
theorem fm4 (z:Int):Int.fmod z 4=0∨Int.fmod z 4=1∨Int.fmod z 4=2∨Int.fmod z 4=3:=by
 refine rwE (Int.fmod_eq_emod_of_nonneg z (by decide)) ?_;lia
theorem b_eq:b1707=b1707.take 7++([b1707[7]'(by decide)]++(([b1707[8]'(by decide)]++((b1707.drop 9).take 1++([b1707[10]'(by decide)]++((b1707.drop 11).take 5++[.forr 6 (.range [(.val (.int (7)))]) lb,.ret (.loc 3)])))))):=by rfl
theorem nine (s:List AV) (z:Int) {X Y:Loc→AV→AH→Prop} {N:Loc→AH→Prop} {R:AV→AH→Prop} (q:∀u,N (setL ρ7 4 (.int z)) (hv (A9 s u))) :
 swps (sta l zs) (wpF (sta l zs) funs 200) [b1707[8]'(by decide)] X Y (setL ρ7 4 (.int z)) N R (hv (A8 s)):=by
 have h:∃u:U4,getI (sta l zs) (hv (A8 s)) (.tup [.str [105,52],.str [117,49],.str [105,56],.str [117,52]]) (.int (Int.fmod z 4))=some (.str (uS u)):=by
  rcases fm4 z with h|h|h|h<;>(refine rwE h ?_)
  ·exact⟨.i4,rfl⟩
  ·exact⟨.u1,rfl⟩
  ·exact⟨.i8,rfl⟩
  ·exact⟨.u4,rfl⟩
 obtain⟨u,h⟩:=h;refine oKi h ?_;refine⟨of_decide_eq_true rfl,?_⟩;refine rwE (hv_set _ _ _ (of_decide_eq_true rfl)) ?_;exact q u
theorem c_world (xs:List Int) (hx:xs.length≤1000) (q:∀c:Cst,c.zs=xs→Q (.ok (.ref (.f 90))) (mk c W0 [])):wpF (sta l zs) funs 201 1707 [.ref (.f 0)] Q (hv [.list (xs.map .int)]):=by
 refine unf (d:=⟨1,b1707⟩) rfl rfl ?_;show swps _ _ b1707 _ _ _ _ _ _
 refine rwE b_eq ?_; refine rwE swps_append ?_;refine (x_seven (xs.map .int)).ok ?_;refine rwE swps_append ?_;refine c_any7 xs hx fun z=>?_;show swps _ _ (_++_) _ _ (setL ρ7 4 (.int z)) _ _ _
 refine rwE swps_append ?_;refine nine _ z fun u=>?_;refine rwE swps_append ?_;refine (x_ten _ u z).ok ?_;refine rwE swps_append ?_;have rest:∀pb:Bool,swps (sta l zs) (wpF (sta l zs) funs 200) ((b1707.drop 11).take 5++[.forr 6 (.range [(.val (.int (7)))]) lb,.ret (.loc 3)]) (fun _ x=>Q (.exc x)) (fun _ x=>Q (.exc x)) (setL ρ7 4 (.int z)) (fun _=>Q (.ok .none)) (fun v=>Q (.ok v)) (hv (A11 (xs.map .int) u pb)):=by
  intro pb;let c:Cst:=⟨xs,u,pb,fun p=>decide (Int.fmod (Int.fdiv z (8*2 ^ p)) 2≠0)⟩
  refine rwE swps_append ?_;refine (x_rest c z).ok ?_;refine rwE (ρ12_eq ..) ?_;have hz:∀p,p<7→formI (c.fm p)=Int.fmod (Int.fdiv z (8*2 ^ p)) 2:=fun p _=>fm01 _;refine⟨by decide,by decide,?_⟩;refine round0 c z c.pb (hz 0 (by decide)) ?_;refine round1 c z c.pb (hz 1 (by decide)) ?_;refine round2 c z c.pb (hz 2 (by decide)) ?_;refine round3 c z c.pb (hz 3 (by decide)) ?_;refine round4 c z c.pb (hz 4 (by decide)) ?_;refine round5 c z c.pb (hz 5 (by decide)) ?_;refine round6 c z c.pb (hz 6 (by decide)) ?_;have:=q c rfl;rw[mk0] at this;exact this
 refine dI (fun h=>?_) (fun h=>?_)
 ·refine (x_br _ u z).ok ?_;exact rest true
 ·exact rest false
end
noncomputable def plainN (u:U4):Nm→Nm
 |.s .e=>.s u.b
 |x=>x
noncomputable def isQ:Nm→Bool
 |.s .q4=>true
 |.qe=>true
 |_=>false
noncomputable def refers:Nm→Bool
 |.s .o=>true|.s .a=>true|.s .b=>true|.t=>true|.arr _=>true|.err _=>true
 |_=>false
theorem fin7 {P:Fin 7→Prop} (e0:P 0) (e1:P 1) (e2:P 2) (e3:P 3) (e4:P 4) (e5:P 5) (e6:P 6) (p:Fin 7):P p :=
 Fin.cases (motive:=P) e0 (Fin.cases (motive:=fun i=>P i.succ) e1 (Fin.cases (motive:=fun i=>P i.succ.succ) e2 (Fin.cases (motive:=fun i=>P i.succ.succ.succ) e3 (Fin.cases (motive:=fun i=>P i.succ.succ.succ.succ) e4 (Fin.cases (motive:=fun i=>P i.succ.succ.succ.succ.succ) e5 (Fin.cases (motive:=fun i=>P i.succ.succ.succ.succ.succ.succ) e6 fun i=>i.elim0)))))) p
theorem nm_all {P:Nm→Prop} (h1:P (.s .i4)) (h2:P (.s .u4)) (h3:P (.s .u1)) (h4:P (.s .i8)) (h5:P (.s .e)) (h6:P (.s .o)) (h7:P (.s .a)) (h8:P (.s .b)) (h9:P (.s .q4)) (h10:P .u8) (h11:P .t) (h12:P .qe)
 (a1:P (.arr .i4)) (a2:P (.arr .u4)) (a3:P (.arr .u1)) (a4:P (.arr .i8)) (a5:P (.arr .e)) (a6:P (.arr .o)) (a7:P (.arr .a)) (a8:P (.arr .b)) (a9:P (.arr .q4))
 (e0:P (.err 0)) (e1:P (.err 1)) (e2:P (.err 2)) (e3:P (.err 3)) (e4:P (.err 4)) (e5:P (.err 5)) (e6:P (.err 6)):∀nm,P nm:=fun nm=>by
 induction nm using Nm.casesOn with
 |s x=>cases x<;>assumption
 |arr x=>cases x<;>assumption
 |err p=>exact fin7 (P:=fun p=>P (.err p)) e0 e1 e2 e3 e4 e5 e6 p
 |u8=>exact h10
 |t=>exact h11
 |qe=>exact h12
section
variable {l:Addr} {zs:List Int} {Q:Post} {n:Nat} {c:Cst} {W:Wd} {T:List AO}
theorem k_plain (hn:6≤n) (nm:Nm):RRun (sta l zs) (mk c W T) n 906 [.ref (.f 2),.int (nmK nm)] (.int (nmK (plainN c.u nm))):=by
 obtain⟨n,rfl⟩:=prk (j:=6) hn;clear hn;obtain⟨zs',u,pb,fm⟩:=c;revert nm; apply nm_all
 case h5=>cases u<;>exact⟨by kernel_rfl⟩
 all_goals exact⟨by kernel_rfl⟩
theorem k_in (hn:9≤n) (nm:Nm):RRun (sta l zs) (mk c W T) n 780 [.ref (.f 27),.ref (.f 80),.int (nmK nm)] (.int (nmK nm)):=by
 obtain⟨n,rfl⟩:=prk (j:=9) hn;clear hn;revert nm; apply nm_all<;>exact⟨by kernel_rfl⟩
theorem k_value (hn:9≤n) (nm:Nm):RRun (sta l zs) (mk c W T) n 236 [.ref (.f 4),.int (nmK nm)] (.bool (!refers nm)):=by
 obtain⟨n,rfl⟩:=prk (j:=9) hn;clear hn;revert nm; apply nm_all<;>exact⟨by kernel_rfl⟩
theorem k_ref (hn:9≤n) (nm:Nm):RRun (sta l zs) (mk c W T) n 243 [.ref (.f 4),.int (nmK nm)] (.bool (refers nm)):=by
 obtain⟨n,rfl⟩:=prk (j:=9) hn;clear hn;revert nm; apply nm_all<;>exact⟨by kernel_rfl⟩
theorem k_elem (hn:9≤n) (x:B0):RRun (sta l zs) (mk c W T) n 215 [.ref (.f 4),.int (nmK (.arr x))] (.int (nmK (.s x))):=by
 obtain⟨n,rfl⟩:=prk (j:=9) hn;clear hn;cases x<;>exact⟨by kernel_rfl⟩
theorem k_question (hn:9≤n) (nm:Nm):RRun (sta l zs) (mk c W T) n 794 [.ref (.f 27),.int (nmK nm)] (.bool (isQ nm)):=by
 obtain⟨n,rfl⟩:=prk (j:=9) hn;clear hn;revert nm; apply nm_all<;>exact⟨by kernel_rfl⟩
noncomputable def inN:Nm→Nm
 |.s .q4=>.s .i4
 |.qe=>.s .e
 |x=>x
theorem k_asked (hn:9≤n) (nm:Nm):RRun (sta l zs) (mk c W T) n 969 [.ref (.f 27),.int (nmK nm)] (.int (nmK (inN nm))):=by
 obtain⟨n,rfl⟩:=prk (j:=9) hn;clear hn;revert nm; apply nm_all<;>exact⟨by kernel_rfl⟩
theorem k_args (hn:9≤n) (nm:Nm) (h:isQ nm=true):RRun (sta l zs) (mk c W T) n 229 [.ref (.f 4),.int (nmK nm)] (.tup [.int (nmK (inN nm))]):=by
 obtain⟨n,rfl⟩:=prk (j:=9) hn;clear hn;revert nm; apply nm_all<;>intro h<;>first|cases h; done|exact⟨by kernel_rfl⟩
noncomputable def spanU:U4→Int×Int
 |.i4=>(-2147483648,4294967296)|.u1=>(0,256)|.i8=>(-9223372036854775808,18446744073709551616)|.u4=>(0,4294967296)
noncomputable def span (u:U4):B0→Option (Int×Int)
 |.i4=>some (spanU .i4)|.u4=>some (spanU .u4)|.u1=>some (spanU .u1)|.i8=>some (spanU .i8)|.e=>some (spanU u)
 |_=>none
noncomputable def seenI (p:Int×Int) (z:Int):Int:=p.1+Int.fmod (z - p.1) p.2
noncomputable def seenV (u:U4) (x:B0) (v:AV):AV:=match span u x,v with
 |some p,.int z=>.int (seenI p z)
 |_,v=>v
noncomputable def isI:B0→Bool
 |.i4=>true|.u4=>true|.u1=>true|.i8=>true|.e=>true
 |_=>false
theorem k_twinI (hn:9≤n) (x:B0) (h:isI x=true) (z:Int):RRun (sta l zs) (mk c W T) n 990 [.ref (.f 27),.int (nmK (.s x)),.int z] (seenV c.u x (.int z)):=by
 obtain⟨n,rfl⟩:=prk (j:=9) hn;clear hn;obtain⟨zs',u,pb,fm⟩:=c;cases x<;>first|exact (noB h).elim|skip
 case e=>cases u<;>exact⟨by kernel_rfl⟩
 all_goals exact⟨by kernel_rfl⟩
theorem k_twinR (hn:9≤n) (x:B0) (h:isI x=false) (v:AV):RRun (sta l zs) (mk c W T) n 990 [.ref (.f 27),.int (nmK (.s x)),v] (seenV c.u x v):=by
 obtain⟨n,rfl⟩:=prk (j:=9) hn;clear hn;obtain⟨zs',u,pb,fm⟩:=c;cases x<;>first|exact (noB h.symm).elim|exact⟨by kernel_rfl⟩
noncomputable def tidE:Fin 7→Int:=fun p=>([21,22,23,26,27,29,30]:List Int).getD p.val 0
theorem k_class (hn:9≤n) (p:Fin 7):RRun (sta l zs) (mk c W T) n 194 [.ref (.f 4),.int (tidE p),.tup []] (.int (nmK (.err p))):=by
 obtain⟨n,rfl⟩:=prk (j:=9) hn;clear hn;exact fin7 (P:=fun p=>RRun (sta l zs) (mk c W T) (n+9) 194 [.ref (.f 4),.int (tidE p),.tup []] (.int (nmK (.err p)))) ⟨by kernel_rfl⟩ ⟨by kernel_rfl⟩ ⟨by kernel_rfl⟩ ⟨by kernel_rfl⟩ ⟨by kernel_rfl⟩ ⟨by kernel_rfl⟩ ⟨by kernel_rfl⟩ p
theorem k_layout (hn:9≤n) (p:Fin 7):RRun (sta l zs) (mk c W T) n 787 [.ref (.f 27),.int (nmK (.err p))] (.ref (.f (121+6*p.val))):=by
 obtain⟨n,rfl⟩:=prk (j:=9) hn;clear hn;match p with
 |0=>exact⟨by kernel_rfl⟩
 |1=>exact⟨by kernel_rfl⟩
 |2=>exact⟨by kernel_rfl⟩
 |3=>exact⟨by kernel_rfl⟩
 |4=>exact⟨by kernel_rfl⟩
 |5=>exact⟨by kernel_rfl⟩
 |6=>exact⟨by kernel_rfl⟩
theorem k_default (hn:12≤n) (nm:Nm) (h:isQ nm=false):RRun (sta l zs) (mk c W T) n 1030 [.ref (.f 27),.int (nmK nm)] (.int 0):=by
 obtain⟨n,rfl⟩:=prk (j:=12) hn;clear hn;obtain⟨zs',u,pb,fm⟩:=c;revert nm; apply nm_all
 case h5=>intro h; cases u<;>exact⟨by kernel_rfl⟩
 all_goals intro h
 all_goals first|cases h; done|exact⟨by kernel_rfl⟩
theorem n_refers (hn:3≤n) (nm:Nm):RRun (sta l zs) (mk c W T) n 1492 [.str (nmT nm)] (.bool (refers nm)):=by
 obtain⟨n,rfl⟩:=prk (j:=3) hn;clear hn;revert nm; apply nm_all<;>exact⟨by kernel_rfl⟩
theorem n_plain (hn:3≤n) (nm:Nm):RRun (sta l zs) (mk c W T) n 1499 [.ref (.f 90),.str (nmT nm)] (.str (nmT (plainN c.u nm))):=by
 obtain⟨n,rfl⟩:=prk (j:=3) hn;clear hn;obtain⟨zs',u,pb,fm⟩:=c;revert nm; apply nm_all
 case h5=>cases u<;>exact⟨by kernel_rfl⟩
 all_goals exact⟨by kernel_rfl⟩
noncomputable def noneV:B0→AV
 |.q4=>.tup [.int 0,.int 0]
 |_=>.int 0
theorem n_none (hn:3≤n) (x:B0):RRun (sta l zs) (mk c W T) n 1513 [.str (nmT (.s x))] (noneV x):=by
 obtain⟨n,rfl⟩:=prk (j:=3) hn;clear hn;cases x<;>exact⟨by kernel_rfl⟩
theorem kinds_at (nm:Nm):getI (sta l zs) (mk c W T) (.ref (.f 85)) (.str (nmT nm))=some (.int (nmK nm)):=by
 revert nm; apply nm_all<;>kernel_rfl
end
theorem oKl {S:Stat} {H H':AH} {v:AV} {f:AV→AH→Prop} {k:Nat} (h:lenA S H v=some k) (q:∀i:Int,i=(k:Int)→f (.int i) H'):oK (lenA S H v) fun n=>f (.int (n:Int)) H':=by rw[h]; exact q _ rfl
theorem upd_same {H:AH} {a:AA} {o:AO}:upd H a o a=some o:=by simp[upd]
theorem upd_ne {H:AH} {a b:AA} {o:AO} (h:b≠a):upd H a o b=H b:=by simp[upd,h]
theorem upd_upd {H:AH} {a:AA} {o p:AO}:upd (upd H a o) a p=upd H a p:=by
 funext b; unfold upd; split<;>rfl
theorem upd_comm {H:AH} {a b:AA} {o p:AO} (h:a≠b):upd (upd H a o) b p=upd (upd H b p) a o:=by
 funext x; unfold upd; split
 ·rename_i e; subst e; refine rwE (if_neg (Ne.symm h)) ?_; rfl
 ·rfl
theorem put_rule {S:Stat} {H:AH} {x d:AA} {C:Addr} {l:List (Nat×AV)} {k:Nat} {v:AV} {N:AH→Prop} (hx:H x=some (.inst C d)) (hd:H d=some (.ns l)) (hl:l.length<100) (hp:S.plain C k=true) (q:N (upd H d (.ns (nsPut l k v)))):putA S H (.ref x) k v N:=by
 unfold putA; simp only[hx,hd]; exact⟨hl,hp,q⟩
theorem thL_succ (j:Nat):thL (j+1)=thL j++[.ref (.r 0 j)]:=by simp[thL,List.range_succ]
theorem thL_len (j:Nat):(thL j).length=j+1:=by simp[thL]
section
variable {l:Addr} {zs:List Int} {Q:Post} {n:Nat} {c:Cst} {W:Wd} {T:List AO}
theorem len_things (h:W.things.length≤90000):lenA (sta l zs) (mk c W T) (.ref (.f 28))=some (W.things.length+1):=by
 show (if (thL W.things.length).length≤1000000 then some (thL W.things.length).length else none)=_
 refine rwE (thL_len ..) ?_; refine rwE (if_pos (by lia) ..) ?_; rfl
theorem th_get {j:Nat} {i:Int} (hj:j<W.things.length) (hi:i=(j:Int)+1) (hl:W.things.length≤90000):getI (sta l zs) (mk c W T) (.ref (.f 28)) (.int i)=some (.ref (.r 0 j)):=by
 show nth (thL W.things.length) i=_
 dsimp only[nth];rw[if_pos (by lia),hi];have:((j:Int)+1).toNat=j+1:=by lia
 refine rwE this ?_;simp[thL,List.getElem?_cons_succ,hj]
theorem mk_r0 {j:Nat} {t:Th} (h:W.things[j]? = some t):mk c W T (.r 0 j)=some (.inst 468 (.r 1 j)):=congrArg (Option.map fun _=>AO.inst 468 (.r 1 j)) h
theorem mk_r1 {j:Nat} {t:Th} (h:W.things[j]? = some t):mk c W T (.r 1 j)=some (.ns (itemNs j t)):=congrArg (Option.map fun t=>AO.ns (itemNs j t)) h
theorem g_slots {j:Nat} {t:Th} (h:W.things[j]? = some t):getA (sta l zs) (mk c W T) (.ref (.r 0 j)) 31=some (.ref (.r 2 j)):=getA_ref (mk_r0 h) (mk_r1 h) rfl rfl
theorem g_kind {j:Nat} {t:Th} (h:W.things[j]? = some t):getA (sta l zs) (mk c W T) (.ref (.r 0 j)) 30=some (.int (nmK t.nm)):=getA_ref (mk_r0 h) (mk_r1 h) rfl rfl
theorem g_text {j:Nat} {t:Th} (h:W.things[j]? = some t):getA (sta l zs) (mk c W T) (.ref (.r 0 j)) 32=some (textV t.text):=getA_ref (mk_r0 h) (mk_r1 h) rfl rfl
theorem g_special {j:Nat} {t:Th} (h:W.things[j]? = some t):getA (sta l zs) (mk c W T) (.ref (.r 0 j)) 34=some .none:=getA_ref (mk_r0 h) (mk_r1 h) rfl rfl
theorem g_number {j:Nat} {t:Th} (h:W.things[j]? = some t):getA (sta l zs) (mk c W T) (.ref (.r 0 j)) 29=some (.int ((j:Int)+1)):=getA_ref (mk_r0 h) (mk_r1 h) rfl rfl
theorem o_slots {j:Nat} {t:Th} (h:W.things[j]? = some t):mk c W T (.r 2 j)=some (.list t.slots):=by
 have hj:j<W.things.length:=by
  rcases Nat.lt_or_ge j W.things.length with h1|h1
  ·exact h1
  ·rw[List.getElem?_eq_none h1] at h; exact (noS h).elim
 simp only[mkR2];rw[List.getElem?_append_left (by simpa using hj),List.getElem?_map,h]; rfl
theorem o_rslots {j:Nat} {t:Th} (h:W.rows[j]? = some t):mk c W T (.r 3 j)=some (.list t.slots):=by
 have hj:j<W.rows.length:=by
  rcases Nat.lt_or_ge j W.rows.length with h1|h1
  ·exact h1
  ·rw[List.getElem?_eq_none h1] at h; exact (noS h).elim
 simp only[mkR3];rw[List.getElem?_append_left (by simpa using hj),List.getElem?_map,h]; rfl
theorem c_item {H:AH} {x d:AA} {a b s:AV} (hne:x≠d) (hx:H x=some (.inst 468 d)) (hd:H d=some (.ns [])) (q:Q (.ok .none) (upd H d (.ns [(29,a),(30,b),(31,s),(32,.none),(0,.junk),(33,.int 0),(34,.none)]))):wpF (sta l zs) funs (n+1) 465 [.ref x,a,b,s] Q H:=by
 refine unf (d:=⟨4,b465⟩) rfl rfl ?_;have hx':∀o,upd H d o x=some (.inst 468 d):=fun o=>by refine rwE (upd_ne hne) ?_; exact hx
 refine put_rule hx hd (by decide) rfl ?_;refine put_rule (hx' _) upd_same (of_decide_eq_true rfl) rfl ?_;refine rwE upd_upd ?_;refine put_rule (hx' _) upd_same (of_decide_eq_true rfl) rfl ?_;refine rwE upd_upd ?_;refine put_rule (hx' _) upd_same (of_decide_eq_true rfl) rfl ?_;refine rwE upd_upd ?_;refine .inl ?_;refine put_rule (hx' _) upd_same (of_decide_eq_true rfl) rfl ?_;refine rwE upd_upd ?_;refine put_rule (hx' _) upd_same (of_decide_eq_true rfl) rfl ?_;refine rwE upd_upd ?_;refine put_rule (hx' _) upd_same (of_decide_eq_true rfl) rfl ?_;refine rwE upd_upd ?_;exact q
theorem u_item {t:Th} (hp:W.pend2=some t.slots):upd (upd (upd (mk c W T) (.r 0 W.things.length) (.inst 468 (.r 1 W.things.length))) (.r 1 W.things.length) (.ns (itemNs W.things.length t))) (.f 28) (.list (thL W.things.length++[.ref (.r 0 W.things.length)]))=mk c { W with things:=W.things++[t],pend2:=none } T:=by
 have hf:∀k,k≠28→(fix c { W with things:=W.things++[t],pend2:=none })[k]? = (fix c W)[k]?:=by
  intro k hk;have:fix c { W with things:=W.things++[t],pend2:=none } = (fix c W).set 28 (.list (thL (W.things++[t]).length)):=rfl;rw[this,List.getElem?_set_ne (Ne.symm hk)]
 funext a
 induction a using AA.casesOn with
 |f k =>
  by_cases hk:k=28
  ·subst hk;rw[upd_same];show _=some (AO.list (thL (W.things++[t]).length))
   refine rwE (List.length_append ..) ?_; refine rwE (List.length_singleton ..) ?_; refine rwE (thL_succ ..) ?_; rfl
  ·refine rwE (upd_ne (by simpa using hk)) ?_; refine rwE (upd_ne (by simp)) ?_; refine rwE (upd_ne (by simp)) ?_;exact (hf k hk).symm
 |t k=>(refine rwE (upd_ne (by simp)) ?_; refine rwE (upd_ne (by simp)) ?_; refine rwE (upd_ne (by simp)) ?_); rfl
 |r k j =>
  refine rwE (upd_ne (by simp)) ?_;match k with
  |0 =>
   refine rwE (upd_ne (by simp)) ?_;by_cases hj:j=W.things.length
   ·subst hj; refine rwE upd_same ?_; simp[mkR0]
   ·refine rwE (upd_ne (by simpa using hj)) ?_;dsimp only[mkR0];rcases Nat.lt_or_ge j W.things.length with h1|h1
    ·refine rwE (List.getElem?_append_left h1) ?_; rfl
    ·refine rwE (List.getElem?_eq_none h1) ?_; refine rwE (List.getElem?_eq_none (by simp; lia)) ?_; rfl
  |1 =>
   by_cases hj:j=W.things.length
   ·subst hj; refine rwE upd_same ?_; simp[mkR1]
   ·refine rwE (upd_ne (by simpa using hj)) ?_; refine rwE (upd_ne (by simp)) ?_;dsimp only[mkR1];rcases Nat.lt_or_ge j W.things.length with h1|h1
    ·refine rwE (List.getElem?_append_left h1) ?_; rfl
    ·refine rwE (List.getElem?_eq_none h1) ?_; refine rwE (List.getElem?_eq_none (by simp; lia)) ?_; rfl
  |2 =>
   refine rwE (upd_ne (by simp)) ?_; refine rwE (upd_ne (by simp)) ?_;simp[mkR2,hp]
  |3=>(refine rwE (upd_ne (by simp)) ?_; refine rwE (upd_ne (by simp)) ?_); simp[mkR3]
  |_+4=>(refine rwE (upd_ne (by simp)) ?_; refine rwE (upd_ne (by simp)) ?_); rfl
theorem mk_r0_none:mk c W T (.r 0 W.things.length)=none:=by simp[mkR0]
theorem mk_r1_none:mk c W T (.r 1 W.things.length)=none:=by simp[mkR1]
theorem c_new_item (hn:3≤n) {nm:Nm} {sl:List AV} (hp:W.pend2=some sl) (hl:W.things.length≤90000)
 (q:∀i:Int,i=(W.things.length:Int)+1→Q (.ok (.int i)) (mk c { W with things:=W.things++[⟨nm,sl,none⟩],pend2:=none } T)) :
 wpF (sta l zs) funs n 801 [.ref (.f 27),.int (nmK nm),.ref (.r 2 W.things.length)] Q (mk c W T):=by
 obtain⟨m,rfl⟩:∃m,n=m+2+1:=⟨n - 3,by lia⟩;refine unf (d:=⟨3,b801⟩) rfl rfl ?_;refine oKi (len_things hl) ?_;generalize hi:((W.things.length+1:Nat):Int)=i;refine⟨.r 0 W.things.length,.r 1 W.things.length,mk_r0_none,mk_r1_none,by simp,?_⟩;refine oKi (a:=some 465) rfl ?_;refine c_item (by simp) upd_same (by refine rwE (upd_ne (by simp)) ?_; refine rwE upd_same ?_; rfl) ?_;refine⟨rfl,?_⟩;refine⟨by refine rwE (thL_len ..) ?_; lia,?_⟩;refine rwE (upd_comm (a:=AA.r 1 W.things.length) (b:=AA.r 0 W.things.length) (by simp)) ?_; refine rwE upd_upd ?_;have hi':i=(W.things.length:Int)+1:=by lia
 have:=q i hi';rw[←u_item (c:=c) (W:=W) (T:=T) (t:=⟨nm,sl,none⟩) hp] at this;subst hi';exact this
theorem c_count (hn:1≤n) (h:W.steps+1≤100000) (q:Q (.ok .none) (mk c { W with steps:=W.steps+1 } T)):wpF (sta l zs) funs n 745 [.ref (.f 27)] Q (mk c W T):=by
 refine prC hn rfl fun m hn=>?_;refine unf (d:=⟨1,b745⟩) rfl rfl ?_;refine⟨of_decide_eq_true rfl,rfl,?_⟩;refine rwE u_steps ?_;refine dF (by dsimp only; lia) ?_;exact q
theorem c_deeper (hn:1≤n) {k:Int} (h:W.nested+k≤870) (q:Q (.ok (.int W.nested)) (mk c { W with nested:=W.nested+k } T)):wpF (sta l zs) funs n 752 [.ref (.f 27),.int k] Q (mk c W T):=by
 refine prC hn rfl fun m hn=>?_;refine unf (d:=⟨2,b752⟩) rfl rfl ?_;refine dF (by lia) ?_;refine⟨of_decide_eq_true rfl,rfl,?_⟩;refine rwE u_nested ?_;exact q
theorem p2_no (hn:W.pend2=none):({ W with pend2:=none }:Wd)=W:=by cases W; simp_all
theorem u_text {t:Th} {x:List Nat}:upd (mk c { W with things:=W.things++[t] } T) (.r 1 W.things.length) (.ns (nsPut (itemNs W.things.length t) 32 (.str x)))=mk c { W with things:=W.things++[{ t with text:=some x }] } T:=by
 have hf:fix c { W with things:=W.things++[t] } = fix c { W with things:=W.things++[{ t with text:=some x }] }:=by
  have:fix c { W with things:=W.things++[t] } = (fix c W).set 28 (.list (thL (W.things++[t]).length)):=rfl;refine rwE this ?_;have:fix c { W with things:=W.things++[{ t with text:=some x }] } = (fix c W).set 28 (.list (thL (W.things++[{ t with text:=some x }]).length)):=rfl;refine rwE this ?_; simp
 funext a
 induction a using AA.casesOn with
 |f k=>(refine rwE (upd_ne (by simp)) ?_); simp only[mkF,hf]
 |t k=>(refine rwE (upd_ne (by simp)) ?_); rfl
 |r k j =>
  match k with
  |0 =>
   refine rwE (upd_ne (by simp)) ?_;dsimp only[mkR0];rcases Nat.lt_trichotomy j W.things.length with h1|h1|h1
   ·refine rwE (List.getElem?_append_left h1) ?_; refine rwE (List.getElem?_append_left h1) ?_; rfl
   ·subst h1; simp
   ·refine rwE (List.getElem?_eq_none (by simp; lia)) ?_; refine rwE (List.getElem?_eq_none (by simp; lia)) ?_; rfl
  |1 =>
   by_cases hj:j=W.things.length
   ·subst hj; rw[upd_same]; simp[mkR1]; rfl
   ·refine rwE (upd_ne (by simpa using hj)) ?_;dsimp only[mkR1];rcases Nat.lt_or_ge j W.things.length with h1|h1
    ·refine rwE (List.getElem?_append_left h1) ?_; refine rwE (List.getElem?_append_left h1) ?_; rfl
    ·refine rwE (List.getElem?_eq_none (by simp; lia)) ?_; refine rwE (List.getElem?_eq_none (by simp; lia)) ?_; rfl
  |2=>(refine rwE (upd_ne (by simp)) ?_); simp[mkR2]
  |3=>(refine rwE (upd_ne (by simp)) ?_); simp[mkR3]
  |_+4=>(refine rwE (upd_ne (by simp)) ?_); rfl
theorem c_new_words (hn:4≤n) {x:List Nat} (hp:W.pend2=none) (hl:W.things.length≤89990)
 (q:∀i:Int,i=(W.things.length:Int)+1→Q (.ok (.int i)) (mk c { W with things:=W.things++[⟨.t,[],some x⟩] } T)) :
 wpF (sta l zs) funs n 808 [.ref (.f 27),.str x] Q (mk c W T):=by
 obtain⟨m,rfl⟩:∃m,n=m+3+1:=⟨n - 4,by lia⟩;refine unf (d:=⟨2,b808⟩) rfl rfl ?_;refine .inr ⟨_,p2_new hp,?_⟩;refine rwE (u_p2 hp) ?_;refine c_new_item (nm:=.t) (W:={ W with pend2:=some [] }) (fB hn rfl) rfl (by show W.things.length≤90000; lia) fun i hi=>?_;refine rwE (show ({ W with things:=W.things++[⟨.t,[],none⟩],pend2:=none }:Wd) = { W with things:=W.things++[⟨.t,[],none⟩] } by cases W; simp_all) ?_;have hj:({ W with things:=W.things++[⟨.t,[],none⟩] }:Wd).things[W.things.length]? = some ⟨.t,[],none⟩:=by simp
 refine oKi (th_get (j:=W.things.length) (by simp) hi (by simp; lia)) ?_;refine put_rule (mk_r0 hj) (mk_r1 hj) (of_decide_eq_true rfl) rfl ?_;refine rwE u_text ?_;exact q i hi
end
section
variable {S:Stat} {H:AH} {a:AA} {li:List AV} {call:Callee}
theorem meth_app (h:H a=some (.list li)):methOf S H (.ref a) 8=some .app:=congrArg (methO S H · 8) h
theorem app_rule {x:AV} {Q X:AV→AH→Prop} (h:H a=some (.list li)) (hl:li.length<100000) (q:Q .none (upd H a (.list (li++[x])))):methA S call .app (.ref a) [x] Q X H:=by
 show (match H a with|some (.list l)=>l.length<100000∧Q .none (upd H a (.list (l++[x])))|_=>False)
 refine rwE h ?_; exact⟨hl,q⟩
theorem get_list {i:Int} {v:AV} (h:H a=some (.list li)) (e:nth li i=some v):getI S H (.ref a) (.int i)=some v:=(congrArg (getO · (.int i)) h).trans e
theorem len_list (h:H a=some (.list li)) (hl:li.length≤1000000):lenA S H (.ref a)=some li.length:=by
 show (match H a with|some (.list l)=>if l.length≤1000000 then some l.length else none|_=>none)=_
 refine rwE h ?_; exact if_pos hl
theorem set_list {i:Int} {x:AV} {N:AH→Prop} (h:H a=some (.list li)) (h0:0≤i) (h1:i<li.length) (hl:li.length≤1000000) (q:N (upd H a (.list (li.set i.toNat x)))):setI H (.ref a) (.int i) x N:=by
 show setO H a (H a) (.int i) x N
 rw[h]; exact⟨h0,by lia,by lia,q⟩
end
noncomputable def wordsE:Fin 7→List Nat:=fun p=>([[79,98,106,101,99,116,32,114,101,102,101,114,101,110,99,101,32,110,111,116,32,115,101,116,32,116,111,32,97,110,32,105,110,115,116,97,110,99,101,32,111,102,32,97,110,32,111,98,106,101,99,116,46],
 [73,110,100,101,120,32,119,97,115,32,111,117,116,115,105,100,101,32,116,104,101,32,98,111,117,110,100,115,32,111,102,32,116,104,101,32,97,114,114,97,121,46],
 [83,112,101,99,105,102,105,101,100,32,99,97,115,116,32,105,115,32,110,111,116,32,118,97,108,105,100,46],
 [65,114,105,116,104,109,101,116,105,99,32,111,112,101,114,97,116,105,111,110,32,114,101,115,117,108,116,101,100,32,105,110,32,97,110,32,111,118,101,114,102,108,111,119,46],
 [65,116,116,101,109,112,116,101,100,32,116,111,32,97,99,99,101,115,115,32,97,110,32,101,108,101,109,101,110,116,32,97,115,32,97,32,116,121,112,101,32,105,110,99,111,109,112,97,116,105,98,108,101,32,119,105,116,104,32,116,104,101,32,97,114,114,97,121,46],
 [78,117,108,108,97,98,108,101,32,111,98,106,101,99,116,32,109,117,115,116,32,104,97,118,101,32,97,32,118,97,108,117,101,46],
 [73,110,115,117,102,102,105,99,105,101,110,116,32,109,101,109,111,114,121,32,116,111,32,99,111,110,116,105,110,117,101,32,116,104,101,32,101,120,101,99,117,116,105,111,110,32,111,102,32,116,104,101,32,112,114,111,103,114,97,109,46]]:List (List Nat)).getD p.val []
noncomputable def zeroS:Bool→List AV
 |true=>[.int 0,.int 0,.int 0]
 |false=>[.int 0,.int 0]
noncomputable def errS' (b:Bool) (i:Int):List AV:=match b with
 |true=>[.int 0,.int i,.int 0]
 |false=>[.int i,.int 0]
noncomputable def errL (c:Cst) (p:Fin 7) (k:Nat):List Th:=[⟨.err p,errS' (c.fm p.val) ((k:Int)+2),none⟩,⟨.t,[],some (wordsE p)⟩]
section
variable {l:Addr} {zs:List Int} {Q:Post} {n:Nat} {c:Cst} {W:Wd} {T:List AO}
theorem g_shpK (p:Fin 7):getA (sta l zs) (mk c W T) (.ref (.f (121+6*p.val))) 104=some (shpK (c.fm p.val)):=by
 match p with
 |0=>rfl
 |1=>rfl
 |2=>rfl
 |3=>rfl
 |4=>rfl
 |5=>rfl
 |6=>rfl
theorem g_shpS (p:Fin 7):getA (sta l zs) (mk c W T) (.ref (.f (121+6*p.val))) 31=some (.ref (.f (116+6*p.val))):=by
 match p with
 |0=>rfl
 |1=>rfl
 |2=>rfl
 |3=>rfl
 |4=>rfl
 |5=>rfl
 |6=>rfl
theorem o_shpS (p:Fin 7):mk c W T (.f (116+6*p.val))=some (.id (shpS (c.fm p.val))):=by
 match p with
 |0=>rfl
 |1=>rfl
 |2=>rfl
 |3=>rfl
 |4=>rfl
 |5=>rfl
 |6=>rfl
theorem pend_app {x:List AV} {y:AV} {Q X:AV→AH→Prop} {call:Callee} {S:Stat} (hp:W.pend2=some x) (hl:x.length<100000) (q:Q .none (mk c { W with pend2:=some (x++[y]) } T)):methA S call .app (.ref (.r 2 W.things.length)) [y] Q X (mk c W T):=by
 refine app_rule (g_p2 hp) hl ?_;refine rwE (u_p2' hp) ?_; exact q
theorem c_defaults (hn:13≤n) (b:Bool) (hp:W.pend2=none) (q:Q (.ok (.ref (.r 2 W.things.length))) (mk c { W with pend2:=some (zeroS b) } T)):wpF (sta l zs) funs n 1042 [.ref (.f 27),shpK b] Q (mk c W T):=by
 refine prC hn rfl fun m hn=>?_;refine unf (d:=⟨2,b1042⟩) rfl rfl ?_;refine .inr ⟨_,p2_new hp,?_⟩;refine rwE (u_p2 hp) ?_;cases b
 ·conv=>whnf
  refine oKi (meth_app (g_p2 (W:={ W with pend2:=some [] }) rfl)) ?_;refine (k_default (fB hn rfl) .t rfl).ok ?_;dsimp only[onRes,ewps];refine pend_app (W:={ W with pend2:=some [] }) rfl (by decide) ?_;refine oKi (meth_app (g_p2 (W:={ W with pend2:=some [.int 0] }) rfl)) ?_;refine (k_default (fB hn rfl) (.s .o) rfl).ok ?_;dsimp only[onRes,ewps];refine pend_app (W:={ W with pend2:=some [.int 0] }) rfl (by decide) ?_;exact q
 ·conv=>whnf
  refine oKi (meth_app (g_p2 (W:={ W with pend2:=some [] }) rfl)) ?_;refine (k_default (fB hn rfl) (.s .o) rfl).ok ?_;dsimp only[onRes,ewps];refine pend_app (W:={ W with pend2:=some [] }) rfl (by decide) ?_;refine oKi (meth_app (g_p2 (W:={ W with pend2:=some [.int 0] }) rfl)) ?_;refine (k_default (fB hn rfl) .t rfl).ok ?_;dsimp only[onRes,ewps];refine pend_app (W:={ W with pend2:=some [.int 0] }) rfl (by decide) ?_;refine oKi (meth_app (g_p2 (W:={ W with pend2:=some [.int 0,.int 0] }) rfl)) ?_;refine (k_default (fB hn rfl) (.s .i4) rfl).ok ?_;dsimp only[onRes,ewps];refine pend_app (W:={ W with pend2:=some [.int 0,.int 0] }) rfl (by decide) ?_;exact q
theorem lt_of_some {α:Type} {l:List α} {j:Nat} {t:α} (h:l[j]? = some t):j<l.length:=by
 rcases Nat.lt_or_ge j l.length with h1|h1
 ·exact h1
 ·rw[List.getElem?_eq_none h1] at h; exact (noS h).elim
theorem u_slots {j:Nat} {t:Th} {s:List AV} (h:W.things[j]? = some t):upd (mk c W T) (.r 2 j) (.list s)=mk c { W with things:=W.things.set j { t with slots:=s } } T:=by
 have hj:=lt_of_some h;have hf:fix c { W with things:=W.things.set j { t with slots:=s } } = fix c W:=by
  have:fix c { W with things:=W.things.set j { t with slots:=s } } = (fix c W).set 28 (.list (thL (W.things.set j { t with slots:=s }).length)):=rfl;rw[this,List.length_set]; rfl
 funext a
 induction a using AA.casesOn with
 |f k=>(refine rwE (upd_ne (by simp)) ?_); simp only[mkF,hf]
 |t k=>(refine rwE (upd_ne (by simp)) ?_); rfl
 |r k i =>
  match k with
  |0 =>
   refine rwE (upd_ne (by simp)) ?_;dsimp only[mkR0];by_cases e:i=j
   ·subst e; rw[List.getElem?_set_self hj,h]; rfl
   ·refine rwE (List.getElem?_set_ne (Ne.symm e)) ?_; rfl
  |1 =>
   refine rwE (upd_ne (by simp)) ?_;dsimp only[mkR1];by_cases e:i=j
   ·subst e; rw[List.getElem?_set_self hj,h]; rfl
   ·refine rwE (List.getElem?_set_ne (Ne.symm e)) ?_; rfl
  |2 =>
   by_cases e:i=j
   ·subst e; refine rwE upd_same ?_; simp[mkR2,hj,List.getElem?_append]
   ·refine rwE (upd_ne (by simpa using e)) ?_;simp only[mkR2,List.getElem?_append,List.length_map,List.length_set,List.getElem?_map];rw[List.getElem?_set_ne (Ne.symm e)]
  |3=>(refine rwE (upd_ne (by simp)) ?_); simp[mkR3]
  |_+4=>(refine rwE (upd_ne (by simp)) ?_); rfl
theorem c_new_instance (hn:15≤n) (p:Fin 7) (hp:W.pend2=none) (hl:W.things.length≤90000)
 (q:∀i:Int,i=(W.things.length:Int)+1→Q (.ok (.int i)) (mk c { W with things:=W.things++[⟨.err p,zeroS (c.fm p.val),none⟩] } T)) :
 wpF (sta l zs) funs n 1049 [.ref (.f 27),.int (nmK (.err p))] Q (mk c W T):=by
 refine prC hn rfl fun m hn=>?_;refine unf (d:=⟨2,b1049⟩) rfl rfl ?_;refine (k_layout (fB hn rfl) p).ok ?_;refine oKi (g_shpK p) ?_;refine c_defaults (fB hn rfl) _ hp ?_;refine c_new_item (nm:=.err p) (W:={ W with pend2:=some (zeroS (c.fm p.val)) }) (fB hn rfl) rfl hl fun i hi=>?_;refine rwE (show ({ W with things:=W.things++[⟨.err p,zeroS (c.fm p.val),none⟩],pend2:=none }:Wd) = { W with things:=W.things++[⟨.err p,zeroS (c.fm p.val),none⟩] } by cases W; simp_all) ?_;exact q i hi
theorem meth_get {S:Stat} {H:AH} {a:AA} {d:List (Int×AV)} (h:H a=some (.id d)):methOf S H (.ref a) 7=some .get:=congrArg (methO S H · 7) h
theorem getD_id {S:Stat} {H:AH} {a:AA} {d:List (Int×AV)} {k:Int} {z v:AV} (h:H a=some (.id d)) (e:(lk d k).getD z=v):getD (objOf S H (.ref a)) (.int k) z=some v:=(congrArg (getD · (.int k) z) h).trans (congrArg some e)
noncomputable def slotE:Bool→Int
 |true=>1
 |false=>0
theorem c_error_item (hn:16≤n) (p:Fin 7) (hp:W.pend2=none) (hl:W.things.length≤89980)
 (q:∀i:Int,i=(W.things.length:Int)+1→Q (.ok (.int i)) (mk c { W with things:=W.things++errL c p W.things.length } T)) :
 wpF (sta l zs) funs n 1056 [.ref (.f 27),.int (tidE p),.str (wordsE p)] Q (mk c W T):=by
 refine prC hn rfl fun m hn=>?_;refine unf (d:=⟨3,b1056⟩) rfl rfl ?_;refine (k_class (fB hn rfl) p).ok ?_;refine c_new_instance (fB hn rfl) p hp (by lia) fun i hi=>?_;refine (k_layout (fB hn rfl) p).ok ?_;refine oKi (g_shpS p) ?_;refine oKi (meth_get (o_shpS p)) ?_;dsimp only[ewps,ewp,methA,appQ,popQ,getQ];refine oKi (getD_id (v:=.int (slotE (c.fm p.val))) (o_shpS p) (by cases c.fm p.val<;>rfl)) ?_;refine dT (by cases c.fm p.val<;>decide) ?_;refine c_new_words (W:={ W with things:=W.things++[⟨.err p,zeroS (c.fm p.val),none⟩] }) (fB hn rfl) hp (by simp; lia) fun i2 hi2=>?_;have hj:({ W with things:=W.things++[⟨.err p,zeroS (c.fm p.val),none⟩]++[⟨.t,[],some (wordsE p)⟩] }:Wd).things[W.things.length]? = some ⟨.err p,zeroS (c.fm p.val),none⟩:=by simp
 refine oKi (th_get (j:=W.things.length) (by simp) hi (by simp; lia)) ?_;refine oKi (g_slots hj) ?_;conv=>whnf
 refine rwE (o_slots hj) ?_;refine⟨by cases c.fm p.val<;>decide,by cases c.fm p.val<;>decide,by cases c.fm p.val<;>exact of_decide_eq_true rfl,?_⟩;refine rwE (u_slots hj) ?_;have e:(W.things++[⟨.err p,zeroS (c.fm p.val),none⟩]++[⟨.t,[],some (wordsE p)⟩]:List Th).set W.things.length ⟨.err p,(zeroS (c.fm p.val)).set (slotE (c.fm p.val)).toNat (.int i2),none⟩=W.things++errL c p W.things.length:=by
  have hi2':i2=(W.things.length:Int)+2:=by simp at hi2; lia
  refine rwE (List.append_assoc ..) ?_; refine rwE (List.set_append_right _ _ (Nat.le_refl _) ..) ?_; refine rwE (Nat.sub_self ..) ?_; refine rwE (hi2' ..) ?_;dsimp only[List.singleton_append,List.set_cons_zero,errL];cases c.fm p.val<;>rfl
 have:=q i hi;rw[←e] at this;exact this
theorem c_throw (hn:19≤n) (p:Fin 7) (hp:W.pend2=none) (hl:W.things.length≤89980)
 (q:∀i:Int,i=(W.things.length:Int)+1→Q (.exc (.int i)) (mk c { W with things:=W.things++errL c p W.things.length } T)) :
 wpF (sta l zs) funs n 850 [.ref (.f 27),.int (tidE p),.str (wordsE p)] Q (mk c W T):=by
 obtain⟨m,rfl⟩:∃m,n=m+1+1:=⟨n - 2,by lia⟩;refine unf (d:=⟨3,b850⟩) rfl rfl ?_;show swps _ _ b850 _ _ _ _ _ _
 dsimp only[b850,j0,j1,j2,swps,swp,ewp,ewps];refine oKi (a:=.ref (.f 27)) rfl ?_;refine oKi (a:=.ref (.f 27)) rfl ?_;refine oKi (a:=.fn 976) rfl ?_;refine oKi (a:=.int (tidE p)) rfl ?_;refine oKi (a:=.str (wordsE p)) rfl ?_;dsimp only[methA,appQ,popQ,getQ];refine unf (d:=⟨3,b976⟩) rfl rfl ?_;refine c_error_item (by lia) p hp hl fun i hi=>?_;dsimp only[onRes];refine unf (d:=⟨2,b864⟩) rfl rfl ?_;refine dF (by lia) ?_;refine⟨rfl,?_⟩;exact q i hi
theorem c_nothing (hn:20≤n) (hp:W.pend2=none) (hl:W.things.length≤89980)
 (q:∀i:Int,i=(W.things.length:Int)+1→Q (.exc (.int i)) (mk c { W with things:=W.things++errL c 0 W.things.length } T)) :
 wpF (sta l zs) funs n 857 [.ref (.f 27)] Q (mk c W T):=by
 refine prC hn rfl fun m hn=>?_;refine unf (d:=⟨1,b857⟩) rfl rfl ?_;exact c_throw (fB hn rfl) 0 hp hl q
theorem c_over (hn:20≤n) (hp:W.pend2=none) (hl:W.things.length≤89980)
 (q:∀i:Int,i=(W.things.length:Int)+1→Q (.exc (.int i)) (mk c { W with things:=W.things++errL c 3 W.things.length } T)) :
 wpF (sta l zs) funs n 1112 [.ref (.f 27)] Q (mk c W T):=by
 refine prC hn rfl fun m hn=>?_;refine unf (d:=⟨1,b1112⟩) rfl rfl ?_;exact c_throw (by lia) 3 hp hl q
end
set_option genCtorIdx false in
inductive Sen where
 |held (nm:Nm) (v:AV)
 |elem (x:B0) (a i:Sen)
 |asg (x:B0) (a i v:Sen)
 |comp (x:B0) (a i v:Sen) (post:Int)
 |len (a:Sen)
 |new (x:B0) (i:Sen)
 |cast (nm:Nm) (s:Sen)
 |box (s:Sen)
 |wrap (nm:Nm) (s:Sen)
 |value (nm:Nm) (s:Sen)
 |num (x:B0) (s:Sen) (chk:Int)
noncomputable def nmOf:Sen→Nm
 |.held nm _=>nm|.elem x _ _=>.s x|.asg x _ _ _=>.s x|.comp x _ _ _ _=>.s x|.len _=>.s .i4|.new x _=>.arr x
 |.cast nm _=>nm|.box _=>.s .o|.wrap nm _=>nm|.value nm _=>nm|.num x _ _=>.s x
noncomputable def nE (s:Sen):AV:=.str (nmT (nmOf s))
noncomputable def kE' (s:Sen):AV:=.int (nmK (nmOf s))
noncomputable def sAV:Sen→AV
 |.held nm v=>.tup [.str [104,101,108,100],.str (nmT nm),v]
 |.elem x a i=>.tup [.str [101,108,101,109],.str (nmT (.s x)),sAV a,sAV i]
 |.asg x a i v=>.tup [.str [97,115,115,105,103,110],.str (nmT (.s x)),sAV a,sAV i,sAV v]
 |.comp x a i v post=>.tup [.str [99,111,109,112,111,117,110,100],.str (nmT (.s x)),sAV a,sAV i,sAV v,.int post]
 |.len a=>.tup [.str [108,101,110],.str (nmT (.s .i4)),sAV a]
 |.new x i=>.tup [.str [110,101,119],.str (nmT (.arr x)),sAV i]
 |.cast nm s=>.tup [.str [99,97,115,116],.str (nmT nm),sAV s]
 |.box s=>.tup [.str [98,111,120],.str (nmT (.s .o)),sAV s]
 |.wrap nm s=>.tup [.str [119,114,97,112],.str (nmT nm),sAV s]
 |.value nm s=>.tup [.str [118,97,108,117,101],.str (nmT nm),sAV s]
 |.num x s chk=>.tup [.str [110,117,109],.str (nmT (.s x)),sAV s,.int chk]
noncomputable def tree:Sen→AV
 |.held nm v=>.tup [.int 90,.int (nmK nm),v]
 |.elem x a i=>.tup [.int 6,.int (nmK (.s x)),tree a,tree i]
 |.asg x a i v=>.tup [.int 22,.int (nmK (.s x)),.tup [.int 6,.int (nmK (.s x)),tree a,tree i],tree v]
 |.comp x a i v post=>.tup [.int 23,.int (nmK (.s x)),.tup [.int 6,.int (nmK (.s x)),tree a,tree i],tree v,.int post]
 |.len a=>.tup [.int 7,.int (nmK (.s .i4)),tree a]
 |.new x i=>.tup [.int 10,.int (nmK (.arr x)),tree i]
 |.cast nm s=>.tup [.int 19,.int (nmK nm),tree s,.int (bif refers nm then 3 else 5),.int 0]
 |.box s=>.tup [.int 19,.int (nmK (.s .o)),tree s,.int 4,.int 0]
 |.wrap nm s=>.tup [.int 19,.int (nmK nm),tree s,.int 6,.int 0]
 |.value nm s=>.tup [.int 19,.int (nmK nm),tree s,.int 7,.int 0]
 |.num x s chk=>.tup [.int 19,.int (nmK (.s x)),tree s,.int 1,.int chk]
noncomputable def size:Sen→Nat
 |.held _ _=>1
 |.elem _ a i=>size a+size i+1
 |.asg _ a i v=>size a+size i+size v+1
 |.comp _ a i v _=>size a+size i+size v+2
 |.len a=>size a+1
 |.new _ i=>size i+2
 |.cast _ s=>size s+2
 |.box s=>size s+2
 |.wrap _ s=>size s+2
 |.value _ s=>size s+2
 |.num _ s _=>size s+2
inductive SR where
 |ok (v:AV)
 |err (p:Fin 7)
noncomputable abbrev SZ:=SR×List Th
noncomputable def thI (L:List Th) (i:Int):Option Th:=if 0<i then L[(i - 1).toNat]? else none
noncomputable def intV:AV→Int
 |.int z=>z
 |_=>0
noncomputable def fstV:AV→Int
 |.tup (.int z::_)=>z
 |_=>0
noncomputable def sndV:AV→AV
 |.tup [_,v]=>v
 |_=>.none
noncomputable def goesK (pb:Bool) (i j:Int):Bool:=decide (i=j)||decide (j=12)||(lk (kinTd pb) [.i i,.i j]).isSome
noncomputable def goesN (pb:Bool) (a b:Nm):Bool:=goesK pb (nmK a) (nmK b)
noncomputable def goes (pb:Bool) (L:List Th) (i:Int) (nm:Nm):Bool:=match thI L i with
 |some t=>goesN pb t.nm nm
 |none=>false
noncomputable def slotsI (L:List Th) (i:Int):List AV:=match thI L i with
 |some t=>t.slots
 |none=>[]
noncomputable def elemT (t:Th):B0:=match t.nm with
 |.arr y=>y
 |_=>.i4
noncomputable def bindS (r:SZ) (f:AV→List Th→SZ):SZ:=match r with
 |(.ok v,L)=>f v L
 |(.err p,L)=>(.err p,L)
theorem bE {r:SZ} {p:Fin 7} {L:List Th} {f:AV→List Th→SZ} (h:r=(.err p,L)):bindS r f=(.err p,L):=congrArg (bindS · f) h
theorem bO {r:SZ} {v:AV} {L:List Th} {f:AV→List Th→SZ} (h:r=(.ok v,L)):bindS r f=f v L:=congrArg (bindS · f) h
noncomputable def overB (nm:Nm) (n:Int):Bool:=(nm==.s .i8||nm==.u8)&&!(decide (-2147483648≤n)&&decide (n≤2147483647))
noncomputable def overS (nm:Nm) (v:AV) (L:List Th):SZ:=bif overB nm (intV v) then (.err 3,L) else (.ok v,L)
theorem overE {nm:Nm} {z:Int} {L:List Th} (h:overB nm z=true):overS nm (.int z) L=(.err 3,L):=by show (bif overB nm z then _ else _)=_; rw[h]; rfl
theorem overO {nm:Nm} {z:Int} {L:List Th} (h:overB nm z=false):overS nm (.int z) L=(.ok (.int z),L):=by show (bif overB nm z then _ else _)=_; rw[h]; rfl
noncomputable def lookS (L:List Th) (a n:Int):Option (Fin 7):=if a=0 then some 0 else if n<0∨(slotsI L a).length≤n then some 1 else none
noncomputable def getS (L:List Th) (a n:Int):AV:=(slotsI L a).getD n.toNat .none
noncomputable def setS (L:List Th) (a n:Int) (v:AV):List Th:=match thI L a with
 |some t=>L.set (a - 1).toNat { t with slots:=t.slots.set n.toNat v }
 |none=>L
noncomputable def storeB (pb:Bool) (L:List Th) (t:Th) (v:AV):Bool:=refers (.s (elemT t))&&decide (intV v≠0)&&!goes pb L (intV v) (.s (elemT t))
noncomputable def storeS (u:U4) (pb:Bool) (L:List Th) (a n:Int) (v:AV):SZ:=match lookS L a n with
 |some p=>(.err p,L)
 |none=>match thI L a with
  |some t=>bif storeB pb L t v then (.err 4,L) else (.ok v,setS L a n (seenV u (elemT t) v))
  |none=>(.err 0,L)
theorem goes_at {pb:Bool} {L:List Th} {i:Int} {nm:Nm} {t:Th} (h:thI L i=some t):goes pb L i nm=goesN pb t.nm nm:=by unfold goes; refine rwE h ?_; rfl
theorem stB0 {pb:Bool} {L:List Th} {t:Th} {y:B0} {v:AV} (e:elemT t=y) (hr:refers (.s y)=false):storeB pb L t v=false:=by subst e; unfold storeB; rw[hr]; rfl
theorem stBi {pb b:Bool} {L:List Th} {t:Th} {y:B0} {z:Int} (e:elemT t=y) (hr:refers (.s y)=true) (h0:z≠0) (hg:goes pb L z (.s y)=b):storeB pb L t (.int z) = !b:=by
 subst e; unfold storeB; rw[hr]; show (true&&decide (z≠0)&&!goes pb L z _)=_; rw[decide_eq_true h0,hg]; rfl
theorem stBz {pb:Bool} {L:List Th} {t:Th} {z:Int} (h0:z=0):storeB pb L t (.int z)=false:=by subst h0; unfold storeB; cases refers (.s (elemT t))<;>rfl
theorem storeE {u:U4} {pb:Bool} {L:List Th} {a n:Int} {v:AV} {p:Fin 7} (h:lookS L a n=some p):storeS u pb L a n v=(.err p,L):=by unfold storeS; refine rwE h ?_; rfl
noncomputable def addS (nm:Nm) (v:AV) (L:List Th):SZ:=(.ok (.int ((L.length:Int)+1)),L++[⟨nm,[v],none⟩])
noncomputable def boxS (nm:Nm) (v:AV) (L:List Th):SZ:=bif isQ nm then (if fstV v=0 then (.ok (.int 0),L) else addS (inN nm) (sndV v) L) else addS nm v L
noncomputable def fromS (u:U4) (pb:Bool) (nm:Nm) (i:Int) (L:List Th):SZ :=
 bif refers nm then (if i=0 then (.ok (.int i),L) else bif goes pb L i nm then (.ok (.int i),L) else (.err 2,L))
 else if i=0 then (bif isQ nm then (.ok (.tup [.int 0,.int 0]),L) else (.err 0,L))
 else match thI L i with
  |none=>(.err 2,L)
  |some t=>bif isQ nm then (if t.nm=inN nm then (.ok (.tup [.int 1,t.slots.headD .none]),L) else (.err 2,L))
   else bif refers t.nm then (.err 2,L) else if plainN u t.nm=plainN u nm then (.ok (t.slots.headD .none),L) else (.err 2,L)
noncomputable def numS (u:U4) (x:B0) (chk:Int) (v:AV) (L:List Th):SZ:=if chk≠0∧intV (seenV u x v)≠intV v then (.err 3,L) else (.ok (seenV u x v),L)
noncomputable def newS (x:B0) (n:Int) (L:List Th):SZ:=if n<0∨n>2147483647 then (.err 3,L) else if n>65536 then (.err 6,L)
 else (.ok (.int ((L.length:Int)+1)),L++[⟨.arr x,List.replicate n.toNat (noneV x),none⟩])
noncomputable def elemS (u:U4) (x:B0) (a n:Int) (L:List Th):SZ:=match lookS L a n with
 |some p=>(.err p,L)
 |none=>(.ok (seenV u x (getS L a n)),L)
noncomputable def lenS (a:Int) (L:List Th):SZ:=if a=0 then (.err 0,L) else (.ok (.int ((slotsI L a).length:Int)),L)
noncomputable def sem (u:U4) (pb:Bool):Sen→List Th→SZ
 |.held _ v,L=>(.ok v,L)
 |.elem x a i,L=>bindS (sem u pb a L) fun va L=>bindS (bindS (sem u pb i L) (overS (nmOf i))) fun vi L=>elemS u x (intV va) (intV vi) L
 |.asg x a i v,L=>bindS (sem u pb a L) fun va L=>bindS (bindS (sem u pb i L) (overS (nmOf i))) fun vi L=>bindS (sem u pb v L) fun w L=>storeS u pb L (intV va) (intV vi) w
 |.comp x a i v post,L=>bindS (sem u pb a L) fun va L=>bindS (bindS (sem u pb i L) (overS (nmOf i))) fun vi L=>bindS (elemS u x (intV va) (intV vi) L) fun old L=>bindS (sem u pb v L) fun w L =>
  bindS (storeS u pb L (intV va) (intV vi) w) fun w L=>(.ok (if post≠0 then old else w),L)
 |.len a,L=>bindS (sem u pb a L) fun va L=>lenS (intV va) L
 |.new x i,L=>bindS (bindS (sem u pb i L) (overS (nmOf i))) fun vi L=>newS x (intV vi) L
 |.cast nm s,L=>bindS (sem u pb s L) fun v L=>fromS u pb nm (intV v) L
 |.box s,L=>bindS (sem u pb s L) fun v L=>boxS (nmOf s) v L
 |.wrap _ s,L=>bindS (sem u pb s L) fun v L=>(.ok (.tup [.int 1,v]),L)
 |.value _ s,L=>bindS (sem u pb s L) fun v L=>if fstV v=0 then (.err 5,L) else (.ok (sndV v),L)
 |.num x s chk,L=>bindS (sem u pb s L) fun v L=>numS u x chk v L
theorem sB {r r':SZ} {f:AV→List Th→SZ} (h:r=r'):bindS r f=bindS r' f:=by rw[h]
noncomputable def isN:Nm→Bool
 |.s x=>isI x
 |.u8=>true
 |_=>false
noncomputable def cls:B0→Nat
 |.o=>1|.a=>1|.b=>1|.q4=>2|_=>0
def Val (L:List Th) (nm:Nm) (v:AV):Prop:=match isN nm,isQ nm with
 |true,_=>∃z,v = .int z
 |false,true=>v = .tup [.int 0,.int 0]∨∃z,v = .tup [.int 1,.int z]
 |false,false=>∃i:Int,v = .int i∧0≤i∧i≤L.length∧∀x,nm = .arr x→i≠0→∃t y,thI L i=some t∧t.nm = .arr y∧cls y=cls x
noncomputable def idxN (nm:Nm):Bool:=nm==.s .i4||nm==.s .u4||nm==.s .i8||nm==.u8
noncomputable def WFS (L:List Th):Sen→Prop
 |.held nm v=>Val L nm v
 |.elem x a i=>WFS L a∧nmOf a = .arr x∧WFS L i∧idxN (nmOf i)=true
 |.asg x a i v=>WFS L a∧nmOf a = .arr x∧WFS L i∧idxN (nmOf i)=true∧WFS L v∧nmOf v = .s x
 |.comp x a i v _=>WFS L a∧nmOf a = .arr x∧WFS L i∧idxN (nmOf i)=true∧WFS L v∧nmOf v = .s x
 |.len a=>WFS L a∧∃x,nmOf a = .arr x
 |.new _ i=>WFS L i∧idxN (nmOf i)=true
 |.cast _ s=>WFS L s∧nmOf s = .s .o
 |.box s=>WFS L s∧((∃x,nmOf s = .s x∧isI x=true)∨isQ (nmOf s)=true)
 |.wrap nm s=>WFS L s∧isQ nm=true∧nmOf s=inN nm
 |.value nm s=>WFS L s∧isQ (nmOf s)=true∧nm=inN (nmOf s)
 |.num x s _=>WFS L s∧isI x=true∧isN (nmOf s)=true
def TOk (L:List Th) (t:Th):Prop:=t.slots.length≤65536∧match t.nm with
 |.arr y=>∀v∈t.slots,Val L (.s y) v
 |.s x=>(isI x=true∧∃z,t.slots=[.int z])∨((x = .a∨x = .b)∧t.slots=[])
 |.err _=>∀v∈t.slots,∃z,v = .int z
 |.t=>t.slots=[]
 |_=>False
def WL (L:List Th):Prop:=∀t∈L,TOk L t
def ThE (L L':List Th):Prop:=L.length≤L'.length∧∀(j:Nat) (t:Th),L[j]? = some t→∃t':Th,L'[j]? = some t'∧t'.nm=t.nm∧t'.slots.length=t.slots.length
theorem ThE.refl (L:List Th):ThE L L:=⟨Nat.le_refl _,fun j t h=>⟨t,h,rfl,rfl⟩⟩
theorem ThE.trans {L M N:List Th} (a:ThE L M) (b:ThE M N):ThE L N:=⟨Nat.le_trans a.1 b.1,fun j t h=>by
 refine E13 (a.2 j t h) fun t1 h1 e1 f1=>?_;refine E13 (b.2 j t1 h1) fun t2 h2 e2 f2=>?_;exact⟨t2,h2,e2.trans e1,f2.trans f1⟩⟩
theorem ThE.app (L M:List Th):ThE L (L++M):=⟨by simp,fun j t h=>⟨t,by refine rwE (List.getElem?_append_left (lt_of_some h)) ?_; exact h,rfl,rfl⟩⟩
theorem ThE.set {L:List Th} {j:Nat} {t:Th} (h:L[j]? = some t) (s:List AV) (hs:s.length=t.slots.length):ThE L (L.set j { t with slots:=s }):=⟨by simp,fun i u hu=>by
 by_cases e:j=i
 ·subst e;rw[h] at hu; obtain rfl:=Option.some.inj hu;exact⟨_,List.getElem?_set_self (lt_of_some h),rfl,hs⟩
 ·exact⟨u,by refine rwE (List.getElem?_set_ne e) ?_; exact hu,rfl,rfl⟩⟩
theorem thI_mono {L L':List Th} (e:ThE L L') {i:Int} {t:Th} (h:thI L i=some t):∃t',thI L' i=some t'∧t'.nm=t.nm∧t'.slots.length=t.slots.length:=by
 unfold thI at *;split at h
 ·rename_i h0
  simp only[if_pos h0]; exact e.2 _ _ h
 ·exact (noS h).elim
theorem thI_monoI {L L':List Th} (e:ThE L L') {i:Int} {t:Th} (h:thI L i=some t) {C:Prop} (q:∀t',thI L' i=some t'→t'.nm=t.nm→t'.slots.length=t.slots.length→C):C:=E13 (thI_mono e h) q
theorem thI_some {L:List Th} {i:Int} (h0:i≠0) (h1:0≤i) (h2:i≤L.length):∃t,thI L i=some t:=by
 dsimp only[thI];rw[if_pos (by lia)];have:(i - 1).toNat<L.length:=by lia
 exact⟨_,List.getElem?_eq_getElem this⟩
theorem thI_at {L:List Th} {i:Int} {t:Th} (h:thI L i=some t):0<i∧L[(i - 1).toNat]? = some t∧i≤L.length:=by
 unfold thI at h;split at h
 ·rename_i h0
  have:=lt_of_some h;exact⟨h0,h,by lia⟩
 ·exact (noS h).elim
theorem thI_atI {L:List Th} {i:Int} {t:Th} (h:thI L i=some t) {C:Prop} (q:0<i→L[(i - 1).toNat]? = some t→i≤L.length→C):C:=E03 (thI_at h) q
theorem Val.mono {L L':List Th} (e:ThE L L') {nm:Nm} {v:AV} (h:Val L nm v):Val L' nm v:=by
 unfold Val at *;generalize isN nm=n at *;generalize isQ nm=q at *;cases n
 ·cases q
  ·refine E14 h fun i eq1 h0 h1 h2=>?_; subst eq1;refine⟨i,rfl,h0,by have:=e.1; lia,fun x hx hi=>?_⟩;refine E23 (h2 x hx hi) fun t y ht hn hc=>?_;refine (thI_monoI e ht) fun t' ht' hn' _=>?_;exact⟨t',y,ht',hn'.trans hn,hc⟩
  ·exact h
 ·exact h
theorem WFS.mono {L L':List Th} (e:ThE L L'):∀{s:Sen},WFS L s→WFS L' s
 |.held _ _,h=>Val.mono e h
 |.elem _ _ _,h=>⟨WFS.mono e h.1,h.2.1,WFS.mono e h.2.2.1,h.2.2.2⟩
 |.asg _ _ _ _,h=>⟨WFS.mono e h.1,h.2.1,WFS.mono e h.2.2.1,h.2.2.2.1,WFS.mono e h.2.2.2.2.1,h.2.2.2.2.2⟩
 |.comp _ _ _ _ _,h=>⟨WFS.mono e h.1,h.2.1,WFS.mono e h.2.2.1,h.2.2.2.1,WFS.mono e h.2.2.2.2.1,h.2.2.2.2.2⟩
 |.len _,h=>⟨WFS.mono e h.1,h.2⟩
 |.new _ _,h=>⟨WFS.mono e h.1,h.2⟩
 |.cast _ _,h=>⟨WFS.mono e h.1,h.2⟩
 |.box _,h=>⟨WFS.mono e h.1,h.2⟩
 |.wrap _ _,h=>⟨WFS.mono e h.1,h.2⟩
 |.value _ _,h=>⟨WFS.mono e h.1,h.2⟩
 |.num _ _ _,h=>⟨WFS.mono e h.1,h.2⟩
theorem TOk.mono {L L':List Th} (e:ThE L L') {t:Th} (h:TOk L t):TOk L' t:=by
 obtain⟨tn,ts,tt⟩:=t;refine⟨h.1,?_⟩;replace h:=h.2;induction tn using Nm.casesOn with
 |arr y=>exact fun v hv=>Val.mono e (h v hv)
 |_=>exact h
theorem WL.app {L:List Th} {t:Th} (h:WL L) (ht:TOk (L++[t]) t):WL (L++[t]):=fun u hu=>by
 rcases List.mem_append.mp hu with h1|h1
 ·exact TOk.mono (ThE.app _ _) (h u h1)
 ·simp at h1; subst h1; exact ht
theorem WL.at {L:List Th} (h:WL L) {i:Int} {t:Th} (ht:thI L i=some t):TOk L t:=h t (List.mem_of_getElem? (thI_at ht).2.1)
def Good (L:List Th) (nm:Nm) (k:Nat) (r:SZ):Prop:=WL r.2∧ThE L r.2∧r.2.length≤L.length+k∧∀v,r.1 = .ok v→Val r.2 nm v
theorem Good.ok {L:List Th} {nm:Nm} {k:Nat} {v:AV} (h:WL L) (hv:Val L nm v):Good L nm k (.ok v,L):=⟨h,ThE.refl L,by simp,fun _ e=>by cases e; exact hv⟩
theorem Good.err {L:List Th} {nm:Nm} {k:Nat} {p:Fin 7} (h:WL L):Good L nm k (.err p,L):=⟨h,ThE.refl L,by simp,fun _ e=>by cases e⟩
theorem Good.bind {L:List Th} {nm nm':Nm} {k k':Nat} {r:SZ} {f:AV→List Th→SZ} (h:Good L nm k r) (g:∀v L',WL L'→ThE L L'→Val L' nm v→Good L' nm' k' (f v L')):Good L nm' (k+k') (bindS r f):=by
 obtain⟨r1,r2⟩:=r;refine E04 h fun h1 h2 h3 h4=>?_;induction r1 using SR.casesOn with
 |err p=>exact⟨h1,h2,Nat.le_trans h3 (by lia),fun _ e=>by cases e⟩
 |ok v =>
  refine E04 (g v r2 h1 h2 (h4 v rfl)) fun g1 g2 g3 g4=>?_;exact⟨g1,h2.trans g2,by dsimp only[bindS] at *; lia,g4⟩
theorem Good.le {L:List Th} {nm:Nm} {k k':Nat} {r:SZ} (h:Good L nm k r) (hk:k≤k'):Good L nm k' r:=⟨h.1,h.2.1,by have:=h.2.2.1; lia,h.2.2.2⟩
theorem val_int {L:List Th} {nm:Nm} {v:AV} (h:isN nm=true) (hv:Val L nm v):∃z,v = .int z:=by unfold Val at hv; rw[h] at hv; exact hv
theorem int_val {L:List Th} {nm:Nm} {z:Int} (h:isN nm=true):Val L nm (.int z):=by unfold Val; refine rwE h ?_; exact⟨z,rfl⟩
theorem isQ_isN {nm:Nm} (h:isQ nm=true):isN nm=false:=by
 induction nm using Nm.casesOn with
 |s x=>cases x<;>first|rfl|cases h
 |_=>first|rfl|exact (noB h).elim
theorem val_q {L:List Th} {nm:Nm} {v:AV} (h:isQ nm=true) (hv:Val L nm v):v = .tup [.int 0,.int 0]∨∃z,v = .tup [.int 1,.int z]:=by unfold Val at hv; rw[h,isQ_isN h] at hv; exact hv
theorem q_val {L:List Th} {nm:Nm} {v:AV} (h:isQ nm=true) (hv:v = .tup [.int 0,.int 0]∨∃z,v = .tup [.int 1,.int z]):Val L nm v:=by unfold Val; rw[h,isQ_isN h]; exact hv
theorem inN_isN {nm:Nm} (h:isQ nm=true):isN (inN nm)=true:=by
 induction nm using Nm.casesOn with
 |s x=>cases x<;>first|rfl|cases h
 |_=>first|rfl|exact (noB h).elim
theorem isN_idx {nm:Nm} (h:idxN nm=true):isN nm=true:=by
 revert h; apply nm_all (P:=fun nm=>idxN nm=true→isN nm=true)<;>decide
theorem ref_iff (nm:Nm):refers nm=(!isN nm&&!isQ nm):=by
 apply nm_all (P:=fun nm=>refers nm=(!isN nm&&!isQ nm))<;>decide
theorem ref_val {L:List Th} {nm:Nm} {i:Int} (h:refers nm=true) (h0:0≤i) (h1:i≤L.length) (h2:∀x,nm = .arr x→i≠0→∃t y,thI L i=some t∧t.nm = .arr y∧cls y=cls x):Val L nm (.int i):=by
 rw[ref_iff] at h;simp only[Bool.and_eq_true,Bool.not_eq_true'] at h;unfold Val; refine rwE h.1 ?_; refine rwE h.2 ?_; exact⟨i,rfl,h0,h1,h2⟩
theorem val_ref {L:List Th} {nm:Nm} {v:AV} (h:refers nm=true) (hv:Val L nm v):∃i:Int,v = .int i∧0≤i∧i≤L.length∧∀x,nm = .arr x→i≠0→∃t y,thI L i=some t∧t.nm = .arr y∧cls y=cls x:=by
 rw[ref_iff] at h;simp only[Bool.and_eq_true,Bool.not_eq_true'] at h;unfold Val at hv; rw[h.1,h.2] at hv; exact hv
theorem val_refI {L:List Th} {nm:Nm} {v:AV} (h:refers nm=true) (hv:Val L nm v) {C:Prop} (q:∀i:Int,v = .int i→0≤i→i≤L.length→(∀x,nm = .arr x→i≠0→∃t y,thI L i=some t∧t.nm = .arr y∧cls y=cls x)→C):C:=E14 (val_ref h hv) q
theorem s_cls {x:B0}:cls x=0↔isI x=true:=by cases x<;>decide
theorem s_cls1 {x:B0}:cls x=1↔refers (.s x)=true:=by cases x<;>decide
theorem s_cls2 {x:B0}:cls x=2↔isQ (.s x)=true:=by cases x<;>decide
theorem val_cls {L:List Th} {x y:B0} {v:AV} (h:cls x=cls y) (hv:Val L (.s x) v):Val L (.s y) v:=by
 have a:∀x,isN (.s x)=decide (cls x=0):=fun x=>by cases x<;>rfl
 have b:∀x,isQ (.s x)=decide (cls x=2):=fun x=>by cases x<;>rfl
 have hn:isN (.s x)=isN (.s y):=(a x).trans (h▸(a y).symm);have hq:isQ (.s x)=isQ (.s y):=(b x).trans (h▸(b y).symm);clear a b h;unfold Val at hv ⊢;rw[hn,hq] at hv;clear hn hq;generalize isN (.s y)=n at *;generalize isQ (.s y)=q at *;cases n
 ·cases q
  ·exact E14 hv fun i hi h0 h1 _=>⟨i,hi,h0,h1,fun _ e=>nomatch e⟩
  ·exact hv
 ·exact hv
theorem seen_val {L:List Th} {u:U4} {x:B0} {v:AV} (hv:Val L (.s x) v):Val L (.s x) (seenV u x v):=by
 by_cases h:isI x=true
 ·obtain⟨z,rfl⟩:=val_int (nm:=.s x) h hv;have:∃p,span u x=some p:=by cases x<;>first|exact⟨_,rfl⟩|cases h
  obtain⟨p,hp⟩:=this;unfold seenV; refine rwE hp ?_; exact int_val h
 ·have:span u x=none:=by cases x<;>first|rfl|exact absurd rfl h
  unfold seenV; refine rwE this ?_; exact hv
theorem seen_valI {L:List Th} {u:U4} {x:B0} {v:AV} (h:isI x=true) (hv:∃z,v = .int z):Val L (.s x) (seenV u x v):=by
 obtain⟨z,rfl⟩:=hv;exact seen_val (int_val h)
theorem look_none {L:List Th} {a n:Int} (h:lookS L a n=none):a≠0∧0≤n∧n<(slotsI L a).length:=by
 unfold lookS at h;split at h
 ·cases h
 ·split at h
  ·cases h
  ·exact⟨by assumption,by lia,by lia⟩
theorem look_noneI {L:List Th} {a n:Int} (h:lookS L a n=none) {C:Prop} (q:a≠0→0≤n→n<(slotsI L a).length→C):C:=E03 (look_none h) q
theorem getS_mem {L:List Th} {a n:Int} (h:lookS L a n=none):∃t,thI L a=some t∧slotsI L a=t.slots∧getS L a n∈t.slots:=by
 refine (look_noneI h) fun _ h0 h1=>?_;unfold getS;unfold slotsI at *;cases e:thI L a with
 |none=>rw[e] at h1; simp at h1; lia
 |some t =>
  rw[e] at h1;simp only at h1 ⊢;refine⟨t,rfl,rfl,?_⟩;have:n.toNat<t.slots.length:=by lia
  rw[List.getD_eq_getElem?_getD,List.getElem?_eq_getElem this];exact List.getElem_mem this
theorem getS_memI {L:List Th} {a n:Int} (h:lookS L a n=none) {C:Prop} (q:∀t,thI L a=some t→slotsI L a=t.slots→getS L a n∈t.slots→C):C:=E13 (getS_mem h) q
theorem arr_at {L:List Th} {x:B0} {v:AV} (hv:Val L (.arr x) v):∃i:Int,v = .int i∧0≤i∧i≤L.length∧(i≠0→∃t y,thI L i=some t∧t.nm = .arr y∧cls y=cls x):=by
 refine (val_refI (nm:=.arr x) rfl hv) fun i h1 h2 h3 h4=>?_;exact⟨i,h1,h2,h3,h4 x rfl⟩
theorem arr_atI {L:List Th} {x:B0} {v:AV} (hv:Val L (.arr x) v) {C:Prop} (q:∀i:Int,v = .int i→0≤i→i≤L.length→(i≠0→∃t y,thI L i=some t∧t.nm = .arr y∧cls y=cls x)→C):C:=E14 (arr_at hv) q
theorem overS_good {L:List Th} {nm:Nm} {k:Nat} {v:AV} (h:WL L) (hv:Val L nm v):Good L nm k (overS nm v L):=by
 unfold overS;cases overB nm (intV v)
 ·exact .ok h hv
 ·exact .err h
theorem elem_good {L:List Th} {u:U4} {x:B0} {a n:Int} (h:WL L) (ha:a≠0→∃t y,thI L a=some t∧t.nm = .arr y∧cls y=cls x):Good L (.s x) 0 (elemS u x a n L):=by
 unfold elemS;induction hl:lookS L a n using Option.casesOn with
 |some p=>exact .err h
 |none =>
  refine E23 (ha (look_none hl).1) fun t y ht hn hc=>?_;refine (getS_memI hl) fun t' ht' _ hm=>?_;rw[ht] at ht'; obtain rfl:=Option.some.inj ht';have:=(WL.at h ht).2;rw[hn] at this;exact .ok h (seen_val (val_cls hc (this _ hm)))
theorem store_good {L:List Th} {u:U4} {pb:Bool} {x:B0} {a n:Int} {v:AV} (h:WL L) (ha:a≠0→∃t y,thI L a=some t∧t.nm = .arr y∧cls y=cls x) (hv:Val L (.s x) v):Good L (.s x) 0 (storeS u pb L a n v):=by
 unfold storeS;induction hl:lookS L a n using Option.casesOn with
 |some p=>exact .err h
 |none =>
  obtain⟨⟨tn,ts,tt⟩,y,ht,hn,hc⟩:=ha (look_none hl).1;dsimp only at hn;subst hn;rw[ht];simp only
  cases storeB pb L ⟨.arr y,ts,tt⟩ v
  ·simp only[cond_false];show Good L (.s x) 0 (.ok v,setS L a n (seenV u y v))
   unfold setS;rw[ht];simp only
   refine (thI_atI ht) fun h0 hj _=>?_;have hsv:Val L (.s y) (seenV u y v):=seen_val (val_cls hc.symm hv);have E:ThE L (L.set (a - 1).toNat ⟨.arr y,ts.set n.toNat (seenV u y v),tt⟩):=.set hj _ (by simp);refine⟨fun t' ht'=>?_,E,by simp,fun w e=>by cases e; exact Val.mono E hv⟩;rcases List.mem_or_eq_of_mem_set ht' with h1|h1
   ·exact TOk.mono E (h t' h1)
   ·subst h1;have:=WL.at h ht;refine⟨by simpa using this.1,?_⟩;have h2:=this.2;intro w hw;rcases List.mem_or_eq_of_mem_set hw with h3|h3
    ·exact Val.mono E (h2 w h3)
    ·subst h3; exact Val.mono E hsv
  ·exact .err h
theorem add_good {L:List Th} {nm:Nm} {k:Nat} {v:AV} (h:WL L) (hn:∃x,nm = .s x∧isI x=true) (hv:∃z,v = .int z):Good L (.s .o) (k+1) (addS nm v L):=by
 refine E12 hn fun x eq1 hx=>?_; subst eq1;obtain⟨z,rfl⟩:=hv;refine⟨WL.app h ⟨by simp,.inl ⟨hx,z,rfl⟩⟩,.app _ _,by simp[addS],fun w e=>?_⟩;cases e;exact ref_val rfl (by lia) (by simp[addS]) fun _ e=>by cases e
theorem inN_s {nm:Nm} (h:isQ nm=true):∃x,inN nm = .s x∧isI x=true:=by
 induction nm using Nm.casesOn with
 |s x=>cases x<;>first|exact⟨_,rfl,rfl⟩|cases h
 |qe=>exact⟨_,rfl,rfl⟩
 |_=>exact (noB h).elim
theorem box_good {L:List Th} {nm:Nm} {v:AV} (h:WL L) (hn:(∃x,nm = .s x∧isI x=true)∨isQ nm=true) (hv:Val L nm v):Good L (.s .o) 1 (boxS nm v L):=by
 unfold boxS;cases hq:isQ nm
 ·simp only[cond_false];rcases hn with h1|h1
  ·refine E12 h1 fun x eq1 hx=>?_; subst eq1;exact add_good (k:=0) h ⟨x,rfl,hx⟩ (val_int (nm:=.s x) hx hv)
  ·rw[hq] at h1; exact (noB h1).elim
 ·simp only[cond_true];rcases val_q hq hv with h1|⟨z,h1⟩
  ·subst h1;exact .ok h (ref_val rfl (Int.le_refl _) (by lia) fun _ e=>by cases e)
  ·subst h1;exact add_good (k:=0) h (inN_s hq) ⟨z,rfl⟩
noncomputable def allB:List B0:=[.i4,.u4,.u1,.i8,.e,.o,.a,.b,.q4]
noncomputable def allN:List Nm:=allB.map .s++[.u8,.t,.qe]++allB.map .arr++(List.finRange 7).map .err
theorem mem_allB (x:B0):x∈allB:=by cases x<;>decide
theorem mem_allN (nm:Nm):nm∈allN:=by
 induction nm using Nm.casesOn with
 |s x=>exact List.mem_append_left _ (List.mem_append_left _ (List.mem_append_left _ (List.mem_map_of_mem (mem_allB x))))
 |u8=>exact List.mem_append_left _ (List.mem_append_left _ (List.mem_append_right _ (by decide)))
 |t=>exact List.mem_append_left _ (List.mem_append_left _ (List.mem_append_right _ (by decide)))
 |qe=>exact List.mem_append_left _ (List.mem_append_left _ (List.mem_append_right _ (by decide)))
 |arr x=>exact List.mem_append_left _ (List.mem_append_right _ (List.mem_map_of_mem (mem_allB x)))
 |err p=>exact List.mem_append_right _ (List.mem_map_of_mem (List.mem_finRange p))
noncomputable def arrB (pb:Bool) (nm:Nm) (x:B0):Bool:=!goesN pb nm (.arr x)||(match nm with|.arr y=>cls y==cls x|_=>false)
theorem arrB_all:(allN.all fun nm=>allB.all fun x=>arrB true nm x&&arrB false nm x)=true:=by kernel_rfl
theorem goes_arr (pb:Bool) (nm:Nm) (x:B0) (h:goesN pb nm (.arr x)=true):∃y,nm = .arr y∧cls y=cls x:=by
 have:=List.all_eq_true.mp (List.all_eq_true.mp arrB_all nm (mem_allN nm)) x (mem_allB x);have h2:arrB pb nm x=true:=by
  cases pb
  ·exact (Bool.and_eq_true_iff.mp this).2
  ·exact (Bool.and_eq_true_iff.mp this).1
 rcases Bool.or_eq_true_iff.mp h2 with h2|h2
 ·rw[h] at h2; exact (noB h2).elim
 ·clear this h;induction nm using Nm.casesOn with
  |arr y=>exact⟨_,rfl,by simpa using h2⟩
  |_=>exact (noB h2).elim
theorem head_int {L:List Th} {t:Th} (h:TOk L t) (hn:∃x,t.nm = .s x∧isI x=true):∃z,t.slots=[.int z]:=by
 obtain⟨⟨tn,ts,tt⟩,hn⟩:∃t':Th,t'=t:=⟨t,rfl⟩;subst hn;refine E12 hn fun x hx hi=>?_;dsimp only at hx;subst hx;rcases h.2 with h1|h1
 ·exact h1.2
 ·rcases h1.1 with e|e<;>subst e<;>cases hi
theorem TOk.plain {L:List Th} {t:Th} (h:TOk L t) (hr:refers t.nm=false):∃x,t.nm = .s x∧isI x=true:=by
 obtain⟨⟨tn,ts,tt⟩,hn⟩:∃t':Th,t'=t:=⟨t,rfl⟩;subst hn;induction tn using Nm.casesOn with
 |s x =>
  rcases h.2 with h1|h1
  ·exact⟨x,rfl,h1.1⟩
  ·rcases h1.1 with e|e<;>subst e<;>cases hr
 |u8=>exact absurd h.2 (fun h=>h)
 |qe=>exact absurd h.2 (fun h=>h)
 |_=>cases hr
theorem from_good {L:List Th} {u:U4} {pb:Bool} {nm:Nm} {i:Int} (h:WL L) (h0:0≤i) (h1:i≤L.length):Good L nm 0 (fromS u pb nm i L):=by
 dsimp only[fromS];cases hr:refers nm
 ·simp only[cond_false];split
  ·cases hq:isQ nm
   ·exact .err h
   ·exact .ok h (q_val hq (.inl rfl))
  ·rename_i hne
   obtain⟨t,ht⟩:=thI_some hne h0 h1;refine rwE ht ?_;simp only
   cases hq:isQ nm
   ·dsimp only[cond_false];cases hrt:refers t.nm
    ·dsimp only[cond_false];split
     ·rename_i hp
      obtain⟨z,hz⟩:=head_int (WL.at h ht) (TOk.plain (WL.at h ht) hrt);refine rwE hz ?_;have hn:isN nm=true:=by rw[ref_iff,hq] at hr; simpa using hr
      exact .ok h (int_val hn)
     ·exact .err h
    ·exact .err h
   ·dsimp only[cond_true];split
    ·rename_i he
     obtain⟨z,hz⟩:=head_int (WL.at h ht) (by refine rwE he ?_; exact inN_s hq);refine rwE hz ?_;exact .ok h (q_val hq (.inr ⟨z,rfl⟩))
    ·exact .err h
 ·simp only[cond_true];split
  ·exact .ok h (ref_val hr h0 h1 fun x _ hi=>absurd (by assumption) hi)
  ·cases hg:goes pb L i nm
   ·exact .err h
   ·refine .ok h (ref_val hr h0 h1 fun x hx hi=>?_);subst hx;dsimp only[goes] at hg;revert hg;induction ht:thI L i using Option.casesOn with
    |some t=>exact fun hg=>E12 (goes_arr pb _ x hg) fun y hy hc=>⟨t,y,rfl,hy,hc⟩
    |none=>exact fun hg=>(noB hg).elim
theorem num_good {L:List Th} {u:U4} {x:B0} {chk:Int} {v:AV} (h:WL L) (hx:isI x=true) (hv:∃z,v = .int z):Good L (.s x) 0 (numS u x chk v L):=by
 unfold numS;split
 ·exact .err h
 ·exact .ok h (seen_valI hx hv)
theorem none_val (L:List Th) (x:B0):Val L (.s x) (noneV x):=by
 induction x using B0.casesOn with
 |q4=>exact q_val rfl (.inl rfl)
 |o=>exact ref_val rfl (Int.le_refl _) (by lia) fun _ e=>by cases e
 |a=>exact ref_val rfl (Int.le_refl _) (by lia) fun _ e=>by cases e
 |b=>exact ref_val rfl (Int.le_refl _) (by lia) fun _ e=>by cases e
 |_=>exact int_val rfl
theorem new_good {L:List Th} {x:B0} {n:Int} (h:WL L):Good L (.arr x) 1 (newS x n L):=by
 dsimp only[newS];split
 ·exact .err h
 ·split
  ·exact .err h
  ·refine⟨WL.app h ⟨by simp; lia,?_⟩,.app _ _,by simp,fun w e=>?_⟩
   ·intro v hv;refine rwE (List.eq_of_mem_replicate hv) ?_;exact none_val _ _
   ·cases e;refine ref_val rfl (by lia) (by simp) fun y hy _=>?_;cases hy;refine⟨⟨.arr x,List.replicate n.toNat (noneV x),none⟩,x,?_,rfl,rfl⟩;dsimp only[thI];rw[if_pos (by lia)];have:((L.length:Int)+1 - 1).toNat=L.length:=by lia
    refine rwE this ?_; simp
theorem sem_good (u:U4) (pb:Bool):∀(s:Sen) (L:List Th),WL L→WFS L s→Good L (nmOf s) (size s) (sem u pb s L)
 |.held _ v,L,h,w=>.ok h w
 |.elem x a i,L,h,w=>by
  refine E04 w fun w1 w2 w3 w4=>?_;dsimp only[size];refine (Good.bind (k':=size i+0+0) (sem_good u pb a L h w1) fun va L1 h1 e1 v1=>?_).le (by lia);refine Good.bind (nm:=nmOf i) (k:=size i+0) (k':=0) (Good.bind (sem_good u pb i L1 h1 (w3.mono e1)) fun vi L2 h2 e2 v2=>overS_good h2 v2) fun vi L2 h2 e2 v2=>?_;rw[w2] at v1;refine (arr_atI (v1.mono e2)) fun ai eq1 _ _ ha=>?_; subst eq1;exact elem_good h2 ha
 |.asg x a i v,L,h,w=>by
  refine E06 w fun w1 w2 w3 w4 w5 w6=>?_;dsimp only[size];refine (Good.bind (k':=size i+0+(size v+0)) (sem_good u pb a L h w1) fun va L1 h1 e1 v1=>?_).le (by lia);refine Good.bind (nm:=nmOf i) (k:=size i+0) (k':=size v+0) (Good.bind (sem_good u pb i L1 h1 (w3.mono e1)) fun vi L2 h2 e2 v2=>overS_good h2 v2) fun vi L2 h2 e2 v2=>?_;refine Good.bind (nm:=nmOf v) (sem_good u pb v L2 h2 (w5.mono (e1.trans e2))) fun vv L3 h3 e3 v3=>?_;rw[w2] at v1;rw[w6] at v3;refine (arr_atI (v1.mono (e2.trans e3))) fun ai eq1 _ _ ha=>?_; subst eq1;exact store_good h3 ha v3
 |.comp x a i v post,L,h,w=>by
  refine E06 w fun w1 w2 w3 w4 w5 w6=>?_;dsimp only[size];refine (Good.bind (k':=size i+0+(0+(size v+(0+0)))) (sem_good u pb a L h w1) fun va L1 h1 e1 v1=>?_).le (by lia);refine Good.bind (nm:=nmOf i) (k:=size i+0) (k':=0+(size v+(0+0))) (Good.bind (sem_good u pb i L1 h1 (w3.mono e1)) fun vi L2 h2 e2 v2=>overS_good h2 v2) fun vi L2 h2 e2 v2=>?_;rw[w2] at v1;refine (arr_atI (v1.mono e2)) fun ai eq1 _ _ ha=>?_; subst eq1;refine Good.bind (nm:=.s x) (elem_good h2 ha) fun old L3 h3 e3 v3=>?_;refine Good.bind (nm:=nmOf v) (sem_good u pb v L3 h3 (w5.mono (e1.trans (e2.trans e3)))) fun vv L4 h4 e4 v4=>?_;rw[w6] at v4;refine (arr_atI (v1.mono (e2.trans (e3.trans e4)))) fun ai' e' _ _ ha'=>?_;cases e';refine Good.bind (nm:=.s x) (store_good h4 ha' v4) fun w5 L5 h5 e5 v5=>?_;refine .ok h5 ?_;split
  ·exact v3.mono (e4.trans e5)
  ·exact v5
 |.len a,L,h,w=>by
  obtain⟨w1,x,w2⟩:=w;dsimp only[size];refine (Good.bind (k':=0) (sem_good u pb a L h w1) fun va L1 h1 e1 v1=>?_).le (by lia);dsimp only[lenS];split
  ·exact .err h1
  ·exact .ok h1 (int_val rfl)
 |.new x i,L,h,w=>by
  dsimp only[size];exact (Good.bind (nm:=nmOf i) (k:=size i+0) (Good.bind (sem_good u pb i L h w.1) fun vi L2 h2 e2 v2=>overS_good h2 v2) fun vi L2 h2 e2 v2=>new_good h2).le (by lia)
 |.cast nm s,L,h,w=>by
  dsimp only[size];refine (Good.bind (k':=0) (sem_good u pb s L h w.1) fun v L1 h1 e1 v1=>?_).le (by lia);rw[w.2] at v1;refine (val_refI (nm:=.s .o) rfl v1) fun i eq1 h0 h2 _=>?_; subst eq1;exact from_good h1 h0 h2
 |.box s,L,h,w=>by
  dsimp only[size];exact (Good.bind (sem_good u pb s L h w.1) fun v L1 h1 e1 v1=>box_good h1 w.2 v1).le (by lia)
 |.wrap nm s,L,h,w=>by
  dsimp only[size];refine (Good.bind (k':=0) (sem_good u pb s L h w.1) fun v L1 h1 e1 v1=>?_).le (by lia);rw[w.2.2] at v1;obtain⟨z,rfl⟩:=val_int (inN_isN w.2.1) v1;exact .ok h1 (q_val w.2.1 (.inr ⟨z,rfl⟩))
 |.value nm s,L,h,w=>by
  dsimp only[size];refine (Good.bind (k':=0) (sem_good u pb s L h w.1) fun v L1 h1 e1 v1=>?_).le (by lia);rcases val_q w.2.1 v1 with e|⟨z,e⟩
  ·subst e; exact .err h1
  ·subst e;refine .ok h1 ?_;show Val L1 nm (.int z)
   rw[w.2.2]; exact int_val (inN_isN w.2.1)
 |.num x s chk,L,h,w=>by
  dsimp only[size];refine (Good.bind (k':=0) (sem_good u pb s L h w.1) fun v L1 h1 e1 v1=>?_).le (by lia);exact num_good h1 w.2.1 (val_int w.2.2 v1)
noncomputable def zz:AV:=.tup [.int 0,.int 0]
def DefsOk (d:List (Int×AV)):Prop:=d=[]∨d=[(19,zz)]∨d=[(20,zz)]∨d=[(19,zz),(20,zz)]∨d=[(20,zz),(19,zz)]
structure Same (k:Nat) (W W':Wd):Prop where
 rows:W'.rows=W.rows
 arrays:W'.arrays=W.arrays
 at':W'.at'=W.at'
 bad:W'.bad=W.bad
 p3:W'.pend3=W.pend3
 p2:W'.pend2=none
 s0:W.steps≤W'.steps
 s1:W'.steps≤W.steps+k
 h:W'.holes.length≤W.holes.length+k
 d:DefsOk W'.defaults
structure Pre (k:Nat) (W:Wd):Prop where
 p2:W.pend2=none
 d:DefsOk W.defaults
 s1:W.steps+k≤100000
 n1:W.nested+20*k≤870
 t:W.things.length+3*k≤89000
 h:W.holes.length+k≤90000
 wl:WL W.things
theorem Same.trans {a b:Nat} {W W1 W2:Wd} (x:Same a W W1) (y:Same b W1 W2):Same (a+b) W W2 :=
 ⟨y.rows.trans x.rows,y.arrays.trans x.arrays,y.at'.trans x.at',y.bad.trans x.bad,y.p3.trans x.p3,y.p2,Int.le_trans x.s0 y.s0,by have:=x.s1; have:=y.s1; lia,by have:=x.h; have:=y.h; lia,y.d⟩
theorem Same.le {a b:Nat} {W W1:Wd} (x:Same a W W1) (h:a≤b):Same b W W1 :=
 ⟨x.rows,x.arrays,x.at',x.bad,x.p3,x.p2,x.s0,by have:=x.s1; lia,by have:=x.h; lia,x.d⟩
theorem Same.mk' {k:Nat} {W:Wd} (p2:W.pend2=none) (d:DefsOk W.defaults) {L:List Th} {st ne:Int} {ho:List AV} (h1:W.steps≤st) (h2:st≤W.steps+k) (h3:ho.length≤W.holes.length+k):Same k W { W with things:=L,steps:=st,nested:=ne,holes:=ho } :=
 ⟨rfl,rfl,rfl,rfl,rfl,p2,h1,h2,h3,d⟩
def QO (Q:Post) (c:Cst) (W:Wd) (k:Nat) (r:SZ):Prop:=∀v W' T',Same k W W'→r=(.ok v,W'.things)→W'.nested=W.nested→W'.holes=W.holes→Q (.ok v) (mk c W' T')
def QE (Q:Post) (c:Cst) (W:Wd) (k:Nat) (r:SZ):Prop:=∀p W' T' i L',Same k W W'→r=(.err p,L')→W'.things=L'++errL c p L'.length→i=(L'.length:Int)+1→Q (.exc (.int i)) (mk c W' T')
structure EvC (l:Addr) (zs:List Int) (n:Nat) (c:Cst) (f:Addr) (vs:List AV) (W:Wd) (T:List AO) (k:Nat) (r:SZ):Prop where
 run:∀Q:Post,QO Q c W k r→QE Q c W k r→wpF (sta l zs) funs n f vs Q (mk c W T)
section
variable {l:Addr} {zs:List Int} {n:Nat} {c:Cst} {W:Wd} {T:List AO}
theorem thrown {k:Nat} {r:SZ} {Q:Post} {p:Fin 7} (hp:W.pend2=none) (hd:DefsOk W.defaults) (hr:r=(.err p,W.things))
 (qe:QE Q c W k r) :
 ∀i:Int,i=(W.things.length:Int)+1→Q (.exc (.int i)) (mk c { W with things:=W.things++errL c p W.things.length } T) :=
 fun i hi=>qe p _ T i W.things ⟨rfl,rfl,rfl,rfl,rfl,hp,Int.le_refl _,by dsimp only; lia,by dsimp only; lia,hd⟩ hr rfl hi
theorem Same.self {k:Nat} (hp:W.pend2=none) (hd:DefsOk W.defaults):Same k W W:=⟨rfl,rfl,rfl,rfl,rfl,hp,Int.le_refl _,by lia,by lia,hd⟩
theorem th_getI {a:Int} {t:Th} (ht:thI W.things a=some t) (hl:W.things.length≤90000):getI (sta l zs) (mk c W T) (.ref (.f 28)) (.int a)=some (.ref (.r 0 (a - 1).toNat)):=by
 refine (thI_atI ht) fun h0 hj h1=>?_;exact th_get (lt_of_some hj) (by lia) hl
noncomputable def placeV (a n:Int):AV:=.tup [.ref (.r 2 (a - 1).toNat),.int n,.tup []]
noncomputable def placeS (L:List Th) (a n:Int):SZ:=match lookS L a n with
 |some p=>(.err p,L)
 |none=>(.ok (placeV a n),L)
theorem c_place (hn:24≤n) {a i:Int} (P:Pre 0 W) (ha:a≠0→∃t,thI W.things a=some t):EvC l zs n c 1152 [.ref (.f 27),.int a,.int i] W T 0 (placeS W.things a i):=⟨fun Q qo qe=>by
 refine prC hn rfl fun m hn=>?_;have hl:=P.t;refine unf (d:=⟨3,b1152⟩) rfl rfl ?_;refine dI (fun h=>?_) (fun h=>?_)
 ·conv=>whnf
  exact c_nothing (by lia) P.p2 (by lia) (thrown P.p2 P.d (by simp[placeS,lookS,h]) qe)
 ·obtain⟨t,ht⟩:=ha h;refine (thI_atI ht) fun h0 hj h1=>?_;have hs:slotsI W.things a=t.slots:=by simp[slotsI,ht]
  have hsl:t.slots.length≤1000000:=by have:=(WL.at P.wl ht).1; lia
  refine oKi (th_getI ht (by lia)) ?_;refine oKi (g_slots hj) ?_;refine dI (fun h2=>?_) (fun h2=>?_)
  ·conv=>whnf
   exact c_throw (by lia) 1 P.p2 (by lia) (thrown P.p2 P.d (by simp[placeS,lookS,h,h2]) qe)
  ·conv=>whnf
   refine oKi (len_list (o_slots hj) hsl) ?_;refine dI (fun h3=>?_) (fun h3=>?_)
   ·conv=>whnf
    have h3':(t.slots.length:Int)≤i:=h3;exact c_throw (by lia) 1 P.p2 (by lia) (thrown P.p2 P.d (by simp[placeS,lookS,h,hs,h3']) qe)
   ·have h3':¬(t.slots.length:Int)≤i:=h3;exact qo _ W T (.self P.p2 P.d) (by simp[placeS,lookS,h,h2,hs,h3',placeV]) rfl rfl⟩
theorem c_value_at (hn:2≤n) {a i:Int} {Q:Post} (h:lookS W.things a i=none) (hw:WL W.things) (q:Q (.ok (getS W.things a i)) (mk c W T)):wpF (sta l zs) funs n 1070 [placeV a i] Q (mk c W T):=by
 refine prC hn rfl fun m hn=>?_;refine (getS_memI h) fun t ht hs _=>?_;refine (thI_atI ht) fun h0 hj h1=>?_;refine (look_noneI h) fun _ h3 h4=>?_;rw[hs] at h4;have hsl:=(WL.at hw ht).1;refine unf (d:=⟨1,b1070⟩) rfl rfl ?_;refine oKi (get_list (v:=getS W.things a i) (o_slots hj) ?_) ?_
 ·dsimp only[nth,getS];rw[if_pos (by lia),hs,List.getD_eq_getElem?_getD];have:i.toNat<t.slots.length:=by lia
  rw[List.getElem?_eq_getElem this]; rfl
 ·exact q
theorem placeS_ok {L L':List Th} {a i:Int} {v:AV} (h:placeS L a i=(.ok v,L')):lookS L a i=none∧v=placeV a i∧L'=L:=by
 unfold placeS at h;split at h
 ·cases h
 ·cases h; exact⟨by assumption,rfl,rfl⟩
theorem placeS_err {L L':List Th} {a i:Int} {p:Fin 7} (h:placeS L a i=(.err p,L')):lookS L a i=some p∧L'=L:=by
 unfold placeS at h;split at h
 ·cases h; exact⟨by assumption,rfl⟩
 ·cases h
theorem k_twin (hn:9≤n) {L:List Th} {x:B0} {v:AV} (hv:Val L (.s x) v):RRun (sta l zs) (mk c W T) n 990 [.ref (.f 27),.int (nmK (.s x)),v] (seenV c.u x v):=by
 by_cases h:isI x=true
 ·obtain⟨z,rfl⟩:=val_int (nm:=.s x) h hv;exact k_twinI hn x h z
 ·exact k_twinR hn x (by simpa using h) v
theorem getS_val {L:List Th} {x:B0} {a i:Int} (hw:WL L) (hl:lookS L a i=none) (ha:a≠0→∃t y,thI L a=some t∧t.nm = .arr y∧cls y=cls x):Val L (.s x) (getS L a i):=by
 refine E23 (ha (look_none hl).1) fun t y ht hn hc=>?_;refine (getS_memI hl) fun t' ht' _ hm=>?_;rw[ht] at ht'; obtain rfl:=Option.some.inj ht';have:=(WL.at hw ht).2;rw[hn] at this;exact val_cls hc (this _ hm)
theorem c_item_value (hn:26≤n) {a i:Int} {x:B0} (P:Pre 0 W) (ha:a≠0→∃t y,thI W.things a=some t∧t.nm = .arr y∧cls y=cls x) :
 EvC l zs n c 1159 [.ref (.f 27),.int a,.int i,.int (nmK (.s x))] W T 0 (elemS c.u x a i W.things):=⟨fun Q qo qe=>by
 refine prC hn rfl fun m hn=>?_;refine unf (d:=⟨4,b1159⟩) rfl rfl ?_;refine (c_place (fB hn rfl) P fun h=>by obtain⟨t,y,h,_⟩:=ha h; exact⟨t,h⟩).run _ (fun v W' T' hs hr hn' hh=>?_) (fun p W' T' j L' hs hr ht hj=>?_)
 ·refine E03 (placeS_ok hr) fun hl eq1 hL=>?_; subst eq1;have hw:WL W'.things:=by refine rwE hL ?_; exact P.wl
  refine c_value_at (W:=W') (fB hn rfl) (by refine rwE hL ?_; exact hl) hw ?_;refine (k_twin (L:=W.things) (fB hn rfl) (by refine rwE hL ?_; exact getS_val P.wl hl ha)).ok ?_;refine qo _ W' T' hs ?_ hn' hh;refine rwE hL ?_; simp only[elemS,hl]
 ·obtain⟨hl,rfl⟩:=placeS_err hr;exact qe p W' T' j _ hs (by simp only[elemS,hl]) ht hj⟩
theorem dNI {p:Prop} [d:Decidable p] {A B:AH→Prop} {H:AH} (k1:¬p→A H) (k2:p→B H):Decidable.rec (motive:=fun _=>AH→Prop) (fun _=>B) (fun _=>A) (instDecidableEqBool (!decide p) true) H:=by
 by_cases h:p
 ·have e:¬(!decide p)=true:=by simp[h]
  refine rwE (show instDecidableEqBool (!decide p) true=isFalse e from Subsingleton.elim _ _) ?_; exact k2 h
 ·have e:(!decide p)=true:=by simp[h]
  refine rwE (show instDecidableEqBool (!decide p) true=isTrue e from Subsingleton.elim _ _) ?_; exact k1 h
theorem bI {b:Bool} {A B:AH→Prop} {H:AH} (k1:b=true→A H) (k2:b=false→B H):Decidable.rec (motive:=fun _=>AH→Prop) (fun _=>B) (fun _=>A) (instDecidableEqBool b true) H:=by
 cases b
 ·exact k2 rfl
 ·exact k1 rfl
theorem bP {b:Bool} {A B:Prop} (k1:b=true→A) (k2:b=false→B):Decidable.rec (motive:=fun _=>Prop) (fun _=>B) (fun _=>A) (instDecidableEqBool b true):=by
 cases b
 ·exact k2 rfl
 ·exact k1 rfl
theorem c_is_a (hn:1≤n) {i j:Int} {Q:Post} (q:Q (.ok (.bool (goesK c.pb i j))) (mk c W T)):wpF (sta l zs) funs n 682 [.ref (.f 27),.int i,.int j] Q (mk c W T):=by
 refine prC hn rfl fun m hn=>?_;refine unf (d:=⟨3,b682⟩) rfl rfl ?_;refine bP (fun h=>?_) (fun h=>?_)
 ·replace h:decide (i=j)=true:=h;have:goesK c.pb i j=decide (i=j):=by simp[goesK,h]
  rw[this] at q; exact q
 ·replace h:decide (i=j)=false:=h;refine bP (fun h2=>?_) (fun h2=>?_)
  ·replace h2:decide (j=12)=true:=h2;have:goesK c.pb i j=decide (j=12):=by simp[goesK,h2]
   rw[this] at q; exact q
  ·replace h2:decide (j=12)=false:=h2;have:goesK c.pb i j=(lk (kinTd c.pb) [.i i,.i j]).isSome:=by simp[goesK,h,h2]
   rw[this] at q; exact q
theorem c_item_is (hn:12≤n) {i:Int} {t:Th} {nm:Nm} {Q:Post} (ht:thI W.things i=some t) (hl:W.things.length≤90000) (hq:inN nm=nm) (q:Q (.ok (.bool (goesN c.pb t.nm nm))) (mk c W T)):wpF (sta l zs) funs n 899 [.ref (.f 27),.int i,.int (nmK nm)] Q (mk c W T):=by
 refine prC hn rfl fun m hn=>?_;refine (thI_atI ht) fun h0 hj h1=>?_;have ka:=k_asked (l:=l) (zs:=zs) (c:=c) (W:=W) (T:=T) (n:=m) (fB hn rfl) nm;rw[hq] at ka;refine unf (d:=⟨3,b899⟩) rfl rfl ?_;refine ka.ok ?_;refine oKi (th_getI ht hl) ?_;refine oKi (g_special hj) ?_;refine oKi (g_kind hj) ?_;exact c_is_a (fB hn rfl) q
theorem c_put (hn:2≤n) {a i:Int} {v:AV} {Q:Post} (h:lookS W.things a i=none) (hw:WL W.things) (q:Q (.ok .none) (mk c { W with things:=setS W.things a i v } T)):wpF (sta l zs) funs n 1077 [placeV a i,v] Q (mk c W T):=by
 refine prC hn rfl fun m hn=>?_;refine (getS_memI h) fun t ht hs _=>?_;refine (thI_atI ht) fun h0 hj h1=>?_;refine (look_noneI h) fun _ h3 h4=>?_;rw[hs] at h4;have hsl:=(WL.at hw ht).1;refine unf (d:=⟨2,b1077⟩) rfl rfl ?_;refine .inl ?_;refine oKi (get_list (v:=getS W.things a i) (o_slots hj) ?_) ?_
 ·dsimp only[nth,getS];rw[if_pos (by lia),hs,List.getD_eq_getElem?_getD];have:i.toNat<t.slots.length:=by lia
  rw[List.getElem?_eq_getElem this]; rfl
 ·conv=>whnf
  refine⟨by decide,by decide,?_⟩;conv=>whnf
  refine rwE (o_slots hj) ?_;refine⟨h3,by lia,by lia,?_⟩;refine rwE (u_slots hj) ?_;have e:setS W.things a i v=W.things.set (a - 1).toNat { t with slots:=t.slots.set i.toNat v }:=by simp[setS,ht]
  rw[e] at q;exact q
end
section
variable {l:Addr} {zs:List Int} {n:Nat} {c:Cst} {W:Wd} {T:List AO}
theorem k_composed (hn:10≤n) (nm:Nm):RRun (sta l zs) (mk c W T) n 1023 [.ref (.f 27),.int (nmK nm)] (.bool (isQ nm)):=by
 obtain⟨n,rfl⟩:=prk (j:=10) hn;clear hn;obtain⟨zs',u,pb,fm⟩:=c;revert nm; apply nm_all
 case h5=>cases u<;>exact⟨by kernel_rfl⟩
 all_goals exact⟨by kernel_rfl⟩
theorem defs_get {d:List (Int×AV)} (h:DefsOk d) {k:Int} (hk:k=19∨k=20):lk d k=none∨lk d k=some zz:=by
 rcases h with rfl|rfl|rfl|rfl|rfl<;>rcases hk with rfl|rfl<;>first|exact .inl rfl|exact .inr rfl
theorem defs_put {d:List (Int×AV)} (h:DefsOk d) {k:Int} (hk:k=19∨k=20) (e:lk d k=none):DefsOk (stq d k zz)∧lk (stq d k zz) k=some zz:=by
 rcases h with rfl|rfl|rfl|rfl|rfl<;>rcases hk with rfl|rfl<;>first|cases e; done|(refine⟨?_,rfl⟩; first|exact .inl rfl|exact .inr (.inl rfl)|exact .inr (.inr (.inl rfl))|exact .inr (.inr (.inr (.inl rfl)))|exact .inr (.inr (.inr (.inr rfl))))
theorem defs_len {d:List (Int×AV)} (h:DefsOk d):d.length<1000:=by
 rcases h with rfl|rfl|rfl|rfl|rfl<;>exact of_decide_eq_true rfl
theorem u_tset {k:Nat} {o p:AO} (h:T[k]? = some p):upd (mk c W T) (.t k) o=mk c W (T.set k o):=by
 have hk:=lt_of_some h;funext a
 induction a using AA.casesOn with
 |t j =>
  by_cases e:j=k
  ·subst e; refine rwE upd_same ?_; simp[mkT,hk]
  ·refine rwE (upd_ne (by simpa using e)) ?_; simp only[mkT]; rw[List.getElem?_set_ne (Ne.symm e)]
 |f j=>(refine rwE (upd_ne (by simp)) ?_); rfl
 |r k j =>
  refine rwE (upd_ne (by simp)) ?_;match k with
  |0=>rfl
  |1=>rfl
  |2=>rfl
  |3=>rfl
  |_+4=>rfl
theorem qk {nm:Nm} (h:isQ nm=true):nmK nm=19∨nmK nm=20:=by
 induction nm using Nm.casesOn with
 |s x=>cases x<;>first|exact .inl rfl|cases h
 |qe=>exact .inr rfl
 |_=>exact (noB h).elim
theorem meth_pop {S:Stat} {H:AH} {a:AA} {li:List AV} (h:H a=some (.list li)):methOf S H (.ref a) 9=some .pop:=congrArg (methO S H · 9) h
theorem itemsF_nil {S:Stat} {H:AH} {a:AA} (h:H a=some (.list [])):itemsF S H (.ref a)=some []:=by
 show (match H a with|some (.list l)=>(match l with|[]=>some []|_::_=>none)|_=>none)=_
 refine rwE h ?_; rfl
theorem c_parts (hn:12≤n) {nm:Nm} (hq:isQ nm=true) (hd:DefsOk W.defaults) {Q:Post} (q:∀d T',DefsOk d→lk d (nmK nm)=some zz→Q (.ok (.ref (.t T.length))) (mk c { W with defaults:=d } (T++.list []::T'))) :
 wpF (sta l zs) funs n 1035 [.ref (.f 27),.int (nmK nm)] Q (mk c W T):=by
 refine prC hn rfl fun m hn=>?_;refine unf (d:=⟨2,b1035⟩) rfl rfl ?_;rcases defs_get hd (qk hq) with hg|hg
 ·have hg':(lk W.defaults (nmK nm)).isSome=false:=by rw[hg]; rfl
  have hc:isQ (inN nm)=false:=by
   induction nm using Nm.casesOn with
   |s x=>cases x<;>first|rfl|cases hq
   |qe=>rfl
   |_=>exact (noB hq).elim
  have kq:∀W T,RRun (sta l zs) (mk c W T) m 794 [.ref (.f 27),.int (nmK nm)] (.bool (isQ nm)):=fun W T=>k_question (fB hn rfl) nm;have hv:(lk W.defaults (nmK (inN nm))).getD (.int 0) = .int 0:=by
   have:nmK (inN nm)=7∨nmK (inN nm)=18:=by
    induction nm using Nm.casesOn with
    |s x=>cases x<;>first|exact .inl rfl|cases hq
    |qe=>exact .inr rfl
    |_=>exact (noB hq).elim
   rcases hd with h|h|h|h|h<;>(refine rwE h ?_)<;>rcases this with e|e<;>(refine rwE e ?_)<;>rfl
  have kc:=k_composed (l:=l) (zs:=zs) (c:=c) (W:=W) (T:=T) (n:=m) (fB hn rfl) (inN nm);simp only[hq] at kq;rw[hc] at kc;refine bI (fun h=>absurd (hg'.symm.trans h) (by decide)) (fun h=>?_);refine (kq _ _).ok ?_;refine (k_args (fB hn rfl) nm hq).ok ?_;refine kc.ok ?_;refine .inr ⟨_,t_new,?_⟩;refine rwE u_new ?_;refine oKi (len_list t_get (of_decide_eq_true rfl)) ?_;refine .inr ⟨_,t_new,?_⟩;refine rwE u_new ?_;conv=>whnf
  rw[hv,List.nil_append,show objOf (sta l zs) (mk c W (T++[AO.list []]++[AO.list [AV.int 0]])) (AV.ref (AA.t (T++[AO.list []]).length))=some (.list [.int 0]) from t_get (c:=c) (W:=W)];refine⟨by decide,?_⟩;refine (kq _ _).ok ?_;refine⟨defs_len hd,?_⟩;refine rwE u_defaults ?_;obtain⟨p1,p2⟩:=defs_put hd (qk hq) hg;have:=q (stq W.defaults (nmK nm) zz) [.list [.int 0]] p1 p2;refine rwE (List.append_assoc ..) ?_;exact this
 ·have hg':(lk W.defaults (nmK nm)).isSome=true:=by rw[hg]; rfl
  refine bI (fun h=>?_) (fun h=>absurd (hg'.symm.trans h) (by decide));conv=>whnf
  refine .inr ⟨_,t_new,?_⟩;refine rwE u_new ?_;have:=q W.defaults [] hd hg;exact this
theorem c_default_q (hn:14≤n) {nm:Nm} (hq:isQ nm=true) (hd:DefsOk W.defaults) {Q:Post} (q:∀d T',DefsOk d→Q (.ok zz) (mk c { W with defaults:=d } T')) :
 wpF (sta l zs) funs n 1030 [.ref (.f 27),.int (nmK nm)] Q (mk c W T):=by
 refine prC hn rfl fun m hn=>?_;have kc:=k_composed (l:=l) (zs:=zs) (c:=c) (W:=W) (T:=T) (n:=m) (fB hn rfl) nm;rw[hq] at kc;refine unf (d:=⟨2,b1030⟩) rfl rfl ?_;refine kc.ok ?_;refine .inr ⟨_,t_new,?_⟩;refine rwE u_new ?_;refine oKi (len_list t_get (of_decide_eq_true rfl)) ?_;refine oKi (len_list t_get (of_decide_eq_true rfl)) ?_;refine oKi (get_list (v:=.int (nmK nm)) (i:=0) t_get rfl) ?_;refine c_parts (fB hn rfl) hq hd fun d T' hd' hg=>?_;have h0:mk c { W with defaults:=d } (T++[AO.list [AV.int (nmK nm)]]++AO.list []::T') (.t T.length)=some (.list [.int (nmK nm)]):=by simp[mkT]
 have h1:mk c { W with defaults:=d } (T++[AO.list [AV.int (nmK nm)]]++AO.list []::T') (.t (T++[AO.list [AV.int (nmK nm)]]).length)=some (.list []):=by simp[mkT]
 have h0':(T++[AO.list [AV.int (nmK nm)]]++AO.list []::T')[T.length]? = some (.list [.int (nmK nm)]):=by simp
 refine oKi (len_list h1 (of_decide_eq_true rfl)) ?_;refine oKi (meth_pop h0) ?_;conv=>whnf
 refine rwE h0 ?_;refine⟨of_decide_eq_true rfl,?_⟩;refine rwE (u_tset h0') ?_;have h2:mk c { W with defaults:=d } ((T++[AO.list [AV.int (nmK nm)]]++AO.list []::T').set T.length (.list [])) (.t T.length)=some (.list []):=by simp[mkT]
 have h3:mk c { W with defaults:=d } ((T++[AO.list [AV.int (nmK nm)]]++AO.list []::T').set T.length (.list [])) (.t (T++[AO.list [AV.int (nmK nm)]]).length)=some (.list []):=by simp[mkT]
 conv=>whnf
 refine oKi (itemsF_nil h3) ?_;refine oKi (len_list h2 (of_decide_eq_true rfl)) ?_;refine oKi (a:=zz) hg ?_;exact q d _ hd'
theorem c_first (hn:16≤n) {nm:Nm} (hd:DefsOk W.defaults) {Q:Post} (q:∀d T',DefsOk d→Q (.ok (bif isQ nm then zz else .int 0)) (mk c { W with defaults:=d } T')) :
 wpF (sta l zs) funs n 962 [.ref (.f 27),.int (nmK nm)] Q (mk c W T):=by
 refine prC hn rfl fun m hn=>?_;refine unf (d:=⟨2,b962⟩) rfl rfl ?_;cases hq:isQ nm
 ·rw[hq] at q;refine (k_default (fB hn rfl) nm hq).ok ?_;exact q W.defaults T hd
 ·rw[hq] at q;exact c_default_q (fB hn rfl) hq hd q
end
section
variable {l:Addr} {zs:List Int} {n:Nat} {c:Cst} {W:Wd} {T:List AO}
theorem k_valueB (hn:9≤n) {nm:Nm} {b:Bool} (h:refers nm=b):RRun (sta l zs) (mk c W T) n 236 [.ref (.f 4),.int (nmK nm)] (.bool (!b)):=by refine rwS h ?_; exact k_value hn nm
theorem k_questionB (hn:9≤n) {nm:Nm} {b:Bool} (h:isQ nm=b):RRun (sta l zs) (mk c W T) n 794 [.ref (.f 27),.int (nmK nm)] (.bool b):=by refine rwS h ?_; exact k_question hn nm
theorem isN_refers {nm:Nm} (h:isN nm=true):refers nm=false:=by rw[ref_iff,h]; rfl
theorem isN_Q {nm:Nm} (h:isN nm=true):isQ nm=false:=by
 cases hq:isQ nm
 ·rfl
 ·rw[isQ_isN hq] at h; exact (noB h).elim
theorem isQ_refers {nm:Nm} (h:isQ nm=true):refers nm=false:=by refine rwE (ref_iff ..) ?_; refine rwE (h ..) ?_; simp
theorem c_box_plain (hn:12≤n) {nm:Nm} {v:AV} (P:Pre 1 W) (h:isN nm=true):EvC l zs n c 1084 [.ref (.f 27),.int (nmK nm),v] W T 0 (addS nm v W.things):=⟨fun Q qo qe=>by
 refine prC hn rfl fun m hn=>?_;refine unf (d:=⟨3,b1084⟩) rfl rfl ?_;refine (k_valueB (fB hn rfl) (isN_refers h)).ok ?_;refine (k_questionB (fB hn rfl) (isN_Q h)).ok ?_;refine .inr ⟨_,p2_new P.p2,?_⟩;refine rwE (u_p2 P.p2) ?_;have:=P.t;refine c_new_item (nm:=nm) (W:={ W with pend2:=some [v] }) (fB hn rfl) rfl (by dsimp only; lia) fun i hi=>?_;skip
 exact qo _ _ T ⟨rfl,rfl,rfl,rfl,rfl,rfl,Int.le_refl _,by dsimp only; lia,by dsimp only; lia,P.d⟩ (by rw[addS,hi]) rfl rfl⟩
noncomputable def boxV (nm:Nm) (v:AV) (L:List Th):SZ:=bif refers nm then (.ok v,L) else boxS nm v L
theorem boxV_0 {nm:Nm} {L:List Th} (hr:refers nm=false) (hq:isQ nm=true):boxV nm (.tup [.int 0,.int 0]) L=(.ok (.int 0),L):=by unfold boxV boxS; rw[hr,hq]; rfl
theorem boxV_1 {nm:Nm} {L:List Th} {z:Int} (hr:refers nm=false) (hq:isQ nm=true):boxV nm (.tup [.int 1,.int z]) L=addS (inN nm) (.int z) L:=by unfold boxV boxS; rw[hr,hq]; rfl
theorem c_box (hn:14≤n) {nm:Nm} {v:AV} (P:Pre 1 W) (hv:Val W.things nm v):EvC l zs n c 1084 [.ref (.f 27),.int (nmK nm),v] W T 0 (boxV nm v W.things):=by
 cases hr:refers nm
 ·cases hq:isQ nm
  ·have h:isN nm=true:=by rw[ref_iff,hq] at hr; simpa using hr
   have:=c_box_plain (l:=l) (zs:=zs) (c:=c) (T:=T) (v:=v) (n:=n) (by lia) P h;have e:boxV nm v W.things=addS nm v W.things:=by simp[boxV,hr,boxS,hq]
   refine rwE e ?_; exact this
  ·refine⟨fun Q qo qe=>?_⟩;refine prC hn rfl fun m hn=>?_;refine unf (d:=⟨3,b1084⟩) rfl rfl ?_;refine (k_valueB (fB hn rfl) hr).ok ?_;refine (k_questionB (fB hn rfl) hq).ok ?_;rcases val_q hq hv with rfl|⟨z,rfl⟩
   ·conv=>whnf
    exact qo _ W T (.self P.p2 P.d) (boxV_0 hr hq) rfl rfl
   ·conv=>whnf
    refine (k_args (fB hn rfl) nm hq).ok ?_;have e:boxV nm (.tup [.int 1,.int z]) W.things=addS (inN nm) (.int z) W.things:=boxV_1 hr hq;rw[e] at qo qe;exact (c_box_plain (fB hn rfl) P (inN_isN hq)).run _ qo qe
 ·refine⟨fun Q qo qe=>?_⟩;refine prC hn rfl fun m hn=>?_;refine unf (d:=⟨3,b1084⟩) rfl rfl ?_;refine (k_valueB (fB hn rfl) hr).ok ?_;exact qo _ W T (.self P.p2 P.d) (by simp[boxV,hr]) rfl rfl
theorem nmK_inj {a b:Nm} (h:nmK a=nmK b):a=b:=by
 have hk:∀nm:Nm,allN.find? (fun x=>decide (nmK x=nmK nm))=some nm:=by
  apply nm_all (P:=fun nm=>allN.find? (fun x=>decide (nmK x=nmK nm))=some nm)<;>kernel_rfl
 have h1:=hk a;rw[h,hk b] at h1;injection h1 with h1
 exact h1.symm
theorem decK (a b:Nm):decide (nmK a=nmK b)=decide (a=b):=by
 by_cases h:a=b
 ·subst h; simp
 ·have:¬nmK a=nmK b:=fun e=>h (nmK_inj e);simp[h,this]
theorem c_unbox_plain (hn:22≤n) {nm:Nm} {i:Int} (P:Pre 0 W) (h:isN nm=true) (hi:i≠0→∃t,thI W.things i=some t):EvC l zs n c 1091 [.ref (.f 27),.int (nmK nm),.int i] W T 0 (fromS c.u c.pb nm i W.things):=⟨fun Q qo qe=>by
 refine prC hn rfl fun m hn=>?_;have hP:=P.t;have hr:=isN_refers h;have hq:=isN_Q h;refine unf (d:=⟨3,b1091⟩) rfl rfl ?_;refine (k_questionB (fB hn rfl) hq).ok ?_;refine dI (fun h0=>?_) (fun h0=>?_)
 ·conv=>whnf
  exact c_nothing (fB hn rfl) P.p2 (by lia) (thrown P.p2 P.d (by simp[fromS,hr,h0,hq]) qe)
 ·obtain⟨t,ht⟩:=hi h0;refine (thI_atI ht) fun _ hj _=>?_;have hts:=WL.at P.wl ht;refine oKi (th_getI ht (by lia)) ?_;refine oKi (g_special hj) ?_;refine oKi (g_kind hj) ?_;refine (k_value (fB hn rfl) t.nm).ok ?_;cases hrt:refers t.nm
  ·conv=>whnf
   refine oKi (g_kind hj) ?_;refine (k_plain (fB hn rfl) t.nm).ok ?_;refine (k_plain (fB hn rfl) nm).ok ?_;refine dNI (fun hp=>?_) (fun hp=>?_)
   ·have hp':¬plainN c.u t.nm=plainN c.u nm:=fun e=>hp (congrArg nmK e);exact c_throw (fB hn rfl) 2 P.p2 (by lia) (thrown P.p2 P.d (by simp[fromS,hr,h0,hq,ht,hrt,hp']) qe)
   ·have hp':=nmK_inj hp;obtain⟨z,hz⟩:=head_int hts (TOk.plain hts hrt);refine oKi (g_slots hj) ?_;refine oKi (get_list (v:=.int z) (o_slots hj) (by rw[hz]; rfl)) ?_;exact qo _ W T (.self P.p2 P.d) (by simp[fromS,hr,h0,hq,ht,hrt,hp',hz]) rfl rfl
  ·conv=>whnf
   exact c_throw (fB hn rfl) 2 P.p2 (by lia) (thrown P.p2 P.d (by simp[fromS,hr,h0,hq,ht,hrt]) qe)⟩
theorem c_unbox (hn:24≤n) {nm:Nm} {i:Int} (P:Pre 0 W) (hr:refers nm=false) (hi:i≠0→∃t,thI W.things i=some t):EvC l zs n c 1091 [.ref (.f 27),.int (nmK nm),.int i] W T 0 (fromS c.u c.pb nm i W.things):=by
 cases hq:isQ nm
 ·exact c_unbox_plain (by lia) P (by rw[ref_iff,hq] at hr; simpa using hr) hi
 ·refine⟨fun Q qo qe=>?_⟩;refine prC hn rfl fun m hn=>?_;have hP:=P.t;refine unf (d:=⟨3,b1091⟩) rfl rfl ?_;refine (k_questionB (fB hn rfl) hq).ok ?_;refine dI (fun h0=>?_) (fun h0=>?_)
  ·conv=>whnf
   refine c_default_q (fB hn rfl) hq P.d fun d T' hd=>?_;exact qo _ _ T' ⟨rfl,rfl,rfl,rfl,rfl,P.p2,Int.le_refl _,by dsimp only; lia,by dsimp only; lia,hd⟩ (by simp[fromS,hr,h0,hq,zz]) rfl rfl
  ·obtain⟨t,ht⟩:=hi h0;refine (thI_atI ht) fun _ hj _=>?_;have hts:=WL.at P.wl ht;refine (k_args (fB hn rfl) nm hq).ok ?_;refine oKi (th_getI ht (by lia)) ?_;refine oKi (g_kind hj) ?_;refine dNI (fun hp=>?_) (fun hp=>?_)
   ·have hp':¬t.nm=inN nm:=fun e=>hp (congrArg nmK e);exact c_throw (fB hn rfl) 2 P.p2 (by lia) (thrown P.p2 P.d (by simp[fromS,hr,h0,hq,ht,hp']) qe)
   ·have hp':=nmK_inj hp;obtain⟨z,hz⟩:=head_int hts (by refine rwE hp' ?_; exact inN_s hq);have hN:=inN_isN hq;have e:fromS c.u c.pb (inN nm) i W.things=(.ok (.int z),W.things):=by
     simp[fromS,isN_refers hN,h0,isN_Q hN,ht,hp',hz]
    have e2:fromS c.u c.pb nm i W.things=(.ok (.tup [.int 1,.int z]),W.things):=by
     simp[fromS,hr,h0,hq,ht,hp',hz]
    rw[e2] at qo;refine (c_unbox_plain (fB hn rfl) P hN hi).run _ (fun v W' T' hs hv h1 h2=>?_) (fun p W' T' j L' hs hv _ _=>?_)
    ·rw[e] at hv;obtain⟨h3,h4⟩:=Prod.mk.inj hv;cases h3;exact qo _ W' T' hs (by refine rwE h4 ?_; rfl) h1 h2
    ·rw[e] at hv; cases hv
theorem c_from (hn:26≤n) {nm:Nm} {i:Int} (P:Pre 0 W) (hi:i≠0→∃t,thI W.things i=some t):EvC l zs n c 1098 [.ref (.f 27),.int (nmK nm),.int i] W T 0 (fromS c.u c.pb nm i W.things):=⟨fun Q qo qe=>by
 refine prC hn rfl fun m hn=>?_;have hP:=P.t;refine unf (d:=⟨3,b1098⟩) rfl rfl ?_;cases hr:refers nm
 ·refine (k_valueB (fB hn rfl) hr).ok ?_;exact (c_unbox (fB hn rfl) P hr hi).run _ qo qe
 ·have hin:inN nm=nm:=by
   induction nm using Nm.casesOn with
   |s x=>cases x<;>first|rfl|cases hr
   |qe=>exact (noB hr).elim
   |_=>rfl
  refine (k_valueB (fB hn rfl) hr).ok ?_;refine dNI (fun h0=>?_) (fun h0=>?_)
  ·obtain⟨t,ht⟩:=hi h0;refine c_item_is (fB hn rfl) ht (by lia) hin ?_;have hg:goes c.pb W.things i nm=goesN c.pb t.nm nm:=goes_at ht;cases hgn:goesN c.pb t.nm nm
   ·conv=>whnf
    exact c_throw (fB hn rfl) 2 P.p2 (by lia) (thrown P.p2 P.d (by simp[fromS,hr,h0,hg,hgn]) qe)
   ·conv=>whnf
    exact qo _ W T (.self P.p2 P.d) (by simp[fromS,hr,hg,hgn]) rfl rfl
  ·conv=>whnf
   exact qo _ W T (.self P.p2 P.d) (by have:i=0:=h0; simp[fromS,hr,this]) rfl rfl⟩
theorem c_within (hn:22≤n) {nm:Nm} {v:AV} (P:Pre 0 W) (hq:isQ nm=true) (hv:Val W.things nm v):EvC l zs n c 1105 [.ref (.f 27),v] W T 0 (if fstV v=0 then (.err 5,W.things) else (.ok (sndV v),W.things)):=⟨fun Q qo qe=>by
 refine prC hn rfl fun m hn=>?_;have hP:=P.t;refine unf (d:=⟨2,b1105⟩) rfl rfl ?_;rcases val_q hq hv with rfl|⟨z,rfl⟩
 ·conv=>whnf
  exact c_throw (fB hn rfl) 5 P.p2 (by lia) (thrown P.p2 P.d (if_pos rfl) qe)
 ·conv=>whnf
  exact qo _ W T (.self P.p2 P.d) (if_neg (show ¬(1:Int)=0 by decide)) rfl rfl⟩
noncomputable def hiU (u:U4):Int:=(spanU u).1+(spanU u).2 - 1
theorem in_span (u:U4) (z:Int):seenI (spanU u) z=z↔(spanU u).1≤z∧z≤hiU u:=by
 dsimp only[seenI,hiU];have h:0<(spanU u).2:=by cases u<;>decide
 rw[Int.fmod_eq_emod_of_nonneg _ (Int.le_of_lt h)];generalize (spanU u).1=a at *;generalize (spanU u).2=b at *;refine⟨fun e=>?_,fun e=>by refine rwE (Int.emod_eq_of_lt (by lia) (by lia)) ?_; lia⟩;have h1:=Int.emod_nonneg (z - a) (Int.ne_of_gt h);have h2:=Int.emod_lt_of_pos (z - a) h;generalize (z - a) % b=r at *;lia
noncomputable def foldV (u:U4) (z chk:Int):AV:=if (spanU u).1≤z∧z≤hiU u then .tup [.int z,.int 0] else if chk≠0 then .tup [.none,.int 221] else .tup [.int (seenI (spanU u) z),.int 0]
theorem k_range (hn:1≤n) (u:U4):RRun (sta l zs) (mk c W T) n 292 [.int (uK u)] (.tup [.int (spanU u).1,.int (hiU u)]):=by
 obtain⟨n,rfl⟩:=prk (j:=1) hn;cases u<;>exact⟨by kernel_rfl⟩
theorem c_in (hn:2≤n) {u:U4} {z:Int} {Q:Post} (q:Q (.ok (.bool (decide ((spanU u).1≤z∧z≤hiU u)))) (mk c W T)):wpF (sta l zs) funs n 1341 [.int (uK u),.int z] Q (mk c W T):=by
 refine prC hn rfl fun m hn=>?_;refine unf (d:=⟨2,b1341⟩) rfl rfl ?_;refine (k_range (fB hn rfl) u).ok ?_;refine⟨rfl,?_⟩;refine bP (fun h=>?_) (fun h=>?_)
 ·replace h:(spanU u).1≤z:=of_decide_eq_true h;simp only[h,true_and] at q;exact q
 ·have h':¬(spanU u).1≤z:=of_decide_eq_false h;simp only[h',false_and] at q;refine rwE (show decide ((spanU u).1≤z)=decide False by simp[h']) ?_;exact q
theorem c_cut (hn:2≤n) {u:U4} {z:Int} {Q:Post} (q:Q (.ok (.int (seenI (spanU u) z))) (mk c W T)):wpF (sta l zs) funs n 1334 [.int (uK u),.int z] Q (mk c W T):=by
 refine prC hn rfl fun m hn=>?_;refine unf (d:=⟨2,b1334⟩) rfl rfl ?_;refine (k_range (by lia) u).ok ?_;refine⟨rfl,?_⟩;cases u<;>exact q
theorem c_whole (hn:3≤n) {u:U4} {z chk:Int} {Q:Post} (q:Q (.ok (if (spanU u).1≤z∧z≤hiU u then .tup [.int z,.int 0] else if chk≠0 then .tup [.none,.int 220] else .tup [.int (seenI (spanU u) z),.int 0])) (mk c W T)):wpF (sta l zs) funs n 1348 [.int (uK u),.int z,.int chk] Q (mk c W T):=by
 refine prC hn rfl fun m hn=>?_;refine unf (d:=⟨3,b1348⟩) rfl rfl ?_;refine c_in (fB hn rfl) ?_;by_cases h:(spanU u).1≤z∧z≤hiU u
 ·refine rwE (decide_eq_true h) ?_;rw[if_pos h] at q;exact q
 ·refine rwE (decide_eq_false h) ?_;rw[if_neg h] at q;refine dI (fun h2=>?_) (fun h2=>?_)
  ·rw[if_pos h2] at q;exact q
  ·rw[if_neg h2] at q;exact c_cut (fB hn rfl) q
theorem c_fold (hn:4≤n) {u:U4} {z chk:Int} {Q:Post} (q:Q (.ok (foldV u z chk)) (mk c W T)):wpF (sta l zs) funs n 1355 [.int (uK u),.int z,.int chk] Q (mk c W T):=by
 refine prC hn rfl fun m hn=>?_;refine unf (d:=⟨3,b1355⟩) rfl rfl ?_;refine c_whole (fB hn rfl) ?_;dsimp only[foldV] at q;by_cases h:(spanU u).1≤z∧z≤hiU u
 ·rw[if_pos h] at q ⊢;exact q
 ·rw[if_neg h] at q ⊢;by_cases h2:chk≠0
  ·rw[if_pos h2] at q ⊢;exact q
  ·rw[if_neg h2] at q ⊢;exact q
theorem plain_u (u:U4) {x:B0} (h:isI x=true):∃u':U4,nmK (plainN u (.s x))=uK u'∧span u x=some (spanU u'):=by
 cases x<;>first|exact⟨.i4,rfl,rfl⟩|exact⟨.u4,rfl,rfl⟩|exact⟨.u1,rfl,rfl⟩|exact⟨.i8,rfl,rfl⟩|exact⟨u,by cases u<;>rfl,rfl⟩|cases h
theorem num_eq {u:U4} {x:B0} {z y chk:Int} {L:List Th} (h:seenV u x (.int z) = .int y):numS u x chk (.int z) L=if chk≠0∧y≠z then (.err 3,L) else (.ok (.int y),L):=by unfold numS; rw[h]; rfl
theorem c_number (hn:24≤n) {x:B0} {z chk:Int} (P:Pre 0 W) (hx:isI x=true):EvC l zs n c 1369 [.ref (.f 27),.int (nmK (.s x)),.int z,.int chk] W T 0 (numS c.u x chk (.int z) W.things):=⟨fun Q qo qe=>by
 refine prC hn rfl fun m hn=>?_;have hP:=P.t;refine E12 (plain_u c.u hx) fun u' hu hs=>?_;have kp:=k_plain (l:=l) (zs:=zs) (c:=c) (W:=W) (T:=T) (n:=m) (fB hn rfl) (.s x);rw[hu] at kp;have hseen:seenV c.u x (.int z) = .int (seenI (spanU u') z):=by unfold seenV; refine rwE hs ?_; rfl
 refine unf (d:=⟨4,b1369⟩) rfl rfl ?_;refine kp.ok ?_;refine dF (by cases u'<;>decide) ?_;refine c_fold (fB hn rfl) ?_;dsimp only[onRes,ewps];obtain⟨m2,rfl⟩:∃m2,m=m2+1:=⟨m - 1,by lia⟩;refine unf (d:=⟨2,b1362⟩) rfl rfl ?_;dsimp only[foldV];by_cases h:(spanU u').1≤z∧z≤hiU u'
 ·have hi:=(in_span u' z).mpr h;rw[if_pos h];exact qo _ W T (.self P.p2 P.d) (by rw[num_eq hseen]; simp[hi]) rfl rfl
 ·have hi:=mt (in_span u' z).mp h;refine rwE (if_neg h) ?_;by_cases h2:chk≠0
  ·refine rwE (if_pos h2) ?_;exact c_over (by lia) P.p2 (by lia) (thrown P.p2 P.d (by rw[num_eq hseen]; simp[hi,h2]) qe)
  ·refine rwE (if_neg h2) ?_;exact qo _ W T (.self P.p2 P.d) (by rw[num_eq hseen]; simp[hi,h2]) rfl rfl⟩
end
section
variable {l:Addr} {zs:List Int} {n:Nat} {c:Cst} {W:Wd} {T:List AO}
noncomputable def noneS (r:SZ):SZ:=bindS r fun _ L=>(.ok .none,L)
theorem storeS_at {u:U4} {pb:Bool} {L:List Th} {a i:Int} {v:AV} {t:Th} (hl:lookS L a i=none) (ht:thI L a=some t):storeS u pb L a i v=bif storeB pb L t v then (.err 4,L) else (.ok v,setS L a i (seenV u (elemT t) v)):=by
 simp only[storeS,hl,ht]
theorem c_store (hn:26≤n) {a i:Int} {x:B0} {v:AV} (P:Pre 0 W) (ha:a≠0→∃t y,thI W.things a=some t∧t.nm = .arr y∧cls y=cls x) (hv:Val W.things (.s x) v) :
 EvC l zs n c 1237 [.ref (.f 27),.int a,.int i,v] W T 0 (noneS (storeS c.u c.pb W.things a i v)):=⟨fun Q qo qe=>by
 refine prC hn rfl fun m hn=>?_;have hP:=P.t;refine unf (d:=⟨4,b1237⟩) rfl rfl ?_;refine (c_place (fB hn rfl) P fun h=>by obtain⟨t,y,h,_⟩:=ha h; exact⟨t,h⟩).run _ (fun pv W' T' hs hr hn' hh=>?_) (fun p W' T' j L' hs hr ht hj=>?_)
 ·refine E03 (placeS_ok hr) fun hl eq1 hL=>?_; subst eq1;refine E23 (ha (look_none hl).1) fun t y ht hnm hc=>?_;have ht':thI W'.things a=some t:=by refine rwE hL ?_; exact ht
  have hw:WL W'.things:=by refine rwE hL ?_; exact P.wl
  have hle:W'.things.length≤90000:=by refine rwE hL ?_; lia
  refine (thI_atI ht') fun _ hj _=>?_;have hes:elemT t=y:=by unfold elemT; refine rwE hnm ?_; rfl
  have hvy:Val W.things (.s y) v:=val_cls hc.symm hv;have hst:=storeS_at (u:=c.u) (pb:=c.pb) (v:=v) hl ht;have hput:∀Q:Post,storeB c.pb W.things t v=false→(∀W2,W2 = { W' with things:=setS W.things a i (seenV c.u y v) }→Q (.ok .none) (mk c W2 T'))→wpF (sta l zs) funs m 1077 [placeV a i,seenV c.u y v] Q (mk c W' T'):=fun Q _ q =>
   c_put (fB hn rfl) (by refine rwE hL ?_; exact hl) hw (by refine rwE hL ?_; exact q _ rfl)
  have fin:storeB c.pb W.things t v=false→∀W2,W2 = { W' with things:=setS W.things a i (seenV c.u y v) }→Q (.ok .none) (mk c W2 T'):=fun hb W2 e=>by
   subst e;exact qo _ _ T' ⟨hs.rows,hs.arrays,hs.at',hs.bad,hs.p3,hs.p2,hs.s0,hs.s1,hs.h,hs.d⟩ (by rw[noneS,hst,hb,hes]; rfl) hn' hh
  refine oKi (th_getI ht' hle) ?_;refine oKi (g_kind hj) ?_;refine rwE hnm ?_;refine (k_elem (fB hn rfl) y).ok ?_;refine (k_ref (fB hn rfl) (.s y)).ok ?_;cases hr:refers (.s y)
  ·have hb:storeB c.pb W.things t v=false:=stB0 hes hr;refine (k_twin (L:=W.things) (fB hn rfl) hvy).ok ?_;exact hput _ hb (fin hb)
  ·refine (val_refI hr hvy) fun z eq1 hz0 hz1 _=>?_; subst eq1;refine dNI (fun h0=>?_) (fun h0=>?_)
   ·obtain⟨t2,ht2⟩:=thI_some h0 hz0 hz1;have ht2':thI W'.things z=some t2:=by refine rwE hL ?_; exact ht2
    have hg:goes c.pb W.things z (.s y)=goesN c.pb t2.nm (.s y):=goes_at ht2;refine c_item_is (fB hn rfl) ht2' hle (by cases y<;>first|rfl|cases hr) ?_;cases hgn:goesN c.pb t2.nm (.s y)
    ·conv=>whnf
     have h0':z≠0:=h0;refine c_throw (fB hn rfl) 4 hs.p2 (by refine rwE hL ?_; lia) fun i2 hi2=>?_;refine qe 4 _ T' i2 W'.things ⟨hs.rows,hs.arrays,hs.at',hs.bad,hs.p3,hs.p2,hs.s0,hs.s1,hs.h,hs.d⟩ ?_ rfl hi2;rw[noneS,hst];have hb:storeB c.pb W.things t (.int z)=true:=stBi hes hr h0' (hg.trans hgn);rw[hb,hL]; rfl
    ·have hb:storeB c.pb W.things t (.int z)=false:=stBi hes hr h0 (hg.trans hgn);refine (k_twin (L:=W.things) (fB hn rfl) hvy).ok ?_;exact hput _ hb (fin hb)
   ·have h0':z=0:=h0;have hb:storeB c.pb W.things t (.int z)=false:=stBz h0';refine (k_twin (L:=W.things) (fB hn rfl) hvy).ok ?_;exact hput _ hb (fin hb)
 ·obtain⟨hl,rfl⟩:=placeS_err hr;exact qe p W' T' j _ hs (bE (storeE hl)) ht hj⟩
noncomputable def exL:List (Int×AV):=[(90,AV.ref (AA.f 57)),(6,AV.ref (AA.f 59)),(7,AV.ref (AA.f 61)),(10,AV.ref (AA.f 63)),(22,AV.ref (AA.f 65)),(23,AV.ref (AA.f 67)),(19,AV.ref (AA.f 74)),(20,AV.ref (AA.f 76)),(21,AV.ref (AA.f 78))]
theorem c_eval (hn:2≤n) {e:AV} {x:Int} {h:Nat} {f:Addr} {k:Nat} {r:SZ} (P:Pre 1 W) (hx:∀H,getI (sta l zs) H e (.int 0)=some (.int x))
 (hr:(lk exL x).getD .none = .ref (.f h)) (hm:∀W T,methOf (sta l zs) (mk c W T) (.ref (.f h)) 82=some (.fn f))
 (R:EvC l zs (n - 1) c f [.ref (.f h),.ref (.f 27),.ref (.f 80),e] { W with steps:=W.steps+1,nested:=W.nested+2 } T k r):EvC l zs n c 766 [.ref (.f 27),.ref (.f 80),e] W T (k+1) r:=⟨fun Q qo qe=>by
 obtain⟨m,rfl⟩:=pr hn;have h1:=P.s1;have h2:=P.n1;refine unf (d:=⟨3,b766⟩) rfl rfl ?_;refine c_count (fB hn rfl) (by lia) ?_;refine c_deeper (fB hn rfl) (by dsimp only; lia) ?_;refine oKi (hx _) ?_;conv=>whnf
 rw[show (lk [(90,AV.ref (AA.f 57)),(6,AV.ref (AA.f 59)),(7,AV.ref (AA.f 61)),(10,AV.ref (AA.f 63)),(22,AV.ref (AA.f 65)),(23,AV.ref (AA.f 67)),(19,AV.ref (AA.f 74)),(20,AV.ref (AA.f 76)),(21,AV.ref (AA.f 78))] x).getD AV.none = .ref (.f h) from hr];refine oKi (hm _ _) ?_;refine R.run _ (fun v W' T' hs hv h3 h4=>?_) (fun p W' T' i L' hs hv ht hi=>?_)
 ·conv=>whnf
  refine⟨of_decide_eq_true rfl,rfl,?_⟩;rw[u_nested];have a1:=hs.s0;have a2:=hs.s1;have a3:=hs.h;dsimp only at a1 a2 a3;exact qo v _ T' ⟨hs.rows,hs.arrays,hs.at',hs.bad,hs.p3,hs.p2,by dsimp only; lia,by dsimp only; lia,by dsimp only; lia,hs.d⟩ hv rfl h4
 ·have a1:=hs.s0;have a2:=hs.s1;have a3:=hs.h;dsimp only at a1 a2 a3;exact qe p W' T' i L' ⟨hs.rows,hs.arrays,hs.at',hs.bad,hs.p3,hs.p2,by lia,by lia,by lia,hs.d⟩ hv ht hi⟩
theorem tree_1 (s:Sen) (H:AH):getI (sta l zs) H (tree s) (.int 1)=some (.int (nmK (nmOf s))):=by cases s<;>rfl
def EVs (l:Addr) (zs:List Int) (c:Cst) (s:Sen):Prop:=∀n W T,8*size s+40≤n→Pre (size s) W→WFS W.things s→EvC l zs n c 766 [.ref (.f 27),.ref (.f 80),tree s] W T (size s) (sem c.u c.pb s W.things)
theorem plain_idx {u:U4} {nm:Nm} (h:idxN nm=true):plainN u nm=nm:=by
 induction nm using Nm.casesOn with
 |s x=>cases x<;>first|rfl|cases h
 |_=>rfl
theorem c_index {i:Sen} (ih:EVs l zs c i) (hn:8*size i+42≤n) (P:Pre (size i) { W with nested:=W.nested+1 }) (hw:WFS W.things i) (hx:idxN (nmOf i)=true) :
 EvC l zs n c 1145 [.ref (.f 27),.ref (.f 80),tree i] W T (size i) (bindS (sem c.u c.pb i W.things) (overS (nmOf i))):=⟨fun Q qo qe=>by
 obtain⟨m,rfl⟩:=pr hn;have b1:=P.n1;have b2:=P.t;dsimp only at b1 b2;have hN:=isN_idx hx;refine unf (d:=⟨3,b1145⟩) rfl rfl ?_;refine c_deeper (fB hn rfl) (by lia) ?_;refine (ih m { W with nested:=W.nested+1 } T (by lia) P hw).run _ (fun v W' T' hs hv h3 h4=>?_) (fun p W' T' i' L' hs hv ht hi=>?_)
 ·have G:=sem_good c.u c.pb i W.things P.wl hw;dsimp only at hv;rw[hv] at G;obtain⟨z,rfl⟩:=val_int hN (G.2.2.2 v rfl);have hlen:=G.2.2.1;dsimp only at hlen;refine⟨of_decide_eq_true rfl,rfl,?_⟩;rw[u_nested];refine oKi (tree_1 i _) ?_;refine (k_in (fB hn rfl) (nmOf i)).ok ?_;have kp:=k_plain (l:=l) (zs:=zs) (c:=c) (W:={ W' with nested:=W.nested }) (T:=T') (n:=m) (fB hn rfl) (nmOf i);rw[plain_idx hx] at kp;refine kp.ok ?_;have sm:Same (size i) W { W' with nested:=W.nested }:=⟨hs.rows,hs.arrays,hs.at',hs.bad,hs.p3,hs.p2,hs.s0,hs.s1,hs.h,hs.d⟩;have fin:overB (nmOf i) z=false→Q (.ok (.int z)) (mk c { W' with nested:=W.nested } T'):=fun hb=>qo _ _ T' sm ((bO hv).trans (overO hb)) rfl h4;have bad:overB (nmOf i) z=true→wpF (sta l zs) funs m 1112 [.ref (.f 27)] (onRes (fun _=>Q (.ok (.int z))) fun x=>Q (.exc x)) (mk c { W' with nested:=W.nested } T'):=fun hb =>
   c_over (fB hn rfl) hs.p2 (by dsimp only; lia) fun j hj=>qe 3 _ T' j W'.things ⟨hs.rows,hs.arrays,hs.at',hs.bad,hs.p3,hs.p2,hs.s0,hs.s1,hs.h,hs.d⟩ ((bO hv).trans (overE hb)) rfl hj
  have hc:(nmOf i = .s .i4∨nmOf i = .s .u4)∨(nmOf i = .s .i8∨nmOf i = .u8):=by
   revert hx; generalize nmOf i=nm;apply nm_all (P:=fun nm=>idxN nm=true→(nm = .s .i4∨nm = .s .u4)∨(nm = .s .i8∨nm = .u8))<;>decide
  rcases hc with hc|hc
  ·have hb:overB (nmOf i) z=false:=by rcases hc with e|e<;>rw[e]<;>rfl
   have:=fin hb;rcases hc with e|e<;>rw[e]<;>exact this
  ·have hob:overB (nmOf i) z = !(decide (-2147483648≤z)&&decide (z≤2147483647)):=by rcases hc with e|e<;>rw[e]<;>rfl
   have key:∀k:Int,k=9∨k=10→nmK (nmOf i)=k→True:=fun _ _ _=>trivial;rw[hob] at fin bad;rcases hc with e|e<;>rw[e]
   all_goals
    refine dI (fun h1=>?_) (fun h1=>?_)
    ·replace h1:-2147483648≤z:=h1;refine dI (fun h2=>?_) (fun h2=>?_)
     ·replace h2:z≤2147483647:=h2;exact fin (by simp[h1,h2])
     ·replace h2:¬z≤2147483647:=h2;exact bad (by simp[h2])
    ·replace h1:¬-2147483648≤z:=h1;exact bad (by simp[h1])
 ·exact qe p W' T' i' L' ⟨hs.rows,hs.arrays,hs.at',hs.bad,hs.p3,hs.p2,hs.s0,hs.s1,hs.h,hs.d⟩ (by dsimp only at hv; rw[hv]; rfl) ht hi⟩
end
section
variable {l:Addr} {zs:List Int} {n:Nat} {c:Cst} {W:Wd} {T:List AO}
theorem Pre.go {W W':Wd} {k j k':Nat} {d e:Int} (P:Pre k { W with nested:=W.nested+d }) (s:Same j W W') (hw:WL W'.things) (hl:W'.things.length≤W.things.length+j) (hn:W'.nested+e≤W.nested+d) (hk:j+k'≤k):Pre k' { W' with nested:=W'.nested+e }:=by
 have h1:=P.s1; have h2:=P.n1; have h3:=P.t; have h4:=P.h; have h5:=s.s1; have h6:=s.h;dsimp only at h1 h2 h3 h4;exact⟨s.p2,s.d,by dsimp only; lia,by dsimp only; lia,by dsimp only; lia,by dsimp only; lia,hw⟩
theorem Pre.go0 {W W':Wd} {k j k':Nat} {d:Int} (P:Pre k { W with nested:=W.nested+d }) (s:Same j W W') (hw:WL W'.things) (hl:W'.things.length≤W.things.length+j) (hn:W'.nested≤W.nested+d) (hk:j+k'≤k):Pre k' W':=by
 have h1:=P.s1; have h2:=P.n1; have h3:=P.t; have h4:=P.h; have h5:=s.s1; have h6:=s.h;dsimp only at h1 h2 h3 h4;exact⟨s.p2,s.d,by lia,by lia,by lia,by lia,hw⟩
theorem idx_good {u:U4} {pb:Bool} {i:Sen} {L:List Th} (h:WL L) (w:WFS L i):Good L (nmOf i) (size i) (bindS (sem u pb i L) (overS (nmOf i))) :=
 (Good.bind (k':=0) (sem_good u pb i L h w) fun _ _ h2 _ v2=>overS_good h2 v2).le (by lia)
theorem Good.at {L:List Th} {nm:Nm} {k:Nat} {r:SZ} {v:AV} {L':List Th} (h:Good L nm k r) (e:r=(.ok v,L')):WL L'∧ThE L L'∧L'.length≤L.length+k∧Val L' nm v:=by
 subst e; exact⟨h.1,h.2.1,h.2.2.1,h.2.2.2 v rfl⟩
theorem c_elem {x:B0} {a i:Sen} (iha:EVs l zs c a) (ihi:EVs l zs c i) (hn:8*(size a+size i)+46≤n) (P:Pre (size a+size i) { W with nested:=W.nested+10 }) (w:WFS W.things (.elem x a i)) :
 EvC l zs n c 1173 [.ref (.f 59),.ref (.f 27),.ref (.f 80),tree (.elem x a i)] W T (size a+size i) (sem c.u c.pb (.elem x a i) W.things):=⟨fun Q qo qe=>by
 refine prC hn rfl fun m hn=>?_;refine E04 w fun w1 w2 w3 w4=>?_;refine unf (d:=⟨4,b1173⟩) rfl rfl ?_;refine (iha m W T (by lia) (P.go0 (.self P.p2 P.d (k:=0)) P.wl (by lia) (by lia) (by lia)) w1).run _ (fun va W1 T1 s1 hv1 n1 h1=>?_) (fun p W' T' j L' hs hv ht hj=>?_)
 ·refine E04 ((sem_good c.u c.pb a W.things P.wl w1).at hv1) fun g1 e1 l1 v1=>?_;refine (c_index ihi (by lia) (P.go (e:=1) s1 g1 l1 (by lia) (by lia)) (w3.mono e1) w4).run _ (fun vi W2 T2 s2 hv2 n2 h2=>?_) (fun p W' T' j L' hs hv ht hj=>?_)
  ·refine E04 ((idx_good (u:=c.u) (pb:=c.pb) g1 (w3.mono e1)).at hv2) fun g2 e2 l2 v2=>?_;rw[w2] at v1;refine (arr_atI (v1.mono e2)) fun ai eq1 _ _ ha=>?_; subst eq1;obtain⟨zi,rfl⟩:=val_int (isN_idx w4) v2;have hsem:sem c.u c.pb (.elem x a i) W.things=elemS c.u x ai zi W2.things:=(sB hv1).trans (sB hv2);rw[hsem] at qo qe;refine (k_in (fB hn rfl) (.s x)).ok ?_;refine (c_item_value (fB hn rfl) (P.go0 (s1.trans s2) g2 (by lia) (by lia) (by lia)) ha).run _ (fun v W3 T3 s3 hv3 n3 h3=>?_) (fun p W' T' j L' hs hv ht hj=>?_)
   ·exact qo v W3 T3 ((s1.trans (s2.trans s3)).le (by lia)) hv3 (n3.trans (n2.trans n1)) (h3.trans (h2.trans h1))
   ·exact qe p W' T' j L' ((s1.trans (s2.trans hs)).le (by lia)) hv ht hj
  ·exact qe p W' T' j L' (s1.trans hs) ((sB hv1).trans (sB hv)) ht hj
 ·exact qe p W' T' j L' (hs.le (by lia)) (sB hv) ht hj⟩
theorem c_len {a:Sen} (iha:EVs l zs c a) (hn:8*size a+46≤n) (P:Pre (size a) { W with nested:=W.nested+10 }) (w:WFS W.things (.len a)) :
 EvC l zs n c 1251 [.ref (.f 61),.ref (.f 27),.ref (.f 80),tree (.len a)] W T (size a) (sem c.u c.pb (.len a) W.things):=⟨fun Q qo qe=>by
 obtain⟨m,rfl⟩:=pr hn;obtain⟨w1,x,w2⟩:=w;have hP:=P.t;dsimp only at hP;refine unf (d:=⟨4,b1251⟩) rfl rfl ?_;refine (iha m W T (by lia) (P.go0 (.self P.p2 P.d (k:=0)) P.wl (by lia) (by lia) (by lia)) w1).run _ (fun va W1 T1 s1 hv1 n1 h1=>?_) (fun p W' T' j L' hs hv ht hj=>?_)
 ·refine E04 ((sem_good c.u c.pb a W.things P.wl w1).at hv1) fun g1 e1 l1 v1=>?_;rw[w2] at v1;refine (arr_atI v1) fun ai eq1 _ _ ha=>?_; subst eq1;have hsem:sem c.u c.pb (.len a) W.things=lenS ai W1.things:=sB hv1;rw[hsem] at qo qe;refine dI (fun h0=>?_) (fun h0=>?_)
  ·replace h0:ai=0:=h0;exact c_nothing (by lia) s1.p2 (by lia) fun j hj=>qe 0 _ T1 j W1.things ⟨s1.rows,s1.arrays,s1.at',s1.bad,s1.p3,s1.p2,s1.s0,s1.s1,s1.h,s1.d⟩ (by simp[lenS,h0]) rfl hj
  ·replace h0:ai≠0:=h0;refine E23 (ha h0) fun t y ht _ _=>?_;refine (thI_atI ht) fun _ hj _=>?_;have hsl:=(WL.at g1 ht).1;refine oKi (th_getI ht (by lia)) ?_;refine oKi (g_slots hj) ?_;refine oKi (len_list (o_slots hj) (by lia)) ?_;exact qo _ W1 T1 s1 (by simp[lenS,h0,slotsI,ht]) n1 h1
 ·exact qe p W' T' j L' hs (sB hv) ht hj⟩
theorem mul_list {S:Stat} {H:AH} {a:AA} {x:AV} {z:Int} (h:H a=some (.list [x])) (h0:0≤z) (h1:z≤65536):binA S H .mul (.ref a) (.int z)=some (.l (List.replicate z.toNat x)):=by
 show mulA (H a) (.int z)=_
 rw[h]; exact if_pos ⟨h0,h1⟩
theorem none_first (x:B0):(bif isQ (.s x) then zz else .int 0)=noneV x:=by cases x<;>rfl
theorem c_new {x:B0} {i:Sen} (ihi:EVs l zs c i) (hn:8*size i+46≤n) (P:Pre (size i+1) { W with nested:=W.nested+10 }) (w:WFS W.things (.new x i)) :
 EvC l zs n c 1270 [.ref (.f 63),.ref (.f 27),.ref (.f 80),tree (.new x i)] W T (size i) (sem c.u c.pb (.new x i) W.things):=⟨fun Q qo qe=>by
 refine prC hn rfl fun m hn=>?_;obtain⟨w1,w2⟩:=w;have hP:=P.t;skip
 refine unf (d:=⟨4,b1270⟩) rfl rfl ?_;refine (c_index ihi (by lia) (P.go (e:=1) (.self P.p2 P.d (k:=0)) P.wl (by lia) (by lia) (by lia)) w1 w2).run _ (fun vi W1 T1 s1 hv1 n1 h1=>?_) (fun p W' T' j L' hs hv ht hj=>?_)
 ·refine E04 ((idx_good (L:=W.things) (u:=c.u) (pb:=c.pb) P.wl w1).at hv1) fun g1 e1 l1 v1=>?_;obtain⟨z,rfl⟩:=val_int (isN_idx w2) v1;have hsem:sem c.u c.pb (.new x i) W.things=newS x z W1.things:=sB hv1;rw[hsem] at qo qe;have throwit:∀p,newS x z W1.things=(.err p,W1.things)→∀j:Int,j=(W1.things.length:Int)+1→Q (.exc (.int j)) (mk c { W1 with things:=W1.things++errL c p W1.things.length } T1):=fun p hp j hj =>
   qe p _ T1 j W1.things ⟨s1.rows,s1.arrays,s1.at',s1.bad,s1.p3,s1.p2,s1.s0,s1.s1,s1.h,s1.d⟩ hp rfl hj
  refine dI (fun h0=>?_) (fun h0=>?_)
  ·replace h0:z<0:=h0;exact c_over (fB hn rfl) s1.p2 (by lia) (throwit 3 (by simp[newS,h0]))
  ·replace h0:¬z<0:=h0;refine dI (fun h2=>?_) (fun h2=>?_)
   ·replace h2:z>2147483647:=h2;exact c_over (fB hn rfl) s1.p2 (by lia) (throwit 3 (by simp[newS,h2]))
   ·replace h2:¬z>2147483647:=h2;refine dI (fun h3=>?_) (fun h3=>?_)
    ·replace h3:z>65536:=h3;exact c_throw (fB hn rfl) 6 s1.p2 (by lia) (throwit 6 (by rw[newS,if_neg (by lia),if_pos h3]))
    ·replace h3:¬z>65536:=h3;refine (k_in (fB hn rfl) (.arr x)).ok ?_;refine (k_elem (fB hn rfl) x).ok ?_;refine c_first (fB hn rfl) s1.d fun d T2 hd=>?_;refine rwE (none_first ..) ?_;refine .inr ⟨_,t_new,?_⟩;refine rwE u_new ?_;conv=>whnf
     refine rwE (mul_list t_get (by lia) (by lia)) ?_;refine .inr ⟨_,p2_new (W:={ W1 with defaults:=d }) s1.p2,?_⟩;refine rwE (u_p2 (W:={ W1 with defaults:=d }) s1.p2) ?_;refine c_new_item (nm:=.arr x) (W:={ W1 with defaults:=d,pend2:=some (List.replicate z.toNat (noneV x)) }) (fB hn rfl) rfl (by dsimp only; lia) fun j hj=>?_;skip
     exact qo _ _ _ ⟨s1.rows,s1.arrays,s1.at',s1.bad,s1.p3,rfl,s1.s0,s1.s1,s1.h,hd⟩ (by rw[newS,if_neg (by lia),if_neg h3,hj]) n1 h1
 ·exact qe p W' T' j L' hs (sB hv) ht hj⟩
noncomputable def spotV (x:B0) (a i:Sen):AV:=.tup [.int 6,.int (nmK (.s x)),tree a,tree i]
noncomputable def spotS (u:U4) (pb:Bool) (a i:Sen) (L:List Th):SZ:=bindS (sem u pb a L) fun va L=>bindS (bindS (sem u pb i L) (overS (nmOf i))) fun vi L=>(.ok (.tup [va,vi]),L)
theorem c_ready {x:B0} {a i:Sen} {rl:AV} (iha:EVs l zs c a) (ihi:EVs l zs c i) (hn:8*(size a+size i)+43≤n) (P:Pre (size a+size i) { W with nested:=W.nested+6 }) (w1:WFS W.things a) (w3:WFS W.things i) (w4:idxN (nmOf i)=true) :
 EvC l zs n c 1211 [rl,.ref (.f 27),.ref (.f 80),spotV x a i] W T (size a+size i) (spotS c.u c.pb a i W.things):=⟨fun Q qo qe=>by
 refine prC hn rfl fun m hn=>?_;have:=P.t;refine unf (d:=⟨4,b1211⟩) rfl rfl ?_;refine (iha m W T (by lia) (P.go0 (.self P.p2 P.d (k:=0)) P.wl (by lia) (by lia) (by lia)) w1).run _ (fun va W1 T1 s1 hv1 n1 h1=>?_) (fun p W' T' j L' hs hv ht hj=>?_)
 ·refine E04 ((sem_good c.u c.pb a W.things P.wl w1).at hv1) fun g1 e1 l1 v1=>?_;refine (c_index ihi (by lia) (P.go (e:=1) s1 g1 l1 (by lia) (by lia)) (w3.mono e1) w4).run _ (fun vi W2 T2 s2 hv2 n2 h2=>?_) (fun p W' T' j L' hs hv ht hj=>?_)
  ·exact qo _ W2 T2 (s1.trans s2) ((bO hv1).trans (bO hv2)) (n2.trans n1) (h2.trans h1)
  ·exact qe p W' T' j L' (s1.trans hs) ((bO hv1).trans (bE hv)) ht hj
 ·exact qe p W' T' j L' (hs.le (by lia)) (bE hv) ht hj⟩
theorem Same.nest {k:Nat} {x:Int} (h:Same k { W with nested:=x } W'):Same k W W':=⟨h.rows,h.arrays,h.at',h.bad,h.p3,h.p2,h.s0,h.s1,h.h,h.d⟩
theorem Same.nest' {k:Nat} {x:Int} {W':Wd} (h:Same k W W'):Same k W { W' with nested:=x }:=⟨h.rows,h.arrays,h.at',h.bad,h.p3,h.p2,h.s0,h.s1,h.h,h.d⟩
theorem c_ready_target {x:B0} {a i:Sen} (iha:EVs l zs c a) (ihi:EVs l zs c i) (hn:8*(size a+size i)+44≤n) (P:Pre (size a+size i) { W with nested:=W.nested+8 }) (w1:WFS W.things a) (w3:WFS W.things i) (w4:idxN (nmOf i)=true) :
 EvC l zs n c 1282 [.ref (.f 27),.ref (.f 80),spotV x a i] W T (size a+size i) (spotS c.u c.pb a i W.things):=⟨fun Q qo qe=>by
 refine prC hn rfl fun m hn=>?_;have hp:=P.n1;skip
 refine unf (d:=⟨3,b1282⟩) rfl rfl ?_;refine c_deeper (fB hn rfl) (by lia) ?_;refine (c_ready (x:=x) (W:={ W with nested:=W.nested+2 }) iha ihi (by lia) (P.go (W:=W) (W':={ W with nested:=W.nested+2 }) (e:=6) (j:=0) (Same.nest' (.self P.p2 P.d)) P.wl (by dsimp only; lia) (by dsimp only; lia) (by lia)) w1 w3 w4).run _ (fun v W1 T1 s1 hv1 n1 h1=>?_) (fun p W' T' j L' hs hv ht hj=>?_)
 ·conv=>whnf
  refine⟨of_decide_eq_true rfl,rfl,?_⟩;refine rwE u_nested ?_;exact qo _ _ T1 (Same.nest' s1.nest) hv1 rfl h1
 ·exact qe p W' T' j L' hs.nest hv ht hj⟩
theorem c_write_target {x:B0} {a i:Sen} {ai zi:Int} {v:AV} (hn:30≤n) (P:Pre 0 { W with nested:=W.nested+2 }) (ha:ai≠0→∃t y,thI W.things ai=some t∧t.nm = .arr y∧cls y=cls x) (hv:Val W.things (.s x) v) :
 EvC l zs n c 1289 [.ref (.f 27),.ref (.f 80),spotV x a i,.tup [.int ai,.int zi],v] W T 0 (noneS (storeS c.u c.pb W.things ai zi v)):=⟨fun Q qo qe=>by
 obtain⟨m,rfl⟩:=pr hn;have hp:=P.n1;dsimp only at hp;refine unf (d:=⟨5,b1289⟩) rfl rfl ?_;refine c_deeper (by lia) (by lia) ?_;conv=>whnf
 obtain⟨m2,rfl⟩:∃m2,m=m2+1:=⟨m - 1,by lia⟩;refine unf (d:=⟨6,b1225⟩) rfl rfl ?_;refine (c_store (W:={ W with nested:=W.nested+2 }) (by lia) P ha hv).run _ (fun v W1 T1 s1 hv1 n1 h1=>?_) (fun p W' T' j L' hs hv ht hj=>?_)
 ·conv=>whnf
  refine⟨of_decide_eq_true rfl,rfl,?_⟩;rw[u_nested];have hv2:v = .none:=by
   dsimp only at hv1;unfold noneS bindS at hv1;split at hv1
   ·cases (Prod.mk.inj hv1).1; rfl
   ·cases (Prod.mk.inj hv1).1
  subst hv2;exact qo _ _ T1 (Same.nest' s1.nest) hv1 rfl h1
 ·exact qe p W' T' j L' hs.nest hv ht hj⟩
end
section
variable {l:Addr} {zs:List Int} {n:Nat} {c:Cst} {W:Wd} {T:List AO}
noncomputable def pA (v:AV):Int:=match v with
 |.tup [a,_]=>intV a
 |_=>0
noncomputable def pB (v:AV):Int:=match v with
 |.tup [_,b]=>intV b
 |_=>0
theorem spot_bind {u:U4} {pb:Bool} {a i:Sen} {L:List Th} {f:Int→Int→List Th→SZ}:(bindS (sem u pb a L) fun va L=>bindS (bindS (sem u pb i L) (overS (nmOf i))) fun vi L=>f (intV va) (intV vi) L)=bindS (spotS u pb a i L) fun p L=>f (pA p) (pB p) L:=by
 unfold spotS;rcases sem u pb a L with⟨ra,La⟩;induction ra using SR.casesOn with
 |err p=>rfl
 |ok va =>
  dsimp only[bindS];rcases sem u pb i La with⟨ri,Li⟩;induction ri using SR.casesOn with
  |err p=>rfl
  |ok vi =>
   simp only
   rcases overS (nmOf i) vi Li with⟨ro,Lo⟩;cases ro<;>rfl
theorem sem_asg {u:U4} {pb:Bool} {x:B0} {a i v:Sen} {L:List Th}:sem u pb (.asg x a i v) L=bindS (spotS u pb a i L) fun p L=>bindS (sem u pb v L) fun w L=>storeS u pb L (pA p) (pB p) w :=
 spot_bind (f:=fun a i L=>bindS (sem u pb v L) fun w L=>storeS u pb L a i w)
theorem sem_comp {u:U4} {pb:Bool} {x:B0} {a i v:Sen} {post:Int} {L:List Th}:sem u pb (.comp x a i v post) L=bindS (spotS u pb a i L) fun p L=>bindS (elemS u x (pA p) (pB p) L) fun old L=>bindS (sem u pb v L) fun w L =>
 bindS (storeS u pb L (pA p) (pB p) w) fun w L=>(.ok (if post≠0 then old else w),L) :=
 spot_bind (f:=fun a i L=>bindS (elemS u x a i L) fun old L=>bindS (sem u pb v L) fun w L=>bindS (storeS u pb L a i w) fun w L=>(.ok (if post≠0 then old else w),L))
theorem spot_good {u:U4} {pb:Bool} {x:B0} {a i:Sen} {L L':List Th} {p:AV} (h:WL L) (w1:WFS L a) (w2:nmOf a = .arr x) (w3:WFS L i) (w4:idxN (nmOf i)=true) (e:spotS u pb a i L=(.ok p,L')) :
 ∃ai zi:Int,p = .tup [.int ai,.int zi]∧WL L'∧ThE L L'∧L'.length≤L.length+(size a+size i)∧Val L' (.arr x) (.int ai):=by
 unfold spotS at e;cases ea:sem u pb a L with
 |mk ra La =>
  rw[ea] at e;refine kf fun kG=>?_;induction ra using SR.casesOn with
  |err p =>
   cases e
  |ok va =>
   refine E04 ((sem_good u pb a L h w1).at ea) fun g1 e1 l1 v1=>?_;refine kG ?_; clear kG;cases ei:bindS (sem u pb i La) (overS (nmOf i)) with
   |mk ri Li =>
    replace e:bindS (bindS (sem u pb i La) (overS (nmOf i))) (fun vi L=>(.ok (.tup [va,vi]),L))=_:=e;rw[ei] at e;refine kf fun kG=>?_;induction ri using SR.casesOn with
    |err p =>
     cases e
    |ok vi =>
     refine E04 ((idx_good (u:=u) (pb:=pb) g1 (w3.mono e1)).at ei) fun g2 e2 l2 v2=>?_;rw[w2] at v1;refine (arr_atI v1) fun ai eq1 _ _ _=>?_; subst eq1;obtain⟨zi,rfl⟩:=val_int (isN_idx w4) v2;cases e;refine kG ?_; clear kG;exact⟨ai,zi,rfl,g2,e1.trans e2,by lia,v1.mono e2⟩
theorem noneS_ok {r:SZ} {v:AV} {L:List Th} (h:noneS r=(.ok v,L)):v = .none∧∃w,r=(.ok w,L):=by
 rcases r with⟨r1,r2⟩;induction r1 using SR.casesOn with
 |ok w=>cases h; exact⟨rfl,w,rfl⟩
 |err p=>exact nomatch h
theorem noneS_err {r:SZ} {p:Fin 7} {L:List Th} (h:noneS r=(.err p,L)):r=(.err p,L):=by
 rcases r with⟨r1,r2⟩;induction r1 using SR.casesOn with
 |ok w=>exact nomatch h
 |err p=>exact h
theorem storeS_ok {u:U4} {pb:Bool} {L L':List Th} {a i:Int} {v w:AV} (h:storeS u pb L a i v=(.ok w,L')):w=v:=by
 unfold storeS at h;revert h;induction lookS L a i using Option.casesOn with
 |some p=>exact fun h=>nomatch h
 |none =>
  induction thI L a using Option.casesOn with
  |none=>exact fun h=>nomatch h
  |some t =>
   intro h; dsimp only at h;cases hb:storeB pb L t v
   ·rw[hb] at h; simp only[cond_false] at h; cases h; rfl
   ·rw[hb] at h; simp only[cond_true] at h; cases h
theorem c_read {x:B0} {a i:Sen} {rl:AV} {ai zi:Int} (hn:28≤n) (P:Pre 0 W) (ha:ai≠0→∃t y,thI W.things ai=some t∧t.nm = .arr y∧cls y=cls x) :
 EvC l zs n c 1218 [rl,.ref (.f 27),.ref (.f 80),spotV x a i,.tup [.int ai,.int zi]] W T 0 (elemS c.u x ai zi W.things):=⟨fun Q qo qe=>by
 refine prC hn rfl fun m hn=>?_;refine unf (d:=⟨5,b1218⟩) rfl rfl ?_;refine (k_in (fB hn rfl) (.s x)).ok ?_;exact (c_item_value (fB hn rfl) P ha).run _ qo qe⟩
theorem c_hole {v:Sen} {o:AV} (ihv:EVs l zs c v) (hn:8*size v+42≤n) (P:Pre (size v) { W with nested:=W.nested+2 }) (ho:W.holes.length+size v≤89999) (w:WFS W.things v) :
 EvC l zs n c 1138 [.ref (.f 27),.ref (.f 80),tree v,o] W T (size v+1) (sem c.u c.pb v W.things):=⟨fun Q qo qe=>by
 obtain⟨m,rfl⟩:=pr hn;have hp:=P.n1;dsimp only at hp;have p1:=P.s1; have p3:=P.t;dsimp only at p1 p3;refine unf (d:=⟨4,b1138⟩) rfl rfl ?_;refine oKi (a:=W.holes.length) (len_list rfl (by lia)) ?_;generalize hi:((W.holes.length:Nat):Int)=hi0;refine⟨by lia,?_⟩;rw[u_holes];refine c_deeper (fB hn rfl) (by dsimp only; lia) ?_;refine (ihv m { W with holes:=W.holes++[o],nested:=W.nested+1 } T (by lia) ⟨P.p2,P.d,p1,by dsimp only; lia,p3,by simp; lia,P.wl⟩ w).run _ (fun r W1 T1 s1 hv1 n1 h1=>?_) (fun p W' T' j L' hs hv ht hj=>?_)
 ·have a1:=s1.s0; have a2:=s1.s1; have a3:=s1.h;dsimp only at a1 a2 h1;refine⟨of_decide_eq_true rfl,rfl,?_⟩;rw[u_nested];refine⟨by lia,by lia,by rw[h1]; simp; lia,?_⟩;rw[u_holes];have e:W1.holes.take hi0.toNat=W.holes:=by
   rw[h1,←hi]; simp
  refine qo _ _ T1 ⟨s1.rows,s1.arrays,s1.at',s1.bad,s1.p3,s1.p2,by dsimp only; lia,by dsimp only; lia,?_,s1.d⟩ hv1 rfl e;show (W1.holes.take hi0.toNat).length≤_
  rw[e]; lia
 ·have a1:=hs.s0; have a2:=hs.s1; have a3:=hs.h;dsimp only at a1 a2 a3;exact qe p W' T' j L' ⟨hs.rows,hs.arrays,hs.at',hs.bad,hs.p3,hs.p2,by lia,by lia,by simp at a3; lia,hs.d⟩ hv ht hj⟩
theorem c_assign {x:B0} {a i v:Sen} (iha:EVs l zs c a) (ihi:EVs l zs c i) (ihv:EVs l zs c v) (hn:8*(size a+size i+size v)+47≤n) (P:Pre (size a+size i+size v) { W with nested:=W.nested+10 }) (w:WFS W.things (.asg x a i v)) :
 EvC l zs n c 1303 [.ref (.f 65),.ref (.f 27),.ref (.f 80),tree (.asg x a i v)] W T (size a+size i+size v) (sem c.u c.pb (.asg x a i v) W.things):=⟨fun Q qo qe=>by
 refine kf fun kG=>?_;obtain⟨m,rfl⟩:=pr hn;refine E06 w fun w1 w2 w3 w4 w5 w6=>?_;rw[sem_asg] at qo qe;refine kG ?_; clear kG;refine unf (d:=⟨4,b1303⟩) rfl rfl ?_;refine (c_ready_target (x:=x) iha ihi (by lia) (P.go (e:=8) (.self P.p2 P.d (k:=0)) P.wl (by lia) (by lia) (by lia)) w1 w3 w4).run _ (fun pv W1 T1 s1 hv1 n1 h1=>?_) (fun p W' T' j L' hs hv ht hj=>?_)
 ·refine kf fun kG=>?_;refine E25 (spot_good (L:=W.things) P.wl w1 w2 w3 w4 hv1) fun ai zi eq2 g1 e1 l1 v1=>?_; subst eq2;rw[hv1] at qo qe;dsimp only[bindS,pA,pB,intV] at qo qe;refine kG ?_; clear kG;refine (ihv m W1 T1 (by lia) (P.go0 s1 g1 l1 (by lia) (by lia)) (w5.mono e1)).run _ (fun vv W2 T2 s2 hv2 n2 h2=>?_) (fun p W' T' j L' hs hv ht hj=>?_)
  ·refine kf fun kG=>?_;refine E04 ((sem_good c.u c.pb v W1.things g1 (w5.mono e1)).at hv2) fun g2 e2 l2 v2=>?_;rw[hv2] at qo qe;simp only at qo qe;rw[w6] at v2;refine (arr_atI (v1.mono e2)) fun _ ea _ _ ha=>?_;cases ea;refine kG ?_; clear kG;refine (c_write_target (x:=x) (a:=a) (i:=i) (fB hn rfl) (P.go (e:=2) (s1.trans s2) g2 (by lia) (by lia) (by lia)) ha v2).run _ (fun r W3 T3 s3 hv3 n3 h3=>?_) (fun p W' T' j L' hs hv ht hj=>?_)
   ·refine kf fun kG=>?_;obtain⟨_,w',hw'⟩:=noneS_ok hv3;have:=storeS_ok hw';subst this;refine kG ?_; clear kG;exact qo _ W3 T3 ((s1.trans (s2.trans s3)).le (by lia)) hw' (n3.trans (n2.trans n1)) (h3.trans (h2.trans h1))
   ·exact qe p W' T' j L' ((s1.trans (s2.trans hs)).le (by lia)) (noneS_err hv) ht hj
  ·exact qe p W' T' j L' ((s1.trans hs).le (by lia)) (by rw[hv]) ht hj
 ·exact qe p W' T' j L' (hs.le (by lia)) (by rw[hv]; rfl) ht hj⟩
theorem c_compound {x:B0} {a i v:Sen} {post:Int} (iha:EVs l zs c a) (ihi:EVs l zs c i) (ihv:EVs l zs c v) (hn:8*(size a+size i+size v)+47≤n) (P:Pre (size a+size i+size v+1) { W with nested:=W.nested+10 }) (w:WFS W.things (.comp x a i v post)) :
 EvC l zs n c 1322 [.ref (.f 67),.ref (.f 27),.ref (.f 80),tree (.comp x a i v post)] W T (size a+size i+size v+1) (sem c.u c.pb (.comp x a i v post) W.things):=⟨fun Q qo qe=>by
 refine kf fun kG=>?_;obtain⟨m,rfl⟩:=pr hn;refine E06 w fun w1 w2 w3 w4 w5 w6=>?_;rw[sem_comp] at qo qe;refine kG ?_; clear kG;refine unf (d:=⟨4,b1322⟩) rfl rfl ?_;refine (c_ready_target (x:=x) iha ihi (by lia) (P.go (e:=8) (.self P.p2 P.d (k:=0)) P.wl (by lia) (by lia) (by lia)) w1 w3 w4).run _ (fun pv W1 T1 s1 hv1 n1 h1=>?_) (fun p W' T' j L' hs hv ht hj=>?_)
 ·refine kf fun kG=>?_;refine E25 (spot_good (L:=W.things) P.wl w1 w2 w3 w4 hv1) fun ai zi eq2 g1 e1 l1 v1=>?_; subst eq2;rw[hv1] at qo qe;dsimp only[bindS,pA,pB,intV] at qo qe;refine (arr_atI v1) fun _ ea _ _ ha1=>?_;cases ea;refine kG ?_; clear kG;refine (c_read (x:=x) (a:=a) (i:=i) (fB hn rfl) (P.go0 s1 g1 l1 (by lia) (by lia)) ha1).run _ (fun old W2 T2 s2 hv2 n2 h2=>?_) (fun p W' T' j L' hs hv ht hj=>?_)
  ·refine kf fun kG=>?_;refine E04 ((elem_good (u:=c.u) (n:=zi) g1 ha1).at hv2) fun g2 e2 l2 v2=>?_;rw[hv2] at qo qe;simp only at qo qe;have q1:=P.h;have q2:=s1.h;have q3:=s2.h;dsimp only at q1;refine kG ?_; clear kG;refine (c_hole (o:=old) ihv (by lia) (P.go (e:=2) (s1.trans s2) g2 (by lia) (by lia) (by lia)) (by lia) (w5.mono (e1.trans e2))).run _ (fun vv W3 T3 s3 hv3 n3 h3=>?_) (fun p W' T' j L' hs hv ht hj=>?_)
   ·refine kf fun kG=>?_;refine E04 ((sem_good c.u c.pb v W2.things g2 (w5.mono (e1.trans e2))).at hv3) fun g3 e3 l3 v3=>?_;rw[hv3] at qo qe;simp only at qo qe;rw[w6] at v3;refine (arr_atI (v1.mono (e2.trans e3))) fun _ ea _ _ ha=>?_;cases ea;refine kG ?_; clear kG;refine (c_write_target (x:=x) (a:=a) (i:=i) (fB hn rfl) (P.go (e:=2) (s1.trans (s2.trans s3)) g3 (by lia) (by lia) (by lia)) ha v3).run _ (fun r W4 T4 s4 hv4 n4 h4=>?_) (fun p W' T' j L' hs hv ht hj=>?_)
    ·refine kf fun kG=>?_;obtain⟨_,w',hw'⟩:=noneS_ok hv4;have:=storeS_ok hw';subst this;rw[hw'] at qo;simp only at qo;have fin:=qo _ W4 T4 ((s1.trans (s2.trans (s3.trans s4))).le (by lia)) rfl (n4.trans (n3.trans (n2.trans n1))) (h4.trans (h3.trans (h2.trans h1)));refine kG ?_; clear kG;refine dI (fun h0=>?_) (fun h0=>?_)
     ·rw[if_pos h0] at fin;exact fin
     ·rw[if_neg h0] at fin;exact fin
    ·refine qe p W' T' j L' ((s1.trans (s2.trans (s3.trans hs))).le (by lia)) ?_ ht hj;rw[noneS_err hv]
   ·refine qe p W' T' j L' ((s1.trans (s2.trans hs)).le (by lia)) ?_ ht hj;rw[hv]
  ·refine qe p W' T' j L' ((s1.trans hs).le (by lia)) ?_ ht hj;refine rwE hv ?_; rfl
 ·refine qe p W' T' j L' (hs.le (by lia)) ?_ ht hj;refine rwE hv ?_;rfl⟩
end
section
variable {l:Addr} {zs:List Int} {n:Nat} {c:Cst} {W:Wd} {T:List AO}
theorem Pre.drop {k k':Nat} (P:Pre k W) (h:k'≤k):Pre k' W:=⟨P.p2,P.d,by have:=P.s1; lia,by have:=P.n1; lia,by have:=P.t; lia,by have:=P.h; lia,P.wl⟩
theorem c_box_ref (hn:12≤n) {nm:Nm} {v:AV} {Q:Post} (hr:refers nm=true) (q:Q (.ok v) (mk c W T)):wpF (sta l zs) funs n 1084 [.ref (.f 27),.int (nmK nm),v] Q (mk c W T):=by
 refine prC hn rfl fun m hn=>?_;refine unf (d:=⟨3,b1084⟩) rfl rfl ?_;refine (k_valueB (fB hn rfl) hr).ok ?_;exact q
theorem cv_cast (hn:30≤n) {nm:Nm} {i:Int} {chk:AV} {b:Bool} (P:Pre 0 W) (hi:i≠0→∃t,thI W.things i=some t) :
 EvC l zs n c 1376 [.ref (.f 27),.int (nmK (.s .o)),.int (nmK nm),.int (bif b then 3 else 5),chk,.int i] W T 0 (fromS c.u c.pb nm i W.things):=⟨fun Q qo qe=>by
 refine prC hn rfl fun m hn=>?_;refine unf (d:=⟨6,b1376⟩) rfl rfl ?_;cases b
 all_goals
  refine c_box_ref (nm:=.s .o) (fB hn rfl) rfl ?_;exact (c_from (fB hn rfl) P hi).run _ qo qe⟩
theorem cv_box (hn:30≤n) {nm am:Nm} {v chk:AV} (P:Pre 1 W) (hv:Val W.things nm v) (hr:refers nm=false) :
 EvC l zs n c 1376 [.ref (.f 27),.int (nmK nm),.int (nmK am),.int 4,chk,v] W T 0 (boxS nm v W.things):=⟨fun Q qo qe=>by
 refine prC hn rfl fun m hn=>?_;have e:boxV nm v W.things=boxS nm v W.things:=by rw[boxV,hr]; rfl
 rw[←e] at qo qe;refine unf (d:=⟨6,b1376⟩) rfl rfl ?_;exact (c_box (fB hn rfl) P hv).run _ qo qe⟩
theorem cv_wrap (hn:30≤n) {nm am:Nm} {v chk:AV} (P:Pre 0 W) :
 EvC l zs n c 1376 [.ref (.f 27),.int (nmK nm),.int (nmK am),.int 6,chk,v] W T 0 (.ok (.tup [.int 1,v]),W.things):=⟨fun Q qo qe=>by
 refine prC hn rfl fun m hn=>?_;refine unf (d:=⟨6,b1376⟩) rfl rfl ?_;exact qo _ W T (.self P.p2 P.d) rfl rfl rfl⟩
theorem cv_value (hn:30≤n) {nm am:Nm} {v chk:AV} (P:Pre 0 W) (hq:isQ nm=true) (hv:Val W.things nm v) :
 EvC l zs n c 1376 [.ref (.f 27),.int (nmK nm),.int (nmK am),.int 7,chk,v] W T 0 (if fstV v=0 then (.err 5,W.things) else (.ok (sndV v),W.things)):=⟨fun Q qo qe=>by
 refine prC hn rfl fun m hn=>?_;refine unf (d:=⟨6,b1376⟩) rfl rfl ?_;exact (c_within (by lia) P hq hv).run _ qo qe⟩
theorem cv_num (hn:30≤n) {nm:Nm} {x:B0} {z chk:Int} (P:Pre 0 W) (hx:isI x=true) :
 EvC l zs n c 1376 [.ref (.f 27),.int (nmK nm),.int (nmK (.s x)),.int 1,.int chk,.int z] W T 0 (numS c.u x chk (.int z) W.things):=⟨fun Q qo qe=>by
 refine prC hn rfl fun m hn=>?_;refine unf (d:=⟨6,b1376⟩) rfl rfl ?_;exact (c_number (fB hn rfl) P hx).run _ qo qe⟩
theorem c_conv {s:Sen} {nm:Nm} {cv:Int} {chk:AV} {f:AV→List Th→SZ} (ih:EVs l zs c s) (hn:8*size s+46≤n) (P:Pre (size s+1) { W with nested:=W.nested+10 }) (w:WFS W.things s) (h8:cv≠8) (h9:cv≠9)
 (hk:∀m W1 T1 v,8*size s+45≤m→Pre 1 W1→Val W1.things (nmOf s) v→EvC l zs m c 1376 [.ref (.f 27),.int (nmK (nmOf s)),.int (nmK nm),.int cv,chk,v] W1 T1 0 (f v W1.things)) :
 EvC l zs n c 1390 [.ref (.f 74),.ref (.f 27),.ref (.f 80),.tup [.int 19,.int (nmK nm),tree s,.int cv,chk]] W T (size s) (bindS (sem c.u c.pb s W.things) f):=⟨fun Q qo qe=>by
 refine prC hn rfl fun m hn=>?_;refine unf (d:=⟨4,b1390⟩) rfl rfl ?_;refine (k_in (fB hn rfl) nm).ok ?_;refine dF h8 ?_;refine (ih m W T (by lia) (P.go0 (.self P.p2 P.d (k:=0)) P.wl (by lia) (by lia) (by lia)) w).run _ (fun v W1 T1 s1 hv1 n1 h1=>?_) (fun p W' T' j L' hs hv ht hj=>?_)
 ·refine E04 ((sem_good (L:=W.things) c.u c.pb s P.wl w).at hv1) fun g1 e1 l1 v1=>?_;rw[hv1] at qo qe;dsimp only[bindS] at qo qe;refine oKi (tree_1 s _) ?_;refine (k_in (fB hn rfl) (nmOf s)).ok ?_;refine dNI (fun _=>?_) (fun h=>absurd h h9);refine (hk m W1 T1 v (by lia) (P.go0 s1 g1 l1 (by lia) (by lia)) v1).run _ (fun r W2 T2 s2 hv2 n2 h2=>?_) (fun p W' T' j L' hs hv ht hj=>?_)
  ·exact qo r W2 T2 (s1.trans s2) hv2 (n2.trans n1) (h2.trans h1)
  ·exact qe p W' T' j L' (s1.trans hs) hv ht hj
 ·exact qe p W' T' j L' hs (by rw[hv]; rfl) ht hj⟩
theorem c_held {nm:Nm} {v:AV} (hn:1≤n) (P:Pre 0 W):EvC l zs n c 1126 [.ref (.f 57),.ref (.f 27),.ref (.f 80),tree (.held nm v)] W T 0 (sem c.u c.pb (.held nm v) W.things):=⟨fun Q qo qe=>by
 refine prC hn rfl fun m hn=>?_;refine unf (d:=⟨4,b1126⟩) rfl rfl ?_;exact qo _ W T (.self P.p2 P.d) rfl rfl rfl⟩
theorem Pre.node {k k':Nat} (P:Pre k W) (h:k'+1≤k):Pre k' { W with steps:=W.steps+1,nested:=W.nested+2+10 }:=by
 have h1:=P.s1; have h2:=P.n1; have h3:=P.t; have h4:=P.h;exact⟨P.p2,P.d,by dsimp only; lia,by dsimp only; lia,by dsimp only; lia,by dsimp only; lia,P.wl⟩
theorem Pre.node0 {k k':Nat} (P:Pre k W) (h:k'+1≤k):Pre k' { W with steps:=W.steps+1,nested:=W.nested+2 }:=by
 have h1:=P.s1; have h2:=P.n1; have h3:=P.t; have h4:=P.h;exact⟨P.p2,P.d,by dsimp only; lia,by dsimp only; lia,by dsimp only; lia,by dsimp only; lia,P.wl⟩
theorem EvC.le {f:Addr} {vs:List AV} {k k':Nat} {r:SZ} (h:EvC l zs n c f vs W T k r) (hk:k≤k'):EvC l zs n c f vs W T k' r :=
 ⟨fun Q qo qe=>h.run Q (fun v W' T' s=>qo v W' T' (s.le hk)) fun p W' T' i L' s=>qe p W' T' i L' (s.le hk)⟩
theorem val_o {L:List Th} {v:AV} (hv:Val L (.s .o) v):∃i:Int,v = .int i∧(i≠0→∃t,thI L i=some t):=by
 refine (val_refI (nm:=.s .o) rfl hv) fun i eq1 h0 h1 _=>?_; subst eq1;exact⟨i,rfl,fun h=>thI_some h h0 h1⟩
theorem ev_ok:∀s:Sen,EVs l zs c s
 |.held nm v=>fun n W T hn P w=>by
  dsimp only[size] at hn P;exact c_eval (by lia) P (x:=90) (h:=57) (f:=1126) (fun _=>rfl) rfl (fun _ _=>rfl) (c_held (by lia) (P.node0 (by lia)))
 |.elem x a i=>fun n W T hn P w=>by
  dsimp only[size] at hn P;exact c_eval (by lia) (P.drop (by lia)) (x:=6) (h:=59) (f:=1173) (fun _=>rfl) rfl (fun _ _=>rfl) (c_elem (W:={ W with steps:=W.steps+1,nested:=W.nested+2 }) (ev_ok a) (ev_ok i) (by lia) (P.node (by lia)) w)
 |.asg x a i v=>fun n W T hn P w=>by
  dsimp only[size] at hn P;exact c_eval (by lia) (P.drop (by lia)) (x:=22) (h:=65) (f:=1303) (fun _=>rfl) rfl (fun _ _=>rfl) (c_assign (W:={ W with steps:=W.steps+1,nested:=W.nested+2 }) (ev_ok a) (ev_ok i) (ev_ok v) (by lia) (P.node (by lia)) w)
 |.comp x a i v post=>fun n W T hn P w=>by
  dsimp only[size] at hn P;exact c_eval (by lia) (P.drop (by lia)) (x:=23) (h:=67) (f:=1322) (fun _=>rfl) rfl (fun _ _=>rfl) (c_compound (W:={ W with steps:=W.steps+1,nested:=W.nested+2 }) (ev_ok a) (ev_ok i) (ev_ok v) (by lia) (P.node (by lia)) w)
 |.len a=>fun n W T hn P w=>by
  dsimp only[size] at hn P;exact c_eval (by lia) (P.drop (by lia)) (x:=7) (h:=61) (f:=1251) (fun _=>rfl) rfl (fun _ _=>rfl) (c_len (W:={ W with steps:=W.steps+1,nested:=W.nested+2 }) (ev_ok a) (by lia) (P.node (by lia)) w)
 |.new x i=>fun n W T hn P w=>by
  dsimp only[size] at hn P;exact (c_eval (by lia) (P.drop (by lia)) (x:=10) (h:=63) (f:=1270) (fun _=>rfl) rfl (fun _ _=>rfl) (c_new (W:={ W with steps:=W.steps+1,nested:=W.nested+2 }) (ev_ok i) (by lia) (P.node (by lia)) w)).le (Nat.le_succ _)
 |.cast nm s=>fun n W T hn P w=>by
  dsimp only[size] at hn P;refine (c_eval (by lia) (P.drop (by lia)) (x:=19) (h:=74) (f:=1390) (fun _=>rfl) rfl (fun _ _=>rfl) (c_conv (W:={ W with steps:=W.steps+1,nested:=W.nested+2 }) (f:=fun v L=>fromS c.u c.pb nm (intV v) L) (ev_ok s) (by lia) (P.node (by lia)) w.1 (by cases refers nm<;>decide) (by cases refers nm<;>decide) fun m W1 T1 v hm P1 hv=>?_)).le (Nat.le_succ _);rw[w.2] at hv ⊢;refine E12 (val_o hv) fun i eq1 hi=>?_; subst eq1;exact cv_cast (by lia) (P1.drop (by lia)) hi
 |.box s=>fun n W T hn P w=>by
  dsimp only[size] at hn P;refine (c_eval (by lia) (P.drop (by lia)) (x:=19) (h:=74) (f:=1390) (fun _=>rfl) rfl (fun _ _=>rfl) (c_conv (W:={ W with steps:=W.steps+1,nested:=W.nested+2 }) (nm:=.s .o) (f:=fun v L=>boxS (nmOf s) v L) (ev_ok s) (by lia) (P.node (by lia)) w.1 (by decide) (by decide) fun m W1 T1 v hm P1 hv=>?_)).le (Nat.le_succ _);refine cv_box (by lia) P1 hv ?_;rcases w.2 with⟨x,e,hx⟩|hq
  ·rw[e]; cases x<;>first|rfl|cases hx
  ·exact isQ_refers hq
 |.wrap nm s=>fun n W T hn P w=>by
  dsimp only[size] at hn P;exact (c_eval (by lia) (P.drop (by lia)) (x:=19) (h:=74) (f:=1390) (fun _=>rfl) rfl (fun _ _=>rfl) (c_conv (W:={ W with steps:=W.steps+1,nested:=W.nested+2 }) (nm:=nm) (f:=fun v L=>(.ok (.tup [.int 1,v]),L)) (ev_ok s) (by lia) (P.node (by lia)) w.1 (by decide) (by decide) fun m W1 T1 v hm P1 hv =>
   cv_wrap (by lia) (P1.drop (by lia)))).le (Nat.le_succ _)
 |.value nm s=>fun n W T hn P w=>by
  dsimp only[size] at hn P;exact (c_eval (by lia) (P.drop (by lia)) (x:=19) (h:=74) (f:=1390) (fun _=>rfl) rfl (fun _ _=>rfl) (c_conv (W:={ W with steps:=W.steps+1,nested:=W.nested+2 }) (nm:=nm) (f:=fun v L=>if fstV v=0 then (.err 5,L) else (.ok (sndV v),L)) (ev_ok s) (by lia) (P.node (by lia)) w.1 (by decide) (by decide) fun m W1 T1 v hm P1 hv =>
   cv_value (by lia) (P1.drop (by lia)) w.2.1 hv)).le (Nat.le_succ _)
 |.num x s chk=>fun n W T hn P w=>by
  dsimp only[size] at hn P;refine (c_eval (by lia) (P.drop (by lia)) (x:=19) (h:=74) (f:=1390) (fun _=>rfl) rfl (fun _ _=>rfl) (c_conv (W:={ W with steps:=W.steps+1,nested:=W.nested+2 }) (nm:=.s x) (f:=fun v L=>numS c.u x chk v L) (ev_ok s) (by lia) (P.node (by lia)) w.1 (by decide) (by decide) fun m W1 T1 v hm P1 hv=>?_)).le (Nat.le_succ _);obtain⟨z,rfl⟩:=val_int w.2.2 hv;exact cv_num (by lia) (P1.drop (by lia)) w.2.1
end
section
variable {l:Addr} {zs:List Int} {n:Nat} {c:Cst} {W:Wd} {T:List AO}
noncomputable def unfit (L:List Th) (x:B0) (call a:Int):Bool:=decide (call=0)&&refers (.s x)&&(match thI L a with|some t=>!decide (nmK (.s (elemT t))=nmK (.s x))|none=>false)
noncomputable def fitS (x:B0) (call:Int) (a:Int) (v:AV) (L:List Th):SZ:=bif unfit L x call a then (.err 4,L) else (.ok v,L)
noncomputable def placeM (u:U4) (pb:Bool) (x:B0) (a i:Sen) (call:Int) (L:List Th):SZ :=
 bindS (spotS u pb a i L) fun p L=>bindS (placeS L (pA p) (pB p)) fun v L=>fitS x call (pA p) v L
theorem c_at {x:B0} {a i:Sen} {call:Int} {rl:AV} (hn:8*(size a+size i)+50≤n) (P:Pre (size a+size i) { W with nested:=W.nested+10 }) (w1:WFS W.things a) (w2:nmOf a = .arr x) (w3:WFS W.things i) (w4:idxN (nmOf i)=true) :
 EvC l zs n c 1192 [rl,.ref (.f 27),.ref (.f 80),spotV x a i,.int call] W T (size a+size i) (placeM c.u c.pb x a i call W.things):=⟨fun Q qo qe=>by
 obtain⟨m,rfl⟩:=pr hn;have hP:=P.t;dsimp only at hP;refine unf (d:=⟨5,b1192⟩) rfl rfl ?_;refine (ev_ok a m W T (by lia) (P.go0 (.self P.p2 P.d (k:=0)) P.wl (by lia) (by lia) (by lia)) w1).run _ (fun va W1 T1 s1 hv1 n1 h1=>?_) (fun p W' T' j L' hs hv ht hj=>?_)
 ·refine E04 ((sem_good (L:=W.things) c.u c.pb a P.wl w1).at hv1) fun g1 e1 l1 v1=>?_;refine (c_index (ev_ok i) (by lia) (P.go (e:=1) s1 g1 l1 (by lia) (by lia)) (w3.mono e1) w4).run _ (fun vi W2 T2 s2 hv2 n2 h2=>?_) (fun p W' T' j L' hs hv ht hj=>?_)
  ·refine E04 ((idx_good (u:=c.u) (pb:=c.pb) g1 (w3.mono e1)).at hv2) fun g2 e2 l2 v2=>?_;rw[w2] at v1;refine (arr_atI (v1.mono e2)) fun ai eq1 _ _ ha=>?_; subst eq1;obtain⟨zi,rfl⟩:=val_int (isN_idx w4) v2;have hsp:spotS c.u c.pb a i W.things=(.ok (.tup [.int ai,.int zi]),W2.things):=(bO hv1).trans (bO hv2);have hsem:placeM c.u c.pb x a i call W.things=bindS (placeS W2.things ai zi) fun v L=>fitS x call ai v L:=by rw[placeM,hsp]; rfl
   rw[hsem] at qo qe;refine (c_place (fB hn rfl) (P.go0 (s1.trans s2) g2 (by lia) (by lia) (by lia)) fun h=>by obtain⟨t,y,h,_⟩:=ha h; exact⟨t,h⟩).run _ (fun v W3 T3 s3 hv3 n3 h3=>?_) (fun p W' T' j L' hs hv ht hj=>?_)
   ·refine E03 (placeS_ok hv3) fun hl eq1 hL=>?_; subst eq1;rw[hv3] at qo qe;dsimp only[bindS] at qo qe;refine E23 (ha (look_none hl).1) fun t y ht hnm hc=>?_;have ht':thI W3.things ai=some t:=by rw[hL]; exact ht
    have hle:W3.things.length≤89000:=by rw[hL]; lia
    refine (thI_atI ht') fun _ hj _=>?_;have hes:elemT t=y:=by unfold elemT; rw[hnm]
    have st:Same (size a+size i) W W3:=(s1.trans (s2.trans s3)).le (by lia);have fin:unfit W3.things x call ai=false→Q (.ok (placeV ai zi)) (mk c W3 T3):=fun hb =>
     qo _ W3 T3 st (by rw[fitS,hb]; rfl) (n3.trans (n2.trans n1)) (h3.trans (h2.trans h1))
    have bad:unfit W3.things x call ai=true→∀j:Int,j=(W3.things.length:Int)+1→Q (.exc (.int j)) (mk c { W3 with things:=W3.things++errL c 4 W3.things.length } T3):=fun hb j hj =>
     qe 4 _ T3 j W3.things ⟨st.rows,st.arrays,st.at',st.bad,st.p3,st.p2,st.s0,st.s1,st.h,st.d⟩ (by rw[fitS,hb]; rfl) rfl hj
    have hu:unfit W3.things x call ai=(decide (call=0)&&refers (.s x)&&!decide (nmK (.s y)=nmK (.s x))):=by
     rw[unfit,ht']; simp only[hes]
    rw[hu] at fin bad;refine oKi (tree_1 a _) ?_;rw[w2];refine (k_elem (fB hn rfl) x).ok ?_;refine (k_in (fB hn rfl) (.s x)).ok ?_;refine dNI (fun h0=>?_) (fun h0=>?_)
    ·replace h0:¬call≠0:=h0;have h0':call=0:=by lia
     refine (k_value (fB hn rfl) (.s x)).ok ?_;cases hr:refers (.s x)
     ·conv=>whnf
      exact fin (by simp[hr])
     ·conv=>whnf
      refine oKi (th_getI ht' (by lia)) ?_;refine oKi (g_kind hj) ?_;rw[hnm];refine (k_elem (fB hn rfl) y).ok ?_;refine dNI (fun h4=>?_) (fun h4=>?_)
      ·replace h4:¬nmK (.s y)=nmK (.s x):=h4;exact c_throw (fB hn rfl) 4 st.p2 (by lia) (bad (by simp[h0',hr,h4]))
      ·replace h4:nmK (.s y)=nmK (.s x):=h4;exact fin (by simp[h4])
    ·replace h0:call≠0:=h0;exact fin (by simp[h0])
   ·refine qe p W' T' j L' ((s1.trans (s2.trans hs)).le (by lia)) ?_ ht hj;rw[hv]; rfl
  ·refine qe p W' T' j L' (s1.trans hs) ?_ ht hj;exact bE ((bO hv1).trans (bE hv))
 ·refine qe p W' T' j L' (hs.le (by lia)) ?_ ht hj;exact bE (bE hv)⟩
theorem c_eval_place {x:B0} {a i:Sen} {call:Int} (hn:8*(size a+size i)+52≤n) (P:Pre (size a+size i) { W with nested:=W.nested+12 }) (w1:WFS W.things a) (w2:nmOf a = .arr x) (w3:WFS W.things i) (w4:idxN (nmOf i)=true) :
 EvC l zs n c 773 [.ref (.f 27),.ref (.f 80),spotV x a i,.int call] W T (size a+size i) (placeM c.u c.pb x a i call W.things):=⟨fun Q qo qe=>by
 obtain⟨m,rfl⟩:=pr hn;have hp:=P.n1;dsimp only at hp;refine unf (d:=⟨4,b773⟩) rfl rfl ?_;refine c_deeper (fB hn rfl) (by lia) ?_;refine (c_at (x:=x) (W:={ W with nested:=W.nested+2 }) (by lia) (P.go (W:=W) (W':={ W with nested:=W.nested+2 }) (e:=10) (j:=0) (Same.nest' (.self P.p2 P.d)) P.wl (by dsimp only; lia) (by dsimp only; lia) (by lia)) w1 w2 w3 w4).run _ (fun v W1 T1 s1 hv1 n1 h1=>?_) (fun p W' T' j L' hs hv ht hj=>?_)
 ·conv=>whnf
  refine⟨of_decide_eq_true rfl,rfl,?_⟩;rw[u_nested];exact qo _ _ T1 (Same.nest' s1.nest) hv1 rfl h1
 ·exact qe p W' T' j L' hs.nest hv ht hj⟩
end
noncomputable def isArr:Nm→Bool
 |.arr _=>true
 |_=>false
noncomputable def tail2 (nm:Nm):List Nat:=(nmT nm).drop ((nmT nm).length - 2)
theorem tail2_arr (nm:Nm):decide (tail2 nm=[91,93])=isArr nm:=by
 revert nm; apply nm_all<;>decide
theorem nmT_len (nm:Nm):(nmT nm).length≤10:=by
 revert nm; apply nm_all<;>decide
theorem rowL0_succ (M:List Th) (t:Th):rowL0 (M++[t])=rowL0 M++[rowV M.length t]:=by simp[rowL0,List.mapIdx_append]
theorem rowL0_len (M:List Th):(rowL0 M).length=M.length+1:=by simp[rowL0]
section
variable {l:Addr} {zs:List Int} {Q:Post} {n:Nat} {c:Cst} {W:Wd} {T:List AO}
theorem cut_tail (S:Stat) (H:AH) (nm:Nm):cutA S H (.str (nmT nm)) (.int (-2)) .none=some (.v (.str (tail2 nm))):=by
 have h:=nmT_len nm;have e:(((nmT nm).length:Int)+-2).toNat=(nmT nm).length - 2:=by lia
 have hc:cutL (nmT nm) (.int (-2)) .none=some (tail2 nm):=by
  show some (((nmT nm).take (nmT nm).length).drop (if (-2:Int)<0 then (((nmT nm).length:Int)+-2).toNat else _))=_
  rw[if_pos (by decide),e,List.take_length]; rfl
 show (if (nmT nm).length≤1000000 then (cutL (nmT nm) (.int (-2)) .none).map fun r=>Got1.v (.str r) else none)=_
 rw[if_pos (by lia),hc]; rfl
theorem len_rows (h:W.rows.length≤90000):lenA (sta l zs) (mk c W T) (.ref (.f 87))=some (W.rows.length+1):=by
 show (if (rowL0 W.rows).length≤1000000 then some (rowL0 W.rows).length else none)=_
 refine rwE (rowL0_len ..) ?_; refine rwE (if_pos (by lia) ..) ?_; rfl
theorem row_get {i:Int} {t:Th} (ht:thI W.rows i=some t) (hl:W.rows.length≤90000):getI (sta l zs) (mk c W T) (.ref (.f 87)) (.int i)=some (.tup [.str (nmT t.nm),.ref (.r 3 (i - 1).toNat),textV t.text]):=by
 refine (thI_atI ht) fun h0 hj h1=>?_;show nth (rowL0 W.rows) i=_
 unfold nth;rw[if_pos (by lia)];obtain⟨j,rfl⟩:∃j:Nat,i=(j:Int)+1:=⟨(i - 1).toNat,by lia⟩;have e1:((j:Int)+1).toNat=j+1:=by lia
 have e2:((j:Int)+1 - 1).toNat=j:=by lia
 rw[e2] at hj ⊢;rw[e1];simp[rowL0,List.getElem?_cons_succ,List.getElem?_mapIdx,hj,rowV]
theorem u_row {nm:Nm} {sl:List AV} {tx:Option (List Nat)} (hp:W.pend3=some sl):upd (mk c W T) (.f 87) (.list (rowL0 W.rows++[.tup [.str (nmT nm),.ref (.r 3 W.rows.length),textV tx]]))=mk c { W with rows:=W.rows++[⟨nm,sl,tx⟩],pend3:=none } T:=by
 have hf:∀k,k≠87→(fix c { W with rows:=W.rows++[⟨nm,sl,tx⟩],pend3:=none })[k]? = (fix c W)[k]?:=by
  intro k hk;have:fix c { W with rows:=W.rows++[⟨nm,sl,tx⟩],pend3:=none } = (fix c W).set 87 (.list (rowL0 (W.rows++[⟨nm,sl,tx⟩]))):=rfl;refine rwE this ?_; refine rwE (List.getElem?_set_ne (Ne.symm hk)) ?_; rfl
 funext a
 induction a using AA.casesOn with
 |f k =>
  by_cases hk:k=87
  ·subst hk;refine rwE upd_same ?_;show _=some (AO.list (rowL0 (W.rows++[⟨nm,sl,tx⟩])))
   rw[rowL0_succ]; rfl
  ·refine rwE (upd_ne (by simpa using hk)) ?_;exact (hf k hk).symm
 |t k=>(refine rwE (upd_ne (by simp)) ?_); rfl
 |r k j =>
  refine rwE (upd_ne (by simp)) ?_;match k with
  |0=>simp[mkR0]
  |1=>simp[mkR1]
  |2=>simp[mkR2]
  |3=>simp[mkR3,hp]
  |_+4=>rfl
theorem u_rslots {j:Nat} {t:Th} {s:List AV} (h:W.rows[j]? = some t):upd (mk c W T) (.r 3 j) (.list s)=mk c { W with rows:=W.rows.set j { t with slots:=s } } T:=by
 have hj:=lt_of_some h;have hr:rowL0 (W.rows.set j { t with slots:=s })=rowL0 W.rows:=by
  dsimp only[rowL0];congr 1
  apply List.ext_getElem?
  intro i;rw[List.getElem?_mapIdx,List.getElem?_mapIdx];by_cases e:j=i
  ·subst e; rw[List.getElem?_set_self hj,h]; rfl
  ·refine rwE (List.getElem?_set_ne e) ?_; rfl
 have hf:fix c { W with rows:=W.rows.set j { t with slots:=s } } = fix c W:=by
  have:fix c { W with rows:=W.rows.set j { t with slots:=s } } = (fix c W).set 87 (.list (rowL0 (W.rows.set j { t with slots:=s }))):=rfl;rw[this,hr]; rfl
 funext a
 induction a using AA.casesOn with
 |f k=>(refine rwE (upd_ne (by simp)) ?_); simp only[mkF,hf]
 |t k=>(refine rwE (upd_ne (by simp)) ?_); rfl
 |r k i =>
  match k with
  |0=>(refine rwE (upd_ne (by simp)) ?_); rfl
  |1=>(refine rwE (upd_ne (by simp)) ?_); rfl
  |2=>(refine rwE (upd_ne (by simp)) ?_); rfl
  |3 =>
   by_cases e:i=j
   ·subst e; refine rwE upd_same ?_; simp[mkR3,hj,List.getElem?_append]
   ·refine rwE (upd_ne (by simpa using e)) ?_;simp only[mkR3,List.getElem?_append,List.length_map,List.length_set,List.getElem?_map];rw[List.getElem?_set_ne (Ne.symm e)]
  |_+4=>(refine rwE (upd_ne (by simp)) ?_); rfl
theorem c_add (hn:1≤n) {nm:Nm} {sl:List AV} {tx:Option (List Nat)} (hp:W.pend3=some sl) (hl:W.rows.length≤89900) (ha:W.arrays.length≤W.rows.length)
 (q:∀i:Int,i=(W.rows.length:Int)+1→Q (.ok (.int i)) (mk c { W with rows:=W.rows++[⟨nm,sl,tx⟩],pend3:=none,arrays:=bif isArr nm then W.arrays++[(W.rows.length:Int)+1] else W.arrays } T)) :
 wpF (sta l zs) funs n 1485 [.ref (.f 90),.str (nmT nm),.ref (.r 3 W.rows.length),textV tx] Q (mk c W T):=by
 refine prC hn rfl fun m hn=>?_;refine unf (d:=⟨4,b1485⟩) rfl rfl ?_;refine⟨by refine rwE (rowL0_len ..) ?_; lia,?_⟩;refine rwE (u_row hp) ?_;conv=>whnf
 refine rwE (cut_tail ..) ?_;have ht:=tail2_arr nm;have hlen:({ W with rows:=W.rows++[⟨nm,sl,tx⟩],pend3:=none }:Wd).rows.length=W.rows.length+1:=by simp
 refine bI (fun h=>?_) (fun h=>?_)
 ·replace h:decide (tail2 nm=[91,93])=true:=h;have hi:isArr nm=true:=ht.symm.trans h;rw[hi] at q;refine oKi (len_rows (by refine rwE hlen ?_; lia)) ?_;refine rwE hlen ?_;generalize hk:((W.rows.length+1+1:Nat):Int)=k;refine⟨by simp; lia,?_⟩;refine rwE u_arrays ?_;refine oKi (len_rows (by dsimp only; simp; lia)) ?_;refine rwE (show ({ W with rows:=W.rows++[⟨nm,sl,tx⟩],pend3:=none,arrays:=W.arrays++[k - 1] }:Wd).rows.length=W.rows.length+1 by simp) ?_;generalize hk2:((W.rows.length+1+1:Nat):Int)=k2;have e:k - 1=(W.rows.length:Int)+1:=by lia
  have e2:k2 - 1=(W.rows.length:Int)+1:=by lia
  have:=q _ e2;rw[←e] at this;exact this
 ·replace h:decide (tail2 nm=[91,93])=false:=h;have hi:isArr nm=false:=ht.symm.trans h;rw[hi] at q;refine oKi (len_rows (by refine rwE hlen ?_; lia)) ?_;refine rwE hlen ?_;generalize hk2:((W.rows.length+1+1:Nat):Int)=k2;have e2:k2 - 1=(W.rows.length:Int)+1:=by lia
  exact q _ e2
end
structure AOk (M:List Th) (A:List Int):Prop where
 len:A.length≤M.length
 ok:∀i∈A,∃t y,thI M i=some t∧t.nm = .arr y
theorem AOk.mono {M M':List Th} {A:List Int} (e:ThE M M') (h:AOk M A):AOk M' A:=⟨Nat.le_trans h.len e.1,fun i hi=>by
 refine E22 (h.ok i hi) fun t y ht hn=>?_;refine (thI_monoI e ht) fun t' ht' hn' _=>?_;exact⟨t',y,ht',hn'.trans hn⟩⟩
theorem thI_last (M:List Th) (t:Th):thI (M++[t]) ((M.length:Int)+1)=some t:=by
 dsimp only[thI];rw[if_pos (by lia)];have:((M.length:Int)+1 - 1).toNat=M.length:=by lia
 refine rwE this ?_; simp
theorem AOk.app {M:List Th} {A:List Int} (h:AOk M A) (t:Th):AOk (M++[t]) (bif isArr t.nm then A++[(M.length:Int)+1] else A):=by
 have h1:=h.mono (ThE.app M [t]);cases e:isArr t.nm
 ·exact h1
 ·refine⟨by simp; exact h.len,fun i hi=>?_⟩;rcases List.mem_append.mp hi with h2|h2
  ·exact h1.ok i h2
  ·simp at h2; subst h2
   refine⟨t,?_⟩;have:∃y,t.nm = .arr y:=by
    revert e; generalize t.nm=nm; intro e;cases nm<;>first|exact⟨_,rfl⟩|cases e
   obtain⟨y,hy⟩:=this;exact⟨y,thI_last M t,hy⟩
structure Lm (W W':Wd):Prop where
 things:W'.things=W.things
 at':W'.at'=W.at'
 steps:W'.steps=W.steps
 nested:W'.nested=W.nested
 holes:W'.holes=W.holes
 defaults:W'.defaults=W.defaults
 p2:W'.pend2=W.pend2
 p3:W'.pend3=none
 a:AOk W'.rows W'.arrays
theorem Lm.trans {W W1 W2:Wd} (x:Lm W W1) (y:Lm W1 W2):Lm W W2:=⟨y.things.trans x.things,y.at'.trans x.at',y.steps.trans x.steps,y.nested.trans x.nested,y.holes.trans x.holes,y.defaults.trans x.defaults,y.p2.trans x.p2,y.p3,y.a⟩
structure LPre (k:Nat) (W:Wd):Prop where
 bad:W.bad=[]
 p3:W.pend3=none
 a:AOk W.rows W.arrays
 t:W.rows.length+3*k≤89000
 wl:WL W.rows
theorem LPre.self {k:Nat} {W:Wd} (P:LPre k W):Lm W W:=⟨rfl,rfl,rfl,rfl,rfl,rfl,rfl,P.p3,P.a⟩
theorem LPre.go {k j k':Nat} {W W':Wd} (P:LPre k W) (s:Lm W W') (hb:W'.bad=[]) (hw:WL W'.rows) (hl:W'.rows.length≤W.rows.length+j) (h:j+k'≤k):LPre k' W':=⟨hb,s.p3,s.a,by have:=P.t; lia,hw⟩
def LO (Q:Post) (c:Cst) (W:Wd) (r:SZ):Prop:=∀v W' T',Lm W W'→W'.bad=[]→r=(.ok v,W'.rows)→Q (.ok v) (mk c W' T')
def LE (Q:Post) (c:Cst) (W:Wd) (r:SZ):Prop:=∀p v W' T',Lm W W'→W'.bad=errS p→r=(.err p,W'.rows)→Q (.ok v) (mk c W' T')
structure LwC (l:Addr) (zs:List Int) (n:Nat) (c:Cst) (f:Addr) (vs:List AV) (W:Wd) (T:List AO) (r:SZ):Prop where
 run:∀Q:Post,LO Q c W r→LE Q c W r→wpF (sta l zs) funs n f vs Q (mk c W T)
section
variable {l:Addr} {zs:List Int} {Q:Post} {n:Nat} {c:Cst} {W:Wd} {T:List AO}
theorem c_stop (hn:1≤n) {s:List Nat} (q:Q (.ok (.int 0)) (mk c { W with bad:=s } T)):wpF (sta l zs) funs n 1527 [.ref (.f 90),.str s] Q (mk c W T):=by
 refine prC hn rfl fun m hn=>?_;refine unf (d:=⟨2,b1527⟩) rfl rfl ?_;refine⟨of_decide_eq_true rfl,?_⟩;refine rwE u_bad ?_;exact q
theorem stopped {r:SZ} {p:Fin 7} {v:AV} {k:Nat} (P:LPre k W) (hr:r=(.err p,W.rows)) (qe:LE Q c W r):Q (.ok v) (mk c { W with bad:=errS p } T) :=
 qe p v _ T ⟨rfl,rfl,rfl,rfl,rfl,rfl,rfl,P.p3,P.a⟩ rfl hr
theorem str_dec (a b:List Nat):decide (a=b)=decide (a=b):=rfl
theorem nmT_inj {a b:Nm} (h:nmT a=nmT b):a=b:=by
 have hk:∀nm:Nm,allN.find? (fun x=>decide (nmT x=nmT nm))=some nm:=by
  apply nm_all (P:=fun nm=>allN.find? (fun x=>decide (nmT x=nmT nm))=some nm)<;>kernel_rfl
 have h1:=hk a;rw[h,hk b] at h1;injection h1 with h1
 exact h1.symm
noncomputable def goesT (pb:Bool) (a b:List Nat):Bool:=decide (a=b)||decide (b=[111])||(lk (pairTd pb) [.s a,.s b]).isSome
theorem goesT_all:(allN.all fun a=>allN.all fun b=>(goesT true (nmT a) (nmT b)==goesN true a b)&&(goesT false (nmT a) (nmT b)==goesN false a b))=true:=by kernel_rfl
theorem goesT_eq (pb:Bool) (a b:Nm):goesT pb (nmT a) (nmT b)=goesN pb a b:=by
 have:=List.all_eq_true.mp (List.all_eq_true.mp goesT_all a (mem_allN a)) b (mem_allN b);simp only[Bool.and_eq_true,beq_iff_eq] at this;cases pb
 ·exact this.2
 ·exact this.1
theorem l_goes (hn:1≤n) {i:Int} {t:Th} {nm:Nm} (ht:thI W.rows i=some t) (hl:W.rows.length≤90000) (q:Q (.ok (.bool (goesN c.pb t.nm nm))) (mk c W T)):wpF (sta l zs) funs n 1520 [.ref (.f 90),.int i,.str (nmT nm)] Q (mk c W T):=by
 refine prC hn rfl fun m hn=>?_;rw[←goesT_eq] at q;refine unf (d:=⟨3,b1520⟩) rfl rfl ?_;refine oKi (row_get ht hl) ?_;refine bP (fun h=>?_) (fun h=>?_)
 ·replace h:decide (nmT t.nm=nmT nm)=true:=h;have:goesT c.pb (nmT t.nm) (nmT nm)=decide (nmT t.nm=nmT nm):=by rw[goesT,h]; rfl
  rw[this] at q; exact q
 ·replace h:decide (nmT t.nm=nmT nm)=false:=h;refine bP (fun h2=>?_) (fun h2=>?_)
  ·replace h2:decide (nmT nm=[111])=true:=h2;have:goesT c.pb (nmT t.nm) (nmT nm)=decide (nmT nm=[111]):=by rw[goesT,h,h2]; rfl
   rw[this] at q; exact q
  ·replace h2:decide (nmT nm=[111])=false:=h2;have:goesT c.pb (nmT t.nm) (nmT nm)=(lk (pairTd c.pb) [.s (nmT t.nm),.s (nmT nm)]).isSome:=by rw[goesT,h,h2]; rfl
   rw[this] at q; exact q
noncomputable def spansD:List (List Nat×AV):=[([117,49],.tup [.int 0,.int 256]),([105,52],.tup [.int (-2147483648),.int 4294967296]),([117,52],.tup [.int 0,.int 4294967296]),([105,56],.tup [.int (-9223372036854775808),.int 18446744073709551616])]
noncomputable def spV:Option (Int×Int)→AV
 |none=>.tup [.int 0,.int 0]
 |some p=>.tup [.int p.1,.int p.2]
noncomputable def spP:Option (Int×Int)→Bool
 |none=>true
 |some p=>decide (0<p.2)
theorem spans_V (u:U4) (x:B0):(lk spansD (nmT (plainN u (.s x)))).getD (.tup [.int 0,.int 0])=spV (span u x):=by
 cases x<;>first|rfl|(cases u<;>rfl)
theorem spans_P (u:U4) (x:B0):spP (span u x)=true:=by
 cases x<;>first|rfl|(cases u<;>rfl)
theorem spans_I {u:U4} {x:B0} {p:Int×Int} (h:span u x=some p):(lk spansD (nmT (plainN u (.s x)))).getD (.tup [.int 0,.int 0]) = .tup [.int p.1,.int p.2]∧0<p.2:=by
 have a:=spans_V u x;have b:=spans_P u x;rw[h] at a b;exact⟨a,of_decide_eq_true b⟩
theorem spans_N {u:U4} {x:B0} (h:span u x=none):(lk spansD (nmT (plainN u (.s x)))).getD (.tup [.int 0,.int 0]) = .tup [.int 0,.int 0]:=by
 have a:=spans_V u x;rw[h] at a; exact a
theorem meth_getS {S:Stat} {H:AH} {a:AA} {d:List (List Nat×AV)} (h:H a=some (.sd d)):methOf S H (.ref a) 7=some .get:=congrArg (methO S H · 7) h
theorem getD_sd {S:Stat} {H:AH} {a:AA} {d:List (List Nat×AV)} {k:List Nat} {z v:AV} (h:H a=some (.sd d)) (e:(lk d k).getD z=v):getD (objOf S H (.ref a)) (.str k) z=some v:=(congrArg (getD · (.str k) z) h).trans (congrArg some e)
theorem modI {S:Stat} {H:AH} {a b:Int} (h:0<b):binA S H .mod (.int a) (.int b)=some (.v (.int (Int.fmod a b))) :=
 congrArg (Option.map fun z=>Got1.v (.int z)) (show intA .mod a b=some (Int.fmod a b) from if_pos h)
theorem l_seen (hn:4≤n) {L:List Th} {x:B0} {v:AV} (hv:Val L (.s x) v) (q:∀T',Q (.ok (seenV c.u x v)) (mk c W T')):wpF (sta l zs) funs n 1506 [.ref (.f 90),.str (nmT (.s x)),v] Q (mk c W T):=by
 refine prC hn rfl fun m hn=>?_;refine unf (d:=⟨3,b1506⟩) rfl rfl ?_;refine .inr ⟨_,t_new,?_⟩;refine rwE u_new ?_;have ht:mk c W (T++[.sd spansD]) (.t T.length)=some (.sd spansD):=t_get;refine oKi (meth_getS ht) ?_;refine (n_plain (fB hn rfl) (.s x)).ok ?_;cases hs:span c.u x with
 |none =>
  refine oKi (getD_sd ht (spans_N hs)) ?_;have e:seenV c.u x v=v:=by unfold seenV; refine rwE hs ?_; rfl
  rw[e] at q;refine⟨rfl,?_⟩;exact q _
 |some p =>
  obtain⟨p1,p2⟩:=p;obtain⟨h1,h2⟩:=spans_I hs;have hx:isI x=true:=by cases x<;>first|rfl|cases hs
  obtain⟨z,rfl⟩:=val_int (nm:=.s x) hx hv;refine oKi (getD_sd ht h1) ?_;have e:seenV c.u x (.int z) = .int (p1+Int.fmod (z - p1) p2):=by unfold seenV; refine rwE hs ?_; rfl
  rw[e] at q;refine⟨rfl,?_⟩;skip
  refine dF (by dsimp only; lia) ?_;conv=>whnf
  refine rwE (modI h2) ?_;exact q _
end
section
variable {l:Addr} {zs:List Int} {Q:Post} {n:Nat} {c:Cst} {W:Wd} {T:List AO}
noncomputable def hd1 (nm:Nm):List Nat:=(nmT nm).take 1
theorem n_head (S:Stat) (H:AH) (nm:Nm):getI S H (.str (nmT nm)) (.int 0)=some (.str (hd1 nm)):=by
 revert nm; apply nm_all<;>rfl
theorem hd1_q {nm:Nm} (h:refers nm=false):decide (hd1 nm=[63])=isQ nm:=by
 revert h; apply nm_all (P:=fun nm=>refers nm=false→decide (hd1 nm=[63])=isQ nm)<;>decide
theorem cut_q (S:Stat) (H:AH) {nm:Nm} (h:isQ nm=true):cutA S H (.str (nmT nm)) (.int 1) .none=some (.v (.str (nmT (inN nm)))):=by
 induction nm using Nm.casesOn with
 |s x=>cases x<;>first|rfl|cases h
 |qe=>rfl
 |_=>exact (noB h).elim
theorem cut_arr (S:Stat) (H:AH) (x:B0):cutA S H (.str (nmT (.arr x))) .none (.int (-2))=some (.v (.str (nmT (.s x)))):=by cases x<;>rfl
theorem n_refersB (hn:3≤n) {nm:Nm} {b:Bool} (h:refers nm=b):RRun (sta l zs) (mk c W T) n 1492 [.str (nmT nm)] (.bool b):=by refine rwS h ?_; exact n_refers hn nm
theorem bI2 {b:Bool} {A B:AH→Prop} {H:AH} (h:b=true) (k:A H):Decidable.rec (motive:=fun _=>AH→Prop) (fun _=>B) (fun _=>A) (instDecidableEqBool b true) H:=bI (fun _=>k) (fun e=>by rw[h] at e; cases e)
theorem bF2 {b:Bool} {A B:AH→Prop} {H:AH} (h:b=false) (k:B H):Decidable.rec (motive:=fun _=>AH→Prop) (fun _=>B) (fun _=>A) (instDecidableEqBool b true) H:=bI (fun e=>by rw[h] at e; exact (noB e).elim) (fun _=>k)
theorem l_box_plain (hn:6≤n) {nm:Nm} {v:AV} (P:LPre 1 W) (h:isN nm=true):LwC l zs n c 1534 [.ref (.f 90),.str (nmT nm),v] W T (addS nm v W.rows):=⟨fun Q qo qe=>by
 refine prC hn rfl fun m hn=>?_;have hr:=isN_refers h;have hq:=isN_Q h;have hP:=P.t;refine unf (d:=⟨3,b1534⟩) rfl rfl ?_;refine (n_refersB (fB hn rfl) hr).ok ?_;refine oKi (n_head _ _ nm) ?_;refine bF2 (show decide (hd1 nm=[63])=false by refine rwE (hd1_q hr) ?_; refine rwE hq ?_; rfl) ?_;refine .inr ⟨_,p3_new P.p3,?_⟩;refine rwE (u_p3 P.p3) ?_;refine c_add (W:={ W with pend3:=some [v] }) (tx:=none) (sl:=[v]) (fB hn rfl) rfl (by dsimp only; lia) P.a.len fun i hi=>?_;skip
 have harr:isArr nm=false:=by
  induction nm using Nm.casesOn with
  |arr x=>exact (noB h).elim
  |_=>rfl
 refine qo _ _ T ⟨rfl,rfl,rfl,rfl,rfl,rfl,rfl,rfl,?_⟩ P.bad (by rw[hi]; rfl);exact P.a.app ⟨nm,[v],none⟩⟩
theorem l_boxed (hn:8≤n) {nm:Nm} {v:AV} (P:LPre 1 W) (hv:Val W.rows nm v):LwC l zs n c 1534 [.ref (.f 90),.str (nmT nm),v] W T (boxV nm v W.rows):=by
 cases hr:refers nm
 ·cases hq:isQ nm
  ·have h:isN nm=true:=by rw[ref_iff,hq] at hr; simpa using hr
   have:=l_box_plain (l:=l) (zs:=zs) (c:=c) (T:=T) (v:=v) (n:=n) (by lia) P h;have e:boxV nm v W.rows=addS nm v W.rows:=by simp[boxV,hr,boxS,hq]
   refine rwE e ?_; exact this
  ·refine⟨fun Q qo qe=>?_⟩;refine prC hn rfl fun m hn=>?_;refine unf (d:=⟨3,b1534⟩) rfl rfl ?_;refine (n_refersB (fB hn rfl) hr).ok ?_;refine oKi (n_head _ _ nm) ?_;refine bI2 (show decide (hd1 nm=[63])=true by refine rwE (hd1_q hr) ?_; refine rwE hq ?_; rfl) ?_;rcases val_q hq hv with rfl|⟨z,rfl⟩
   ·conv=>whnf
    exact qo _ W T P.self P.bad (boxV_0 hr hq)
   ·conv=>whnf
    refine rwE (cut_q _ _ hq) ?_;have e:boxV nm (.tup [.int 1,.int z]) W.rows=addS (inN nm) (.int z) W.rows:=boxV_1 hr hq;rw[e] at qo qe;exact (l_box_plain (fB hn rfl) P (inN_isN hq)).run _ qo qe
 ·refine⟨fun Q qo qe=>?_⟩;refine prC hn rfl fun m hn=>?_;refine unf (d:=⟨3,b1534⟩) rfl rfl ?_;refine (n_refersB (fB hn rfl) hr).ok ?_;exact qo _ W T P.self P.bad (by simp[boxV,hr])
theorem LPre.drop {k k':Nat} (P:LPre k W) (h:k'≤k):LPre k' W:=⟨P.bad,P.p3,P.a,by have:=P.t; lia,P.wl⟩
theorem l_from (hn:6≤n) {nm:Nm} {i:Int} (P:LPre 0 W) (hi:i≠0→∃t,thI W.rows i=some t):LwC l zs n c 1541 [.ref (.f 90),.str (nmT nm),.int i] W T (fromS c.u c.pb nm i W.rows):=⟨fun Q qo qe=>by
 refine prC hn rfl fun m hn=>?_;have hP:=P.t;refine unf (d:=⟨3,b1541⟩) rfl rfl ?_;cases hr:refers nm
 ·refine (n_refersB (by lia) hr).ok ?_;refine dI (fun h0=>?_) (fun h0=>?_)
  ·replace h0:i=0:=h0;refine oKi (n_head _ _ nm) ?_;cases hq:isQ nm
   ·refine bF2 (show decide (hd1 nm=[63])=false by refine rwE (hd1_q hr) ?_; refine rwE hq ?_; rfl) ?_;refine c_stop (by lia) ?_;exact stopped (p:=0) P (by simp[fromS,hr,h0,hq]) qe
   ·refine bI2 (show decide (hd1 nm=[63])=true by refine rwE (hd1_q hr) ?_; refine rwE hq ?_; rfl) ?_;exact qo _ W T P.self P.bad (by simp[fromS,hr,h0,hq])
  ·replace h0:i≠0:=h0;obtain⟨t,ht⟩:=hi h0;refine (thI_atI ht) fun _ hj _=>?_;have hts:=WL.at P.wl ht;refine oKi (row_get ht (by lia)) ?_;refine oKi (n_head _ _ nm) ?_;cases hq:isQ nm
   ·refine bF2 (show decide (hd1 nm=[63])=false by refine rwE (hd1_q hr) ?_; refine rwE hq ?_; rfl) ?_;cases hrt:refers t.nm
    ·refine (n_refersB (by lia) hrt).ok ?_;refine (n_plain (by lia) t.nm).ok ?_;refine (n_plain (by lia) nm).ok ?_;refine dNI (fun hp=>?_) (fun hp=>?_)
     ·have hp':¬plainN c.u t.nm=plainN c.u nm:=fun e=>hp (congrArg nmT e);refine c_stop (by lia) ?_;exact stopped (p:=2) P (by simp[fromS,hr,h0,hq,ht,hrt,hp']) qe
     ·have hp':=nmT_inj hp;obtain⟨z,hz⟩:=head_int hts (TOk.plain hts hrt);refine oKi (row_get ht (by lia)) ?_;refine oKi (get_list (v:=.int z) (o_rslots hj) (by rw[hz]; rfl)) ?_;exact qo _ W T P.self P.bad (by simp[fromS,hr,h0,hq,ht,hrt,hp',hz])
    ·refine (n_refersB (by lia) hrt).ok ?_;refine c_stop (by lia) ?_;exact stopped (p:=2) P (by simp[fromS,hr,h0,hq,ht,hrt]) qe
   ·refine bI2 (show decide (hd1 nm=[63])=true by refine rwE (hd1_q hr) ?_; refine rwE hq ?_; rfl) ?_;conv=>whnf
    refine rwE (cut_q _ _ hq) ?_;refine dI (fun hp=>?_) (fun hp=>?_)
    ·have hp':=nmT_inj hp;obtain⟨z,hz⟩:=head_int hts (by refine rwE hp' ?_; exact inN_s hq);refine oKi (row_get ht (by lia)) ?_;refine oKi (get_list (v:=.int z) (o_rslots hj) (by rw[hz]; rfl)) ?_;exact qo _ W T P.self P.bad (by simp[fromS,hr,h0,hq,ht,hp',hz])
    ·have hp':¬t.nm=inN nm:=fun e=>hp (congrArg nmT e);refine c_stop (by lia) ?_;exact stopped (p:=2) P (by simp[fromS,hr,h0,hq,ht,hp']) qe
 ·refine (n_refersB (by lia) hr).ok ?_;refine dI (fun h0=>?_) (fun h0=>?_)
  ·replace h0:i=0:=h0;exact qo _ W T P.self P.bad (by simp[fromS,hr,h0])
  ·replace h0:i≠0:=h0;obtain⟨t,ht⟩:=hi h0;refine l_goes (by lia) ht (by lia) ?_;have hg:goes c.pb W.rows i nm=goesN c.pb t.nm nm:=goes_at ht;cases hgn:goesN c.pb t.nm nm
   ·conv=>whnf
    refine c_stop (by lia) ?_;exact stopped (p:=2) P (by simp[fromS,hr,h0,hg,hgn]) qe
   ·exact qo _ W T P.self P.bad (by simp[fromS,hr,hg,hgn])⟩
theorem l_turned (hn:6≤n) {x:B0} {z chk:Int} (P:LPre 0 W) (hx:isI x=true):LwC l zs n c 1548 [.ref (.f 90),.str (nmT (.s x)),.int z,.int chk] W T (numS c.u x chk (.int z) W.rows):=⟨fun Q qo qe=>by
 refine prC hn rfl fun m hn=>?_;have hv:Val W.rows (.s x) (.int z):=int_val hx;obtain⟨w,hw⟩:=val_int (nm:=.s x) hx (seen_val (u:=c.u) hv);refine unf (d:=⟨4,b1548⟩) rfl rfl ?_;refine l_seen (fB hn rfl) hv fun T'=>?_;refine rwE hw ?_;refine dI (fun h0=>?_) (fun h0=>?_)
 ·replace h0:chk≠0:=h0;refine dNI (fun h1=>?_) (fun h1=>?_)
  ·replace h1:¬w=z:=h1;refine c_stop (fB hn rfl) ?_;exact stopped (p:=3) P (by rw[num_eq hw]; simp[h0,h1]) qe
  ·replace h1:w=z:=h1;exact qo _ W T' P.self P.bad (by rw[num_eq hw]; simp[h1])
 ·replace h0:¬chk≠0:=h0;have h0':chk=0:=by lia
  exact qo _ W T' P.self P.bad (by rw[num_eq hw]; simp[h0'])⟩
theorem l_over (hn:2≤n) {nm:Nm} {z:Int} (hx:idxN nm=true) (q:Q (.ok (.bool (overB nm z))) (mk c W T)):wpF (sta l zs) funs n 1555 [.str (nmT nm),.int z] Q (mk c W T):=by
 refine prC hn rfl fun m hn=>?_;have hc:(nm = .s .i4∨nm = .s .u4)∨(nm = .s .i8∨nm = .u8):=by
  revert hx;apply nm_all (P:=fun nm=>idxN nm=true→(nm = .s .i4∨nm = .s .u4)∨(nm = .s .i8∨nm = .u8))<;>decide
 refine unf (d:=⟨2,b1555⟩) rfl rfl ?_;rcases hc with hc|hc
 ·have hb:overB nm z=false:=by rcases hc with e|e<;>(refine rwE e ?_)<;>rfl
  rw[hb] at q;rcases hc with e|e<;>(refine rwE e ?_)<;>exact q
 ·have hob:overB nm z = !(decide (-2147483648≤z)&&decide (z≤2147483647)):=by rcases hc with e|e<;>(refine rwE e ?_)<;>rfl
  rw[hob] at q;rcases hc with e|e<;>(refine rwE e ?_)
  all_goals
   refine bP (fun h=>?_) (fun h=>?_)
   ·have h':z < -2147483648:=of_decide_eq_true h;have e1:(!(decide (-2147483648≤z)&&decide (z≤2147483647)))=decide (z < -2147483648):=by simp[h']
    rw[e1] at q;exact q
   ·have h':¬z < -2147483648:=of_decide_eq_false h;have e1:(!(decide (-2147483648≤z)&&decide (z≤2147483647)))=decide (z>2147483647):=by
     have:-2147483648≤z:=by lia
     simp only[this,decide_true,Bool.true_and];by_cases h2:z≤2147483647
     ·have:¬z>2147483647:=by lia
      simp[h2,this]
     ·have:z>2147483647:=by lia
      simp[h2,this]
    rw[e1] at q;exact q
theorem l_made (hn:6≤n) {x:B0} {nm:Nm} {z:Int} (P:LPre 1 W) (hx:idxN nm=true):LwC l zs n c 1562 [.ref (.f 90),.str (nmT (.arr x)),.str (nmT nm),.int z] W T (bindS (overS nm (.int z) W.rows) fun v L=>newS x (intV v) L):=⟨fun Q qo qe=>by
 refine prC hn rfl fun m hn=>?_;have hP:=P.t;refine unf (d:=⟨4,b1562⟩) rfl rfl ?_;refine l_over (fB hn rfl) hx ?_;cases hb:overB nm z
 ·have e:(bindS (overS nm (.int z) W.rows) fun v L=>newS x (intV v) L)=newS x z W.rows:=bO (overO hb);rw[e] at qo qe;refine dI (fun h0=>?_) (fun h0=>?_)
  ·replace h0:z<0:=h0;refine c_stop (fB hn rfl) ?_;exact stopped (p:=3) P (by simp[newS,h0]) qe
  ·replace h0:¬z<0:=h0;refine dI (fun h2=>?_) (fun h2=>?_)
   ·replace h2:z>2147483647:=h2;refine c_stop (fB hn rfl) ?_;exact stopped (p:=3) P (by simp[newS,h2]) qe
   ·replace h2:¬z>2147483647:=h2;refine dI (fun h3=>?_) (fun h3=>?_)
    ·replace h3:z>65536:=h3;refine c_stop (fB hn rfl) ?_;exact stopped (p:=6) P (by rw[newS,if_neg (by lia),if_pos h3]) qe
    ·replace h3:¬z>65536:=h3;conv=>whnf
     refine rwE (cut_arr ..) ?_;refine (n_none (fB hn rfl) x).ok ?_;refine .inr ⟨_,t_new,?_⟩;refine rwE u_new ?_;conv=>whnf
     refine rwE (mul_list t_get (by lia) (by lia)) ?_;refine .inr ⟨_,p3_new P.p3,?_⟩;refine rwE (u_p3 P.p3) ?_;refine c_add (nm:=.arr x) (W:={ W with pend3:=some (List.replicate z.toNat (noneV x)) }) (tx:=none) (sl:=List.replicate z.toNat (noneV x)) (fB hn rfl) rfl (by dsimp only; lia) P.a.len fun i hi=>?_;skip
     refine qo _ _ _ ⟨rfl,rfl,rfl,rfl,rfl,rfl,rfl,rfl,?_⟩ P.bad (by rw[newS,if_neg (by lia),if_neg h3,hi]);exact P.a.app ⟨.arr x,List.replicate z.toNat (noneV x),none⟩
 ·have e:(bindS (overS nm (.int z) W.rows) fun v L=>newS x (intV v) L)=(.err 3,W.rows):=bE (overE hb);refine c_stop (fB hn rfl) ?_;exact stopped (p:=3) P e qe⟩
theorem l_looked (hn:3≤n) {a i:Int} (P:LPre 0 W) (ha:a≠0→∃t,thI W.rows a=some t) (qo:lookS W.rows a i=none→Q (.ok .none) (mk c W T)) (qe:∀p,lookS W.rows a i=some p→Q (.ok .none) (mk c { W with bad:=errS p } T)) :
 wpF (sta l zs) funs n 1576 [.ref (.f 90),.int a,.int i] Q (mk c W T):=by
 refine prC hn rfl fun m hn=>?_;have hP:=P.t;refine unf (d:=⟨3,b1576⟩) rfl rfl ?_;refine dI (fun h=>?_) (fun h=>?_)
 ·replace h:a=0:=h;refine c_stop (fB hn rfl) ?_;exact qe 0 (by simp[lookS,h])
 ·replace h:a≠0:=h;obtain⟨t,ht⟩:=ha h;refine (thI_atI ht) fun h0 hj h1=>?_;have hs:slotsI W.rows a=t.slots:=by simp[slotsI,ht]
  have hsl:t.slots.length≤1000000:=by have:=(WL.at P.wl ht).1; lia
  refine dI (fun h2=>?_) (fun h2=>?_)
  ·replace h2:i<0:=h2;refine c_stop (fB hn rfl) ?_;exact qe 1 (by simp[lookS,h,h2])
  ·replace h2:¬i<0:=h2;refine oKi (row_get ht (by lia)) ?_;refine oKi (len_list (o_rslots hj) hsl) ?_;refine dI (fun h3=>?_) (fun h3=>?_)
   ·have h3':(t.slots.length:Int)≤i:=h3;refine c_stop (fB hn rfl) ?_;exact qe 1 (by simp[lookS,h,hs,h3'])
   ·have h3':¬(t.slots.length:Int)≤i:=h3;exact qo (by simp[lookS,h,h2,hs,h3'])
end
def LEs (Q:Post) (c:Cst) (W:Wd) (r:SZ):Prop:=∀p x y W' T',Lm W W'→W'.bad=errS p→r=(.err p,W'.rows)→Q (.ok (.tup [x,y])) (mk c W' T')
structure LsC (l:Addr) (zs:List Int) (n:Nat) (c:Cst) (f:Addr) (vs:List AV) (W:Wd) (T:List AO) (r:SZ):Prop where
 run:∀Q:Post,LO Q c W r→LEs Q c W r→wpF (sta l zs) funs n f vs Q (mk c W T)
def LM (l:Addr) (zs:List Int) (c:Cst) (s:Sen):Prop:=∀n W T,8*size s+20≤n→LPre (size s) W→WFS W.rows s→LwC l zs n c 1597 [.ref (.f 90),sAV s] W T (sem c.u c.pb s W.rows)
theorem errS_ne (p:Fin 7):errS p≠[]:=by revert p; decide
theorem errS_len (p:Fin 7):(errS p).length≤1000:=by revert p; decide
theorem look_mono {L L':List Th} {a i:Int} (e:ThE L L') (h:lookS L a i=none):lookS L' a i=none:=by
 refine kf fun kG=>?_;refine (getS_memI h) fun t ht hs _=>?_;refine (look_noneI h) fun h0 h1 h2=>?_;refine (thI_monoI e ht) fun t' ht' _ hl=>?_;have hs':slotsI L' a=t'.slots:=by simp[slotsI,ht']
 rw[hs] at h2;refine kG ?_; clear kG;dsimp only[lookS];rw[if_neg h0,if_neg];refine rwE hs' ?_; refine rwE hl ?_;lia
section
variable {l:Addr} {zs:List Int} {Q:Post} {n:Nat} {c:Cst} {W:Wd} {T:List AO}
theorem badT_ok {S:Stat} {H:AH} (h:W.bad=[]):truthA S H (.str W.bad)=some false:=by rw[h]; rfl
theorem badT_err {S:Stat} {H:AH} {p:Fin 7} (h:W.bad=errS p):truthA S H (.str W.bad)=some true:=by
 refine rwE h ?_;show (if (errS p).length≤1000 then some (!(errS p).isEmpty) else none)=_
 refine rwE (if_pos (errS_len p)) ?_;cases e:errS p with
 |nil=>exact absurd e (errS_ne p)
 |cons _ _=>rfl
theorem sAV_1 (s:Sen) (S:Stat) (H:AH):getI S H (sAV s) (.int 1)=some (.str (nmT (nmOf s))):=by cases s<;>rfl
theorem l_spot {a i:Sen} {e:AV} (iha:LM l zs c a) (ihi:LM l zs c i) (hn:8*(size a+size i)+21≤n) (P:LPre (size a+size i) W) (w1:WFS W.rows a) (w3:WFS W.rows i) (w4:idxN (nmOf i)=true)
 (h2:∀H,getI (sta l zs) H e (.int 2)=some (sAV a)) (h3:∀H,getI (sta l zs) H e (.int 3)=some (sAV i)):LsC l zs n c 1569 [.ref (.f 90),e] W T (spotS c.u c.pb a i W.rows):=⟨fun Q qo qe=>by
 refine kf fun kG=>?_;obtain⟨m,rfl⟩:=pr hn;refine kG ?_; clear kG;refine unf (d:=⟨2,b1569⟩) rfl rfl ?_;refine oKi (h2 _) ?_;refine (iha m W T (by lia) (P.drop (by lia)) w1).run _ (fun va W1 T1 s1 b1 r1=>?_) (fun p v W1 T1 s1 b1 r1=>?_)
 ·refine kf fun kG=>?_;refine E04 ((sem_good c.u c.pb a W.rows P.wl w1).at r1) fun g1 e1 l1 v1=>?_;refine kG ?_; clear kG;refine oKi (badT_ok b1) ?_;refine oKi (h3 _) ?_;refine (ihi m W1 T1 (by lia) (P.go s1 b1 g1 l1 (by lia)) (w3.mono e1)).run _ (fun vi W2 T2 s2 b2 r2=>?_) (fun p v W2 T2 s2 b2 r2=>?_)
  ·refine kf fun kG=>?_;refine E04 ((sem_good c.u c.pb i W1.rows g1 (w3.mono e1)).at r2) fun g2 e2 l2 v2=>?_;obtain⟨z,rfl⟩:=val_int (isN_idx w4) v2;have hs:spotS c.u c.pb a i W.rows=bindS (overS (nmOf i) (.int z) W2.rows) fun vi L=>(.ok (.tup [va,vi]),L):=(bO r1).trans (congrArg (bindS · _) (bO r2));rw[hs] at qo qe;refine kG ?_; clear kG;refine dT b2 ?_;refine oKi (h3 _) ?_;refine oKi (sAV_1 i _ _) ?_;refine l_over (fB hn rfl) w4 ?_;cases hb:overB (nmOf i) z
   ·exact qo _ W2 T2 (s1.trans s2) b2 (bO (overO hb))
   ·conv=>whnf
    refine c_stop (fB hn rfl) ?_;exact qe 3 _ _ _ T2 (s1.trans ⟨s2.things,s2.at',s2.steps,s2.nested,s2.holes,s2.defaults,s2.p2,s2.p3,s2.a⟩) rfl (bE (overE hb))
  ·have hs:spotS c.u c.pb a i W.rows=(.err p,W2.rows):=(bO r1).trans (bE (bE r2));refine dF (by refine rwE b2 ?_; exact errS_ne p) ?_;exact qe p _ _ W2 T2 (s1.trans s2) b2 hs
 ·have hs:spotS c.u c.pb a i W.rows=(.err p,W1.rows):=bE r1;refine oKi (badT_err b1) ?_;exact qe p _ _ W1 T1 s1 b1 hs⟩
theorem nthG {L:List Th} {a i:Int} {t:Th} (h:lookS L a i=none) (hs:slotsI L a=t.slots) (hsl:t.slots.length≤65536):nth t.slots i=some (getS L a i):=by
 refine kf fun kG=>?_;refine (look_noneI h) fun _ h3 h4=>?_;rw[hs] at h4;refine kG ?_; clear kG;dsimp only[nth,getS];rw[if_pos (by lia),hs,List.getD_eq_getElem?_getD];have:i.toNat<t.slots.length:=by lia
 refine rwE (List.getElem?_eq_getElem this) ?_;rfl
theorem Lm.bad {x:List Nat} {W W':Wd} (h:Lm W W'):Lm W { W' with bad:=x }:=⟨h.things,h.at',h.steps,h.nested,h.holes,h.defaults,h.p2,h.p3,h.a⟩
theorem l_item_elem {x:B0} {a i:Sen} (iha:LM l zs c a) (ihi:LM l zs c i) (hn:8*(size a+size i)+24≤n) (P:LPre (size a+size i) W) (w:WFS W.rows (.elem x a i)) :
 LwC l zs n c 1583 [.ref (.f 90),sAV (.elem x a i)] W T (sem c.u c.pb (.elem x a i) W.rows):=⟨fun Q qo qe=>by
 refine prC hn rfl fun m hn=>?_;refine E04 w fun w1 w2 w3 w4=>?_;have hP:=P.t;have hsem:sem c.u c.pb (.elem x a i) W.rows=bindS (spotS c.u c.pb a i W.rows) fun p L=>elemS c.u x (pA p) (pB p) L :=
  spot_bind (f:=fun a i L=>elemS c.u x a i L)
 rw[hsem] at qo qe;refine unf (d:=⟨2,b1583⟩) rfl rfl ?_;refine (l_spot iha ihi (by lia) P w1 w3 w4 (fun _=>rfl) (fun _=>rfl)).run _ (fun pv W1 T1 s1 b1 r1=>?_) (fun p vx vy W1 T1 s1 b1 r1=>?_)
 ·refine E25 (spot_good P.wl w1 w2 w3 w4 r1) fun ai zi eq2 g1 e1 l1 v1=>?_; subst eq2;refine (arr_atI v1) fun _ ea _ _ ha=>?_;cases ea;rw[r1] at qo qe;dsimp only[bindS,pA,pB,intV] at qo qe;have P1:LPre 0 W1:=P.go s1 b1 g1 l1 (by lia);refine⟨rfl,?_⟩;refine dT b1 ?_;refine l_looked (fB hn rfl) P1 (fun h=>by obtain⟨t,y,h,_⟩:=ha h; exact⟨t,h⟩) (fun hl=>?_) (fun p hl=>?_)
  ·refine E23 (ha (look_none hl).1) fun t y ht hnm hc=>?_;refine (thI_atI ht) fun _ hj _=>?_;refine (getS_memI hl) fun t' ht' hs _=>?_;rw[ht] at ht'; obtain rfl:=Option.some.inj ht';have hsl:=(WL.at g1 ht).1;refine oKi (badT_ok b1) ?_;refine oKi (row_get ht (by lia)) ?_;refine⟨rfl,?_⟩;refine oKi (get_list (o_rslots hj) (nthG hl hs hsl)) ?_;refine l_seen (fB hn rfl) (getS_val g1 hl ha) fun T'=>?_;exact qo _ W1 T' s1 b1 (by simp only[elemS,hl])
  ·conv=>whnf
   refine oKi (badT_err (W:={ W1 with bad:=errS p }) rfl) ?_;exact qe p _ _ T1 s1.bad rfl (by simp only[elemS,hl])
 ·rw[r1] at qe;refine⟨rfl,?_⟩;refine dF (by refine rwE b1 ?_; exact errS_ne p) ?_;refine oKi (badT_err b1) ?_;exact qe p _ W1 T1 s1 b1 rfl⟩
theorem l_store {x:B0} {ai zi:Int} {v:AV} {t:Th} {y:B0} {W1:Wd} {T1:List AO} (P:LPre 0 W1) (hl:lookS W1.rows ai zi=none) (ht:thI W1.rows ai=some t) (hnm:t.nm = .arr y) (hc:cls y=cls x) (hv:Val W1.rows (.s x) v) :
 (storeB c.pb W1.rows t v=true→storeS c.u c.pb W1.rows ai zi v=(.err 4,W1.rows))∧(storeB c.pb W1.rows t v=false→storeS c.u c.pb W1.rows ai zi v=(.ok v,setS W1.rows ai zi (seenV c.u y v)))∧∀T',upd (mk c W1 T') (.r 3 (ai - 1).toNat) (.list (t.slots.set zi.toNat (seenV c.u y v)))=mk c { W1 with rows:=setS W1.rows ai zi (seenV c.u y v) } T':=by
 have hes:elemT t=y:=by unfold elemT; rw[hnm]
 have hst:=storeS_at (u:=c.u) (pb:=c.pb) (v:=v) hl ht;refine kf fun kG=>?_;refine (thI_atI ht) fun _ hj _=>?_;refine kG ?_; clear kG;refine⟨fun h=>by rw[hst,h]; rfl,fun h=>by rw[hst,h,hes]; rfl,fun T'=>?_⟩;rw[u_rslots hj];have e:setS W1.rows ai zi (seenV c.u y v)=W1.rows.set (ai - 1).toNat { t with slots:=t.slots.set zi.toNat (seenV c.u y v) }:=by simp[setS,ht]
 refine rwE e ?_; rfl
theorem l_item_asg {x:B0} {a i v:Sen} (iha:LM l zs c a) (ihi:LM l zs c i) (ihv:LM l zs c v) (hn:8*(size a+size i+size v)+24≤n) (P:LPre (size a+size i+size v) W) (w:WFS W.rows (.asg x a i v)) :
 LwC l zs n c 1583 [.ref (.f 90),sAV (.asg x a i v)] W T (sem c.u c.pb (.asg x a i v) W.rows):=⟨fun Q qo qe=>by
 refine kf fun kG=>?_;obtain⟨m,rfl⟩:=pr hn;refine E06 w fun w1 w2 w3 w4 w5 w6=>?_;have hP:=P.t;rw[sem_asg] at qo qe;refine kG ?_; clear kG;refine unf (d:=⟨2,b1583⟩) rfl rfl ?_;refine (l_spot iha ihi (by lia) (P.drop (by lia)) w1 w3 w4 (fun _=>rfl) (fun _=>rfl)).run _ (fun pv W1 T1 s1 b1 r1=>?_) (fun p vx vy W1 T1 s1 b1 r1=>?_)
 ·refine kf fun kG=>?_;refine E25 (spot_good P.wl w1 w2 w3 w4 r1) fun ai zi eq2 g1 e1 l1 v1=>?_; subst eq2;rw[r1] at qo qe;dsimp only[bindS,pA,pB,intV] at qo qe;refine kG ?_; clear kG;refine⟨rfl,?_⟩;refine dT b1 ?_;refine (ihv m W1 T1 (by lia) (P.go s1 b1 g1 l1 (by lia)) (w5.mono e1)).run _ (fun vv W2 T2 s2 b2 r2=>?_) (fun p vv W2 T2 s2 b2 r2=>?_)
  ·refine kf fun kG=>?_;refine E04 ((sem_good c.u c.pb v W1.rows g1 (w5.mono e1)).at r2) fun g2 e2 l2 v2=>?_;rw[r2] at qo qe;simp only at qo qe;rw[w6] at v2;refine (arr_atI (v1.mono e2)) fun _ ea _ _ ha=>?_;cases ea;have P2:LPre 0 W2:=P.go (s1.trans s2) b2 g2 (show _≤_+(size a+size i+size v) by lia) (by lia);have st:=s1.trans s2;refine kG ?_; clear kG;refine dT b2 ?_;refine l_looked (fB hn rfl) P2 (fun h=>by obtain⟨t,y,h,_⟩:=ha h; exact⟨t,h⟩) (fun hl=>?_) (fun p hl=>?_)
   ·refine kf fun kG=>?_;refine E23 (ha (look_none hl).1) fun t y ht hnm hc=>?_;refine (thI_atI ht) fun _ hj _=>?_;refine (getS_memI hl) fun t' ht' hs _=>?_;rw[ht] at ht';obtain rfl:=Option.some.inj ht';have hsl:=(WL.at g2 ht).1;refine E03 (l_store (c:=c) (T1:=T2) P2 hl ht hnm hc v2) fun k1 k2 k3=>?_;have hes:elemT t=y:=by unfold elemT; refine rwE hnm ?_; rfl
    have hvy:Val W2.rows (.s y) vv:=val_cls hc.symm v2;have hz:=look_none hl;rw[hs] at hz;refine kG ?_; clear kG;have fin:storeB c.pb W2.rows t vv=false→∀T',Q (.ok vv) (mk c { W2 with rows:=setS W2.rows ai zi (seenV c.u y vv) } T'):=fun hb T'=>by
     have hok:=k2 hb;have G:=(store_good (u:=c.u) (pb:=c.pb) (n:=zi) (v:=vv) g2 ha v2).at hok;exact qo _ _ T' ⟨st.things,st.at',st.steps,st.nested,st.holes,st.defaults,st.p2,st.p3,st.a.mono G.2.1⟩ b2 hok
    refine oKi (badT_ok b2) ?_;refine oKi (row_get ht (by lia)) ?_;refine rwE hnm ?_;refine⟨rfl,?_⟩;refine oKi (get_list (o_rslots hj) (nthG hl hs hsl)) ?_;refine l_seen (fB hn rfl) (getS_val g2 hl ha) fun T3=>?_;conv=>whnf
    refine rwE (cut_arr ..) ?_;cases hr:refers (.s y)
    ·have hb:storeB c.pb W2.rows t vv=false:=stB0 hes hr;refine (n_refersB (fB hn rfl) hr).ok ?_;conv=>whnf
     refine rwE (cut_arr ..) ?_;refine l_seen (fB hn rfl) hvy fun T4=>?_;conv=>whnf
     refine rwE (o_rslots hj) ?_;refine⟨hz.2.1,by lia,by lia,?_⟩;refine rwE (k3 ..) ?_;exact fin hb T4
    ·refine kf fun kG=>?_;refine (val_refI hr hvy) fun z eq1 hz0 hz1 _=>?_; subst eq1;refine kG ?_; clear kG;refine (n_refersB (fB hn rfl) hr).ok ?_;refine dNI (fun h0=>?_) (fun h0=>?_)
     ·replace h0:z≠0:=h0;refine kf fun kG=>?_;obtain⟨t2,ht2⟩:=thI_some h0 hz0 hz1;have hg:goes c.pb W2.rows z (.s y)=goesN c.pb t2.nm (.s y):=goes_at ht2;refine kG ?_; clear kG;conv=>whnf
      refine rwE (cut_arr ..) ?_;refine l_goes (fB hn rfl) ht2 (by lia) ?_;cases hgn:goesN c.pb t2.nm (.s y)
      ·have hb:storeB c.pb W2.rows t (.int z)=true:=stBi hes hr h0 (hg.trans hgn);refine c_stop (fB hn rfl) ?_;exact qe 4 _ _ T3 st.bad rfl (k1 hb)
      ·have hb:storeB c.pb W2.rows t (.int z)=false:=stBi hes hr h0 (hg.trans hgn);conv=>whnf
       refine rwE (cut_arr ..) ?_;refine l_seen (fB hn rfl) hvy fun T4=>?_;conv=>whnf
       refine rwE (o_rslots hj) ?_;refine⟨hz.2.1,by lia,by lia,?_⟩;refine rwE (k3 ..) ?_;exact fin hb T4
     ·replace h0:z=0:=h0;have hb:storeB c.pb W2.rows t (.int z)=false:=stBz h0;conv=>whnf
      refine rwE (cut_arr ..) ?_;refine l_seen (fB hn rfl) hvy fun T4=>?_;conv=>whnf
      refine rwE (o_rslots hj) ?_;refine⟨hz.2.1,by lia,by lia,?_⟩;refine rwE (k3 ..) ?_;exact fin hb T4
   ·conv=>whnf
    refine oKi (badT_err (W:={ W2 with bad:=errS p }) rfl) ?_;exact qe p _ _ T2 st.bad rfl (storeE hl)
  ·rw[r2] at qe;refine dF (by refine rwE b2 ?_; exact errS_ne p) ?_;refine oKi (badT_err b2) ?_;exact qe p _ W2 T2 (s1.trans s2) b2 rfl
 ·rw[r1] at qe;refine⟨rfl,?_⟩;refine dF (by refine rwE b1 ?_; exact errS_ne p) ?_;refine dF (by refine rwE b1 ?_; exact errS_ne p) ?_;refine oKi (badT_err b1) ?_;exact qe p _ W1 T1 s1 b1 rfl⟩
theorem l_item_comp {x:B0} {a i v:Sen} {post:Int} (iha:LM l zs c a) (ihi:LM l zs c i) (ihv:LM l zs c v) (hn:8*(size a+size i+size v)+24≤n) (P:LPre (size a+size i+size v) W) (w:WFS W.rows (.comp x a i v post)) :
 LwC l zs n c 1583 [.ref (.f 90),sAV (.comp x a i v post)] W T (sem c.u c.pb (.comp x a i v post) W.rows):=⟨fun Q qo qe=>by
 refine kf fun kG=>?_;obtain⟨m,rfl⟩:=pr hn;refine E06 w fun w1 w2 w3 w4 w5 w6=>?_;have hP:=P.t;rw[sem_comp] at qo qe;refine kG ?_; clear kG;refine unf (d:=⟨2,b1583⟩) rfl rfl ?_;refine (l_spot iha ihi (by lia) (P.drop (by lia)) w1 w3 w4 (fun _=>rfl) (fun _=>rfl)).run _ (fun pv W1 T1 s1 b1 r1=>?_) (fun p vx vy W1 T1 s1 b1 r1=>?_)
 ·refine kf fun kG=>?_;refine E25 (spot_good P.wl w1 w2 w3 w4 r1) fun ai zi eq2 g1 e1 l1 v1=>?_; subst eq2;refine (arr_atI v1) fun _ ea _ _ ha1=>?_;cases ea;rw[r1] at qo qe;dsimp only[bindS,pA,pB,intV] at qo qe;have P1:LPre 0 W1:=P.go s1 b1 g1 l1 (by lia);refine kG ?_; clear kG;refine⟨rfl,?_⟩;refine dT b1 ?_;refine l_looked (by lia) P1 (fun h=>by obtain⟨t,y,h,_⟩:=ha1 h; exact⟨t,h⟩) (fun hl1=>?_) (fun p hl=>?_)
  ·refine kf fun kG=>?_;refine E23 (ha1 (look_none hl1).1) fun t1 y ht1 hnm1 hc=>?_;refine (thI_atI ht1) fun _ hj1 _=>?_;refine (getS_memI hl1) fun t' ht' hs1 _=>?_;rw[ht1] at ht';obtain rfl:=Option.some.inj ht';have hsl1:=(WL.at g1 ht1).1;have hel:elemS c.u x ai zi W1.rows=(.ok (seenV c.u x (getS W1.rows ai zi)),W1.rows):=by simp only[elemS,hl1]
   rw[hel] at qo qe;simp only at qo qe;refine kG ?_; clear kG;refine oKi (badT_ok b1) ?_;refine oKi (row_get ht1 (by lia)) ?_;refine rwE hnm1 ?_;refine⟨rfl,?_⟩;refine oKi (get_list (o_rslots hj1) (nthG hl1 hs1 hsl1)) ?_;refine l_seen (by lia) (getS_val g1 hl1 ha1) fun T3=>?_;generalize seenV c.u x (getS W1.rows ai zi)=old at qo qe ⊢;refine (ihv m W1 T3 (by lia) (P.go s1 b1 g1 l1 (by lia)) (w5.mono e1)).run _ (fun vv W2 T2 s2 b2 r2=>?_) (fun p vv W2 T2 s2 b2 r2=>?_)
   ·refine kf fun kG=>?_;refine E04 ((sem_good c.u c.pb v W1.rows g1 (w5.mono e1)).at r2) fun g2 e2 l2 v2=>?_;rw[r2] at qo qe;simp only at qo qe;rw[w6] at v2;refine (arr_atI (v1.mono e2)) fun _ ea _ _ ha=>?_;cases ea;have P2:LPre 0 W2:=P.go (s1.trans s2) b2 g2 (show _≤_+(size a+size i+size v) by lia) (by lia);have st:=s1.trans s2;have hl:=look_mono e2 hl1;refine (thI_monoI e2 ht1) fun t ht hnm0 _=>?_;have hnm:t.nm = .arr y:=hnm0.trans hnm1;refine (thI_atI ht) fun _ hj _=>?_;have hs:slotsI W2.rows ai=t.slots:=by simp[slotsI,ht]
    have hsl:=(WL.at g2 ht).1;refine E03 (l_store (c:=c) (T1:=T2) P2 hl ht hnm hc v2) fun k1 k2 k3=>?_;have hes:elemT t=y:=by unfold elemT; refine rwE hnm ?_; rfl
    have hvy:Val W2.rows (.s y) vv:=val_cls hc.symm v2;have hz:=look_none hl;rw[hs] at hz;refine kG ?_; clear kG;have fin:storeB c.pb W2.rows t vv=false→∀T',Q (.ok (if post≠0 then old else vv)) (mk c { W2 with rows:=setS W2.rows ai zi (seenV c.u y vv) } T'):=fun hb T'=>by
     have hok:=k2 hb;have G:=(store_good (u:=c.u) (pb:=c.pb) (n:=zi) (v:=vv) g2 ha v2).at hok;exact qo _ _ T' ⟨st.things,st.at',st.steps,st.nested,st.holes,st.defaults,st.p2,st.p3,st.a.mono G.2.1⟩ b2 (by refine rwE hok ?_; rfl)
    have endit:∀(A:AV→AH→Prop) (H:AH),(A (if post≠0 then old else vv) H)→(post≠0→A old H)∧(¬post≠0→A vv H):=fun A H q=>⟨fun h=>by rw[if_pos h] at q; exact q,fun h=>by rw[if_neg h] at q; exact q⟩;refine oKi (badT_ok b2) ?_;conv=>whnf
    refine rwE (cut_arr ..) ?_;cases hr:refers (.s y)
    ·have hb:storeB c.pb W2.rows t vv=false:=stB0 hes hr;refine (n_refersB (by lia) hr).ok ?_;conv=>whnf
     refine rwE (cut_arr ..) ?_;refine l_seen (by lia) hvy fun T4=>?_;conv=>whnf
     refine rwE (o_rslots hj) ?_;refine⟨hz.2.1,by lia,by lia,?_⟩;refine rwE (k3 ..) ?_;refine kf fun kG=>?_;obtain⟨q1,q2⟩:=endit (fun v=>Q (.ok v)) _ (fin hb T4);refine kG ?_; clear kG;exact dI q1 q2
    ·refine kf fun kG=>?_;refine (val_refI hr hvy) fun z eq1 hz0 hz1 _=>?_; subst eq1;refine kG ?_; clear kG;refine (n_refersB (by lia) hr).ok ?_;refine dNI (fun h0=>?_) (fun h0=>?_)
     ·replace h0:z≠0:=h0;refine kf fun kG=>?_;obtain⟨t2,ht2⟩:=thI_some h0 hz0 hz1;have hg:goes c.pb W2.rows z (.s y)=goesN c.pb t2.nm (.s y):=goes_at ht2;refine kG ?_; clear kG;conv=>whnf
      refine rwE (cut_arr ..) ?_;refine l_goes (by lia) ht2 (by lia) ?_;cases hgn:goesN c.pb t2.nm (.s y)
      ·have hb:storeB c.pb W2.rows t (.int z)=true:=stBi hes hr h0 (hg.trans hgn);refine c_stop (by lia) ?_;exact qe 4 _ _ T2 st.bad rfl (by refine rwE (k1 hb) ?_; rfl)
      ·have hb:storeB c.pb W2.rows t (.int z)=false:=stBi hes hr h0 (hg.trans hgn);conv=>whnf
       refine rwE (cut_arr ..) ?_;refine l_seen (by lia) hvy fun T4=>?_;conv=>whnf
       refine rwE (o_rslots hj) ?_;refine⟨hz.2.1,by lia,by lia,?_⟩;refine rwE (k3 ..) ?_;refine kf fun kG=>?_;obtain⟨q1,q2⟩:=endit (fun v=>Q (.ok v)) _ (fin hb T4);refine kG ?_; clear kG;exact dI q1 q2
     ·replace h0:z=0:=h0;have hb:storeB c.pb W2.rows t (.int z)=false:=stBz h0;conv=>whnf
      refine rwE (cut_arr ..) ?_;refine l_seen (by lia) hvy fun T4=>?_;conv=>whnf
      refine rwE (o_rslots hj) ?_;refine⟨hz.2.1,by lia,by lia,?_⟩;refine rwE (k3 ..) ?_;refine kf fun kG=>?_;obtain⟨q1,q2⟩:=endit (fun v=>Q (.ok v)) _ (fin hb T4);refine kG ?_; clear kG;exact dI q1 q2
   ·rw[r2] at qe;refine oKi (badT_err b2) ?_;exact qe p _ W2 T2 (s1.trans s2) b2 rfl
  ·have hel:elemS c.u x ai zi W1.rows=(.err p,W1.rows):=by simp only[elemS,hl]
   rw[hel] at qe;refine oKi (badT_err (W:={ W1 with bad:=errS p }) rfl) ?_;exact qe p _ _ T1 s1.bad rfl rfl
 ·rw[r1] at qe;refine⟨rfl,?_⟩;refine dF (by refine rwE b1 ?_; exact errS_ne p) ?_;refine oKi (badT_err b1) ?_;exact qe p _ W1 T1 s1 b1 rfl⟩
end
section
variable {l:Addr} {zs:List Int} {n:Nat} {c:Cst} {W:Wd} {T:List AO}
theorem l_box_ref (hn:5≤n) {nm:Nm} {v:AV} {Q:Post} (hr:refers nm=true) (q:Q (.ok v) (mk c W T)):wpF (sta l zs) funs n 1534 [.ref (.f 90),.str (nmT nm),v] Q (mk c W T):=by
 refine prC hn rfl fun m hn=>?_;refine unf (d:=⟨3,b1534⟩) rfl rfl ?_;refine (n_refersB (fB hn rfl) hr).ok ?_;exact q
theorem lm_ok:∀s:Sen,LM l zs c s
 |.held nm v=>fun n W T hn P w=>⟨fun Q qo qe=>by
  refine prC hn rfl fun m hn=>?_;refine unf (d:=⟨2,b1597⟩) rfl rfl ?_;exact qo v W T P.self P.bad rfl⟩
 |.elem x a i=>fun n W T hn P w=>⟨fun Q qo qe=>by
  dsimp only[size] at hn P;refine prC hn rfl fun m hn=>?_;refine unf (d:=⟨2,b1597⟩) rfl rfl ?_;exact (l_item_elem (lm_ok a) (lm_ok i) (by lia) (P.drop (by lia)) w).run _ qo qe⟩
 |.asg x a i v=>fun n W T hn P w=>⟨fun Q qo qe=>by
  dsimp only[size] at hn P;refine prC hn rfl fun m hn=>?_;refine unf (d:=⟨2,b1597⟩) rfl rfl ?_;exact (l_item_asg (lm_ok a) (lm_ok i) (lm_ok v) (by lia) (P.drop (by lia)) w).run _ qo qe⟩
 |.comp x a i v post=>fun n W T hn P w=>⟨fun Q qo qe=>by
  dsimp only[size] at hn P;refine prC hn rfl fun m hn=>?_;refine unf (d:=⟨2,b1597⟩) rfl rfl ?_;exact (l_item_comp (lm_ok a) (lm_ok i) (lm_ok v) (by lia) (P.drop (by lia)) w).run _ qo qe⟩
 |.len a=>fun n W T hn P w=>⟨fun Q qo qe=>by
  dsimp only[size] at hn P;refine prC hn rfl fun m hn=>?_;obtain⟨w1,x,w2⟩:=w;have hP:=P.t;refine unf (d:=⟨2,b1597⟩) rfl rfl ?_;refine (lm_ok a m W T (by lia) (P.drop (by lia)) w1).run _ (fun va W1 T1 s1 b1 r1=>?_) (fun p v W1 T1 s1 b1 r1=>?_)
  ·refine E04 ((sem_good c.u c.pb a W.rows P.wl w1).at r1) fun g1 e1 l1 v1=>?_;rw[w2] at v1;refine (arr_atI v1) fun ai eq1 _ _ ha=>?_; subst eq1;have hsem:sem c.u c.pb (.len a) W.rows=lenS ai W1.rows:=sB r1;rw[hsem] at qo qe;refine oKi (badT_ok b1) ?_;refine dI (fun h0=>?_) (fun h0=>?_)
   ·replace h0:ai≠0:=h0;refine E23 (ha h0) fun t y ht _ _=>?_;refine (thI_atI ht) fun _ hj _=>?_;have hsl:=(WL.at g1 ht).1;refine oKi (row_get ht (by lia)) ?_;refine oKi (len_list (o_rslots hj) (by lia)) ?_;exact qo _ W1 T1 s1 b1 (by simp[lenS,h0,slotsI,ht])
   ·replace h0:¬ai≠0:=h0;have h0':ai=0:=by lia
    refine c_stop (fB hn rfl) ?_;exact qe 0 _ _ T1 s1.bad rfl (by simp[lenS,h0'])
  ·conv=>whnf
   refine oKi (badT_err b1) ?_;exact qe p _ W1 T1 s1 b1 (sB r1)⟩
 |.new x i=>fun n W T hn P w=>⟨fun Q qo qe=>by
  dsimp only[size] at hn P;refine prC hn rfl fun m hn=>?_;obtain⟨w1,w2⟩:=w;refine unf (d:=⟨2,b1597⟩) rfl rfl ?_;refine (lm_ok i m W T (by lia) (P.drop (by lia)) w1).run _ (fun va W1 T1 s1 b1 r1=>?_) (fun p v W1 T1 s1 b1 r1=>?_)
  ·refine E04 ((sem_good c.u c.pb i W.rows P.wl w1).at r1) fun g1 e1 l1 v1=>?_;obtain⟨z,rfl⟩:=val_int (isN_idx w2) v1;have hsem:sem c.u c.pb (.new x i) W.rows=bindS (overS (nmOf i) (.int z) W1.rows) fun v L=>newS x (intV v) L:=sB (sB r1);rw[hsem] at qo qe;refine oKi (badT_ok b1) ?_;refine oKi (sAV_1 i _ _) ?_;exact (l_made (fB hn rfl) (P.go s1 b1 g1 l1 (by lia)) w2).run _ (fun v W' T' s=>qo v W' T' (s1.trans s)) fun p v W' T' s=>qe p v W' T' (s1.trans s)
  ·conv=>whnf
   refine oKi (badT_err b1) ?_;exact qe p _ W1 T1 s1 b1 (sB (sB r1))⟩
 |.cast nm s=>fun n W T hn P w=>⟨fun Q qo qe=>by
  dsimp only[size] at hn P;refine prC hn rfl fun m hn=>?_;obtain⟨w1,w2⟩:=w;refine unf (d:=⟨2,b1597⟩) rfl rfl ?_;refine (lm_ok s m W T (by lia) (P.drop (by lia)) w1).run _ (fun va W1 T1 s1 b1 r1=>?_) (fun p v W1 T1 s1 b1 r1=>?_)
  ·refine E04 ((sem_good c.u c.pb s W.rows P.wl w1).at r1) fun g1 e1 l1 v1=>?_;rw[w2] at v1;refine E12 (val_o v1) fun i eq1 hi=>?_; subst eq1;have hsem:sem c.u c.pb (.cast nm s) W.rows=fromS c.u c.pb nm i W1.rows:=sB r1;rw[hsem] at qo qe;refine oKi (badT_ok b1) ?_;refine oKi (sAV_1 s _ _) ?_;refine rwE w2 ?_;refine l_box_ref (nm:=.s .o) (fB hn rfl) rfl ?_;exact (l_from (fB hn rfl) (P.go s1 b1 g1 l1 (by lia)) hi).run _ (fun v W' T' s=>qo v W' T' (s1.trans s)) fun p v W' T' s=>qe p v W' T' (s1.trans s)
  ·conv=>whnf
   refine oKi (badT_err b1) ?_;exact qe p _ W1 T1 s1 b1 (sB r1)⟩
 |.box s=>fun n W T hn P w=>⟨fun Q qo qe=>by
  dsimp only[size] at hn P;refine prC hn rfl fun m hn=>?_;obtain⟨w1,w2⟩:=w;refine unf (d:=⟨2,b1597⟩) rfl rfl ?_;refine (lm_ok s m W T (by lia) (P.drop (by lia)) w1).run _ (fun va W1 T1 s1 b1 r1=>?_) (fun p v W1 T1 s1 b1 r1=>?_)
  ·refine E04 ((sem_good c.u c.pb s W.rows P.wl w1).at r1) fun g1 e1 l1 v1=>?_;have hr:refers (nmOf s)=false:=by
    rcases w2 with⟨x,e,hx⟩|hq
    ·(refine rwE e ?_); cases x<;>first|rfl|cases hx
    ·exact isQ_refers hq
   have hsem:sem c.u c.pb (.box s) W.rows=boxV (nmOf s) va W1.rows:=(sB r1).trans (by simp only[boxV,hr]; rfl);rw[hsem] at qo qe;refine oKi (badT_ok b1) ?_;refine oKi (sAV_1 s _ _) ?_;exact (l_boxed (fB hn rfl) (P.go s1 b1 g1 l1 (by lia)) v1).run _ (fun v W' T' s=>qo v W' T' (s1.trans s)) fun p v W' T' s=>qe p v W' T' (s1.trans s)
  ·conv=>whnf
   refine oKi (badT_err b1) ?_;exact qe p _ W1 T1 s1 b1 (sB r1)⟩
 |.wrap nm s=>fun n W T hn P w=>⟨fun Q qo qe=>by
  dsimp only[size] at hn P;refine prC hn rfl fun m hn=>?_;obtain⟨w1,w2⟩:=w;refine unf (d:=⟨2,b1597⟩) rfl rfl ?_;refine (lm_ok s m W T (by lia) (P.drop (by lia)) w1).run _ (fun va W1 T1 s1 b1 r1=>?_) (fun p v W1 T1 s1 b1 r1=>?_)
  ·conv=>whnf
   refine oKi (badT_ok b1) ?_;exact qo _ W1 T1 s1 b1 (sB r1)
  ·conv=>whnf
   refine oKi (badT_err b1) ?_;exact qe p _ W1 T1 s1 b1 (sB r1)⟩
 |.value nm s=>fun n W T hn P w=>⟨fun Q qo qe=>by
  dsimp only[size] at hn P;refine prC hn rfl fun m hn=>?_;refine E03 w fun w1 w2 w3=>?_;refine unf (d:=⟨2,b1597⟩) rfl rfl ?_;refine (lm_ok s m W T (by lia) (P.drop (by lia)) w1).run _ (fun va W1 T1 s1 b1 r1=>?_) (fun p v W1 T1 s1 b1 r1=>?_)
  ·refine E04 ((sem_good c.u c.pb s W.rows P.wl w1).at r1) fun g1 e1 l1 v1=>?_;refine oKi (badT_ok b1) ?_;rcases val_q w2 v1 with rfl|⟨z,rfl⟩
   ·conv=>whnf
    refine c_stop (fB hn rfl) ?_;exact qe 5 _ _ T1 s1.bad rfl (sB r1)
   ·conv=>whnf
    exact qo _ W1 T1 s1 b1 (sB r1)
  ·conv=>whnf
   refine oKi (badT_err b1) ?_;exact qe p _ W1 T1 s1 b1 (sB r1)⟩
 |.num x s chk=>fun n W T hn P w=>⟨fun Q qo qe=>by
  dsimp only[size] at hn P;refine prC hn rfl fun m hn=>?_;refine E03 w fun w1 w2 w3=>?_;refine unf (d:=⟨2,b1597⟩) rfl rfl ?_;refine (lm_ok s m W T (by lia) (P.drop (by lia)) w1).run _ (fun va W1 T1 s1 b1 r1=>?_) (fun p v W1 T1 s1 b1 r1=>?_)
  ·refine E04 ((sem_good c.u c.pb s W.rows P.wl w1).at r1) fun g1 e1 l1 v1=>?_;obtain⟨z,rfl⟩:=val_int w3 v1;have hsem:sem c.u c.pb (.num x s chk) W.rows=numS c.u x chk (.int z) W1.rows:=sB r1;rw[hsem] at qo qe;refine oKi (badT_ok b1) ?_;exact (l_turned (fB hn rfl) (P.go s1 b1 g1 l1 (by lia)) w2).run _ (fun v W' T' s=>qo v W' T' (s1.trans s)) fun p v W' T' s=>qe p v W' T' (s1.trans s)
  ·conv=>whnf
   refine oKi (badT_err b1) ?_;exact qe p _ W1 T1 s1 b1 (sB r1)⟩
end
section
variable {l:Addr} {zs:List Int} {n:Nat} {c:Cst} {W:Wd} {T:List AO}
def TR (l:Addr) (zs:List Int) (c:Cst) (s:Sen):Prop:=∀n W T (Q:Post),size s+5≤n→Q (.ok (tree s)) (mk c W T)→wpF (sta l zs) funs n 1604 [.ref (.f 90),sAV s] Q (mk c W T)
theorem tr_ok:∀s:Sen,TR l zs c s
 |.held nm v=>fun n W T Q hn q=>by
  dsimp only[size] at hn;obtain⟨m,rfl⟩:=pr hn;refine unf (d:=⟨2,b1604⟩) rfl rfl ?_;refine oKi (kinds_at nm) ?_;exact q
 |.elem x a i=>fun n W T Q hn q=>by
  dsimp only[size] at hn;obtain⟨m,rfl⟩:=pr hn;refine unf (d:=⟨2,b1604⟩) rfl rfl ?_;refine oKi (kinds_at (.s x)) ?_;refine tr_ok a m W T _ (by lia) ?_;refine tr_ok i m W T _ (by lia) ?_;exact q
 |.asg x a i v=>fun n W T Q hn q=>by
  dsimp only[size] at hn;obtain⟨m,rfl⟩:=pr hn;refine unf (d:=⟨2,b1604⟩) rfl rfl ?_;refine oKi (kinds_at (.s x)) ?_;refine tr_ok a m W T _ (by lia) ?_;refine tr_ok i m W T _ (by lia) ?_;refine tr_ok v m W T _ (by lia) ?_;exact q
 |.comp x a i v post=>fun n W T Q hn q=>by
  dsimp only[size] at hn;obtain⟨m,rfl⟩:=pr hn;refine unf (d:=⟨2,b1604⟩) rfl rfl ?_;refine oKi (kinds_at (.s x)) ?_;refine tr_ok a m W T _ (by lia) ?_;refine tr_ok i m W T _ (by lia) ?_;refine tr_ok v m W T _ (by lia) ?_;exact q
 |.len a=>fun n W T Q hn q=>by
  dsimp only[size] at hn;obtain⟨m,rfl⟩:=pr hn;refine unf (d:=⟨2,b1604⟩) rfl rfl ?_;refine tr_ok a m W T _ (by lia) ?_;exact q
 |.new x i=>fun n W T Q hn q=>by
  dsimp only[size] at hn;obtain⟨m,rfl⟩:=pr hn;refine unf (d:=⟨2,b1604⟩) rfl rfl ?_;refine oKi (kinds_at (.arr x)) ?_;refine tr_ok i m W T _ (by lia) ?_;exact q
 |.cast nm s=>fun n W T Q hn q=>by
  dsimp only[size] at hn;obtain⟨m,rfl⟩:=pr hn;refine unf (d:=⟨2,b1604⟩) rfl rfl ?_;refine oKi (kinds_at nm) ?_;refine tr_ok s m W T _ (by lia) ?_;replace q:Q (.ok (.tup [.int 19,.int (nmK nm),tree s,.int (bif refers nm then 3 else 5),.int 0])) (mk c W T):=q;cases hr:refers nm
  ·rw[hr] at q;refine (n_refersB (fB hn rfl) hr).ok ?_;exact q
  ·rw[hr] at q;refine (n_refersB (fB hn rfl) hr).ok ?_;exact q
 |.box s=>fun n W T Q hn q=>by
  dsimp only[size] at hn;obtain⟨m,rfl⟩:=pr hn;refine unf (d:=⟨2,b1604⟩) rfl rfl ?_;refine tr_ok s m W T _ (by lia) ?_;exact q
 |.wrap nm s=>fun n W T Q hn q=>by
  dsimp only[size] at hn;obtain⟨m,rfl⟩:=pr hn;refine unf (d:=⟨2,b1604⟩) rfl rfl ?_;refine oKi (kinds_at nm) ?_;refine tr_ok s m W T _ (by lia) ?_;exact q
 |.value nm s=>fun n W T Q hn q=>by
  dsimp only[size] at hn;obtain⟨m,rfl⟩:=pr hn;refine unf (d:=⟨2,b1604⟩) rfl rfl ?_;refine oKi (kinds_at nm) ?_;refine tr_ok s m W T _ (by lia) ?_;exact q
 |.num x s chk=>fun n W T Q hn q=>by
  dsimp only[size] at hn;obtain⟨m,rfl⟩:=pr hn;refine unf (d:=⟨2,b1604⟩) rfl rfl ?_;refine oKi (kinds_at (.s x)) ?_;refine tr_ok s m W T _ (by lia) ?_;exact q
noncomputable def placeAV (x:B0) (a i:Sen) (call:Int):AV:=.tup [.str [112,108,97,99,101],.str (nmT (.s x)),sAV a,sAV i,.int call]
theorem tr_place {x:B0} {a i:Sen} {call:Int} {Q:Post} (hn:size a+size i+6≤n) (q:Q (.ok (spotV x a i)) (mk c W T)):wpF (sta l zs) funs n 1604 [.ref (.f 90),placeAV x a i call] Q (mk c W T):=by
 obtain⟨m,rfl⟩:=pr hn;refine unf (d:=⟨2,b1604⟩) rfl rfl ?_;refine oKi (kinds_at (.s x)) ?_;refine tr_ok a m W T _ (by lia) ?_;refine tr_ok i m W T _ (by lia) ?_;exact q
theorem truth_none {S:Stat} {H:AH}:True:=trivial
noncomputable def pOk (L:List Th) (a n:Int):AV:=.tup [.int a,.int n]
theorem l_place {x:B0} {a i:Sen} {call:Int} (hn:8*(size a+size i)+24≤n) (P:LPre (size a+size i) W) (w1:WFS W.rows a) (w2:nmOf a = .arr x) (w3:WFS W.rows i) (w4:idxN (nmOf i)=true) {Q:Post}
 (qo:∀ai zi W' T',Lm W W'→W'.bad=[]→placeM c.u c.pb x a i call W.rows=(.ok (placeV ai zi),W'.rows)→lookS W'.rows ai zi=none→(∃t y,thI W'.rows ai=some t∧t.nm = .arr y∧cls y=cls x)→Q (.ok (.tup [.int ai,.int zi])) (mk c W' T'))
 (qe:∀p v W' T',Lm W W'→W'.bad=errS p→placeM c.u c.pb x a i call W.rows=(.err p,W'.rows)→Q (.ok v) (mk c W' T')) :
 wpF (sta l zs) funs n 1590 [.ref (.f 90),placeAV x a i call] Q (mk c W T):=by
 obtain⟨m,rfl⟩:=pr hn;have hP:=P.t;refine unf (d:=⟨2,b1590⟩) rfl rfl ?_;refine (l_spot (lm_ok a) (lm_ok i) (by lia) P w1 w3 w4 (fun _=>rfl) (fun _=>rfl)).run _ (fun pv W1 T1 s1 b1 r1=>?_) (fun p vx vy W1 T1 s1 b1 r1=>?_)
 ·refine E25 (spot_good P.wl w1 w2 w3 w4 r1) fun ai zi eq2 g1 e1 l1 v1=>?_; subst eq2;refine (arr_atI v1) fun _ ea _ _ ha=>?_;cases ea;have P1:LPre 0 W1:=P.go s1 b1 g1 l1 (by lia);have hM:placeM c.u c.pb x a i call W.rows=bindS (placeS W1.rows ai zi) fun v L=>fitS x call ai v L:=by rw[placeM,r1]; rfl
  rw[hM] at qo qe;refine⟨rfl,?_⟩;refine dT b1 ?_;refine l_looked (fB hn rfl) P1 (fun h=>by obtain⟨t,y,h,_⟩:=ha h; exact⟨t,h⟩) (fun hl=>?_) (fun p hl=>?_)
  ·refine E23 (ha (look_none hl).1) fun t y ht hnm hc=>?_;have hes:elemT t=y:=by unfold elemT; rw[hnm]
   have hps:placeS W1.rows ai zi=(.ok (placeV ai zi),W1.rows):=by rw[placeS,hl]
   rw[hps] at qo qe;dsimp only[bindS] at qo qe;have hu:unfit W1.rows x call ai=(decide (call=0)&&refers (.s x)&&!decide (nmK (.s y)=nmK (.s x))):=by
    rw[unfit,ht]; simp only[hes]
   have fin:unfit W1.rows x call ai=false→Q (.ok (.tup [.int ai,.int zi])) (mk c W1 T1):=fun hb =>
    qo ai zi W1 T1 s1 b1 (by rw[fitS,hb]; rfl) hl ⟨t,y,ht,hnm,hc⟩
   have bad:unfit W1.rows x call ai=true→∀v,Q (.ok v) (mk c { W1 with bad:=errS 4 } T1):=fun hb v =>
    qe 4 v _ T1 s1.bad rfl (by rw[fitS,hb]; rfl)
   rw[hu] at fin bad;refine dT b1 ?_;refine dNI (fun h0=>?_) (fun h0=>?_)
   ·replace h0:¬call≠0:=h0;have h0':call=0:=by lia
    cases hr:refers (.s x)
    ·refine (n_refersB (fB hn rfl) hr).ok ?_;exact fin (by simp[hr])
    ·refine (n_refersB (fB hn rfl) hr).ok ?_;refine oKi (row_get ht (by lia)) ?_;refine rwE hnm ?_;conv=>whnf
     refine rwE (cut_arr ..) ?_;refine dNI (fun h4=>?_) (fun h4=>?_)
     ·have h4':¬nmK (.s y)=nmK (.s x):=fun e=>h4 (congrArg nmT (nmK_inj e));refine c_stop (fB hn rfl) ?_;exact bad (by simp[h0',hr,h4']) _
     ·have h4':nmK (.s y)=nmK (.s x):=congrArg nmK (nmT_inj h4);exact fin (by simp[h4'])
   ·replace h0:call≠0:=h0;exact fin (by simp[h0])
  ·have hps:placeS W1.rows ai zi=(.err p,W1.rows):=by rw[placeS,hl]
   rw[hps] at qe;refine dF (errS_ne p) ?_;exact qe p _ _ T1 s1.bad rfl rfl
 ·have hM:placeM c.u c.pb x a i call W.rows=(.err p,W1.rows):=by rw[placeM,r1]; rfl
  refine⟨rfl,?_⟩;refine dF (by refine rwE b1 ?_; exact errS_ne p) ?_;refine dF (by refine rwE b1 ?_; exact errS_ne p) ?_;exact qe p _ W1 T1 s1 b1 hM
end
section
variable {l:Addr} {zs:List Int} {Q:Post} {n:Nat} {c:Cst} {W:Wd} {T:List AO}
theorem c_addL (hn:1≤n) {nm:Nm} {sl:List AV} {tx:Option (List Nat)} (hp:W.pend3=none) (hl:W.rows.length≤89900) (ha:AOk W.rows W.arrays)
 (q:∀i W',i=(W.rows.length:Int)+1→Lm W W'→W'.bad=W.bad→W'.rows=W.rows++[⟨nm,sl,tx⟩]→Q (.ok (.int i)) (mk c W' T)) :
 wpF (sta l zs) funs n 1485 [.ref (.f 90),.str (nmT nm),.ref (.r 3 W.rows.length),textV tx] Q (mk c { W with pend3:=some sl } T) :=
 c_add (W:={ W with pend3:=some sl }) hn rfl (by dsimp only; lia) ha.len fun i hi=>q i _ hi ⟨rfl,rfl,rfl,rfl,rfl,rfl,rfl,rfl,ha.app ⟨nm,sl,tx⟩⟩ rfl rfl
noncomputable def eb:List MS:=match b1611 with
 |_::.forr _ _ b::_=>b
 |_=>[]
theorem eb_is:b1611=[.asg (.loc 2) (.len (.sub (.loc 0) (.val (.str [114,111,119,115])))),.forr 3 (.range [.val (.int 7)]) eb,.ret (.loc 2)]:=by rfl
noncomputable def rowE (p:Fin 7):AV:=.tup [.str (errS p),.int (tidE p),.str (wordsE p)]
noncomputable def eb':List MS:=[.ife (.cmp .eq (.sub (.sub (.val (.tup [rowE 0,rowE 1,rowE 2,rowE 3,rowE 4,rowE 5,rowE 6])) (.loc 3)) (.val (.int 0))) (.loc 1))
 [.expr (.call 1485 [.loc 0,.loc 1,.sub (.tup [.list [.bin .add (.loc 2) (.val (.int 1)),.val (.int 0)],.list [.val (.int 0),.bin .add (.loc 2) (.val (.int 1)),.val (.int 0)]]) (.sub (.sub (.loc 0) (.val (.str [102,111,114,109,115]))) (.loc 3)),.val .none]),
  .expr (.call 1485 [.loc 0,.val (.str [116]),.list [],.sub (.sub (.val (.tup [rowE 0,rowE 1,rowE 2,rowE 3,rowE 4,rowE 5,rowE 6])) (.loc 3)) (.val (.int 2))])] []]
theorem eb_eq:eb=eb':=by kernel_rfl
noncomputable abbrev wT:AV:=.tup [rowE 0,rowE 1,rowE 2,rowE 3,rowE 4,rowE 5,rowE 6]
theorem w_at (S:Stat) (H:AH) (p:Fin 7):getI S H wT (.int (p.val:Int))=some (rowE p):=by
 match p with
 |0=>kernel_rfl
 |1=>kernel_rfl
 |2=>kernel_rfl
 |3=>kernel_rfl
 |4=>kernel_rfl
 |5=>kernel_rfl
 |6=>kernel_rfl
theorem f_at (p:Fin 7):getI (sta l zs) (mk c W T) (.ref (.f 89)) (.int (p.val:Int))=some (.int (formI (c.fm p.val))):=by
 match p with
 |0=>kernel_rfl
 |1=>kernel_rfl
 |2=>kernel_rfl
 |3=>kernel_rfl
 |4=>kernel_rfl
 |5=>kernel_rfl
 |6=>kernel_rfl
theorem errS_inj {p k:Fin 7} (h:errS k=errS p):k=p:=by revert p k; decide
theorem e_skip {p k:Fin 7} {i:Int} {C:Callee} {X Y:Loc→AV→AH→Prop} {N:Loc→AH→Prop} {R:AV→AH→Prop} {ρ:Loc} {H:AH} (hi:i=(k.val:Int)) (hne:k≠p) (h1:ρ 1=some (.str (errS p))) (q:N (setL ρ 3 (.int i)) H):swps (sta l zs) C eb X Y (setL ρ 3 (.int i)) N R H:=by
 have hw:=fun S H=>w_at S H k;rw[←hi] at hw;refine rwE eb_eq ?_;refine oKi (hw _ _) ?_;refine oKi h1 ?_;refine dF (p:=errS k=errS p) (fun e=>hne (errS_inj e)) ?_;exact q
theorem e_hit {p:Fin 7} {X Y:Loc→AV→AH→Prop} {N:Loc→AH→Prop} {R:AV→AH→Prop} {ρ:Loc} {k i:Int} (hi:i=(p.val:Int)) (hn:2≤n) (hk2:k+1=(W.rows.length:Int)+2) (p3:W.pend3=none) (hl:W.rows.length≤89000) (ha:AOk W.rows W.arrays) (h0:ρ 0=some (.ref (.f 90))) (h1:ρ 1=some (.str (errS p))) (h2:ρ 2=some (.int k))
 (q:∀W':Wd,Lm W W'→W'.rows=W.rows++errL c p W.rows.length→N (setL ρ 3 (.int i)) (mk c W' T)):swps (sta l zs) (wpF (sta l zs) funs n) eb X Y (setL ρ 3 (.int i)) N R (mk c W T):=by
 have hw:=fun S H=>w_at S H p;have hf:=fun W T=>f_at (l:=l) (zs:=zs) (c:=c) (W:=W) (T:=T) p;rw[←hi] at hw;simp only[←hi] at hf;rw[eb_eq];cases hb:c.fm p.val
 all_goals
  rw[hb] at hf;refine oKi (hw _ _) ?_;refine oKi h1 ?_;refine dT (p:=errS p=errS p) rfl ?_;refine oKi h0 ?_;refine oKi h1 ?_;refine oKi h2 ?_
 ·refine .inr ⟨_,p3_new p3,?_⟩;rw[u_p3 p3];refine oKi h2 ?_;refine .inl ?_;refine oKi h0 ?_;refine oKi (hf _ _) ?_;refine c_addL (nm:=.err p) (tx:=none) (sl:=[.int (k+1),.int 0]) (by lia) p3 (by lia) ha fun i1 W1 hi1 s1 b1 r1=>?_;have l1:W1.rows.length=W.rows.length+1:=by rw[r1]; simp
  refine oKi h0 ?_;refine .inr ⟨_,p3_new s1.p3,?_⟩;rw[u_p3 s1.p3];refine oKi (hw _ _) ?_;refine c_addL (nm:=.t) (tx:=some (wordsE p)) (sl:=[]) (by lia) s1.p3 (by lia) s1.a fun i2 W2 hi2 s2 b2 r2=>?_;refine q W2 (s1.trans s2) ?_;rw[r2,r1,hk2];simp only[errL,hb,errS',List.append_assoc,List.singleton_append]
 ·refine .inl ?_;refine oKi h2 ?_;refine .inr ⟨_,p3_new p3,?_⟩;rw[u_p3 p3];refine oKi h0 ?_;refine oKi (hf _ _) ?_;refine c_addL (nm:=.err p) (tx:=none) (sl:=[.int 0,.int (k+1),.int 0]) (by lia) p3 (by lia) ha fun i1 W1 hi1 s1 b1 r1=>?_;have l1:W1.rows.length=W.rows.length+1:=by rw[r1]; simp
  refine oKi h0 ?_;refine .inr ⟨_,p3_new s1.p3,?_⟩;rw[u_p3 s1.p3];refine oKi (hw _ _) ?_;refine c_addL (nm:=.t) (tx:=some (wordsE p)) (sl:=[]) (by lia) s1.p3 (by lia) s1.a fun i2 W2 hi2 s2 b2 r2=>?_;refine q W2 (s1.trans s2) ?_;rw[r2,r1,hk2];simp only[errL,hb,errS',List.append_assoc,List.singleton_append]
theorem e_loop {p:Fin 7} {f:Fin 7→Int} (hf:∀k,f k=(k.val:Int)) {X Y:Loc→AV→AH→Prop} {R:AV→AH→Prop} {k:Int} {N:Loc→AH→Prop} (hn:2≤n) (hk2:k+1=(W.rows.length:Int)+2) (p3:W.pend3=none) (hl:W.rows.length≤89000) (ha:AOk W.rows W.arrays)
 (q:∀ρ (W':Wd),ρ 2=some (.int k)→Lm W W'→W'.rows=W.rows++errL c p W.rows.length→N ρ (mk c W' T)) :
 ∀(ks:List (Fin 7)) (ρ:Loc) (W1:Wd),ks.Nodup→ρ 0=some (.ref (.f 90))→ρ 1=some (.str (errS p))→ρ 2=some (.int k)→((p∈ks∧W1=W)∨(p ∉ ks∧Lm W W1∧W1.rows=W.rows++errL c p W.rows.length)) →
  List.foldr (fun v (k:Loc→AH→Prop) ρ=>swps (sta l zs) (wpF (sta l zs) funs n) eb X Y (setL ρ 3 v) k R) N (ks.map fun k=>.int (f k)) ρ (mk c W1 T)
 |[],ρ,W1,_,_,_,h2,h=>by
  rcases h with⟨h,_⟩|⟨_,s,r⟩
  ·cases h
  ·exact q ρ W1 h2 s r
 |j::ks,ρ,W1,hd,h0,h1,h2,h=>by
  simp only[List.map_cons,List.foldr_cons];obtain⟨d1,d2⟩:=List.nodup_cons.mp hd;by_cases e:j=p
  ·rw[e] at d1 h ⊢;rcases h with⟨_,hW⟩|⟨h,_⟩
   ·refine rwE hW ?_;exact e_hit (hf _) hn hk2 p3 hl ha h0 h1 h2 fun W' s r=>e_loop hf hn hk2 p3 hl ha q ks _ W' d2 h0 h1 h2 (.inr ⟨d1,s,r⟩)
   ·exact absurd (.head _) h
  ·refine e_skip (hf _) e h1 (e_loop hf hn hk2 p3 hl ha q ks _ W1 d2 h0 h1 h2 ?_);rcases h with⟨h,hw⟩|⟨h,hw⟩
   ·rcases List.mem_cons.mp h with h|h
    ·exact absurd h.symm e
    ·exact .inl ⟨h,hw⟩
   ·exact .inr ⟨fun hm=>h (.tail _ hm),hw⟩
theorem l_error (hn:3≤n) (p:Fin 7) (p3:W.pend3=none) (hl:W.rows.length≤89000) (ha:AOk W.rows W.arrays)
 (q:∀(k:Int) (W':Wd),k=(W.rows.length:Int)+1→Lm W W'→W'.rows=W.rows++errL c p W.rows.length→Q (.ok (.int k)) (mk c W' T)):wpF (sta l zs) funs n 1611 [.ref (.f 90),.str (errS p)] Q (mk c W T):=by
 refine prC hn rfl fun m hn=>?_;refine unf (d:=⟨2,b1611⟩) rfl rfl ?_;refine rwE (show (Fun.mk 2 b1611).body=b1611 from rfl) ?_; refine rwE eb_is ?_;refine oKi (len_rows (by lia)) ?_;generalize hk:((W.rows.length+1:Nat):Int)=k;have hk':k=(W.rows.length:Int)+1:=by lia
 have hk2:k+1=(W.rows.length:Int)+2:=by lia
 refine⟨by decide,by decide,?_⟩;refine rwE (show rangeL 0 7=(List.finRange 7).map fun k=>AV.int (k.val:Int) from rfl) ?_;refine e_loop (p:=p) (f:=fun k=>(k.val:Int)) (fun _=>rfl) (fB hn rfl) hk2 p3 hl ha (fun ρ W' h2 s r=>?_) (List.finRange 7) _ W (by decide) rfl rfl rfl (.inl ⟨List.mem_finRange p,rfl⟩);refine oKi h2 ?_;exact q k W' hk' s r
end
def isD (v:AV):Prop:=(∃z,v = .int z)∨∃a b,v = .tup [.int a,.int b]
theorem val_d {L:List Th} {nm:Nm} {v:AV} (h:Val L nm v):isD v:=by
 unfold Val at h;generalize isN nm=n at h;generalize isQ nm=q at h;cases n
 ·cases q
  ·obtain⟨i,h,_⟩:=h; exact .inl ⟨i,h⟩
  ·rcases h with h|⟨z,h⟩
   ·exact .inr ⟨0,0,h⟩
   ·exact .inr ⟨1,z,h⟩
 ·exact .inl h
theorem tok_d {L:List Th} {t:Th} (h:TOk L t):∀v∈t.slots,isD v:=by
 obtain⟨tn,ts,tt⟩:=t;intro v (hv:v∈ts);replace h:=h.2;induction tn using Nm.casesOn with
 |arr y=>exact val_d (h v hv)
 |s x =>
  rcases h with⟨_,z,e⟩|⟨_,e⟩
  ·dsimp only at e; rw[e] at hv; simp at hv; exact .inl ⟨z,hv⟩
  ·dsimp only at e; rw[e] at hv; cases hv
 |err p=>exact .inl (h v hv)
 |t=>rw[show ts=[] from h] at hv; cases hv
 |_=>exact absurd h fun h=>h
theorem d_data {v:AV} (h:isD v):isData v=true∧deep v≤1∧avEq v v=true:=by
 rcases h with⟨z,rfl⟩|⟨a,b,rfl⟩
 ·exact⟨rfl,Nat.zero_le _,decide_eq_true rfl⟩
 ·exact⟨rfl,Nat.le_refl 1,by show (decide (a=a)&&(decide (b=b)&&true))=true; simp⟩
theorem ds_data:∀{s:List AV},(∀v∈s,isD v)→areData s=true∧deeps s≤1∧avEqs s s=true
 |[],_=>⟨rfl,by decide,rfl⟩
 |v::r,h=>by
  refine E03 (d_data (h v (.head _))) fun a1 a2 a3=>?_;refine E03 (ds_data (s:=r) fun w hw=>h w (.tail _ hw)) fun b1 b2 b3=>?_;exact⟨Bool.and_eq_true_iff.mpr ⟨a1,b1⟩,Nat.max_le.mpr ⟨a2,b2⟩,Bool.and_eq_true_iff.mpr ⟨a3,b3⟩⟩
theorem eq_lists {S:Stat} {H:AH} {x y:AA} {s:List AV} (h1:H x=some (.list s)) (h2:H y=some (.list s)) (hd:∀v∈s,isD v):cmpA S H .ne (.ref x) (.ref y)=some false:=by
 refine E03 (ds_data hd) fun a1 a2 a3=>?_;have e:deeps s≤8:=by lia
 show Option.map (!·) (match H x with
  |some (.list l)=>(match H y with
   |some (.list r)=>if areData l&&areData r&&decide (deeps l≤8)&&decide (deeps r≤8) then some (avEqs l r) else none
   |_=>none)
  |_=>none)=_
 rw[h1,h2];exact congrArg (Option.map (!·)) ((if_pos (by simp only[a1,decide_eq_true e,Bool.and_self])).trans (congrArg some a3))
theorem eq_val {S:Stat} {H:AH} {v:AV} (h:isD v):cmpA S H .eq v v=some true:=by
 rcases h with⟨z,rfl⟩|⟨a,b,rfl⟩
 ·exact congrArg some (decide_eq_true (rfl:z=z))
 ·exact congrArg some (by simp:(decide (a=a)&&(decide (b=b)&&true))=true)
theorem cmp_int {S:Stat} {H:AH} {i k:Int} (h:i=k):cmpA S H .eq (.int i) (.int k)=some true:=by
 subst h; exact congrArg some (decide_eq_true (rfl:i=i))
noncomputable def tag:Sen→List Nat
 |.held _ _=>[104,101,108,100]|.elem _ _ _=>[101,108,101,109]|.asg _ _ _ _=>[97,115,115,105,103,110]|.comp _ _ _ _ _=>[99,111,109,112,111,117,110,100]
 |.len _=>[108,101,110]|.new _ _=>[110,101,119]|.cast _ _=>[99,97,115,116]|.box _=>[98,111,120]|.wrap _ _=>[119,114,97,112]|.value _ _=>[118,97,108,117,101]|.num _ _ _=>[110,117,109]
theorem sAV_0 (s:Sen) (S:Stat) (H:AH):getI S H (sAV s) (.int 0)=some (.str (tag s)):=by cases s<;>rfl
theorem tag_ne (s:Sen):decide (tag s=[112,108,97,99,101])=false:=by cases s<;>rfl
set_option genCtorIdx false in
inductive TopS where
 |ev (s:Sen)
 |pl (x:B0) (a i:Sen) (call:Int)
noncomputable def tAV:TopS→AV
 |.ev s=>sAV s
 |.pl x a i call=>placeAV x a i call
noncomputable def WFT (L:List Th):TopS→Prop
 |.ev s=>WFS L s∧size s≤15
 |.pl x a i _=>WFS L a∧nmOf a = .arr x∧WFS L i∧idxN (nmOf i)=true∧size a+size i≤15
structure Inv (L0:List Th) (k:Nat) (W:Wd):Prop where
 rt:W.things=W.rows
 wl:WL W.rows
 a:AOk W.rows W.arrays
 p2:W.pend2=none
 p3:W.pend3=none
 d:DefsOk W.defaults
 s:W.steps≤20*k
 h:W.holes.length≤20*k
 l:W.rows.length≤14+20*k
 at':0≤W.at'
 e:ThE L0 W.rows
theorem err_wl {c:Cst} {p:Fin 7} {L:List Th} (h:WL L):WL (L++errL c p L.length):=by
 have e:L++errL c p L.length=(L++[⟨.err p,errS' (c.fm p.val) ((L.length:Int)+2),none⟩])++[⟨.t,[],some (wordsE p)⟩]:=by simp[errL]
 refine rwE e ?_;refine WL.app (WL.app h ⟨?_,?_⟩) ⟨by simp,rfl⟩
 ·cases c.fm p.val<;>simp[errS']
 ·intro v hv;cases hb:c.fm p.val<;>rw[hb] at hv<;>simp[errS'] at hv
  ·rcases hv with e|e<;>exact⟨_,e⟩
  ·rcases hv with e|e|e<;>exact⟨_,e⟩
section
variable {l:Addr} {zs:List Int} {n:Nat} {c:Cst} {W:Wd} {T:List AO}
theorem Inv.pre {L0:List Th} {k m:Nat} (I:Inv L0 k W) (hk:k≤60) (hm:m≤20):Pre m { W with nested:=0 } :=
 ⟨I.p2,I.d,by have:=I.s; dsimp only; lia,by dsimp only; lia,by have:=I.l; dsimp only; refine rwE I.rt ?_; lia,by have:=I.h; dsimp only; lia,by dsimp only; refine rwE I.rt ?_; exact I.wl⟩
theorem c_run_ev {L0:List Th} {k:Nat} {s:Sen} {Q:Post} (hn:182≤n) (hk:k≤60) (I:Inv L0 k W) (w:WFS W.rows s) (hs15:size s≤15) (q:∀W' T',Inv L0 (k+1) W'→Q (.ok (.bool true)) (mk c W' T')) :
 wpF (sta l zs) funs n 1625 [.ref (.f 90),sAV s] Q (mk c W T):=by
 refine prC hn rfl fun m hn=>?_;have hl:=I.l;have hrt:=I.rt;refine unf (d:=⟨2,b1625⟩) rfl rfl ?_;refine⟨of_decide_eq_true rfl,rfl,?_⟩;refine rwE u_nested ?_;refine tr_ok s m _ _ _ (by lia) ?_;refine⟨rfl,rfl,by decide,?_⟩;refine oKi (sAV_0 s _ _) ?_;refine bF2 (tag_ne s) ?_;have G:=sem_good c.u c.pb s W.rows I.wl w;have hst:∀W',Same (size s) { W with nested:=0 } W'→W'.rows=W.rows∧W'.arrays=W.arrays∧W'.at'=W.at'∧W'.pend2=none∧W'.pend3=none∧DefsOk W'.defaults∧W'.steps≤20*(k+1:Nat)∧W'.holes.length≤20*(k+1):=fun W' h=>by
  have h1:=h.s1; have h2:=h.h; have h3:=I.s; have h4:=I.h;skip
  exact⟨h.rows,h.arrays,h.at',h.p2,h.p3.trans I.p3,h.d,by lia,by lia⟩
 refine (ev_ok s m { W with nested:=0 } T (by lia) (I.pre hk (by lia)) (by dsimp only; refine rwE hrt ?_; exact w)).run _ (fun v W1 T1 s1 hv1 n1 h1=>?_) (fun p W1 T1 i L' s1 hv1 ht hi=>?_)
 ·obtain⟨f1,f2,f3,f4,f5,f6,f7,f8⟩:=hst W1 s1;skip
  rw[hrt] at hv1;refine E04 (G.at hv1) fun g1 e1 l1 v1=>?_;refine⟨of_decide_eq_true rfl,?_⟩;refine rwE u_bad ?_;refine oKi (sAV_0 s _ _) ?_;refine bF2 (tag_ne s) ?_;have LP:LPre (size s) { W1 with bad:=[] }:=⟨rfl,f5,by dsimp only; refine rwE f1 ?_; refine rwE f2 ?_; exact I.a,by dsimp only; refine rwE f1 ?_; lia,by dsimp only; refine rwE f1 ?_; exact I.wl⟩;refine (lm_ok s m { W1 with bad:=[] } T1 (by lia) LP (by dsimp only; refine rwE f1 ?_; exact w)).run _ (fun v2 W2 T2 s2 b2 r2=>?_) (fun p v2 W2 T2 s2 b2 r2=>?_)
  ·skip
   rw[f1,hv1] at r2;obtain⟨r3,r4⟩:=Prod.mk.inj r2;cases r3;refine oKi (badT_ok b2) ?_;refine oKi (sAV_0 s _ _) ?_;refine bF2 (tag_ne s) ?_;refine oKi (eq_val (val_d v1)) ?_;refine q W2 T2 ⟨s2.things.trans r4,by refine rwS r4 ?_; exact g1,s2.a,s2.p2.trans f4,s2.p3,by refine rwE s2.defaults ?_; exact f6,by refine rwE s2.steps ?_; exact f7,by refine rwE s2.holes ?_; exact f8,by refine rwS r4 ?_; lia,by refine rwE s2.at' ?_; dsimp only; refine rwE f3 ?_; exact I.at',by refine rwS r4 ?_; exact I.e.trans e1⟩
  ·skip
   rw[f1,hv1] at r2;cases (Prod.mk.inj r2).1
 ·obtain⟨f1,f2,f3,f4,f5,f6,f7,f8⟩:=hst W1 s1;skip
  rw[hrt] at hv1;rw[hv1] at G;refine E04 G fun g1 e1 l1 _=>?_;skip
  refine⟨rfl,?_⟩;refine⟨of_decide_eq_true rfl,?_⟩;refine rwE u_bad ?_;refine oKi (sAV_0 s _ _) ?_;refine bF2 (tag_ne s) ?_;have LP:LPre (size s) { W1 with bad:=[] }:=⟨rfl,f5,by dsimp only; refine rwE f1 ?_; refine rwE f2 ?_; exact I.a,by dsimp only; refine rwE f1 ?_; lia,by dsimp only; refine rwE f1 ?_; exact I.wl⟩;refine (lm_ok s m { W1 with bad:=[] } T1 (by lia) LP (by dsimp only; refine rwE f1 ?_; exact w)).run _ (fun v2 W2 T2 s2 b2 r2=>?_) (fun p v2 W2 T2 s2 b2 r2=>?_)
  ·skip
   rw[f1,hv1] at r2;cases (Prod.mk.inj r2).1
  ·skip
   rw[f1,hv1] at r2;obtain⟨r3,r4⟩:=Prod.mk.inj r2;cases r3;refine oKi (badT_err b2) ?_;have ex:∀x:List Nat,x=errS p→∀{Q':Post},wpF (sta l zs) funs m 1611 [.ref (.f 90),.str (errS p)] Q' (mk c W2 T2)→wpF (sta l zs) funs m 1611 [.ref (.f 90),.str x] Q' (mk c W2 T2):=fun x e Q' h=>by subst e; exact h
   refine ex _ b2 ?_;refine l_error (fB hn rfl) p s2.p3 (by refine rwS r4 ?_; lia) s2.a fun k2 W3 hk2 s3 r3=>?_;dsimp only[onRes];refine oKi (cmp_int (by refine rwE hi ?_; refine rwE hk2 ?_; refine rwE r4 ?_; rfl)) ?_;have rr:W3.rows=L'++errL c p L'.length:=by refine rwE r3 ?_; refine rwS r4 ?_; rfl
   refine q W3 T2 ⟨?_,by refine rwE rr ?_; exact err_wl g1,s3.a,(s3.p2.trans s2.p2).trans f4,s3.p3,by refine rwE s3.defaults ?_; refine rwE s2.defaults ?_; exact f6,by refine rwE s3.steps ?_; refine rwE s2.steps ?_; exact f7,by refine rwE s3.holes ?_; refine rwE s2.holes ?_; exact f8,by refine rwE rr ?_; simp[errL]; lia,by refine rwE s3.at' ?_; refine rwE s2.at' ?_; dsimp only; refine rwE f3 ?_; exact I.at',by refine rwE rr ?_; exact (I.e.trans e1).trans (ThE.app _ _)⟩;refine rwE s3.things ?_; refine rwE s2.things ?_; refine rwE rr ?_; exact ht
end
section
variable {l:Addr} {zs:List Int} {n:Nat} {c:Cst} {W:Wd} {T:List AO}
theorem none_cls {x y:B0} (h:cls x=cls y):noneV x=noneV y:=by
 cases x<;>cases y<;>first|rfl|(exact absurd h (by decide))
theorem noneS_seen (u:U4) (y:B0) (L:List Th):Val L (.s y) (noneV y):=none_val L y
theorem set_wl {L:List Th} {ai zi:Int} {t:Th} {y:B0} {v:AV} (h:WL L) (ht:thI L ai=some t) (hn:t.nm = .arr y) (hv:Val L (.s y) v):WL (setS L ai zi v)∧ThE L (setS L ai zi v):=by
 obtain⟨tn,ts,tt⟩:=t;skip
 subst hn;refine (thI_atI ht) fun h0 hj _=>?_;have e:setS L ai zi v=L.set (ai - 1).toNat ⟨.arr y,ts.set zi.toNat v,tt⟩:=by simp[setS,ht]
 have E:ThE L (L.set (ai - 1).toNat ⟨.arr y,ts.set zi.toNat v,tt⟩):=.set hj _ (by simp);refine rwE e ?_;refine⟨fun t' ht'=>?_,E⟩;rcases List.mem_or_eq_of_mem_set ht' with h1|h1
 ·exact TOk.mono E (h t' h1)
 ·subst h1;have:=WL.at h ht;refine⟨by simpa using this.1,?_⟩;intro w hw;rcases List.mem_or_eq_of_mem_set hw with h3|h3
  ·exact Val.mono E (this.2 w h3)
  ·subst h3; exact Val.mono E hv
theorem c_wiped {x:B0} {a i:Sen} {call ai zi:Int} {y:B0} {t:Th} {Q:Post} (hn:4≤n) (rt:W.things=W.rows) (wl:WL W.rows) (hle:W.rows.length≤89000) (hl:lookS W.rows ai zi=none) (ht:thI W.rows ai=some t) (hnm:t.nm = .arr y) (hc:cls y=cls x)
 (q1:Q (.ok (.bool true)) (mk c W T)) (q2:Q (.ok (.bool true)) (mk c { W with things:=setS W.rows ai zi (noneV x),rows:=setS W.rows ai zi (noneV x) } T)) :
 wpF (sta l zs) funs n 1618 [.ref (.f 90),placeAV x a i call,.tup [.int ai,.int zi],placeV ai zi] Q (mk c W T):=by
 refine kf fun kG=>?_;obtain⟨m,rfl⟩:=pr hn;refine (thI_atI ht) fun _ hj _=>?_;have hjt:W.things[(ai - 1).toNat]? = some t:=by rw[rt]; exact hj
 have hs:slotsI W.rows ai=t.slots:=by simp[slotsI,ht]
 have tok:=WL.at wl ht;have hz:=look_none hl;rw[hs] at hz;have hsl:=tok.1;refine kG ?_; clear kG;refine unf (d:=⟨4,b1618⟩) rfl rfl ?_;refine⟨rfl,?_⟩;refine oKi (row_get ht (by lia)) ?_;refine oKi (eq_lists (o_slots hjt) (o_rslots hj) (tok_d tok)) ?_;refine bF2 (congrArg (!·) (congrArg (·&&true) (decide_eq_true (rfl:zi=zi)))) ?_;refine dI (fun h0=>?_) (fun h0=>?_)
 ·exact q1
 ·conv=>whnf
  refine (n_none (fB hn rfl) x).ok ?_;conv=>whnf
  refine rwE (o_slots hjt) ?_;refine⟨hz.2.1,by lia,by lia,?_⟩;refine rwE (u_slots hjt) ?_;refine (n_none (fB hn rfl) x).ok ?_;refine oKi (row_get (W:={ W with things:=W.things.set (ai - 1).toNat { t with slots:=t.slots.set zi.toNat (noneV x) } }) ht (by dsimp only; lia)) ?_;conv=>whnf
  refine rwE (o_rslots (W:={ W with things:=W.things.set (ai - 1).toNat { t with slots:=t.slots.set zi.toNat (noneV x) } }) hj) ?_;refine⟨hz.2.1,by lia,by lia,?_⟩;refine rwE (u_rslots (W:={ W with things:=W.things.set (ai - 1).toNat { t with slots:=t.slots.set zi.toNat (noneV x) } }) hj) ?_;have e:setS W.rows ai zi (noneV x)=W.rows.set (ai - 1).toNat { t with slots:=t.slots.set zi.toNat (noneV x) }:=by simp[setS,ht]
  rw[e] at q2;refine rwE rt ?_;exact q2
theorem placeM_ok {u:U4} {pb:Bool} {x:B0} {a i:Sen} {call:Int} {L L':List Th} {v:AV} (h:WL L) (w1:WFS L a) (w2:nmOf a = .arr x) (w3:WFS L i) (w4:idxN (nmOf i)=true) (e:placeM u pb x a i call L=(.ok v,L')) :
 ∃ai zi:Int,v=placeV ai zi∧WL L'∧ThE L L'∧L'.length≤L.length+(size a+size i)∧lookS L' ai zi=none∧∃t y,thI L' ai=some t∧t.nm = .arr y∧cls y=cls x:=by
 unfold placeM at e;cases es:spotS u pb a i L with
 |mk r Ls =>
  rw[es] at e;refine kf fun kG=>?_;induction r using SR.casesOn with
  |err p =>
   cases e
  |ok p =>
   refine kG ?_; clear kG;refine E25 (spot_good h w1 w2 w3 w4 es) fun ai zi eq2 g1 e1 l1 v1=>?_; subst eq2;dsimp only[bindS,pA,pB,intV] at e;cases el:lookS Ls ai zi with
   |some p=>rw[placeS,el] at e; cases e
   |none =>
    rw[placeS,el] at e;simp only at e;refine kf fun kG=>?_;refine (arr_atI v1) fun _ ea _ _ ha=>?_;cases ea;unfold fitS at e;refine kG ?_; clear kG;cases hu:unfit Ls x call ai
    ·rw[hu] at e;simp only[cond_false] at e;refine kf fun kG=>?_;cases e;refine kG ?_; clear kG;exact⟨ai,zi,rfl,g1,e1,l1,el,ha (look_none el).1⟩
    ·rw[hu] at e;cases e
theorem placeM_err {u:U4} {pb:Bool} {x:B0} {a i:Sen} {call:Int} {L L':List Th} {p:Fin 7} (h:WL L) (w1:WFS L a) (w2:nmOf a = .arr x) (w3:WFS L i) (w4:idxN (nmOf i)=true) (e:placeM u pb x a i call L=(.err p,L')) :
 WL L'∧ThE L L'∧L'.length≤L.length+(size a+size i):=by
 have G:Good L (.s .o) (size a+size i) (placeM u pb x a i call L)∨True:=.inr trivial;unfold placeM at e;cases ea:sem u pb a L with
 |mk ra La =>
  have ga:=sem_good u pb a L h w1;rw[ea] at ga;refine kf fun kG=>?_;induction ra using SR.casesOn with
  |err p =>
   rw[show spotS u pb a i L=(.err p,La) from bE ea] at e;cases e;refine kG ?_; clear kG;exact⟨ga.1,ga.2.1,by have:=ga.2.2.1; dsimp only at this; lia⟩
  |ok va =>
   have gi:=idx_good (u:=u) (pb:=pb) (i:=i) ga.1 (w3.mono ga.2.1);refine kG ?_; clear kG;cases ei:bindS (sem u pb i La) (overS (nmOf i)) with
   |mk ri Li =>
    rw[ei] at gi;have hs:spotS u pb a i L=bindS (ri,Li) fun vi L=>(.ok (.tup [va,vi]),L):=(bO ea).trans (congrArg (bindS · _) ei);rw[hs] at e;have l1:=ga.2.2.1;have l2:=gi.2.2.1;dsimp only at l1 l2;refine kf fun kG=>?_;induction ri using SR.casesOn with
    |err p =>
     dsimp only[bindS] at e;cases e;refine kG ?_; clear kG;exact⟨gi.1,ga.2.1.trans gi.2.1,by lia⟩
    |ok vi =>
     dsimp only[bindS] at e;have fin:L'=Li:=by
      unfold placeS at e;refine kf fun kG=>?_;split at e
      ·rename_i h1
       split at h1
       ·cases h1
       ·cases h1;unfold fitS at e;refine kG ?_; clear kG;revert e; cases unfit _ x call _<;>intro e<;>cases e; rfl
      ·rename_i h1
       split at h1
       ·cases h1;cases e;refine kG ?_; clear kG;rfl
       ·cases h1
     subst fin;refine kG ?_; clear kG;exact⟨gi.1,ga.2.1.trans gi.2.1,by lia⟩
theorem Inv.next {L0:List Th} {k:Nat} {W W1 W3:Wd} (I:Inv L0 k W) (hr:W3.things=W3.rows) (wl:WL W3.rows) (a:AOk W3.rows W3.arrays) (p2:W3.pend2=none) (p3:W3.pend3=none) (d:DefsOk W3.defaults) (s:W3.steps≤20*(k+1:Nat)) (h:W3.holes.length≤20*(k+1)) (l:W3.rows.length≤14+20*(k+1)) (at':W3.at'=W.at') (e:ThE W.rows W3.rows):Inv L0 (k+1) W3 :=
 ⟨hr,wl,a,p2,p3,d,s,h,l,by refine rwE at' ?_; exact I.at',I.e.trans e⟩
theorem c_run_pl {L0:List Th} {k:Nat} {x:B0} {a i:Sen} {call:Int} {Q:Post} (hn:190≤n) (hk:k≤60) (I:Inv L0 k W) (w1:WFS W.rows a) (w2:nmOf a = .arr x) (w3:WFS W.rows i) (w4:idxN (nmOf i)=true) (hs15:size a+size i≤15) (q:∀W' T',Inv L0 (k+1) W'→Q (.ok (.bool true)) (mk c W' T')) :
 wpF (sta l zs) funs n 1625 [.ref (.f 90),placeAV x a i call] Q (mk c W T):=by
 refine kf fun kG=>?_;obtain⟨m,rfl⟩:=pr hn;have hl:=I.l;have hrt:=I.rt;refine kG ?_; clear kG;refine unf (d:=⟨2,b1625⟩) rfl rfl ?_;refine⟨of_decide_eq_true rfl,rfl,?_⟩;refine rwE u_nested ?_;refine tr_place (by lia) ?_;refine⟨rfl,rfl,by decide,?_⟩;have hst:∀W',Same (size a+size i) { W with nested:=0 } W'→W'.rows=W.rows∧W'.arrays=W.arrays∧W'.at'=W.at'∧W'.pend2=none∧W'.pend3=none∧DefsOk W'.defaults∧W'.steps≤20*(k+1:Nat)∧W'.holes.length≤20*(k+1):=fun W' h=>by
  have h1:=h.s1;have h2:=h.h;have h3:=I.s;have h4:=I.h;skip
  exact⟨h.rows,h.arrays,h.at',h.p2,h.p3.trans I.p3,h.d,by lia,by lia⟩
 have PI':Pre (size a+size i) { ({ W with nested:=0 }:Wd) with nested:=0+12 }:=by
  have P:=I.pre hk (m:=20) (by lia);exact⟨P.p2,P.d,by have:=P.s1; dsimp only at *; lia,by dsimp only; lia,by have:=P.t; dsimp only at *; lia,by have:=P.h; dsimp only at *; lia,P.wl⟩
 refine (c_eval_place (x:=x) (call:=call) (W:={ W with nested:=0 }) (by lia) PI' (by dsimp only; refine rwE hrt ?_; exact w1) w2 (by dsimp only; refine rwE hrt ?_; exact w3) w4).run _ (fun v W1 T1 s1 hv1 n1 h1=>?_) (fun p W1 T1 j L' s1 hv1 ht hj=>?_)
 ·refine kf fun kG=>?_;obtain⟨f1,f2,f3,f4,f5,f6,f7,f8⟩:=hst W1 s1;skip
  rw[hrt] at hv1;refine E26 (placeM_ok I.wl w1 w2 w3 w4 hv1) fun _ _ _ g1 e1 l1 _ _=>?_;refine kG ?_; clear kG;refine⟨of_decide_eq_true rfl,?_⟩;refine rwE u_bad ?_;have LP:LPre (size a+size i) { W1 with bad:=[] }:=⟨rfl,f5,by dsimp only; refine rwE f1 ?_; refine rwE f2 ?_; exact I.a,by dsimp only; refine rwE f1 ?_; lia,by dsimp only; refine rwE f1 ?_; exact I.wl⟩;refine l_place (W:={ W1 with bad:=[] }) (by lia) LP (by dsimp only; refine rwE f1 ?_; exact w1) w2 (by dsimp only; refine rwE f1 ?_; exact w3) w4 (fun ai zi W2 T2 s2 b2 r2 hl2 hty=>?_) (fun p v2 W2 T2 s2 b2 r2=>?_)
  ·skip
   rw[f1,hv1] at r2;refine kf fun kG=>?_;obtain⟨r3,r4⟩:=Prod.mk.inj r2;cases r3;refine E23 hty fun t y ht hnm hc=>?_;have hth:W2.things=W2.rows:=s2.things.trans r4;refine kG ?_; clear kG;have base:∀W3:Wd,W3.things=W3.rows→WL W3.rows→ThE W2.rows W3.rows→W3.rows.length=W2.rows.length→W3.arrays=W2.arrays→W3.at'=W2.at'→W3.steps=W2.steps→W3.holes=W2.holes→W3.defaults=W2.defaults→W3.pend2=W2.pend2→W3.pend3=W2.pend3→Inv L0 (k+1) W3:=fun W3 z1 z2 z3 z4 z5 z6 z7 z8 z9 z10 z11 =>
    Inv.next (W1:=W1) I z1 z2 (by refine rwE z5 ?_; exact s2.a.mono z3) (z10.trans (s2.p2.trans f4)) (z11.trans s2.p3) (by refine rwE z9 ?_; refine rwE s2.defaults ?_; exact f6) (by refine rwE z7 ?_; refine rwE s2.steps ?_; exact f7) (by refine rwE z8 ?_; refine rwE s2.holes ?_; exact f8) (by refine rwE z4 ?_; refine rwS r4 ?_; lia) (z6.trans (s2.at'.trans f3)) (by rw[r4] at e1; exact e1.trans z3)
   refine oKi (badT_ok b2) ?_;have wl2:WL W2.rows:=by refine rwS r4 ?_; exact g1
   refine kf fun kG=>?_;obtain⟨k1,k2⟩:=set_wl (zi:=zi) wl2 ht hnm (by refine rwE (none_cls hc.symm) ?_; exact none_val _ _:Val W2.rows (.s y) (noneV x));refine kG ?_; clear kG;refine c_wiped (fB hn rfl) hth wl2 (by refine rwS r4 ?_; lia) hl2 ht hnm hc ?_ ?_
   ·exact q W2 T2 (base W2 hth wl2 (ThE.refl _) rfl rfl rfl rfl rfl rfl rfl rfl)
   ·refine q _ T2 (base _ rfl k1 k2 ?_ rfl rfl rfl rfl rfl rfl rfl);show (setS W2.rows ai zi (noneV x)).length=_
    dsimp only[setS];rw[ht];simp
  ·skip
   rw[f1,hv1] at r2;cases (Prod.mk.inj r2).1
 ·refine kf fun kG=>?_;obtain⟨f1,f2,f3,f4,f5,f6,f7,f8⟩:=hst W1 s1;skip
  rw[hrt] at hv1;refine E03 (placeM_err I.wl w1 w2 w3 w4 hv1) fun g1 e1 l1=>?_;refine kG ?_; clear kG;refine⟨rfl,?_⟩;refine⟨of_decide_eq_true rfl,?_⟩;refine rwE u_bad ?_;have LP:LPre (size a+size i) { W1 with bad:=[] }:=⟨rfl,f5,by dsimp only; refine rwE f1 ?_; refine rwE f2 ?_; exact I.a,by dsimp only; refine rwE f1 ?_; lia,by dsimp only; refine rwE f1 ?_; exact I.wl⟩;refine l_place (W:={ W1 with bad:=[] }) (by lia) LP (by dsimp only; refine rwE f1 ?_; exact w1) w2 (by dsimp only; refine rwE f1 ?_; exact w3) w4 (fun ai zi W2 T2 s2 b2 r2 hl2 hty=>?_) (fun p v2 W2 T2 s2 b2 r2=>?_)
  ·skip
   rw[f1,hv1] at r2;cases (Prod.mk.inj r2).1
  ·skip
   rw[f1,hv1] at r2;refine kf fun kG=>?_;obtain⟨r3,r4⟩:=Prod.mk.inj r2;cases r3;refine kG ?_; clear kG;refine oKi (badT_err b2) ?_;have ex:∀x:List Nat,x=errS p→∀{Q':Post},wpF (sta l zs) funs m 1611 [.ref (.f 90),.str (errS p)] Q' (mk c W2 T2)→wpF (sta l zs) funs m 1611 [.ref (.f 90),.str x] Q' (mk c W2 T2):=fun x e Q' h=>by subst e; exact h
   refine ex _ b2 ?_;refine l_error (fB hn rfl) p s2.p3 (by refine rwS r4 ?_; lia) s2.a fun k2 W3 hk2 s3 r3=>?_;dsimp only[onRes];refine oKi (cmp_int (by refine rwE hj ?_; refine rwE hk2 ?_; refine rwE r4 ?_; rfl)) ?_;have rr:W3.rows=L'++errL c p L'.length:=by refine rwE r3 ?_; refine rwS r4 ?_; rfl
   refine q W3 T2 (Inv.next (W1:=W1) I ?_ (by refine rwE rr ?_; exact err_wl g1) s3.a ((s3.p2.trans s2.p2).trans f4) s3.p3 (by refine rwE s3.defaults ?_; refine rwE s2.defaults ?_; exact f6) (by refine rwE s3.steps ?_; refine rwE s2.steps ?_; exact f7) (by refine rwE s3.holes ?_; refine rwE s2.holes ?_; exact f8) (by refine rwE rr ?_; simp[errL]; lia) (by refine rwE s3.at' ?_; refine rwE s2.at' ?_; exact f3) (by refine rwE rr ?_; exact e1.trans (ThE.app _ _)));refine rwE s3.things ?_; refine rwE s2.things ?_; refine rwE rr ?_;exact ht
theorem c_run {L0:List Th} {k:Nat} {t:TopS} {Q:Post} (hn:190≤n) (hk:k≤60) (I:Inv L0 k W) (w:WFT W.rows t) (q:∀W' T',Inv L0 (k+1) W'→Q (.ok (.bool true)) (mk c W' T')) :
 wpF (sta l zs) funs n 1625 [.ref (.f 90),tAV t] Q (mk c W T):=by
 induction t using TopS.casesOn with
 |ev s=>exact c_run_ev (by lia) hk I w.1 w.2 q
 |pl x a i call=>exact c_run_pl hn hk I w.1 w.2.1 w.2.2.1 w.2.2.2.1 w.2.2.2.2 q
end
theorem nthIx {α:Type} {l:List α} {i:Int} (h0:0≤i) (h1:i<l.length) (h2:l.length≤1000000):∃x,nth l i=some x∧x∈l:=by
 unfold nth;rw[if_pos ⟨h0,by lia⟩];have hl:i.toNat<l.length:=by lia
 exact⟨l[i.toNat],List.getElem?_eq_getElem hl,List.getElem_mem hl⟩
theorem nthIxI {α:Type} {l:List α} {i:Int} (h0:0≤i) (h1:i<l.length) (h2:l.length≤1000000) {C:Prop} (q:∀x,nth l i=some x→x∈l→C):C:=E12 (nthIx h0 h1 h2) q
theorem fm_range (z:Int) {b:Int} (h:0<b):0≤Int.fmod z b∧Int.fmod z b<b:=by
 refine rwE (Int.fmod_eq_emod_of_nonneg z (by lia)) ?_;exact⟨Int.emod_nonneg _ (by lia),Int.emod_lt_of_pos _ h⟩
section
variable {l:Addr} {zs:List Int} {n:Nat} {c:Cst} {W:Wd} {T:List AO} {Q:Post}
noncomputable abbrev atW (W:Wd) (a:Int):Wd:={ W with at':=a }
theorem c_any (hn:1≤n) (h0:0≤W.at') (hz:c.zs.length≤1000) (q:∀(z a:Int),0≤a→Q (.ok (.int z)) (mk c (atW W a) T)):wpF (sta l zs) funs n 1632 [.ref (.f 90)] Q (mk c W T):=by
 obtain⟨m,rfl⟩:=pr hn;refine unf (d:=⟨1,b1632⟩) rfl rfl ?_;have e3:∀W,lenA (sta l zs) (mk c W T) (.ref (.f 0))=some c.zs.length:=fun W=>by
  show (if (c.zs.map AV.int).length≤1000000 then some (c.zs.map AV.int).length else none)=_
  refine rwE (List.length_map ..) ?_; refine rwE (if_pos (by lia) ..) ?_; rfl
 refine⟨of_decide_eq_true rfl,?_⟩;refine rwE u_at ?_;have ha:0≤W.at'+1:=by lia
 refine oKi (e3 _) ?_;refine dI (fun h1=>?_) (fun h1=>?_)
 ·conv=>whnf
  refine (nthIxI (l:=c.zs.map AV.int) h0 (by simpa using h1) (by simp; lia)) fun x ex hx=>?_;refine E12 (List.mem_map.mp hx) fun z _ eq2=>?_; subst eq2;exact oKi (a:=.int z) ex (q _ _ ha)
 ·conv=>whnf
  refine dI (fun h2=>?_) (fun h2=>?_)
  ·conv=>whnf
   refine (nthIxI (l:=[AV.int 0,AV.int 1,AV.int 3,AV.int 1,AV.int 0,AV.int 1,AV.int 3,AV.int 1,AV.int 2,AV.int 10,AV.int 5,AV.int 4,AV.int 2,AV.int 0,AV.int 7,AV.int 8,AV.int 1,AV.int 3]) h0 h2 (by decide)) fun x ex hx=>?_;simp only[List.mem_cons,List.not_mem_nil,or_false] at hx;have hx':∃z,x = .int z:=by
    rcases hx with h|h|h|h|h|h|h|h|h|h|h|h|h|h|h|h|h|h<;>exact⟨_,h⟩
   obtain⟨z,rfl⟩:=hx';exact oKi ex (q _ _ ha)
  ·conv=>whnf
   exact q _ _ ha
theorem get_tup {S:Stat} {H:AH} {li:List AV} {i:Int} {v:AV} (e:nth li i=some v):getI S H (.tup li) (.int i)=some v:=e
theorem l_pick (hn:2≤n) {row:List AV} (h0:0≤W.at') (hz:c.zs.length≤1000) (hr:0<row.length) (hr2:row.length≤1000) (q:∀v∈row,∀a,0≤a→Q (.ok v) (mk c (atW W a) T)):wpF (sta l zs) funs n 1639 [.ref (.f 90),.tup row] Q (mk c W T):=by
 refine prC hn rfl fun m hn=>?_;refine unf (d:=⟨2,b1639⟩) rfl rfl ?_;refine c_any (fB hn rfl) h0 hz fun z a ha=>?_;conv=>whnf
 refine rwE (modI (by lia)) ?_;have hm:=fm_range z (b:=(row.length:Int)) (by lia);generalize Int.fmod z (row.length:Int)=i at hm ⊢;refine (nthIxI hm.1 hm.2 (by lia)) fun v ev hv=>?_;refine oKi (get_tup ev) ?_;exact q v hv a ha
theorem l_simple (hn:7≤n) (h0:0≤W.at') (hz:c.zs.length≤1000) (q:∀(s:Sen) (a:Int) (T':List AO),0≤a→WFS W.rows s→size s=1→((∃x,nmOf s = .s x∧isI x=true)∨isQ (nmOf s)=true)→Q (.ok (sAV s)) (mk c (atW W a) T')) :
 wpF (sta l zs) funs n 1646 [.ref (.f 90)] Q (mk c W T):=by
 refine prC hn rfl fun m hn=>?_;refine unf (d:=⟨1,b1646⟩) rfl rfl ?_;refine l_pick (fB hn rfl) h0 hz (by decide) (by decide) fun v hv a ha=>?_;refine l_pick (W:=atW W a) (fB hn rfl) ha hz (by decide) (by decide) fun v2 hv2 a2 ha2=>?_;have hz2:∃z,v2 = .int z:=by
  simp only[List.mem_cons,List.not_mem_nil,or_false] at hv2;rcases hv2 with h|h|h|h|h|h|h|h<;>exact⟨_,h⟩
 obtain⟨z,rfl⟩:=hz2;have plain:∀x:B0,isI x=true→∀T',Q (.ok (.tup [.str [104,101,108,100],.str (nmT (.s x)),seenV c.u x (.int z)])) (mk c (atW W a2) T'):=fun x hx T' =>
  q (.held (.s x) (seenV c.u x (.int z))) a2 T' ha2 (seen_valI hx ⟨z,rfl⟩) rfl (.inl ⟨x,rfl,hx⟩)
 have quest:∀(nm:Nm) (x:B0),isQ nm=true→isI x=true→∀T',Q (.ok (.tup [.str [104,101,108,100],.str (nmT nm),.tup [.int 1,seenV c.u x (.int z)]])) (mk c (atW W a2) T'):=fun nm x hq hx T'=>by
  obtain⟨w,hw⟩:=val_int (nm:=.s x) hx (seen_valI (L:=W.rows) (u:=c.u) hx ⟨z,rfl⟩);refine rwE hw ?_;exact q (.held nm (.tup [.int 1,.int w])) a2 T' ha2 (q_val hq (.inr ⟨w,rfl⟩)) rfl (.inr hq)
 have zero:∀(nm:Nm),isQ nm=true→∀T',Q (.ok (.tup [.str [104,101,108,100],.str (nmT nm),.tup [.int 0,.int 0]])) (mk c (atW W a2) T'):=fun nm hq T' =>
  q (.held nm (.tup [.int 0,.int 0])) a2 T' ha2 (q_val hq (.inl rfl)) rfl (.inr hq)
 simp only[List.mem_cons,List.not_mem_nil,or_false] at hv;rcases hv with rfl|rfl|rfl|rfl|rfl|rfl
 ·conv=>whnf
  refine l_seen (x:=.i4) (L:=W.rows) (fB hn rfl) (int_val rfl) fun T'=>?_;exact plain .i4 rfl T'
 ·conv=>whnf
  refine l_seen (x:=.u4) (L:=W.rows) (fB hn rfl) (int_val rfl) fun T'=>?_;exact plain .u4 rfl T'
 ·conv=>whnf
  refine l_seen (x:=.e) (L:=W.rows) (fB hn rfl) (int_val rfl) fun T'=>?_;exact plain .e rfl T'
 ·conv=>whnf
  refine l_seen (x:=.i8) (L:=W.rows) (fB hn rfl) (int_val rfl) fun T'=>?_;exact plain .i8 rfl T'
 ·conv=>whnf
  refine dI (fun h=>?_) (fun h=>?_)
  ·exact zero (.s .q4) rfl _
  ·conv=>whnf
   refine l_seen (x:=.i4) (L:=W.rows) (fB hn rfl) (int_val rfl) fun T'=>?_;exact quest (.s .q4) .i4 rfl rfl T'
 ·conv=>whnf
  refine dI (fun h=>?_) (fun h=>?_)
  ·exact zero .qe rfl _
  ·conv=>whnf
   refine l_seen (x:=.e) (L:=W.rows) (fB hn rfl) (int_val rfl) fun T'=>?_;exact quest .qe .e rfl rfl T'
theorem l_object (hn:9≤n) (h0:0≤W.at') (hz:c.zs.length≤1000) (hl:W.rows.length≤89000) (q:∀(s:Sen) (a:Int) (T':List AO),0≤a→WFS W.rows s→size s≤3→nmOf s = .s .o→Q (.ok (sAV s)) (mk c (atW W a) T')) :
 wpF (sta l zs) funs n 1653 [.ref (.f 90)] Q (mk c W T):=by
 refine prC hn rfl fun m hn=>?_;refine unf (d:=⟨1,b1653⟩) rfl rfl ?_;refine c_any (fB hn rfl) h0 hz fun z a ha=>?_;refine dI (fun h=>?_) (fun h=>?_)
 ·conv=>whnf
  refine l_simple (W:=atW W a) (fB hn rfl) ha hz fun s a2 T' ha2 w hs hc=>?_;exact q (.box s) a2 T' ha2 ⟨w,hc⟩ (by dsimp only[size]; lia) rfl
 ·conv=>whnf
  refine oKi (len_rows (W:=atW W a) (by show W.rows.length≤90000; lia)) ?_;generalize hk:((W.rows.length+1:Nat):Int)=k;refine rwE (modI (by lia)) ?_;have hm:=fm_range (Int.fdiv z 4) (b:=k) (by lia);generalize Int.fmod (Int.fdiv z 4) k=i at hm ⊢;exact q (.held (.s .o) (.int i)) a T ha (ref_val rfl hm.1 (by lia) fun _ e=>by cases e) (show 1≤3 by decide) rfl
end
section
variable {l:Addr} {zs:List Int} {n:Nat} {c:Cst} {W:Wd} {T:List AO} {Q:Post}
noncomputable def intsL:List AV:=[(.tup [(.str [105,52]),(.int (0))]),(.tup [(.str [105,52]),(.int (1))]),(.tup [(.str [105,52]),(.int (2))]),(.tup [(.str [105,52]),(.int (-1))]),(.tup [(.str [105,52]),(.int (3))]),(.tup [(.str [117,52]),(.int (1))]),(.tup [(.str [117,52]),(.int (4294967295))]),(.tup [(.str [117,52]),(.int (2147483648))]),(.tup [(.str [105,56]),(.int (1))]),(.tup [(.str [105,56]),(.int (-1))]),(.tup [(.str [105,56]),(.int (2147483648))]),(.tup [(.str [105,56]),(.int (-2147483649))]),(.tup [(.str [117,56]),(.int (18446744073709551615))]),(.tup [(.str [117,56]),(.int (0))]),(.tup [(.str [105,52]),(.int (65537))]),(.tup [(.str [105,52]),(.int (-2147483648))]),(.tup [(.str [105,56]),(.int (2147483647))]),(.tup [(.str [105,56]),(.int (-2147483648))]),(.tup [(.str [117,56]),(.int (2147483648))]),(.tup [(.str [117,52]),(.int (2))])]
theorem intsL_ok:∀x∈intsL,∃nm z,idxN nm=true∧x = .tup [.str (nmT nm),.int z]:=by
 simp only[intsL,List.mem_cons,List.not_mem_nil,or_false,forall_eq_or_imp,forall_eq];refine⟨⟨.s .i4,_,rfl,rfl⟩,⟨.s .i4,_,rfl,rfl⟩,⟨.s .i4,_,rfl,rfl⟩,⟨.s .i4,_,rfl,rfl⟩,⟨.s .i4,_,rfl,rfl⟩,⟨.s .u4,_,rfl,rfl⟩,⟨.s .u4,_,rfl,rfl⟩,⟨.s .u4,_,rfl,rfl⟩,⟨.s .i8,_,rfl,rfl⟩,⟨.s .i8,_,rfl,rfl⟩,⟨.s .i8,_,rfl,rfl⟩,⟨.s .i8,_,rfl,rfl⟩,⟨.u8,_,rfl,rfl⟩,⟨.u8,_,rfl,rfl⟩,⟨.s .i4,_,rfl,rfl⟩,⟨.s .i4,_,rfl,rfl⟩,⟨.s .i8,_,rfl,rfl⟩,⟨.s .i8,_,rfl,rfl⟩,⟨.u8,_,rfl,rfl⟩,⟨.s .u4,_,rfl,rfl⟩⟩
theorem l_int (hn:11≤n) (h0:0≤W.at') (hz:c.zs.length≤1000) (hl:W.rows.length≤89000) (q:∀(s:Sen) (a:Int) (T':List AO),0≤a→WFS W.rows s→size s≤5→idxN (nmOf s)=true→Q (.ok (sAV s)) (mk c (atW W a) T')) :
 wpF (sta l zs) funs n 1660 [.ref (.f 90)] Q (mk c W T):=by
 refine prC hn rfl fun m hn=>?_;refine unf (d:=⟨1,b1660⟩) rfl rfl ?_;refine c_any (fB hn rfl) h0 hz fun z a ha=>?_;refine dI (fun h=>?_) (fun h=>?_)
 ·conv=>whnf
  refine l_object (W:=atW W a) (fB hn rfl) ha hz hl fun s a2 T' ha2 w hs hc=>?_;exact q (.cast (.s .i4) s) a2 T' ha2 ⟨w,hc⟩ (by dsimp only[size]; lia) rfl
 ·replace h:¬Int.fmod z 6=4:=h;refine dI (fun h2=>?_) (fun h2=>?_)
  ·have hm:=fm_range (Int.fdiv z 6) (b:=4) (by decide);refine (nthIxI (l:=[AV.int 1,AV.int 2147483648,AV.int (-2147483649),AV.int 4294967296]) hm.1 hm.2 (by decide)) fun v ev hv=>?_;have hv2:∃k,v = .int k:=by
    simp only[List.mem_cons,List.not_mem_nil,or_false] at hv;rcases hv with h|h|h|h<;>exact⟨_,h⟩
   obtain⟨k,rfl⟩:=hv2;refine oKi (get_tup ev) ?_;exact q (.num .i4 (.held (.s .i8) (.int k)) (Int.fmod (Int.fdiv z 24) 2)) a T ha ⟨int_val rfl,rfl,rfl⟩ (Nat.le_of_ble_eq_true rfl) rfl
  ·replace h2:¬Int.fmod z 6=5:=h2;have hm1:=fm_range z (b:=6) (by decide);have hm2:=fm_range (Int.fdiv z 6) (b:=5) (by decide);have hmul:∀S H,binA S H .mul (.int (Int.fmod (Int.fdiv z 6) 5)) (.int 4)=some (.v (.int (Int.fmod (Int.fdiv z 6) 5*4))):=fun S H=>congrArg (Option.map fun z=>Got1.v (.int z)) (show intA .mul (Int.fmod (Int.fdiv z 6) 5) 4=some _ from if_pos ⟨by lia,by lia⟩);refine (nthIxI (l:=intsL) (i:=Int.fmod z 6+Int.fmod (Int.fdiv z 6) 5*4) (by lia) (by simp[intsL]; lia) (by decide)) fun v ev hv=>?_;refine E22 (intsL_ok v hv) fun nm k hx eq3=>?_; subst eq3;conv=>whnf
   refine rwE (hmul ..) ?_;refine oKi (get_tup ev) ?_;refine⟨rfl,?_⟩;exact q (.held nm (.int k)) a T ha (int_val (isN_idx hx)) (Nat.le_of_ble_eq_true rfl) hx
noncomputable def edgL:List AV:=[(.int (0)),(.int (1)),(.int (-1)),(.int (2)),(.int (2147483647)),(.int (-2147483648)),(.int (65537)),(.int (1000000))]
theorem edgL_ok:∀x∈edgL,∃z:Int,-(2 ^ 64)<z∧z<2 ^ 64∧x = .int z:=by
 simp only[edgL,List.mem_cons,List.not_mem_nil,or_false,forall_eq_or_imp,forall_eq];refine⟨⟨_,?_,?_,rfl⟩,⟨_,?_,?_,rfl⟩,⟨_,?_,?_,rfl⟩,⟨_,?_,?_,rfl⟩,⟨_,?_,?_,rfl⟩,⟨_,?_,?_,rfl⟩,⟨_,?_,?_,rfl⟩,⟨_,?_,?_,rfl⟩⟩<;>decide
theorem edg_at (z:Int):∃k:Int,nth edgL (Int.fmod (Int.fdiv z 3) 8)=some (.int k):=by
 have hm:=fm_range (Int.fdiv z 3) (b:=8) (by decide);refine (nthIxI (l:=edgL) hm.1 hm.2 (by decide)) fun v ev hv=>?_;refine E13 (edgL_ok v hv) fun k _ _ eq3=>?_; subst eq3;exact⟨k,ev⟩
theorem ref_held {x:B0} {i:Int} (hr:refers (.s x)=true) (h0:0≤i) (h1:i≤W.rows.length):WFS W.rows (.held (.s x) (.int i)):=ref_val hr h0 h1 fun _ e=>by cases e
theorem l_right (hn:11≤n) {x:B0} (h0:0≤W.at') (hz:c.zs.length≤1000) (hl:W.rows.length≤89000) (hl2:14≤W.rows.length) (q:∀(s:Sen) (a:Int) (T':List AO),0≤a→WFS W.rows s→size s≤5→nmOf s = .s x→Q (.ok (sAV s)) (mk c (atW W a) T')) :
 wpF (sta l zs) funs n 1667 [.ref (.f 90),.str (nmT (.s x))] Q (mk c W T):=by
 refine prC hn rfl fun m hn=>?_;refine unf (d:=⟨2,b1667⟩) rfl rfl ?_;refine c_any (fB hn rfl) h0 hz fun z a ha=>?_;obtain⟨ed,hed⟩:=edg_at z;have castit:∀(a2:Int) (T':List AO),0≤a2→∀s,WFS W.rows s→size s≤3→nmOf s = .s .o→Q (.ok (.tup [.str [99,97,115,116],.str (nmT (.s x)),sAV s])) (mk c (atW W a2) T'):=fun a2 T' ha2 s w hs hc =>
  q (.cast (.s x) s) a2 T' ha2 ⟨w,hc⟩ (by dsimp only[size]; lia) rfl
 by_cases ho:x = .o
 ·subst ho;refine l_object (W:=atW W a) (fB hn rfl) ha hz hl fun s a2 T' ha2 w hs hc=>?_;exact q s a2 T' ha2 w (by lia) hc
 ·have ho':decide (nmT (.s x)=[111])=false:=by cases x<;>first|rfl|exact absurd rfl ho
  refine bF2 ho' ?_;refine dI (fun h=>?_) (fun h=>?_)
  ·conv=>whnf
   exact l_object (W:=atW W a) (fB hn rfl) ha hz hl fun s a2 T' ha2 w hs hc=>castit a2 T' ha2 s w hs hc
  ·conv=>whnf
   cases hr:refers (.s x)
   ·refine (n_refersB (fB hn rfl) hr).ok ?_;refine oKi (n_head _ _ (.s x)) ?_;cases hq:isQ (.s x)
    ·have hI:isI x=true:=by cases x<;>first|rfl|(cases hr; done)|(cases hq; done)
     refine bF2 (show decide (hd1 (.s x)=[63])=false by refine rwE (hd1_q hr) ?_; refine rwE hq ?_; rfl) ?_;refine oKi (n_head _ _ (.s x)) ?_;refine bF2 (show decide (hd1 (.s x)=[63])=false by refine rwE (hd1_q hr) ?_; refine rwE hq ?_; rfl) ?_;refine dI (fun h3=>?_) (fun h3=>?_)
     ·conv=>whnf
      refine oKi (get_tup hed) ?_;exact q (.num x (.held (.s .i8) (.int ed)) (Int.fmod (Int.fdiv z 24) 2)) a T ha ⟨int_val rfl,hI,rfl⟩ (Nat.le_of_ble_eq_true rfl) rfl
     ·conv=>whnf
      refine oKi (get_tup hed) ?_;refine l_seen (x:=x) (L:=W.rows) (fB hn rfl) (int_val hI) fun T'=>?_;exact q (.held (.s x) (seenV c.u x (.int ed))) a T' ha (seen_valI hI ⟨_,rfl⟩) (Nat.le_of_ble_eq_true rfl) rfl
    ·have hx:x = .q4:=by cases x<;>first|rfl|cases hq
     subst hx;refine dI (fun h3=>?_) (fun h3=>?_)
     ·conv=>whnf
      refine oKi (get_tup hed) ?_;exact q (.wrap (.s .q4) (.num .i4 (.held (.s .i8) (.int (2*ed))) (Int.fmod (Int.fdiv z 24) 2))) a T ha ⟨⟨int_val rfl,rfl,rfl⟩,rfl,rfl⟩ (Nat.le_of_ble_eq_true rfl) rfl
     ·exact q (.held (.s .q4) (.tup [.int 0,.int 0])) a T ha (q_val rfl (.inl rfl)) (Nat.le_of_ble_eq_true rfl) rfl
   ·refine (n_refersB (fB hn rfl) hr).ok ?_;refine dI (fun h3=>?_) (fun h3=>?_)
    ·exact q (.held (.s x) (.int 0)) a T ha (ref_held hr (Int.le_refl _) (by lia)) (Nat.le_of_ble_eq_true rfl) rfl
    ·by_cases hb:x = .b
     ·subst hb;exact q (.held (.s .b) (.int 2)) a T ha (ref_held hr (by decide) (by lia)) (Nat.le_of_ble_eq_true rfl) rfl
     ·have hb':decide (nmT (.s x)=[98])=false:=by cases x<;>first|rfl|exact absurd rfl hb
      refine bF2 hb' ?_;exact q (.held (.s x) (.int 1)) a T ha (ref_held hr (by decide) (by lia)) (Nat.le_of_ble_eq_true rfl) rfl
theorem add_arr (S:Stat) (H:AH) (x:B0):binA S H .add (.str (nmT (.s x))) (.str [91,93])=some (.v (.str (nmT (.arr x)))):=by cases x<;>rfl
theorem add_lists {S:Stat} {H:AH} {a b:AA} {li ri:List AV} (h1:H a=some (.list li)) (h2:H b=some (.list ri)) (hl:li.length+ri.length≤100000):binA S H .add (.ref a) (.ref b)=some (.l (li++ri)):=by
 show addA (H a) (H b)=_
 rw[h1,h2]; exact if_pos hl
noncomputable def twin (u:U4):B0→B0
 |.i4=>.u4|.u4=>.i4|.e=>u.b|.b=>.a|.a=>.o|x=>x
theorem twin_cls (u:U4) (y:B0):cls (twin u y)=cls y:=by cases y<;>cases u<;>rfl
noncomputable def twinsD (u:U4):List (List Nat×AV):=[([105,52],.str [117,52]),([117,52],.str [105,52]),([101],.str (uS u)),([98],.str [97]),([97],.str [111])]
theorem twins_get (u:U4) (y:B0):(lk (twinsD u) (nmT (.s y))).getD (.str (nmT (.s y))) = .str (nmT (.s (twin u y))):=by cases y<;>cases u<;>rfl
def ArrAt (L:List Th) (i:Int) (y:B0):Prop:=i=0∨∃t,thI L i=some t∧t.nm = .arr y
theorem arr_val {L:List Th} {i:Int} {y x:B0} (h:ArrAt L i y) (hc:cls x=cls y):Val L (.arr x) (.int i):=by
 rcases h with rfl|⟨t,ht,hn⟩
 ·exact ref_val rfl (Int.le_refl _) (by lia) fun _ _ h=>absurd rfl h
 ·refine (thI_atI ht) fun h0 _ h1=>?_;exact ref_val rfl (by lia) h1 fun z hz _=>by cases hz; exact⟨t,y,ht,hn,hc.symm⟩
theorem arr_o {L:List Th} {i:Int} {y:B0} (h:ArrAt L i y):Val L (.s .o) (.int i):=by
 rcases h with rfl|⟨t,ht,hn⟩
 ·exact ref_val rfl (Int.le_refl _) (by lia) fun _ e=>by cases e
 ·refine (thI_atI ht) fun h0 _ h1=>?_;exact ref_val rfl (by lia) h1 fun _ e=>by cases e
noncomputable abbrev ρa (z i:Int) (y:B0):Loc:=setL (setL (setL (args0 [.ref (.f 90)]) 1 (.int z)) 2 (.int i)) 3 (.str (nmT (.s y)))
theorem arr_end {y told:B0} {z i:Int} {ρ:Loc} {X Y:Loc→AV→AH→Prop} {N:Loc→AH→Prop} (h1:ρ 1=some (.int z)) (h2:ρ 2=some (.int i)) (h4:ρ 4=some (.str (nmT (.s told)))) (ht:cls told=cls y) (ha:ArrAt W.rows i y)
 (q:∀(x:B0) (s:Sen),WFS W.rows s→size s≤3→nmOf s = .arr x→Q (.ok (.tup [.str (nmT (.s x)),sAV s])) (mk c W T)) :
 swps (sta l zs) (wpF (sta l zs) funs n) (b1674.drop 6) X Y ρ N (fun v=>Q (.ok v)) (mk c W T):=by
 refine oKi h1 ?_;refine dI (fun h=>?_) (fun h=>?_)
 ·conv=>whnf
  refine oKi h4 ?_;refine oKi h4 ?_;conv=>whnf
  refine rwE (add_arr ..) ?_;refine oKi h2 ?_;exact q told (.cast (.arr told) (.held (.s .o) (.int i))) ⟨arr_o ha,rfl⟩ (Nat.le_of_ble_eq_true rfl) rfl
 ·conv=>whnf
  refine oKi h4 ?_;refine oKi h4 ?_;conv=>whnf
  refine rwE (add_arr ..) ?_;refine oKi h2 ?_;exact q told (.held (.arr told) (.int i)) (arr_val ha ht) (Nat.le_of_ble_eq_true rfl) rfl
theorem arr_o2 {y told:B0} {z i:Int} {ρ:Loc} {X Y:Loc→AV→AH→Prop} {N:Loc→AH→Prop} (hn:3≤n) (h1:ρ 1=some (.int z)) (h2:ρ 2=some (.int i)) (h3:ρ 3=some (.str (nmT (.s y)))) (h4:ρ 4=some (.str (nmT (.s told)))) (ht:cls told=cls y) (ha:ArrAt W.rows i y)
 (q:∀(x:B0) (s:Sen),WFS W.rows s→size s≤3→nmOf s = .arr x→Q (.ok (.tup [.str (nmT (.s x)),sAV s])) (mk c W T)) :
 swps (sta l zs) (wpF (sta l zs) funs n) (b1674.drop 5) X Y ρ N (fun v=>Q (.ok v)) (mk c W T):=by
 have fin:∀told',cls told'=cls y→∀ρ':Loc,ρ' 1=some (.int z)→ρ' 2=some (.int i)→ρ' 4=some (.str (nmT (.s told')))→swps (sta l zs) (wpF (sta l zs) funs n) (b1674.drop 6) X Y ρ' N (fun v=>Q (.ok v)) (mk c W T):=fun told' hc ρ' e1 e2 e4=>arr_end e1 e2 e4 hc ha q;refine oKi h1 ?_;refine dI (fun h=>?_) (fun h=>?_)
 ·conv=>whnf
  refine oKi h3 ?_;cases hr:refers (.s y)
  ·refine (n_refersB (by lia) hr).ok ?_;exact fin told ht ρ h1 h2 h4
  ·refine (n_refersB (by lia) hr).ok ?_;refine fin .o ?_ (setL ρ 4 (.str (nmT (.s .o)))) h1 h2 rfl;cases y<;>first|rfl|cases hr
 ·exact fin told ht ρ h1 h2 h4
theorem arr_tail {y:B0} {z i:Int} {X Y:Loc→AV→AH→Prop} {N:Loc→AH→Prop} (hn:3≤n) (ha:ArrAt W.rows i y)
 (q:∀(x:B0) (s:Sen) (T':List AO),WFS W.rows s→size s≤3→nmOf s = .arr x→Q (.ok (.tup [.str (nmT (.s x)),sAV s])) (mk c W T')) :
 swps (sta l zs) (wpF (sta l zs) funs n) (b1674.drop 3) X Y (ρa z i y) N (fun v=>Q (.ok v)) (mk c W T):=by
 refine dI (fun h=>?_) (fun h=>?_)
 ·conv=>whnf
  refine .inr ⟨_,t_new,?_⟩;refine rwE u_new ?_;have ht:mk c W (T++[.sd (twinsD c.u)]) (.t T.length)=some (.sd (twinsD c.u)):=t_get;refine oKi (meth_getS ht) ?_;refine oKi (getD_sd ht (twins_get c.u y)) ?_;refine arr_o2 (ρ:=setL (setL (setL (ρa z i y) 4 (.str (nmT (.s y)))) 5 (.ref (.t T.length))) 4 (.str (nmT (.s (twin c.u y))))) (T:=T++[.sd (twinsD c.u)]) (z:=z) (i:=i) (y:=y) (told:=twin c.u y) hn rfl rfl rfl rfl (twin_cls c.u y) ha fun x s=>q x s _
 ·exact arr_o2 (ρ:=setL (ρa z i y) 4 (.str (nmT (.s y)))) (z:=z) (i:=i) (y:=y) (told:=y) hn rfl rfl rfl rfl rfl ha fun x s=>q x s _
theorem l_array (hn:5≤n) (h0:0≤W.at') (hz:c.zs.length≤1000) (hl:W.rows.length≤89000) (ha:AOk W.rows W.arrays)
 (q:∀(x:B0) (s:Sen) (a:Int) (T':List AO),0≤a→WFS W.rows s→size s≤3→nmOf s = .arr x→Q (.ok (.tup [.str (nmT (.s x)),sAV s])) (mk c (atW W a) T')) :
 wpF (sta l zs) funs n 1674 [.ref (.f 90)] Q (mk c W T):=by
 refine prC hn rfl fun m hn=>?_;have hal:=ha.len;refine unf (d:=⟨1,b1674⟩) rfl rfl ?_;refine c_any (fB hn rfl) h0 hz fun z a ha0=>?_;refine .inr ⟨_,t_new,?_⟩;refine rwE u_new ?_;have hA:∀T',mk c (atW W a) T' (.f 88)=some (.list (W.arrays.map .int)):=fun _=>rfl;conv=>whnf
 refine rwE (add_lists (hA _) t_get (by simp; lia)) ?_;refine .inr ⟨_,t_new,?_⟩;refine rwE u_new ?_;refine oKi (len_list (hA _) (by simp; lia)) ?_;generalize hk:((W.arrays.map AV.int).length:Int)=k;have hk0:k=(W.arrays.length:Int):=by refine rwS hk ?_; simp
 conv=>whnf
 refine rwE (modI (by lia)) ?_;have hm:=fm_range z (b:=k+1) (by lia);generalize Int.fmod z (k+1)=ix at hm ⊢;refine (nthIxI (l:=W.arrays.map AV.int++[AV.int 0]) hm.1 (by simp; lia) (by simp; lia)) fun v ev hv=>?_;have hv2:∃i:Int,v = .int i∧(i=0∨∃t y,thI W.rows i=some t∧t.nm = .arr y):=by
  rcases List.mem_append.mp hv with h|h
  ·refine E12 (List.mem_map.mp h) fun i hi eq2=>?_; subst eq2;exact⟨i,rfl,.inr (ha.ok i hi)⟩
  ·simp at h; exact⟨0,h,.inl rfl⟩
 refine E12 hv2 fun i eq1 hi=>?_; subst eq1;refine oKi (get_list t_get ev) ?_;refine dI (fun h=>?_) (fun h=>?_)
 ·replace h:i≠0:=h;obtain⟨t,y,ht,hnm⟩:∃t y,thI W.rows i=some t∧t.nm = .arr y:=by
   rcases hi with h'|h'
   ·exact absurd h' h
   ·exact h'
  refine oKi (row_get (W:=atW W a) ht (by show W.rows.length≤90000; lia)) ?_;refine rwE hnm ?_;conv=>whnf
  refine rwE (cut_arr ..) ?_;exact arr_tail (W:=atW W a) (fB hn rfl) (.inr ⟨t,ht,hnm⟩) fun x s T'=>q x s a T' ha0
 ·replace h:¬i≠0:=h;have h':i=0:=by lia
  have hm2:=fm_range (Int.fdiv z 8) (b:=3) (by decide);refine (nthIxI (l:=[AV.str [105,52],AV.str [97],AV.str [111]]) hm2.1 hm2.2 (by decide)) fun v2 ev2 hv2=>?_;refine oKi (get_tup ev2) ?_;simp only[List.mem_cons,List.not_mem_nil,or_false] at hv2;rcases hv2 with rfl|rfl|rfl
  ·exact arr_tail (W:=atW W a) (y:=.i4) (fB hn rfl) (.inl h') fun x s T'=>q x s a T' ha0
  ·exact arr_tail (W:=atW W a) (y:=.a) (fB hn rfl) (.inl h') fun x s T'=>q x s a T' ha0
  ·exact arr_tail (W:=atW W a) (y:=.o) (fB hn rfl) (.inl h') fun x s T'=>q x s a T' ha0
end
section
variable {l:Addr} {zs:List Int} {n:Nat} {c:Cst} {W:Wd} {T:List AO} {Q:Post}
theorem l_deed (hn:13≤n) (h0:0≤W.at') (hz:c.zs.length≤1000) (hl:W.rows.length≤89000) (hl2:14≤W.rows.length) (ha:AOk W.rows W.arrays)
 (q:∀(t:TopS) (a:Int) (T':List AO),0≤a→WFT W.rows t→Q (.ok (tAV t)) (mk c (atW W a) T')) :
 wpF (sta l zs) funs n 1681 [.ref (.f 90)] Q (mk c W T):=by
 refine prC hn rfl fun m hn=>?_;refine unf (d:=⟨1,b1681⟩) rfl rfl ?_;refine c_any (fB hn rfl) h0 hz fun z a ha0=>?_;conv=>whnf
 have hm:=fm_range z (b:=9) (by decide);generalize Int.fmod z 9=r at hm ⊢;refine dI (fun h=>?_) (fun h=>?_)
 ·conv=>whnf
  refine l_pick (W:=atW W a) (fB hn rfl) ha0 hz (by decide) (by decide) fun v hv a2 ha2=>?_;have fin:∀x:B0,wpF (sta l zs) funs m 1660 [.ref (.f 90)] (fun r H=>match r with|.ok s=>Q (.ok (.tup [.str [110,101,119],.str (nmT (.arr x)),s])) H|.exc _=>True) (mk c (atW W a2) T):=fun x =>
   l_int (W:=atW W a2) (fB hn rfl) ha2 hz hl fun s a3 T3 ha3 w hs hc=>q (.ev (.new x s)) a3 T3 ha3 ⟨⟨w,hc⟩,by dsimp only[size]; lia⟩
  have fin2:∀x:B0,∀Q':Post,(∀s H,Q (.ok (.tup [.str [110,101,119],.str (nmT (.arr x)),s])) H→Q' (.ok s) H)→wpF (sta l zs) funs m 1660 [.ref (.f 90)] Q' (mk c (atW W a2) T):=fun x Q' k =>
   l_int (W:=atW W a2) (fB hn rfl) ha2 hz hl fun s a3 T3 ha3 w hs hc=>k _ _ (q (.ev (.new x s)) a3 T3 ha3 ⟨⟨w,hc⟩,by dsimp only[size]; lia⟩)
  simp only[List.mem_cons,List.not_mem_nil,or_false] at hv;rcases hv with rfl|rfl|rfl|rfl|rfl
  ·conv=>whnf
   exact fin2 .i4 _ fun _ _ h=>h
  ·conv=>whnf
   exact fin2 .a _ fun _ _ h=>h
  ·conv=>whnf
   exact fin2 .q4 _ fun _ _ h=>h
  ·conv=>whnf
   exact fin2 .e _ fun _ _ h=>h
  ·conv=>whnf
   exact fin2 .o _ fun _ _ h=>h
 ·replace h:¬r=7:=h;refine dI (fun h2=>?_) (fun h2=>?_)
  ·conv=>whnf
   refine l_pick (W:=atW W a) (fB hn rfl) ha0 hz (by decide) (by decide) fun v hv a2 ha2=>?_;have plain:∀nm:Nm,∀Q':Post,(∀s H,Q (.ok (.tup [.str [99,97,115,116],.str (nmT nm),s])) H→Q' (.ok s) H)→wpF (sta l zs) funs m 1653 [.ref (.f 90)] Q' (mk c (atW W a2) T):=fun nm Q' k =>
    l_object (W:=atW W a2) (fB hn rfl) ha2 hz hl fun s a3 T3 ha3 w hs hc=>k _ _ (q (.ev (.cast nm s)) a3 T3 ha3 ⟨⟨w,hc⟩,by dsimp only[size]; lia⟩)
   have quest:∀nm:Nm,isQ nm=true→∀Q':Post,(∀s H,Q (.ok (.tup [.str [118,97,108,117,101],.str (nmT (inN nm)),.tup [.str [99,97,115,116],.str (nmT nm),s]])) H→Q' (.ok s) H)→wpF (sta l zs) funs m 1653 [.ref (.f 90)] Q' (mk c (atW W a2) T):=fun nm hq Q' k =>
    l_object (W:=atW W a2) (fB hn rfl) ha2 hz hl fun s a3 T3 ha3 w hs hc=>k _ _ (q (.ev (.value (inN nm) (.cast nm s))) a3 T3 ha3 ⟨⟨⟨w,hc⟩,hq,rfl⟩,by dsimp only[size]; lia⟩)
   simp only[List.mem_cons,List.not_mem_nil,or_false] at hv;rcases hv with rfl|rfl|rfl|rfl|rfl|rfl|rfl|rfl|rfl|rfl|rfl|rfl
   ·conv=>whnf
    exact plain (.s .i4) _ fun _ _ h=>h
   ·conv=>whnf
    exact quest (.s .q4) rfl _ fun _ _ h=>h
   ·conv=>whnf
    exact plain (.s .e) _ fun _ _ h=>h
   ·conv=>whnf
    exact plain (.s .a) _ fun _ _ h=>h
   ·conv=>whnf
    exact quest .qe rfl _ fun _ _ h=>h
   ·conv=>whnf
    exact plain (.s .b) _ fun _ _ h=>h
   ·conv=>whnf
    exact plain (.arr .i4) _ fun _ _ h=>h
   ·conv=>whnf
    exact plain .t _ fun _ _ h=>h
   ·conv=>whnf
    exact plain (.s .u4) _ fun _ _ h=>h
   ·conv=>whnf
    exact plain (.arr .a) _ fun _ _ h=>h
   ·conv=>whnf
    exact plain (.arr .e) _ fun _ _ h=>h
   ·conv=>whnf
    exact plain (.arr .o) _ fun _ _ h=>h
  ·conv=>whnf
   refine l_array (W:=atW W a) (fB hn rfl) ha0 hz hl ha fun x s a2 T2 ha2 w hs hc=>?_;refine⟨rfl,?_⟩;refine dI (fun h3=>?_) (fun h3=>?_)
   ·exact q (.ev (.len s)) a2 T2 ha2 ⟨⟨w,x,hc⟩,by dsimp only[size]; lia⟩
   ·conv=>whnf
    refine l_int (W:=atW W a2) (fB hn rfl) ha2 hz hl fun i a3 T3 ha3 wi hsi hci=>?_;refine dI (fun h4=>?_) (fun h4=>?_)
    ·exact q (.ev (.elem x s i)) a3 T3 ha3 ⟨⟨w,hc,wi,hci⟩,by dsimp only[size]; lia⟩
    ·conv=>whnf
     refine dI (fun h5=>?_) (fun h5=>?_)
     ·conv=>whnf
      refine l_right (W:=atW W a3) (x:=x) (fB hn rfl) ha3 hz hl hl2 fun v a4 T4 ha4 wv hsv hcv=>?_;exact q (.ev (.asg x s i v)) a4 T4 ha4 ⟨⟨w,hc,wi,hci,wv,hcv⟩,by dsimp only[size]; lia⟩
     ·conv=>whnf
      refine dI (fun h6=>?_) (fun h6=>?_)
      ·conv=>whnf
       refine l_right (W:=atW W a3) (x:=x) (fB hn rfl) ha3 hz hl hl2 fun v a4 T4 ha4 wv hsv hcv=>?_;conv=>whnf
       refine c_any (W:=atW W a4) (fB hn rfl) ha4 hz fun z5 a5 ha5=>?_;exact q (.ev (.comp x s i v (Int.fmod z5 2))) a5 T4 ha5 ⟨⟨w,hc,wi,hci,wv,hcv⟩,by dsimp only[size]; lia⟩
      ·exact q (.pl x s i (Int.fmod r 2)) a3 T3 ha3 ⟨w,hc,wi,hci,by lia⟩
end
structure BdW (L:List Th) (W:Wd):Prop where
 t:W.things=L
 r:W.rows=L
 a:AOk L W.arrays
 p2:W.pend2=none
 p3:W.pend3=none
 s:W.steps=0
 h:W.holes=[]
 d:W.defaults=[]
 at':W.at'=1
theorem uS_b (u:U4):uS u=nmT (.s u.b):=by cases u<;>rfl
section
variable {l:Addr} {zs:List Int} {n:Nat} {c:Cst} {W:Wd} {T:List AO} {Q:Post}
theorem items_list {S:Stat} {H:AH} {a:AA} {li:List AV} (h:H a=some (.list li)) (hl:li.length≤1000000):itemsA S H (.ref a)=some li:=by
 show (match H a with|some (.list l)=>if l.length≤1000000 then some l else none|_=>none)=_
 refine rwE h ?_; exact if_pos hl
theorem c_thing (hn:5≤n) {L:List Th} {nm:Nm} {sl:List AV} (B:BdW L W) (hl:L.length≤100) (hs:sl.length≤100) (q:∀W',BdW (L++[⟨nm,sl,none⟩]) W'→Q (.ok .none) (mk c W' T)) :
 wpF (sta l zs) funs n 1700 [.ref (.f 90),.str (nmT nm),.ref (.r 3 W.rows.length)] Q (mk c { W with pend3:=some sl } T):=by
 refine prC hn rfl fun m hn=>?_;have hr:=B.r;have ht:=B.t;refine unf (d:=⟨3,b1700⟩) rfl rfl ?_;refine oKi (kinds_at nm) ?_;refine oKi (items_list (g_p3 (W:={ W with pend3:=some sl }) rfl) (by lia)) ?_;refine .inr ⟨_,p2_new (W:={ W with pend3:=some sl }) B.p2,?_⟩;refine rwE (u_p2 (W:={ W with pend3:=some sl }) B.p2) ?_;refine c_new_item (nm:=nm) (W:={ W with pend2:=some sl,pend3:=some sl }) (by lia) rfl (by dsimp only; refine rwE ht ?_; lia) fun i hi=>?_;refine c_add (W:={ W with things:=W.things++[⟨nm,sl,none⟩],pend2:=none,pend3:=some sl }) (tx:=none) (sl:=sl) (by lia) rfl (by dsimp only; refine rwE hr ?_; lia) (by dsimp only; refine rwE hr ?_; exact B.a.len) fun i2 hi2=>?_;refine q _ ⟨by dsimp only; refine rwE ht ?_; rfl,by dsimp only; refine rwE hr ?_; rfl,?_,rfl,rfl,B.s,B.h,B.d,B.at'⟩;have:=B.a.app ⟨nm,sl,none⟩;dsimp only at this ⊢;refine rwE hr ?_; exact this
noncomputable def L0 (u:U4):List Th:=[⟨.s .a,[],none⟩,⟨.s .b,[],none⟩,⟨.t,[],some [97,98]⟩,⟨.arr .i4,[.int 5,.int (-1)],none⟩,⟨.arr .e,[.int 1,.int 2],none⟩,⟨.arr .b,[.int 2,.int 0],none⟩,⟨.arr .o,[.int 3,.int 1,.int 0],none⟩,⟨.arr .a,[.int 1,.int 2],none⟩,
 ⟨.arr .q4,[.tup [.int 1,.int 7],.tup [.int 0,.int 0]],none⟩,⟨.s .i4,[.int 2],none⟩,⟨.s .e,[.int 1],none⟩,⟨.s u.b,[.int 0],none⟩,⟨.s .i8,[.int 1],none⟩,⟨.arr .u4,[.int 4294967295],none⟩]
theorem c_things (hn:6≤n) (q:∀W' T',BdW (L0 c.u) W'→Q (.ok .none) (mk c W' T')):wpF (sta l zs) funs n 1714 [.ref (.f 90)] Q (mk c W0 T):=by
 refine prC hn rfl fun m hn=>?_;have B0:BdW [] W0:=⟨rfl,rfl,⟨by decide,fun i hi=>by cases hi⟩,rfl,rfl,rfl,rfl,rfl,rfl⟩;generalize W0=W at B0 ⊢;refine unf (d:=⟨1,b1714⟩) rfl rfl ?_;refine .inr ⟨_,p3_new B0.p3,?_⟩;refine rwE (u_p3 B0.p3) ?_;refine c_thing (nm:=.s .a) (by lia) B0 (by decide) (by decide) fun W1 B1=>?_;clear B0;refine .inr ⟨_,p3_new B1.p3,?_⟩;refine rwE (u_p3 B1.p3) ?_;refine c_thing (nm:=.s .b) (by lia) B1 (by decide) (by decide) fun W2 B2=>?_;refine c_new_words (by lia) B2.p2 (by refine rwE B2.t ?_; decide) fun i hi=>?_;refine .inr ⟨_,p3_new (W:={ W2 with things:=W2.things++[⟨.t,[],some [97,98]⟩] }) B2.p3,?_⟩;refine rwE (u_p3 (W:={ W2 with things:=W2.things++[⟨.t,[],some [97,98]⟩] }) B2.p3) ?_;refine c_add (nm:=.t) (W:={ W2 with things:=W2.things++[⟨.t,[],some [97,98]⟩],pend3:=some [] }) (tx:=some [97,98]) (sl:=[]) (by lia) rfl (by dsimp only; refine rwE B2.r ?_; decide) (by dsimp only; refine rwE B2.r ?_; exact B2.a.len) fun i2 hi2=>?_;have B3:BdW ([⟨.s .a,[],none⟩,⟨.s .b,[],none⟩,⟨.t,[],some [97,98]⟩]:List Th) { W2 with things:=W2.things++[⟨.t,[],some [97,98]⟩],rows:=W2.rows++[⟨.t,[],some [97,98]⟩],pend3:=none,arrays:=bif isArr .t then W2.arrays++[(W2.rows.length:Int)+1] else W2.arrays } :=
  ⟨by dsimp only; rw[B2.t]; rfl,by dsimp only; rw[B2.r]; rfl,B2.a.app ⟨.t,[],some [97,98]⟩,B2.p2,rfl,B2.s,B2.h,B2.d,B2.at'⟩
 revert B3;skip
 generalize ({ W2 with things:=W2.things++[⟨.t,[],some [97,98]⟩],rows:=W2.rows++[⟨.t,[],some [97,98]⟩],pend3:=none,arrays:=bif isArr .t then W2.arrays++[(W2.rows.length:Int)+1] else W2.arrays }:Wd)=W3;intro B3;refine .inr ⟨_,p3_new B3.p3,?_⟩;refine rwE (u_p3 B3.p3) ?_;refine c_thing (nm:=.arr .i4) (by lia) B3 (by simp) (by decide) fun W4 B4=>?_;refine .inr ⟨_,p3_new B4.p3,?_⟩;refine rwE (u_p3 B4.p3) ?_;refine c_thing (nm:=.arr .e) (by lia) B4 (by simp) (by decide) fun W5 B5=>?_;refine .inr ⟨_,p3_new B5.p3,?_⟩;refine rwE (u_p3 B5.p3) ?_;refine c_thing (nm:=.arr .b) (by lia) B5 (by simp) (by decide) fun W6 B6=>?_;refine .inr ⟨_,p3_new B6.p3,?_⟩;refine rwE (u_p3 B6.p3) ?_;refine c_thing (nm:=.arr .o) (by lia) B6 (by simp) (by decide) fun W7 B7=>?_;refine .inr ⟨_,p3_new B7.p3,?_⟩;refine rwE (u_p3 B7.p3) ?_;refine c_thing (nm:=.arr .a) (by lia) B7 (by simp) (by decide) fun W8 B8=>?_;refine .inr ⟨_,p3_new B8.p3,?_⟩;refine rwE (u_p3 B8.p3) ?_;refine c_thing (nm:=.arr .q4) (by lia) B8 (by simp) (by decide) fun W9 B9=>?_;refine .inr ⟨_,p3_new B9.p3,?_⟩;refine rwE (u_p3 B9.p3) ?_;refine c_thing (nm:=.s .i4) (by lia) B9 (by simp) (by decide) fun W10 B10=>?_;refine .inr ⟨_,p3_new B10.p3,?_⟩;refine rwE (u_p3 B10.p3) ?_;refine c_thing (nm:=.s .e) (by lia) B10 (by simp) (by decide) fun W11 B11=>?_;refine .inr ⟨_,p3_new B11.p3,?_⟩;refine rwE (u_p3 B11.p3) ?_;refine rwE (uS_b ..) ?_;refine c_thing (nm:=.s c.u.b) (by lia) B11 (by simp) (by decide) fun W12 B12=>?_;refine .inr ⟨_,p3_new B12.p3,?_⟩;refine rwE (u_p3 B12.p3) ?_;refine c_thing (nm:=.s .i8) (by lia) B12 (by simp) (by decide) fun W13 B13=>?_;refine .inr ⟨_,p3_new B13.p3,?_⟩;refine rwE (u_p3 B13.p3) ?_;refine c_thing (nm:=.arr .u4) (by lia) B13 (by simp) (by decide) fun W14 B14=>?_;exact q W14 T B14
end
noncomputable def hd' (nm:Nm) (v:AV):Sen:=.held nm v
noncomputable def knownL:List TopS :=
 [.ev (.elem .i4 (.held (.arr .i4) (.int 0)) (.held (.s .i4) (.int (-1)))),.ev (.elem .i4 (.held (.arr .i4) (.int 4)) (.held (.s .i4) (.int 2))),.ev (.elem .i4 (.held (.arr .i4) (.int 4)) (.held (.s .i4) (.int (-1)))),
  .ev (.elem .i4 (.held (.arr .i4) (.int 0)) (.held (.s .i8) (.int 2147483648))),.ev (.asg .a (.held (.arr .a) (.int 6)) (.held (.s .i4) (.int 0)) (.held (.s .a) (.int 1))),.ev (.asg .a (.held (.arr .a) (.int 6)) (.held (.s .i4) (.int 2)) (.held (.s .a) (.int 1))),
  .ev (.asg .a (.held (.arr .a) (.int 0)) (.held (.s .i4) (.int 0)) (.cast (.s .a) (.held (.s .o) (.int 3)))),.ev (.comp .a (.held (.arr .a) (.int 6)) (.held (.s .i4) (.int 2)) (.cast (.s .a) (.held (.s .o) (.int 3))) 0),
  .pl .a (.held (.arr .a) (.int 6)) (.held (.s .i4) (.int 0)) 0,.pl .a (.held (.arr .a) (.int 6)) (.held (.s .i4) (.int 0)) 1,.ev (.len (.held (.arr .i4) (.int 0))),.ev (.new .i4 (.held (.s .i4) (.int (-1)))),.ev (.new .o (.held (.s .u4) (.int 65537))),.ev (.new .i4 (.held (.s .i4) (.int 2))),
  .ev (.cast (.s .i4) (.held (.s .o) (.int 0))),.ev (.cast (.s .i4) (.held (.s .o) (.int 13))),.ev (.cast (.s .q4) (.held (.s .o) (.int 11))),.ev (.value (.s .i4) (.cast (.s .q4) (.held (.s .o) (.int 0)))),.ev (.num .i4 (.held (.s .i8) (.int 2147483648)) 1),
  .ev (.asg .u4 (.held (.arr .u4) (.int 4)) (.held (.s .i4) (.int 0)) (.held (.s .u4) (.int 4294967295)))]
theorem vI {L:List Th} {nm:Nm} {z:Int} (h:isN nm=true):Val L nm (.int z):=int_val h
theorem vA {u:U4} {x y:B0} {i:Int} {t:Th} (h0:0≤i) (h1:i≤14) (ht:thI (L0 u) i=some t) (hn:t.nm = .arr y) (hc:cls y=cls x):Val (L0 u) (.arr x) (.int i):=ref_val rfl h0 h1 fun z hz _=>by cases hz; exact⟨t,y,ht,hn,hc⟩
theorem vA0 {u:U4} {x:B0}:Val (L0 u) (.arr x) (.int 0):=ref_val rfl (by decide) (by lia) fun _ _ h=>absurd rfl h
theorem vR {u:U4} {x:B0} {i:Int} (hr:refers (.s x)=true) (h0:0≤i) (h1:i≤14):Val (L0 u) (.s x) (.int i):=ref_val hr h0 h1 fun _ e=>by cases e
theorem known_ok (u:U4):∀t∈knownL,WFT (L0 u) t:=by
 have a4:∀x,cls .i4=cls x→Val (L0 u) (.arr x) (.int 4):=fun x h=>vA (by decide) (by decide) (t:=⟨.arr .i4,[.int 5,.int (-1)],none⟩) rfl rfl h;have a6:Val (L0 u) (.arr .a) (.int 6):=vA (by decide) (by decide) (t:=⟨.arr .b,[.int 2,.int 0],none⟩) rfl rfl rfl;simp only[knownL,List.mem_cons,List.not_mem_nil,or_false,forall_eq_or_imp,forall_eq];refine⟨⟨⟨vA0,rfl,vI rfl,rfl⟩,by decide⟩,⟨⟨a4 _ rfl,rfl,vI rfl,rfl⟩,by decide⟩,⟨⟨a4 _ rfl,rfl,vI rfl,rfl⟩,by decide⟩,⟨⟨vA0,rfl,vI rfl,rfl⟩,by decide⟩,
  ⟨⟨a6,rfl,vI rfl,rfl,vR rfl (by decide) (by decide),rfl⟩,by decide⟩,⟨⟨a6,rfl,vI rfl,rfl,vR rfl (by decide) (by decide),rfl⟩,by decide⟩,⟨⟨vA0,rfl,vI rfl,rfl,⟨vR rfl (by decide) (by decide),rfl⟩,rfl⟩,by decide⟩,⟨⟨a6,rfl,vI rfl,rfl,⟨vR rfl (by decide) (by decide),rfl⟩,rfl⟩,by decide⟩,
  ⟨a6,rfl,vI rfl,rfl,by decide⟩,⟨a6,rfl,vI rfl,rfl,by decide⟩,⟨⟨vA0,_,rfl⟩,by decide⟩,⟨⟨vI rfl,rfl⟩,by decide⟩,⟨⟨vI rfl,rfl⟩,by decide⟩,⟨⟨vI rfl,rfl⟩,by decide⟩,
  ⟨⟨vR rfl (by decide) (by decide),rfl⟩,by decide⟩,⟨⟨vR rfl (by decide) (by decide),rfl⟩,by decide⟩,⟨⟨vR rfl (by decide) (by decide),rfl⟩,by decide⟩,⟨⟨⟨vR rfl (by decide) (by decide),rfl⟩,rfl,rfl⟩,by decide⟩,⟨⟨vI rfl,rfl,rfl⟩,by decide⟩,
  ⟨⟨a4 _ rfl,rfl,vI rfl,rfl,vI rfl,rfl⟩,by decide⟩⟩
theorem l0_wl (u:U4):WL (L0 u):=by
 intro t ht;simp only[L0,List.mem_cons,List.not_mem_nil,or_false] at ht;rcases ht with rfl|rfl|rfl|rfl|rfl|rfl|rfl|rfl|rfl|rfl|rfl|rfl|rfl|rfl
 ·exact⟨by decide,.inr ⟨.inl rfl,rfl⟩⟩
 ·exact⟨by decide,.inr ⟨.inr rfl,rfl⟩⟩
 ·exact⟨by decide,rfl⟩
 ·refine⟨by decide,fun v hv=>?_⟩;simp only[List.mem_cons,List.not_mem_nil,or_false] at hv;rcases hv with rfl|rfl<;>exact vI rfl
 ·refine⟨by decide,fun v hv=>?_⟩;simp only[List.mem_cons,List.not_mem_nil,or_false] at hv;rcases hv with rfl|rfl<;>exact vI rfl
 ·refine⟨by decide,fun v hv=>?_⟩;simp only[List.mem_cons,List.not_mem_nil,or_false] at hv;rcases hv with rfl|rfl<;>exact vR rfl (by decide) (by decide)
 ·refine⟨by decide,fun v hv=>?_⟩;simp only[List.mem_cons,List.not_mem_nil,or_false] at hv;rcases hv with rfl|rfl|rfl<;>exact vR rfl (by decide) (by decide)
 ·refine⟨by decide,fun v hv=>?_⟩;simp only[List.mem_cons,List.not_mem_nil,or_false] at hv;rcases hv with rfl|rfl<;>exact vR rfl (by decide) (by decide)
 ·refine⟨by decide,fun v hv=>?_⟩;simp only[List.mem_cons,List.not_mem_nil,or_false] at hv;rcases hv with rfl|rfl
  ·exact q_val rfl (.inr ⟨7,rfl⟩)
  ·exact q_val rfl (.inl rfl)
 ·exact⟨by decide,.inl ⟨rfl,_,rfl⟩⟩
 ·exact⟨by decide,.inl ⟨rfl,_,rfl⟩⟩
 ·exact⟨of_decide_eq_true rfl,.inl ⟨by cases u<;>rfl,_,rfl⟩⟩
 ·exact⟨by decide,.inl ⟨rfl,_,rfl⟩⟩
 ·refine⟨by decide,fun v hv=>?_⟩;simp only[List.mem_cons,List.not_mem_nil,or_false] at hv;rcases hv with rfl<;>exact vI rfl
theorem WFT.mono {L L':List Th} (e:ThE L L') {t:TopS} (h:WFT L t):WFT L' t:=by
 induction t using TopS.casesOn with
 |ev s=>exact⟨h.1.mono e,h.2⟩
 |pl x a i call=>exact⟨h.1.mono e,h.2.1,h.2.2.1.mono e,h.2.2.2⟩
theorem BdW.inv {u:U4} {W:Wd} (B:BdW (L0 u) W):Inv (L0 u) 0 W :=
 ⟨B.t.trans B.r.symm,by rw[B.r]; exact l0_wl u,by rw[B.r]; exact B.a,B.p2,B.p3,by rw[B.d]; exact .inl rfl,by rw[B.s]; decide,by rw[B.h]; decide,by rw[B.r]; exact Nat.le_refl 14,by rw[B.at']; decide,by rw[B.r]; exact ThE.refl _⟩
section
variable {l:Addr} {zs:List Int} {n:Nat} {c:Cst} {W:Wd} {T:List AO} {Q:Post}
theorem c_known (hn:1≤n) (q:Q (.ok (.tup (knownL.map tAV))) (mk c W T)):wpF (sta l zs) funs n 1688 [.ref (.f 90)] Q (mk c W T):=by
 refine prC hn rfl fun m hn=>?_;refine unf (d:=⟨1,b1688⟩) rfl rfl ?_;exact q
noncomputable def lbK:List MS:=match b1728.drop 3 with
 |.forr _ _ b::_=>b
 |_=>[]
noncomputable def lbT:List MS:=match b1728.drop 4 with
 |.forr _ _ b::_=>b
 |_=>[]
theorem loopK {u:U4} {N:Loc→AH→Prop} {X Y:Loc→AV→AH→Prop} {R:AV→AH→Prop} (hn:190≤n):∀(ts:List TopS) (k:Nat) (ρ:Loc) (W:Wd) (T:List AO),(∀t∈ts,WFT (L0 u) t)→k+ts.length≤60→Inv (L0 u) k W→ρ 1=some (.ref (.f 90)) →
 (∀ρ' W' T',ρ' 0=ρ 0→ρ' 1=ρ 1→Inv (L0 u) (k+ts.length) W'→N ρ' (mk c W' T')) →
 List.foldr (fun v (k:Loc→AH→Prop) ρ=>swps (sta l zs) (wpF (sta l zs) funs n) lbK X Y (setL ρ 2 v) k R) N (ts.map tAV) ρ (mk c W T)
 |[],k,ρ,W,T,_,_,I,_,q=>q ρ W T rfl rfl I
 |t::ts,k,ρ,W,T,ht,hk,I,h1,q=>by
  simp only[List.map_cons,List.foldr_cons];have hk':k+1+ts.length≤60:=by dsimp only[List.length_cons] at hk; lia
  refine oKi h1 ?_;refine c_run hn (by lia) I ((ht t (.head _)).mono I.e) fun W' T' I'=>?_;refine loopK hn ts (k+1) (setL ρ 2 (tAV t)) W' T' (fun x hx=>ht x (.tail _ hx)) hk' I' h1 fun ρ' W2 T2 e0 e1 I2=>?_;refine q ρ' W2 T2 e0 e1 ?_;refine rwE (show k+(t::ts).length=k+1+ts.length by simp only[List.length_cons]; lia) ?_;exact I2
theorem atW_inv {L:List Th} {k:Nat} {a:Int} (I:Inv L k W) (ha:0≤a):Inv L k (atW W a):=⟨I.rt,I.wl,I.a,I.p2,I.p3,I.d,I.s,I.h,I.l,ha,I.e⟩
theorem loopT {u:U4} {N:Loc→AH→Prop} {X Y:Loc→AV→AH→Prop} {R:AV→AH→Prop} (hn:190≤n) (hz:c.zs.length≤1000):∀(vs:List AV) (k:Nat) (ρ:Loc) (W:Wd) (T:List AO),k+vs.length≤60→Inv (L0 u) k W→ρ 1=some (.ref (.f 90)) →
 (∀ρ' W' T',ρ' 0=ρ 0→ρ' 1=ρ 1→Inv (L0 u) (k+vs.length) W'→N ρ' (mk c W' T')) →
 List.foldr (fun v (k:Loc→AH→Prop) ρ=>swps (sta l zs) (wpF (sta l zs) funs n) lbT X Y (setL ρ 3 v) k R) N vs ρ (mk c W T)
 |[],k,ρ,W,T,_,I,_,q=>q ρ W T rfl rfl I
 |v::vs,k,ρ,W,T,hk,I,h1,q=>by
  dsimp only[List.foldr_cons];have hk':k+1+vs.length≤60:=by dsimp only[List.length_cons] at hk; lia
  have h14:14≤W.rows.length:=I.e.1;have hl:=I.l;refine oKi h1 ?_;refine oKi h1 ?_;refine l_deed (by lia) I.at' hz (by lia) h14 I.a fun t a T1 ha wt=>?_;refine c_run hn (by lia) (atW_inv I ha) wt fun W' T' I'=>?_;refine loopT hn hz vs (k+1) (setL ρ 3 v) W' T' hk' I' h1 fun ρ' W2 T2 e0 e1 I2=>?_;refine q ρ' W2 T2 e0 e1 ?_;refine rwE (show k+(v::vs).length=k+1+vs.length by simp only[List.length_cons]; lia) ?_;exact I2
end
section
variable {l:Addr} {zs:List Int} {n:Nat} {c:Cst} {W:Wd} {T:List AO} {Q:Post}
noncomputable def lbS:List MS:=match b1721.drop 2 with
 |.forr _ _ b::_=>b
 |_=>[]
theorem s_is:b1721=[.asg (.loc 1) (.attr (.sub (.loc 0) (.val (.str [101,118]))) 46),.ife (.cmp .ne (.len (.loc 1)) (.len (.sub (.loc 0) (.val (.str [114,111,119,115]))))) [.ret (.val (.bool false))] [],.forr 2 (.range [(.val (.int 1)),(.len (.loc 1))]) lbS,.ret (.val (.bool true))]:=by rfl
theorem ne_text {S:Stat} {H:AH} (x:Option (List Nat)):cmpA S H .ne (textV x) (textV x)=some false:=by
 cases x with
 |none=>rfl
 |some x=>exact congrArg (fun b=>some (!b)) (decide_eq_true (rfl:x=x))
theorem ne_int {S:Stat} {H:AH} {i k:Int} (h:i=k):cmpA S H .ne (.int i) (.int k)=some false:=by
 subst h; exact congrArg (fun b=>some (!b)) (decide_eq_true (rfl:i=i))
theorem loopS {N:Loc→AH→Prop} {X Y:Loc→AV→AH→Prop} {R:AV→AH→Prop} (rt:W.things=W.rows) (wl:WL W.rows) (hl:W.rows.length≤89000):∀(vs:List AV) (ρ:Loc),(∀v∈vs,∃i:Int,v = .int i∧1≤i∧i≤W.rows.length)→ρ 0=some (.ref (.f 90))→ρ 1=some (.ref (.f 28)) →
 (∀ρ',N ρ' (mk c W T))→List.foldr (fun v (k:Loc→AH→Prop) ρ=>swps (sta l zs) (wpF (sta l zs) funs n) lbS X Y (setL ρ 2 v) k R) N vs ρ (mk c W T):=fun vs=>by
 induction vs with
 |nil=>intro ρ _ _ _ q; exact q ρ
 |cons v vs ih =>
  intro ρ hv h0 h1 q;dsimp only[List.foldr_cons];refine E13 (hv v (.head _)) fun i eq1 hi1 hi2=>?_; subst eq1;obtain⟨t,ht⟩:=thI_some (L:=W.rows) (i:=i) (by lia) (by lia) hi2;refine (thI_atI ht) fun _ hj _=>?_;have ht':thI W.things i=some t:=by refine rwE rt ?_; exact ht
  have hj':W.things[(i - 1).toNat]? = some t:=by refine rwE rt ?_; exact hj
  conv=>whnf
  refine oKi h0 ?_;conv=>whnf
  refine oKi (row_get ht (by lia)) ?_;conv=>whnf
  refine⟨rfl,?_⟩;conv=>whnf
  refine oKi h1 ?_;conv=>whnf
  refine oKi (th_getI ht' (by refine rwE rt ?_; lia)) ?_;conv=>whnf
  refine oKi (g_kind hj') ?_;conv=>whnf
  refine oKi h0 ?_;conv=>whnf
  refine oKi (kinds_at t.nm) ?_;refine oKi (ne_int rfl) ?_;conv=>whnf
  refine oKi (g_slots hj') ?_;conv=>whnf
  refine oKi (eq_lists (o_slots hj') (o_rslots hj) (tok_d (WL.at wl ht))) ?_;conv=>whnf
  refine oKi (g_text hj') ?_;refine oKi (ne_text t.text) ?_;conv=>whnf
  refine oKi (g_number hj') ?_;conv=>whnf
  refine bF2 (by dsimp only[avEq,Bool.not_eq_false',decide_eq_true_eq]; lia) ?_;exact ih _ (fun x hx=>hv x (.tail _ hx)) h0 h1 q
theorem c_settled {L:List Th} {k:Nat} (hn:2≤n) (I:Inv L k W) (hk:k≤60) (q:Q (.ok (.bool true)) (mk c W T)):wpF (sta l zs) funs n 1721 [.ref (.f 90)] Q (mk c W T):=by
 refine prC hn rfl fun m hn=>?_;have hl:=I.l;have hrt:W.things.length=W.rows.length:=by refine rwE I.rt ?_; rfl
 refine unf (d:=⟨1,b1721⟩) rfl rfl ?_;refine rwE (show (Fun.mk 1 b1721).body=b1721 from rfl) ?_; refine rwE s_is ?_;conv=>whnf
 refine oKi (len_things (by lia)) ?_;generalize hk1:((W.things.length+1:Nat):Int)=k1;refine oKi (len_rows (by lia)) ?_;generalize hk2:((W.rows.length+1:Nat):Int)=k2;refine dNI (fun h=>absurd (show k1=k2 by lia) h) (fun _=>?_);refine oKi (len_things (by lia)) ?_;refine rwE hk1 ?_;refine⟨by decide,by lia,by lia,?_⟩;refine loopS I.rt I.wl (by lia) (rangeL 1 k1) _ (fun v hv=>?_) rfl rfl fun ρ'=>?_
 ·refine E12 (List.mem_map.mp hv) fun j hj eq2=>?_; subst eq2;have:=List.mem_range.mp hj;exact⟨1+(j:Int),rfl,by lia,by lia⟩
 ·exact q
theorem cut40 (zs:List Int):cutL (zs.map AV.int) .none (.int 40)=some ((zs.take 40).map .int):=by
 show some (((zs.map AV.int).take (if (40:Int)<0 then _ else min (40:Int).toNat (zs.map AV.int).length)).drop 0)=_
 refine rwE List.drop_zero ?_; refine rwE (if_neg (by decide)) ?_;have:min (40:Int).toNat (zs.map AV.int).length=min 40 zs.length:=by simp
 refine rwE this ?_;congr 1
 refine rwS List.map_take ?_;congr 1
 rcases Nat.le_total 40 zs.length with h|h
 ·refine rwE (Nat.min_eq_left h) ?_; rfl
 ·refine rwE (Nat.min_eq_right h) ?_; refine rwE (List.take_of_length_le (Nat.le_refl _)) ?_; refine rwE (List.take_of_length_le h) ?_; rfl
theorem law_is:b1728=[.asg (.loc 0) (.cut (.loc 0) (.val .none) (.val (.int (40)))),.asg (.loc 1) (.call 1707 [(.loc 0)]),.expr (.call 1714 [(.loc 1)]),.forr 2 (.call 1688 [(.loc 1)]) lbK,.forr 3 (.range [(.bin .add (.val (.int (2))) (.bin .div (.len (.loc 0)) (.val (.int (5)))))]) lbT,.ret (.call 1721 [(.loc 1)])]:=by rfl
theorem empty_hv:(fun _=>none:AH)=hv []:=by
 funext a; induction a using AA.casesOn<;>rfl
theorem c_world' {m:Nat} (hm:m=201) (xs:List Int) (hx:xs.length≤1000) (q:∀c:Cst,c.zs=xs→Q (.ok (.ref (.f 90))) (mk c W0 [])):wpF (sta l zs) funs m 1707 [.ref (.f 0)] Q (hv [.list (xs.map .int)]):=by
 subst hm; exact c_world xs hx q
theorem plain_law' {m:Nat} (hm:m=201) (hz:zs.length≤63) (hl:tObj.lookup l=none):wpF (sta l zs) funs (m+1) 1728 [.glob l] (fun r _=>r = .ok (.bool true)) (fun _=>none):=by
 have ho:objOf (sta l zs) (hv []) (.glob l)=some (.list (zs.map .int)):=by
  show (match tObj.lookup l with|some d=>some (AO.id d)|none=>if l=l then some (AO.list (zs.map .int)) else none)=_
  refine rwE hl ?_; simp
 refine rwE empty_hv ?_;refine unf (d:=⟨1,b1728⟩) rfl rfl ?_;refine rwE (show (Fun.mk 1 b1728).body=b1728 from rfl) ?_; refine rwE law_is ?_;have hcut:∀S H,objOf S H (.glob l)=some (.list (zs.map .int))→cutA S H (.glob l) .none (.int 40)=some (.l ((zs.take 40).map .int)):=fun S H h=>by
  show (match objOf S H (.glob l) with|some (.list l)=>if l.length≤1000000 then (cutL l .none (.int 40)).map Got1.l else none|_=>none)=_
  rw[h]; exact (if_pos (by simp; lia)).trans (congrArg (Option.map Got1.l) (cut40 zs))
 conv=>whnf
 refine rwE (hcut _ _ ho) ?_;refine .inr ⟨.f 0,rfl,?_⟩;refine rwE (show upd (hv []) (.f 0) (.list ((zs.take 40).map .int))=hv [.list ((zs.take 40).map .int)] from hv_push [] _) ?_;refine c_world' hm (zs.take 40) (by simp; lia) fun c hc=>?_;refine c_things (by lia) fun W T B=>?_;refine c_known (by lia) ?_;have hks:=known_ok c.u;have hkl:knownL.length=20:=rfl;generalize knownL=ts at hks hkl ⊢;dsimp only[onRes];refine oKi (a:=ts.map tAV) rfl ?_;have hzz:c.zs.length≤40:=by refine rwE hc ?_; simp; lia
 refine loopK (by lia) ts 0 _ W T hks (by lia) B.inv rfl fun ρ W1 T1 e0 e1 I1=>?_;replace e0:ρ 0=some (.ref (.f 0)):=e0;replace e1:ρ 1=some (.ref (.f 90)):=e1;refine oKi e0 ?_;refine oKi (len_list (li:=c.zs.map .int) rfl (by simp; lia)) ?_;generalize hk:((c.zs.map AV.int).length:Int)=k;have hk':k=(c.zs.length:Int):=by refine rwS hk ?_; simp
 conv=>whnf
 have hd:=Int.fdiv_eq_ediv_of_nonneg k (b:=5) (by decide);generalize Int.fdiv k 5=d at hd ⊢;refine⟨by lia,by lia,?_⟩;have hlen:(rangeL 0 (2+d)).length≤10:=by
  have:(rangeL 0 (2+d)).length=(2+d - 0).toNat:=by simp[rangeL]
  refine rwE this ?_;lia
 generalize rangeL 0 (2+d)=rs at hlen ⊢;refine loopT (by lia) (by lia) rs (0+ts.length) ρ W1 T1 (by lia) I1 e1 fun ρ' W2 T2 e2 e3 I2=>?_;have e3':ρ' 1=some (.ref (.f 90)):=e3.trans e1;refine oKi e3' ?_;exact c_settled (by lia) I2 (by lia) rfl
end
end Mine.Internal
end
theorem PySem.Challenge.cw_xm0326_01_holds : PySem.Challenge.rw_xm0326_01.Holds := by
  exact Mine.Internal.head (Mine.Internal.call_of (201 + 1) (by decide) fun _ _ h1 h2 => Mine.Internal.plain_law' rfl h1 h2)
