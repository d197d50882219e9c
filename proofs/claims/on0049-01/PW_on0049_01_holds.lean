import PyProof.Rows.All
import KE.KLam
import KE.KSlice
import OpenK.KRaise
import Flt.Ops
import Open.Seg
import Open.Tree
import PySem.Challenge.RW_on0049_01
set_option maxRecDepth 1000000
set_option linter.all false
set_option Elab.async false
set_option bootstrap.genMatcherCode false
set_option genSizeOf false
set_option genInjectivity false
set_option tactic.hygienic false
namespace Mine
section
open PySem PySem.W PyProof.Rows
abbrev VP:=Value→Shared→Prop
abbrev SV:=Str→Option Value
abbrev FP:=Flow→Shared→Prop
abbrev LK:=List (Str×NameKind)
noncomputable def AA:=@wpAny_bind
noncomputable def AB:=@Option.some.inj
noncomputable def AD:=@wpAny_pure
noncomputable def AE:=@Heap.get?_push_of_some
noncomputable def AF:=@Nat.le_of_ble_eq_true
noncomputable def AG:=@wpAny_holding
noncomputable def AH:=@wpAny_mono
noncomputable def AI:=@Nat.eq_of_beq_eq_true
end
section
universe u1 u2 u3 u4
theorem ea0_2  {P1 P2:Prop} {G:Prop} (h:P1∧P2) (k:P1→P2→G):G:=by
 obtain ⟨h1,h2⟩:=h;exact k h1 h2
theorem ea0_3  {P1 P2 P3:Prop} {G:Prop} (h:P1∧P2∧P3) (k:P1→P2→P3→G):G:=by
 obtain ⟨h1,h2,h3⟩:=h;exact k h1 h2 h3
theorem ea0_4  {P1 P2 P3 P4:Prop} {G:Prop} (h:P1∧P2∧P3∧P4) (k:P1→P2→P3→P4→G):G:=by
 obtain ⟨h1,h2,h3,h4⟩:=h;exact k h1 h2 h3 h4
theorem ea0_5  {P1 P2 P3 P4 P5:Prop} {G:Prop} (h:P1∧P2∧P3∧P4∧P5) (k:P1→P2→P3→P4→P5→G):G:=by
 obtain ⟨h1,h2,h3,h4,h5⟩:=h;exact k h1 h2 h3 h4 h5
theorem ea0_6  {P1 P2 P3 P4 P5 P6:Prop} {G:Prop} (h:P1∧P2∧P3∧P4∧P5∧P6) (k:P1→P2→P3→P4→P5→P6→G):G:=by
 obtain ⟨h1,h2,h3,h4,h5,h6⟩:=h;exact k h1 h2 h3 h4 h5 h6
theorem ea0_7  {P1 P2 P3 P4 P5 P6 P7:Prop} {G:Prop} (h:P1∧P2∧P3∧P4∧P5∧P6∧P7) (k:P1→P2→P3→P4→P5→P6→P7→G):G:=by
 obtain ⟨h1,h2,h3,h4,h5,h6,h7⟩:=h;exact k h1 h2 h3 h4 h5 h6 h7
theorem ea1_1 {α:Sort u1} {P1:α→Prop} {G:Prop} (h:∃ a,P1 a) (k:∀ a,P1 a→G):G:=by
 obtain ⟨a,h1⟩:=h;exact k a h1
theorem ea1_2 {α:Sort u1} {P1 P2:α→Prop} {G:Prop} (h:∃ a,P1 a∧P2 a) (k:∀ a,P1 a→P2 a→G):G:=by
 obtain ⟨a,h1,h2⟩:=h;exact k a h1 h2
theorem ea1_3 {α:Sort u1} {P1 P2 P3:α→Prop} {G:Prop} (h:∃ a,P1 a∧P2 a∧P3 a) (k:∀ a,P1 a→P2 a→P3 a→G):G:=by
 obtain ⟨a,h1,h2,h3⟩:=h;exact k a h1 h2 h3
theorem ea1_4 {α:Sort u1} {P1 P2 P3 P4:α→Prop} {G:Prop} (h:∃ a,P1 a∧P2 a∧P3 a∧P4 a) (k:∀ a,P1 a→P2 a→P3 a→P4 a→G):G:=by
 obtain ⟨a,h1,h2,h3,h4⟩:=h;exact k a h1 h2 h3 h4
theorem ea1_5 {α:Sort u1} {P1 P2 P3 P4 P5:α→Prop} {G:Prop} (h:∃ a,P1 a∧P2 a∧P3 a∧P4 a∧P5 a) (k:∀ a,P1 a→P2 a→P3 a→P4 a→P5 a→G):G:=by
 obtain ⟨a,h1,h2,h3,h4,h5⟩:=h;exact k a h1 h2 h3 h4 h5
theorem ea1_7 {α:Sort u1} {P1 P2 P3 P4 P5 P6 P7:α→Prop} {G:Prop} (h:∃ a,P1 a∧P2 a∧P3 a∧P4 a∧P5 a∧P6 a∧P7 a) (k:∀ a,P1 a→P2 a→P3 a→P4 a→P5 a→P6 a→P7 a→G):G:=by
 obtain ⟨a,h1,h2,h3,h4,h5,h6,h7⟩:=h;exact k a h1 h2 h3 h4 h5 h6 h7
theorem ea2_1 {α:Sort u1} {β:Sort u2} {P1:α→β→Prop} {G:Prop} (h:∃ a b,P1 a b) (k:∀ a b,P1 a b→G):G:=by
 obtain ⟨a,b,h1⟩:=h;exact k a b h1
theorem ea2_2 {α:Sort u1} {β:Sort u2} {P1 P2:α→β→Prop} {G:Prop} (h:∃ a b,P1 a b∧P2 a b) (k:∀ a b,P1 a b→P2 a b→G):G:=by
 obtain ⟨a,b,h1,h2⟩:=h;exact k a b h1 h2
theorem ea2_3 {α:Sort u1} {β:Sort u2} {P1 P2 P3:α→β→Prop} {G:Prop} (h:∃ a b,P1 a b∧P2 a b∧P3 a b) (k:∀ a b,P1 a b→P2 a b→P3 a b→G):G:=by
 obtain ⟨a,b,h1,h2,h3⟩:=h;exact k a b h1 h2 h3
theorem ea2_4 {α:Sort u1} {β:Sort u2} {P1 P2 P3 P4:α→β→Prop} {G:Prop} (h:∃ a b,P1 a b∧P2 a b∧P3 a b∧P4 a b) (k:∀ a b,P1 a b→P2 a b→P3 a b→P4 a b→G):G:=by
 obtain ⟨a,b,h1,h2,h3,h4⟩:=h;exact k a b h1 h2 h3 h4
theorem ea3_1 {α:Sort u1} {β:Sort u2} {γ:Sort u3} {P1:α→β→γ→Prop} {G:Prop} (h:∃ a b c,P1 a b c) (k:∀ a b c,P1 a b c→G):G:=by
 obtain ⟨a,b,c,h1⟩:=h;exact k a b c h1
theorem ea3_2 {α:Sort u1} {β:Sort u2} {γ:Sort u3} {P1 P2:α→β→γ→Prop} {G:Prop} (h:∃ a b c,P1 a b c∧P2 a b c) (k:∀ a b c,P1 a b c→P2 a b c→G):G:=by
 obtain ⟨a,b,c,h1,h2⟩:=h;exact k a b c h1 h2
theorem ea3_3 {α:Sort u1} {β:Sort u2} {γ:Sort u3} {P1 P2 P3:α→β→γ→Prop} {G:Prop} (h:∃ a b c,P1 a b c∧P2 a b c∧P3 a b c) (k:∀ a b c,P1 a b c→P2 a b c→P3 a b c→G):G:=by
 obtain ⟨a,b,c,h1,h2,h3⟩:=h;exact k a b c h1 h2 h3
theorem ea3_4 {α:Sort u1} {β:Sort u2} {γ:Sort u3} {P1 P2 P3 P4:α→β→γ→Prop} {G:Prop} (h:∃ a b c,P1 a b c∧P2 a b c∧P3 a b c∧P4 a b c) (k:∀ a b c,P1 a b c→P2 a b c→P3 a b c→P4 a b c→G):G:=by
 obtain ⟨a,b,c,h1,h2,h3,h4⟩:=h;exact k a b c h1 h2 h3 h4
theorem ea3_5 {α:Sort u1} {β:Sort u2} {γ:Sort u3} {P1 P2 P3 P4 P5:α→β→γ→Prop} {G:Prop} (h:∃ a b c,P1 a b c∧P2 a b c∧P3 a b c∧P4 a b c∧P5 a b c) (k:∀ a b c,P1 a b c→P2 a b c→P3 a b c→P4 a b c→P5 a b c→G):G:=by
 obtain ⟨a,b,c,h1,h2,h3,h4,h5⟩:=h;exact k a b c h1 h2 h3 h4 h5
theorem ea3_6 {α:Sort u1} {β:Sort u2} {γ:Sort u3} {P1 P2 P3 P4 P5 P6:α→β→γ→Prop} {G:Prop} (h:∃ a b c,P1 a b c∧P2 a b c∧P3 a b c∧P4 a b c∧P5 a b c∧P6 a b c) (k:∀ a b c,P1 a b c→P2 a b c→P3 a b c→P4 a b c→P5 a b c→P6 a b c→G):G:=by
 obtain ⟨a,b,c,h1,h2,h3,h4,h5,h6⟩:=h;exact k a b c h1 h2 h3 h4 h5 h6
theorem ea4_1 {α:Sort u1} {β:Sort u2} {γ:Sort u3} {δ:Sort u4} {P1:α→β→γ→δ→Prop} {G:Prop} (h:∃ a b c d,P1 a b c d) (k:∀ a b c d,P1 a b c d→G):G:=by
 obtain ⟨a,b,c,d,h1⟩:=h;exact k a b c d h1
theorem ea4_2 {α:Sort u1} {β:Sort u2} {γ:Sort u3} {δ:Sort u4} {P1 P2:α→β→γ→δ→Prop} {G:Prop} (h:∃ a b c d,P1 a b c d∧P2 a b c d) (k:∀ a b c d,P1 a b c d→P2 a b c d→G):G:=by
 obtain ⟨a,b,c,d,h1,h2⟩:=h;exact k a b c d h1 h2
theorem ea4_3 {α:Sort u1} {β:Sort u2} {γ:Sort u3} {δ:Sort u4} {P1 P2 P3:α→β→γ→δ→Prop} {G:Prop} (h:∃ a b c d,P1 a b c d∧P2 a b c d∧P3 a b c d) (k:∀ a b c d,P1 a b c d→P2 a b c d→P3 a b c d→G):G:=by
 obtain ⟨a,b,c,d,h1,h2,h3⟩:=h;exact k a b c d h1 h2 h3
theorem ea4_4 {α:Sort u1} {β:Sort u2} {γ:Sort u3} {δ:Sort u4} {P1 P2 P3 P4:α→β→γ→δ→Prop} {G:Prop} (h:∃ a b c d,P1 a b c d∧P2 a b c d∧P3 a b c d∧P4 a b c d) (k:∀ a b c d,P1 a b c d→P2 a b c d→P3 a b c d→P4 a b c d→G):G:=by
 obtain ⟨a,b,c,d,h1,h2,h3,h4⟩:=h;exact k a b c d h1 h2 h3 h4
theorem ea4_5 {α:Sort u1} {β:Sort u2} {γ:Sort u3} {δ:Sort u4} {P1 P2 P3 P4 P5:α→β→γ→δ→Prop} {G:Prop} (h:∃ a b c d,P1 a b c d∧P2 a b c d∧P3 a b c d∧P4 a b c d∧P5 a b c d) (k:∀ a b c d,P1 a b c d→P2 a b c d→P3 a b c d→P4 a b c d→P5 a b c d→G):G:=by
 obtain ⟨a,b,c,d,h1,h2,h3,h4,h5⟩:=h;exact k a b c d h1 h2 h3 h4 h5
theorem ea4_8 {α:Sort u1} {β:Sort u2} {γ:Sort u3} {δ:Sort u4} {P1 P2 P3 P4 P5 P6 P7 P8:α→β→γ→δ→Prop} {G:Prop} (h:∃ a b c d,P1 a b c d∧P2 a b c d∧P3 a b c d∧P4 a b c d∧P5 a b c d∧P6 a b c d∧P7 a b c d∧P8 a b c d) (k:∀ a b c d,P1 a b c d→P2 a b c d→P3 a b c d→P4 a b c d→P5 a b c d→P6 a b c d→P7 a b c d→P8 a b c d→G):G:=by
 obtain ⟨a,b,c,d,h1,h2,h3,h4,h5,h6,h7,h8⟩:=h;exact k a b c d h1 h2 h3 h4 h5 h6 h7 h8
theorem nsF {α:Type u1} {a:α} {C:Prop} (h:none=some a):C:=by cases h
theorem snF {α:Type u1} {a:α} {C:Prop} (h:some a=none):C:=by cases h
theorem ffF {C:Prop} (h:false=true):C:=by cases h
theorem tfF {C:Prop} (h:true=false):C:=by cases h
theorem cnF {α:Type u1} {a:α} {l:List α} {C:Prop} (h:a::l=[]):C:=by cases h
theorem ncF {α:Type u1} {a:α} {l:List α} {C:Prop} (h:[]=a::l):C:=by cases h
theorem pI1 {α:Type u1} {β:Type u2} {a b:α} {c d:β} (h:(a,c)=(b,d)):a=b:=congrArg Prod.fst h
theorem pI2 {α:Type u1} {β:Type u2} {a b:α} {c d:β} (h:(a,c)=(b,d)):c=d:=congrArg Prod.snd h
theorem lI1 {α:Type u1} {a b:α} {c d:List α} (h:a::c=b::d):a=b:=(List.cons.inj h).1
theorem lI2 {α:Type u1} {a b:α} {c d:List α} (h:a::c=b::d):c=d:=(List.cons.inj h).2
noncomputable def IsS {α:Type u1} (o:Option α) (P:α→Prop):Prop:=match o with | some q=>P q | none=>True
theorem IsS.of {α:Type u1} {o:Option α} {P:α→Prop} {q:α} (e:o=some q) (h:IsS o P):P q:=by subst e;exact h
theorem AO {α:Type u1} {β:Type u2} {o:Option α} {f:α→Option β} {b:β} {G:Prop} (h:o.bind f=some b) (k:∀ a,o=some a→f a=some b→G):G:=by
 cases o with
 | none=>cases h
 | some a=>exact k a rfl h
theorem BA {a b:Bool} (h:(a&&b)=true):a=true∧b=true:=by
 cases a with
 | false=>cases h
 | true=>exact ⟨rfl,h⟩
theorem orT {a b:Bool} {G:Prop} (h:(a || b)=true) (k1:a=true→G) (k2:b=true→G):G:=by
 cases a with
 | true=>exact k1 rfl
 | false=>exact k2 h
theorem Sr {a:Bool} (h:(!a)=true):a=false:=by cases a<;>first | rfl | cases h
noncomputable def Bp {α:Type u1} (o:Option α) (p:α→Bool):Bool:=match o with | some a=>p a | none=>false
theorem Ac {α:Type u1} {o:Option α} {p:α→Bool} {G:Prop} (h:Bp o p=true) (k:∀ a,o=some a→p a=true→G):G:=by
 cases o with
 | none=>cases h
 | some a=>exact k a rfl h
theorem Nz {α:Type u1} {l:List α} (h:l.length=0):l=[]:=by
 cases l with
 | nil=>rfl
 | cons _ _=>exact absurd h nofun
theorem GR {α:Type u1} {l:List α} {n:Nat} (h:l.length=n + 1):∃ a r,l=a::r∧r.length=n:=by
 cases l with
 | nil=>exact absurd h nofun
 | cons a r=>exact ⟨a,r,rfl,Nat.succ.inj h⟩
end
section
open PySem
noncomputable abbrev P:Program:=PySem.Challenge.pw_on0049_01
noncomputable abbrev Nm:=List Nat
inductive D where
 | non | boo (b:Bool) | int (n:Int) | str (l:List Nat) | byt (l:List Nat)
 | tup (ds:List D) | lst (ds:List D) | src | chk | wld | fn (i:Nat) | blt (k:Nat) | ty (k:Nat) | dic (k:Nat)
 | pick (k:Nat) (ds:List D)
inductive It (X:Type) where
 | plain (e:X) | range (e:X) | enum (e:X)
inductive Cm where
 | eq | ne | lt | le | gt | ge | isNone | isNotNone | isin | notin
inductive Bo where
 | add | sub | pow
inductive X where
 | cst (d:D) | var (x:Nm) | glb (d:D)
 | tup (es:List X) | lst (es:List X)
 | ite (t a b:X) | bop (isAnd:Bool) (es:List X) | not (a:X)
 | bin (op:Bo) (a b:X) | cmp (op:Cm) (a b:X) | isn (neg:Bool) (a:X) | chn (a:X) (op:Cm) (b:X) (op':Cm) (c:X)
 | sub (a i:X) | slc (a:X) (l u:Option Nat) | wld (a:X)
 | call (f:X) (args:List X) | meth (o:X) (f:Nat) (args:List X)
 | tupenum (e:X)
 | comp (e:X) (xs:List Nm) (it:It X) (ifs:List X) (frees:List Nm)
 | dsub (ks:List (Nm×Nm)) (i:X)
 | bad
inductive S where
 | ret (e:X) | asg (x:Nm) (e:X) | asgT (xs:List Nm) (e:X) | expr (e:X) | ite (t:X) (a b:List S)
 | loop (x:Nm) (it:It X) (body:List S) | raise (args:List X) | tryRet (body:List S) (r:Nm)
 | asgL (x:Nm) (es:List X) (d:D) | bad
structure Fn where
 params:List Nm
 defaults:List D
 body:List S
noncomputable def nm (x:Str):Nm:=x.cps.toList
noncomputable def Dg (x:Nm):List (Nm×D)→Option D
 | []=>none
 | (y,d)::r=>match x == y with | true=>some d | false=>Dg x r
noncomputable def As (x:Nm):List (Str×NameKind)→Option NameKind
 | []=>none
 | (y,k)::r=>match x == nm y with | true=>some k | false=>As x r
noncomputable def CJ (x:Nm):Option Nat :=
 if x == nm "value" then some 1001 else if x == nm "coerce" then some 1003 else if x == nm "takes_type" then some 1004
 else if x == nm "expr" then some 1000 else none
noncomputable def eC {α:Type} (e:Expr) (nam:Str→Option α:=fun zz=>none) (att:Expr→Str→Pos→Option α:=fun zz zz zz=>none) (cal:Expr→List Expr→List Keyword→Pos→Option α:=fun zz zz zz zz=>none)
  (con:Const→Option α:=fun zz=>none) (lis:List Expr→Option α:=fun zz=>none) (tup:List Expr→Option α:=fun zz=>none) (dic:List (Option Expr)→List Expr→Option α:=fun zz zz=>none)
  (lam:Arguments→Expr→Scope→Pos→Option α:=fun zz zz zz zz=>none) (slc:Option Expr→Option Expr→Option Expr→Option α:=fun zz zz zz=>none)
  (cmp:Expr→List Expr→Option α:=fun zz zz=>none) (sta:Expr→Option α:=fun zz=>none):Option α:=match e with
 | .Name x _=>nam x
 | .Attribute o a p=>att o a p
 | .Call f as ks p=>cal f as ks p
 | .Constant c _ _=>con c
 | .List es _=>lis es
 | .Tuple es _ _=>tup es
 | .Dict ks vs _=>dic ks vs
 | .Lambda a e s p=>lam a e s p
 | .Slice l u st _=>slc l u st
 | .Compare a _ es _=>cmp a es
 | .Starred e _=>sta e
 | _=>none
noncomputable def sC {α:Type} (st:Stmt) (exp:Expr→Option α:=fun zz=>none) (ret:Option Expr→Option α:=fun zz=>none) (asg:List Expr→Expr→Option α:=fun zz zz=>none)
  (fdf:Str→Arguments→List Stmt→Scope→Option α:=fun zz zz zz zz=>none) (cls:Str→List Stmt→Option α:=fun zz zz=>none) (lop:List Stmt→Option α:=fun zz=>none) (ite:Expr→Option α:=fun zz=>none):Option α:=match st with
 | .Expr e _=>exp e
 | .Return v _=>ret v
 | .Assign ts e _=>asg ts e
 | .FunctionDef n a b _ _ _ s _ _ _=>fdf n a b s
 | .ClassDef n _ _ b ..=>cls n b
 | .For _ _ b _ _=>lop b
 | .If t _ _ _=>ite t
 | _=>none
noncomputable def constOf (e:Expr):Option Const:=eC e (con:=some)
noncomputable def YG:Const→Option Int | .int i=>some i | _=>none
noncomputable def Xz:Int→Option Nat | .ofNat n=>some n | _=>none
noncomputable def GO:Option Expr→Option (Option Nat)
 | none=>some none
 | some e=>(constOf e).bind fun c=>(YG c).bind fun i=>(Xz i).bind fun n=>some (some n)
noncomputable def Ch:CmpOp→Option Cm
 | .Eq=>some .eq | .NotEq=>some .ne | .Lt=>some .lt | .LtE=>some .le | .Gt=>some .gt | .GtE=>some .ge
 | .In=>some .isin | .NotIn=>some .notin | _=>none
noncomputable def An (e:Expr):Option Str:=eC e (nam:=some)
noncomputable def targetsOf:List Expr→Option (List Nm)
 | []=>some []
 | t::r=>(An t).bind fun x=>(targetsOf r).bind fun xs=>some (nm x::xs)
noncomputable def CP:List (Str×NameKind)→List Nm
 | []=>[]
 | (x,.free)::r=>nm x::CP r
 | _::r=>CP r
noncomputable def Ax (x:Str):Bool:=nm x == nm "__debug__" || nm x == nm "__classdict__"
noncomputable def tgt (cells:Bool) (sc:LK) (x:Nm):Bool:=match As x sc with
 | some .local=>true
 | some .cell=>cells
 | _=>false
noncomputable def KR (cells:Bool) (sc:LK) (xs:List Nm):Bool:=xs.all (tgt cells sc)
noncomputable def Di:X→Nat→Bool
 | .glb d,k=>(match d with | .ty m=>Nat.beq m k | _=>false)
 | _,_=>false
noncomputable def Jt:X→Nat→Bool
 | .glb d,k=>(match d with | .fn m=>Nat.beq m k | _=>false)
 | _,_=>false
noncomputable def isZ:Int→Bool | .ofNat n=>Nat.beq n 0 | .negSucc _=>false
noncomputable def A2 {α:Type}:List α→Option α
 | []=>none
 | a::r=>(match r with | []=>some a | _::_=>none)
noncomputable def Hl:X→Option X
 | .call _ args=>A2 args
 | _=>none
noncomputable def VJ {α β:Type} (l:List α) (b:β):Option β:=match l with | []=>some b | _::_=>none
noncomputable def WV (e:Expr):Option (Expr×Str×Nat):=eC e (att:=fun o a ap=>some (o,a,ap.endLine))
noncomputable def Hi (e:Expr):Option (Expr×List Expr×Pos):=eC e (cal:=fun f a kws p=>VJ kws (f,a,p))
noncomputable def Xt:Const→Option Str | .str x=>some x | _=>none
noncomputable def listE (e:Expr):Option (List Expr):=eC e (lis:=some)
noncomputable def Tj (st:Stmt):Option Expr:=sC st (exp:=some)
noncomputable def SJ (st:Stmt):Option Expr:=sC st (ret:=id)
noncomputable def Vo (st:Stmt):Option (List Expr×Expr):=sC st (asg:=fun ts e=>some (ts,e))
noncomputable def K9 (st:Stmt):Option (Arguments×List Stmt×Scope):=sC st (fdf:=fun zz a b s=>some (a,b,s))
noncomputable def Y5 (st:Stmt):Option (List Stmt):=sC st (cls:=fun zz b=>some b)
noncomputable def Ml (e:Expr):Option (List (Option Expr)×List Expr):=eC e (dic:=fun ks vs=>some (ks,vs))
noncomputable def M5 (e:Expr):Option (List Expr):=eC e (tup:=some)
noncomputable def Yp (e:Expr):Option (Arguments×Expr×Scope×Pos):=eC e (lam:=fun a e s p=>some (a,e,s,p))
noncomputable def SD (e:Expr):Option (Option Expr×Option Expr×Option Expr):=eC e (slc:=fun l u st=>some (l,u,st))
noncomputable def Ex (e:Expr):Option Unit:=eC e (sta:=fun zz=>some ())
noncomputable def B7 {α:Type} (b:Bool) (o:Option α):Option α:=match b with | true=>o | false=>none
noncomputable def HO {α:Type}:List α→Option (α×α) | [a,b]=>some (a,b) | _=>none
noncomputable def F9 {α:Type}:List α→Option (α×α×α) | [a,b,c]=>some (a,b,c) | _=>none
noncomputable def EI (e:Expr):Option (Str×Str×Nat):=(WV e).bind fun q=>(An q.1).bind fun x=>some (x,q.2.1,q.2.2)
noncomputable def B9 (e:Expr):Option Str:=(Hi e).bind fun q=>An q.1
noncomputable def DK (e:Expr):Option Str:=(constOf e).bind Xt
noncomputable def strPairs:List (Option Expr)→List Expr→Option (List (Nm×Nm))
 | [],[]=>some []
 | some k::ks,v::vs=>(match DK k,DK v with | some x,some y=>(strPairs ks vs).map ((nm x,nm y)::·) | _,_=>none)
 | _,_=>none
noncomputable def My {α β:Type} (f:α→Option β):List α→Option (List β)
 | []=>some []
 | x::r=>match f x with | some d=>(match My f r with | some ds=>some (d::ds) | none=>none) | none=>none
noncomputable def Go:Bool→Bool→Bool | true,true=>true | false,false=>true | _,_=>false
noncomputable def Ap:List Nat→List Nat→Bool
 | [],[]=>true
 | a::r,b::t=>(match Nat.beq a b with | true=>Ap r t | false=>false)
 | _,_=>false
noncomputable def Bm:List Nm→Bool
 | []=>true
 | x::r=>!(r.any (· == x))&&Bm r
noncomputable def Eb (e:Expr):Bool:=match M5 e with
 | some vs=>!(vs.all (constantsAlone 8))
 | none=>true
noncomputable def Af:List Expr→Bool
 | []=>true
 | e::r=>match Ex e with | some _=>false | none=>Af r
noncomputable def Cd:It X→Bool | .enum _=>true | _=>false
noncomputable def BG:Option NameKind→NameKind→Bool
 | some .local,.local=>true | some .globalImplicit,.globalImplicit=>true | some .globalExplicit,.globalExplicit=>true
 | some .cell,.cell=>true | some .free,.free=>true | _,_=>false
noncomputable def TI (sc:LK) (p:Str×NameKind):Bool:=match p.2 with
 | .cell=>false
 | .free=>BG (As (nm p.1) sc) .cell || BG (As (nm p.1) sc) .free
 | _=>true
noncomputable def O9 (all sc l:LK):Bool:=l.all fun p=>TI sc p&&BG (As (nm p.1) all) p.2
noncomputable def MW:ScopeKind→Bool | .function=>true | _=>false
noncomputable def Cn (sc:LK) (s:Scope):Bool:=MW s.kind&&O9 s.names sc s.names
section
variable (G:List (Nm×D))
noncomputable def Ae (sc:LK) (x:Str):X :=
 match Ax x with
 | true=>.bad
 | false=>match As (nm x) sc with
  | some .local | some .cell | some .free=>.var (nm x)
  | some .globalImplicit=>match Dg (nm x) G with | some d=>.glb d | none=>.bad
  | _=>.bad
noncomputable def DO (sc:LK) (as:List Expr) (f:X) (args:List X):X:=match Di f 3 with
 | false=>.call f args
 | true=>match A2 as,A2 args with
  | some e,some x=>(match B9 e with
   | none=>.call f args
   | some n=>match Di (Ae G sc n) 6 with
    | false=>.call f args
    | true=>match Hl x with | some y=>.tupenum y | none=>.bad)
  | _,_=>.call f args
noncomputable def Qu (sc:LK) (e:Expr) (x:X):It X:=match B9 e with
 | none=>.plain x
 | some n=>match Di (Ae G sc n) 4 with
  | true=>(match Hl x with | some a=>.range a | none=>.plain .bad)
  | false=>match Di (Ae G sc n) 6 with
   | true=>(match Hl x with | some a=>.enum a | none=>.plain .bad)
   | false=>.plain x
inductive Xf where
 | isn (neg:Bool) | one (o:Cm) | two (o o':Cm) | bad
noncomputable def Xy:Const→Bool | .none=>true | _=>false
noncomputable def Kw (e:Expr):Bool:=Bp (constOf e) Xy
noncomputable def XI:CmpOp→Option Bool
 | .Is=>some false | .IsNot=>some true | _=>none
noncomputable def DF (ops:List CmpOp) (es:List Expr):Xf:=match ops,es with
 | op::ops,b::es=>(match ops,es with
  | [],[]=>(match XI op with
   | some n=>(match Kw b with | true=>.isn n | false=>.bad)
   | none=>match Ch op with | some o=>.one o | none=>.bad)
  | op'::ops,_::es=>(match ops,es with
   | [],[]=>(match Ch op,Ch op' with | some o,some o'=>.two o o' | _,_=>.bad)
   | _,_=>.bad)
  | _,_=>.bad)
 | _,_=>.bad
noncomputable def XS (a:X) (f:Xf) (bs:List X):X:=match f with
 | .isn n=>.isn n a
 | .one o=>(match bs with | b::_=>.cmp o a b | []=>.bad)
 | .two o o'=>(match bs with | b::r=>(match r with | c::_=>.chn a o b o' c | []=>.bad) | []=>.bad)
 | .bad=>.bad
noncomputable def dictOf (e:Expr):Option (Option (List (Nm×Nm))):=(Ml e).bind fun p=>some (strPairs p.1 p.2)
noncomputable def PC {α:Type} (o:Option α):Bool:=match o with | some _=>false | none=>true
noncomputable def II (e:Expr):Option (Option Nat×Option Nat):=(SD e).bind fun p=>B7 (PC p.2.2) ((GO p.1).bind fun l=>(GO p.2.1).bind fun u=>some (l,u))
noncomputable def Rx (e:Expr):Option (List Nm):=(M5 e).bind fun ts=>targetsOf ts
noncomputable def GA (e:Expr):Option (List Nm×Bool):=match An e with
 | some x=>some ([nm x],false)
 | none=>(Rx e).bind fun xs=>B7 (Nat.beq xs.length 2) (some (xs,true))
noncomputable def JD:Const→Option D
 | .none=>some .non | .bool b=>some (.boo b) | .int i=>some (.int i) | .str s=>some (.str (nm s)) | .bytes b=>some (.byt (b.map (·.toNat)))
 | _=>none
mutual
noncomputable def AJ (sc:LK) (e:Expr):X:=match e with
 | .Constant c _ _=>match JD c with | some d=>.cst d | none=>.bad
 | .Name x _=>Ae G sc x
 | .Tuple es _ _=>.tup (AN sc es)
 | .List es _=>.lst (AN sc es)
 | .IfExp t a b _=>.ite (AJ sc t) (AJ sc a) (AJ sc b)
 | .BoolOp op es _=>match op with | .And=>.bop true (AN sc es) | .Or=>.bop false (AN sc es)
 | .UnaryOp op e _=>match op with | .Not=>.not (AJ sc e) | _=>.bad
 | .BinOp a op b _=>match op with
  | .Add=>.bin .add (AJ sc a) (AJ sc b)
  | .Sub=>.bin .sub (AJ sc a) (AJ sc b)
  | .Pow=>.bin .pow (AJ sc a) (AJ sc b)
  | _=>.bad
 | .Compare a ops es _=>XS (AJ sc a) (DF ops es) (AN sc es)
 | .Subscript o i _=>match dictOf o with
  | some p=>(match p with | some l=>.dsub l (AJ sc i) | none=>.bad)
  | none=>match II i with
   | some p=>.slc (AJ sc o) p.1 p.2
   | none=>.sub (AJ sc o) (AJ sc i)
 | .Attribute o a _=>match An o with
  | some x=>(match nm a == nm "world" with | true=>.wld (Ae G sc x) | false=>.bad)
  | none=>.bad
 | .Call f args kws pos=>match kws with
  | _::_=>.bad
  | []=>match An f with
   | some x=>(match Af args with | true=>DO G sc args (Ae G sc x) (AN sc args) | false=>.bad)
   | none=>match EI f with
    | none=>.bad
    | some p=>match CJ (nm p.2.1) with
     | none=>.bad
     | some i=>match Af args&&(Nat.beq p.2.2 pos.line&&Nat.blt args.length 30) with
      | true=>.meth (Ae G sc p.1) i (AN sc args)
      | false=>.bad
 | .ListComp e gens s _=>match gens with
  | []=>.bad
  | g::r=>match r with
   | _::_=>.bad
   | []=>match g with
    | ⟨t,it,ifs,k⟩=>match isZ k with
     | false=>.bad
     | true=>match GA t with
     | none=>.bad
     | some p=>(match Cn sc s&&(KR false s.names p.1&&Go p.2 (Cd (Qu G sc it (AJ sc it)))) with
      | true=>.comp (AJ s.names e) p.1 (Qu G sc it (AJ sc it)) (AN s.names ifs) (CP s.names)
      | false=>.bad)
 | _=>.bad
termination_by structural e
noncomputable def AN (sc:LK) (es:List Expr):List X:=match es with
 | []=>[]
 | e::r=>AJ sc e::AN sc r
termination_by structural es
end
noncomputable def Aw (sc:LK) (it:Expr):It X:=Qu G sc it (AJ G sc it)
noncomputable def XY (sc:LK) (ts:List Expr) (e:Expr):S:=match A2 ts with
 | none=>.bad
 | some t=>match An t with
  | some x=>(match tgt true sc (nm x) with | true=>.asg (nm x) (AJ G sc e) | false=>.bad)
  | none=>match Rx t with
   | some xs=>(match KR true sc xs&&(Bm xs&&Eb e) with | true=>.asgT xs (AJ G sc e) | false=>.bad)
   | none=>.bad
noncomputable def Ke (e:Expr):Option (Str×Expr×Expr):=(Hi e).bind fun q=>(An q.1).bind fun c=>(HO q.2.1).bind fun p=>some (c,p.1,p.2)
noncomputable def NU (sc:LK) (e c:Option Expr):S:=match c with
 | some _=>.bad
 | none=>match e with
  | none=>.bad
  | some e=>match Ke e with
   | none=>.bad
   | some p=>match Jt (Ae G sc p.1) 4&&Af [p.2.1,p.2.2] with
    | true=>.raise [AJ G sc p.2.1,AJ G sc p.2.2]
    | false=>.bad
noncomputable def NF (l:List Stmt):Option Str:=(A2 l).bind fun st=>(SJ st).bind DK
noncomputable def YH:ExceptHandler→Option (Str×Str) | .ExceptHandler t n body _=>B7 (PC n) (t.bind fun t=>(NF body).bind fun r=>(An t).bind fun c=>some (c,r))
noncomputable def Om (hs:List ExceptHandler) (orelse fin:List Stmt):Option (Str×Str):=(VJ orelse ()).bind fun zz=>(VJ fin ()).bind fun zz=>(A2 hs).bind YH
noncomputable def B8:Nat→Expr→Option D
 | 0,_=>none
 | n + 1,e=>match constOf e with
  | some c=>JD c
  | none=>(M5 e).bind fun es=>(My (B8 n) es).bind fun ds=>B7 (Nat.ble ds.length 100) (some (.tup ds))
noncomputable def Pc (st:Stmt):Option (Str×List Expr):=(Vo st).bind fun q=>(A2 q.1).bind fun t=>(An t).bind fun x=>(listE q.2).bind fun es=>some (x,es)
noncomputable def WW (st:Stmt):Option (Str×Expr):=(Tj st).bind fun e=>(Hi e).bind fun c=>(EI c.1).bind fun q=>(A2 c.2.1).bind fun e=>
 B7 ((nm q.2.1 == nm "append")&&Nat.beq q.2.2 c.2.2.line) (some (q.1,e))
noncomputable def Kg (sc:LK) (a b:Stmt):Option (Nm×List Expr×D):=(Pc a).bind fun p=>(WW b).bind fun q=>
 B7 (Ap (nm p.1) (nm q.1)&&(tgt true sc (nm p.1)&&!Ax p.1)) ((B8 4 q.2).bind fun d=>some (nm p.1,p.2,d))
mutual
noncomputable def Hg (sc:LK):Stmt→S
 | .Return v _=>(match v with | some e=>.ret (AJ G sc e) | none=>.bad)
 | .Assign ts e _=>XY G sc ts e
 | .Expr e _=>(match B9 e with | some _=>.expr (AJ G sc e) | none=>.bad)
 | .If t a b _=>.ite (AJ G sc t) (Ao sc a) (Ao sc b)
 | .For t it body orelse _=>(match An t with
  | some x=>(match orelse.isEmpty&&(tgt true sc (nm x)&&!Cd (Aw G sc it)) with | true=>.loop (nm x) (Aw G sc it) (Ao sc body) | false=>.bad)
  | none=>.bad)
 | .Raise e c _=>NU G sc e c
 | .Try body hs orelse fin _=>(match Om hs orelse fin with
  | some p=>(match Jt (Ae G sc p.1) 4 with | true=>.tryRet (Ao sc body) (nm p.2) | false=>.bad)
  | none=>.bad)
 | _=>.bad
noncomputable def Ao (sc:LK):List Stmt→List S
 | []=>[]
 | s::rest=>match rest with
  | []=>[Hg sc s]
  | s2::rest2=>match Kg sc s s2 with
   | some p=>.asgL p.1 (AN G sc p.2.1) p.2.2::Ao sc rest2
   | none=>Hg sc s::Ao sc (s2::rest2)
end
noncomputable def dfl (e:Expr):D:=match (constOf e).bind JD with | some d=>d | none=>.src
end
end
section
open PySem
noncomputable def LQ:Int→Int→Bool
 | .ofNat a,.ofNat b=>Nat.beq a b
 | .negSucc a,.negSucc b=>Nat.beq a b
 | _,_=>false
noncomputable def pickOf:D→Option (Nat×List D) | .pick k ds=>some (k,ds) | _=>none
noncomputable def C2:D→Option Int | .int n=>some n | _=>none
noncomputable def strOf:D→Option (List Nat) | .str l=>some l | _=>none
noncomputable def BL:D→Option (List D) | .tup l=>some l | _=>none
noncomputable def T5:D→Option Nat | .dic k=>some k | _=>none
noncomputable def Wb:D→Option Nat | .ty k=>some k | _=>none
noncomputable def GW:D→Bool | .chk=>true | _=>false
noncomputable def TP:D→Bool | .wld=>true | _=>false
noncomputable def Kv:D→Bool | .src=>true | _=>false
noncomputable def BI:D→Option (List D) | .lst l=>some l | _=>none
mutual
noncomputable def same:D→D→Bool
 | .non,.non=>true
 | .boo a,.boo b=>Go a b
 | .int a,.int b=>LQ a b
 | .str a,.str b=>Ap a b
 | .byt a,.byt b=>Ap a b
 | .tup a,.tup b=>GH a b
 | .lst a,.lst b=>GH a b
 | .pick k a,.pick l b=>(match Nat.beq k l with | true=>GH a b | false=>false)
 | _,_=>false
noncomputable def GH:List D→List D→Bool
 | [],[]=>true
 | x::a,y::b=>(match same x y with | true=>GH a b | false=>false)
 | _,_=>false
end
noncomputable abbrev Rho:=List (Nm×D)
structure St where
 rho:Rho
 dep:Nat
 lock:Bool
 next:Nat
 cand:List (Nat×List Nat)
 cmps:List ((Cm×D×D)×Bool)
set_option genInjectivity true in
inductive Out (α:Type) where
 | ok (a:α) | fault
noncomputable def M (α:Type):=St→Option (List (Out α×St))
noncomputable def M.pure {α:Type} (a:α):M α:=fun s=>some [(.ok a,s)]
noncomputable def JR {α β:Type} (f:α→M β) (p:Out α×St):Option (List (Out β×St)):=match p.1 with
 | .fault=>some [(.fault,p.2)]
 | .ok a=>f a p.2
noncomputable def BS {α β:Type} (f:α→M β):List (Out α×St)→Option (List (Out β×St))
 | []=>some []
 | p::r=>(JR f p).bind fun x=>(BS f r).bind fun l=>some (x++l)
noncomputable def M.bind {α β:Type} (m:M α) (f:α→M β):M β:=fun s=>match m s with | some l=>BS f l | none=>none
noncomputable instance:Monad M where
 pure:=M.pure
 bind:=M.bind
noncomputable def bad {α:Type}:M α:=fun zz=>none
noncomputable def fault {α:Type}:M α:=fun s=>some [(.fault,s)]
noncomputable def opt {α:Type}:Option α→M α
 | some a=>M.pure a
 | none=>bad
noncomputable def Bt {α:Type} (k:Nat):List (Nat×α)→Option α
 | []=>none
 | (i,a)::r=>match Nat.beq i k with | true=>some a | false=>Bt k r
noncomputable def HB {α:Type} (k:Nat):List (Nat×α)→List (Nat×α)
 | []=>[]
 | (i,a)::r=>match Nat.beq i k with | true=>HB k r | false=>(i,a)::HB k r
noncomputable def upTo:Nat→Nat→List Nat
 | _,0=>[]
 | i,n + 1=>i::upTo (i + 1) n
noncomputable def DR (s:St) (k n:Nat):List Nat:=match Bt k s.cand with | some l=>l | none=>upTo 0 n
noncomputable def setCand (s:St) (k:Nat) (l:List Nat):St:={s with cand:=(k,l)::HB k s.cand}
noncomputable def nth {α:Type}:List α→Nat→Option α
 | [],_=>none
 | a::_,0=>some a
 | _::r,n + 1=>nth r n
noncomputable def Of (d:D) (i:Nat):List (D×List Nat)→List (D×List Nat)
 | []=>[(d,[i])]
 | (e,l)::r=>match same e d with | true=>(e,l++[i])::r | false=>(e,l)::Of d i r
noncomputable def FE (ds:List D):List Nat→List (D×List Nat)→Option (List (D×List Nat))
 | [],acc=>some acc
 | i::r,acc=>(nth ds i).bind fun d=>FE ds r (Of d i acc)
noncomputable def Tc (k:Nat) (s:St) (l:List (D×List Nat)):List (Out D×St):=l.map fun p=>(.ok p.1,setCand s k p.2)
noncomputable def BN:Nat→D→M D
 | 0,_=>bad
 | n + 1,.pick k ds=>fun s=>
  match FE ds (DR s k ds.length) [] with
  | some cs=>BS (fun d=>BN n d) (Tc k s cs)
  | none=>none
 | _,d=>M.pure d
noncomputable def Qj (g:D→Option D) (ds:List D):List Nat→Option (List (Nat×D))
 | []=>some []
 | i::r=>(nth ds i).bind fun d=>(g d).bind fun e=>(Qj g ds r).bind fun l=>some ((i,e)::l)
noncomputable def IH (l:List (Nat×D)):Nat→Nat→List D
 | _,0=>[]
 | i,n + 1=>(match Bt i l with | some d=>d | none=>.non)::IH l (i + 1) n
noncomputable def FL (d:D):List (Nat×D)→Bool
 | []=>true
 | (_,e)::r=>match same d e with | true=>FL d r | false=>false
noncomputable def DN (f:D→Option D):Nat→St→D→Option D
 | 0,_,_=>none
 | n + 1,s,.pick k ds=>match Qj (DN f n s) ds (DR s k ds.length) with
  | some l=>match l with
   | (_,d)::r=>match FL d r with
    | true=>some d
    | false=>some (.pick k (IH l 0 ds.length))
   | []=>none
  | none=>none
 | _,_,d=>f d
noncomputable def Bl (f:D→Option D) (d:D):M D:=fun s=>match DN f 6 s d with | some r=>some [(.ok r,s)] | none=>none
noncomputable def BX:D→Bool | .pick ..=>true | _=>false
noncomputable def Fe (f:D→D→Option D) (a b:D):M D :=
 match BX a with
 | false=>match BX b with
  | false=>opt (f a b)
  | true=>Bl (fun y=>f a y) b
 | true=>match BX b with
  | false=>Bl (fun x=>f x b) a
  | true=>do let a←BN 6 a;Bl (fun y=>f a y) b
noncomputable def Bn (d:D):M Bool:=do
 match←BN 6 d with
 | .boo b=>pure b
 | _=>bad
noncomputable def UL (l:List Nat):Bool:=l.all fun c=>Nat.blt c 128
noncomputable def C6:Nat→D→Bool
 | 0,_=>false
 | n + 1,d=>match d with
  | .non=>true | .boo _=>true | .int _=>true | .str l=>UL l
  | .tup ds=>ds.all (C6 n) | .lst ds=>ds.all (C6 n) | .pick _ ds=>ds.all (C6 n)
  | _=>false
noncomputable def Ej (n:Nat) (l:List D):Bool:=l.all (C6 n)
noncomputable def noL:Nat→D→Bool
 | 0,_=>false
 | n + 1,d=>match d with
  | .lst _=>false
  | .tup ds=>ds.all (noL n) | .pick _ ds=>ds.all (noL n)
  | _=>true
noncomputable def Ko (n:Nat) (l:List D):Bool:=l.all (noL n)
noncomputable def Sv (n:Nat) (l:List (Nm×D)):Bool:=l.all fun p=>noL n p.2
noncomputable def both (a b:List D):Bool:=match Ej 60 a with | true=>Ej 60 b | false=>false
noncomputable def eqA (a b:D):Option Bool:=match a,b with
 | .non,.non=>some true
 | .boo a,.boo b=>some (Go a b)
 | .int a,.int b=>some (LQ a b)
 | .byt a,.byt b=>some (Ap a b)
 | _,_=>none
noncomputable def XO (f:List D→List D→Option Bool) (a b:D):Option Bool:=match BL a with
 | some x=>(match BL b with | some y=>f x y | none=>(match strOf b with | some _=>some false | none=>none))
 | none=>match strOf a with
  | some x=>(match strOf b with | some y=>some (Ap x y) | none=>(match BL b with | some _=>some false | none=>none))
  | none=>match BI a with
   | some x=>(match BI b with | some y=>(match Nat.beq x.length y.length with | true=>f x y | false=>some false) | none=>none)
   | none=>eqA a b
mutual
noncomputable def eqP:Nat→D→D→Option Bool
 | 0,_,_=>none
 | n + 1,a,b=>XO (Tn n) a b
noncomputable def Tn:Nat→List D→List D→Option Bool
 | 0,_,_=>none
 | _,[],[]=>some true
 | n + 1,x::xs,y::ys=>match eqP n x y with
  | some true=>Tn n xs ys
  | some false=>(match both xs ys with | true=>some false | false=>none)
  | none=>none
 | _,_,_=>some false
end
noncomputable def Lx (g:D→Option Bool) (ds:List D):List Nat→Option (List Nat×List Nat)
 | []=>some ([],[])
 | i::r=>(nth ds i).bind fun d=>(g d).bind fun b=>(Lx g ds r).bind fun q=>some (match b with | true=>(i::q.1,q.2) | false=>(q.1,i::q.2))
noncomputable def WI (k:Nat) (s:St):List Nat×List Nat→List (Out Bool×St)
 | ([],_)=>[(.ok false,s)]
 | (_,[])=>[(.ok true,s)]
 | (t,f)=>[(.ok true,setCand s k t),(.ok false,setCand s k f)]
noncomputable def SG (a b:D):Bool:=match same a b with | true=>C6 60 a | false=>false
noncomputable def K2 (g:D→Option Bool) (p:Nat×List D) (m:M Bool):M Bool:=fun s=>match Lx g p.2 (DR s p.1 p.2.length) with
 | some q=>some (WI p.1 s q)
 | none=>m s
noncomputable def XR (g:D→D→M Bool) (f:List D→List D→M Bool) (a b:D):M Bool:=match SG a b with
 | true=>pure true
 | false=>match pickOf a with
  | some p=>(match pickOf b with
   | some _=>(do let a←BN 6 a;let b←BN 6 b;g a b)
   | none=>K2 (fun d=>eqP 12 d b) p (do let a←BN 6 a;g a b))
  | none=>match pickOf b with
   | some p=>K2 (fun d=>eqP 12 a d) p (do let b←BN 6 b;g a b)
   | none=>match BL a with
    | some x=>(match BL b with | some y=>f x y | none=>opt (eqP 12 a b))
    | none=>match BI a with
     | some x=>(match BI b with | some y=>(match Nat.beq x.length y.length with | true=>f x y | false=>pure false) | none=>opt (eqP 12 a b))
     | none=>opt (eqP 12 a b)
mutual
noncomputable def deq:Nat→D→D→M Bool
 | 0,_,_=>bad
 | n + 1,a,b=>XR (deq n) (RK n) a b
noncomputable def RK:Nat→List D→List D→M Bool
 | 0,_,_=>bad
 | _,[],[]=>pure true
 | n + 1,x::xs,y::ys=>match Nat.beq xs.length ys.length with
  | true=>do match←deq n x y with
   | true=>RK n xs ys
   | false=>(match both xs ys with | true=>pure false | false=>bad)
  | false=>(match both (x::xs) (y::ys) with | true=>pure false | false=>bad)
 | _,_,_=>pure false
end
noncomputable def leI (a b:Int):Bool:=decide (a≤b)
noncomputable def ltI (a b:Int):Bool:=decide (a < b)
noncomputable def RO:Cm→Int→Int→Option Bool
 | .lt,a,b=>some (ltI a b)
 | .le,a,b=>some (leI a b)
 | .gt,a,b=>some (ltI b a)
 | .ge,a,b=>some (leI b a)
 | _,_,_=>none
noncomputable def OS (op:Cm) (a b:D):Option D:=match C2 a,C2 b with
 | some x,some y=>(match RO op x y with | some b=>some (.boo b) | none=>none)
 | _,_=>none
noncomputable def Kh:Cm→Cm→Bool
 | .lt,.lt=>true | .le,.le=>true | .gt,.gt=>true | .ge,.ge=>true | _,_=>false
noncomputable def Gd (op:Cm) (a b:D):List ((Cm×D×D)×Bool)→Option Bool
 | []=>none
 | ((o,x,y),r)::t=>match Kh o op&&(same x a&&same y b) with | true=>some r | false=>Gd op a b t
noncomputable def isInt:D→Bool | .int _=>true | _=>false
noncomputable def allInts (l:List D):Bool:=l.all isInt
noncomputable def PG:Cm→Bool | .lt | .le | .gt | .ge=>true | _=>false
noncomputable def NY (op:Cm) (a b:D):M Bool:=fun s=>
 match Gd op a b s.cmps with
 | some r=>some [(.ok r,s)]
 | none=>some [(.ok true,{s with cmps:=((op,a,b),true)::s.cmps}),(.ok false,{s with cmps:=((op,a,b),false)::s.cmps})]
noncomputable def Lz (op:Cm) (a b:D):M Bool:=match pickOf a,pickOf b with
 | some p,some q=>(match Nat.beq p.1 q.1,PG op&&(allInts p.2&&allInts q.2) with
  | false,true=>NY op a b
  | _,_=>do let a←BN 6 a;let b←BN 6 b;let r←opt (OS op a b);Bn r)
 | _,_=>do let r←Fe (OS op) a b;Bn r
noncomputable def binI (op:Bo) (a b:Int):Option D:=match op with
 | .add=>some (.int (a + b)) | .sub=>some (.int (a - b))
 | .pow=>match LQ a 2&&(leI 1 b&&leI b 600) with | true=>some (.int (2 ^ b.toNat)) | false=>none
noncomputable def XZ (a b:List Nat):Option D:=match Nat.ble (a.length + b.length) 100000 with | true=>some (.str (a++b)) | false=>none
noncomputable def Vr (a b:List D):Option D:=match Nat.ble (a.length + b.length) 100 with | true=>some (.tup (a++b)) | false=>none
noncomputable def UP (a b:List D):Option D:=match Nat.ble (a.length + b.length) 100 with | true=>some (.lst (a++b)) | false=>none
noncomputable def Vl (a b:D):Option D:=match strOf a,strOf b with
 | some a,some b=>XZ a b
 | _,_=>match BL a,BL b with
  | some a,some b=>Vr a b
  | _,_=>match BI a,BI b with
   | some a,some b=>UP a b
   | _,_=>none
noncomputable def PI:Bo→Bool | .add=>true | _=>false
noncomputable def Vk (op:Bo) (a b:D):Option D:=match C2 a,C2 b with
 | some a,some b=>binI op a b
 | _,_=>match PI op with | true=>Vl a b | false=>none
noncomputable def draw (top:Nat) (s:St):Option (List (Out D×St)) :=
 match s.lock with
 | true=>none
 | false=>some [(.ok (.pick s.next ((upTo 0 top).map fun i=>D.int (Int.ofNat i))),{s with next:=s.next + 1})]
noncomputable def Ay (x:Nm):Rho→Option D
 | []=>none
 | (y,d)::r=>match Ap x y with | true=>some d | false=>Ay x r
noncomputable def upd (x:Nm) (d:D):Rho→Rho
 | []=>[(x,d)]
 | (y,e)::r=>match Ap x y with | true=>(y,d)::r | false=>(y,e)::upd x d r
inductive Fl where
 | next | ret (d:D)
structure Tab where
 fns:Nat→Option Fn
 dics:Nat→List (Nm×D)
 hook:Nat→Option (List D→M D)
structure Rec where
 ev:X→M D
 tst:X→M Bool
 ss:List S→M Fl
 cal:Nat→List D→M D
noncomputable def Sp (l:List D) (i:Int):Option D:=match i with
 | .ofNat i=>(match Nat.ble i 100000 with | true=>nth l i | false=>none)
 | _=>none
noncomputable def XV (s:List Nat) (i:Int):Option D:=match i with
 | .ofNat i=>(match Nat.ble i 100000 with | true=>(match nth s i with | some c=>some (.str [c]) | none=>none) | false=>none)
 | _=>none
noncomputable def Wj (o:D) (i:Int):Option D:=match BL o with
 | some l=>Sp l i
 | none=>match BI o with
  | some l=>Sp l i
  | none=>match strOf o with
   | some s=>XV s i
   | none=>none
noncomputable def Wi (o i:D):Option D:=match C2 i with | some i=>Wj o i | none=>none
noncomputable def WD (t:Nat):D→Option D
 | .boo _=>some (.boo (Nat.ble t 1))
 | .int _=>some (.boo (Nat.beq t 0))
 | _=>none
noncomputable def small (l:List D):Bool:=Nat.ble l.length 100
noncomputable def YC:D→Option D
 | .tup l=>match small l with | true=>some (.int l.length) | false=>none
 | .lst l=>match small l with | true=>some (.int l.length) | false=>none
 | .byt l=>match Nat.ble l.length 100 with | true=>some (.int l.length) | false=>none
 | _=>none
noncomputable def TU:D→Option D
 | .int n=>some (.int n)
 | _=>none
noncomputable def WM:D→Option D
 | .int (.ofNat n)=>match Nat.blt n 10 with | true=>some (.str [48 + n]) | false=>none
 | _=>none
noncomputable def DE:D→Option (List D)
 | .tup l=>some l
 | .lst l=>some l
 | _=>none
noncomputable def A3 (n:Nat):List D:=(upTo 0 n).map fun i=>D.int (Int.ofNat i)
noncomputable def pairsOf:Nat→List D→List D
 | _,[]=>[]
 | n,d::r=>.tup [.int n,d]::pairsOf (n + 1) r
noncomputable def EH (op:Cm):D→List D→M D
 | d,[]=>pure d
 | d,x::r=>do match←Lz op x d with | true=>EH op x r | false=>EH op d r
noncomputable def Ar (f:X→M D):List X→M (List D)
 | []=>pure []
 | e::r=>do let d←f e;let ds←Ar f r;pure (d::ds)
noncomputable def Kd (d:D):Option (List D):=match C2 d with
 | some (.ofNat n)=>(match Nat.ble n 64 with | true=>some (A3 n) | false=>none)
 | _=>none
noncomputable def Tq (d:D):Option (List D):=match BL d with | some l=>some (pairsOf 0 l) | none=>none
noncomputable def Hu (ds:List D):Option D:=match A2 ds with
 | some d=>(match BI d with | some l=>(match small l with | true=>some (.tup (pairsOf 0 l)) | false=>none) | none=>none)
 | none=>none
noncomputable def Ee (r:Rec):It X→M (List D)
 | .range e=>do
  let ds←Ar r.ev [e]
  match A2 ds with
  | some d=>do
   let d←BN 6 d
   opt (Kd d)
  | none=>bad
 | .enum e=>do
  let ds←Ar r.ev [e]
  match A2 ds with
  | some d=>opt (Tq d)
  | none=>bad
 | .plain e=>do let d←r.ev e;opt (DE d)
noncomputable def XG (a:List D):M D:=match A2 a with | some d=>Bl YC d | none=>bad
noncomputable def XH (a:List D):M D:=match HO a with
 | some p=>(match Wb p.2 with | some t=>(match Nat.ble t 2 with | true=>Bl (WD t) p.1 | false=>bad) | none=>bad)
 | none=>bad
noncomputable def YV (op:Cm):List D→M D
 | []=>bad
 | d::l=>match small l with | true=>(do let _←Bl TU d;EH op d l) | false=>bad
noncomputable def Pa (op:Cm) (a:List D):M D:=match A2 a with
 | some d=>(match BI d with | some l=>YV op l | none=>bad)
 | none=>bad
noncomputable def DG (k:Nat) (args:List D):M D:=match k with
 | 0=>XG args
 | 1=>XH args
 | 2=>Pa .lt args
 | _=>Pa .gt args
noncomputable def We (a:List D):M D:=match A2 a with
 | some d=>(match BI d with | some l=>(match small l with | true=>pure (.tup l) | false=>bad) | none=>bad)
 | none=>bad
noncomputable def Wk (a:List D):M D:=match A2 a with | some d=>Bl WM d | none=>bad
noncomputable def ER (k:Nat) (args:List D):M D:=match Nat.beq k 3 with
 | true=>We args
 | false=>match Nat.beq k 5 with | true=>Wk args | false=>bad
noncomputable def Em:List Nm→List D→List D→Option Rho
 | [],[],_=>some []
 | x::xs,d::ds,df=>match Em xs ds df with | some r=>some ((x,d)::r) | none=>none
 | xs,[],df=>if Nat.ble xs.length df.length then some (xs.zip (df.drop (df.length - xs.length))) else none
 | _,_,_=>none
noncomputable def Ba:List Nm→List D→Option Rho
 | [],r=>(match r with | []=>some [] | _::_=>none)
 | x::xs,r=>(match r with | d::ds=>(Ba xs ds).bind fun r=>some ((x,d)::r) | []=>none)
noncomputable def LL:List Nm→D→Option Rho
 | [x],d=>some [(x,d)]
 | xs,.tup l=>Ba xs l
 | _,_=>none
noncomputable def Cu:Rho→Rho→Rho
 | [],ρ=>ρ
 | (x,d)::l,ρ=>Cu l (upd x d ρ)
noncomputable def HR (fs:List Nm) (l:Rho):Rho:=l.filter fun p=>fs.any (Ap p.1)
section
variable (T:Tab)
noncomputable def Iz (x:Nm):M D:=fun s=>match Ay x s.rho with | some d=>some [(.ok d,s)] | none=>none
noncomputable def B2 (x:Nm) (d:D):M Unit:=fun s=>some [(.ok (),{s with rho:=upd x d s.rho})]
noncomputable def BJ (l:Rho):M Unit:=fun s=>some [(.ok (),{s with rho:=Cu l s.rho})]
noncomputable def KA (a:D):List D→M Bool
 | []=>pure false
 | x::r=>do match←deq 30 x a with
  | true=>(match both r [a] with | true=>pure true | false=>bad)
  | false=>KA a r
noncomputable def UN (g:Bool→Bool) (a b:D):M Bool:=match b with | .tup l=>(do let r←KA a l;pure (g r)) | .lst l=>(do let r←KA a l;pure (g r)) | _=>bad
noncomputable def Il (d:D):M Bool:=do
 match←BN 6 d with
 | .non=>pure true
 | .boo _ | .int _ | .str _ | .byt _ | .tup _ | .lst _=>pure false
 | _=>bad
noncomputable def A8 (op:Cm) (a b:D):M Bool :=
 match op with
 | .eq=>deq 30 a b
 | .ne=>do let r←deq 30 a b;pure (!r)
 | .isNone=>Il a
 | .isNotNone=>do let r←Il a;pure (!r)
 | .isin=>do let x←BN 6 b;UN id a x
 | .notin=>do let x←BN 6 b;UN Bool.not a x
 | op=>Lz op a b
noncomputable def Ew (o i:D):M D :=
 match T5 o with
 | some n=>do let x←BN 6 i;(match strOf x with | some s=>opt (Ay s (T.dics n)) | none=>bad)
 | none=>Fe Wi o i
noncomputable def EY (l n:Nat):Bool:=Nat.ble 1 l&&(Nat.ble l n&&Nat.ble n 100)
noncomputable def Sf (u n:Nat):Bool:=Nat.ble 1 u&&(Nat.blt u n&&Nat.ble n 100)
noncomputable def YM (ds:List D):Option Nat→Option Nat→Option D
 | some l,none=>(match EY l ds.length with | true=>some (.tup (ds.drop l)) | false=>none)
 | none,some u=>(match Sf u ds.length with | true=>some (.tup (ds.take u)) | false=>none)
 | _,_=>none
noncomputable def YN (ds:List D):Option Nat→Option Nat→Option D
 | some l,none=>(match EY l ds.length with | true=>some (.lst (ds.drop l)) | false=>none)
 | none,some u=>(match Nat.ble u ds.length&&Nat.ble ds.length 100 with | true=>some (.lst (ds.take u)) | false=>none)
 | _,_=>none
noncomputable def KY (l u:Option Nat) (d:D):Option D:=match BL d with
 | some ds=>YM ds l u
 | none=>match BI d with
  | some ds=>YN ds l u
  | none=>none
noncomputable def Ed (x:Nm):List (Nm×Nm)→Option Nm
 | []=>none
 | (y,d)::r=>match Ed x r with
  | some v=>some v
  | none=>match Ap x y with | true=>some d | false=>none
noncomputable def GL (neg b:Bool):Bool:=match neg with | true=>!b | false=>b
noncomputable def PX (r:Rec) (w:Bool):List X→M Bool
 | []=>bad
 | [e]=>do Bn (←r.ev e)
 | e::es=>do let b←Bn (←r.ev e);match Go b w with | true=>PX r w es | false=>pure b
noncomputable def LM (r:Rec) (w:Bool):List X→M Bool
 | []=>pure w
 | e::es=>do let b←r.tst e;match Go b w with | true=>LM r w es | false=>pure b
noncomputable def Ov (r:Rec):List X→M Bool
 | []=>pure true
 | e::es=>do match←r.tst e with | true=>Ov r es | false=>pure false
noncomputable def Ru (d:D):Option D:=match GW d with | true=>some .wld | false=>none
noncomputable def Kb {α:Type} (n:Nat):List (Out α×St)→List (Out α×St)
 | []=>[]
 | (o,s)::r=>(o,{s with dep:=n})::Kb n r
noncomputable def Ka {α:Type} (ρ:Rho):List (Out α×St)→List (Out α×St)
 | []=>[]
 | (o,s)::r=>(o,{s with rho:=ρ})::Ka ρ r
noncomputable def deeper {α:Type} (m:M α):M α:=fun s=>match Nat.blt s.dep 40 with
 | true=>(match m {s with dep:=s.dep + 1} with
  | some l=>some (Kb s.dep l)
  | none=>none)
 | false=>none
noncomputable def under {α:Type} (ρ:Rho) (m:M α):M α:=fun s=>match m {s with rho:=ρ} with
 | some l=>some (Ka s.rho l)
 | none=>none
noncomputable def okL (d:D):M Unit:=fun s=>match noL 60 d&&Sv 60 s.rho with | true=>some [(.ok (),s)] | false=>none
noncomputable def Hh (r:Rec) (e:X) (xs:List Nm) (ifs:List X):List D→M (List D)
 | []=>pure []
 | d::l=>do
  let b←opt (LL xs d)
  BJ b
  match←Ov r ifs with
  | true=>do
   let v←r.ev e
   okL v
   let rest←Hh r e xs ifs l
   pure (v::rest)
  | false=>Hh r e xs ifs l
noncomputable def PD (r:Rec) (x:Nm) (body:List S):List D→M Fl
 | []=>pure .next
 | d::l=>do
  B2 x d
  match←r.ss body with
  | .next=>PD r x body l
  | .ret d=>pure (.ret d)
noncomputable def EF (r:Rec):X→M D
 | .cst d=>pure d
 | .glb d=>pure d
 | .var x=>Iz x
 | .tup es=>do let ds←Ar r.ev es;match small ds with | true=>pure (.tup ds) | false=>bad
 | .lst es=>do let ds←Ar r.ev es;match small ds with | true=>pure (.lst ds) | false=>bad
 | .ite t a b=>do match←r.tst t with | true=>r.ev a | false=>r.ev b
 | .bop w es=>do let b←PX r w es;pure (.boo b)
 | .not a=>do let b←Bn (←r.ev a);pure (.boo (!b))
 | .bin op a b=>do let x←r.ev a;let y←r.ev b;Fe (Vk op) x y
 | .cmp op a b=>do let x←r.ev a;let y←r.ev b;let c←A8 op x y;pure (.boo c)
 | .isn neg a=>do let d←r.ev a;let b←Il d;pure (.boo (GL neg b))
 | .chn a op b op' c=>do
  let x←r.ev a
  let y←r.ev b
  match←A8 op x y with
  | true=>do let z←r.ev c;let t←A8 op' y z;pure (.boo t)
  | false=>pure (.boo false)
 | .sub a i=>do let x←r.ev a;let y←r.ev i;Ew T x y
 | .slc a l u=>do let x←r.ev a;Bl (KY l u) x
 | .wld a=>do let x←r.ev a;opt (Ru x)
 | .call f args=>do
  let fv←r.ev f
  match fv with
  | .fn i=>do let ds←Ar r.ev args;r.cal i ds
  | .blt k=>do let ds←Ar r.ev args;DG k ds
  | .ty k=>do let ds←Ar r.ev args;ER k ds
  | _=>bad
 | .meth o f args=>do
  let ov←r.ev o
  match GW ov with
  | true=>do let ds←Ar r.ev args;r.cal f (.chk::ds)
  | false=>bad
 | .tupenum e=>do
  let ds←Ar r.ev [e]
  opt (Hu ds)
 | .comp e xs it ifs fs=>do
  let l←Ee r it
  match small l&&Ko 60 l with
  | true=>fun s=>(under (HR fs s.rho) (Hh r e xs ifs l>>=fun ds=>pure (.lst ds)):M D) s
  | false=>bad
 | .dsub ks i=>match Nat.ble 1 ks.length&&Nat.ble ks.length 15 with
  | true=>do
   let d←r.ev i
   let d←BN 6 d
   match strOf d with
   | some s=>(match Ed s ks with | some v=>pure (.str v) | none=>bad)
   | none=>bad
  | false=>bad
 | .bad=>bad
noncomputable def Eu (r:Rec) (e:X):M Bool:=match e with
 | .not a=>do let b←r.tst a;pure (!b)
 | .bop w es=>LM r w es
 | .ite t a b=>do match←r.tst t with | true=>r.tst a | false=>r.tst b
 | .cmp op a b=>do let x←r.ev a;let y←r.ev b;A8 op x y
 | .isn neg a=>do let d←r.ev a;let b←Il d;pure (GL neg b)
 | .chn a op b op' c=>do
  let x←r.ev a
  let y←r.ev b
  match←A8 op x y with
  | true=>do let z←r.ev c;A8 op' y z
  | false=>pure false
 | .bad=>bad
 | e=>do let d←r.ev e;Bn d
noncomputable def FG (r:Rec) (i:Nat) (args:List D):M D :=
 match T.hook i with
 | some h=>h args
 | none=>match T.fns i with
  | some fn=>match Em fn.params args fn.defaults with
   | some ρ=>deeper (under ρ (do
    match←r.ss fn.body with
    | .ret d=>pure d
    | .next=>pure .non))
   | none=>bad
  | none=>bad
noncomputable def Hv {α:Type}:List (Out α×St)→Bool
 | []=>true
 | (.fault,_)::_=>false
 | _::r=>Hv r
noncomputable def Ur {α:Type} (m:M α):M α:=fun s=>match m s with
 | some l=>(match Hv l with | true=>some l | false=>none)
 | none=>none
noncomputable def F2 (b:Bool) (n:Nat) (e:Nm):List (Out Fl×St)→List (Out Fl×St)
 | []=>[]
 | (.ok f,s)::r=>(.ok f,{s with lock:=b})::F2 b n e r
 | (.fault,s)::r=>(.ok (.ret (.str e)),{s with rho:=[],lock:=b,dep:=n})::F2 b n e r
noncomputable def DL (r:Rec):S→M Fl
 | .ret e=>do let d←r.ev e;pure (.ret d)
 | .asg x e=>do let d←r.ev e;B2 x d;pure .next
 | .asgT xs e=>do
  let d←r.ev e
  match d with
  | .tup l=>do let b←opt (Ba xs l);BJ b;pure .next
  | .lst l=>do let b←opt (Ba xs l);BJ b;pure .next
  | _=>bad
 | .expr e=>do let d←r.ev e;match d with | .non=>pure .next | _=>bad
 | .ite t a b=>do match←r.tst t with | true=>r.ss a | false=>r.ss b
 | .loop x it body=>do
  let l←Ee r it
  match small l with | true=>Ur (PD r x body l) | false=>bad
 | .raise args=>do let _←Ar r.ev args;fault
 | .tryRet body e=>fun s=>match r.ss body {s with lock:=true} with
  | some outs=>some (F2 s.lock s.dep e outs)
  | none=>none
 | .asgL x es d=>do
  let ds←Ar r.ev es
  match small ds with
  | true=>do B2 x (.lst (ds++[d]));pure .next
  | false=>bad
 | .bad=>bad
noncomputable def Fm (r:Rec):List S→M Fl
 | []=>pure .next
 | st::rest=>do
  match←DL r st with
  | .next=>r.ss rest
  | .ret d=>pure (.ret d)
noncomputable def Rec.none:Rec:=⟨fun zz=>bad,fun zz=>bad,fun zz=>bad,fun zz zz=>bad⟩
noncomputable def run:Nat→Rec
 | 0=>Rec.none
 | n + 1=>⟨EF T (run n),Eu (run n),Fm (run n),FG T (run n)⟩
end
noncomputable def stS (s:Str):D:=.str (nm s)
noncomputable def tS (l:List Str):D:=.tup (l.map stS)
noncomputable def BK:List (Str×D):=[("len",.blt 0),("isinstance",.blt 1),("min",.blt 2),("max",.blt 3),("enumerate",.ty 6),("int",.ty 0),("bool",.ty 1),("bytes",.ty 2),("tuple",.ty 3),("range",.ty 4),("str",.ty 5),("BITS",.dic 0),("UNTYPED_DEFAULTS",.dic 1),("MOST_BITS",.int 512),("COMPARISONS",tS ["==","!=","<","<=",">",">="]),("TEXT",tS ["string"]),("WHOLE",tS ["int","int"]),("OCTET",tS ["int","uint8"]),("NIL",tS ["nil"]),("NILABLE",tS ["ptr","func","slice","map","chan","interface"]),("NOTHING",.tup [stS "tuple",.tup []]),("MEASURED",tS ["array","slice","chan"]),("UNTYPED_TRUTH",tS ["untyped","bool"]),("_law_int",tS ["int","int"]),("_law_none",.tup [stS "tuple",.tup []])]
noncomputable def PT:List (Nm×D):=BK.map fun p=>(nm p.1,p.2)
noncomputable def Us (st:Stmt):Option Str:=sC st (fdf:=fun n zz zz zz=>some n) (cls:=fun n zz=>some n)
noncomputable def Cp:List Stmt→Nat→List (Str×D)
 | [],_=>[]
 | st::r,i=>match Us st with
  | some n=>(n,.fn i)::Cp r (i + 1)
  | none=>Cp r (i + 1)
noncomputable def Te (l:List Stmt) (i:Nat):List (Nm×D):=(Cp l i).map fun p=>(nm p.1,p.2)
noncomputable def G0:List (Nm×D):=PT++Te P.main.body 0
end
section
open PySem
noncomputable def n0:Nm:=[84]
noncomputable def n1:Nm:=[110,97,109,101,100]
noncomputable def n2:Nm:=[98,111,111,108]
noncomputable def n3:Nm:=[105,110,116]
noncomputable def n4:Nm:=[115,116,114,105,110,103]
noncomputable def n5:Nm:=[117,110,116,121,112,101,100]
noncomputable def n6:Nm:=[119,111,114,108,100]
noncomputable def n7:Nm:=[105,110,116,101,114,102,97,99,101]
noncomputable def n8:Nm:=[114,117,110,101]
noncomputable def n9:Nm:=[112,116,114]
noncomputable def n10:Nm:=[115,108,105,99,101]
noncomputable def n11:Nm:=[97,114,114,97,121]
noncomputable def n12:Nm:=[109,97,112]
noncomputable def n13:Nm:=[99,104,97,110]
noncomputable def n14:Nm:=[102,117,110,99]
noncomputable def n15:Nm:=[117,105,110,116,56]
noncomputable def n16:Nm:=[115,101,108,102]
noncomputable def n17:Nm:=[110,111,100,101]
noncomputable def n18:Nm:=[119,97,110,116,101,100]
noncomputable def n19:Nm:=[109,97,100,101]
noncomputable def n20:Nm:=[116,117,112,108,101]
noncomputable def n21:Nm:=[110,105,108]
noncomputable def n22:Nm:=[115,112,111,116]
noncomputable def n23:Nm:=[111,110,101]
noncomputable def n24:Nm:=[102,97,99,101]
noncomputable def n25:Nm:=[105,115,95,102,97,99,101]
noncomputable def n26:Nm:=[99,111,110,118,101,114,116]
noncomputable def n27:Nm:=[99,111,110,115,116]
noncomputable def n28:Nm:=[110,97,109,101]
noncomputable def n29:Nm:=[101,115]
noncomputable def n30:Nm:=[108,101,97,115,116]
noncomputable def n31:Nm:=[109,111,115,116]
noncomputable def n32:Nm:=[99,104,101,99,107,101,114]
noncomputable def n33:Nm:=[105,110,110,101,114]
noncomputable def n34:Nm:=[111,116,104,101,114]
noncomputable def n35:Nm:=[105,115,95,110,105,108]
noncomputable def n36:Nm:=[118,97,108,117,101]
noncomputable def n37:Nm:=[116,111,108,100]
noncomputable def n38:Nm:=[119,111,114,100]
noncomputable def n39:Nm:=[110,117,109,98,101,114]
noncomputable def n40:Nm:=[107,105,110,100]
noncomputable def n41:Nm:=[108,111,119]
noncomputable def n42:Nm:=[104,105,103,104]
noncomputable def n43:Nm:=[104,101,114,101]
noncomputable def n44:Nm:=[116,104,101,114,101]
noncomputable def n45:Nm:=[98,111,116,104]
noncomputable def n46:Nm:=[99,97,112]
noncomputable def n47:Nm:=[98,117,105,108,116,105,110]
noncomputable def n48:Nm:=[101,108,101,109,101,110,116]
noncomputable def n49:Nm:=[114,111,119,115]
noncomputable def n50:Nm:=[107]
noncomputable def n51:Nm:=[101]
noncomputable def n52:Nm:=[114,111,119]
noncomputable def n53:Nm:=[105,115,95,115,112,114,101,97,100]
noncomputable def n54:Nm:=[97,112,112,101,110,100]
noncomputable def n55:Nm:=[112,108,97,105,110]
noncomputable def n56:Nm:=[109,111,114,101]
noncomputable def n57:Nm:=[99,111,112,121]
noncomputable def n58:Nm:=[103,111,97,108]
noncomputable def n59:Nm:=[115,111,117,114,99,101]
noncomputable def n60:Nm:=[100,101,108,101,116,101]
noncomputable def n61:Nm:=[107,101,121]
noncomputable def n62:Nm:=[99,108,111,115,101]
noncomputable def n63:Nm:=[114,101,99,118]
noncomputable def n64:Nm:=[115,111,109,101]
noncomputable def n65:Nm:=[116,121,112,101,100]
noncomputable def n66:Nm:=[114,117,110,101,115]
noncomputable def n67:Nm:=[102,111,117,110,100]
noncomputable def n68:Nm:=[109,105,110]
noncomputable def n69:Nm:=[60]
noncomputable def n70:Nm:=[62]
noncomputable def n71:Nm:=[111,112]
noncomputable def n72:Nm:=[97]
noncomputable def n73:Nm:=[98]
noncomputable def n74:Nm:=[115,111,114,116]
noncomputable def n75:Nm:=[61,61]
noncomputable def n76:Nm:=[33,61]
noncomputable def n77:Nm:=[60,61]
noncomputable def n78:Nm:=[38,38]
noncomputable def n79:Nm:=[93]
noncomputable def n80:Nm:=[115,116,114,117,99,116]
noncomputable def n81:Nm:=[40]
noncomputable def n82:Nm:=[41]
noncomputable def n83:Nm:=[97,104,101,97,100]
noncomputable def n84:Nm:=[115,101,110,100]
noncomputable def n85:Nm:=[116,104,105,110,103,115]
noncomputable def n86:Nm:=[111,99,116,101,116,115]
noncomputable def n87:Nm:=[109,46,82]
noncomputable def n88:Nm:=[108,101,110]
noncomputable def n89:Nm:=[109,97,120]
noncomputable def n90:Nm:=[116,121,112,101]
noncomputable def n91:Nm:=[108,111,99,97,108]
noncomputable def n92:Nm:=[102,105,116,115,95,110,111,119]
noncomputable def n93:Nm:=[116,117,114,110]
noncomputable def n94:Nm:=[110,117,109,98,101,114,115]
noncomputable def n95:Nm:=[100,117,101]
noncomputable def n96:Nm:=[109,101,110,117]
noncomputable def n97:Nm:=[115,99,114,105,112,116]
noncomputable def n98:Nm:=[116,101,120,116]
noncomputable def n99:Nm:=[105,110,116,51,50]
noncomputable abbrev ci (n:Nat):X:=.cst (.int (.ofNat n))
noncomputable abbrev cs (n:Nm):X:=.cst (.str n)
noncomputable abbrev va (n:Nm):X:=.var n
noncomputable abbrev gf (n:Nat):X:=.glb (.fn n)
noncomputable def f38:Fn:=⟨[n0],[],[(.ret (.cmp .isin (.sub (va n0) (ci 0)) (.tup [cs n1,cs n2,cs n3,cs n4])))]⟩
noncomputable def f39:Fn:=⟨[n0],[],[(.ret (.cmp .eq (.sub (va n0) (ci 0)) (cs n5)))]⟩
noncomputable def f40:Fn:=⟨[n0],[],[(.ret (.ite (.call (gf 39) [va n0]) (.sub (.glb (.dic 1)) (.sub (va n0) (ci 1))) (va n0)))]⟩
noncomputable def f41:Fn:=⟨[n6,n0],[],[(.ret (.cmp .eq (.sub (.call (gf 37) [va n6,va n0]) (ci 0)) (cs n7)))]⟩
noncomputable def f43:Fn:=⟨[n6,n0],[],[(.ret (.bop false [(.cmp .eq (va n0) (.tup [cs n5,cs n4])),(.cmp .eq (.sub (.call (gf 37) [va n6,va n0]) (ci 0)) (cs n4))]))]⟩
noncomputable def f44:Fn:=⟨[n6,n0],[],[(.ret (.bop false [(.cmp .eq (va n0) (.tup [cs n5,cs n2])),(.cmp .eq (.sub (.call (gf 37) [va n6,va n0]) (ci 0)) (cs n2))]))]⟩
noncomputable def f45:Fn:=⟨[n6,n0],[],[(.ret (.bop false [(.call (gf 42) [va n6,va n0]),(.call (gf 43) [va n6,va n0])]))]⟩
noncomputable def f42:Fn:=⟨[n6,n0],[],[(.ite (.call (gf 39) [va n0]) [(.ret (.cmp .isin (.sub (va n0) (ci 1)) (.tup [cs n3,cs n8])))] []),(.ret (.cmp .eq (.sub (.call (gf 37) [va n6,va n0]) (ci 0)) (cs n3)))]⟩
noncomputable def f47:Fn:=⟨[n0],[],[(.ite (.cmp .isin (.sub (va n0) (ci 0)) (.tup [cs n9,cs n10])) [(.ret (.sub (va n0) (ci 1)))] []),(.ret (.ite (.cmp .isin (.sub (va n0) (ci 0)) (.tup [cs n11,cs n12,cs n13])) (.sub (va n0) (ci 2)) (.cst .non)))]⟩
noncomputable def f46:Fn:=⟨[n6,n0],[],[(.ret (.cmp .isin (.sub (.call (gf 37) [va n6,va n0]) (ci 0)) (.glb (.tup [(.str n9),(.str n14),(.str n10),(.str n12),(.str n13),(.str n7)]))))]⟩
noncomputable def f48:Fn:=⟨[n6,n0],[],[(.asg n0 (.call (gf 37) [va n6,va n0])),(.ret (.bop true [(.cmp .eq (.sub (va n0) (ci 0)) (cs n10)),(.cmp .eq (.call (gf 37) [va n6,(.sub (va n0) (ci 1))]) (.glb (.tup [(.str n3),(.str n15)])))]))]⟩
noncomputable def WL:Fn:=⟨[n16,n17,n18],[.non],[(.asg n19 (.meth (va n16) 1000 [va n17,va n18])),(.ite (.cmp .eq (.sub (.sub (va n19) (ci 1)) (ci 0)) (cs n20)) [(.raise [(.cst (.str [111,110,101,32,118,97,108,117,101,32,105,115,32,119,97,110,116,101,100])),(.sub (va n17) (ci 1))])] []),(.ite (.cmp .eq (.sub (va n19) (ci 1)) (.glb (.tup [(.str n21)]))) [(.raise [(.cst (.str [110,105,108,32,119,105,116,104,111,117,116,32,97,32,116,121,112,101])),(.sub (va n17) (ci 1))])] []),(.ret (.meth (va n16) 1003 [va n19,(.call (gf 40) [(.sub (va n19) (ci 1))]),(.sub (va n17) (ci 1))]))]⟩
noncomputable def WK:Fn:=⟨[n16,n19,n0,n22],[],[(.asg n23 (.sub (va n19) (ci 1))),(.ite (.cmp .eq (va n23) (va n0)) [(.ret (va n19))] []),(.ite (.bop true [(.cmp .eq (va n23) (.glb (.tup [(.str n21)]))),(.call (gf 46) [(.wld (va n16)),va n0])]) [(.ret (.tup [cs n21,va n0,(.sub (va n19) (ci 2))]))] []),(.ite (.bop true [(.call (gf 39) [va n23]),(.meth (va n16) 1004 [va n19,va n0])]) [(.ite (.not (.call (gf 41) [(.wld (va n16)),va n0])) [(.ret (.bin .add (.bin .add (.slc (va n19) none (some 1)) (.tup [va n0])) (.slc (va n19) (some 2) none)))] []),(.ret (.tup [cs n24,va n0,(.sub (va n19) (ci 2)),(.bin .add (.bin .add (.slc (va n19) none (some 1)) (.tup [(.call (gf 40) [va n23])])) (.slc (va n19) (some 2) none))]))] []),(.ite (.bop true [(.not (.call (gf 39) [va n23])),(.cmp .ne (va n23) (.glb (.tup [(.str n21)]))),(.call (gf 81) [(.wld (va n16)),va n23,va n0])]) [(.asg n25 (.bop true [(.call (gf 41) [(.wld (va n16)),va n0]),(.not (.call (gf 41) [(.wld (va n16)),va n23]))])),(.ret (.tup [(.ite (va n25) (cs n24) (cs n26)),va n0,(.sub (va n19) (ci 2)),va n19]))] []),(.raise [(.bin .add (.bin .add (.call (gf 36) [va n23]) (.cst (.str [32,100,111,101,115,32,110,111,116,32,103,111,32,105,110,116,111,32]))) (.call (gf 36) [va n0])),va n22])]⟩
noncomputable def WJ:Fn:=⟨[n16,n19,n0],[],[(.ite (.cmp .eq (.sub (va n19) (ci 0)) (cs n27)) [(.ret (.call (gf 82) [(.wld (va n16)),(.sub (va n19) (ci 3)),(.sub (va n19) (ci 1)),va n0]))] []),(.ret (.bop true [(.cmp .eq (.sub (va n19) (ci 1)) (.glb (.tup [(.str n5),(.str n2)]))),(.call (gf 81) [(.wld (va n16)),(.sub (va n19) (ci 1)),va n0])]))]⟩
noncomputable def f52:Fn:=⟨[n28,n29,n30,n31,n22],[],[(.ite (.bop false [(.cmp .lt (.call (.glb (.blt 0)) [va n29]) (va n30)),(.bop true [(.isn true (va n31)),(.cmp .gt (.call (.glb (.blt 0)) [va n29]) (va n31))])]) [(.raise [(.bin .add (.cst (.str [97,110,111,116,104,101,114,32,110,117,109,98,101,114,32,111,102,32,97,114,103,117,109,101,110,116,115,32,111,102,32])) (va n28)),va n22])] [])]⟩
noncomputable def f53:Fn:=⟨[n32,n0],[],[(.asg n33 (.call (gf 37) [(.wld (va n32)),va n0])),(.ite (.bop true [(.cmp .eq (.sub (va n33) (ci 0)) (cs n9)),(.cmp .eq (.sub (.call (gf 37) [(.wld (va n32)),(.sub (va n33) (ci 1))]) (ci 0)) (cs n11))]) [(.ret (.call (gf 37) [(.wld (va n32)),(.sub (va n33) (ci 1))]))] []),(.ret (va n33))]⟩
noncomputable def f81:Fn:=⟨[n6,n23,n34,n35],[(.boo false)],[(.ite (.bop false [va n35,(.cmp .eq (va n23) (.glb (.tup [(.str n21)])))]) [(.ret (.call (gf 46) [va n6,va n34]))] []),(.ite (.cmp .eq (va n23) (va n34)) [(.ret (.cst (.boo true)))] []),(.ite (.bop false [(.cmp .isin (.sub (va n23) (ci 0)) (.tup [cs n20,cs n5])),(.cmp .eq (.sub (va n34) (ci 0)) (cs n20))]) [(.ret (.bop true [(.cmp .eq (va n23) (.tup [cs n5,cs n2])),(.bop false [(.call (gf 44) [va n6,va n34]),(.call (gf 80) [va n6,(.call (gf 40) [va n23]),va n34])])]))] []),(.ite (.bop true [(.cmp .eq (.call (gf 37) [va n6,va n23]) (.call (gf 37) [va n6,va n34])),(.not (.bop true [(.call (gf 38) [va n23]),(.call (gf 38) [va n34])]))]) [(.ret (.cst (.boo true)))] []),(.ret (.bop false [(.call (gf 79) [va n6,va n23,va n34]),(.call (gf 80) [va n6,va n23,va n34])]))]⟩
noncomputable def f82:Fn:=⟨[n6,n36,n23,n34],[],[(.ite (.call (gf 41) [va n6,va n34]) [(.ret (.bop true [(.call (gf 80) [va n6,(.call (gf 40) [va n23]),va n34]),(.call (gf 15) [va n36,(.call (gf 40) [va n23])])]))] []),(.asg n33 (.call (gf 37) [va n6,va n34])),(.ite (.cmp .eq (.sub (va n23) (ci 1)) (cs n2)) [(.ret (.cmp .eq (.sub (va n33) (ci 0)) (cs n2)))] []),(.ite (.cmp .eq (.sub (va n23) (ci 1)) (cs n4)) [(.ret (.cmp .eq (.sub (va n33) (ci 0)) (cs n4)))] []),(.ret (.bop true [(.cmp .eq (.sub (va n33) (ci 0)) (cs n3)),(.call (gf 15) [va n36,va n33])]))]⟩
noncomputable def f15:Fn:=⟨[n36,n37],[],[(.asg n38 (.sub (va n37) (ci 0))),(.ite (.bop false [(.cmp .eq (va n38) (cs n2)),(.cmp .eq (va n37) (.tup [cs n5,cs n2]))]) [(.ret (.call (.glb (.blt 1)) [va n36,(.glb (.ty 1))]))] []),(.ite (.call (.glb (.blt 1)) [va n36,(.glb (.ty 1))]) [(.ret (.cst (.boo false)))] []),(.ite (.bop false [(.cmp .eq (va n38) (cs n4)),(.cmp .eq (va n37) (.tup [cs n5,cs n4]))]) [(.ret (.call (.glb (.blt 1)) [va n36,(.glb (.ty 2))]))] []),(.ite (.not (.call (.glb (.blt 1)) [va n36,(.glb (.ty 0))])) [(.ret (.cst (.boo false)))] []),(.ite (.cmp .eq (va n38) (cs n5)) [(.ret (.call (gf 13) [va n36,(.cst .non)]))] []),(.ret (.bop true [(.cmp .eq (va n38) (cs n3)),(.call (gf 13) [va n36,(.sub (va n37) (ci 1))])]))]⟩
noncomputable def f13:Fn:=⟨[n39,n40],[],[(.ite (.isn false (va n40)) [(.ret (.chn (.bin .sub (ci 0) (.bin .pow (ci 2) (.glb (.int 512)))) .lt (va n39) .lt (.bin .pow (ci 2) (.glb (.int 512)))))] []),(.asgT [n41,n42] (.call (gf 12) [va n40])),(.ret (.chn (va n41) .le (va n39) .le (va n42)))]⟩
noncomputable def f12:Fn:=⟨[n40],[],[(.ite (.call (gf 11) [va n40]) [(.ret (.tup [ci 0,(.bin .sub (.bin .pow (ci 2) (.sub (.glb (.dic 0)) (va n40))) (ci 1))]))] []),(.ret (.tup [(.bin .sub (ci 0) (.bin .pow (ci 2) (.bin .sub (.sub (.glb (.dic 0)) (va n40)) (ci 1)))),(.bin .sub (.bin .pow (ci 2) (.bin .sub (.sub (.glb (.dic 0)) (va n40)) (ci 1))) (ci 1))]))]⟩
noncomputable def f11:Fn:=⟨[n40],[],[(.ret (.cmp .eq (.sub (va n40) (ci 0)) (.cst (.str [117]))))]⟩
noncomputable def f80:Fn:=⟨[n6,n23,n34],[],[(.ret (.bop true [(.call (gf 41) [va n6,va n34]),(.isn false (.call (gf 77) [va n6,va n23,(.call (gf 37) [va n6,va n34])]))]))]⟩
noncomputable def f79:Fn:=⟨[n6,n23,n34],[],[(.asgT [n43,n44] (.tup [(.call (gf 37) [va n6,va n23]),(.call (gf 37) [va n6,va n34])])),(.ite (.bop false [(.cmp .ne (.sub (va n43) (ci 0)) (cs n13)),(.cmp .ne (.sub (va n44) (ci 0)) (cs n13)),(.cmp .ne (.sub (va n43) (ci 2)) (.sub (va n44) (ci 2))),(.cmp .ne (.sub (va n43) (ci 1)) (cs n45))]) [(.ret (.cst (.boo false)))] []),(.ret (.bop false [(.not (.call (gf 38) [va n23])),(.not (.call (gf 38) [va n34]))]))]⟩
noncomputable def f54:Fn:=⟨[n32,n28,n29,n22],[],[(.expr (.call (gf 52) [va n28,va n29,ci 1,ci 1,va n22])),(.asg n19 (.meth (va n32) 1001 [(.sub (va n29) (ci 0))])),(.asg n33 (.call (gf 53) [va n32,(.sub (va n19) (ci 1))])),(.ite (.bop true [(.cmp .notin (.sub (va n33) (ci 0)) (.glb (.tup [(.str n11),(.str n10),(.str n13)]))),(.bop false [(.cmp .eq (va n28) (cs n46)),(.cmp .notin (.sub (va n33) (ci 0)) (.tup [cs n4,cs n12]))])]) [(.raise [(.bin .add (.bin .add (.call (gf 36) [(.sub (va n19) (ci 1))]) (.cst (.str [32,104,97,115,32,110,111,32]))) (va n28)),va n22])] []),(.ite (.cmp .eq (.sub (va n19) (ci 0)) (cs n27)) [(.ret (.tup [cs n27,(.glb (.tup [(.str n3),(.str n3)])),va n22,(.call (.glb (.blt 0)) [(.sub (va n19) (ci 3))])]))] []),(.ret (.tup [cs n47,(.glb (.tup [(.str n3),(.str n3)])),va n22,va n28,(.tup [va n19])]))]⟩
noncomputable def f55:Fn:=⟨[n32,n29,n0,n22],[],[(.ite (.cmp .eq (.call (.glb (.blt 0)) [va n29]) (ci 0)) [(.ret (.tup [cs n21,va n0,va n22]))] []),(.asg n48 (.call (gf 47) [(.call (gf 37) [(.wld (va n32)),va n0])])),(.asg n49 (.comp (.tup [va n50,(.meth (va n32) 1003 [(.meth (va n32) 1000 [va n51,va n48]),va n48,(.sub (va n51) (ci 1))])]) [n50,n51] (.enum (va n29)) [] [n32,n48])),(.ret (.tup [cs n52,va n0,va n22,(.call (.glb (.blt 0)) [va n49]),(.call (.glb (.ty 3)) [va n49])]))]⟩
noncomputable def f56:Fn:=⟨[n32,n29,n53,n22],[],[(.expr (.call (gf 52) [cs n54,va n29,ci 1,(.ite (va n53) (ci 2) (.cst .non)),va n22])),(.asg n19 (.meth (va n32) 1001 [(.sub (va n29) (ci 0))])),(.asg n0 (.sub (va n19) (ci 1))),(.asg n33 (.call (gf 37) [(.wld (va n32)),va n0])),(.ite (.cmp .ne (.sub (va n33) (ci 0)) (cs n10)) [(.raise [(.bin .add (.cst (.str [97,112,112,101,110,100,32,119,97,110,116,115,32,97,32,115,108,105,99,101,44,32,110,111,116,32])) (.call (gf 36) [va n0])),va n22])] []),(.asg n55 (.tup [cs n10,(.sub (va n33) (ci 1))])),(.ite (.not (va n53)) [(.ret (.tup [cs n47,va n0,va n22,cs n54,(.tup [va n19,(.call (gf 55) [va n32,(.slc (va n29) (some 1) none),va n55,va n22])])]))] []),(.ite (.cmp .ne (.call (.glb (.blt 0)) [va n29]) (ci 2)) [(.raise [(.cst (.str [97,110,111,116,104,101,114,32,110,117,109,98,101,114,32,111,102,32,97,114,103,117,109,101,110,116,115,32,111,102,32,97,112,112,101,110,100])),va n22])] []),(.asg n56 (.meth (va n32) 1000 [(.sub (va n29) (ci 1)),va n55])),(.ite (.bop true [(.call (gf 48) [(.wld (va n32)),va n0]),(.call (gf 43) [(.wld (va n32)),(.sub (va n56) (ci 1))])]) [(.asg n56 (.tup [cs n26,va n55,va n22,(.meth (va n32) 1003 [va n56,(.call (gf 40) [(.sub (va n56) (ci 1))]),va n22])]))] []),(.ret (.tup [cs n47,va n0,va n22,cs n54,(.tup [va n19,(.meth (va n32) 1003 [va n56,va n55,va n22])])]))]⟩
noncomputable def f57:Fn:=⟨[n32,n29,n22],[],[(.expr (.call (gf 52) [cs n57,va n29,ci 2,ci 2,va n22])),(.asgT [n58,n59] (.tup [(.meth (va n32) 1001 [(.sub (va n29) (ci 0))]),(.meth (va n32) 1001 [(.sub (va n29) (ci 1))])])),(.asgT [n43,n44] (.tup [(.call (gf 37) [(.wld (va n32)),(.sub (va n58) (ci 1))]),(.call (gf 37) [(.wld (va n32)),(.sub (va n59) (ci 1))])])),(.ite (.cmp .ne (.sub (va n43) (ci 0)) (cs n10)) [(.raise [(.bin .add (.cst (.str [99,111,112,121,32,119,97,110,116,115,32,97,32,115,108,105,99,101,44,32,110,111,116,32])) (.call (gf 36) [(.sub (va n58) (ci 1))])),va n22])] []),(.ite (.bop true [(.cmp .eq (.sub (va n44) (ci 0)) (cs n4)),(.cmp .eq (.call (gf 37) [(.wld (va n32)),(.sub (va n43) (ci 1))]) (.glb (.tup [(.str n3),(.str n15)])))]) [(.asg n59 (.tup [cs n26,(.tup [cs n10,(.sub (va n43) (ci 1))]),va n22,va n59]))] [(.ite (.bop false [(.cmp .ne (.sub (va n44) (ci 0)) (cs n10)),(.cmp .ne (.sub (va n44) (ci 1)) (.sub (va n43) (ci 1)))]) [(.raise [(.cst (.str [99,111,112,121,32,119,97,110,116,115,32,115,108,105,99,101,115,32,111,102,32,111,110,101,32,116,121,112,101])),va n22])] [])]),(.ret (.tup [cs n47,(.glb (.tup [(.str n3),(.str n3)])),va n22,cs n57,(.tup [va n58,va n59])]))]⟩
noncomputable def f58:Fn:=⟨[n32,n29,n22],[],[(.expr (.call (gf 52) [cs n60,va n29,ci 2,ci 2,va n22])),(.asg n19 (.meth (va n32) 1001 [(.sub (va n29) (ci 0))])),(.asg n33 (.call (gf 37) [(.wld (va n32)),(.sub (va n19) (ci 1))])),(.ite (.cmp .ne (.sub (va n33) (ci 0)) (cs n12)) [(.raise [(.bin .add (.cst (.str [100,101,108,101,116,101,32,119,97,110,116,115,32,97,32,109,97,112,44,32,110,111,116,32])) (.call (gf 36) [(.sub (va n19) (ci 1))])),va n22])] []),(.asg n61 (.meth (va n32) 1003 [(.meth (va n32) 1000 [(.sub (va n29) (ci 1)),(.sub (va n33) (ci 1))]),(.sub (va n33) (ci 1)),va n22])),(.ret (.tup [cs n47,(.glb (.tup [(.str n20),(.tup [])])),va n22,cs n60,(.tup [va n19,va n61])]))]⟩
noncomputable def f59:Fn:=⟨[n32,n29,n22],[],[(.expr (.call (gf 52) [cs n62,va n29,ci 1,ci 1,va n22])),(.asg n19 (.meth (va n32) 1001 [(.sub (va n29) (ci 0))])),(.asg n33 (.call (gf 37) [(.wld (va n32)),(.sub (va n19) (ci 1))])),(.ite (.bop false [(.cmp .ne (.sub (va n33) (ci 0)) (cs n13)),(.cmp .eq (.sub (va n33) (ci 1)) (cs n63))]) [(.raise [(.bin .add (.call (gf 36) [(.sub (va n19) (ci 1))]) (.cst (.str [32,105,115,32,110,111,116,32,99,108,111,115,101,100]))),va n22])] []),(.ret (.tup [cs n47,(.glb (.tup [(.str n20),(.tup [])])),va n22,cs n62,(.tup [va n19])]))]⟩
noncomputable def f60:Fn:=⟨[n32,n64,n22],[],[(.asg n65 (.comp (.sub (va n19) (ci 1)) [n19] (.plain (va n64)) [(.not (.call (gf 39) [(.sub (va n19) (ci 1))]))] [])),(.ite (.cmp .ne (va n65) (.lst [])) [(.ret (.sub (va n65) (ci 0)))] []),(.asg n66 (.comp (.sub (va n19) (ci 1)) [n19] (.plain (va n64)) [(.cmp .eq (.sub (va n19) (ci 1)) (.tup [cs n5,cs n8]))] [])),(.ret (.ite (.cmp .ne (va n66) (.lst [])) (.sub (va n66) (ci 0)) (.sub (.sub (va n64) (ci 0)) (ci 1))))]⟩
noncomputable def f61:Fn:=⟨[n32,n28,n29,n22],[],[(.expr (.call (gf 52) [va n28,va n29,ci 1,(.cst .non),va n22])),(.asg n64 (.comp (.meth (va n32) 1000 [va n51]) [n51] (.plain (va n29)) [] [n32])),(.asg n0 (.call (gf 60) [va n32,va n64,va n22])),(.ite (.bop false [(.cmp .eq (.sub (va n0) (ci 0)) (cs n20)),(.not (.call (gf 45) [(.wld (va n32)),va n0]))]) [(.raise [(.bin .add (.call (gf 36) [va n0]) (.cst (.str [32,105,115,32,110,111,116,32,111,114,100,101,114,101,100]))),va n22])] []),(.ite (.bop true [(.call (gf 39) [va n0]),(.cmp .ne (.comp (va n19) [n19] (.plain (va n64)) [(.cmp .ne (.call (gf 43) [(.wld (va n32)),(.sub (va n19) (ci 1))]) (.call (gf 43) [(.wld (va n32)),va n0]))] [n0,n32]) (.lst []))]) [(.raise [(.cst (.str [118,97,108,117,101,115,32,111,102,32,117,110,108,105,107,101,32,116,121,112,101,115])),va n22])] []),(.ite (.not (.call (gf 39) [va n0])) [(.asg n64 (.comp (.meth (va n32) 1003 [va n19,va n0,va n22]) [n19] (.plain (va n64)) [] [n0,n32,n22]))] []),(.ite (.cmp .ne (.comp (va n19) [n19] (.plain (va n64)) [(.cmp .ne (.sub (va n19) (ci 0)) (cs n27))] []) (.lst [])) [(.ret (.tup [cs n47,va n0,va n22,va n28,(.call (.glb (.ty 3)) [va n64])]))] []),(.asg n67 (.sub (.sub (va n64) (ci 0)) (ci 3))),(.loop n19 (.plain (.slc (va n64) (some 1) none)) [(.ite (.call (gf 21) [(.ite (.cmp .eq (va n28) (cs n68)) (cs n69) (cs n70)),(.sub (va n19) (ci 3)),va n67,(.cst .non)]) [(.asg n67 (.sub (va n19) (ci 3)))] [])]),(.ret (.tup [cs n27,va n0,va n22,va n67]))]⟩
noncomputable def f21:Fn:=⟨[n71,n72,n73,n40],[.non],[(.asg n74 (.call (gf 20) [va n72])),(.ite (.cmp .ne (va n74) (.call (gf 20) [va n73])) [.bad] []),(.ite (.cmp .isin (va n71) (.glb (.tup [(.str n75),(.str n76),(.str n69),(.str n77),(.str n70),(.str [62,61])]))) [(.ret (.call (gf 19) [va n71,va n72,va n73]))] []),(.ite (.bop true [(.cmp .eq (va n74) (cs n2)),(.cmp .isin (va n71) (.tup [cs n78,(.cst (.str [124,124]))]))]) [(.ret (.ite (.cmp .eq (va n71) (cs n78)) (.bop true [va n72,va n73]) (.bop false [va n72,va n73])))] []),(.ite (.bop true [(.cmp .eq (va n74) (cs n4)),(.cmp .eq (va n71) (.cst (.str [43])))]) [(.ret (.bin .add (va n72) (va n73)))] []),(.ite (.cmp .ne (va n74) (cs n3)) [.bad] []),(.ite (.cmp .isin (va n71) (.tup [(.cst (.str [60,60])),(.cst (.str [62,62]))])) [(.ret (.call (gf 17) [va n71,va n72,va n73,va n40]))] []),(.ret (.call (gf 14) [(.call (gf 18) [va n71,va n72,va n73]),va n40]))]⟩
noncomputable def f20:Fn:=⟨[n36],[],[(.ite (.call (.glb (.blt 1)) [va n36,(.glb (.ty 1))]) [(.ret (cs n2))] []),(.ret (.ite (.call (.glb (.blt 1)) [va n36,(.glb (.ty 2))]) (cs n4) (cs n3)))]⟩
noncomputable def f19:Fn:=⟨[n71,n72,n73],[],[(.ite (.cmp .eq (va n71) (cs n75)) [(.ret (.cmp .eq (va n72) (va n73)))] []),(.ite (.cmp .eq (va n71) (cs n76)) [(.ret (.cmp .ne (va n72) (va n73)))] []),(.ite (.call (.glb (.blt 1)) [va n72,(.glb (.ty 1))]) [.bad] []),(.ite (.cmp .eq (va n71) (cs n69)) [(.ret (.cmp .lt (va n72) (va n73)))] []),(.ite (.cmp .eq (va n71) (cs n77)) [(.ret (.cmp .le (va n72) (va n73)))] []),(.ret (.ite (.cmp .eq (va n71) (cs n70)) (.cmp .gt (va n72) (va n73)) (.cmp .ge (va n72) (va n73))))]⟩
noncomputable def f36:Fn:=⟨[n0],[],[(.asg n40 (.sub (va n0) (ci 0))),(.ite (.bop false [(.cmp .eq (va n40) (cs n1)),(.cmp .eq (va n40) (cs n3))]) [(.ret (.sub (va n0) (ci 1)))] []),(.ite (.cmp .eq (va n40) (cs n5)) [(.ret (.bin .add (.cst (.str [117,110,116,121,112,101,100,32])) (.sub (va n0) (ci 1))))] []),(.ite (.cmp .eq (va n40) (cs n9)) [(.ret (.bin .add (.cst (.str [42])) (.call (gf 36) [(.sub (va n0) (ci 1))])))] []),(.ite (.cmp .eq (va n40) (cs n11)) [(.ret (.bin .add (.bin .add (.bin .add (.cst (.str [91])) (.call (.glb (.ty 5)) [(.sub (va n0) (ci 1))])) (cs n79)) (.call (gf 36) [(.sub (va n0) (ci 2))])))] []),(.ite (.cmp .eq (va n40) (cs n10)) [(.ret (.bin .add (.cst (.str [91,93])) (.call (gf 36) [(.sub (va n0) (ci 1))])))] []),(.ite (.cmp .eq (va n40) (cs n12)) [(.ret (.bin .add (.bin .add (.bin .add (.cst (.str [109,97,112,91])) (.call (gf 36) [(.sub (va n0) (ci 1))])) (cs n79)) (.call (gf 36) [(.sub (va n0) (ci 2))])))] []),(.ite (.cmp .eq (va n40) (cs n13)) [(.ret (.call (gf 35) [va n0]))] []),(.ite (.cmp .eq (va n40) (cs n14)) [(.ret (.bin .add (cs n14) (.call (gf 32) [va n0])))] []),(.ite (.cmp .eq (va n40) (cs n80)) [(.ret (.call (gf 34) [cs n80,(.comp (.call (gf 33) [va n52]) [n52] (.plain (.sub (va n0) (ci 1))) [] [])]))] []),(.ite (.cmp .eq (va n40) (cs n7)) [(.ret (.call (gf 34) [cs n7,.bad]))] []),(.ret (.ite (.cmp .eq (va n40) (cs n20)) (.bin .add (.bin .add (cs n81) (.call (gf 31) [(.sub (va n0) (ci 1))])) (cs n82)) (va n40)))]⟩
noncomputable def f35:Fn:=⟨[n0],[],[(.asg n83 (.dsub [(n45,[99,104,97,110,32]),(n84,[99,104,97,110,60,45,32]),(n63,[60,45,99,104,97,110,32])] (.sub (va n0) (ci 1)))),(.asg n33 (.call (gf 36) [(.sub (va n0) (ci 2))])),(.ite (.bop true [(.cmp .ne (.sub (va n0) (ci 1)) (cs n84)),(.cmp .eq (.sub (.sub (va n0) (ci 2)) (ci 0)) (cs n13)),(.cmp .eq (.sub (.sub (va n0) (ci 2)) (ci 1)) (cs n63))]) [(.ret (.bin .add (.bin .add (.bin .add (va n83) (cs n81)) (va n33)) (cs n82)))] []),(.ret (.bin .add (va n83) (va n33)))]⟩
noncomputable def Y0:Fn:=⟨[n59,n85],[],[(.ret (.sub (va n85) (.call (gf 100) [va n59,(.call (.glb (.blt 0)) [va n85])])))]⟩
noncomputable def Yz:Fn:=⟨[],[],[(.asg n86 (.tup [cs n10,(.tup [cs n3,cs n15])])),(.asg n52 (.tup [cs n11,ci 3,(.glb (.tup [(.str n3),(.str n3)]))])),(.asg n67 (.lst [(.tup [cs n4]),(.tup [cs n10,(.glb (.tup [(.str n3),(.str n3)]))]),va n52,(.tup [cs n9,va n52]),va n86,(.glb (.tup [(.str n3),(.str n3)]))])),(.asg n67 (.bin .add (va n67) (.lst [(.tup [cs n12,(.tup [cs n4]),(.glb (.tup [(.str n3),(.str n3)]))]),(.tup [cs n13,cs n45,(.glb (.tup [(.str n3),(.str n3)]))]),(.tup [cs n13,cs n63,(.glb (.tup [(.str n3),(.str n3)]))])]))),(.ret (.bin .add (va n67) (.lst [(.tup [cs n2]),(.tup [cs n1,cs n87])])))]⟩
noncomputable def Yy:Fn:=⟨[n0],[],[(.ret (.ite (.cmp .eq (va n0) (.tup [cs n1,cs n87])) (.tup [cs n10,(.glb (.tup [(.str n3),(.str n3)]))]) (va n0)))]⟩
noncomputable def K7:Fn:=⟨[n28,n29,n53],[],[(.asgT [n64,n32] (.tup [(.call (.glb (.ty 3)) [(.comp (.tup [cs n37,ci 5,va n51]) [n51] (.plain (va n29)) [] [])]),(.call (gf 106) [])])),(.tryRet [(.ite (.cmp .eq (va n28) (cs n54)) [(.ret (.call (gf 56) [va n32,va n64,va n53,ci 7]))] []),(.ite (.cmp .isin (va n28) (.lst [cs n88,cs n46])) [(.ret (.call (gf 54) [va n32,va n28,va n64,ci 7]))] []),(.ite (.cmp .isin (va n28) (.lst [cs n68,cs n89])) [(.ret (.call (gf 61) [va n32,va n28,va n64,ci 7]))] []),(.ite (.cmp .eq (va n28) (cs n57)) [(.ret (.call (gf 57) [va n32,va n64,ci 7]))] []),(.ret (.ite (.cmp .eq (va n28) (cs n60)) (.call (gf 58) [va n32,va n64,ci 7]) (.call (gf 59) [va n32,va n64,ci 7])))] n90)]⟩
noncomputable def Yx:Fn:=⟨[n59],[],[(.ret (.tup [cs n91,(.call (gf 101) [va n59,(.call (gf 104) [])]),ci 4,(.call (gf 100) [va n59,ci 9])]))]⟩
noncomputable def Yw:Fn:=⟨[n59],[],[(.asgL n64 [(.tup [cs n27,(.tup [cs n5,cs n3]),ci 4,(.call (gf 100) [va n59,ci 9])]),(.tup [cs n91,(.glb (.tup [(.str n3),(.str n3)])),ci 4,ci 1])] (.tup [(.str n91),(.tup [(.str n2)]),(.int 4),(.int 2)])),(.ret (.call (gf 101) [va n59,(.bin .add (.slc (va n64) none (some 2)) (va n64))]))]⟩
noncomputable def Yv:Fn:=⟨[n51,n0],[],[(.ite (.cmp .eq (.sub (va n51) (ci 1)) (va n0)) [(.ret (va n51))] []),(.ite (.bop true [(.cmp .eq (.sub (va n51) (ci 0)) (cs n27)),(.cmp .eq (.sub (va n51) (ci 1)) (.tup [cs n5,cs n3])),(.cmp .eq (.sub (va n0) (ci 0)) (cs n3))]) [(.ret (.tup [cs n27,va n0,ci 4,(.sub (va n51) (ci 3))]))] []),(.ite (.bop true [(.cmp .eq (.sub (va n51) (ci 0)) (cs n27)),(.cmp .eq (.sub (va n51) (ci 1)) (.tup [cs n5,cs n4])),(.cmp .eq (va n0) (.tup [cs n4]))]) [(.ret (.tup [cs n27,va n0,ci 4,(.sub (va n51) (ci 3))]))] []),(.ret (.ite (.bop true [(.cmp .eq (.sub (va n51) (ci 1)) (.tup [cs n1,cs n87])),(.cmp .eq (va n0) (.tup [cs n10,(.glb (.tup [(.str n3),(.str n3)]))]))]) (.tup [cs n26,va n0,ci 4,va n51]) (cs n90)))]⟩
noncomputable def Yu:Fn:=⟨[n28,n29],[],[(.asg n33 (.call (gf 105) [(.sub (.sub (va n29) (ci 0)) (ci 1))])),(.asg n33 (.ite (.cmp .eq (.sub (va n33) (ci 0)) (cs n9)) (.sub (va n33) (ci 1)) (va n33))),(.asg n92 (.bop false [(.cmp .isin (.sub (va n33) (ci 0)) (.lst [cs n10,cs n11,cs n13])),(.bop true [(.cmp .eq (va n28) (cs n88)),(.cmp .isin (.sub (va n33) (ci 0)) (.lst [cs n4,cs n12]))])])),(.ret (.ite (va n92) (.tup [cs n47,(.glb (.tup [(.str n3),(.str n3)])),ci 7,va n28,(.tup [(.sub (va n29) (ci 0))])]) (cs n90)))]⟩
noncomputable def Yt:Fn:=⟨[n29,n53],[],[(.asg n0 (.sub (.sub (va n29) (ci 0)) (ci 1))),(.asg n33 (.call (gf 105) [va n0])),(.ite (.bop false [(.cmp .ne (.sub (va n33) (ci 0)) (cs n10)),(.bop true [va n53,(.cmp .ne (.call (.glb (.blt 0)) [va n29]) (ci 2))])]) [(.ret (cs n90))] []),(.ite (va n53) [(.asg n56 (.sub (va n29) (ci 1))),(.ite (.bop true [(.cmp .eq (.sub (va n33) (ci 1)) (.tup [cs n3,cs n15])),(.cmp .eq (.sub (va n56) (ci 1)) (.tup [cs n4]))]) [(.asg n56 (.tup [cs n26,va n33,ci 7,va n56]))] []),(.asg n56 (.call (gf 110) [va n56,va n33])),(.ret (.ite (.cmp .eq (va n56) (cs n90)) (cs n90) (.tup [cs n47,va n0,ci 7,cs n54,(.tup [(.sub (va n29) (ci 0)),va n56])])))] []),(.asg n64 (.comp (.call (gf 110) [va n51,(.sub (va n33) (ci 1))]) [n51] (.plain (.slc (va n29) (some 1) none)) [] [n33])),(.ite (.cmp .isin (cs n90) (va n64)) [(.ret (cs n90))] []),(.asg n52 (.ite (.cmp .ne (va n64) (.lst [])) (.tup [cs n52,va n33,ci 7,(.call (.glb (.blt 0)) [va n64]),(.tupenum (va n64))]) (.tup [cs n21,va n33,ci 7]))),(.ret (.tup [cs n47,va n0,ci 7,cs n54,(.tup [(.sub (va n29) (ci 0)),va n52])]))]⟩
noncomputable def Ys:Fn:=⟨[n29],[],[(.asgT [n43,n44] (.tup [(.call (gf 105) [(.sub (.sub (va n29) (ci 0)) (ci 1))]),(.call (gf 105) [(.sub (.sub (va n29) (ci 1)) (ci 1))])])),(.ite (.bop true [(.cmp .eq (va n43) (.tup [cs n10,(.tup [cs n3,cs n15])])),(.cmp .eq (va n44) (.tup [cs n4]))]) [(.ret (.tup [cs n47,(.glb (.tup [(.str n3),(.str n3)])),ci 7,cs n57,(.tup [(.sub (va n29) (ci 0)),(.tup [cs n26,va n43,ci 7,(.sub (va n29) (ci 1))])])]))] []),(.ret (.ite (.bop true [(.cmp .eq (.sub (va n43) (ci 0)) (cs n10)),(.cmp .eq (va n43) (va n44))]) (.tup [cs n47,(.glb (.tup [(.str n3),(.str n3)])),ci 7,cs n57,(.call (.glb (.ty 3)) [va n29])]) (cs n90)))]⟩
noncomputable def Yr:Fn:=⟨[n59,n28],[],[(.asg n29 (.comp (.call (gf 109) [va n59]) [n93] (.range (.bin .add (ci 1) (.call (gf 100) [va n59,ci 3]))) [] [n59])),(.ite (.cmp .isin (.tup [cs n2]) (.comp (.sub (va n51) (ci 1)) [n51] (.plain (va n29)) [] [])) [(.ret (.lst [va n29,cs n90]))] []),(.ite (.cmp .eq (.comp (va n51) [n51] (.plain (va n29)) [(.cmp .ne (.sub (va n51) (ci 0)) (cs n27))] []) (.lst [])) [(.asg n94 (.comp (.sub (va n51) (ci 3)) [n51] (.plain (va n29)) [] [])),(.ret (.lst [va n29,(.tup [cs n27,(.tup [cs n5,cs n3]),ci 7,(.ite (.cmp .eq (va n28) (cs n68)) (.call (.glb (.blt 2)) [va n94]) (.call (.glb (.blt 3)) [va n94]))])]))] []),(.ret (.lst [va n29,(.tup [cs n47,(.glb (.tup [(.str n3),(.str n3)])),ci 7,va n28,(.call (.glb (.ty 3)) [(.comp (.call (gf 110) [va n51,(.glb (.tup [(.str n3),(.str n3)]))]) [n51] (.plain (va n29)) [] [])])])]))]⟩
noncomputable def Yq:Fn:=⟨[n59],[],[(.asg n28 (.call (gf 101) [va n59,(.lst [cs n88,cs n46,cs n54,cs n54,cs n57,cs n60,cs n62,cs n68,cs n89])])),(.asgT [n23,n34,n53] (.tup [(.call (gf 108) [va n59]),(.call (gf 108) [va n59]),(.cst (.boo false))])),(.ite (.cmp .isin (va n28) (.lst [cs n88,cs n46])) [(.asgT [n29,n95] (.tup [(.lst [va n23]),(.call (gf 111) [va n28,(.lst [va n23])])]))] [(.ite (.cmp .eq (va n28) (cs n54)) [(.asg n53 (.cmp .eq (.call (gf 100) [va n59,ci 3]) (ci 0))),(.asg n96 (.lst [(.tup [cs n10,(.glb (.tup [(.str n3),(.str n3)]))]),(.tup [cs n1,cs n87]),(.tup [cs n10,(.tup [cs n3,cs n15])]),(.sub (va n23) (ci 1))])),(.asg n23 (.tup [cs n91,(.call (gf 101) [va n59,va n96]),ci 4,ci 0])),(.asg n29 (.ite (va n53) (.lst [va n23,va n34]) (.bin .add (.lst [va n23]) (.comp (.call (gf 109) [va n59]) [n93] (.range (.call (gf 100) [va n59,ci 3])) [] [n59])))),(.asg n95 (.call (gf 112) [va n29,va n53]))] [(.ite (.cmp .eq (va n28) (cs n57)) [(.asgT [n29,n95] (.tup [(.lst [va n23,va n34]),(.call (gf 113) [(.lst [va n23,va n34])])]))] [(.ite (.cmp .eq (va n28) (cs n60)) [(.asg n96 (.lst [(.tup [cs n27,(.tup [cs n5,cs n4]),ci 4,(.cst (.byt n50))]),(.tup [cs n91,(.tup [cs n4]),ci 4,ci 3]),(.call (gf 109) [va n59])])),(.asg n61 (.call (gf 101) [va n59,va n96])),(.asgT [n37,n29] (.tup [(.call (gf 110) [va n61,(.tup [cs n4])]),(.lst [va n23,va n61])])),(.asg n95 (.ite (.bop true [(.cmp .eq (.sub (.sub (va n23) (ci 1)) (ci 0)) (cs n12)),(.cmp .ne (va n37) (cs n90))]) (.tup [cs n47,(.glb (.tup [(.str n20),(.tup [])])),ci 7,va n28,(.tup [va n23,va n37])]) (cs n90)))] [(.ite (.cmp .isin (va n28) (.lst [cs n68,cs n89])) [(.asgT [n29,n95] (.call (gf 114) [va n59,va n28]))] [(.asgT [n29,n95] (.tup [(.lst [va n23]),(.ite (.cmp .eq (.sub (va n23) (ci 1)) (.tup [cs n13,cs n45,(.glb (.tup [(.str n3),(.str n3)]))])) (.tup [cs n47,(.glb (.tup [(.str n20),(.tup [])])),ci 7,va n28,(.tup [va n23])]) (cs n90))]))])])])])]),(.ite (.bop true [(.cmp .notin (va n28) (.lst [cs n54,cs n68,cs n89])),(.cmp .eq (.call (gf 100) [va n59,ci 6]) (ci 0))]) [(.ret (.lst [va n28,(.bin .add (va n29) (.lst [va n34])),va n53,cs n90]))] []),(.ret (.lst [va n28,va n29,va n53,va n95]))]⟩
noncomputable def VV:Fn:=⟨[n97],[],[(.loop n50 (.range (.call (.glb (.blt 3)) [ci 1,(.call (.glb (.blt 2)) [(.call (.glb (.blt 0)) [va n97]),ci 2])])) [(.asg n59 (.call (gf 99) [va n97,va n50])),(.loop n93 (.range (ci 6)) [(.asgT [n28,n29,n53,n95] (.call (gf 115) [va n59])),(.ite (.cmp .ne (.call (gf 107) [va n28,va n29,va n53]) (va n95)) [(.ret (.cst (.boo false)))] [])])]),(.asg n98 (.tup [cs n27,(.tup [cs n5,cs n4]),ci 4,(.cst (.byt [97,98,99]))])),(.ite (.cmp .ne (.call (gf 107) [cs n88,(.lst [va n98]),(.cst (.boo false))]) (.tup [cs n27,(.glb (.tup [(.str n3),(.str n3)])),ci 7,ci 3])) [(.ret (.cst (.boo false)))] []),(.ret (.cmp .eq (.call (gf 107) [cs n46,(.lst [(.tup [cs n91,(.tup [cs n12,(.tup [cs n4]),(.glb (.tup [(.str n3),(.str n3)]))]),ci 4,ci 0])]),(.cst (.boo false))]) (cs n90)))]⟩
noncomputable def Td:List (Nat×Fn):=[(38,f38),(39,f39),(40,f40),(41,f41),(43,f43),(44,f44),(45,f45),(42,f42),(47,f47),(46,f46),(48,f48),(1001,WL),(1003,WK),(1004,WJ),(52,f52),(53,f53),(81,f81),(82,f82),(15,f15),(13,f13),(12,f12),(11,f11),(80,f80),(79,f79),(54,f54),(55,f55),(56,f56),(57,f57),(58,f58),(59,f59),(60,f60),(61,f61),(21,f21),(20,f20),(19,f19),(36,f36),(35,f35),(101,Y0),(104,Yz),(105,Yy),(108,Yx),(109,Yw),(110,Yv),(111,Yu),(112,Yt),(113,Ys),(114,Yr),(115,Yq)]
noncomputable def K8:Nat→List (Nm×D)
 | 0=>[(n3,(.int 64)),([105,110,116,56],(.int 8)),([105,110,116,49,54],(.int 16)),(n99,(.int 32)),([105,110,116,54,52],(.int 64)),([117,105,110,116],(.int 64)),(n15,(.int 8)),([117,105,110,116,49,54],(.int 16)),([117,105,110,116,51,50],(.int 32)),([117,105,110,116,54,52],(.int 64))]
 | _=>[(n2,(.tup [(.str n2)])),(n3,(.tup [(.str n3),(.str n3)])),(n8,(.tup [(.str n3),(.str n99)])),(n4,(.tup [(.str n4)]))]
noncomputable def EU:D:=.tup [.str [115,108,105,99,101],.tup [.str [105,110,116],.str [105,110,116]]]
noncomputable def Mx (r:List D):Option D:=match A2 r with
 | some m=>(match strOf m with | some m=>(match Ap m [109,46,82] with | true=>some EU | false=>none) | none=>none)
 | none=>none
noncomputable def YW:List D→Option D
 | []=>none
 | k::r=>match strOf k with
  | some x=>(match Ap x [110,97,109,101,100] with | true=>Mx r | false=>some (.tup (k::r)))
  | none=>none
noncomputable def UH (d:D):Option D:=match BL d with | some l=>YW l | none=>none
noncomputable def Es (args:List D):M D:=match HO args with
 | some p=>(match TP p.1 with | true=>Bl UH p.2 | false=>bad)
 | none=>bad
noncomputable def PO (t:D):Option D:=match BL t with
 | some l=>(match F9 l with | some p=>(match strOf p.1 with | some k=>(match Ap k [116,111,108,100] with | true=>some p.2.2 | false=>none) | none=>none) | none=>none)
 | none=>none
noncomputable def I5:List D→M D
 | a::t::r=>(match GW a&&Nat.ble r.length 1 with | true=>opt (PO t) | false=>bad)
 | _=>bad
noncomputable def Ow (d:D):M D:=match C2 d with
 | some (.ofNat top)=>(match Nat.blt 0 top&&Nat.ble top 16 with | true=>draw top | false=>bad)
 | _=>bad
noncomputable def GB (args:List D):M D:=match HO args with
 | some p=>(match Kv p.1 with | true=>Ow p.2 | false=>bad)
 | none=>bad
noncomputable def PJ:List (Nat×(List D→M D)):=[(37,Es),(1000,I5),(100,GB)]
noncomputable def WH (i:Nat):Option (List D→M D):=Bt i PJ
noncomputable def TB:Tab:=⟨fun i=>Bt i Td,K8,WH⟩
noncomputable def V2:X:=match K7.body with | [.asgT _ (.tup [e,_]),_]=>e | _=>.bad
noncomputable def Oo:List S:=K7.body.drop 1
noncomputable def MS:List S:=match VV.body with | .loop _ _ [_,.loop _ _ l]::_=>l | _=>[]
noncomputable def WS:S:=match MS with | s::_=>s | _=>.bad
noncomputable def LD:S→List X×X
 | .ite (.cmp _ (.call _ as) e) _ _=>(as,e)
 | .ret (.cmp _ (.call _ as) e)=>(as,e)
 | _=>([],.bad)
noncomputable def Et:List X×X:=match MS with | [_,s]=>LD s | _=>([],.bad)
noncomputable def Tt:S:=match VV.body with | [_,s,_,_]=>s | _=>.bad
noncomputable def E9:List X×X:=match VV.body with | [_,_,s,_]=>LD s | _=>([],.bad)
noncomputable def Gf:List X×X:=match VV.body with | [_,_,_,s]=>LD s | _=>([],.bad)
noncomputable abbrev RU:Rec:=run TB 200
noncomputable def V1:M D:=do
 let d←RU.ev V2
 BJ [([115,111,109,101],d),([99,104,101,99,107,101,114],.chk)]
 match←RU.ss Oo with
 | .ret d=>pure d
 | .next=>bad
noncomputable def F8:List D→M D
 | [a,b,c]=>deeper (under [([110,97,109,101],a),([101,115],b),([105,115,95,115,112,114,101,97,100],c)] V1)
 | _=>bad
noncomputable def B1 (op:Cm) (p:List X×X):M Bool:=do
 let ds←Ar RU.ev p.1
 let r←F8 ds
 let due←RU.ev p.2
 A8 op r due
noncomputable def st0:St:=⟨[([115,111,117,114,99,101],.src),([115,99,114,105,112,116],.fn 9999)],0,false,0,[],[]⟩
noncomputable def WE:Option D→Bool | some .src=>true | _=>false
noncomputable def WG:Option D→Bool | some (.fn i)=>Nat.beq i 9999 | _=>false
noncomputable def IK (ρ:Rho):Bool:=match WE (Ay [115,111,117,114,99,101] ρ) with | true=>WG (Ay [115,99,114,105,112,116] ρ) | false=>false
noncomputable def allB (w:Bool):Option (List (Out Bool×St))→Bool
 | none=>false
 | some l=>l.all fun p=>match p.1 with | .ok b=>(match Go b w with | true=>IK p.2.rho | false=>false) | _=>false
noncomputable def BW:Option (List (Out Fl×St)):=DL RU WS st0
noncomputable def Fc (p:Out Fl×St):Bool:=match p.1 with | .ok .next=>allB false (B1 .ne Et p.2) | _=>false
noncomputable def KB (l:List (Out Fl×St)):Bool:=l.all Fc
noncomputable def B0 (lo n:Nat):Bool:=match BW with | none=>false | some l=>KB ((l.drop lo).take n)
noncomputable def PR:Option (List (Out Fl×St)):=DL RU Tt st0
noncomputable def HE:Bool:=match PR with
 | none=>false
 | some l=>l.all fun p=>match p.1 with | .ok .next=>allB false (B1 .ne E9 p.2) | _=>false
noncomputable def HD:Bool:=allB true (B1 .eq Gf st0)
end
section
open PySem PySem.W PyProof.Rows
noncomputable def DH:Nat→String
 | 0=>"len" | 1=>"isinstance" | 2=>"min" | _=>"max"
noncomputable def Cv:Nat→String
 | 0=>"int" | 1=>"bool" | 2=>"bytes" | 3=>"tuple" | 4=>"range" | 5=>"str" | _=>"enumerate"
noncomputable def MJ (i j:Nat):Option Stmt:=(nth P.main.body i).bind fun c=>(Y5 c).bind fun b=>nth b j
noncomputable def Br:List Str:=["int","int8","int16","int32","int64","uint","uint8","uint16","uint32","uint64"]
noncomputable def CM:List Str:=["len","cap","append","copy","delete","make","new","panic","recover","print","close","min","max"]
noncomputable def IE (x:Str):D:=.str (nm x)
noncomputable def BQ:List Str:=["packages","named","globals","consts","funcs","bodies","files","scopes","order","starts","settle","late_keys","is_whole"]
noncomputable def BO:List Str:=["world","package","scope","key","readers","run_body","outer","locals","params","results","result_locals","has_result_names","captured","literals","loops"]
noncomputable def FX (t:String):Value→Bool | .type x=>decide (x=t) | _=>false
noncomputable def MY (t:String):Value→Bool | .builtin x=>decide (x=t) | _=>false
noncomputable def NR:Value→Option Addr | .ref a=>some a | _=>none
noncomputable def ND:Value→Option Str | .str x _=>some x | _=>none
noncomputable def Wn:Data→Option (Array Value) | .seq vs _=>some vs | _=>none
noncomputable def XM:Data→Option (Array Value) | .fields vs=>some vs | _=>none
noncomputable def VU:Data→Option FuncData | .func f=>some f | _=>none
noncomputable def Vd:Data→Option ClassData | .cls c=>some c | _=>none
mutual
noncomputable def I7 {α:Type}:List α→List α
 | []=>[]
 | a::r=>a::MA r
noncomputable def MA {α:Type}:List α→List α
 | []=>[]
 | _::r=>I7 r
end
noncomputable def Lv {α:Type}:Nat→List α→Nat→Option α
 | 0,l,i=>l[i]?
 | f + 1,l,i=>match Nat.beq (i % 2) 0 with | true=>Lv f (I7 l) (i / 2) | false=>Lv f (MA l) (i / 2)
noncomputable def XK:Data→Bool | .freed=>true | _=>false
noncomputable def EB (h:Heap) (a:Addr):Option Obj:=(Lv 5 h.objs.toList a).bind fun o=>B7 (!XK o.data) (some o)
noncomputable def toT (f:List Value→Option (List D)) (h:Heap) (a:Addr):Option D:=(EB h a).bind fun o=>B7 (FX "tuple" o.cls) ((Wn o.data).bind fun items=>(f items.toList).bind fun ds=>some (.tup ds))
mutual
noncomputable def toD:Nat→Heap→Value→Option D
 | 0,_,_=>none
 | n + 1,h,v=>match v with
  | .none=>some .non
  | .bool b=>some (.boo b)
  | .int i _=>some (.int i)
  | .str x _=>some (.str (nm x))
  | .ref a=>toT (fun vs=>KQ n h vs) h a
  | _=>none
noncomputable def KQ:Nat→Heap→List Value→Option (List D)
 | 0,_,vs=>(match vs with | []=>some [] | _::_=>none)
 | n + 1,h,vs=>(match vs with | []=>some [] | v::vs=>(toD n h v).bind fun d=>(KQ n h vs).bind fun ds=>some (d::ds))
end
noncomputable def Va:Data→Option (Array DictEntry) | .dict es _=>some es | _=>none
noncomputable def nsL:List DictEntry→Nm→Option Value
 | [],_=>none
 | e::r,x=>match Bp (ND e.key) (fun k=>Ap (nm k) x) with | true=>some e.val | false=>nsL r x
noncomputable def nsQ (h:Heap) (a:Addr) (x:Str):Option Value:=(EB h a).bind fun o=>(Va o.data).bind fun es=>nsL es.toList (nm x)
noncomputable def A0:Option Value→Addr | some (.ref a)=>a | _=>0
noncomputable def Bz (h:Heap) (a:Addr):Addr:=match EB h a with
 | some o=>(match o.data with | .cls c=>c.ns | _=>0)
 | none=>0
noncomputable def gv (h:Heap) (x:Str):Option Value:=nsQ h mainGlobals x
noncomputable def cv (h:Heap) (c x:Str):Option Value:=nsQ h (Bz h (A0 (gv h c))) x
set_option genInjectivity true in
inductive FK where
 | fn (i:Nat) | me (i j:Nat)
noncomputable def NJ:Stmt→Str | .FunctionDef n ..=>n | .ClassDef n ..=>n | _=>""
noncomputable def Xu (i:Nat):Option Stmt:=nth P.main.body i
noncomputable def Eh:FK→Option Stmt
 | .fn i=>Xu i
 | .me i j=>MJ i j
noncomputable def nameAt (i:Nat):Str:=match Xu i with | some s=>NJ s | none=>""
noncomputable def Av (h:Heap):FK→Option Value
 | .fn i=>gv h (nameAt i)
 | .me i j=>cv h (nameAt i) (match Eh (.me i j) with | some s=>NJ s | none=>"")
noncomputable abbrev Lb:=Option (FuncBody×Scope×Arguments)
noncomputable def EE (k:FK):Lb:=match (Eh k).bind K9 with
 | some q=>some (.stmts q.2.1,q.2.2,q.1)
 | none=>none
noncomputable def OK (h:Heap) (v:Option Value):Option FuncData:=v.bind fun v=>(NR v).bind fun a=>(EB h a).bind fun o=>VU o.data
noncomputable def K6:Option FuncData→Lb
 | some fd=>some (fd.body,fd.scope,fd.params)
 | none=>none
noncomputable def KZ (h:Heap):List FK→List Lb
 | []=>[]
 | k::r=>K6 (OK h (Av h k))::KZ h r
noncomputable def EA:List FK→List Lb
 | []=>[]
 | k::r=>EE k::EA r
noncomputable def YO (h:Heap) (v:Option Value):Bool:=Bp (v.bind fun v=>(NR v).bind fun a=>EB h a) fun o=>FX "function" o.cls
noncomputable def WO (h:Heap) (fd:FuncData):Bool:=Bp ((NR fd.code).bind fun c=>(EB h c).bind fun o=>(XM o.data).bind fun vs=>(vs[1]? : Option Value).bind ND) fun q=>Ap (nm q) (nm fd.qualname)
noncomputable def Hy:Value→Bool | .none=>true | _=>false
noncomputable def T6 (h:Heap) (ds:List D) (v:Value):Bool:=match Hy v with
 | true=>ds.isEmpty
 | false=>Bp ((NR v).bind fun t=>(EB h t).bind fun o=>(Wn o.data).bind fun items=>KQ 20 h items.toList) fun l=>GH l ds
noncomputable def Ca (k:FK):List D:=match (Eh k).bind K9 with
 | some q=>q.1.defaults.map dfl
 | none=>[]
noncomputable def fkB (h:Heap) (k:FK):Bool:=YO h (Av h k)&&Bp (OK h (Av h k)) fun fd=>fd.closure.isEmpty&&(Nat.beq fd.globals mainGlobals&&(Nat.beq fd.builtins builtinsNs&&(WO h fd&&T6 h (Ca k) fd.defaults)))
noncomputable def B6 (i:Nat):FK:=match Nat.ble 1000 i with | true=>.me 88 (i - 999) | false=>.fn i
noncomputable def Uk:List FK:=[38,39,40,41,43,44,45,42,47,46,48,1001,1003,1004,52,53,81,82,15,13,12,11,80,79,54,55,56,57,58,59,60,61,21,20,19,36,35,101,104,105,107,108,109,110,111,112,113,114,115].map B6
noncomputable def Ah:List FK:=[.fn 37,.fn 100,.fn 95,.fn 96,.fn 99,.fn 106,.fn 116,.me 88 1,.me 97 1,.me 85 1,.me 84 0,.me 85 0,.me 88 0,.me 94 0,.me 97 0,.me 2 0]
noncomputable def CA:List FK:=Uk++Ah
noncomputable def UO (h:Heap) (l:List FK):Bool:=l.all (fkB h)
noncomputable def WB (t:String) (l:List Value):Bool:=Bp (A2 l) fun v=>FX t v
noncomputable def SA (newId:String):List (Option Value)→Bool
 | _::_::_::_::v::r=>Bp v fun v=>MY newId v&&Nat.beq r.length 1
 | _=>false
noncomputable def RP (h:Heap) (a:Addr) (newId:String) (mro:Addr→List Value→Bool):Bool:=Bp (EB h a) fun o=>FX "type" o.cls&&(Bp (Vd o.data) (fun c=>c.hasDict&&(!c.hasDel&&(mro a c.mro&&h.isNs c.ns)))&&SA newId o.slots.toList)
noncomputable def Hx (a:Addr) (v:Value):Bool:=Bp (NR v) fun b=>Nat.beq a b
noncomputable def Sz (a:Addr):List Value→Bool
 | v::r=>Hx a v&&WB "object" r
 | []=>false
noncomputable def Ss (h:Heap) (a:Addr):Bool:=Bp (EB h a) fun o=>Bp (Vd o.data) fun c=>!c.abstract
noncomputable def Nt (hp:Addr) (a:Addr):List Value→Bool
 | v::w::v1::v2::r=>Hx a v&&(Hx hp w&&(FX "Exception" v1&&(FX "BaseException" v2&&WB "object" r)))
 | _=>false
noncomputable def Wq (h:Heap) (a:Addr):Bool:=Bp (EB h a) fun o=>Bp (Vd o.data) fun c=>h.isNs c.ns
noncomputable def VY:Nat→Str | 0=>"BITS" | _=>"UNTYPED_DEFAULTS"
noncomputable def Ei (h:Heap) (k:Nat):Addr:=A0 (gv h (VY k))
noncomputable def isD (h:Heap) (d:D):Option Value→Bool
 | some v=>(match toD 20 h v with | some d'=>same d' d | none=>false)
 | none=>false
noncomputable def T8 (h:Heap) (p:Str×D):Bool:=match p.2 with
 | .blt k=>(gv h p.1).isNone&&(match nsQ h builtinsNs p.1 with | some v=>MY (DH k) v | none=>false)
 | .ty k=>(gv h p.1).isNone&&(match nsQ h builtinsNs p.1 with | some v=>FX (Cv k) v | none=>false)
 | .dic k=>(match gv h p.1 with | some (.ref a)=>Nat.beq a (Ei h k) | _=>false)
 | .fn i=>Ap (nm p.1) (nm (nameAt i))&&(Nat.blt i 1000&&(match gv h p.1 with | some (.ref _)=>true | _=>false))
 | d=>isD h d (gv h p.1)
noncomputable def KD (h:Heap) (l:List (Str×D)):Bool:=l.all (T8 h)
noncomputable def Kt:Value→Str | .str x _=>x | _=>⟨#[]⟩
noncomputable def Jk (h:Heap):List DictEntry→List (Nm×D)→Bool
 | [],r=>(match r with | []=>true | _::_=>false)
 | e::es,r=>(match r with | q::r=>Bp (ND e.key) (fun k=>Ap (nm k) q.1)&&(isD h q.2 (some e.val)&&Jk h es r) | []=>false)
noncomputable def Tw (h:Heap) (a:Addr) (rows:List (Nm×D)):Bool:=Bp (EB h a) fun o=>(FX "dict" o.cls&&(o.dict.isNone&&o.slots.isEmpty))&&Bp (Va o.data) fun es=>Jk h es.toList rows
noncomputable def Gi (h:Heap) (a:Addr):List (Int×Str):=match EB h a with
 | some o=>(match o.data with | .dict es _=>es.toList.map fun e=>(e.hash,Kt e.key) | _=>[])
 | none=>[]
noncomputable def Bd (w:World):List Str→List (Int×Str)
 | []=>[]
 | x::r=>(hashStr w x,x)::Bd w r
noncomputable def FA:Nat→List Str
 | 0=>["int","int8","int16","int32","int64","uint","uint8","uint16","uint32","uint64"]
 | _=>["bool","int","rune","string"]
noncomputable def PS (h:Heap):Bool:=Tw h (Ei h 0) (K8 0)&&Tw h (Ei h 1) (K8 1)
noncomputable def JA (h:Heap):List (Int×Str)×List (Int×Str):=(Gi h (Ei h 0),Gi h (Ei h 1))
noncomputable def FC (h:Heap):Addr:=match OK h (Av h (.fn 106)) with
 | some fd=>(match fd.code with | .ref c=>c | _=>0)
 | none=>0
noncomputable def BV (h:Heap):Addr:=match EB h (FC h) with
 | some o=>(match o.data with | .fields vs=>(match (vs[11]? : Option Value) with | some (.ref P)=>P | _=>0) | _=>0)
 | none=>0
noncomputable def N8:Value→Bool | .int _ _=>true | _=>false
noncomputable def TQ:Value→Bool | .str _ _=>true | _=>false
noncomputable def PH:Value→Bool | .bool _=>true | _=>false
noncomputable def YK (P:Addr) (vs:Array Value):Bool :=
 Bp ((vs[11]? : Option Value).bind NR) (fun P'=>Nat.beq P' P)&&(TQ (vs.getD 18 .none)&&(N8 (vs.getD 7 .none)&&(PH (vs.getD 9 .none)&&N8 (vs.getD 10 .none))))
noncomputable def LC (h:Heap) (c P:Addr):Bool:=!Nat.beq c P&&Bp (EB h c) fun o=>FX "code" o.cls&&Bp (XM o.data) fun vs=>YK P vs
noncomputable def Gg (h:Heap) (a:Addr):Bool:=match EB h a with
 | some o=>(Hy o.cls&&(o.dict.isNone&&o.slots.isEmpty))&&(match o.data with | .fields vs=>vs.isEmpty | _=>false)
 | none=>false
noncomputable def TR:Data→Bool | .plain=>true | _=>false
noncomputable def PZ (h:Heap) (T:Addr):Bool:=match gv h "__builtins__" with
 | some (.ref bm)=>(!Nat.beq bm builtinsNs&&(!Nat.beq bm mainGlobals&&!Nat.beq bm T))&&(match EB h bm with
  | some o=>FX "module" o.cls&&((match o.dict with | some d=>Nat.beq d builtinsNs | none=>false)&&TR o.data)
  | none=>false)
 | _=>false
noncomputable def FO (h:Heap) (c:Str) (l:List Str):Bool:=l.all fun x=>(cv h c x).isNone
noncomputable def A9 (h:Heap) (c:Str):Addr:=A0 (gv h c)
noncomputable def Fw:Option Value→Bool | some (.ref _)=>true | _=>false
noncomputable def Gx (h:Heap) (c:Str) (ab:List Str):Bool:=Fw (gv h c)&&(RP h (A9 h c) "object.__new__" Sz&&(Ss h (A9 h c)&&FO h c ab))
noncomputable def WR:List Str:="__getattribute__"::"__getattr__"::"__setattr__"::BO
noncomputable def V0:List Str:="__getattribute__"::"__getattr__"::"__setattr__"::BQ
noncomputable def V8:List Str:=["__getattribute__","__setattr__","path","package","underlying","methods"]
noncomputable def V7:List Str:=["__getattribute__","__getattr__","__setattr__","outer","owner","rows"]
noncomputable def R8:List Str:=["__setattr__","name","entry","spot","owner","is_checked","is_used"]
noncomputable def Tg:List Str:=["__init__","__setattr__","message","spot"]
noncomputable def OV:List Str:=["__setattr__","message","spot"]
noncomputable def WQ (h:Heap):Bool:=Gx h "Checker" WR&&(Gx h "World" V0&&(Gx h "NamedRow" V8&&(Gx h "Scope" V7&&(Gx h "ScopeRow" R8 &&
 ((Fw (gv h "TypeFault")&&Fw (gv h "ChanError"))&&(RP h (A9 h "TypeFault") "Exception.__new__" (Nt (A9 h "ChanError"))&&(Wq h (A9 h "ChanError")&&(FO h "TypeFault" Tg&&FO h "ChanError" OV))))))))
noncomputable def E8 (o:Option Value):Bool:=o.isSome
noncomputable def V5 (o:Option Obj):Bool:=match o with | some _=>true | none=>false
noncomputable def O3 (h:Heap):Bool:=WQ h&&((LC h (FC h) (BV h)&&(Gg h (BV h)&&PZ h (BV h))) &&
 ((V5 (h.get? sysModules)&&!Nat.beq sysModules (BV h))&&(((h.isNs cStatics&&(nsQ h cStatics "sys.recursionlimit").isNone)&&(h.isNs mainGlobals&&h.isNs builtinsNs)) &&
 ((E8 (gv h "ERROR")&&(E8 (gv h "PLAIN")&&E8 (gv h "_law_int")))&&(((gv h "Exception").isNone&&(match nsQ h builtinsNs "Exception" with | some v=>FX "Exception" v | none=>false)) &&
 (isD h (.tup (Br.map IE)) (gv h "INT_KINDS")&&isD h (.tup (CM.map IE)) (gv h "BUILTINS")))))))
end
set_option maxHeartbeats 0
section
open PySem PySem.W PyProof.Rows
noncomputable def qv:Program:=view P [116]
noncomputable def C0:List PySem.Str:=P.boundNames.filter fun x=>x != ("law" : PySem.Str)
noncomputable def Mg:Env:={scope:=P.main.scope,locals:=mainNs,globals:=mainNs,cells:=[],code:=.ref 13,frame:=some 14}
noncomputable abbrev HK:Option Value:=some (.ref 6)
noncomputable abbrev Hj:List Stmt:=behindTheImports P
noncomputable abbrev c0:Code:=.body Hj Mg
noncomputable def JQ:Pos:=⟨0,0,0,0⟩
noncomputable abbrev BF0:List Frame:=[topFrame JQ]
noncomputable def S0 (w:World) (os:OsState):Shared:=⟨boot_heap w.params,Array.mk [],boot_drawn,boot_toks,os⟩
noncomputable def Sa (w:World) (os:OsState):Shared:=match topGo treeTable P w 11 HK 12 (S0 w os) (topStub P) with
 | some (s,_)=>s
 | none=>S0 w os
theorem Xw:PySem.Challenge.rw_on0049_01.wellSaid=true :=
 (congrFun Fast.te9446332074065402090 _).trans (by kernel_rfl)
theorem op:opening P=plainProg P.main.scope.names:=by kernel_rfl
theorem YL:∀ s,fenceModules? P s=some s:=by intro s;kernel_rfl
theorem Xv (w:World):((boot_heap w.params).isNs mainGlobals&&(Array.mk []:Array GenState).size == 0,(boot_heap w.params).objs.size,(boot_heap w.params).nsMap mainGlobals "__annotations__")=(true,11,HK):=by kernel_rfl
theorem pre (w:World) (os:OsState):topGo treeTable P w 11 HK 12 (S0 w os) (topStub P)=some (Sa w os,⟨denote treeTable c0,c0,JQ,BF0⟩):=by kernel_rfl
theorem YT (w:World) (os:OsState):segRun treeTable P w 11 HK 1 1 (Sa w os) (blockOf Hj Mg c0 JQ BF0)=some (.next,Sa w os,c0,JQ):=by kernel_rfl
end
section
open PySem PySem.W PyProof.Rows
noncomputable def Rt:List Obj→Nat→BT→BT
 | [],_,T=>T
 | o::l,n,T=>Rt l (n + 1) (T.ins n o)
noncomputable def StT (w:World) (os:OsState):SharedT:=⟨Rt (Sa w os).heap.objs.toList 0 .nil,15,(Sa w os).heap.life,(Sa w os).gens,(Sa w os).drawn,(Sa w os).toks,(Sa w os).os⟩
theorem Xb (w:World) (os:OsState):(StT w os).abs=Sa w os:=by kernel_rfl
noncomputable def Ii {α:Type} (Yf:Shared→α) (w:World) (r:Flow×SharedT×Code×Pos) :=
 (topRun treeTable P w 11 HK 3 r.2.1.abs ⟨doneF .next,c0,r.2.2.2,BF0⟩).map fun s=>
  (staticsOk (importedModules P.main.body) (boot_heap w.params) s.heap&&namesBound P s.heap&&gensDone s&&laidKept (boot_heap w.params) s.heap,openSeen qv C0 (importedModules P.main.body) (fun zz=>true) true s,Yf s)
noncomputable def Yf (s:Shared):=(KZ s.heap CA,(UO s.heap CA&&(KD s.heap (BK++Cp P.main.body 0)&&(PS s.heap&&O3 s.heap))),JA s.heap)
noncomputable def Ya (w:World):=(EA CA,true,(Bd w (FA 0),Bd w (FA 1)))
theorem Yk (w:World) (os:OsState):(segRunT treeTable P (w.withFollow "special-get-raises" false) 11 HK 1 7000 (StT (w.withFollow "special-get-raises" false) os) (piecesOf Hj Mg c0 JQ BF0)).map (fun r=>(r.1,r.2.2.1,Ii Yf (w.withFollow "special-get-raises" false) r)) =
  some (.next,c0,some (true,openGood qv C0,Ya (w.withFollow "special-get-raises" false))):=by
 rw [Fast.te10110043849684766642,Fast.te14364793385576792824]
 kernel_rfl
end
section
open PySem PySem.W PyProof.Rows
theorem Yj (w:World) (os:OsState):(segRunT treeTable P (w.withFollow "special-get-raises" true) 11 HK 1 7000 (StT (w.withFollow "special-get-raises" true) os) (piecesOf Hj Mg c0 JQ BF0)).map (fun r=>(r.1,r.2.2.1,Ii Yf (w.withFollow "special-get-raises" true) r)) =
  some (.next,c0,some (true,openGood qv C0,Ya (w.withFollow "special-get-raises" true))):=by
 rw [Fast.te10110043849684766642,Fast.te14364793385576792824]
 kernel_rfl
end
section
theorem Xr:B0 0 40=true:=by decide +kernel
end
section
theorem Xq:B0 40 40=true:=by decide +kernel
end
section
theorem Xp:B0 80 40=true:=by decide +kernel
end
section
theorem Xo:B0 120 40=true:=by decide +kernel
end
section
theorem Xn:B0 160 40=true:=by decide +kernel
end
section
theorem Xm:B0 200 40=true:=by decide +kernel
end
section
theorem Xl:B0 240 40=true:=by decide +kernel
end
section
theorem Xk:B0 280 40=true:=by decide +kernel
end
section
theorem Y4:HE=true:=by decide +kernel
theorem Y1:HD=true:=by decide +kernel
end
set_option hygiene false
local macro_rules
 | `(tactic| exact nomatch $h:ident)=>`(tactic| first
   | exact nsF $h
   | exact snF $h
   | exact ffF $h
   | exact (nomatch $h))
local macro_rules
 | `(tactic| cases $h:ident)=>`(tactic| first
   | exact nsF $h
   | exact snF $h
   | exact ffF $h
   | exact tfF $h
   | subst $h
   | (have zx:=AB $h;revert zx;(try clear $h);intro zx;cases zx)
   | (have zx:=pI1 $h;revert zx;have zx:=pI2 $h;revert zx;(try clear $h);intro zy zx;cases zx;cases zy)
   | (exfalso;cases ($h);done)
   | (rcases $h:ident with ⟨⟩)
   | cases ($h))
local macro_rules
 | `(tactic| obtain ⟨$ps,*⟩:=$e:term)=>do
  let b:=match e.raw.getId with | .str p "inv"=>p | x=>x
  let isId:=e.raw.isIdent
  let e1:Lean.TSyntax `term:=if isId then Lean.mkIdent (if e.raw.getId == b then `h__e else `h__e.inv) else e
  let mut xs:Array (Lean.TSyntax `term):=#[]
  let mut pre:Array (Lean.TSyntax `tactic):=#[]
  let mut post:Array (Lean.TSyntax `tactic):=#[]
  if isId then
   pre:=pre.push (←`(tactic| (revert $(Lean.mkIdent b):ident;intro h__e)))
   post:=post.push (←`(tactic| try clear h__e))
  for p in ps.getElems do
   let x:=if p.raw[0][0].getNumArgs > 1 then p.raw else p.raw[0][0][0]
   let y:=if x.getKind == `Lean.Parser.Tactic.rcasesPat.one&&x[0].getId != `rfl then x[0] else (Lean.mkIdent (.mkSimple s!"h{xs.size}__")).raw
   if x.getKind == `Lean.Parser.Tactic.rcasesPat.ignore then xs:=xs.push (Lean.mkIdent `zz)
   else
    xs:=xs.push ⟨y⟩
    if x.getKind != `Lean.Parser.Tactic.rcasesPat.one then post:=post.push (←`(tactic| obtain $(⟨p.raw[0]⟩):rcasesPatMed:=$(⟨y⟩):ident))
    else if x[0].getId == `rfl then post:=post.push (←`(tactic| cases $(⟨y⟩):ident))
  let k←`(fun $xs*=>?_)
  let mut alts:Array (Lean.TSyntax `Lean.Parser.Tactic.tacticSeq):=#[]
  for i in [0:5] do
   let all:=(pre.push (←`(tactic| refine $(Lean.mkIdent (.mkSimple s!"ea{i}_{xs.size - i}")) $e1 $k)))++post
   alts:=alts.push (←`(tacticSeq| $all;*))
  `(tactic| first $[| $alts]* | rcases $e:term with ⟨$ps,*⟩)
local macro_rules
 | `(tactic| cases $h:ident $a:inductionAlts)=>`(tactic| first
   | induction $h:ident using Option.casesOn $a:inductionAlts
   | induction $h:ident using List.casesOn $a:inductionAlts
   | induction $h:ident using Nat.casesOn $a:inductionAlts
   | induction $h:ident using Mine.D.casesOn $a:inductionAlts
   | induction $h:ident $a:inductionAlts
   | cases ($h) $a:inductionAlts)
 | `(tactic| cases $x:ident : $e:term $a:inductionAlts)=>
  if e.raw.getKind == ``Lean.Parser.Term.paren then Lean.Macro.throwUnsupported else
  `(tactic| first
   | (generalize $x:ident : $e=x__;cases x__ $a:inductionAlts)
   | cases $x:ident:($e) $a:inductionAlts)
 | `(tactic| cases $x:ident : $e:term)=>
  if e.raw.getKind == ``Lean.Parser.Term.paren then Lean.Macro.throwUnsupported else
  `(tactic| first
   | (rcases $x:ident : $e:term with ⟨⟩)
   | cases $x:ident:($e))
 | `(tactic| cases $e:term $a:inductionAlts)=>
  if e.raw.getKind == ``Lean.Parser.Term.paren then Lean.Macro.throwUnsupported else
  `(tactic| first
   | (generalize $(e):term=x__;cases x__ $a:inductionAlts)
   | cases ($e) $a:inductionAlts)
set_option hygiene true
section
open PySem PySem.W
structure Wd where
 nu:List Nat
 pins:Frag
structure Bs where
 w:World
 h0:Heap
 S:Addr
 g:Array GenState
 d:Drawn
 os:OsState
 fnA:Nat→Addr
 dicA:Nat→Addr
 ChkP:Frag→Addr→Prop
 WldP:Frag→Addr→Prop
 G:List (Nm×D)
 mg:SV
 mb:SV
variable (B:Bs)
mutual
inductive Rd (W:Wd) (h:Heap):D→Value→Prop
 | non:Rd W h .non .none
 | boo (b:Bool):Rd W h (.boo b) (.bool b)
 | int (n:Int) (t:Tok):Rd W h (.int n) (.int n t)
 | str (x:Str) (t:Tok) (l:List Nat):nm x=l→Rd W h (.str l) (.str x t)
 | byt (b:Array UInt8) (t:Tok) (l:List Nat):b.toList.map (·.toNat)=l→Rd W h (.byt l) (.bytes b t)
 | tup (a:Addr) (vs:Array Value) (ds:List D):h.IsTuple a vs→RdL W h ds vs.toList→Rd W h (.tup ds) (.ref a)
 | lst (a:Addr) (vs:Array Value) (ds:List D):a≠B.S→h.IsList a vs→RdL W h ds vs.toList→Rd W h (.lst ds) (.ref a)
 | src:Rd W h .src (.ref B.S)
 | chk (a:Addr):B.ChkP W.pins a→Rd W h .chk (.ref a)
 | wld (a:Addr):B.WldP W.pins a→Rd W h .wld (.ref a)
 | fn (i:Nat):Rd W h (.fn i) (.ref (B.fnA i))
 | blt (k:Nat):Rd W h (.blt k) (.builtin (DH k))
 | ty (k:Nat):Rd W h (.ty k) (.type (Cv k))
 | dic (k:Nat):Rd W h (.dic k) (.ref (B.dicA k))
 | pick (k i:Nat) (ds:List D) (d:D) (v:Value):W.nu[k]? = some i→nth ds i=some d→Rd W h d v→Rd W h (.pick k ds) v
inductive RdL (W:Wd) (h:Heap):List D→List Value→Prop
 | nil:RdL W h [] []
 | cons (d:D) (v:Value) (ds:List D) (vs:List Value):Rd W h d v→RdL W h ds vs→RdL W h (d::ds) (v::vs)
end
structure Fv where
 env:Env
 stack:List Env
 own:List Addr
 A:Around
 base:Heap
 isFn:Bool
noncomputable def Fv.fr (F:Fv):List Addr:=F.stack.filterMap (·.frame)
noncomputable def DA (env:Env) (h:Heap) (x:Str) (v:Value):Prop :=
 (env.kindOf x=some .local∧∃ m,h.Ns env.locals m∧m x=some v)∨
 ((env.kindOf x=some .cell∨env.kindOf x=some .free)∧∃ c,env.cells.lookup x=some c∧h.IsCell c (some v))
noncomputable def Xa (F:Fv) (W:Wd) (h:Heap) (ρ:Rho):Prop:=∀ x d,Ay (nm x) ρ=some d→∃ v,DA F.env h x v∧Rd B W h d v
noncomputable def Gj (nu:List Nat) (c:(Cm×D×D)×Bool):Prop:=match pickOf c.1.2.1,pickOf c.1.2.2 with
 | some p,some q=>∃ i j n m,nu[p.1]? = some i∧nu[q.1]? = some j∧nth p.2 i=some (.int n)∧nth q.2 j=some (.int m)∧RO c.1.1 n m=some c.2
 | _,_=>False
structure Mz (nu:List Nat) (σ:St):Prop where
 len:nu.length=σ.next
 cand:∀ k l,Bt k σ.cand=some l→∃ i,nu[k]? = some i∧i∈l
 cmps:∀ c∈σ.cmps,Gj nu c
structure Xc (B:Bs) (F:Fv):Prop where
 kind:F.env.scope.kind=.function
 glob:F.env.globals=mainGlobals
 bltn:F.env.builtins=builtinsNs
 frame:∃ e0 rest,F.stack=e0::rest∧e0.frame=F.env.frame∧∃ L,F.env.frame=some L
 loc:F.env.locals∈F.own
 apart:∀ x c,F.env.cells.lookup x=some c→c≠F.env.locals
 inj:∀ x y c,F.env.cells.lookup x=some c→F.env.cells.lookup y=some c→x=y
 nofree:F.isFn=true→∀ x,F.env.kindOf x≠some .free
 cell:F.isFn=true→∀ x,F.env.kindOf x=some .cell→∃ c,F.env.cells.lookup x=some c∧c∈F.own
 frames:F.A.frames=some F.stack
 handled:F.A.handled=none
 b0:B.h0.StaysIn F.base
 sfr:B.S∉F.fr
structure Good (F:Fv) (W:Wd) (σ:St) (s:Shared):Prop where
 ok:Xc B F
 dep:σ.dep≤40
 depth:F.A.depth≤310 + 3 * σ.dep
 units:F.A.units≤20 + 20 * σ.dep
 stay0:B.h0.StaysIn s.heap
 stayB:F.base.StaysIn s.heap
 frames:s.heap.FunFrames F.base F.stack
 ns:∃ m,s.heap.Ns F.env.locals m
 cells:∀ x c,F.env.cells.lookup x=some c→∃ ov,s.heap.IsCell c ov
 own:∀ a∈F.own,(∃ o,s.heap.get? a=some o∧(∀ vs n,o.data≠.seq vs n)∧∀ vs,o.data≠.fields vs)∧B.h0.get? a=none∧F.base.get? a=none
 src:(∃ vs,s.heap.PlainList B.S vs∧∃ x y t u,vs=#[.int x t,.int y u]∧0≤x∧0≤y∧y < 2147483648)∧B.h0.get? B.S=none∧(σ.lock=false→F.base.get? B.S=none)
 pins:∀ p∈W.pins,s.heap.get? p.1=some p.2∧p.1∉F.own∧p.1≠B.S∧p.1∉F.fr
 vars:Xa B F W s.heap σ.rho
 picks:Mz W.nu σ
 rest:s.gens=B.g∧s.drawn=B.d∧s.os=B.os
noncomputable def F4 (own fr:List Addr) (S:Addr) (h h':Heap):Prop :=
 ∀ b o,h.get? b=some o→b∉own→b≠S→(b∉fr→h'.get? b=some o)∧∃ sl,h'.get? b=some {o with slots:=sl}
structure Step (F:Fv) (W:Wd) (h:Heap) (W':Wd) (h':Heap):Prop where
 nu:W.nu<+:W'.nu
 pins:∀ p∈W.pins,p∈W'.pins
 fresh:∀ p∈W'.pins,p∈W.pins
 keep:F4 F.own F.fr B.S h h'
theorem F4.refl (own fr:List Addr) (S:Addr) (h:Heap):F4 own fr S h h:=fun b o e zz zz=>⟨fun zz=>e,o.slots,e⟩
theorem F4.trans {own fr:List Addr} {S:Addr} {h₁ h₂ h₃:Heap} (x:F4 own fr S h₁ h₂) (y:F4 own fr S h₂ h₃):F4 own fr S h₁ h₃:=fun b o e n1 n2=>by
 obtain ⟨a1,sl,a2⟩:=x b o e n1 n2
 obtain ⟨b1,sl',b2⟩:=y b _ a2 n1 n2
 exact ⟨fun n=>(y b o (a1 n) n1 n2).1 n,sl',b2⟩
theorem Step.refl {F:Fv} {W:Wd} {h:Heap}:Step B F W h W h:=⟨List.prefix_refl _,fun zz h=>h,fun zz h=>h,F4.refl _ _ _ _⟩
theorem Step.trans {F:Fv} {W₁ W₂ W₃:Wd} {σ:St} {s₂:Shared} {h₁ h₃:Heap} (x:Step B F W₁ h₁ W₂ s₂.heap) (G:Good B F W₂ σ s₂) (y:Step B F W₂ s₂.heap W₃ h₃):Step B F W₁ h₁ W₃ h₃ :=
 ⟨x.nu.trans y.nu,fun p hp=>y.pins p (x.pins p hp),fun p hp=>x.fresh p (y.fresh p hp),x.keep.trans y.keep⟩
structure AK:Prop where
 chk:∀ p q a,(∀ x∈p,x∈q)→B.ChkP p a→B.ChkP q a
 wld:∀ p q a,(∀ x∈p,x∈q)→B.WldP p a→B.WldP q a
 hmg:B.h0.Ns mainGlobals B.mg
 hmb:B.h0.Ns builtinsNs B.mb
 glob:∀ x d,Dg (nm x) B.G=some d→∃ v,(B.mg x=some v∨(B.mg x=none∧B.mb x=some v))∧∀ W h,B.h0.StaysIn h→Rd B W h d v
theorem Cy {l l':List Nat} (h:l<+:l') {k i:Nat} (e:l[k]? = some i):l'[k]? = some i:=by
 obtain ⟨t,rfl⟩:=h
 rw [List.getElem?_append_left (List.getElem?_eq_some_iff.mp e).1];exact e
noncomputable def RdI (W:Wd) (h:Heap):D→Value→Prop
 | .non,v=>v=.none
 | .boo b,v=>v=.bool b
 | .int n,v=>∃ t,v=.int n t
 | .str l,v=>∃ x t,v=.str x t∧nm x=l
 | .byt l,v=>∃ b t,v=.bytes b t∧b.toList.map (·.toNat)=l
 | .tup ds,v=>∃ a vs,v=.ref a∧h.IsTuple a vs∧RdL B W h ds vs.toList
 | .lst ds,v=>∃ a vs,v=.ref a∧a≠B.S∧h.IsList a vs∧RdL B W h ds vs.toList
 | .src,v=>v=.ref B.S
 | .chk,v=>∃ a,v=.ref a∧B.ChkP W.pins a
 | .wld,v=>∃ a,v=.ref a∧B.WldP W.pins a
 | .fn i,v=>v=.ref (B.fnA i)
 | .blt k,v=>v=.builtin (DH k)
 | .ty k,v=>v=.type (Cv k)
 | .dic k,v=>v=.ref (B.dicA k)
 | .pick k ds,v=>∃ i d,W.nu[k]? = some i∧nth ds i=some d∧Rd B W h d v
noncomputable def YZ (W:Wd) (h:Heap):List D→List Value→Prop
 | [],vs=>vs=[]
 | d::ds,vs=>∃ v us,vs=v::us∧Rd B W h d v∧RdL B W h ds us
theorem JV {nu nu':List Nat} (h:nu<+:nu') {c:(Cm×D×D)×Bool} (x:Gj nu c):Gj nu' c:=by
 unfold Gj at x ⊢
 revert x
 cases pickOf c.1.2.1 with
 | none=>exact id
 | some p=>
  cases pickOf c.1.2.2 with
  | none=>exact id
  | some q=>
   intro x
   obtain ⟨i,j,n,m,h1,h2,h3⟩:=x
   exact ⟨i,j,n,m,Cy h h1,Cy h h2,h3⟩
variable {B}
theorem Rd.inv {W:Wd} {h:Heap} {d:D} {v:Value} (r:Rd B W h d v):RdI B W h d v :=
 Rd.casesOn (motive_1:=fun d v zz=>RdI B W h d v) r rfl (fun zz=>rfl) (fun zz t=>⟨t,rfl⟩) (fun x t zz e=>⟨x,t,rfl,e⟩) (fun x t zz e=>⟨x,t,rfl,e⟩)
  (fun a vs zz x r=>⟨a,vs,rfl,x,r⟩) (fun a vs zz n x r=>⟨a,vs,rfl,n,x,r⟩) rfl (fun a x=>⟨a,rfl,x⟩) (fun a x=>⟨a,rfl,x⟩) (fun zz=>rfl) (fun zz=>rfl) (fun zz=>rfl) (fun zz=>rfl)
  (fun zz i zz d zz e n r=>⟨i,d,e,n,r⟩)
theorem RdL.inv {W:Wd} {h:Heap} {ds:List D} {vs:List Value} (r:RdL B W h ds vs):YZ B W h ds vs :=
 RdL.casesOn (motive_2:=fun ds vs zz=>YZ B W h ds vs) r rfl (fun zz v zz us x r=>⟨v,us,rfl,x,r⟩)
theorem Rd.mono (b:AK B) {W W':Wd} {h h':Heap} (hn:W.nu<+:W'.nu) (hp:∀ p∈W.pins,p∈W'.pins)
  (ht:∀ a vs,h.IsTuple a vs→h'.IsTuple a vs) (hl:∀ a vs,a≠B.S→h.IsList a vs→h'.IsList a vs) {d:D} {v:Value} (r:Rd B W h d v):Rd B W' h' d v :=
 Rd.rec (motive_1:=fun d v zz=>Rd B W' h' d v) (motive_2:=fun ds vs zz=>RdL B W' h' ds vs) .non .boo .int .str .byt (fun a vs ds x zz r=>.tup a vs ds (ht _ _ x) r)
  (fun a vs ds n x zz r=>.lst a vs ds n (hl _ _ n x) r) .src (fun a x=>.chk a (b.chk _ _ _ hp x)) (fun a x=>.wld a (b.wld _ _ _ hp x)) .fn .blt .ty .dic
  (fun k i ds d v e n zz r=>.pick k i ds d v (Cy hn e) n r) .nil (fun d v ds vs zz zz x r=>.cons d v ds vs x r) r
theorem RdL.keep {W W':Wd} {h h':Heap} {ds:List D}:∀ {vs:List Value},(∀ d∈ds,∀ v,Rd B W h d v→Rd B W' h' d v)→RdL B W h ds vs→RdL B W' h' ds vs:=by
 induction ds with
 | nil=>
  intro _ _ r
  rw [r.inv];exact .nil
 | cons d ds ih=>
  intro _ k r
  obtain ⟨v,us,e,x,r⟩:=r.inv
  rw [e]
  exact .cons _ _ _ _ (k d (.head _) v x) (ih (fun d hd=>k d (.tail _ hd)) r)
theorem RdL.mono (b:AK B) {W W':Wd} {h h':Heap} (hn:W.nu<+:W'.nu) (hp:∀ p∈W.pins,p∈W'.pins)
  (ht:∀ a vs,h.IsTuple a vs→h'.IsTuple a vs) (hl:∀ a vs,a≠B.S→h.IsList a vs→h'.IsList a vs) {ds:List D} {vs:List Value}:RdL B W h ds vs→RdL B W' h' ds vs:=RdL.keep fun zz zz zz x=>x.mono b hn hp ht hl
theorem Fu {own fr:List Addr} {h h':Heap} (k:F4 own fr B.S h h') (hown:∀ a∈own,∃ o,h.get? a=some o∧∀ vs n,o.data≠.seq vs n)
  (hS:∃ o,h.get? B.S=some o∧o.cls=.type "list") {a:Addr} {vs:Array Value} (x:h.IsTuple a vs):h'.IsTuple a vs:=by
 obtain ⟨o,ho,hc,n,hd⟩:=x
 obtain ⟨_,sl,e⟩:=k a o ho (fun m=>by obtain ⟨o',ho',hn⟩:=hown a m;rw [ho] at ho';cases ho';exact hn _ _ hd)
  (fun m=>by subst m;obtain ⟨o',ho',hn⟩:=hS;rw [ho] at ho';cases ho';rw [hc] at hn;exact absurd hn (by decide))
 exact ⟨_,e,hc,n,hd⟩
theorem G7 {own fr:List Addr} {h h':Heap} (k:F4 own fr B.S h h') (hown:∀ a∈own,∃ o,h.get? a=some o∧∀ vs n,o.data≠.seq vs n)
  {a:Addr} {vs:Array Value} (ha:a≠B.S) (x:h.IsList a vs):h'.IsList a vs:=by
 obtain ⟨o,ho,hc,n,hd⟩:=x
 obtain ⟨_,sl,e⟩:=k a o ho (fun m=>by obtain ⟨o',ho',hn⟩:=hown a m;rw [ho] at ho';cases ho';exact hn _ _ hd) ha
 exact ⟨_,e,hc,n,hd⟩
section
variable {F:Fv} {W W':Wd} {σ σ':St} {s s':Shared}
theorem Good.srcList (G:Good B F W σ s):∃ o,s.heap.get? B.S=some o∧o.cls=.type "list":=by
 obtain ⟨⟨vs,⟨n,e⟩,_⟩,_⟩:=G.src
 exact ⟨_,e,rfl⟩
theorem Good.rd (b:AK B) (G:Good B F W σ s) {h':Heap} (k:Step B F W s.heap W' h') {d:D} {v:Value} (x:Rd B W s.heap d v):Rd B W' h' d v :=
 Rd.mono b k.nu k.pins (fun zz zz=>Fu k.keep (fun a m=>let ⟨⟨o,e,n,_⟩,_⟩:=G.own a m;⟨o,e,n⟩) G.srcList)
  (fun zz zz=>G7 k.keep (fun a m=>let ⟨⟨o,e,n,_⟩,_⟩:=G.own a m;⟨o,e,n⟩)) x
theorem Good.rdL (b:AK B) (G:Good B F W σ s) {h':Heap} (k:Step B F W s.heap W' h') {ds:List D} {vs:List Value} (x:RdL B W s.heap ds vs):RdL B W' h' ds vs :=
 RdL.mono b k.nu k.pins (fun zz zz=>Fu k.keep (fun a m=>let ⟨⟨o,e,n,_⟩,_⟩:=G.own a m;⟨o,e,n⟩) G.srcList)
  (fun zz zz=>G7 k.keep (fun a m=>let ⟨⟨o,e,n,_⟩,_⟩:=G.own a m;⟨o,e,n⟩)) x
theorem DA.grow {env:Env} {h h':Heap} {x:Str} {v:Value} (k:∀ b o,h.get? b=some o→h'.get? b=some o) (y:DA env h x v):DA env h' x v:=by
 rcases y with ⟨a,m,n,e⟩ | ⟨a,c,e,n⟩
 ·exact .inl ⟨a,m,n.keeps k,e⟩
 ·exact .inr ⟨a,c,e,n.keeps k⟩
theorem Good.grow (b:AK B) (G:Good B F W σ s) {h':Heap} {t:Nat} (k:∀ b o,s.heap.get? b=some o→h'.get? b=some o) :
  Good B F W σ {s with heap:=h',toks:=t}∧Step B F W s.heap W h':=by
 have st:Step B F W s.heap W h':=⟨List.prefix_refl _,fun zz h=>h,fun zz h=>h,fun c o e zz zz=>⟨fun zz=>k c o e,o.slots,k c o e⟩⟩
 refine ⟨{ok:=G.ok,dep:=G.dep,depth:=G.depth,units:=G.units,stay0:=fun c o e=>k c o (G.stay0 c o e),stayB:=fun c o e=>k c o (G.stayB c o e),frames:=?_,ns:=?_,cells:=?_,own:=?_,src:=?_,pins:=?_,vars:=?_,picks:=G.picks,rest:=G.rest},st⟩
 ·exact G.frames.of_keeps fun c o e zz=>⟨o,k c o e,rfl⟩
 ·obtain ⟨m,n⟩:=G.ns;exact ⟨m,n.keeps k⟩
 ·intro x c e;obtain ⟨ov,n⟩:=G.cells x c e;exact ⟨ov,n.keeps k⟩
 ·intro a m;obtain ⟨⟨o,e,n⟩,r⟩:=G.own a m;exact ⟨⟨o,k _ _ e,n⟩,r⟩
 ·obtain ⟨⟨vs,⟨n,e⟩,r⟩,q⟩:=G.src;exact ⟨⟨vs,⟨n,k _ _ e⟩,r⟩,q⟩
 ·intro p hp;obtain ⟨e,r⟩:=G.pins p hp;exact ⟨k _ _ e,r⟩
 ·intro x d e;obtain ⟨v,y,r⟩:=G.vars x d e;exact ⟨v,y.grow k,G.rd b st r⟩
theorem Good.tok (b:AK B) (G:Good B F W σ s) {t:Nat}:Good B F W σ {s with toks:=t}:=(G.grow b (h':=s.heap) (t:=t) fun zz zz e=>e).1
end
end
section
open PySem PySem.W
variable {B:Bs} {F:Fv}
structure Flt (B:Bs) where
 cls:Value
noncomputable def LU (own:List Addr) (S:Addr) (h h':Heap):Prop :=
 ∀ b o,h.get? b=some o→b∉own→b≠S→(∀ vs,o.data≠.fields vs)→∃ sl,h'.get? b=some {o with slots:=sl}
noncomputable def F5 (base:Heap) (l:List Env) (fr:Option Addr) (e:Addr) (cls:Value) (h:Heap):Prop :=
 (base.StaysIn h∧base.get? e=none∧h.FunFrames base l∧∃ oe vs a0,h.get? e=some oe∧oe.cls=cls∧oe.data=.fields vs∧vs[1]? = some .none∧vs[0]? = some a0)∨
 (∃ a0,Heap.FlyingW base l e cls a0 h)∨(∃ a0 L,fr=some L∧Heap.HeldW base l e cls a0 L h)
structure Fly (B:Bs) (C:Value) (F:Fv) (W:Wd) (h:Heap) (σ:St) (e:Value) (s:Shared):Prop where
 exc:∃ a,e=.ref a∧F5 F.base F.stack F.env.frame a C s.heap
 picks:∃ nu,W.nu<+:nu∧Mz nu σ
 rest:s.gens=B.g∧s.drawn=B.d∧s.os=B.os
 up:LU F.own B.S h s.heap
 ns:∃ m,s.heap.Ns F.env.locals m
 cells:∀ x c,F.env.cells.lookup x=some c→∃ ov,s.heap.IsCell c ov
 own:∀ a∈F.own,∃ o,s.heap.get? a=some o∧(∀ vs n,o.data≠.seq vs n)∧∀ vs,o.data≠.fields vs
noncomputable abbrev mdl (B:Bs):Model:=model P B.w
theorem MZ {α:Type} {M:Model} {A:Around} {t:Sem α} {s:Shared} {Q0:α→Shared→Prop} {E0:VP}
  (h:∀ (Q:α→Shared→Prop) (E:VP),(∀ v s',Q0 v s'→Q v s')→(∀ e s',E0 e s'→E e s')→wpAny M A t Q E s):wpAny M A t Q0 E0 s:=h Q0 E0 (fun zz zz=>id) fun zz zz=>id
inductive OkP {α β:Type} (B:Bs) (F:Fv) (W:Wd) (h:Heap) (outs:List (Out β×St)) (R:Wd→Heap→β→α→Prop) (v:α) (s':Shared):Prop
 | mk (b:β) (W':Wd) (σ':St) (hin:(Out.ok b,σ')∈outs) (G:Good B F W' σ' s') (st:Step B F W h W' s'.heap) (r:R W' s'.heap b v)
inductive FlP {β:Type} (B:Bs) (C:Value) (F:Fv) (W:Wd) (h:Heap) (outs:List (Out β×St)) (e:Value) (s':Shared):Prop
 | mk (σ':St) (hin:(Out.fault,σ')∈outs) (fl:Fly B C F W h σ' e s')
theorem OkP.sub {α β:Type} {B:Bs} {F:Fv} {W:Wd} {h:Heap} {o outs:List (Out β×St)} {R:Wd→Heap→β→α→Prop} {v:α} {s':Shared} (x:OkP B F W h o R v s') (hs:∀ y∈o,y∈outs):OkP B F W h outs R v s' :=
 x.casesOn fun b W' σ' i G st r=>⟨b,W',σ',hs _ i,G,st,r⟩
theorem FlP.sub {β:Type} {B:Bs} {C:Value} {F:Fv} {W:Wd} {h:Heap} {o outs:List (Out β×St)} {e:Value} {s':Shared} (x:FlP B C F W h o e s') (hs:∀ y∈o,y∈outs):FlP B C F W h outs e s' :=
 x.casesOn fun σ' i f=>⟨σ',hs _ i,f⟩
noncomputable def Ok {α β:Type} (B:Bs) (C:Value) (F:Fv) (W:Wd) (σ:St) (s:Shared) (t:Sem α) (m:M β) (R:Wd→Heap→β→α→Prop):Prop :=
 Good B F W σ s→∀ outs,m σ=some outs→
  wpAny (mdl B) F.A t
   (OkP B F W s.heap outs R) (FlP B C F W s.heap outs) s
variable {C:Value} {W:Wd} {σ:St} {s:Shared} {α β γ δ:Type}
theorem Mu {f:β→M δ} {l:List (Out β×St)} {outs:List (Out δ×St)} (h:BS f l=some outs) {p:Out β×St} (hm:p∈l):∃ o,JR f p=some o∧∀ x∈o,x∈outs:=by
 induction l generalizing outs with
 | nil=>cases hm
 | cons q r ih=>
  refine AO h fun x hx h=>AO h fun l hl h=>?_
  rw [←AB h]
  rcases List.mem_cons.mp hm with e | hm
  ·exact ⟨x,e▸hx,fun y hy=>List.mem_append_left _ hy⟩
  ·obtain ⟨o,a,q⟩:=ih hl hm
   exact ⟨o,a,fun y hy=>List.mem_append_right _ (q y hy)⟩
theorem AZ {f:β→M δ} {l:List (Out β×St)} {outs:List (Out δ×St)} (h:BS f l=some outs) {b:β} {σ':St} (hm:(Out.ok b,σ')∈l):∃ o,f b σ'=some o∧∀ x∈o,x∈outs:=Mu h hm
theorem AQ {f:β→M δ} {l:List (Out β×St)} {outs:List (Out δ×St)} (h:BS f l=some outs) {σ':St} (hm:(Out.fault,σ')∈l):(Out.fault,σ')∈outs:=by
 obtain ⟨o,a,q⟩:=Mu h hm
 exact q _ (AB a▸.head _)
theorem LU.of_keep {own fr:List Addr} {S:Addr} {h₁ h₂ h₃:Heap} (k:F4 own fr S h₁ h₂) (u:LU own S h₂ h₃):LU own S h₁ h₃:=fun b o e n1 n2 nf=>by
 obtain ⟨_,sl,e2⟩:=k b o e n1 n2
 obtain ⟨sl',e3⟩:=u b _ e2 n1 n2 nf
 exact ⟨sl',e3⟩
theorem Fly.of_step {W':Wd} {σ':St} {e:Value} {s' s₁:Shared} (x:Fly B C F W' s₁.heap σ' e s') (st:Step B F W s.heap W' s₁.heap):Fly B C F W s.heap σ' e s':=by
 obtain ⟨nu,h4,h5⟩:=x.picks
 exact ⟨x.exc,⟨nu,st.nu.trans h4,h5⟩,x.rest,LU.of_keep st.keep x.up,x.ns,x.cells,x.own⟩
theorem Ok.bind {t:Sem α} {m:M β} {R:Wd→Heap→β→α→Prop} {f:α→Sem γ} {g:β→M δ} {R':Wd→Heap→δ→γ→Prop}
  (h1:Ok B C F W σ s t m R)
  (h2:∀ b v W' σ' s',Good B F W σ s→Step B F W s.heap W' s'.heap→R W' s'.heap b v→Ok B C F W' σ' s' (f v) (g b) R') :
  Ok B C F W σ s (t>>=f) (m>>=g) R':=fun G outs ho=>by
 change (match m σ with | some l=>BS g l | none=>none)=some outs at ho
 cases hm:m σ with
 | none=>rw [hm] at ho;cases ho
 | some l=>
  rw [hm] at ho
  refine AA (AH (h1 G l hm) (fun v s' h=>?_) (fun e s' h=>?_))
  ·obtain ⟨b,W',σ',hin,G',st,r⟩:=h
   obtain ⟨o,hf,hsub⟩:=AZ ho hin
   refine AH (h2 b v W' σ' s' G st r G' o hf) (fun v2 s2 h=>?_) (fun e s2 h=>?_)
   ·obtain ⟨b2,W2,σ2,hin2,G2,st2,r2⟩:=h
    exact ⟨b2,W2,σ2,hsub _ hin2,G2,st.trans B G' st2,r2⟩
   ·obtain ⟨σ2,hin2,fl⟩:=h
    exact ⟨σ2,hsub _ hin2,fl.of_step st⟩
  ·obtain ⟨σ',hin,fl⟩:=h
   exact ⟨σ',AQ ho hin,fl⟩
theorem Ok.mono {t:Sem α} {m:M β} {R R':Wd→Heap→β→α→Prop} (h:Ok B C F W σ s t m R) (hR:∀ W h b v,R W h b v→R' W h b v):Ok B C F W σ s t m R' :=
 fun G outs ho=>AH (h G outs ho) (fun v s' x=>x.casesOn fun b W' σ' a c d r=>⟨b,W',σ',a,c,d,hR _ _ _ _ r⟩) fun zz zz x=>x
theorem Ok.pure {a:α} {b:β} {R:Wd→Heap→β→α→Prop} (h:Good B F W σ s→R W s.heap b a):Ok B C F W σ s (pure a) (pure b) R:=fun G outs ho=>by
 cases ho
 exact AD ⟨b,W,σ,.head _,G,Step.refl B,h G⟩
theorem Ok.bad {t:Sem α} {R:Wd→Heap→β→α→Prop}:Ok B C F W σ s t (bad:M β) R:=fun G outs ho=>by cases ho
theorem Ok.holding {vs:List Value} {t:Sem α} {m:M β} {R:Wd→Heap→β→α→Prop} (h:Ok B C F W σ s t m R):Ok B C F W σ s (PySem.holding vs t) m R :=
 fun G outs ho=>AG (h G outs ho)
theorem Ok.eq {t t':Sem α} {m m':M β} {R:Wd→Heap→β→α→Prop} (h:Ok B C F W σ s t m R) (e:t'=t) (e':m'=m):Ok B C F W σ s t' m' R:=by subst e;subst e';exact h
theorem Ok.skip {t:Sem α} {f:α→Sem γ} {m:M β} {R:Wd→Heap→β→γ→Prop} (v:α) (ht:∀ Q E,Q v s→wpAny (mdl B) F.A t Q E s) (h:Ok B C F W σ s (f v) m R) :
  Ok B C F W σ s (t>>=f) m R:=fun G outs ho=>AA (ht _ _ (h G outs ho))
theorem Ok.at {p:Pos} {f:Unit→Sem γ} {m:M β} {R:Wd→Heap→β→γ→Prop} (h:Ok B C F W σ s (f ()) m R):Ok B C F W σ s (standAt p>>=f) m R :=
 Ok.skip () (fun Q E h=>wpAny_standAt h) h
theorem Ok.map {t:Sem α} {f:α→γ} {m:M β} {R:Wd→Heap→β→γ→Prop} (h:Ok B C F W σ s t m (fun W h b v=>R W h b (f v))):Ok B C F W σ s (t>>=fun v=>Pure.pure (f v)) m R :=
 fun G outs ho=>AA (AH (h G outs ho) (fun v s' x=>AD (x.casesOn fun b W' σ' a c d r=>⟨b,W',σ',a,c,d,r⟩)) fun zz zz x=>x)
theorem Ok.mapL {t:Sem α} {g:β→δ} {m:M β} {R:Wd→Heap→δ→α→Prop} (h:Ok B C F W σ s t m (fun W h b v=>R W h (g b) v)):Ok B C F W σ s t (m>>=fun v=>Pure.pure (g v)) R :=
 fun G outs ho=>by
  change (match m σ with | some l=>BS (fun v=>M.pure (g v)) l | none=>none)=some outs at ho
  cases hm:m σ with
  | none=>rw [hm] at ho;cases ho
  | some l=>
   rw [hm] at ho
   refine AH (h G l hm) (fun v s' h=>?_) (fun e s' h=>?_)
   ·obtain ⟨b,W',σ',hin,G',st,r⟩:=h
    obtain ⟨o,hf,hsub⟩:=AZ ho hin
    cases hf
    exact ⟨g b,W',σ',hsub _ (.head _),G',st,r⟩
   ·obtain ⟨σ',hin,fl⟩:=h
    exact ⟨σ',AQ ho hin,fl⟩
theorem Ok.operate {vs:List Value} {t:Sem Value} {m:M β} {R:Wd→Heap→β→Value→Prop} (h:Ok B C F W σ s t m R):Ok B C F W σ s (PySem.operate vs t) m R :=
 fun G outs ho=>by
  unfold PySem.operate
  refine AA (AG (AH (h G outs ho) (fun v s' x=>?_) fun zz zz x=>x))
  refine AA ?_
  exact wpAny_release (AD x)
section
variable {M:Model} {A:Around} {E:VP} {base:Heap} {l outer:List Env} {env e0:Env} {fr:Option Addr} {e L:Addr} {cls:Value} {Q:Unit→Shared→Prop}
theorem Hq {x:Value} {env env':Env} (h:env.frame=env'.frame):noteFrame x env=noteFrame x env':=by
 unfold noteFrame frameOf
 rw [h]
theorem KJ (hfr:A.frames=some (e0::outer)) (hf0:e0.frame=some L) (hf:env.frame=some L) (x:F5 base (e0::outer) (some L) e cls s.heap)
  (hQ:∀ h' a0,Heap.HeldW base (e0::outer) e cls a0 L h'→s.heap.UpToSlots h'→Q () {s with heap:=h'}):wpAny M A (noteFrame (.ref e) env) Q E s:=by
 rw [Hq (hf.trans hf0.symm)]
 rcases x with ⟨f1,f2,f3,oe,vs,a0,he,hc,hd,h1,h0⟩ | ⟨a0,hfl⟩ | ⟨a0,L',hL,hh⟩
 ·subst hc
  unfold noteFrame
  simp only [hf0]
  refine AA (wpAny_field he hd h1 ?_)
  rw [if_neg (by decide)]
  refine wpAny_entryW hfr f3 hf0 he f1 f2 hd (Array.getElem?_eq_some_iff.mp h1).1 h0 fun h' hN=>?_
  obtain ⟨k1,k2,k3,k4⟩:=hN
  exact hQ h' a0 ⟨k1,f2,k2,k3⟩ k4
 ·exact wpAny_looks_onW hfr hf0 hfl fun h' hh k=>hQ h' a0 hh k
 ·cases hL
  exact wpAny_noteFrame_againW hf0 hh.2.2.2 (hQ s.heap a0 hh (Heap.UpToSlots.refl _))
theorem Ri (hfr:A.frames=some (env::outer)) (hf:env.frame=some L) (x:F5 base (env::outer) (some L) e cls s.heap)
  (hQ:∀ h' a0,Heap.FlyingW base outer e cls a0 h'→s.heap.UpToSlots h'→Q () {s with heap:=h'}):wpAny M A (leaving env (.ref e)) Q E s:=by
 unfold leaving
 refine AA (KJ hfr hf hf x fun h' a0 hh k=>?_)
 refine wpAny_landsW hh fun h2 hfl k2=>?_
 obtain ⟨k1,k3,⟨_,_,k4⟩,k5⟩:=hfl
 exact hQ h2 a0 ⟨k1,k3,k4,k5⟩ (k.trans k2)
theorem Uc (x:F5 base l (some L) e cls s.heap) (hn:∀ oe vs,s.heap.get? e=some oe→oe.data=.fields vs→vs[1]?≠some .none)
  (hQ:∀ h' a0,Heap.HeldW base l e cls a0 L h'→s.heap.UpToSlots h'→Q () {s with heap:=h'}):wpAny M A (setFlight (.ref e) (some L)) Q E s:=by
 have go:∀ fl a0,base.StaysIn s.heap→base.get? e=none→s.heap.FunFrames base l→s.heap.TracedAtW base e cls a0 fl→wpAny M A (setFlight (.ref e) (some L)) Q E s:=by
  rintro fl a0 hkb hen hl ⟨oe,vs,T,oT,ts,he,hcls,hd,h1,hnT,hTe,hT,hdT,h3⟩
  have hsz3:3 < ts.size:=(Array.getElem?_eq_some_iff.mp h3).1
  have other:∀ b,b≠T→(s.heap.update T (Obj.mapFields (·.setIfInBounds 3 ((some L).elim Value.none fun f=>rawInt f)))).get? b=s.heap.get? b :=
   fun b hb=>Heap.get?_update_other _ _ (Ne.symm hb)
  have noRecord:∀ b o,s.heap.get? b=some o→(∀ vs,o.data≠.fields vs)→b≠T:=fun b o hb hnf q=>by
   rw [q,hT] at hb;injection hb with hb;subst hb;exact hnf ts hdT
  unfold setFlight
  refine AA (wpAny_field he hd h1 ?_)
  rw [if_pos (show (Value.ref T != Value.none)=true from by simp)]
  refine wpAny_setField hT hdT hsz3 (hQ _ a0 ⟨fun b o hbo=>(other b fun q=>by rw [q,hnT] at hbo;cases hbo).trans (hkb b o hbo),hen,hl.of_keeps fun b o hb hnf=>⟨o,(other b (noRecord b o hb hnf)).trans hb,rfl⟩,?_⟩ fun b o hb hnf=>⟨o.slots,(other b (noRecord b o hb hnf)).trans hb⟩)
  exact ⟨oe,vs,T,_,_,(other e (Ne.symm hTe)).trans he,hcls,hd,h1,hnT,hTe,Heap.get?_update_self _ hT (Obj.isFreed_of_fields (Obj.data_mapFields hdT _)),Obj.data_mapFields hdT _,by simp [hsz3]⟩
 rcases x with ⟨f1,f2,f3,oe,vs,a0,he,hc,hd,h1,h0⟩ | ⟨a0,f1,f2,f3,f4⟩ | ⟨a0,L',hL,f1,f2,f3,f4⟩
 ·exact absurd h1 (hn oe vs he hd)
 ·exact go _ a0 f1 f2 f3 f4.at
 ·exact go _ a0 f1 f2 f3 f4
theorem VQ {L:Addr} {a0:Value} {h:Heap} (x:Heap.HeldW base l e cls a0 L h):∃ oe vs T,h.get? e=some oe∧oe.data=.fields vs∧vs[1]? = some (.ref T):=by
 obtain ⟨_,_,_,oe,vs,T,_,_,he,_,hd,h1,_⟩:=x
 exact ⟨oe,vs,T,he,hd,h1⟩
end
noncomputable abbrev RdV (B:Bs):Wd→Heap→D→Value→Prop:=fun W h d v=>Rd B W h d v
noncomputable abbrev Y8 (B:Bs):Wd→Heap→List D→List Value→Prop:=fun W h d v=>RdL B W h d v
noncomputable abbrev RdB:Wd→Heap→Bool→Bool→Prop:=fun zz zz b c=>b=c
noncomputable abbrev Vt:Wd→Heap→Bool→Value→Prop:=fun zz zz b v=>v=.bool b
end
section
open PySem PySem.W
variable {B:Bs} {F:Fv} {C:Value} {W W':Wd} {σ:St} {s:Shared}
theorem Aj {x y:Str} (h:nm x=nm y):x=y:=by
 obtain ⟨a⟩:=x;obtain ⟨b⟩:=y
 have:a.toList=b.toList:=h
 rw [Array.toList_inj.mp this]
theorem AW:∀ {a b:List Nat},Ap a b=true↔a=b
 | [],[]=>⟨fun zz=>rfl,fun zz=>rfl⟩
 | [],_::_=>⟨fun h=>ffF h,fun h=>ncF h⟩
 | _::_,[]=>⟨fun h=>ffF h,fun h=>cnF h⟩
 | x::a,y::b=>by
  have ih:=@AW a b
  show (match Nat.beq x y with | true=>Ap a b | false=>false)=true↔_
  cases h:Nat.beq x y with
  | true=>rw [AI h];exact ih.trans ⟨fun e=>e▸rfl,fun e=>lI2 e⟩
  | false=>exact ⟨fun h=>ffF h,fun e=>absurd (lI1 e) (Nat.ne_of_beq_eq_false h)⟩
theorem Dv {a b:List Nat} (h:Ap a b=false):a≠b:=fun e=>by rw [AW.mpr e] at h;cases h
theorem QC {a:List Nat}:Ap a a=true:=AW.mpr rfl
theorem DC {y z:Nm} {e:D} {r:Rho}:Ay y ((z,e)::r)=if y=z then some e else Ay y r:=by
 show (match Ap y z with | true=>some e | false=>Ay y r)=_
 cases q:Ap y z with
 | true=>rw [if_pos (AW.mp q)]
 | false=>rw [if_neg (Dv q)]
theorem S3 {y:Nm} {d:D} {l:Rho} (h:Ay y l=some d):(y,d)∈l:=by
 induction l with
 | nil=>cases h
 | cons p l ih=>
  obtain ⟨x,e⟩:=p
  rw [DC] at h
  by_cases q:y=x
  ·rw [if_pos q] at h
   rw [q,AB h]
   exact .head _
  ·rw [if_neg q] at h
   exact .tail _ (ih h)
theorem Ec {x y:Nm} {d:D}:∀ {ρ:Rho},Ay y (upd x d ρ)=if y=x then some d else Ay y ρ
 | []=>DC
 | (z,e)::r=>by
  have ih:=@Ec x y d r
  show Ay y (match Ap x z with | true=>(z,d)::r | false=>(z,e)::upd x d r)=_
  cases q:Ap x z with
  | true=>
   rw [AW.mp q]
   show Ay y ((z,d)::r)=_
   rw [DC,DC]
   by_cases h:y=z
   ·rw [if_pos h,if_pos h]
   ·rw [if_neg h,if_neg h,if_neg h]
  | false=>
   have hxz:=Dv q
   show Ay y ((z,e)::upd x d r)=_
   rw [DC,DC,ih]
   by_cases h:y=z
   ·rw [if_pos h,if_pos h,if_neg (fun q:y=x=>hxz (q.symm.trans h))]
   ·rw [if_neg h,if_neg h]
theorem mem_lookup {α:Type} {y:Str}:∀ {l:List (Str×α)},y∈l.map (·.1)→∃ v,l.lookup y=some v:=by
 intro l
 induction l with
 | nil=>
  intro h
  cases h
 | cons zp l ih=>
  obtain ⟨z,u⟩:=zp
  intro h
  rw [List.lookup_cons]
  cases q:y == z with
  | true=>exact ⟨u,rfl⟩
  | false=>
   rcases List.mem_cons.mp h with e | e
   ·rw [e] at q;simp at q
   ·exact ih e
theorem Ad {x:Str}:∀ {l:LK},As (nm x) l=l.lookup x
 | []=>rfl
 | (y,k)::r=>by
  have ih:=@Ad x r
  simp only [As,List.lookup_cons]
  cases h:x == y with
  | true=>have:=eq_of_beq h;subst this;simp
  | false=>
   have hne:x≠y:=fun e=>by rw [e] at h;simp at h
   have:(nm x == nm y)=false:=by
    cases q:(nm x == nm y) with
    | true=>exact absurd (Aj (eq_of_beq q)) hne
    | false=>rfl
   rw [this];exact ih
theorem BB {x:Str} (h:Ax x=false):(x == ("__debug__" : Str))=false∧(x == ("__classdict__" : Str))=false:=by
 unfold Ax at h
 rw [Bool.or_eq_false_iff] at h
 refine ⟨?_,?_⟩
 ·cases q:x == ("__debug__" : Str) with
  | false=>rfl
  | true=>rw [eq_of_beq q] at h;simp at h
 ·cases q:x == ("__classdict__" : Str) with
  | false=>rfl
  | true=>rw [eq_of_beq q] at h;simp at h
theorem U1 {x:Str} (hr:Ax x=false):Ok B C F W σ s (loadName F.env x) (Iz (nm x)) (RdV B):=fun G outs ho=>by
 unfold Iz at ho
 cases hl:Ay (nm x) σ.rho with
 | none=>rw [hl] at ho;cases ho
 | some d=>
  rw [hl] at ho;cases ho
  obtain ⟨v,hv,r⟩:=G.vars x d hl
  have post:OkP B F W s.heap [(Out.ok d,σ)] (RdV B) v s:=⟨d,W,σ,.head _,G,Step.refl B,r⟩
  rcases hv with ⟨a,m,n,e⟩ | ⟨a | a,c,e,n⟩
  ·exact wpAny_loadName_local G.ok.kind a n e post
  ·exact wpAny_loadName_cell G.ok.kind a e n post
  ·exact wpAny_loadName_free G.ok.kind a e n post (BB hr).2
theorem Kk {x:Str} {p:Pos} (hr:Ax x=false):Ok B C F W σ s (eval (.Name x p) F.env) (Iz (nm x)) (RdV B):=fun G outs ho=>by
 rw [eval_Name F.env x p (BB hr).1]
 exact AA (wpAny_standAt (U1 hr G outs ho))
theorem E2 (b:AK B) {x:Str} {p:Pos} {d:D} (hr:Ax x=false) (hk:F.env.kindOf x=some .globalImplicit) (hg:Dg (nm x) B.G=some d) :
  Ok B C F W σ s (eval (.Name x p) F.env) (pure d) (RdV B):=fun G outs ho=>by
 cases ho
 obtain ⟨v,hv,r⟩:=b.glob x d hg
 have post:OkP B F W s.heap [(Out.ok d,σ)] (RdV B) v s:=⟨d,W,σ,.head _,G,Step.refl B,r _ _ G.stay0⟩
 refine Calls.Name_function_global G.ok.kind hk ?_ (BB hr).1
 rcases hv with hv | ⟨h1,h2⟩
 ·exact Calls.loadGlobal_global (by rw [G.ok.glob];exact b.hmg.keeps G.stay0) hv post
 ·exact Calls.loadGlobal_builtin (by rw [G.ok.glob];exact b.hmg.keeps G.stay0) h1 (by rw [G.ok.bltn];exact b.hmb.keeps G.stay0) h2 post
theorem Good.own1 (b:AK B) (G:Good B F W σ s) {a:Addr} {h':Heap} {t:Nat} {ρ:Rho} (ha:a∈F.own) (hs:Heap.SameBut a s.heap h')
  (ho:∃ o,h'.get? a=some o∧(∀ vs n,o.data≠.seq vs n)∧∀ vs,o.data≠.fields vs) (hns:∃ m,h'.Ns F.env.locals m)
  (hc:∀ x c,F.env.cells.lookup x=some c→∃ ov,h'.IsCell c ov)
  (hv:(∀ d v,Rd B W s.heap d v→Rd B W h' d v)→Xa B F W h' ρ) :
  Good B F W {σ with rho:=ρ} {s with heap:=h',toks:=t}∧Step B F W s.heap W h':=by
 obtain ⟨_,n0,nB⟩:=G.own a ha
 have st:Step B F W s.heap W h':=⟨List.prefix_refl _,fun zz h=>h,fun zz h=>h,fun c o e n1 n2=>by
  have:h'.get? c=some o:=(hs.2 c (fun q=>n1 (q▸ha))).trans e
  exact ⟨fun zz=>this,o.slots,this⟩⟩
 have hS:B.S≠a:=fun q=>by
  obtain ⟨⟨o,e,n,_⟩,_⟩:=G.own a ha
  obtain ⟨⟨vs,⟨k,e'⟩,_⟩,_⟩:=G.src
  rw [q,e] at e';cases e';exact n _ _ rfl
 refine ⟨{ok:=G.ok,dep:=G.dep,depth:=G.depth,units:=G.units,stay0:=fun c o e=>?_,stayB:=fun c o e=>?_,frames:=?_,ns:=hns,cells:=hc,own:=?_,src:=?_,pins:=?_,vars:=hv (fun d v=>G.rd b st),picks:=⟨G.picks.len,G.picks.cand,G.picks.cmps⟩,rest:=G.rest},st⟩
 ·exact (hs.2 c (fun q=>by rw [q,n0] at e;cases e)).trans (G.stay0 c o e)
 ·exact (hs.2 c (fun q=>by rw [q,nB] at e;cases e)).trans (G.stayB c o e)
 ·have:∀ l:List Env,s.heap.FunFrames F.base l→h'.FunFrames F.base l:=by
   intro l
   induction l with
   | nil=>intro _;trivial
   | cons env rest ih=>
    rintro ⟨hk,⟨L,o,hf,hn,hL,hd⟩,hr⟩
    refine ⟨hk,?_,ih hr⟩
    by_cases q:L=a
    ·subst q
     obtain ⟨o',e,_,nf⟩:=ho
     exact ⟨L,o',hf,hn,e,nf⟩
    ·exact ⟨L,o,hf,hn,(hs.2 L q).trans hL,hd⟩
  exact this _ G.frames
 ·intro c m
  by_cases q:c=a
  ·subst q;exact ⟨ho,n0,nB⟩
  ·obtain ⟨⟨o,e,n⟩,r⟩:=G.own c m
   exact ⟨⟨o,(hs.2 c q).trans e,n⟩,r⟩
 ·obtain ⟨⟨vs,⟨n,e⟩,r⟩,q⟩:=G.src
  exact ⟨⟨vs,⟨n,(hs.2 _ hS).trans e⟩,r⟩,q⟩
 ·intro p hp
  obtain ⟨e,n,r⟩:=G.pins p hp
  exact ⟨(hs.2 _ (fun q=>n (by rw [q];exact ha))).trans e,n,r⟩
theorem Jn {h:Heap} {a:Addr} {m m':SV} (x:h.Ns a m) (y:h.Ns a m') (n:Str):m n=m' n:=by
 obtain ⟨o,es,ep,e,d,k,f⟩:=x
 obtain ⟨o',es',ep',e',d',k',f'⟩:=y
 rw [e] at e';cases e';rw [d] at d';cases d'
 rw [←f,←f']
theorem BF {h:Heap} {a:Addr} {m:SV} (x:h.Ns a m):∃ o,h.get? a=some o∧(∀ vs n,o.data≠.seq vs n)∧∀ vs,o.data≠.fields vs:=by
 obtain ⟨o,es,ep,e,d,_⟩:=x
 exact ⟨o,e,(by intro vs n q;rw [d] at q;cases q),(by intro vs q;rw [d] at q;cases q)⟩
theorem BP {h:Heap} {a:Addr} {v:Option Value} (x:h.IsCell a v):∃ o,h.get? a=some o∧(∀ vs n,o.data≠.seq vs n)∧∀ vs,o.data≠.fields vs:=by
 obtain ⟨o,e,d⟩:=x
 exact ⟨o,e,(by intro vs n q;rw [d] at q;cases q),(by intro vs q;rw [d] at q;cases q)⟩
theorem SW (b:AK B) {x:Str} {v:Value} {d:D} (hk:F.env.kindOf x=some .local∨(F.env.kindOf x=some .cell∧F.isFn=true)) (r:Rd B W s.heap d v) :
  Ok B C F W σ s (storeName F.env x v) (B2 (nm x) d) (fun zz zz zz zz=>True):=fun G outs ho=>by
 cases ho
 obtain ⟨m,hn⟩:=G.ns
 rcases hk with hl | ⟨hl,hF⟩
 ·refine wpAny_storeName_local hl hn (fun h' hn' hs=>?_) (by rw [G.ok.kind];rfl)
  obtain ⟨G',st⟩:=G.own1 b (t:=s.toks + 1) (ρ:=upd (nm x) d σ.rho) G.ok.loc hs (BF hn') ⟨_,hn'⟩
   (fun y c e=>let ⟨ov,q⟩:=G.cells y c e;⟨ov,q.sameBut hs (G.ok.apart y c e)⟩)
   (fun mv y e hy=>by
    rw [Ec] at hy
    by_cases q:nm y=nm x
    ·rw [if_pos q] at hy;cases hy
     have:=Aj q;subst this
     exact ⟨v,.inl ⟨hl,_,hn',by simp⟩,mv _ _ r⟩
    ·rw [if_neg q] at hy
     obtain ⟨u,hu,ru⟩:=G.vars y e hy
     refine ⟨u,?_,mv _ _ ru⟩
     rcases hu with ⟨a,m',n,e'⟩ | ⟨a,c,e',n⟩
     ·refine .inl ⟨a,_,hn',?_⟩
      show (if y=x then some v else m y)=some u
      rw [if_neg (fun z=>q (by rw [z])),Jn hn n];exact e'
     ·exact .inr ⟨a,c,e',n.sameBut hs (G.ok.apart y c e')⟩)
  exact ⟨(),W,_,.head _,G',st,trivial⟩
 ·obtain ⟨c,hc,hco⟩:=G.ok.cell hF x hl
  obtain ⟨ov,hcell⟩:=G.cells x c hc
  refine wpAny_storeName_cell G.ok.kind hl hc hcell (fun h' hc' hs=>?_)
  obtain ⟨G',st⟩:=G.own1 b (t:=s.toks) (ρ:=upd (nm x) d σ.rho) hco hs (BP hc') ⟨_,hn.sameBut hs (fun q=>G.ok.apart x c hc q.symm)⟩
   (fun y c' e=>by
    by_cases q:c'=c
    ·subst q;exact ⟨_,hc'⟩
    ·exact let ⟨ov,z⟩:=G.cells y c' e;⟨ov,z.sameBut hs q⟩)
   (fun mv y e hy=>by
    rw [Ec] at hy
    by_cases q:nm y=nm x
    ·rw [if_pos q] at hy;cases hy
     have:=Aj q;subst this
     exact ⟨v,.inr ⟨.inl hl,c,hc,hc'⟩,mv _ _ r⟩
    ·rw [if_neg q] at hy
     obtain ⟨u,hu,ru⟩:=G.vars y e hy
     refine ⟨u,?_,mv _ _ ru⟩
     rcases hu with ⟨a,m',n,e'⟩ | ⟨a,c',e',n⟩
     ·exact .inl ⟨a,m',n.sameBut hs (fun z=>G.ok.apart x c hc z.symm),e'⟩
     ·exact .inr ⟨a,c',e',n.sameBut hs (fun z=>q (by subst z;rw [G.ok.inj _ _ _ e' hc]))⟩)
  exact ⟨(),W,_,.head _,G',st,trivial⟩
theorem EX (b:AK B) {x:Str} {v:Value} {d:D} (hk:F.env.kindOf x=some .local∨(F.env.kindOf x=some .cell∧F.isFn=true)) (r:Rd B W s.heap d v) :
  Ok B C F W σ s (bindName F.env x v) (B2 (nm x) d) (fun zz zz zz zz=>True):=fun G outs ho=>by
 unfold bindName
 refine AA (AG (wpAny_point (AA (AH (SW b hk r G outs ho) (fun zz zz h=>wpAny_point h) fun zz zz x=>x))))
end
section
open PySem PySem.W
variable {B:Bs} {F:Fv} {C:Value} {W W':Wd} {σ:St} {s:Shared}
inductive GhP {β:Type} (B:Bs) (F:Fv) (W:Wd) (s:Shared) (outs:List (Out β×St)) (P:β→Prop):Prop
 | mk (b:β) (σ':St) (hin:(Out.ok b,σ')∈outs) (G:Good B F W σ' s) (p:P b)
noncomputable def Gh (B:Bs) (F:Fv) (W:Wd) (s:Shared) (σ:St) {β:Type} (m:M β) (P:β→Prop):Prop :=
 Good B F W σ s→∀ outs,m σ=some outs→GhP B F W s outs P
section
variable {α β γ δ:Type}
theorem Gh.pure {b:β} {P:β→Prop} (h:P b):Gh B F W s σ (pure b) P:=fun G outs ho=>by cases ho;exact ⟨b,σ,.head _,G,h⟩
theorem Gh.bad {P:β→Prop}:Gh B F W s σ (bad:M β) P:=fun G outs ho=>by cases ho
theorem Gh.bind {m:M β} {g:β→M δ} {P:β→Prop} {Q:δ→Prop} (h1:Gh B F W s σ m P) (h2:∀ b σ',P b→Gh B F W s σ' (g b) Q):Gh B F W s σ (m>>=g) Q:=fun G outs ho=>by
 change (match m σ with | some l=>BS g l | none=>none)=some outs at ho
 cases hm:m σ with
 | none=>rw [hm] at ho;cases ho
 | some l=>
  rw [hm] at ho
  obtain ⟨b,σ',hin,G',p⟩:=h1 G l hm
  obtain ⟨o,hf,hsub⟩:=AZ ho hin
  obtain ⟨d,σ2,hin2,G2,q⟩:=h2 b σ' p G' o hf
  exact ⟨d,σ2,hsub _ hin2,G2,q⟩
theorem Gh.mono {m:M β} {P Q:β→Prop} (h:Gh B F W s σ m P) (k:∀ b,P b→Q b):Gh B F W s σ m Q:=fun G outs ho=>
 let ⟨b,σ',x,y,z⟩:=h G outs ho;⟨b,σ',x,y,k b z⟩
theorem Gh.opt {o:Option β} {P:β→Prop} (h:∀ b,o=some b→P b):Gh B F W s σ (opt o) P:=by
 cases o with
 | none=>exact Gh.bad
 | some b=>exact Gh.pure (h b rfl)
theorem Ok.ghost {t:Sem α} {m:M β} {g:β→M δ} {P:β→Prop} {R:Wd→Heap→δ→α→Prop} (h1:Gh B F W s σ m P)
  (h2:∀ b σ',P b→Ok B C F W σ' s t (g b) R):Ok B C F W σ s t (m>>=g) R:=fun G outs ho=>by
 change (match m σ with | some l=>BS g l | none=>none)=some outs at ho
 cases hm:m σ with
 | none=>rw [hm] at ho;cases ho
 | some l=>
  rw [hm] at ho
  obtain ⟨b,σ',hin,G',p⟩:=h1 G l hm
  obtain ⟨o,hf,hsub⟩:=AZ ho hin
  exact AH (h2 b σ' p G' o hf) (fun zz zz x=>x.sub hsub) fun zz zz x=>x.sub hsub
theorem Ok.opt {t:Sem α} {o:Option β} {R:Wd→Heap→β→α→Prop} (h:∀ b,o=some b→Ok B C F W σ s t (Pure.pure b:M β) R):Ok B C F W σ s t (opt o) R:=by
 cases o with
 | none=>exact Ok.bad
 | some b=>exact h b rfl
end
theorem Ia {α:Type}:∀ {l:List α} {i:Nat} {a:α},nth l i=some a→i < l.length
 | [],_,_,h=>by cases h
 | _::_,0,_,_=>Nat.zero_lt_succ _
 | _::r,n + 1,a,h=>Nat.succ_lt_succ (Ia (l:=r) h)
theorem Ib {α:Type}:∀ {l:List α} {i:Nat},nth l i=l[i]?
 | [],_=>rfl
 | a::_,0=>rfl
 | _::r,n + 1=>by show nth r n=_;rw [Ib (l:=r)];rfl
theorem mem_upTo:∀ {n a i:Nat},a≤i→i < a + n→i∈upTo a n:=by
 intro n
 induction n with
 | zero=>
  intro a i h k
  omega
 | succ n ih=>
  intro a i h k
  unfold upTo
  by_cases q:i=a
  ·subst q;exact .head _
  ·exact .tail _ (ih (by omega) (by omega))
theorem Bf {α:Type} {k i:Nat} {a:α} {r:List (Nat×α)}:Bt k ((i,a)::r)=if i=k then some a else Bt k r:=by
 show (match Nat.beq i k with | true=>some a | false=>Bt k r)=_
 cases h:Nat.beq i k with
 | true=>rw [if_pos (AI h)]
 | false=>rw [if_neg (Nat.ne_of_beq_eq_false h)]
theorem Hb {α:Type} {k j:Nat} (h:j≠k):∀ {l:List (Nat×α)},Bt j (HB k l)=Bt j l
 | []=>rfl
 | (i,a)::r=>by
  have ih:=@Hb α k j h r
  show Bt j (match Nat.beq i k with | true=>HB k r | false=>(i,a)::HB k r)=_
  cases q:Nat.beq i k with
  | true=>
   have:=AI q;subst this
   rw [Bf,if_neg (Ne.symm h)];exact ih
  | false=>rw [Bf,Bf,ih]
theorem Good.cand (G:Good B F W σ s) {k i:Nat} {ds:List D} {d:D} (e:W.nu[k]? = some i) (n:nth ds i=some d):i∈DR σ k ds.length:=by
 unfold DR
 cases h:Bt k σ.cand with
 | none=>exact mem_upTo (Nat.zero_le _) (by have:=Ia n;omega)
 | some l=>
  obtain ⟨i',e',m⟩:=G.picks.cand k l h
  rw [e] at e';cases e';exact m
theorem Good.setCand (G:Good B F W σ s) {k i:Nat} {l:List Nat} (e:W.nu[k]? = some i) (m:i∈l):Good B F W (setCand σ k l) s :=
 {G with
  picks:=⟨G.picks.len,fun j l' h=>by
   by_cases q:k=j
   ·subst q
    unfold Mine.setCand at h
    simp only at h
    rw [Bf,if_pos rfl] at h;cases h
    exact ⟨i,e,m⟩
   ·unfold Mine.setCand at h
    simp only at h
    rw [Bf,if_neg q,Hb (Ne.symm q)] at h
    exact G.picks.cand j l' h,G.picks.cmps⟩}
theorem Gn {a b:Int}:LQ a b=true↔a=b:=by
 cases a<;>cases b<;>unfold LQ
 ·exact ⟨fun h=>by rw [AI h],fun h=>by injection h with h;subst h;exact Nat.beq_refl _⟩
 ·exact ⟨fun h=>(by cases h),fun h=>(by cases h)⟩
 ·exact ⟨fun h=>(by cases h),fun h=>(by cases h)⟩
 ·exact ⟨fun h=>by rw [AI h],fun h=>by injection h with h;subst h;exact Nat.beq_refl _⟩
theorem UG {a b:Bool}:Go a b=true↔a=b:=by cases a<;>cases b<;>first | exact ⟨fun zz=>rfl,fun zz=>rfl⟩ | exact ⟨fun h=>ffF h,fun h=>ffF h⟩ | exact ⟨fun h=>ffF h,fun h=>tfF h⟩
mutual
theorem Dx:∀ {a b:D},same a b=true→a=b
 | .non,b,h=>by cases b<;>first | exact ffF h | rfl
 | .boo x,b,h=>by cases b<;>first | exact ffF h | exact congrArg _ (UG.mp h)
 | .int x,b,h=>by cases b<;>first | exact ffF h | exact congrArg _ (Gn.mp h)
 | .str x,b,h=>by cases b<;>first | exact ffF h | exact congrArg _ (AW.mp h)
 | .byt x,b,h=>by cases b<;>first | exact ffF h | exact congrArg _ (AW.mp h)
 | .tup x,b,h=>by cases b<;>first | exact ffF h | exact congrArg _ (DZ h)
 | .lst x,b,h=>by cases b<;>first | exact ffF h | exact congrArg _ (DZ h)
 | .pick k x,b,h=>by
  cases b with
  | pick l y=>
   change (match Nat.beq k l with | true=>GH x y | false=>false)=true at h
   cases q:Nat.beq k l with
   | false=>rw [q] at h;cases h
   | true=>rw [q] at h;rw [AI q,DZ h]
  | _=>exact ffF h
 | .src,b,h=>ffF h
 | .chk,b,h=>ffF h
 | .wld,b,h=>ffF h
 | .fn _,b,h=>ffF h
 | .blt _,b,h=>ffF h
 | .ty _,b,h=>ffF h
 | .dic _,b,h=>ffF h
theorem DZ:∀ {a b:List D},GH a b=true→a=b
 | [],[],_=>rfl
 | [],_::_,h=>ffF h
 | _::_,[],h=>ffF h
 | x::a,y::b,h=>by
  change (match same x y with | true=>GH a b | false=>false)=true at h
  cases q:same x y with
  | false=>rw [q] at h;cases h
  | true=>rw [q] at h;rw [Dx q,DZ h]
end
theorem KG {d:D} {i:Nat}:∀ {l:List (D×List Nat)},(∃ p∈Of d i l,p.1=d∧i∈p.2)∧∀ p∈l,∃ q∈Of d i l,q.1=p.1∧∀ x∈p.2,x∈q.2
 | []=>⟨⟨_,.head _,rfl,.head _⟩,fun p hp=>(by cases hp)⟩
 | (e,t)::r=>by
  obtain ⟨⟨p,hp,h1,h2⟩,h3⟩:=@KG d i r
  show (∃ p∈(match same e d with | true=>(e,t++[i])::r | false=>(e,t)::Of d i r),p.1=d∧i∈p.2)∧∀ p∈(e,t)::r,∃ q∈(match same e d with | true=>(e,t++[i])::r | false=>(e,t)::Of d i r),q.1=p.1∧∀ x∈p.2,x∈q.2
  cases q:same e d with
  | true=>
   refine ⟨⟨_,.head _,Dx q,List.mem_append_right _ (.head _)⟩,fun p hp=>?_⟩
   rcases List.mem_cons.mp hp with rfl | hp
   ·exact ⟨_,.head _,rfl,fun x hx=>List.mem_append_left _ hx⟩
   ·exact ⟨p,.tail _ hp,rfl,fun x hx=>hx⟩
  | false=>
   refine ⟨⟨p,.tail _ hp,h1,h2⟩,fun p hp=>?_⟩
   rcases List.mem_cons.mp hp with rfl | hp
   ·exact ⟨_,.head _,rfl,fun x hx=>hx⟩
   ·obtain ⟨q',hq,a,b⟩:=h3 p hp
    exact ⟨q',.tail _ hq,a,b⟩
theorem LH {ds:List D} {l:List Nat}:∀ {acc cs:List (D×List Nat)},FE ds l acc=some cs→
  (∀ i∈l,∃ p∈cs,nth ds i=some p.1∧i∈p.2)∧∀ p∈acc,∃ q∈cs,q.1=p.1∧∀ x∈p.2,x∈q.2:=by
 induction l with
 | nil=>exact fun h=>⟨fun i hi=>(by cases hi),fun p hp=>⟨p,AB h▸hp,rfl,fun x hx=>hx⟩⟩
 | cons i r ih=>
  intro acc cs h
  refine AO (show ((nth ds i).bind fun d=>FE ds r (Of d i acc))=some cs from h) fun d hn h=>?_
  obtain ⟨h1,h2⟩:=ih h
  obtain ⟨⟨p,hp,e,m⟩,h3⟩:=@KG d i acc
  refine ⟨fun j hj=>?_,fun q hq=>?_⟩
  ·rcases List.mem_cons.mp hj with ej | hj
   ·obtain ⟨q,hq,e',m'⟩:=h2 p hp
    exact ⟨q,hq,by rw [ej,hn,e',e],ej▸m' _ m⟩
   ·exact h1 j hj
  ·obtain ⟨q',hq',e',m'⟩:=h3 q hq
   obtain ⟨q2,a,b,c⟩:=h2 q' hq'
   exact ⟨q2,a,b.trans e',fun x hx=>c x (m' x hx)⟩
theorem Q7 {k:Nat} {s:St} {cs:List (D×List Nat)} {p:D×List Nat} (h:p∈cs):(Out.ok p.1,setCand s k p.2)∈Tc k s cs:=List.mem_map.mpr ⟨p,h,rfl⟩
theorem OH {d:D}:BN 0 d=bad:=by cases d<;>rfl
theorem Me {n:Nat} {d:D} (h:BX d=false):BN (n + 1) d=M.pure d:=by cases d<;>first | rfl | cases h
theorem OI {n k:Nat} {ds:List D}:BN (n + 1) (.pick k ds)=fun s=>match FE ds (DR s k ds.length) [] with
  | some cs=>BS (fun d=>BN n d) (Tc k s cs)
  | none=>none:=rfl
theorem O4 {h:Heap} {d:D} {v:Value} (r:Rd B W h d v):BX d=false∨∃ k ds i d',d=.pick k ds∧W.nu[k]? = some i∧nth ds i=some d'∧Rd B W h d' v:=by
 have i:=r.inv
 clear r
 cases d<;>first | exact .inl rfl | exact (ea2_3 i fun i d' e n r=>.inr ⟨_,_,i,d',rfl,e,n,r⟩)
theorem L1 {f:D→Option D} {s:St} {d:D}:DN f 0 s d=none:=by cases d<;>rfl
theorem Ki {f:D→Option D} {n:Nat} {s:St} {d:D} (h:BX d=false):DN f (n + 1) s d=f d:=by cases d<;>first | rfl | cases h
theorem A7 {v:Value}:∀ (n:Nat) (d:D) (σ:St),Rd B W s.heap d v→Gh B F W s σ (BN n d) (fun d'=>Rd B W s.heap d' v∧BX d'=false):=by
 intro n
 induction n with
 | zero=>
  intro d σ r
  rw [OH];exact Gh.bad
 | succ n ih=>
  intro d σ r
  rcases O4 r with p | ⟨k,ds,i,d',rfl,e,nn,r'⟩
  ·rw [Me p];exact Gh.pure ⟨r,p⟩
  ·intro G outs ho
   rw [OI] at ho
   simp only at ho
   cases hc:FE ds (DR σ k ds.length) [] with
   | none=>rw [hc] at ho;cases ho
   | some cs=>
    rw [hc] at ho
    obtain ⟨p,hp,h1,h2⟩:=(LH hc).1 i (G.cand e nn)
    rw [nn] at h1;cases h1
    obtain ⟨o,hf,hsub⟩:=AZ ho (Q7 (k:=k) (s:=σ) hp)
    obtain ⟨b,σ',x,y,z⟩:=ih p.1 _ r' (G.setCand e h2) o hf
    exact ⟨b,σ',hsub _ x,y,z⟩
theorem Dk {d:D} {v:Value} (r:Rd B W s.heap d v):Gh B F W s σ (Bn d) (fun b=>v=.bool b):=by
 refine Gh.bind (A7 6 d σ r) fun d' σ' h=>?_
 have i:=h.1.inv
 clear h
 cases d'<;>first | exact Gh.bad | exact Gh.pure i
theorem Qi {g:D→Option D} {ds:List D} {c:List Nat}:∀ {l:List (Nat×D)},Qj g ds c=some l→∀ i∈c,∃ d e,nth ds i=some d∧g d=some e∧Bt i l=some e:=by
 induction c with
 | nil=>exact fun zz i m=>by cases m
 | cons j r ih=>
  intro l h i m
  refine AO (show ((nth ds j).bind fun d=>(g d).bind fun e=>(Qj g ds r).bind fun l=>some ((j,e)::l))=some l from h) fun d hn h=>AO h fun e hg h=>AO h fun l' hr h=>?_
  rw [←AB h,Bf]
  by_cases q:j=i
  ·exact ⟨d,e,q▸hn,hg,if_pos q⟩
  ·rcases List.mem_cons.mp m with e1 | m
   ·exact absurd e1.symm q
   ·rw [if_neg q];exact ih hr i m
theorem IG {l:List (Nat×D)}:∀ {n a i:Nat} {e:D},Bt (a + i) l=some e→i < n→nth (IH l a n) i=some e
 | 0,_,_,_,_,h=>by omega
 | n + 1,a,0,e,h,_=>by show some (match Bt a l with | some d=>d | none=>.non)=_;rw [Nat.add_zero] at h;rw [h]
 | n + 1,a,i + 1,e,h,hi=>by
  show nth (IH l (a + 1) n) i=some e
  exact IG (by rw [show a + 1 + i=a + (i + 1) by omega];exact h) (by omega)
theorem LS {d:D}:∀ {l:List (Nat×D)},FL d l=true→∀ i e,Bt i l=some e→e=d:=by
 intro l
 induction l with
 | nil=>
  intro _ i e h
  cases h
 | cons zp r ih=>
  obtain ⟨j,x⟩:=zp
  intro ha i e h
  change (match same d x with | true=>FL d r | false=>false)=true at ha
  cases q:same d x with
  | false=>rw [q] at ha;cases ha
  | true=>
   rw [q] at ha
   rw [Bf] at h
   split at h
   ·cases h;exact (Dx q).symm
   ·exact ih ha i e h
theorem EV {f:D→Option D} {v:Value} (G:Good B F W σ s):∀ (n:Nat) (d r:D),Rd B W s.heap d v→DN f n σ d=some r→
  ∃ d0 e0,Rd B W s.heap d0 v∧BX d0=false∧f d0=some e0∧∀ W' h' u,W.nu<+:W'.nu→Rd B W' h' e0 u→Rd B W' h' r u:=by
 intro n
 induction n with
 | zero=>
  intro d r x h
  rw [L1] at h;cases h
 | succ n ih=>
  intro d r x h
  rcases O4 x with p | ⟨k,ds,i,d',rfl,e,nn,x'⟩
  ·rw [Ki p] at h
   exact ⟨d,r,x,p,h,fun W' h' u p y=>y⟩
  ·change (match Qj (DN f n σ) ds (DR σ k ds.length) with
    | some l=>match l with
     | (_,d)::r=>match FL d r with
      | true=>some d
      | false=>some (.pick k (IH l 0 ds.length))
     | []=>none
    | none=>none)=some r at h
   cases hm:Qj (DN f n σ) ds (DR σ k ds.length) with
   | none=>rw [hm] at h;cases h
   | some l=>
    rw [hm] at h
    obtain ⟨d1,e1,a,b,c⟩:=Qi hm i (G.cand e nn)
    rw [nn] at a;cases a
    obtain ⟨d0,e0,h1,h2,h3,h4⟩:=ih d' e1 x' b
    refine ⟨d0,e0,h1,h2,h3,fun W' h' u p y=>?_⟩
    have y1:=h4 W' h' u p y
    cases l with
    | nil=>cases c
    | cons z rr=>
     obtain ⟨j,dj⟩:=z
     simp only at h
     cases q:FL dj rr with
     | true=>
      rw [q] at h;cases h
      rw [Bf] at c
      split at c
      ·cases c;exact y1
      ·rw [LS q i e1 c] at y1;exact y1
     | false=>
      rw [q] at h;cases h
      exact .pick k i _ e1 u (Cy p e) (IG (a:=0) (by rw [Nat.zero_add];exact c) (Ia nn)) y1
theorem CW {α:Type} {f:D→Option D} {t:Sem Value} {d:D} {v:Value} (r:Rd B W s.heap d v)
  (h:∀ d0 e0,Rd B W s.heap d0 v→BX d0=false→f d0=some e0→Ok B C F W σ s t (Pure.pure e0:M D) (RdV B)):Ok B C F W σ s t (Bl f d) (RdV B):=fun G outs ho=>by
 unfold Bl at ho
 cases hh:DN f 6 σ d with
 | none=>rw [hh] at ho;cases ho
 | some e=>
  rw [hh] at ho;cases ho
  obtain ⟨d0,e0,a,b,c,q⟩:=EV G 6 d e r hh
  refine AH (h d0 e0 a b c G _ rfl) (fun u s' x=>?_) (fun e s' x=>?_)
  ·obtain ⟨b,W',σ',m,G',st,y⟩:=x
   rcases List.mem_cons.mp m with m | m
   ·cases m
    exact ⟨e,W',_,.head _,G',st,q _ _ _ st.nu y⟩
   ·cases m
  ·obtain ⟨σ',m,_⟩:=x
   rcases List.mem_cons.mp m with m | m
   ·cases m
   ·cases m
theorem L4 {f:D→D→Option D} {t:Sem Value} {a b:D} {va vb:Value} (ra:Rd B W s.heap a va) (rb:Rd B W s.heap b vb)
  (h:∀ σ a0 b0 e0,Rd B W s.heap a0 va→Rd B W s.heap b0 vb→BX a0=false→BX b0=false→f a0 b0=some e0→Ok B C F W σ s t (Pure.pure e0:M D) (RdV B)) :
  Ok B C F W σ s t (Fe f a b) (RdV B):=by
 unfold Fe
 cases pa:BX a with
 | false=>
  cases pb:BX b with
  | false=>exact Ok.opt fun e he=>h σ a b e ra rb pa pb he
  | true=>exact CW (α:=Unit) rb fun b0 e0 x y z=>h σ a b0 e0 ra x pa y z
 | true=>
  cases pb:BX b with
  | false=>exact CW (α:=Unit) ra fun a0 e0 x y z=>h σ a0 b e0 x rb y pb z
  | true=>
   refine Ok.ghost (A7 6 a σ ra) fun a0 σ' hq=>?_
   exact CW (α:=Unit) rb fun b0 e0 x y z=>h σ' a0 b0 e0 hq.1 x hq.2 y z
theorem Ey {d:D} {p:Nat×List D} (h:pickOf d=some p):d=.pick p.1 p.2:=by cases d<;>first | exact nsF h | exact AB h▸rfl
theorem C1 {d:D} {n:Int} (h:C2 d=some n):d=.int n:=by cases d<;>first | exact nsF h | exact congrArg _ (AB h)
theorem BY {d:D} {l:List Nat} (h:strOf d=some l):d=.str l:=by cases d<;>first | exact nsF h | exact congrArg _ (AB h)
theorem BU {d:D} {l:List D} (h:BL d=some l):d=.tup l:=by cases d<;>first | exact nsF h | exact congrArg _ (AB h)
theorem Bc {d:D} {l:List D} (h:BI d=some l):d=.lst l:=by cases d<;>first | exact nsF h | exact congrArg _ (AB h)
theorem Bi {α:Type} {b:Bool} {o:Option α} {a:α} (h:B7 b o=some a):b=true∧o=some a:=by
 cases b with
 | false=>exact nsF h
 | true=>exact ⟨rfl,h⟩
theorem Hd {α:Type} {q:α} {e:Expr} {nam:Str→Option α} {att:Expr→Str→Pos→Option α} {cal:Expr→List Expr→List Keyword→Pos→Option α} {con:Const→Option α} {lis tup:List Expr→Option α}
  {dic:List (Option Expr)→List Expr→Option α} {lam:Arguments→Expr→Scope→Pos→Option α} {slc:Option Expr→Option Expr→Option Expr→Option α} {cmp:Expr→List Expr→Option α} {sta:Expr→Option α} {M:Expr→Prop}
  (h:eC e nam att cal con lis tup dic lam slc cmp sta=some q) (h1:∀ x p,nam x=some q→M (.Name x p)) (h2:∀ o a p,att o a p=some q→M (.Attribute o a p)) (h3:∀ f as ks p,cal f as ks p=some q→M (.Call f as ks p))
  (h4:∀ c k p,con c=some q→M (.Constant c k p)) (h5:∀ es p,lis es=some q→M (.List es p)) (h6:∀ es k p,tup es=some q→M (.Tuple es k p)) (h7:∀ ks vs p,dic ks vs=some q→M (.Dict ks vs p))
  (h8:∀ a b s p,lam a b s p=some q→M (.Lambda a b s p)) (h9:∀ l u s p,slc l u s=some q→M (.Slice l u s p)) (h10:∀ a es,cmp a es=some q→∀ o p,M (.Compare a o es p)) (h11:∀ x,sta x=some q→∀ p,M (.Starred x p)):M e:=by
 cases e<;>first | exact nsF h | exact h1 _ _ h | exact h2 _ _ _ h | exact h3 _ _ _ _ h | exact h4 _ _ _ h | exact h5 _ _ h | exact h6 _ _ _ h | exact h7 _ _ _ h | exact h8 _ _ _ _ h | exact h9 _ _ _ _ h | exact h10 _ _ h _ _ | exact h11 _ h _
theorem SH {α:Type} {q:α} {st:Stmt} {exp:Expr→Option α} {ret:Option Expr→Option α} {asg:List Expr→Expr→Option α} {fdf:Str→Arguments→List Stmt→Scope→Option α} {cls:Str→List Stmt→Option α} {lop:List Stmt→Option α} {ite:Expr→Option α} {M:Prop}
  (h:sC st exp ret asg fdf cls lop ite=some q) (h1:∀ e p,exp e=some q→st=.Expr e p→M) (h2:∀ v p,ret v=some q→st=.Return v p→M) (h3:∀ ts e p,asg ts e=some q→st=.Assign ts e p→M)
  (h4:∀ n a b s,fdf n a b s=some q→M) (h5:∀ n b,cls n b=some q→M) (h6:∀ b,lop b=some q→M) (h7:∀ t,ite t=some q→M):M:=by
 cases st<;>first | exact nsF h | exact h1 _ _ h rfl | exact h2 _ _ h rfl | exact h3 _ _ _ h rfl | exact h4 _ _ _ _ h | exact h5 _ _ h | exact h6 _ h | exact h7 _ h
set_option tactic.hygienic true in
theorem A1 {e:Expr} {x:Str} (h:An e=some x):∃ p,e=.Name x p:=by
 refine Hd (M:=fun e=>∃ p,e=.Name x p) h ?_ ?_ ?_ ?_ ?_ ?_ ?_ ?_ ?_ ?_ ?_<;>intros<;>first | exact nsF ‹_› | (rename_i h;rw [←AB h];exact ⟨_,rfl⟩)
set_option tactic.hygienic true in
theorem UJ {e:Expr} {q:Expr×Str×Nat} (h:WV e=some q):∃ ap,e=.Attribute q.1 q.2.1 ap∧ap.endLine=q.2.2:=by
 refine Hd (M:=fun e=>∃ ap,e=.Attribute q.1 q.2.1 ap∧ap.endLine=q.2.2) h ?_ ?_ ?_ ?_ ?_ ?_ ?_ ?_ ?_ ?_ ?_<;>intros<;>first | exact nsF ‹_› | (rename_i h;rw [←AB h];exact ⟨_,rfl,rfl⟩)
theorem MD {α:Type} {o:Option α} (h:PC o=true):o=none:=by
 cases o with
 | none=>rfl
 | some _=>exact ffF h
theorem Hw {α β:Type} {l:List α} {b c:β} (h:VJ l b=some c):l=[]∧b=c:=by
 cases l with
 | nil=>exact ⟨rfl,AB h⟩
 | cons _ _=>exact nsF h
set_option tactic.hygienic true in
theorem El {e:Expr} {q:Expr×List Expr×Pos} (h:Hi e=some q):e=.Call q.1 q.2.1 [] q.2.2:=by
 refine Hd (M:=fun e=>e=.Call q.1 q.2.1 [] q.2.2) h ?_ ?_ ?_ ?_ ?_ ?_ ?_ ?_ ?_ ?_ ?_<;>intros<;>first | exact nsF ‹_› | (rename_i h;rw [(Hw h).1,←(Hw h).2])
set_option tactic.hygienic true in
theorem C4 {e:Expr} {c:Const} (h:constOf e=some c):∃ k p,e=.Constant c k p:=by
 refine Hd (M:=fun e=>∃ k p,e=.Constant c k p) h ?_ ?_ ?_ ?_ ?_ ?_ ?_ ?_ ?_ ?_ ?_<;>intros<;>first | exact nsF ‹_› | (rename_i h;rw [←AB h];exact ⟨_,_,rfl⟩)
set_option tactic.hygienic true in
theorem MQ {e:Expr} {es:List Expr} (h:listE e=some es):∃ p,e=.List es p:=by
 refine Hd (M:=fun e=>∃ p,e=.List es p) h ?_ ?_ ?_ ?_ ?_ ?_ ?_ ?_ ?_ ?_ ?_<;>intros<;>first | exact nsF ‹_› | (rename_i h;rw [←AB h];exact ⟨_,rfl⟩)
set_option tactic.hygienic true in
theorem KP {e:Expr} {es:List Expr} (h:M5 e=some es):∃ k p,e=.Tuple es k p:=by
 refine Hd (M:=fun e=>∃ k p,e=.Tuple es k p) h ?_ ?_ ?_ ?_ ?_ ?_ ?_ ?_ ?_ ?_ ?_<;>intros<;>first | exact nsF ‹_› | (rename_i h;rw [←AB h];exact ⟨_,_,rfl⟩)
set_option tactic.hygienic true in
theorem I9 {e:Expr} {q:List (Option Expr)×List Expr} (h:Ml e=some q):∃ p,e=.Dict q.1 q.2 p:=by
 refine Hd (M:=fun e=>∃ p,e=.Dict q.1 q.2 p) h ?_ ?_ ?_ ?_ ?_ ?_ ?_ ?_ ?_ ?_ ?_<;>intros<;>first | exact nsF ‹_› | (rename_i h;rw [←AB h];exact ⟨_,rfl⟩)
set_option tactic.hygienic true in
theorem QA {e:Expr} {q:Option Expr×Option Expr×Option Expr} (h:SD e=some q):∃ p,e=.Slice q.1 q.2.1 q.2.2 p:=by
 refine Hd (M:=fun e=>∃ p,e=.Slice q.1 q.2.1 q.2.2 p) h ?_ ?_ ?_ ?_ ?_ ?_ ?_ ?_ ?_ ?_ ?_<;>intros<;>first | exact nsF ‹_› | (rename_i h;rw [←AB h];exact ⟨_,rfl⟩)
set_option tactic.hygienic true in
theorem Mf {st:Stmt} {e:Expr} (h:Tj st=some e):∃ p,st=.Expr e p:=by
 refine SH h ?_ ?_ ?_ ?_ ?_ ?_ ?_<;>intros<;>first | exact nsF ‹_› | (rename_i h e;rw [←AB h];exact ⟨_,e⟩)
set_option tactic.hygienic true in
theorem O2 {st:Stmt} {e:Expr} (h:SJ st=some e):∃ p,st=.Return (some e) p:=by
 refine SH h ?_ ?_ ?_ ?_ ?_ ?_ ?_<;>intros<;>first | exact nsF ‹_› | (rename_i v p h e;exact ⟨p,e.trans (congrArg (Stmt.Return · p) h)⟩)
set_option tactic.hygienic true in
theorem Pd {st:Stmt} {q:List Expr×Expr} (h:Vo st=some q):∃ p,st=.Assign q.1 q.2 p:=by
 refine SH h ?_ ?_ ?_ ?_ ?_ ?_ ?_<;>intros<;>first | exact nsF ‹_› | (rename_i h e;rw [←AB h];exact ⟨_,e⟩)
theorem FH {e:Expr} {p:Str×Str×Nat} (h:EI e=some p):∃ q ap,e=.Attribute (.Name p.1 q) p.2.1 ap∧ap.endLine=p.2.2:=AO h fun q hq h=>AO h fun x hx h=>by
 obtain ⟨ap,e1,hl⟩:=UJ hq
 obtain ⟨np,e2⟩:=A1 hx
 rw [←AB h]
 exact ⟨np,ap,by rw [e1,e2],hl⟩
theorem Ek {e:Expr} {n:Str} (h:B9 e=some n):∃ p as pos,e=.Call (.Name n p) as [] pos:=AO h fun q hq h=>by
 obtain ⟨p,e2⟩:=A1 h
 exact ⟨p,q.2.1,q.2.2,by rw [El hq,e2]⟩
theorem DW {e:Expr} {x:Str} (h:DK e=some x):∃ k p,e=.Constant (.str x) k p:=AO h fun c hc h=>by
 obtain ⟨k,p,e1⟩:=C4 hc
 exact ⟨k,p,by rw [e1,show c=.str x from IsS.of (P:=fun x=>c=.str x) h (by cases c<;>first | exact trivial | exact rfl)]⟩
theorem T2 {d:D} {n:Nat} (h:T5 d=some n):d=.dic n:=by cases d<;>first | exact nsF h | exact congrArg _ (AB h)
theorem Ui {d:D} {n:Nat} (h:Wb d=some n):d=.ty n:=by cases d<;>first | exact nsF h | exact congrArg _ (AB h)
theorem Im {d:D} (h:GW d=true):d=.chk:=by cases d<;>first | exact ffF h | rfl
theorem TO {d:D} (h:TP d=true):d=.wld:=by cases d<;>first | exact ffF h | rfl
theorem Qx {d:D} (h:Kv d=true):d=.src:=by cases d<;>first | exact ffF h | rfl
theorem B3 {α:Type} {l:List α} {a:α} (h:A2 l=some a):l=[a]:=by
 rcases l with _ | ⟨a,_ | ⟨b,l⟩⟩<;>first | exact nsF h | rw [←AB h]
theorem KM {α:Type} {l:List α} {p:α×α} (h:HO l=some p):l=[p.1,p.2]:=by
 rcases l with _ | ⟨a,_ | ⟨b,_ | ⟨c,l⟩⟩⟩<;>first | exact nsF h | rw [←AB h]
theorem Ln {α:Type} {l:List α} {p:α×α×α} (h:F9 l=some p):l=[p.1,p.2.1,p.2.2]:=by
 rcases l with _ | ⟨a,_ | ⟨b,_ | ⟨c,_ | ⟨e,l⟩⟩⟩⟩<;>first | exact nsF h | rw [←AB h]
theorem Rd.int_inv {h:Heap} {n:Int} {v:Value} (r:Rd B W h (.int n) v):∃ t,v=.int n t:=r.inv
theorem Rd.str_inv {h:Heap} {l:List Nat} {v:Value} (r:Rd B W h (.str l) v):∃ x t,v=.str x t∧nm x=l:=r.inv
theorem Rd.tup_inv {h:Heap} {l:List D} {v:Value} (r:Rd B W h (.tup l) v):∃ a vs,v=.ref a∧h.IsTuple a vs∧RdL B W h l vs.toList:=r.inv
theorem Rd.lst_inv {h:Heap} {l:List D} {v:Value} (r:Rd B W h (.lst l) v):∃ a vs,v=.ref a∧a≠B.S∧h.IsList a vs∧RdL B W h l vs.toList:=r.inv
theorem RdL.one {h:Heap} {d:D} {vs:List Value} (r:RdL B W h [d] vs):∃ v,vs=[v]∧Rd B W h d v:=by
 obtain ⟨v,us,e,x,y⟩:=r.inv
 exact ⟨v,by rw [e,show us=_ from y.inv],x⟩
theorem RdL.two {h:Heap} {d e:D} {vs:List Value} (r:RdL B W h [d,e] vs):∃ v w,vs=[v,w]∧Rd B W h d v∧Rd B W h e w:=by
 obtain ⟨v,us,q,x,y⟩:=r.inv
 obtain ⟨w,q2,z⟩:=y.one
 exact ⟨v,w,by rw [q,q2],x,z⟩
theorem Rd.pick_inv {h:Heap} {k:Nat} {l:List D} {v:Value} (r:Rd B W h (.pick k l) v):∃ i d,W.nu[k]? = some i∧nth l i=some d∧Rd B W h d v:=r.inv
end
section
open PySem PySem.W
variable {B:Bs} {F:Fv} {C:Value} {W W':Wd} {σ:St} {s:Shared}
open SeqAt
structure EqR (k:Nat) (h:Heap) (v u:Value) (r:Bool):Prop where
 eq:∀ A s,s.heap=h→A.units + k < cLine→EqAt A s v u r
 rc:∀ A s,s.heap=h→A.units + k < cLine→RcAt A s v u r
 ne:∀ A s,s.heap=h→A.units + k < cLine→RcNeAt A s v u (!r)
 refl:v=u→r=true
theorem EqR.le {k k':Nat} {h:Heap} {v u:Value} {r:Bool} (x:EqR k h v u r) (l:k≤k'):EqR k' h v u r :=
 ⟨fun A s e q=>x.eq A s e (by omega),fun A s e q=>x.rc A s e (by omega),fun A s e q=>x.ne A s e (by omega),x.refl⟩
noncomputable def LR (k:Nat) (h:Heap) (vs us:List Value) (r:Bool):Prop :=
 ∃ e:Nat→Bool,(∀ j (h1:j < vs.length) (h2:j < us.length),EqR k h vs[j] us[j] (e j))∧r=((List.range (min vs.length us.length)).all e&&vs.length == us.length)
theorem LR.nil {k:Nat} {h:Heap}:LR k h [] [] true:=⟨fun zz=>true,fun j h1=>by simp at h1,by simp⟩
theorem LR.nil_cons {k:Nat} {h:Heap} {u:Value} {us:List Value}:LR k h [] (u::us) false:=⟨fun zz=>true,fun j h1=>by simp at h1,by simp⟩
theorem LR.cons_nil {k:Nat} {h:Heap} {u:Value} {us:List Value}:LR k h (u::us) [] false:=⟨fun zz=>true,fun j h1 h2=>by simp at h2,by simp⟩
theorem LR.cons {k:Nat} {h:Heap} {v u:Value} {vs us:List Value} {e0 r:Bool} (x:EqR k h v u e0) (y:LR k h vs us r):LR k h (v::vs) (u::us) (e0&&r):=by
 obtain ⟨e,he,rfl⟩:=y
 refine ⟨fun | 0=>e0 | j + 1=>e j,?_,?_⟩
 ·intro j h1 h2
  cases j with
  | zero=>exact x
  | succ j=>exact he j (by simpa using h1) (by simpa using h2)
 ·have e1:min (v::vs).length (u::us).length=min vs.length us.length + 1:=Nat.succ_min_succ _ _
  have e2:((v::vs).length == (u::us).length)=(vs.length == us.length):=decide_eq_decide.mpr Nat.succ_inj
  rw [e1,e2,List.range_succ_eq_map,List.all_cons,List.all_map,Bool.and_assoc]
  rfl
theorem KO {h:Heap} {a:Addr} {vs us:Array Value} (x:h.IsTuple a vs) (y:h.IsTuple a us):vs=us:=by
 obtain ⟨o,e,_,n,d⟩:=x;obtain ⟨o',e',_,n',d'⟩:=y
 rw [e] at e';cases e';rw [d] at d';cases d';rfl
theorem HY {h:Heap} {a:Addr} {vs us:Array Value} (x:h.IsList a vs) (y:h.IsList a us):vs=us:=by
 obtain ⟨o,e,_,n,d⟩:=x;obtain ⟨o',e',_,n',d'⟩:=y
 rw [e] at e';cases e';rw [d] at d';cases d';rfl
theorem LR.refl {k:Nat} {h:Heap} {vs us:List Value} {r:Bool} (x:LR k h vs us r) (q:vs=us):r=true:=by
 obtain ⟨e,he,rfl⟩:=x
 subst q
 simp only [Nat.min_self,beq_self_eq_true,Bool.and_true,List.all_eq_true,List.mem_range]
 exact fun j hj=>(he j hj hj).refl rfl
theorem EqR.tuple {k:Nat} {h:Heap} {a b:Addr} {vs us:Array Value} {r:Bool} (x:h.IsTuple a vs) (y:h.IsTuple b us) (l:LR k h vs.toList us.toList r):EqR (k + 1) h (.ref a) (.ref b) r:=by
 have rf:Value.ref a=Value.ref b→r=true:=fun q=>by
  injection q with q;subst q
  exact l.refl (by rw [KO x y])
 obtain ⟨e,he,hr⟩:=l
 have he':∀ (A:Around) (s:Shared),s.heap=h→A.units + (k + 1) < cLine→∀ j (h1:j < vs.size) (h2:j < us.size),EqAt A.in1 s vs[j] us[j] (e j):=fun A s q u j h1 h2=>by
  have:=(he j (by simpa using h1) (by simpa using h2)).eq A.in1 s q (by rw [Around.in1_units];omega)
  simpa using this
 have rc:∀ A s,s.heap=h→A.units + (k + 1) < cLine→RcAt A s (.ref a) (.ref b) r:=fun A s q u=>by
  have:=RcAt.tuples (A:=A) (s:=s) (q▸x) (q▸y) (by omega) (he' A s q u)
  rw [hr];simpa using this
 refine ⟨fun A s q u=>?_,rc,fun A s q u=>?_,rf⟩
 ·by_cases ab:a=b
  ·subst ab;rw [rf rfl];exact EqAt.same _
  ·exact EqAt.of_refs ab (rc A s q u)
 ·have:=RcNeAt.tuples (A:=A) (s:=s) (q▸x) (q▸y) (by omega) (he' A s q u)
  rw [hr];simpa using this
theorem EqR.list {k:Nat} {h:Heap} {a b:Addr} {vs us:Array Value} {r:Bool} (x:h.IsList a vs) (y:h.IsList b us) (hsz:vs.size=us.size) (l:LR k h vs.toList us.toList r):EqR (k + 1) h (.ref a) (.ref b) r:=by
 have rf:Value.ref a=Value.ref b→r=true:=fun q=>by
  injection q with q;subst q
  exact l.refl (by rw [HY x y])
 obtain ⟨e,he,hr⟩:=l
 have hr':r=(List.range vs.size).all e:=by rw [hr];simp [hsz]
 have he':∀ (A:Around) (s:Shared),s.heap=h→A.units + (k + 1) < cLine→∀ j (h1:j < vs.size) (h2:j < us.size),EqAt A.in1 s vs[j] us[j] (e j):=fun A s q u j h1 h2=>by
  have:=(he j (by simpa using h1) (by simpa using h2)).eq A.in1 s q (by rw [Around.in1_units];omega)
  simpa using this
 have rc:∀ A s,s.heap=h→A.units + (k + 1) < cLine→RcAt A s (.ref a) (.ref b) r:=fun A s q u=>by
  rw [hr'];exact RcAt.lists (A:=A) (s:=s) (q▸x) (q▸y) hsz (by omega) (he' A s q u)
 refine ⟨fun A s q u=>?_,rc,fun A s q u=>?_,rf⟩
 ·by_cases ab:a=b
  ·subst ab;rw [rf rfl];exact EqAt.same _
  ·exact EqAt.of_refs ab (rc A s q u)
 ·rw [hr'];exact RcNeAt.lists (A:=A) (s:=s) (q▸x) (q▸y) hsz (by omega) (he' A s q u)
theorem EqR.list_len {k:Nat} {h:Heap} {a b:Addr} {vs us:Array Value} (x:h.IsList a vs) (y:h.IsList b us) (hsz:vs.size≠us.size):EqR k h (.ref a) (.ref b) false:=by
 have ab:a≠b:=fun q=>by subst q;exact hsz (by rw [HY x y])
 have rc:∀ A s,s.heap=h→A.units + k < cLine→RcAt A s (.ref a) (.ref b) false:=fun A s q u=>RcAt.lists_lengths (q▸x) (q▸y) (by simpa using hsz) (by omega)
 exact ⟨fun A s q u=>EqAt.of_refs ab (rc A s q u),rc,fun A s q u=>RcNeAt.lists_lengths (q▸x) (q▸y) (by simpa using hsz) (by omega),fun q=>absurd (by injection q) ab⟩
theorem EqR.bytes {h:Heap} {b c:Array UInt8} {t u:Tok}:EqR 0 h (.bytes b t) (.bytes c u) (b.toList == c.toList):=by
 have rc:∀ A s,RcAt A s (.bytes b t) (.bytes c u) (b.toList == c.toList):=fun A s prog w E Q hq=>eq_bytes hq
 refine ⟨fun A s zz zz prog w E Q hq=>?_,fun A s zz zz=>rc A s,fun A s zz zz prog w E Q hq=>ne_bytes ?_,fun q=>by injection q with q _;rw [q];simp⟩
 ·unfold eqBool
  refine AG (wpAny_ite_split (fun hab=>?_) (fun zz=>?_))
  ·have:=eq_of_beq hab
   injection this with e _
   subst e
   refine AA (wpAny_rule (AD ?_))
   simpa using hq
  ·exact AA (rc A s prog w E _ (wpAny_truthy_bool hq))
 ·exact hq
theorem UK {l:List Nat} (h:UL l=true) (c:Nat) (m:c∈l):c < 0x110000:=Nat.lt_of_lt_of_le (AF (List.all_eq_true.mp h c m)) (by decide)
noncomputable def pyD (nu:List Nat):Nat→D→PyData
 | 0,_=>.none
 | n + 1,d=>match d with
  | .non=>.none | .boo b=>.bool b | .int i=>.int i | .str l=>.str ⟨l.toArray⟩
  | .tup ds=>.tuple (ds.map (pyD nu n)) | .lst ds=>.list (ds.map (pyD nu n))
  | .pick k ds=>match nu[k]? with
   | some i=>match nth ds i with
    | some d=>pyD nu n d
    | none=>.none
   | none=>.none
  | _=>.none
noncomputable def JJ (h:Heap) (v:Value) (p:PyData) (n:Nat):Prop:=(∃ as,Reads h v p as)∧p.canLay0=true∧p.depth≤n
noncomputable def Vs (h:Heap) (vs:List Value) (ps:List PyData) (n:Nat):Prop:=(∃ as,ReadsAll h vs ps as)∧PyData.canLayAll0 ps=true∧PyData.depthAll ps≤n
theorem P0 {h:Heap} {x:Str} {t:Tok} {n:Nat} (c:UL (nm x)=true):JJ h (.str x t) (.str ⟨(nm x).toArray⟩) n:=by
 refine ⟨⟨[],?_⟩,?_,Nat.zero_le _⟩
 ·have:(⟨(nm x).toArray⟩:Str)=x:=by obtain ⟨a⟩:=x;simp [nm]
  rw [this];exact .str x t
 ·show PyData.strOk _=true
  unfold PyData.strOk
  rw [Array.all_eq_true]
  intro i hi
  have:=UK c ((nm x).toArray[i]) (by simpa using Array.getElem_mem hi)
  simpa using this
theorem Cq {h:Heap} {n:Nat} (ih:∀ d v,C6 n d=true→Rd B W h d v→JJ h v (pyD W.nu n d) n) {ds:List D}:∀ {vs:List Value},Ej n ds=true→RdL B W h ds vs→Vs h vs (ds.map (pyD W.nu n)) n:=by
 induction ds with
 | nil=>
  intro vs _ r
  rw [show vs=[] from r.inv]
  exact ⟨⟨_,.nil⟩,rfl,Nat.zero_le _⟩
 | cons d ds ihl=>
  intro vs c r
  obtain ⟨v,us,e,r,rs⟩:=r.inv
  obtain ⟨c1,c2⟩:=BA (show (C6 n d&&Ej n ds)=true from c)
  obtain ⟨⟨as,q1⟩,c3,c4⟩:=ih _ _ c1 r
  obtain ⟨⟨bs,q2⟩,c5,c6⟩:=ihl c2 rs
  rw [e]
  refine ⟨⟨_,.cons q1 q2⟩,?_,Nat.max_le.mpr ⟨c4,c6⟩⟩
  show (PyData.canLay0 _&&PyData.canLayAll0 _)=true
  rw [c3,c5];rfl
theorem OU {h:Heap} {n:Nat} (ih:∀ d v,C6 n d=true→Rd B W h d v→JJ h v (pyD W.nu n d) n)
  {d:D} {v:Value} (c:C6 (n + 1) d=true) (r:Rd B W h d v):JJ h v (pyD W.nu (n + 1) d) (n + 1):=by
 have i:=r.inv
 clear r
 cases d with
 | non=>obtain rfl:v=.none:=i;exact ⟨⟨_,.none⟩,rfl,Nat.zero_le _⟩
 | boo b=>obtain rfl:v=.bool b:=i;exact ⟨⟨_,.bool b⟩,rfl,Nat.zero_le _⟩
 | int n=>obtain ⟨t,rfl⟩:=i;exact ⟨⟨_,.int _ t⟩,rfl,Nat.zero_le _⟩
 | str l=>obtain ⟨x,t,rfl,rfl⟩:=i;exact P0 c
 | tup ds=>
  obtain ⟨a,vs,rfl,x,r⟩:=i
  obtain ⟨⟨as,q⟩,c1,c2⟩:=Cq ih c r
  obtain ⟨o,ho,hc,k,hd⟩:=x
  exact ⟨⟨as,.tuple ho hc hd q⟩,c1,Nat.succ_le_succ c2⟩
 | lst ds=>
  obtain ⟨a,vs,rfl,_,x,r⟩:=i
  obtain ⟨⟨as,q⟩,c1,c2⟩:=Cq ih c r
  obtain ⟨o,ho,hc,k,hd⟩:=x
  exact ⟨⟨_,.list ho hc hd q⟩,c1,Nat.succ_le_succ c2⟩
 | pick k ds=>
  obtain ⟨i,d',e,nn,r⟩:=i
  obtain ⟨q,c1,c2⟩:=ih _ _ (List.all_eq_true.mp c d' (List.mem_of_getElem? (Ib▸nn))) r
  have:pyD W.nu (n + 1) (.pick k ds)=pyD W.nu n d':=by
   show (match W.nu[k]? with | some i=>(match nth ds i with | some d=>pyD W.nu n d | none=>PyData.none) | none=>PyData.none)=_
   rw [e];dsimp only;rw [nn]
  rw [this]
  exact ⟨q,c1,Nat.le_succ_of_le c2⟩
 | _=>exact ffF c
theorem Bx {h:Heap} {n:Nat}:∀ d v,C6 n d=true→Rd B W h d v→JJ h v (pyD W.nu n d) n:=by
 induction n with
 | zero=>exact fun d v c zz=>ffF c
 | succ n ih=>exact fun d v c r=>OU ih c r
theorem EqR.reads {h:Heap} {v u:Value} {p q:PyData} {as bs:List Addr} {k:Nat} (r1:Reads h v p as) (r2:Reads h u q bs) (c1:p.canLay0=true) (c2:q.canLay0=true) (d1:p.depth≤k):EqR k h v u (PyData.eqv p q):=by
 have room:∀ A:Around,A.units + k < cLine→A.units + min p.depth q.depth < cLine:=fun A l=>by
  have:=Nat.min_le_left p.depth q.depth;omega
 refine ⟨fun A s e l=>?_,fun A s e l=>?_,fun A s e l=>?_,fun e=>?_⟩
 ·subst e;exact eqAt_reads _ _ _ _ _ _ _ _ r1 r2 c1 c2 (room A l)
 ·subst e;exact rcAt_reads r1 r2 c1 c2 (room A l)
 ·subst e;exact rcNeAt_reads r1 r2 c1 c2 (room A l)
 ·subst e
  rw [Reads.unique _ _ _ _ _ c1 r1 r2];exact eqv_refl _ c2
noncomputable def RAI (h:Heap):List Value→List PyData→Prop
 | [],ps=>ps=[]
 | v::vs,ps=>∃ p qs as bs,ps=p::qs∧Reads h v p as∧ReadsAll h vs qs bs
theorem GJ {h:Heap} {vs:List Value} {ps:List PyData} {as:List Addr} (r:ReadsAll h vs ps as):RAI h vs ps :=
 ReadsAll.casesOn (motive_2:=fun vs ps zz zz=>RAI h vs ps) r rfl fun r rs=>⟨_,_,_,_,rfl,r,rs⟩
theorem LR.reads {h:Heap} {k:Nat} {vs:List Value}:∀ {us:List Value} {ps qs:List PyData} {as bs:List Addr},ReadsAll h vs ps as→ReadsAll h us qs bs→PyData.canLayAll0 ps=true→PyData.canLayAll0 qs=true→
  PyData.depthAll ps≤k→∃ r,LR k h vs us r∧(vs.length≠us.length→r=false):=by
 induction vs with
 | nil=>
  intro us ps qs as bs r1 r2 c1 c2 d
  cases us with
  | nil=>exact ⟨true,LR.nil,fun h=>absurd rfl h⟩
  | cons u us=>exact ⟨false,LR.nil_cons,fun zz=>rfl⟩
 | cons v vs ih=>
  intro us ps qs as bs r1 r2 c1 c2 d
  cases us with
  | nil=>exact ⟨false,LR.cons_nil,fun zz=>rfl⟩
  | cons u us=>
   obtain ⟨p,ps,_,_,rfl,z1,z1'⟩:=GJ r1
   obtain ⟨q,qs,_,_,rfl,z2,z2'⟩:=GJ r2
   rw [show PyData.canLayAll0 (p::ps)=(p.canLay0&&PyData.canLayAll0 ps) from rfl,Bool.and_eq_true] at c1
   rw [show PyData.canLayAll0 (q::qs)=(q.canLay0&&PyData.canLayAll0 qs) from rfl,Bool.and_eq_true] at c2
   have d':max p.depth (PyData.depthAll ps)≤k:=d
   obtain ⟨r,hr,hl⟩:=ih z1' z2' c1.2 c2.2 (Nat.le_trans (Nat.le_max_right _ _) d')
   exact ⟨_,LR.cons (EqR.reads z1 z2 c1.1 c2.1 (Nat.le_trans (Nat.le_max_left _ _) d')) hr,fun n=>by rw [hl (fun e=>n (congrArg (· + 1) e)),Bool.and_false]⟩
theorem J7 {a b:List D} (h:both a b=true):Ej 60 a=true∧Ej 60 b=true:=by
 unfold both at h
 cases q:Ej 60 a with
 | false=>rw [q] at h;cases h
 | true=>rw [q] at h;exact ⟨rfl,h⟩
theorem LR.both {h:Heap} {a b:List D} {vs us:List Value} (c:both a b=true) (ra:RdL B W h a vs) (rb:RdL B W h b us):∃ r,LR 60 h vs us r∧(vs.length≠us.length→r=false):=by
 obtain ⟨c1,c2⟩:=J7 c
 obtain ⟨⟨as,r1⟩,x1,y1⟩:=Cq Bx c1 ra
 obtain ⟨⟨bs,r2⟩,x2,y2⟩:=Cq Bx c2 rb
 exact LR.reads r1 r2 x1 x2 y1
theorem EqR.same {h:Heap} {d:D} {v u:Value} (c:C6 60 d=true) (rv:Rd B W h d v) (ru:Rd B W h d u):EqR 60 h v u true:=by
 obtain ⟨⟨as,r1⟩,x1,y1⟩:=Bx _ _ c rv
 obtain ⟨⟨bs,r2⟩,x2,y2⟩:=Bx _ _ c ru
 have:=EqR.reads r1 r2 x1 x2 y1
 rwa [eqv_refl _ x1] at this
theorem LR.le {k k':Nat} {h:Heap} {vs us:List Value} {r:Bool} (x:LR k h vs us r) (l:k≤k'):LR k' h vs us r :=
 let ⟨e,a,b⟩:=x;⟨e,fun j h1 h2=>(a j h1 h2).le l,b⟩
theorem RdL.length {h:Heap}:∀ {ds:List D} {vs:List Value},RdL B W h ds vs→vs.length=ds.length:=by
 intro ds
 induction ds with
 | nil=>
  intro _ r
  rw [show _=[] from r.inv];rfl
 | cons d ds ih=>
  intro _ r
  obtain ⟨v,us,e,_,r⟩:=r.inv
  rw [e];exact congrArg (· + 1) (ih r)
end
section
open PySem PySem.W
variable {B:Bs} {F:Fv} {C:Value} {W W':Wd} {σ:St} {s:Shared}
open SeqAt
theorem R7 {x y:Str}:(x == y)=Ap (nm x) (nm y):=by
 cases q:Ap (nm x) (nm y) with
 | true=>rw [Aj (AW.mp q)];simp
 | false=>
  cases q':x == y with
  | false=>rfl
  | true=>rw [eq_of_beq q',AW.mpr rfl] at q;cases q
theorem RQ {b c:Array UInt8} {l m:List Nat} (hb:b.toList.map (·.toNat)=l) (hc:c.toList.map (·.toNat)=m):(b.toList == c.toList)=Ap l m:=by
 subst hb hc
 cases q:Ap (b.toList.map (·.toNat)) (c.toList.map (·.toNat)) with
 | true=>
  have:=AW.mp q
  have h2:b.toList=c.toList:=List.map_inj_right (fun x y h=>UInt8.toNat_inj.mp h) |>.mp this
  simp [h2]
 | false=>
  cases q':b.toList == c.toList with
  | false=>rfl
  | true=>rw [eq_of_beq q',AW.mpr rfl] at q;cases q
theorem VO {a b:Int}:(a == b)=LQ a b:=by
 cases q:LQ a b with
 | true=>rw [Gn.mp q];simp
 | false=>
  cases q':a == b with
  | false=>rfl
  | true=>rw [eq_of_beq q',Gn.mpr rfl] at q;cases q
theorem UE {a b:Bool}:(a == b)=Go a b:=by cases a<;>cases b<;>rfl
theorem EqR.int {h:Heap} {a b:Int} {t u:Tok}:EqR 0 h (.int a t) (.int b u) (LQ a b):=by
 rw [←VO]
 exact ⟨fun A s zz zz=>EqAt.int_int a t b u,fun A s zz zz=>RcAt.int_int a t b u,fun A s zz zz=>RcNeAt.int_int a t b u,fun q=>by injection q with q _;simp [q]⟩
theorem EqR.str {h:Heap} {a b:Str} {t u:Tok}:EqR 0 h (.str a t) (.str b u) (Ap (nm a) (nm b)):=by
 rw [←R7]
 exact ⟨fun A s zz zz=>EqAt.str_str a t b u,fun A s zz zz=>RcAt.str_str a t b u,fun A s zz zz=>RcNeAt.str_str a t b u,fun q=>by injection q with q _;simp [q]⟩
theorem EqR.bool {h:Heap} {a b:Bool}:EqR 0 h (.bool a) (.bool b) (Go a b):=by
 rw [←UE]
 exact ⟨fun A s zz zz=>EqAt.bool_bool a b,fun A s zz zz=>RcAt.bool_bool a b,fun A s zz zz=>RcNeAt.bool_bool a b,fun q=>by injection q with q;simp [q]⟩
theorem EqR.none {h:Heap}:EqR 0 h .none .none true :=
 ⟨fun A s zz zz=>EqAt.same _,fun A s zz zz=>RcAt.none_none,fun A s zz zz=>RcNeAt.none_none,fun q=>rfl⟩
theorem EqR.str_tuple {h:Heap} {a:Str} {t:Tok} {l:Addr} {vs:Array Value} (x:h.IsTuple l vs):EqR 0 h (.str a t) (.ref l) false :=
 ⟨fun A s e u=>EqAt.str_tuple a t (e▸x) (by omega),fun A s e u=>RcAt.str_tuple a t (e▸x) (by omega),fun A s e u=>RcNeAt.str_tuple a t (e▸x) (by omega),fun q=>by cases q⟩
theorem EqR.tuple_str {h:Heap} {a:Str} {t:Tok} {l:Addr} {vs:Array Value} (x:h.IsTuple l vs):EqR 0 h (.ref l) (.str a t) false :=
 ⟨fun A s e u=>EqAt.tuple_str a t (e▸x) (by omega),fun A s e u=>RcAt.tuple_str a t (e▸x) (by omega),fun A s e u=>RcNeAt.tuple_str a t (e▸x) (by omega),fun q=>by cases q⟩
theorem RF {h:Heap} {a b:D} {r:Bool} {v u:Value} (e:eqA a b=some r) (ra:Rd B W h a v) (rb:Rd B W h b u):EqR 0 h v u r:=by
 have ia:=ra.inv
 have ib:=rb.inv
 clear ra rb
 cases a with
 | non=>
  cases b<;>first | exact nsF e | skip
  rw [show v=_ from ia,show u=_ from ib,←AB e];exact EqR.none
 | boo x=>
  cases b<;>first | exact nsF e | skip
  rw [show v=_ from ia,show u=_ from ib,←AB e];exact EqR.bool
 | int x=>
  cases b<;>first | exact nsF e | skip
  obtain ⟨t,ea⟩:=ia
  obtain ⟨t2,eb⟩:=ib
  rw [ea,eb,←AB e];exact EqR.int
 | byt x=>
  cases b<;>first | exact nsF e | skip
  obtain ⟨x,t,ea,qa⟩:=ia
  obtain ⟨x2,t2,eb,qb⟩:=ib
  rw [ea,eb,←AB e,←RQ qa qb];exact EqR.bytes
 | _=>exact nsF e
noncomputable def UX (B:Bs) (W:Wd) (h:Heap) (n:Nat):Prop:=∀ a b r v u,eqP n a b=some r→Rd B W h a v→Rd B W h b u→EqR (n + 60) h v u r
noncomputable def Lc (B:Bs) (W:Wd) (h:Heap) (n:Nat):Prop:=∀ a b r vs us,Tn n a b=some r→RdL B W h a vs→RdL B W h b us→LR (n + 60) h vs us r
theorem To {h:Heap} {n:Nat} (ih:Lc B W h n):UX B W h (n + 1):=fun a b r v u e ra rb=>by
 change XO (Tn n) a b=some r at e
 unfold XO at e
 cases ta:BL a with
 | some x=>
  obtain ⟨p,vs,rfl,hx,rx⟩:=(BU ta▸ra).tup_inv
  rw [ta] at e
  dsimp only at e
  cases tb:BL b with
  | some y=>
   obtain ⟨q,us,rfl,hy,ry⟩:=(BU tb▸rb).tup_inv
   rw [tb] at e
   exact (EqR.tuple hx hy (ih _ _ _ _ _ e rx ry)).le (by omega)
  | none=>
   rw [tb] at e
   dsimp only at e
   cases sb:strOf b with
   | none=>rw [sb] at e;cases e
   | some y=>
    obtain ⟨y,t,rfl,_⟩:=(BY sb▸rb).str_inv
    rw [sb] at e;cases e
    exact (EqR.tuple_str hx).le (by omega)
 | none=>
 rw [ta] at e
 dsimp only at e
 cases sa:strOf a with
 | some x=>
  obtain ⟨x,t,rfl,hx⟩:=(BY sa▸ra).str_inv
  rw [sa] at e
  dsimp only at e
  cases sb:strOf b with
  | some y=>
   obtain ⟨y,t,rfl,hy⟩:=(BY sb▸rb).str_inv
   rw [sb,←hx,←hy] at e
   rw [←AB e]
   exact EqR.str.le (by omega)
  | none=>
   rw [sb] at e
   dsimp only at e
   cases tb:BL b with
   | none=>rw [tb] at e;cases e
   | some y=>
    obtain ⟨q,us,rfl,hy,_⟩:=(BU tb▸rb).tup_inv
    rw [tb] at e;cases e
    exact (EqR.str_tuple hy).le (by omega)
 | none=>
 rw [sa] at e
 dsimp only at e
 cases la:BI a with
 | none=>rw [la] at e;exact (RF e ra rb).le (by omega)
 | some x=>
  rw [la] at e
  dsimp only at e
  cases lb:BI b with
  | none=>rw [lb] at e;cases e
  | some y=>
   obtain ⟨p,vs,rfl,_,hx,rx⟩:=(Bc la▸ra).lst_inv
   obtain ⟨q,us,rfl,_,hy,ry⟩:=(Bc lb▸rb).lst_inv
   rw [lb] at e
   dsimp only at e
   have l1:=rx.length
   have l2:=ry.length
   rw [Array.length_toList] at l1 l2
   cases q:Nat.beq x.length y.length with
   | true=>
    have q':=AI q
    rw [q] at e
    exact (EqR.list hx hy (by omega) (ih _ _ _ _ _ e rx ry)).le (by omega)
   | false=>
    have q':=Nat.ne_of_beq_eq_false q
    rw [q] at e;cases e
    exact (EqR.list_len (k:=0) hx hy (by omega)).le (by omega)
theorem RE {h:Heap} {n:Nat} (ih:UX B W h n) (ihs:Lc B W h n):Lc B W h (n + 1):=fun a b r vs us e ra rb=>by
 have ia:=ra.inv
 have ib:=rb.inv
 clear ra rb
 cases a with
 | nil=>
  obtain rfl:vs=[]:=ia
  cases b with
  | nil=>obtain rfl:us=[]:=ib;cases e;exact LR.nil
  | cons y ys=>obtain ⟨u,us,rfl,_⟩:=ib;cases e;exact LR.nil_cons
 | cons x xs=>
  obtain ⟨v,vs,rfl,r1,r1'⟩:=ia
  cases b with
  | nil=>obtain rfl:us=[]:=ib;cases e;exact LR.cons_nil
  | cons y ys=>
   obtain ⟨u,us,rfl,r2,r2'⟩:=ib
   change (match eqP n x y with
    | some true=>Tn n xs ys
    | some false=>(match both xs ys with | true=>some false | false=>none)
    | none=>none)=some r at e
   cases q:eqP n x y with
   | none=>rw [q] at e;cases e
   | some b=>
    have h1:=(ih _ _ _ _ _ q r1 r2).le (show n + 60≤n + 1 + 60 by omega)
    rw [q] at e
    cases b with
    | true=>exact Bool.true_and r▸LR.cons h1 ((ihs _ _ _ _ _ e r1' r2').le (by omega))
    | false=>
     cases c:both xs ys with
     | false=>rw [c] at e;cases e
     | true=>
      rw [c] at e;cases e
      obtain ⟨r0,h2,_⟩:=LR.both c r1' r2'
      exact Bool.false_and r0▸LR.cons h1 (h2.le (show 60≤n + 1 + 60 by omega))
theorem XN {h:Heap}:∀ n,UX B W h n∧Lc B W h n:=fun n=>by
 induction n with
 | zero=>exact ⟨fun a b r v u e zz zz=>nsF e,fun a b r v u e zz zz=>nsF e⟩
 | succ n ih=>exact ⟨To ih.2,RE ih.1 ih.2⟩
theorem HC {h:Heap} {n:Nat} {a b:D} {r:Bool} {v u:Value} (e:eqP n a b=some r) (ra:Rd B W h a v) (rb:Rd B W h b u):EqR (n + 60) h v u r:=(XN n).1 _ _ _ _ _ e ra rb
theorem NW {g:D→Option Bool} {ds:List D} {l:List Nat}:∀ {q:List Nat×List Nat},Lx g ds l=some q→
  ∀ i∈l,∃ d b,nth ds i=some d∧g d=some b∧(if b=true then i∈q.1 else i∈q.2):=by
 induction l with
 | nil=>exact fun zz i m=>by cases m
 | cons j r ih=>
  intro q h i m
  refine AO (show ((nth ds j).bind fun d=>(g d).bind fun b=>(Lx g ds r).bind fun q=>some (match b with | true=>(j::q.1,q.2) | false=>(q.1,j::q.2)))=some q from h) fun d hn h=>AO h fun b hg h=>AO h fun q' hr h=>?_
  rw [←AB h]
  rcases List.mem_cons.mp m with e1 | m
  ·refine ⟨d,b,e1▸hn,hg,?_⟩
   rw [e1]
   cases b with
   | true=>exact (if_pos rfl).mpr (.head _)
   | false=>exact (if_neg nofun).mpr (.head _)
  ·obtain ⟨d',b',x,y,z⟩:=ih hr i m
   refine ⟨d',b',x,y,?_⟩
   cases b' with
   | true=>
    refine (if_pos rfl).mpr ?_
    replace z:i∈q'.1:=z
    cases b with
    | true=>exact .tail _ z
    | false=>exact z
   | false=>
    refine (if_neg nofun).mpr ?_
    replace z:i∈q'.2:=z
    cases b with
    | true=>exact z
    | false=>exact .tail _ z
theorem OG {k i:Nat} {t f:List Nat} {b:Bool} (G:Good B F W σ s) (e:W.nu[k]? = some i) (m:if b=true then i∈t else i∈f) :
  ∃ σ',(Out.ok b,σ')∈WI k σ (t,f)∧Good B F W σ' s:=by
 cases t with
 | nil=>
  cases b with
  | true=>simp at m
  | false=>exact ⟨σ,.head _,G⟩
 | cons x t=>
  cases f with
  | nil=>
   cases b with
   | true=>exact ⟨σ,.head _,G⟩
   | false=>simp at m
  | cons y f=>
   cases b with
   | true=>exact ⟨_,.head _,G.setCand e (by simpa using m)⟩
   | false=>exact ⟨_,.tail _ (.head _),G.setCand e (by simpa using m)⟩
noncomputable def Po (B:Bs) (F:Fv) (W:Wd) (s:Shared) (n:Nat):Prop:=∀ a b v u σ,Rd B W s.heap a v→Rd B W s.heap b u→Gh B F W s σ (deq n a b) (fun r=>EqR (n + 80) s.heap v u r)
noncomputable def Ld (B:Bs) (F:Fv) (W:Wd) (s:Shared) (n:Nat):Prop:=∀ a b vs us σ,RdL B W s.heap a vs→RdL B W s.heap b us→Gh B F W s σ (RK n a b) (fun r=>LR (n + 80) s.heap vs us r)
theorem Jv {p:Nat×List D} {g:D→Option Bool} {v:Value} {P:Bool→Prop} {m:M Bool} (ra:Rd B W s.heap (.pick p.1 p.2) v) (hg:∀ d b,Rd B W s.heap d v→g d=some b→P b) (hm:Gh B F W s σ m P) :
  Gh B F W s σ (K2 g p m) P:=fun G outs ho=>by
 unfold K2 at ho
 cases hp:Lx g p.2 (DR σ p.1 p.2.length) with
 | none=>rw [hp] at ho;exact hm G outs ho
 | some q=>
  rw [hp] at ho;cases ho
  obtain ⟨i,d',e1,e2,r'⟩:=ra.pick_inv
  obtain ⟨d0,b0,x,y,z⟩:=NW hp i (G.cand e1 e2)
  rw [e2] at x;cases x
  obtain ⟨σ',m,G'⟩:=OG G e1 z
  exact ⟨b0,σ',m,G',hg _ _ r' y⟩
theorem HG {n:Nat} {a b:D} {v u:Value} (ra:Rd B W s.heap a v) (rb:Rd B W s.heap b u):Gh B F W s σ (opt (eqP 12 a b)) (fun r=>EqR (n + 1 + 80) s.heap v u r) :=
 Gh.opt fun r hr=>(HC hr ra rb).le (by omega)
theorem T7 {n:Nat} (ih1:Po B F W s n) (ih2:Ld B F W s n) (hn:n + 1≤60):Po B F W s (n + 1):=fun a b v u σ ra rb=>by
 have step:∀ {σ:St} {m:M Bool},Gh B F W s σ m (fun r=>EqR (n + 80) s.heap v u r)→Gh B F W s σ m (fun r=>EqR (n + 1 + 80) s.heap v u r):=fun h=>h.mono fun r x=>x.le (by omega)
 show Gh B F W s σ (XR (deq n) (RK n) a b) _
 unfold XR
 cases hs:SG a b with
 | true=>
  unfold SG at hs
  cases q:same a b with
  | false=>rw [q] at hs;cases hs
  | true=>
   rw [q] at hs
   have:=Dx q;subst this
   have hs':C6 60 a=true:=hs
   exact Gh.pure ((EqR.same hs' ra rb).le (show 60≤n + 1 + 80 by omega))
 | false=>
  try dsimp only
  cases pa:pickOf a with
  | some p=>
   try dsimp only
   cases pb:pickOf b with
   | some q=>
    exact Gh.bind (A7 6 a σ ra) fun a' σ1 h1=>Gh.bind (A7 6 b σ1 rb) fun b' σ2 h2=>step (ih1 _ _ _ _ _ h1.1 h2.1)
   | none=>
    exact Jv (Ey pa▸ra) (fun d c r e=>(HC e r rb).le (show 12 + 60≤n + 1 + 80 by omega)) (Gh.bind (A7 6 a σ ra) fun a' σ1 h1=>step (ih1 _ _ _ _ _ h1.1 rb))
  | none=>
   try dsimp only
   cases pb:pickOf b with
   | some q=>
    exact Jv (Ey pb▸rb) (fun d c r e=>(HC e ra r).le (show 12 + 60≤n + 1 + 80 by omega)) (Gh.bind (A7 6 b σ rb) fun b' σ1 h1=>step (ih1 _ _ _ _ _ ra h1.1))
   | none=>
    try dsimp only
    cases ta:BL a with
    | some x=>
     cases tb:BL b with
     | some y=>
      obtain ⟨l1,vs,rfl,hx,rx⟩:=(BU ta▸ra).tup_inv
      obtain ⟨l2,us,rfl,hy,ry⟩:=(BU tb▸rb).tup_inv
      exact (ih2 _ _ _ _ _ rx ry).mono fun r l=>(EqR.tuple hx hy l).le (by omega)
     | none=>exact HG ra rb
    | none=>
     cases la:BI a with
     | none=>exact HG ra rb
     | some x=>
      cases lb:BI b with
      | none=>exact HG ra rb
      | some y=>
       obtain ⟨l1,vs,rfl,_,hx,rx⟩:=(Bc la▸ra).lst_inv
       obtain ⟨l2,us,rfl,_,hy,ry⟩:=(Bc lb▸rb).lst_inv
       have l1':vs.size=x.length:=by simpa using RdL.length rx
       have l2':us.size=y.length:=by simpa using RdL.length ry
       try dsimp only
       cases q:Nat.beq x.length y.length with
       | true=>
        have q':=AI q
        exact (ih2 _ _ _ _ _ rx ry).mono fun r l=>(EqR.list hx hy (by omega) l).le (by omega)
       | false=>
        have q':=Nat.ne_of_beq_eq_false q
        exact Gh.pure ((EqR.list_len (k:=0) hx hy (by omega)).le (by omega))
theorem RJ {n:Nat} (ih1:Po B F W s n) (ih2:Ld B F W s n) (hn:n + 1≤60):Ld B F W s (n + 1):=fun a b vs us σ ra rb=>by
 have ia:=ra.inv
 have ib:=rb.inv
 clear ra rb
 cases a with
 | nil=>
  obtain rfl:vs=[]:=ia
  cases b with
  | nil=>obtain rfl:us=[]:=ib;exact Gh.pure LR.nil
  | cons y ys=>obtain ⟨u,us,rfl,_⟩:=ib;exact Gh.pure LR.nil_cons
 | cons x xs=>
  obtain ⟨v,vs,rfl,r1,r1'⟩:=ia
  cases b with
  | nil=>obtain rfl:us=[]:=ib;exact Gh.pure LR.cons_nil
  | cons y ys=>
   obtain ⟨u,us,rfl,r2,r2'⟩:=ib
   show Gh B F W s σ (match Nat.beq xs.length ys.length with
    | true=>do match←deq n x y with
     | true=>RK n xs ys
     | false=>(match both xs ys with | true=>pure false | false=>bad)
    | false=>(match both (x::xs) (y::ys) with | true=>pure false | false=>bad)) _
   cases q:Nat.beq xs.length ys.length with
   | true=>
    refine Gh.bind (ih1 _ _ _ _ _ r1 r2) fun b σ' h1=>?_
    cases b with
    | true=>
     refine (ih2 _ _ _ _ _ r1' r2').mono fun r l=>?_
     have:=LR.cons (h1.le (show n + 80≤n + 1 + 80 by omega)) (l.le (show n + 80≤n + 1 + 80 by omega))
     simpa using this
    | false=>
     cases c:both xs ys with
     | false=>exact Gh.bad
     | true=>
      obtain ⟨r0,h2,_⟩:=LR.both c r1' r2'
      have:=LR.cons (h1.le (show n + 80≤n + 1 + 80 by omega)) (h2.le (show 60≤n + 1 + 80 by omega))
      exact Gh.pure (by simpa using this)
   | false=>
    cases c:both (x::xs) (y::ys) with
    | false=>exact Gh.bad
    | true=>
     obtain ⟨r0,h2,h3⟩:=LR.both c (.cons _ v _ vs r1 r1') (.cons _ u _ us r2 r2')
     have q':=Nat.ne_of_beq_eq_false q
     have l1:=RdL.length r1'
     have l2:=RdL.length r2'
     rw [h3 (by simp;omega)] at h2
     exact Gh.pure (h2.le (by omega))
theorem XQ:∀ n,n≤60→Po B F W s n∧Ld B F W s n:=fun n=>by
 induction n with
 | zero=>
  intro _
  exact ⟨fun a b v u σ zz zz=>Gh.bad,fun a b vs us σ zz zz=>(by rw [show RK 0 a b=bad by cases a<;>cases b<;>rfl];exact Gh.bad)⟩
 | succ n ih=>exact fun hn=>⟨T7 (ih (by omega)).1 (ih (by omega)).2 hn,RJ (ih (by omega)).1 (ih (by omega)).2 hn⟩
theorem OE {n:Nat} {a b:D} {v u:Value} {σ:St} (hn:n≤60) (ra:Rd B W s.heap a v) (rb:Rd B W s.heap b u):Gh B F W s σ (deq n a b) (fun r=>EqR (n + 80) s.heap v u r):=(XQ n hn).1 _ _ _ _ _ ra rb
end
section
open PySem PySem.W
variable {B:Bs} {F:Fv} {C:Value} {W W':Wd} {σ:St} {s:Shared}
open SeqAt
theorem Good.room (G:Good B F W σ s) {k:Nat} (h:k≤1000):F.A.units + k < cLine:=by
 have h1:=G.units
 have h2:=G.dep
 have:cLine=9900:=rfl
 omega
theorem Good.deepOk (G:Good B F W σ s) {k:Nat} (h:k≤500):F.A.depth + k < recursionLimit:=by
 have h1:=G.depth
 have h2:=G.dep
 have:recursionLimit=1000:=rfl
 omega
theorem Ok.ofGh {α β:Type} {t:Sem α} {m:M β} {P:β→Prop} {R:Wd→Heap→β→α→Prop} (h1:Gh B F W s σ m P)
  (h2:∀ b σ',Good B F W σ' s→P b→∃ v,R W s.heap b v∧∀ Q E,Q v s→wpAny (mdl B) F.A t Q E s):Ok B C F W σ s t m R:=fun G outs ho=>by
 obtain ⟨b,σ',x,G',p⟩:=h1 G outs ho
 obtain ⟨v,r,k⟩:=h2 b σ' G' p
 exact k _ _ ⟨b,W,σ',x,G',Step.refl B,r⟩
theorem PV {op:Cm} {a b:Int} {c:Bool} (h:RO op a b=some c) :
  (op=.lt∧c=decide (a < b))∨(op=.le∧c=decide (a≤b))∨(op=.gt∧c=decide (b < a))∨(op=.ge∧c=decide (b≤a)):=by
 cases op<;>first | exact nsF h | (have h:=AB h;first | exact .inl ⟨rfl,h.symm⟩ | exact .inr (.inl ⟨rfl,h.symm⟩) | exact .inr (.inr (.inl ⟨rfl,h.symm⟩)) | exact .inr (.inr (.inr ⟨rfl,h.symm⟩)))
noncomputable def HM (op:Cm) (v u:Value) (c:Bool):Prop:=∃ n t m k,v=.int n t∧u=.int m k∧RO op n m=some c
theorem QP {a b:Cm} (h:Kh a b=true):a=b:=by cases a<;>first | exact ffF h | (cases b<;>first | rfl | exact ffF h)
theorem TS {d:D} (h:isInt d=true):∃ n,d=.int n:=by cases d<;>first | exact ffF h | exact ⟨_,rfl⟩
theorem Hc {op:Cm} {a b:D} {r:Bool}:∀ {l:List ((Cm×D×D)×Bool)},Gd op a b l=some r→((op,a,b),r)∈l
 | ((o,x,y),q)::t,h=>by
  change (match Kh o op&&(same x a&&same y b) with | true=>some q | false=>Gd op a b t)=some r at h
  cases e:(Kh o op&&(same x a&&same y b)) with
  | true=>
   rw [e] at h;cases h
   simp only [Bool.and_eq_true] at e
   have e1:o=op:=QP e.1
   rw [e1,Dx e.2.1,Dx e.2.2];exact .head _
  | false=>rw [e] at h;exact .tail _ (Hc h)
theorem Hm {l:List D} (ha:allInts l=true) {i:Nat} {d:D} (h:nth l i=some d):∃ n,d=.int n:=TS (List.all_eq_true.mp ha d (List.mem_of_getElem? (Ib▸h)))
theorem J4 {op:Cm} {a b e:D} {va vb:Value} {h:Heap} (x:OS op a b=some e) (ra:Rd B W h a va) (rb:Rd B W h b vb):∃ c,e=.boo c∧HM op va vb c:=by
 unfold OS at x
 cases ia:C2 a with
 | none=>rw [ia] at x;cases x
 | some n=>
  cases ib:C2 b with
  | none=>rw [ia,ib] at x;cases x
  | some m=>
   rw [ia,ib] at x
   obtain ⟨t,rfl⟩:=(C1 ia▸ra).int_inv
   obtain ⟨u,rfl⟩:=(C1 ib▸rb).int_inv
   simp only at x
   cases q:RO op n m with
   | none=>rw [q] at x;cases x
   | some c=>rw [q] at x;cases x;exact ⟨c,rfl,n,t,m,u,rfl,rfl,q⟩
theorem N5 {op:Cm} (h:PG op=true) (a b:Int):∃ c,RO op a b=some c:=by cases op<;>first | cases h;done | exact ⟨_,rfl⟩
theorem Iy {f:D→Option D} {d:D} {v:Value} {P:D→Prop} (r:Rd B W s.heap d v)
  (h:∀ d0 e0,Rd B W s.heap d0 v→BX d0=false→f d0=some e0→∃ c,e0=.boo c∧P (.boo c)) (hP:∀ e c,Rd B W s.heap e (.bool c)→P (.boo c)→P e) :
  Gh B F W s σ (Bl f d) P:=fun G outs ho=>by
 unfold Bl at ho
 cases hh:DN f 6 σ d with
 | none=>rw [hh] at ho;cases ho
 | some e=>
  rw [hh] at ho;cases ho
  obtain ⟨d0,e0,a,b,c,q⟩:=EV G 6 d e r hh
  obtain ⟨b',rfl,hp⟩:=h d0 e0 a b c
  exact ⟨e,σ,.head _,G,hP e b' (q W s.heap (.bool b') (List.prefix_refl _) (.boo b')) hp⟩
theorem Ly {op:Cm} {a b:D} {va vb:Value} {p q:Nat×List D} (pa:a=.pick p.1 p.2) (pb:b=.pick q.1 q.2) (ra:Rd B W s.heap a va) (rb:Rd B W s.heap b vb) (q2:PG op=true) (q3:allInts p.2=true) (q4:allInts q.2=true) :
  Gh B F W s σ (NY op a b) (HM op va vb):=by
 subst pa pb
 obtain ⟨i,d1,e1,e2,r1⟩:=ra.pick_inv
 obtain ⟨j,d2,e3,e4,r2⟩:=rb.pick_inv
 obtain ⟨n,rfl⟩:=Hm q3 e2
 obtain ⟨m,rfl⟩:=Hm q4 e4
 obtain ⟨t,rfl⟩:=r1.int_inv
 obtain ⟨u,rfl⟩:=r2.int_inv
 intro G outs ho
 unfold NY at ho
 cases hf:Gd op (.pick p.1 p.2) (.pick q.1 q.2) σ.cmps with
 | some r=>
  rw [hf] at ho;cases ho
  obtain ⟨i',j',n',m',x1,x2,x3,x4,x5⟩:=G.picks.cmps _ (Hc hf)
  rw [e1] at x1;cases x1;rw [e3] at x2;cases x2
  rw [e2] at x3;cases x3;rw [e4] at x4;cases x4
  exact ⟨r,σ,.head _,G,n,t,m,u,rfl,rfl,x5⟩
 | none=>
  rw [hf] at ho;cases ho
  obtain ⟨c,hc⟩:=N5 q2 n m
  have G':Good B F W {σ with cmps:=((op,.pick p.1 p.2,.pick q.1 q.2),c)::σ.cmps} s :=
   {G with picks:=⟨G.picks.len,G.picks.cand,fun z hz=>by
     rcases List.mem_cons.mp hz with rfl | hz
     ·exact ⟨i,j,n,m,e1,e3,e2,e4,hc⟩
     ·exact G.picks.cmps z hz⟩}
  cases c with
  | true=>exact ⟨true,_,.head _,G',n,t,m,u,rfl,rfl,hc⟩
  | false=>exact ⟨false,_,.tail _ (.head _),G',n,t,m,u,rfl,rfl,hc⟩
theorem Ef {op:Cm} {a b:D} {va vb:Value} (ra:Rd B W s.heap a va) (rb:Rd B W s.heap b vb):Gh B F W s σ (Lz op a b) (HM op va vb):=by
 have fin:∀ σ e c,Rd B W s.heap e (.bool c)→HM op va vb c→Gh B F W s σ (Bn e) (HM op va vb):=fun σ e c r p=>
  (Dk r).mono fun b hb=>Value.bool.inj hb▸p
 have low:∀ σ a b,Rd B W s.heap a va→Rd B W s.heap b vb→Gh B F W s σ (do let r←Fe (OS op) a b;Bn r) (HM op va vb):=by
  intro σ a b ra rb
  refine Gh.bind (P:=fun e=>∃ c,Rd B W s.heap e (.bool c)∧HM op va vb c) ?_ fun e σ' ⟨c,r,p⟩=>fin σ' e c r p
  have base:∀ a0 b0 e0,Rd B W s.heap a0 va→Rd B W s.heap b0 vb→OS op a0 b0=some e0→∃ c,e0=.boo c∧∃ c',Rd B W s.heap (.boo c) (.bool c')∧HM op va vb c':=fun a0 b0 e0 x y z=>by
   obtain ⟨c,rfl,p⟩:=J4 z x y
   exact ⟨c,rfl,c,.boo c,p⟩
  have hP:∀ e c,Rd B W s.heap e (.bool c)→(∃ c',Rd B W s.heap (.boo c) (.bool c')∧HM op va vb c')→∃ c',Rd B W s.heap e (.bool c')∧HM op va vb c':=fun e c r ⟨c',r',p⟩=>by
   exact ⟨c,r,Value.bool.inj (show Value.bool c'=.bool c from r'.inv)▸p⟩
  unfold Fe
  cases pa:BX a with
  | false=>
   cases pb:BX b with
   | false=>
    refine Gh.opt fun e he=>?_
    obtain ⟨c,rfl,c',p⟩:=base a b e ra rb he
    exact ⟨c',p⟩
   | true=>exact Iy rb (fun b0 e0 x y z=>base a b0 e0 ra x z) hP
  | true=>
   cases pb:BX b with
   | false=>exact Iy ra (fun a0 e0 x y z=>base a0 b e0 x rb z) hP
   | true=>
    refine Gh.bind (A7 6 a σ ra) fun a0 σ' hq=>?_
    exact Iy rb (fun b0 e0 x y z=>base a0 b0 e0 hq.1 x z) hP
 have forced:∀ σ,Gh B F W s σ (do let a←BN 6 a;let b←BN 6 b;let r←opt (OS op a b);Bn r) (HM op va vb):=fun σ=>
  Gh.bind (A7 6 a σ ra) fun a0 σ1 h1=>Gh.bind (A7 6 b σ1 rb) fun b0 σ2 h2=>Gh.bind (P:=fun e=>∃ c,Rd B W s.heap e (.bool c)∧HM op va vb c)
   (Gh.opt fun e he=>by obtain ⟨c,rfl,p⟩:=J4 he h1.1 h2.1;exact ⟨c,.boo c,p⟩) fun e σ' ⟨c,r,p⟩=>fin σ' e c r p
 unfold Lz
 cases pa:pickOf a with
 | none=>exact low σ a b ra rb
 | some p=>
  cases pb:pickOf b with
  | none=>exact low σ a b ra rb
  | some q=>
   dsimp only
   cases q1:Nat.beq p.1 q.1 with
   | true=>exact forced σ
   | false=>
    cases q2:(PG op&&(allInts p.2&&allInts q.2)) with
    | false=>exact forced σ
    | true=>
     simp only [Bool.and_eq_true] at q2
     exact Ly (Ey pa) (Ey pb) ra rb q2.1 q2.2.1 q2.2.2
noncomputable def QQ:Cm→CmpOp
 | .eq=>.Eq | .ne=>.NotEq | .lt=>.Lt | .le=>.LtE | .gt=>.Gt | .ge=>.GtE | .isNone=>.Is | .isNotNone=>.IsNot | .isin=>.In | .notin=>.NotIn
theorem Dz {op:Cm} {v u:Value} {c:Bool} (x:HM op v u c) {A:Around} {Q:VP} {E:VP} (h:Q (.bool c) s):wpAny (mdl B) A (compareOp (QQ op) v u) Q E s:=by
 obtain ⟨n,t,m,k,rfl,rfl,e⟩:=x
 rcases PV e with ⟨rfl,rfl⟩ | ⟨rfl,rfl⟩ | ⟨rfl,rfl⟩ | ⟨rfl,rfl⟩
 ·exact PyProof.Rows.lt_int h
 ·exact PyProof.Rows.le_int h
 ·exact PyProof.Rows.gt_int h
 ·exact PyProof.Rows.ge_int h
theorem JG {n:Nat} {ds:List D} (h:Ej n ds=true):∀ d∈ds,C6 n d=true:=List.all_eq_true.mp h
theorem Tl {a:D} {va:Value} (ra:Rd B W s.heap a va) (c3:C6 60 a=true) {ds:List D}:∀ {us:List Value},RdL B W s.heap ds us→(∀ d∈ds,C6 60 d=true)→∃ e:Nat→Bool,∀ j (h:j < us.length),EqR 200 s.heap us[j] va (e j):=by
 induction ds with
 | nil=>intro us hr _;rw [show us=_ from hr.inv];exact ⟨fun zz=>false,fun j h=>absurd h (Nat.not_lt_zero _)⟩
 | cons d ds ih=>
  intro us hr hc
  obtain ⟨u,us,e,r0,rs0⟩:=hr.inv
  rw [e]
  obtain ⟨e,he⟩:=ih rs0 fun d hd=>hc d (.tail _ hd)
  obtain ⟨⟨as,r1⟩,x1,y1⟩:=Bx _ _ (hc d (.head _)) r0
  obtain ⟨⟨bs,r2⟩,x2,y2⟩:=Bx _ _ c3 ra
  refine ⟨fun j=>match j with | 0=>PyData.eqv (pyD W.nu 60 d) (pyD W.nu 60 a) | j + 1=>e j,fun j h=>?_⟩
  cases j with
  | zero=>exact (EqR.reads r1 r2 x1 x2 y1).le (by omega)
  | succ j=>exact he j (Nat.lt_of_succ_lt_succ h)
theorem TX {a:D} {va:Value} (ra:Rd B W s.heap a va) {l:List D}:∀ {vs:List Value} {σ:St},RdL B W s.heap l vs→
  Gh B F W s σ (KA a l) (fun r=>∃ e:Nat→Bool,(∀ j (h:j < vs.length),EqR 200 s.heap vs[j] va (e j))∧r=(List.range vs.length).any e):=by
 induction l with
 | nil=>intro vs σ r;rw [show vs=_ from r.inv];exact Gh.pure ⟨fun zz=>false,fun j h=>absurd h (Nat.not_lt_zero _),rfl⟩
 | cons x l ih=>
  intro vs σ r
  obtain ⟨v,us,ev,r,rs⟩:=r.inv
  rw [ev]
  have app:∀ (c q:Bool),EqR 200 s.heap v va c→(∃ e:Nat→Bool,(∀ j (h:j < us.length),EqR 200 s.heap us[j] va (e j))∧q=(c || (List.range us.length).any e))→∃ e:Nat→Bool,(∀ j (h:j < (v::us).length),EqR 200 s.heap (v::us)[j] va (e j))∧q=(List.range (v::us).length).any e:=fun c q hc h=>by
   obtain ⟨e,he,hq⟩:=h
   refine ⟨fun j=>match j with | 0=>c | j + 1=>e j,fun j h=>?_,?_⟩
   ·cases j with
    | zero=>exact hc
    | succ j=>exact he j (Nat.lt_of_succ_lt_succ h)
   ·rw [hq,List.length_cons,List.range_succ_eq_map,List.any_cons,List.any_map];rfl
  show Gh B F W s σ (do match←deq 30 x a with
   | true=>(match both l [a] with | true=>pure true | false=>bad)
   | false=>KA a l) _
  refine Gh.bind (OE (by omega) r ra) fun b σ' hb=>?_
  cases b with
  | true=>
   cases c:both l [a] with
   | false=>exact Gh.bad
   | true=>
    obtain ⟨c1,c2⟩:=J7 c
    obtain ⟨e,he⟩:=Tl ra (JG c2 a (.head _)) rs (JG c1)
    exact Gh.pure (app true true (hb.le (by omega)) ⟨e,he,rfl⟩)
  | false=>exact (ih rs).mono fun r ⟨e,he,hr⟩=>app false r (hb.le (by omega)) ⟨e,he,hr⟩
open Classical in
theorem Vg {vs:Array Value} {va:Value} {h:Heap} {e:Nat→Bool} (he:∀ j (h':j < vs.toList.length),EqR 200 h vs.toList[j] va (e j)) :
  ∃ f:Value→Bool,(∀ y,y∈vs→EqR 200 h y va (f y))∧vs.any f=(List.range vs.toList.length).any e:=by
 refine ⟨fun y=>decide (∃ j,∃ h:j < vs.toList.length,vs.toList[j]=y∧e j=true),fun y hy=>?_,?_⟩
 ·obtain ⟨j,hj,rfl⟩:=Array.mem_iff_getElem.mp hy
  by_cases q:∃ j',∃ h:j' < vs.toList.length,vs.toList[j']=vs[j]∧e j'=true
  ·show EqR 200 h vs[j] va (decide _)
   rw [decide_eq_true q]
   obtain ⟨j',h',q1,q2⟩:=q
   have:=he j' h'
   rw [q1,q2] at this;exact this
  ·show EqR 200 h vs[j] va (decide _)
   rw [decide_eq_false q]
   have:=he j (by simpa using hj)
   have hf:e j=false:=by
    cases x:e j with
    | false=>rfl
    | true=>exact absurd ⟨j,by simpa using hj,by simp,x⟩ q
   rw [hf] at this
   simpa using this
 ·rw [Bool.eq_iff_iff,List.any_eq_true,Array.any_eq_true]
  constructor
  ·rintro ⟨i,hi,hx⟩
   obtain ⟨j,hj,_,hj2⟩:=of_decide_eq_true hx
   exact ⟨j,List.mem_range.mpr hj,hj2⟩
  ·rintro ⟨j,hj,hx⟩
   have hj':=List.mem_range.mp hj
   refine ⟨j,by simpa using hj',decide_eq_true ⟨j,hj',by simp,hx⟩⟩
theorem GY {d:D} {v:Value} (r:Rd B W s.heap d v):Gh B F W s σ (Il d) (fun b=>b=(v == Value.none)):=by
 refine Gh.bind (A7 6 d σ r) fun d' σ' h=>?_
 have i:=h.1.inv
 clear h r
 cases d' with
 | non=>exact Gh.pure (by rw [show v=_ from i];rfl)
 | boo=>exact Gh.pure (by rw [show v=_ from i];rfl)
 | int=>exact Gh.pure (by obtain ⟨_,e⟩:=i;rw [e];rfl)
 | str=>exact Gh.pure (by obtain ⟨_,_,e,_⟩:=i;rw [e];rfl)
 | byt=>exact Gh.pure (by obtain ⟨_,_,e,_⟩:=i;rw [e];rfl)
 | tup=>exact Gh.pure (by obtain ⟨_,_,e,_⟩:=i;rw [e];rfl)
 | lst=>exact Gh.pure (by obtain ⟨_,_,e,_⟩:=i;rw [e];rfl)
 | _=>exact Gh.bad
noncomputable def ZA (W:Wd) (h:Heap) (va:Value) (vs:Array Value) (B:Bs) (q:Bool):Prop:=∃ f:Value→Bool,(∀ y,y∈vs→EqR 200 h y va (f y))∧vs.any f=q
theorem TY {a:D} {va:Value} {l:List D} {vs:Array Value} (g:Bool→Bool) (ra:Rd B W s.heap a va) (rl:RdL B W s.heap l vs.toList) :
  Gh B F W s σ (do let r←KA a l;pure (g r)) (fun r=>∃ q,r=g q∧ZA W s.heap va vs B q) :=
 Gh.bind (TX ra rl) fun r σ' h=>Gh.pure (by
  obtain ⟨e,he,hq⟩:=h
  obtain ⟨f,h1,h2⟩:=Vg he
  exact ⟨r,rfl,f,h1,h2.trans hq.symm⟩)
theorem Sd {a b:D} {va vb:Value} {g:Bool→Bool} {op:CmpOp} (ra:Rd B W s.heap a va) (rb:Rd B W s.heap b vb)
  (ht:∀ {l:Addr} {vs:Array Value} {Q E:VP} (f:Value→Bool),s.heap.IsTuple l vs→(∀ y,y∈vs→EqAt F.A.in1 s y va (f y))→Q (.bool (g (vs.any f))) s→wpAny (mdl B) F.A (compareOp op va (.ref l)) Q E s)
  (hl:∀ {l:Addr} {vs:Array Value} {Q E:VP} (f:Value→Bool),s.heap.IsList l vs→(∀ y,y∈vs→EqAt F.A.in1 s y va (f y))→Q (.bool (g (vs.any f))) s→wpAny (mdl B) F.A (compareOp op va (.ref l)) Q E s) :
  Ok B C F W σ s (compareOp op va vb) (UN g a b) Vt:=by
 have i:=rb.inv
 clear rb
 cases b with
 | tup ds=>
  obtain ⟨l,vs,rfl,hx,rl⟩:=i
  refine Ok.ofGh (TY g ra rl) fun r σ' G ⟨q,hr,f,h1,h2⟩=>⟨.bool r,rfl,fun Q E h=>ht f hx (fun y hy=>(h1 y hy).eq _ _ rfl (by rw [Around.in1_units];have:=G.room (k:=300) (by omega);omega)) (by rw [h2,←hr];exact h)⟩
 | lst ds=>
  obtain ⟨l,vs,rfl,_,hx,rl⟩:=i
  refine Ok.ofGh (TY g ra rl) fun r σ' G ⟨q,hr,f,h1,h2⟩=>⟨.bool r,rfl,fun Q E h=>hl f hx (fun y hy=>(h1 y hy).eq _ _ rfl (by rw [Around.in1_units];have:=G.room (k:=300) (by omega);omega)) (by rw [h2,←hr];exact h)⟩
 | _=>exact Ok.bad
theorem Bb {op:Cm} {a b:D} {va vb:Value} (ra:Rd B W s.heap a va) (rb:Rd B W s.heap b vb) (hN:(op=.isNone∨op=.isNotNone)→vb=.none) :
  Ok B C F W σ s (compareOp (QQ op) va vb) (A8 op a b) Vt:=by
 cases op with
 | eq=>
  exact Ok.ofGh (OE (n:=30) (by omega) ra rb) fun r σ' G h=>⟨.bool r,rfl,fun Q E hq=>h.rc F.A s rfl (G.room (by omega)) _ _ E Q hq⟩
 | ne=>
  refine Ok.ofGh (P:=fun r=>EqR 200 s.heap va vb (!r)) (Gh.bind (OE (n:=30) (by omega) ra rb) fun r σ' h=>Gh.pure ?_) fun r σ' G h=>⟨.bool r,rfl,fun Q E hq=>?_⟩
  ·rw [Bool.not_not];exact h.le (by omega)
  ·exact h.ne F.A s rfl (G.room (by omega)) _ _ E Q (by rw [Bool.not_not];exact hq)
 | isNone=>
  have:=hN (.inl rfl);subst this
  exact Ok.ofGh (GY ra) fun r σ' G h=>⟨.bool r,rfl,fun Q E hq=>is_none (by rw [←h];exact hq)⟩
 | isNotNone=>
  have:=hN (.inr rfl);subst this
  refine Ok.ofGh (P:=fun r=>r=!(va == Value.none)) (Gh.bind (GY ra) fun r σ' h=>Gh.pure (by rw [h])) fun r σ' G h=>⟨.bool r,rfl,fun Q E hq=>isNot_none (by rw [←h];exact hq)⟩
 | isin=>exact Ok.ghost (m:=BN 6 b) (g:=UN id a) (A7 6 b σ rb) fun b' σ' h=>Sd ra h.1 (fun f hx he h=>in_tupleAt f hx he h) (fun f hx he h=>in_listAt f hx he h)
 | notin=>exact Ok.ghost (m:=BN 6 b) (g:=UN Bool.not a) (A7 6 b σ rb) fun b' σ' h=>Sd ra h.1 (fun f hx he h=>notIn_tupleAt f hx he h) (fun f hx he h=>notIn_listAt f hx he h)
 | lt=>exact Ok.ofGh (Ef (op:=.lt) ra rb) fun r σ' G h=>⟨.bool r,rfl,fun Q E hq=>Dz h hq⟩
 | le=>exact Ok.ofGh (Ef (op:=.le) ra rb) fun r σ' G h=>⟨.bool r,rfl,fun Q E hq=>Dz h hq⟩
 | gt=>exact Ok.ofGh (Ef (op:=.gt) ra rb) fun r σ' G h=>⟨.bool r,rfl,fun Q E hq=>Dz h hq⟩
 | ge=>exact Ok.ofGh (Ef (op:=.ge) ra rb) fun r σ' G h=>⟨.bool r,rfl,fun Q E hq=>Dz h hq⟩
end
section
open PySem PySem.W
variable {B:Bs} {F:Fv} {C:Value} {W W':Wd} {σ:St} {s:Shared}
open PyProof.Rows
theorem Ok.val (b:AK B) {α:Type} {d:α} {t:Sem Value} {v:Value} {R:Wd→Heap→α→Value→Prop} (tk:Nat) (h:∀ Q E,Q v {s with toks:=tk}→wpAny (mdl B) F.A t Q E s) (r:R W s.heap d v) :
  Ok B C F W σ s t (Pure.pure d:M α) R:=fun G outs ho=>by
 cases ho
 exact h _ _ ⟨d,W,σ,.head _,G.tok b,Step.refl B,r⟩
theorem Ok.val0 {α:Type} {d:α} {t:Sem Value} {v:Value} {R:Wd→Heap→α→Value→Prop} (h:∀ Q E,Q v s→wpAny (mdl B) F.A t Q E s) (r:R W s.heap d v) :
  Ok B C F W σ s t (Pure.pure d:M α) R:=fun G outs ho=>by
 cases ho
 exact h _ _ ⟨d,W,σ,.head _,G,Step.refl B,r⟩
theorem Ok.grow (b:AK B) {α:Type} {d:α} {t:Sem Value} {v:Value} {R:Wd→Heap→α→Value→Prop} {h':Heap} (tk:Nat) (k:∀ b o,s.heap.get? b=some o→h'.get? b=some o)
  (h:∀ Q E,Q v {s with heap:=h',toks:=tk}→wpAny (mdl B) F.A t Q E s) (r:Good B F W σ s→Step B F W s.heap W h'→R W h' d v) :
  Ok B C F W σ s t (Pure.pure d:M α) R:=fun G outs ho=>by
 cases ho
 obtain ⟨G',st⟩:=G.grow b (t:=tk) k
 exact h _ _ ⟨d,W,σ,.head _,G',st,r G st⟩
theorem RdL.append {h:Heap} {a b:List D} {us:List Value}:∀ {vs:List Value},RdL B W h a vs→RdL B W h b us→RdL B W h (a++b) (vs++us):=by
 induction a with
 | nil=>exact fun r y=>by rw [show _=_ from r.inv];exact y
 | cons d ds ih=>
  intro vs r y
  obtain ⟨v,ws,ev,x,r⟩:=r.inv
  rw [ev];exact .cons d v _ _ x (ih r y)
theorem RdL.nth {h:Heap} {ds:List D}:∀ {vs:List Value} {i:Nat} {d:D},RdL B W h ds vs→nth ds i=some d→∃ v,vs[i]? = some v∧Rd B W h d v:=by
 induction ds with
 | nil=>exact fun r e=>nsF e
 | cons d ds ih=>
  intro vs i d' r e
  obtain ⟨v,us,ev,x,r⟩:=r.inv
  rw [ev]
  cases i with
  | zero=>exact ⟨v,rfl,AB e▸x⟩
  | succ i=>exact (ih r (show Mine.nth ds i=some d' from e):∃ w,us[i]? = some w∧Rd B W h d' w)
theorem RdL.drop {h:Heap}:∀ {ds:List D} {vs:List Value} (n:Nat),RdL B W h ds vs→RdL B W h (ds.drop n) (vs.drop n)
 | _,_,0,r=>by simpa using r
 | _,_,n + 1,.nil=>by simpa using RdL.nil
 | _,_,n + 1,.cons d v ds vs x r=>by simpa using RdL.drop n r
theorem RdL.take {h:Heap}:∀ {ds:List D} {vs:List Value} (n:Nat),RdL B W h ds vs→RdL B W h (ds.take n) (vs.take n)
 | _,_,0,r=>by simpa using RdL.nil
 | _,_,n + 1,.nil=>by simpa using RdL.nil
 | _,_,n + 1,.cons d v ds vs x r=>by simpa using RdL.cons d v _ _ x (RdL.take n r)
theorem Ag:2 ^ 20≤sizeLine:=by decide
theorem Co {h:Heap} {vs:List Value}:(h.push {cls:=.type "tuple",data:=.seq vs.toArray}).IsTuple h.objs.size vs.toArray:=⟨_,Heap.get?_push_size _ rfl,rfl,0,rfl⟩
theorem MG {h:Heap} {vs:List Value}:(h.push {cls:=.type "list",data:=.seq vs.toArray}).IsList h.objs.size vs.toArray:=⟨_,Heap.get?_push_size _ rfl,rfl,0,rfl⟩
theorem Good.freshS (G:Good B F W σ s):s.heap.objs.size≠B.S:=fun q=>by
 obtain ⟨o,e,_⟩:=G.srcList
 exact Nat.ne_of_lt (Heap.lt_size e) q.symm
theorem L3 (b:AK B) {ds:List D} {vs:List Value} (r:RdL B W s.heap ds vs) (hn:ds.length≤2 ^ 20):Ok B C F W σ s (newTuple vs) (Pure.pure (.tup ds):M D) (RdV B) :=
 Ok.grow b s.toks (h':=s.heap.push {cls:=.type "tuple",data:=.seq vs.toArray}) (fun c o e=>AE _ e)
  (fun Q E h=>wpAny_newTuple h (by rw [RdL.length r];exact Nat.le_trans hn Ag)) fun G st=>.tup _ vs.toArray ds Co (by simpa using G.rdL b st r)
theorem Nc (b:AK B) {ds:List D} {vs:List Value} (r:RdL B W s.heap ds vs) (hn:ds.length≤2 ^ 20):Ok B C F W σ s (newList vs) (Pure.pure (.lst ds):M D) (RdV B) :=
 Ok.grow b s.toks (h':=s.heap.push {cls:=.type "list",data:=.seq vs.toArray}) (fun c o e=>AE _ e)
  (fun Q E h=>wpAny_newList h (by rw [RdL.length r];exact Nat.le_trans hn Ag)) fun G st=>.lst _ vs.toArray ds G.freshS MG (by simpa using G.rdL b st r)
noncomputable def Mt:Bo→Operator | .add=>.Add | .sub=>.Sub | .pow=>.Pow
theorem Qe (x y:Str):nm (x++y)=nm x++nm y:=by
 obtain ⟨a⟩:=x;obtain ⟨b⟩:=y
 show (a++b).toList=_
 simp [nm]
theorem Jd {h:Heap} {a:Addr} {vs:Array Value} (x:h.IsTuple a vs):∃ n dd sl,h.get? a=some ⟨.type "tuple",dd,.seq vs n,sl⟩:=by
 obtain ⟨⟨cls,dd,data,sl⟩,ho,hc,n,hd⟩:=x
 simp only at hc hd
 subst hc hd
 exact ⟨n,dd,sl,ho⟩
theorem MP {h:Heap} {a:Addr} {vs:Array Value} (x:h.IsList a vs):∃ n dd sl,h.get? a=some ⟨.type "list",dd,.seq vs n,sl⟩:=by
 obtain ⟨⟨cls,dd,data,sl⟩,ho,hc,n,hd⟩:=x
 simp only at hc hd
 subst hc hd
 exact ⟨n,dd,sl,ho⟩
theorem Vj (b:AK B) {op:Bo} {n m:Int} {t u:Tok} {e:D} (he:binI op n m=some e):Ok B C F W σ s (binaryOp (Mt op) (.int n t) (.int m u)) (Pure.pure e:M D) (RdV B):=by
 cases op with
 | add=>cases he;exact Ok.val b (s.toks + 1) (fun Q E h=>wpAny_add_int h) (.int _ _)
 | sub=>cases he;exact Ok.val b (s.toks + 1) (fun Q E h=>sub_int h) (.int _ _)
 | pow=>
  unfold binI at he
  simp only at he
  cases q:(LQ n 2&&(leI 1 m&&leI m 600)) with
  | false=>rw [q] at he;cases he
  | true=>
   rw [q] at he;cases he
   simp only [Bool.and_eq_true,leI,decide_eq_true_eq,Gn] at q
   obtain ⟨rfl,q1,q2⟩:=q
   refine Ok.val b (s.toks + 1) (fun Q E h=>?_) (.int _ s.toks)
   refine PySem.AutoIntOps.pow_4 (by omega) (by simp;omega) (by decide) (by decide) ?_ h
   have:(Builtin.Int.intBits 2:Nat)=2:=by decide +kernel
   rw [this]
   unfold Builtin.Int.intTooBig bitsLine
   simp;omega
theorem add_str (b:AK B) {l m:List Nat} {a c:Str} {t u:Tok} {e:D} (q:nm a=l) (q':nm c=m) (he:XZ l m=some e):Ok B C F W σ s (binaryOp .Add (.str a t) (.str c u)) (Pure.pure e:M D) (RdV B):=by
 unfold XZ at he
 cases z:Nat.ble (l.length + m.length) 100000 with
 | false=>rw [z] at he;cases he
 | true=>
  rw [z] at he;cases he
  have z':=AF z
  have hl:a.length + c.length≤sizeLine:=by
   have e1:a.length=l.length:=by rw [←q];rfl
   have e2:c.length=m.length:=by rw [←q'];rfl
   have:=Ag
   omega
  intro G outs ho
  cases ho
  refine PySem.SB.add (fun t' k=>?_) hl
  exact ⟨_,W,σ,.head _,G.tok b,Step.refl B,.str _ t' _ (by rw [Qe,q,q'])⟩
theorem J8 {ds es:List D} {h:Heap} {vs us:Array Value} (z:Nat.ble (ds.length + es.length) 100=true) (r1:RdL B W h ds vs.toList) (r2:RdL B W h es us.toList):vs.size + us.size≤sizeLine:=by
 have z':=AF z
 have l1:=RdL.length r1
 have l2:=RdL.length r2
 have:=Ag
 simp only [Array.length_toList] at l1 l2
 omega
theorem Vp (b:AK B) {ds es:List D} {a c:Addr} {vs us:Array Value} {e:D} (hx:s.heap.IsTuple a vs) (hy:s.heap.IsTuple c us) (r1:RdL B W s.heap ds vs.toList) (r2:RdL B W s.heap es us.toList) (he:Vr ds es=some e) :
  Ok B C F W σ s (binaryOp .Add (.ref a) (.ref c)) (Pure.pure e:M D) (RdV B):=by
 unfold Vr at he
 cases z:Nat.ble (ds.length + es.length) 100 with
 | false=>rw [z] at he;cases he
 | true=>
  rw [z] at he;cases he
  have hsz:=J8 z r1 r2
  obtain ⟨n,dd,sl,ho⟩:=Jd hx
  obtain ⟨n2,dd2,sl2,ho2⟩:=Jd hy
  by_cases hv:vs=#[]
  ·have:ds=[]:=by
    rw [hv] at r1;cases r1;rfl
   subst this
   exact Ok.val0 (v:=.ref c) (fun Q E h=>concat_meets ⟨_,ho,rfl⟩ ⟨_,ho2,rfl⟩ noFill_tuple_add seq_tuple_add PySem.F.slot_tuple_add PySem.F.entry_tuple_add (PySem.F.args_tuple_add_2 _ _) (tuple_addW0 a c vs us n n2 dd dd2 sl sl2 (by simp [hv])) ⟨ho,ho2,h⟩) (.tup c us _ hy (by simpa using r2))
  ·by_cases hw:us=#[]
   ·have:es=[]:=by rw [hw] at r2;cases r2;rfl
    subst this
    exact Ok.val0 (v:=.ref a) (fun Q E h=>concat_meets ⟨_,ho,rfl⟩ ⟨_,ho2,rfl⟩ noFill_tuple_add seq_tuple_add PySem.F.slot_tuple_add PySem.F.entry_tuple_add (PySem.F.args_tuple_add_2 _ _) (tuple_addW1 a c vs us n n2 dd dd2 sl sl2 (by simpa using hv) (by simp [hw])) ⟨ho,ho2,h⟩) (.tup a vs _ hx (by simpa using r1))
   ·exact Ok.grow b s.toks (v:=.ref s.heap.objs.size) (h':=s.heap.push {cls:=.type "tuple",data:=.seq (vs++us)}) (fun c o e=>AE _ e) (fun Q E h=>concat_meets ⟨_,ho,rfl⟩ ⟨_,ho2,rfl⟩ noFill_tuple_add seq_tuple_add PySem.F.slot_tuple_add PySem.F.entry_tuple_add (PySem.F.args_tuple_add_2 _ _) (tuple_addW2 a c vs us n n2 dd dd2 sl sl2 (by simpa using hv) (by simpa using hw) hsz) ⟨ho,ho2,h⟩)
     fun G st=>.tup _ (vs++us) _ ⟨_,Heap.get?_push_size _ rfl,rfl,0,rfl⟩ (by simpa using RdL.append (G.rdL b st r1) (G.rdL b st r2))
theorem Vq (b:AK B) {ds es:List D} {a c:Addr} {vs us:Array Value} {e:D} (hx:s.heap.IsList a vs) (hy:s.heap.IsList c us) (r1:RdL B W s.heap ds vs.toList) (r2:RdL B W s.heap es us.toList) (he:UP ds es=some e) :
  Ok B C F W σ s (binaryOp .Add (.ref a) (.ref c)) (Pure.pure e:M D) (RdV B):=by
 unfold UP at he
 cases z:Nat.ble (ds.length + es.length) 100 with
 | false=>rw [z] at he;cases he
 | true=>
  rw [z] at he;cases he
  have hsz:=J8 z r1 r2
  obtain ⟨n,dd,sl,ho⟩:=MP hx
  obtain ⟨n2,dd2,sl2,ho2⟩:=MP hy
  refine Ok.grow b s.toks (v:=.ref s.heap.objs.size) (h':=s.heap.push {cls:=.type "list",data:=.seq (vs++us)}) (fun c o e=>AE _ e) (fun Q E h=>?_)
   fun G st=>.lst _ (vs++us) _ G.freshS ⟨_,Heap.get?_push_size _ rfl,rfl,0,rfl⟩ (by simpa using RdL.append (G.rdL b st r1) (G.rdL b st r2))
  exact concat_meets ⟨_,ho,rfl⟩ ⟨_,ho2,rfl⟩ noFill_list_add seq_list_add PySem.F.slot_list_add PySem.F.entry_list_add (PySem.F.args_list_add_2 _ _)
   (list_addW a c vs us n n2 dd dd2 sl sl2 hsz) ⟨ho,ho2,h⟩
theorem YU (b:AK B) {x y e:D} {va vb:Value} (ra:Rd B W s.heap x va) (rb:Rd B W s.heap y vb) (he:Vl x y=some e):Ok B C F W σ s (binaryOp .Add va vb) (Pure.pure e:M D) (RdV B):=by
 have lists:(match BI x,BI y with | some a,some b=>UP a b | _,_=>none)=some e→Ok B C F W σ s (binaryOp .Add va vb) (Pure.pure e:M D) (RdV B):=fun he=>by
  cases ia:BI x with
  | none=>rw [ia] at he;cases he
  | some l=>
   cases ib:BI y with
   | none=>rw [ia,ib] at he;cases he
   | some m=>
    rw [ia,ib] at he
    obtain ⟨a,vs,rfl,_,hx,r1⟩:=(Bc ia▸ra).lst_inv
    obtain ⟨c,us,rfl,_,hy,r2⟩:=(Bc ib▸rb).lst_inv
    exact Vq b hx hy r1 r2 he
 have tups:(match BL x,BL y with | some a,some b=>Vr a b | _,_=>match BI x,BI y with | some a,some b=>UP a b | _,_=>none)=some e→Ok B C F W σ s (binaryOp .Add va vb) (Pure.pure e:M D) (RdV B):=fun he=>by
  cases ia:BL x with
  | none=>rw [ia] at he;exact lists he
  | some l=>
   cases ib:BL y with
   | none=>rw [ia,ib] at he;exact lists he
   | some m=>
    rw [ia,ib] at he
    obtain ⟨a,vs,rfl,hx,r1⟩:=(BU ia▸ra).tup_inv
    obtain ⟨c,us,rfl,hy,r2⟩:=(BU ib▸rb).tup_inv
    exact Vp b hx hy r1 r2 he
 unfold Vl at he
 cases ia:strOf x with
 | none=>rw [ia] at he;exact tups he
 | some l=>
  cases ib:strOf y with
  | none=>rw [ia,ib] at he;exact tups he
  | some m=>
   rw [ia,ib] at he
   obtain ⟨a,t,rfl,q⟩:=(BY ia▸ra).str_inv
   obtain ⟨c,u,rfl,q'⟩:=(BY ib▸rb).str_inv
   exact add_str b q q' he
theorem TT {op:Bo} (h:PI op=true):op=.add:=by cases op<;>first | rfl | cases h
theorem SZ (b:AK B) {op:Bo} {x y:D} {va vb:Value} (ra:Rd B W s.heap x va) (rb:Rd B W s.heap y vb) :
  Ok B C F W σ s (binaryOp (Mt op) va vb) (Fe (Vk op) x y) (RdV B):=by
 refine L4 ra rb fun σ x y e ra rb zz zz he=>?_
 have other:(match PI op with | true=>Vl x y | false=>none)=some e→Ok B C F W σ s (binaryOp (Mt op) va vb) (Pure.pure e:M D) (RdV B):=fun he=>by
  cases q:PI op with
  | false=>rw [q] at he;cases he
  | true=>rw [q] at he;rw [TT q];exact YU b ra rb he
 unfold Vk at he
 cases ia:C2 x with
 | none=>rw [ia] at he;exact other he
 | some n=>
  cases ib:C2 y with
  | none=>rw [ia,ib] at he;exact other he
  | some m=>
   rw [ia,ib] at he
   obtain ⟨t,rfl⟩:=(C1 ia▸ra).int_inv
   obtain ⟨u,rfl⟩:=(C1 ib▸rb).int_inv
   exact Vj b he
end
section
open PySem PySem.W
variable {B:Bs} {F:Fv} {C:Value} {W W':Wd} {σ:St} {s:Shared}
open PyProof.Rows
theorem Ho {slice:Expr} {o i:Value}:∃ ops,subscripted slice false o i=operate ops (getItem o i):=by
 cases slice with
 | Slice l u st p=>
  cases st with
  | none=>exact ⟨_,rfl⟩
  | some _=>exact ⟨_,rfl⟩
 | _=>exact ⟨_,rfl⟩
theorem DJ {A:Around} {value slice:Expr} {o i:Value} {T id:String} {Q:VP} {E:VP} (hT:s.TypeIs o T)
  (hl:typeLookup (.type T) "__getitem__" = pure (some (.builtin id))) (hg:wpAny (mdl B) A (getItem o i) Q E s):wpAny (mdl B) A (subscriptTail value slice o i) Q E s:=by
 obtain ⟨ops,e⟩:=Ho (slice:=slice) (o:=o) (i:=i)
 exact tail_any hT hl hg e
theorem E3 {vs:Array Value} {i:Nat} {v:Value} (h:vs.toList[i]? = some v):vs[i]? = some v:=by simpa using h
theorem Dw {i n:Nat} (h:i < n):seqIndex? (i:Int) n=some i:=by
 unfold seqIndex?
 have h1:¬ ((i:Int) < 0):=by omega
 simp [h1];omega
theorem MC {l:List D} {i:Int} {e:D} (h:Sp l i=some e):∃ j:Nat,i=(j:Int)∧j≤100000∧nth l j=some e:=by
 cases i with
 | negSucc j=>exact nsF h
 | ofNat j=>
  change (match Nat.ble j 100000 with | true=>nth l j | false=>none)=some e at h
  cases q:Nat.ble j 100000 with
  | false=>rw [q] at h;cases h
  | true=>rw [q] at h;exact ⟨j,rfl,AF q,h⟩
theorem UD {l:List Nat} {i:Int} {e:D} (h:XV l i=some e):∃ (j:Nat) (c:Nat),i=(j:Int)∧j≤100000∧nth l j=some c∧e=.str [c]:=by
 cases i with
 | negSucc j=>exact nsF h
 | ofNat j=>
  change (match Nat.ble j 100000 with | true=>(match nth l j with | some c=>some (D.str [c]) | none=>none) | false=>none)=some e at h
  cases q:Nat.ble j 100000 with
  | false=>rw [q] at h;cases h
  | true=>
   rw [q] at h
   cases z:nth l j with
   | none=>rw [z] at h;cases h
   | some c=>rw [z] at h;exact ⟨j,c,rfl,AF q,z,(AB h).symm⟩
section
variable {value slice:Expr} {e:D} {k:Int} {u:Tok}
theorem Un {a:Addr} {vs:Array Value} {ds:List D} (hx:s.heap.IsTuple a vs) (r:RdL B W s.heap ds vs.toList) (he:Sp ds k=some e) :
  Ok B C F W σ s (subscriptTail value slice (.ref a) (.int k u)) (Pure.pure e:M D) (RdV B):=by
 obtain ⟨j,ek,q',hn⟩:=MC he
 subst ek
 obtain ⟨v,h1,h2⟩:=RdL.nth r hn
 have hj:=Ia hn
 have hl:=RdL.length r
 rw [Array.length_toList] at hl
 exact Ok.val0 (v:=v) (fun Q E h=>DJ hx.typeIs slot_tuple_getitem.lookup (PyProof.Rows.getItem_tuple hx (by omega) (by omega) (Dw (i:=j) (by omega)) (E3 h1) h)) h2
theorem Up {a:Addr} {vs:Array Value} {ds:List D} (hx:s.heap.IsList a vs) (r:RdL B W s.heap ds vs.toList) (he:Sp ds k=some e) :
  Ok B C F W σ s (subscriptTail value slice (.ref a) (.int k u)) (Pure.pure e:M D) (RdV B):=by
 obtain ⟨j,ek,q',hn⟩:=MC he
 subst ek
 obtain ⟨v,h1,h2⟩:=RdL.nth r hn
 exact Ok.val0 (v:=v) (fun Q E h=>DJ hx.typeIs slot_list_getitem.lookup (wpAny_getItem_list (k:=(j:Int)) hx (by omega) (by omega) (E3 h1) h)) h2
theorem Uo (b:AK B) {a:Str} {t:Tok} (he:XV (nm a) k=some e):Ok B C F W σ s (subscriptTail value slice (.str a t) (.int k u)) (Pure.pure e:M D) (RdV B):=by
 obtain ⟨j,c,ek,q',z,ee⟩:=UD he
 rw [ek,ee]
 have hj:j < a.length:=Ia z
 rw [Ib] at z
 refine Ok.val b (s.toks + 1) (v:=.str ⟨#[c]⟩ s.toks) (fun Q E h=>DJ (T:="str") rfl PySem.F.slot_str_getitem.lookup (P.getItem_str (i:=(j:Int)) (by simp;omega) ?_ h)) (.str _ _ _ rfl)
 rw [Dw hj]
 have z':a.cps.toList[j]? = some c:=z
 rwa [Array.getElem?_toList] at z'
theorem Uz (b:AK B) {x y:D} {o i:Value} (rx:Rd B W s.heap x o) (ry:Rd B W s.heap y i) :
  Ok B C F W σ s (subscriptTail value slice o i) (Fe Wi x y) (RdV B):=by
 refine L4 rx ry fun σ x y e rx ry zz zz he=>?_
 unfold Wi at he
 cases q:C2 y with
 | none=>rw [q] at he;cases he
 | some k=>
 rw [q] at he
 replace he:Wj x k=some e:=he
 obtain ⟨u,ei⟩:=(C1 q▸ry).int_inv
 rw [ei]
 unfold Wj at he
 cases q1:BL x with
 | some l=>
  obtain ⟨a,vs,eo,hx,r⟩:=(BU q1▸rx).tup_inv
  rw [q1] at he;rw [eo]
  exact Un hx r he
 | none=>
 rw [q1] at he
 cases q2:BI x with
 | some l=>
  obtain ⟨a,vs,eo,_,hx,r⟩:=(Bc q2▸rx).lst_inv
  rw [q2] at he;rw [eo]
  exact Up hx r he
 | none=>
 rw [q2] at he
 cases q3:strOf x with
 | none=>rw [q3] at he;cases he
 | some l=>
  obtain ⟨a,t,eo,hl⟩:=(BY q3▸rx).str_inv
  rw [q3,←hl] at he;rw [eo]
  exact Uo b he
end
theorem Fa {A:Around} {e:Option Expr} {env:Env} {n:Option Nat} {Q:VP} {E:VP} (h:GO e=some n)
  (hq:∀ v tk,IsPart v (n.map fun (k:Nat)=>(k:Int))→(∀ k,n=some k→∃ t,v=.int (k:Int) t)→(n=none→v=.none)→Q v {s with toks:=tk}):wpAny (mdl B) A (evalPart e env) Q E s:=by
 cases e with
 | none=>
  rw [←AB (show some none=some n from h)] at hq
  rw [evalPart_none]
  exact AD (hq .none s.toks .none (fun k q=>nsF q) (fun zz=>rfl))
 | some e=>
  refine AO (show ((constOf e).bind fun c=>(YG c).bind fun i=>(Xz i).bind fun n=>some (some n))=some n from h) fun c hc h=>AO h fun i hi h=>AO h fun k hk h=>?_
  obtain ⟨kk,p,ee⟩:=C4 hc
  have e2:c=.int i:=IsS.of (P:=fun i=>c=.int i) hi (by cases c<;>first | exact trivial | exact rfl)
  have e3:i=(k:Int):=IsS.of (P:=fun k:Nat=>i=(k:Int)) hk (by cases i<;>first | exact trivial | exact rfl)
  rw [evalPart_some,ee,e2,e3,arm_eval_Constant]
  rw [←AB h] at hq
  exact wpAny_mkInt (hq _ _ (.int _ _) (fun k' q=>⟨_,by rw [AB q]⟩) (fun q=>snF q))
theorem Rb (u n:Nat) (hu:u≤n):Builtin.Slice.sliceAdjust none (some (u:Int)) 1 (n:Int)=(0,(u:Int)):=by
 unfold Builtin.Slice.sliceAdjust
 have h1:¬ ((1:Int) < 0):=by omega
 have h2:¬ ((u:Int) < 0):=by omega
 simp only [h1,h2,if_false]
 congr 1
 omega
theorem QL (u:Nat):Builtin.Slice.slicePlaces 0 (u:Int) 1=u:=by
 unfold Builtin.Slice.slicePlaces
 have h1:(1:Int) > 0:=by omega
 simp only [h1,if_true,Int.ediv_one]
 split<;>omega
theorem Hp {A:Around} {E:VP} {sl:Addr} {u n:Nat} {t:Tok} {Q:Int×Int×Nat→Shared→Prop} (hs:s.heap.IsSliceOf sl .none (.int u t) .none) (hu:u≤n) (h:Q (0,1,u) s) :
  wpAny (mdl B) A (Builtin.Slice.sliceApplied (.ref sl) (pure (n:Int))) Q E s:=by
 obtain ⟨os,hos,hcs,hds⟩:=id hs
 unfold Builtin.Slice.sliceApplied Builtin.Slice.sliceFields
 refine AA (AA (wpAny_field hos hds (x:=.none) rfl (AA (wpAny_field hos hds (x:=.int u t) rfl (AA (wpAny_field hos hds (x:=.none) rfl (AD ?_)))))))
 refine AA (slicePart_none ?_)
 show wpAny _ _ (if ((1:Int) == 0)=true then _ else _) _ _ s
 rw [if_neg (by decide)]
 refine AA (slicePart_none (AA (slicePart_int (AA (AD ?_)))))
 show wpAny _ _ (match Builtin.Slice.sliceAdjust none (some (u:Int)) 1 (n:Int) with | (lo,hi)=>pure (lo,(1:Int),Builtin.Slice.slicePlaces lo hi 1)) _ _ s
 rw [Rb u n hu]
 show wpAny _ _ (pure ((0:Int),(1:Int),Builtin.Slice.slicePlaces 0 (u:Int) 1)) _ _ s
 rw [QL u]
 exact AD h
theorem Uv (xs:Array Value) (u:Nat) (hu:u≤xs.size):((List.range u).filterMap fun (k:Nat)=>xs[((0:Int) + (k:Int) * 1).toNat]?).toArray=(xs.toList.take u).toArray:=by
 have e:(fun (k:Nat)=>xs[((0:Int) + (k:Int) * 1).toNat]?)=fun k=>xs[0 + k]?:=by
  funext k
  have:((0:Int) + (k:Int) * 1).toNat=0 + k:=by omega
  rw [this]
 rw [e]
 have:=pick_run xs 0 u
 rw [List.filterMap_map] at this
 have e2:((fun x=>xs[x]?)∘fun x=>0 + x)=fun k=>xs[0 + k]?:=rfl
 rw [e2] at this
 rw [this,List.drop_zero]
theorem G8 {A:Around} {E:VP} {t sl:Addr} {items:Array Value} {u:Nat} {tk:Tok} {Q:VP} (ht:IsTup s.heap t items) (hs:s.heap.IsSliceOf sl .none (.int u tk) .none) (hu:u < items.size)
  (h:Q (.ref s.heap.objs.size) {s with heap:=s.heap.push {cls:=.type "tuple",data:=.seq (items.toList.take u).toArray}})
  (hsz:items.size≤sizeLine):wpAny (mdl B) A (getItem (.ref t) (.ref sl)) Q E s:=by
 have hdrop:sizeOk (.seq (items.toList.take u).toArray):=by
  show (items.toList.take u).toArray.size≤sizeLine
  rw [List.size_toArray,List.length_take,Array.length_toList]
  omega
 obtain ⟨os,hos,hcs,hds⟩:=id hs
 have hTs:s.TypeIs (.ref sl) "slice":=⟨os,hos,hcs⟩
 unfold getItem
 try with_reducible refine AG ?_
 first | refine AA (AD ?_) | skip
 refine AA (wpAny_sequenceKey ht.typeIs (by decide) ?_)
 refine AA (wpAny_callSpecial?_slot (name:=Str.ofString "__getitem__") ht.typeIs slot_tuple_getitem
  (wpAny_call_entry slot_tuple_getitem ht.typeIs entry_tuple_getitem ?_ (args_tuple_getitem _ _)))
 show wpAny _ _ (Builtin.Tuple.tupleItemsOf (.ref t)>>=_) _ _ s
 refine AA (tupleItemsOf_ ht ?_)
 refine AA (wpAny_typeOf hTs ?_)
 rw [if_pos (by decide)]
 refine AA (Hp hs (Nat.le_of_lt hu) ?_)
 have hno:¬ (((0:Int) == 0&&(1:Int) == 1&&u == items.size)=true):=by
  have:(u == items.size)=false:=by rw [beq_eq_false_iff_ne];omega
  rw [this];simp
 show wpAny _ _ (if ((0:Int) == 0&&(1:Int) == 1&&u == items.size)=true then _ else _) _ _ s
 rw [if_neg hno,Uv items u (Nat.le_of_lt hu)]
 first
  | exact AA (m:=Builtin.Tuple.tupleExact _) (wpAny_newObj_type (AD ⟨_,rfl,AD h⟩) hdrop)
  | exact AA (m:=Builtin.Tuple.tupleExact _) (wpAny_newObj_type (AA (AD (AD ⟨_,rfl,AD h⟩))) hdrop)
  | exact AA (AA (m:=Builtin.Tuple.tupleExact _) (wpAny_newObj_type (AD (AD ⟨_,rfl,AD h⟩)) hdrop))
  | exact AA (AA (m:=Builtin.Tuple.tupleExact _) (wpAny_newObj_type (AD ⟨_,rfl,AD h⟩) hdrop))
theorem HS {l n:Nat} (h:EY l n=true):1≤l∧l≤n∧n≤100:=by
 simp only [EY,Bool.and_eq_true] at h
 exact ⟨AF h.1,AF h.2.1,AF h.2.2⟩
theorem QW {u n:Nat} (h:Sf u n=true):1≤u∧u < n∧n≤100:=by
 simp only [Sf,Bool.and_eq_true] at h
 refine ⟨AF h.1,?_,AF h.2.2⟩
 have:=h.2.1
 unfold Nat.blt at this
 exact AF this
noncomputable abbrev slH (s:Shared) (vl vu:Value) (tk:Nat):Shared:={s with heap:=s.heap.push {cls:=.type "slice",data:=.fields #[vl,vu,.none]},toks:=tk}
noncomputable def LY (n:Option Nat) (v:Value):Prop:=IsPart v (n.map fun (k:Nat)=>(k:Int))∧(∀ k,n=some k→∃ t,v=.int (k:Int) t)∧(n=none→v=.none)
section
variable {vl vu:Value} {tk:Nat} {value slice:Expr} {e:D} {l u:Option Nat} {a:Addr} {vs:Array Value} {ds:List D} {outs:List (Out D×St)}
theorem NP (b:AK B) (G:Good B F W σ (slH s vl vu tk)) {o2:Obj} (hd:Step B F W (slH s vl vu tk).heap W ((slH s vl vu tk).heap.push o2)→Rd B W ((slH s vl vu tk).heap.push o2) e (.ref (slH s vl vu tk).heap.objs.size)) :
  OkP B F W (slH s vl vu tk).heap [(Out.ok e,σ)] (RdV B) (Value.ref (slH s vl vu tk).heap.objs.size) {slH s vl vu tk with heap:=(slH s vl vu tk).heap.push o2}:=by
 obtain ⟨G2,st2⟩:=G.grow b (h':=(slH s vl vu tk).heap.push o2) (t:=tk) fun c o e=>AE _ e
 exact ⟨e,W,σ,.head _,G2,st2,hd st2⟩
theorem Wl (b:AK B) (pl:LY l vl) (pu:LY u vu) (hx:(slH s vl vu tk).heap.IsTuple a vs) (r:RdL B W (slH s vl vu tk).heap ds vs.toList) (he:YM ds l u=some e) :
  Ok B C F W σ (slH s vl vu tk) (subscriptTail value slice (.ref a) (.ref s.heap.objs.size)) (Pure.pure e:M D) (RdV B):=fun G outs ho=>by
 cases ho
 have hsl:∀ v w,vl=v→vu=w→(slH s vl vu tk).heap.IsSliceOf s.heap.objs.size v w .none:=fun v w e1 e2=>e1▸e2▸Heap.IsSliceOf.new s.heap vl vu .none
 have hlen:=RdL.length r
 rw [Array.length_toList] at hlen
 have hbig:=Ag
 refine DJ hx.typeIs slot_tuple_getitem.lookup ?_
 cases l with
 | some l=>
  cases u with
  | some u=>exact nsF he
  | none=>
   change (match EY l ds.length with | true=>some (D.tup (ds.drop l)) | false=>none)=some e at he
   cases q:EY l ds.length with
   | false=>rw [q] at he;cases he
   | true=>
    rw [q] at he
    obtain ⟨q1,q2,q3⟩:=HS q
    obtain ⟨t,e1⟩:=pl.2.1 l rfl
    refine getItem_tuple_from hx (hsl _ _ e1 (pu.2.2 rfl)) q1 (by omega) (NP b G fun st=>?_) (by omega)
    rw [←AB he]
    exact .tup _ (vs.toList.drop l).toArray _ Co (RdL.drop l (G.rdL b st r))
 | none=>
  cases u with
  | none=>exact nsF he
  | some u=>
   change (match Sf u ds.length with | true=>some (D.tup (ds.take u)) | false=>none)=some e at he
   cases q:Sf u ds.length with
   | false=>rw [q] at he;cases he
   | true=>
    rw [q] at he
    obtain ⟨q1,q2,q3⟩:=QW q
    obtain ⟨t,e1⟩:=pu.2.1 u rfl
    refine G8 hx (hsl _ _ (pl.2.2 rfl) e1) (by omega) (NP b G fun st=>?_) (by omega)
    rw [←AB he]
    exact .tup _ (vs.toList.take u).toArray _ Co (RdL.take u (G.rdL b st r))
theorem QN {l:Nat} (q:l≤vs.size):slicePick vs ((some l).map fun (k:Nat)=>(k:Int)) ((none:Option Nat).map fun (k:Nat)=>(k:Int)) none=(vs.toList.drop l).toArray:=by
 show slicePick vs (some (l:Int)) none none=_
 have e:sliceBounds (some (l:Int)) none none vs.size=((l:Int),(vs.size:Int),1):=by
  simp only [sliceBounds,Option.getD_none,show (1:Int) > 0 by decide,if_true,if_neg (show ¬ ((l:Int) < 0) by omega)]
  congr 1;omega
 rw [kmk_pick_nat _ e,List.take_of_length_le (by simp)]
theorem QM {u:Nat} (q:u≤vs.size):slicePick vs ((none:Option Nat).map fun (k:Nat)=>(k:Int)) ((some u).map fun (k:Nat)=>(k:Int)) none=(vs.toList.take u).toArray:=by
 show slicePick vs none (some (u:Int)) none=_
 have e:sliceBounds none (some (u:Int)) none vs.size=(((0:Nat):Int),(u:Int),1):=by
  simp only [sliceBounds,Option.getD_none,show (1:Int) > 0 by decide,if_true,if_neg (show ¬ ((u:Int) < 0) by omega)]
  congr 2;omega
 rw [kmk_pick_nat _ e,List.drop_zero,Nat.sub_zero]
theorem Wm (b:AK B) (pl:LY l vl) (pu:LY u vu) (hx:(slH s vl vu tk).heap.IsList a vs) (r:RdL B W (slH s vl vu tk).heap ds vs.toList) (he:YN ds l u=some e) :
  Ok B C F W σ (slH s vl vu tk) (subscriptTail value slice (.ref a) (.ref s.heap.objs.size)) (Pure.pure e:M D) (RdV B):=fun G outs ho=>by
 cases ho
 have hlen:=RdL.length r
 rw [Array.length_toList] at hlen
 have hbig:=Ag
 refine DJ hx.typeIs slot_list_getitem.lookup ?_
 obtain ⟨xs,hs,ee,rr⟩:∃ xs:List D,vs.size≤100∧e=.lst xs∧RdL B W (slH s vl vu tk).heap xs (slicePick vs (l.map fun (k:Nat)=>(k:Int)) (u.map fun (k:Nat)=>(k:Int)) none).toList:=by
  cases l with
  | some l=>
   cases u with
   | some u=>exact nsF he
   | none=>
    change (match EY l ds.length with | true=>some (D.lst (ds.drop l)) | false=>none)=some e at he
    cases q:EY l ds.length with
    | false=>rw [q] at he;cases he
    | true=>
     rw [q] at he
     obtain ⟨q1,q2,q3⟩:=HS q
     refine ⟨_,by omega,(AB he).symm,?_⟩
     rw [QN (by omega)]
     exact RdL.drop l r
  | none=>
   cases u with
   | none=>exact nsF he
   | some u=>
    change (match Nat.ble u ds.length&&Nat.ble ds.length 100 with | true=>some (D.lst (ds.take u)) | false=>none)=some e at he
    cases q:(Nat.ble u ds.length&&Nat.ble ds.length 100) with
    | false=>rw [q] at he;cases he
    | true=>
     rw [q] at he
     rw [Bool.and_eq_true] at q
     have q2:=AF q.1
     have q3:=AF q.2
     refine ⟨_,by omega,(AB he).symm,?_⟩
     rw [QM (by omega)]
     exact RdL.take u r
 exact wpAny_getItem_list_slice hx (Heap.IsSliceOf.new s.heap vl vu .none) pl.1 pu.1 .none (by simp) (NP b G fun st=>by
  rw [ee]
  exact .lst _ (slicePick vs (l.map fun (k:Nat)=>(k:Int)) (u.map fun (k:Nat)=>(k:Int)) none) _ G.freshS ⟨_,Heap.get?_push_size _ rfl,rfl,0,rfl⟩ (G.rdL b st rr)) (by omega)
end
theorem SX (b:AK B) {value:Expr} {le ue:Option Expr} {p pos:Pos} {l u:Option Nat} {x:D} {o:Value} (hl:GO le=some l) (hu:GO ue=some u) (rx:Rd B W s.heap x o) :
  Ok B C F W σ s (do let i←PySem.holding [o] (eval (.Slice le ue none p) F.env);standAt pos;subscriptTail value (.Slice le ue none p) o i) (Bl (KY l u) x) (RdV B):=by
 refine CW (α:=Unit) rx fun x e rx zz he=>?_
 intro G outs ho
 refine AA (AG (wpAny_Slice (Fa hl fun vl tk1 pl nl zl=>Fa hu fun vu tk2 pu nu zu=>?_)))
 rw [evalPart_none]
 refine AD (AA (wpAny_standAt ?_))
 obtain ⟨G1,st1⟩:=G.grow b (h':=(slH s vl vu tk2).heap) (t:=tk2) fun b o e=>AE _ e
 have go:Ok B C F W σ (slH s vl vu tk2) (subscriptTail value (.Slice le ue none p) o (.ref s.heap.objs.size)) (Pure.pure e:M D) (RdV B):=by
  unfold KY at he
  cases q1:BL x with
  | some ds=>
   obtain ⟨a,vs,eo,hx,r⟩:=(BU q1▸rx).tup_inv
   rw [q1] at he;rw [eo]
   exact Wl b ⟨pl,nl,zl⟩ ⟨pu,nu,zu⟩ (hx.push _) (G.rdL b st1 r) he
  | none=>
  rw [q1] at he
  cases q2:BI x with
  | none=>rw [q2] at he;cases he
  | some ds=>
   obtain ⟨a,vs,eo,_,hx,r⟩:=(Bc q2▸rx).lst_inv
   rw [q2] at he;rw [eo]
   exact Wm b ⟨pl,nl,zl⟩ ⟨pu,nu,zu⟩ (hx.push _) (G.rdL b st1 r) he
 refine AH (go G1 outs ho) (fun v s' h=>?_) fun e s' h=>?_
 ·obtain ⟨b',W',σ',h1,h2,h3,h4⟩:=h
  exact ⟨b',W',σ',h1,h2,st1.trans B G1 h3,h4⟩
 ·obtain ⟨σ',h1,h2⟩:=h
  exact ⟨σ',h1,h2.of_step st1⟩
end
section
open PySem PySem.W
variable {B:Bs} {F:Fv} {C:Value} {W W':Wd} {σ:St} {s:Shared}
open PyProof.Rows
noncomputable abbrev OkE (B:Bs) (C:Value) (F:Fv) (e:Expr) (m:M D):Prop:=∀ W σ s,Ok B C F W σ s (eval e F.env) m (RdV B)
noncomputable abbrev OkT (B:Bs) (C:Value) (F:Fv) (e:Expr) (m:M Bool):Prop:=∀ W σ s,Ok B C F W σ s (isTrue e F.env (eval e F.env)) m RdB
noncomputable def Ai:Expr→Prop
 | .Starred _ _=>False
 | _=>True
theorem AL {e:Expr} {r:List Expr} {env:Env} (h:Ai e):starEach (e::r) env=(false,eval e env)::starEach r env:=by cases e<;>first | rfl | exact h.elim
theorem Cw {l:List D} (h:small l=true):l.length≤2 ^ 20:=by
 have:=AF h
 omega
theorem Ok.small {α:Type} {l:List D} {t:Sem α} {m:M D} {R:Wd→Heap→D→α→Prop} (h:l.length≤2 ^ 20→Ok B C F W σ s t m R) :
  Ok B C F W σ s t (match Mine.small l with | true=>m | false=>Mine.bad) R:=by
 cases q:Mine.small l with
 | true=>exact h (Cw q)
 | false=>exact Ok.bad
theorem D0 (b:AK B) {r:Rec} {sc:LK} {pos:Pos} (hbad:r.ev .bad=bad):∀ (es:List Expr) (he:∀ e∈es,OkE B C F e (r.ev (AJ B.G sc e))) (W:Wd) (σ:St) (s:Shared),Ok B C F W σ s (spliced (backTo pos (starEach es F.env))) (Ar r.ev (AN B.G sc es)) (Y8 B):=by
 intro es
 induction es with
 | nil=>
  intro _ W σ s
  exact Ok.pure fun zz=>RdL.nil
 | cons e es ih=>
  intro he W σ s
  by_cases hp:Ai e
  ·rw [AL hp]
   show Ok B C F W σ s (do
    let v←eval e F.env
    let here←(pure [v]:Sem (List Value))
    return here++(←PySem.holding here (spliced (backTo pos (starEach es F.env))))) (do let d←r.ev (AJ B.G sc e);let ds←Ar r.ev (AN B.G sc es);pure (d::ds)) _
   refine Ok.bind (he e (.head _) W σ s) fun d v W1 σ1 s1 G st hr=>?_
   show Ok B C F W1 σ1 s1 (PySem.holding [v] (spliced (backTo pos (starEach es F.env)))>>=fun r=>pure ([v]++r)) _ _
   refine Ok.bind (Ok.holding (ih (fun x hx=>he x (.tail _ hx)) W1 σ1 s1)) fun ds vs W2 σ2 s2 G1 st2 hrs=>?_
   exact Ok.pure fun zz=>RdL.cons d v ds vs (G1.rd b st2 hr) hrs
  ·have:AJ B.G sc e=.bad:=by cases e<;>first | exact absurd trivial hp | rfl
   have e1:Ar r.ev (AN B.G sc (e::es))=bad:=by
    show (do let d←r.ev (AJ B.G sc e);let ds←Ar r.ev (AN B.G sc es);pure (d::ds))=_
    rw [this,hbad];rfl
   rw [e1];exact Ok.bad
theorem Qc (b:AK B) {r:Rec} {sc:LK} {pos:Pos} {k:Nat} (hbad:r.ev .bad=bad) {es:List Expr} (he:∀ e∈es,OkE B C F e (r.ev (AJ B.G sc e))) :
  OkE B C F (.Tuple es k pos) (do let ds←Ar r.ev (AN B.G sc es);match small ds with | true=>pure (.tup ds) | false=>bad):=fun W σ s=>by
 rw [arm_eval_Tuple]
 exact Ok.at (Ok.bind (D0 b hbad es he W σ s) fun ds vs W1 σ1 s1 G st hr=>Ok.small fun q=>L3 b hr q)
theorem Sm (b:AK B) {r:Rec} {sc:LK} {pos:Pos} (hbad:r.ev .bad=bad) {es:List Expr} (he:∀ e∈es,OkE B C F e (r.ev (AJ B.G sc e))) :
  OkE B C F (.List es pos) (do let ds←Ar r.ev (AN B.G sc es);match small ds with | true=>pure (.lst ds) | false=>bad):=fun W σ s=>by
 rw [arm_eval_List]
 exact Ok.at (Ok.bind (D0 b hbad es he W σ s) fun ds vs W1 σ1 s1 G st hr=>Ok.small fun q=>Nc b hr q)
noncomputable def RdF (B:Bs):Wd→Heap→Fl→Flow→Prop
 | _,_,.next,.next=>True
 | W,h,.ret d,.ret v=>Rd B W h d v
 | _,_,_,_=>False
noncomputable def FW (B:Bs) (W:Wd) (h:Heap):Rho→List (Str×Value)→Prop
 | [],[]=>True
 | (x,d)::r,(y,v)::q=>nm y=x∧Rd B W h d v∧FW B W h r q
 | _,_=>False
structure HN (B:Bs) (i:Nat) (fn:Fn) (fd:FuncData) (stmts:List Stmt):Prop where
 obj:∃ o,B.h0.get? (B.fnA i)=some o∧o.data=.func fd∧o.cls=.type "function"
 body:fd.body=.stmts stmts
 clo:fd.closure=[]
 glob:fd.globals=mainGlobals
 bltn:fd.builtins=builtinsNs
 co:fd.scope.isCoroutine=false
 gen:fd.scope.isGenerator=false
 kind:fd.scope.kind=.function
 code:B.h0.CodeRec fd.code fd.qualname
 comp:Ao B.G fd.scope.names stmts=fn.body
 nodup:fn.params.Nodup
 nofree:∀ x,fd.scope.names.lookup x≠some .free
 kinds:∀ x,nm x∈fn.params→fd.scope.names.lookup x=some .local∨fd.scope.names.lookup x=some .cell
 names:∀ args ρ,Em fn.params args fn.defaults=some ρ→ρ.map (·.1)=fn.params
 binds:∀ args vs ρ W s,Em fn.params args fn.defaults=some ρ→B.h0.StaysIn s.heap→RdL B W s.heap args vs→∃ bs,BindsTo s fd ⟨vs,[]⟩ bs∧FW B W s.heap ρ bs
theorem Bj:∀ {names:LK} {n:Nat} {acc:List (Str×Addr)} {x:Str},names.lookup x=some .cell→((cellsFrom n names acc).lookup x).isSome=true:=by
 have keep:∀ {names:LK} {n:Nat} {acc:List (Str×Addr)} {x:Str},(acc.lookup x).isSome=true→((cellsFrom n names acc).lookup x).isSome=true:=by
  intro names
  induction names with
  | nil=>intro n acc x h;exact h
  | cons p r ih=>
   intro n acc x h
   obtain ⟨y,k⟩:=p
   unfold cellsFrom
   split
   ·refine ih ?_
    rw [List.lookup_cons]
    cases x == y<;>simp [h]
   ·exact ih h
 intro names
 induction names with
 | nil=>intro n acc x h;simp at h
 | cons p r ih=>
  intro n acc x h
  obtain ⟨y,k⟩:=p
  rw [List.lookup_cons] at h
  unfold cellsFrom
  cases q:x == y with
  | true=>
   rw [q] at h;cases h
   rw [if_pos (by decide)]
   exact keep (by rw [List.lookup_cons,q];rfl)
  | false=>
   rw [q] at h
   split
   ·exact ih h
   ·exact ih h
theorem RR {kindOf:Str→Option NameKind} {x:Str} {v:Value} (hk:kindOf x=some .local):∀ {bs:List (Str×Value)} {m:SV},(bs.map (·.1)).Nodup→(x,v)∈bs→bindL kindOf bs m x=some v:=by
 intro bs
 induction bs with
 | nil=>
  intro m _ h
  cases h
 | cons zp r ih=>
  obtain ⟨y,u⟩:=zp
  intro m hn h
  rw [List.map_cons,List.nodup_cons] at hn
  have stay:∀ {r:List (Str×Value)} {m:SV},x∉r.map (·.1)→bindL kindOf r m x=m x:=by
   intro r
   induction r with
   | nil=>intro m _;rfl
   | cons p r ih=>
    intro m hx
    obtain ⟨z,u⟩:=p
    rw [List.map_cons,List.mem_cons,not_or] at hx
    unfold bindL
    rw [ih hx.2]
    split
    ·dsimp only;rw [if_neg hx.1]
    ·rfl
  unfold bindL
  rcases List.mem_cons.mp h with e | h
  ·cases e
   rw [stay hn.1,if_pos hk];simp
  ·exact ih hn.2 h
theorem RT {kindOf:Str→Option NameKind} {x:Str} {v:Value} (hk:¬ kindOf x=some .local):∀ {bs:List (Str×Value)} {m:SV},(bs.map (·.1)).Nodup→(x,v)∈bs→bindC kindOf bs m x=some v:=by
 intro bs
 induction bs with
 | nil=>
  intro m _ h
  cases h
 | cons zp r ih=>
  obtain ⟨y,u⟩:=zp
  intro m hn h
  rw [List.map_cons,List.nodup_cons] at hn
  have stay:∀ {r:List (Str×Value)} {m:SV},x∉r.map (·.1)→bindC kindOf r m x=m x:=by
   intro r
   induction r with
   | nil=>intro m _;rfl
   | cons p r ih=>
    intro m hx
    obtain ⟨z,u⟩:=p
    rw [List.map_cons,List.mem_cons,not_or] at hx
    unfold bindC
    rw [ih hx.2]
    split
    ·rfl
    ·dsimp only;rw [if_neg hx.1]
  unfold bindC
  rcases List.mem_cons.mp h with e | h
  ·cases e
   rw [stay hn.1,if_neg hk];simp
  ·exact ih hn.2 h
theorem Gl {h:Heap}:∀ {ρ:Rho} {bs:List (Str×Value)},FW B W h ρ bs→∀ {x:Str} {d:D},Ay (nm x) ρ=some d→∃ v,(x,v)∈bs∧Rd B W h d v
 | [],[],_,x,d,e=>by cases e
 | [],_::_,h,_,_,_=>h.elim
 | _::_,[],h,_,_,_=>h.elim
 | (z,e)::r,(y,v)::q,⟨h1,h2,h3⟩,x,d,hl=>by
  simp only [Ay] at hl
  cases c:Ap (nm x) z with
  | true=>
   rw [c] at hl;cases hl
   have:=AW.mp c
   rw [←h1] at this
   rw [Aj this]
   exact ⟨v,.head _,h2⟩
  | false=>
   rw [c] at hl
   obtain ⟨u,a,b⟩:=Gl h3 hl
   exact ⟨u,.tail _ a,b⟩
theorem Bu {h:Heap}:∀ {ρ:Rho} {bs:List (Str×Value)},FW B W h ρ bs→ρ.map (·.1)=bs.map fun p=>nm p.1
 | [],[],_=>rfl
 | [],_::_,h=>h.elim
 | _::_,[],h=>h.elim
 | (z,e)::r,(y,v)::q,⟨h1,h2,h3⟩=>by simp [h1,Bu h3]
noncomputable def J6 (env:Env):List Addr:=env.scope.names.filterMap fun p=>env.cells.lookup p.1
theorem CO {env:Env} {c:Addr} (h:c∈J6 env):∃ n,env.cells.lookup n=some c:=by
 obtain ⟨p,_,e⟩:=List.mem_filterMap.mp h
 exact ⟨p.1,e⟩
noncomputable def Dq (F:Fv) (fd:FuncData) (L a:Addr):Fv :=
 {env:=callEnvC fd L a,stack:=callEnvC fd L a::F.stack,own:=L::J6 (callEnvC fd L a),A:=F.A.deeper (callEnvC fd L a),base:=F.base,isFn:=true}
theorem Cg {A:Around} {R:Result→Shared→Prop} {a:Addr} {o:Obj} {fd:FuncData} {body:List Stmt} {vals:List Value} {binds:List (Str×Value)}
  (hroom:A.depth < recursionLimit) (ho:s.heap.get? a=some o) (hdata:o.data=.func fd) (hlim:s.heap.NoLimit) (hcd:s.heap.CodeRec fd.code fd.qualname)
  (hbody:fd.body=.stmts body) (hbind:BindsTo s fd ⟨vals,[]⟩ binds) (hclo:fd.closure=[])
  (hkind:∀ x∈binds,fd.scope.names.lookup x.1=some .local∨(fd.scope.names.lookup x.1=some .cell∧((cellsFrom (s.heap.objs.size + 1) fd.scope.names []).lookup x.1).isSome=true))
  (h:∀ s₁,InCallC s (callEnvC fd s.heap.objs.size a).locals (bindL (callEnvC fd s.heap.objs.size a).kindOf binds fun zz=>none) (callEnvC fd s.heap.objs.size a).cells
    (bindC (callEnvC fd s.heap.objs.size a).kindOf binds fun zz=>none) s₁→
   wpAny (mdl B) (A.deeper (callEnvC fd s.heap.objs.size a)) (execs body (callEnvC fd s.heap.objs.size a)) (fun f s'=>R (.ok (.ret (match f with | .ret v=>v | _=>.none))) s')
    (fun e s'=>wpAny (mdl B) (A.deeper (callEnvC fd s.heap.objs.size a)) (leaving (callEnvC fd s.heap.objs.size a) e) (fun zz s''=>R (.error e) s'') (fun e' s''=>R (.error e') s'') s') s₁)
  (hco:fd.scope.isCoroutine=false) (hgen:fd.scope.isGenerator=false) (hk:fd.scope.kind=.function) :
  codeAny (mdl B) A (.call (.ref a) ⟨vals,[]⟩) R s:=by
 refine codeAny_call_function hroom ho hdata hco hgen hbody hcd (hbind _ _ _ _ ?_)
 rw [hclo]
 refine wpAny_newFunctionEnv_cells hk hkind fun env he s' x=>?_
 subst he
 exact ⟨hlim.keeps x.toInCall.keep,codeAny_func (h s' x)⟩
theorem Ha (b:AK B) {i:Nat} {fn:Fn} {fd:FuncData} {body:List Stmt} (H:HN B i fn fd body) (G:Good B F W σ s) (hd:σ.dep < 40) {ρ:Rho} {bs:List (Str×Value)} {s₁:Shared}
  (hb:FW B W s.heap ρ bs) (hn:ρ.map (·.1)=fn.params) {a:Addr}
  (x:InCallC s (callEnvC fd s.heap.objs.size a).locals (bindL (callEnvC fd s.heap.objs.size a).kindOf bs fun zz=>none) (callEnvC fd s.heap.objs.size a).cells
    (bindC (callEnvC fd s.heap.objs.size a).kindOf bs fun zz=>none) s₁) :
  Good B (Dq F fd s.heap.objs.size a) W {σ with dep:=σ.dep + 1,rho:=ρ} s₁:=by
 obtain ⟨h₁,tk,rfl,hk⟩:=x.done
 have loc:(callEnvC fd s.heap.objs.size a).locals=s.heap.objs.size:=rfl
 have above:∀ n c,(n,c)∈(callEnvC fd s.heap.objs.size a).cells→s.heap.objs.size < c:=x.above
 have fr:∀ c,s.heap.objs.size≤c→s.heap.get? c=none:=fun c hc=>by
  cases e:s.heap.get? c with
  | none=>rfl
  | some o=>exact absurd (Heap.lt_size e) (Nat.not_lt.mpr hc)
 have freshOwn:∀ c∈(Dq F fd s.heap.objs.size a).own,s.heap.objs.size≤c:=fun c hc=>by
  rcases List.mem_cons.mp hc with rfl | hc
  ·exact Nat.le_refl _
  ·obtain ⟨n,hn⟩:=CO hc
   exact Nat.le_of_lt (above n c (mem_of_lookup hn))
 have bnodup:(bs.map (·.1)).Nodup:=by
  have:=Bu hb
  rw [hn] at this
  have h2:(bs.map fun p=>nm p.1).Nodup:=this▸H.nodup
  have h3:(bs.map fun p=>nm p.1)=(bs.map (·.1)).map nm:=by simp
  rw [h3] at h2
  exact (List.pairwise_map.mp h2).imp fun hne e=>hne (by rw [e])
 have Gm:=(G.grow b (h':=h₁) (t:=tk) hk).1
 have hSfr:B.S∉(Dq F fd s.heap.objs.size a).fr:=fun hm=>by
  rcases List.mem_cons.mp (show B.S∈s.heap.objs.size::F.fr from hm) with q | q
  ·obtain ⟨o,e,_⟩:=G.srcList
   rw [q] at e
   exact absurd (Heap.lt_size e) (Nat.lt_irrefl _)
  ·exact G.ok.sfr q
 refine {ok:=?_,dep:=by show σ.dep + 1≤40;omega,depth:=?_,units:=?_,stay0:=Gm.stay0,stayB:=Gm.stayB,frames:=?_,ns:=⟨_,x.toInCall.ns⟩,cells:=fun y c e=>⟨_,x.cell y c e⟩,own:=?_,src:=Gm.src,pins:=?_,vars:=?_,picks:=⟨G.picks.len,G.picks.cand,G.picks.cmps⟩,rest:=G.rest}
 ·refine {kind:=H.kind,glob:=H.glob,bltn:=H.bltn,frame:=⟨_,_,rfl,rfl,_,rfl⟩,loc:=.head _,apart:=fun y c e q=>?_,inj:=fun y z c e1 e2=>name_of_addr x.apart (mem_of_lookup e1) (mem_of_lookup e2),nofree:=fun zz y=>H.nofree y,cell:=fun zz y hy=>?_,frames:=?_,handled:=G.ok.handled,b0:=G.ok.b0,sfr:=hSfr}
  ·have h1:=above y c (mem_of_lookup e)
   have h2:c=s.heap.objs.size:=q
   rw [h2] at h1
   exact Nat.lt_irrefl _ h1
  ·obtain ⟨c,hc⟩:=Option.isSome_iff_exists.mp (Bj (n:=s.heap.objs.size + 1) (acc:=[]) (show fd.scope.names.lookup y=some .cell from hy))
   exact ⟨c,hc,.tail _ (List.mem_filterMap.mpr ⟨(y,.cell),mem_of_lookup hy,hc⟩)⟩
  ·show F.A.frames.map _=_
   rw [G.ok.frames];rfl
 ·show F.A.depth + 1≤310 + 3 * (σ.dep + 1)
  have:=G.depth;omega
 ·show F.A.units + 3≤20 + 20 * (σ.dep + 1)
  have:=G.units;omega
 ·refine ⟨?_,?_,Gm.frames⟩
  ·show fd.scope.kind≠.module
   rw [H.kind];decide
  ·obtain ⟨o,es,ep,e,d,_⟩:=x.toInCall.ns
   refine ⟨s.heap.objs.size,o,rfl,G.stayB.fresh,e,fun vs q=>?_⟩
   rw [d] at q;cases q
 ·intro c hc
  have hge:=freshOwn c hc
  have n0:B.h0.get? c=none:=by
   cases e:B.h0.get? c with
   | none=>rfl
   | some o=>exact absurd (G.stay0 c o e) (by rw [fr c hge];simp)
  have nB:F.base.get? c=none:=by
   cases e:F.base.get? c with
   | none=>rfl
   | some o=>exact absurd (G.stayB c o e) (by rw [fr c hge];simp)
  refine ⟨?_,n0,nB⟩
  rcases List.mem_cons.mp hc with rfl | hc
  ·exact BF x.toInCall.ns
  ·obtain ⟨n,hn⟩:=CO hc
   exact BP (x.cell n c hn)
 ·intro p hp
  obtain ⟨e,_,e2,e3⟩:=Gm.pins p hp
  obtain ⟨e0,_⟩:=G.pins p hp
  have hlt:=Heap.lt_size e0
  refine ⟨e,fun hc=>absurd (freshOwn _ hc) (Nat.not_le.mpr hlt),e2,fun hc=>?_⟩
  rcases List.mem_cons.mp (show p.1∈s.heap.objs.size::F.fr from hc) with q | hc
  ·rw [q] at hlt;exact Nat.lt_irrefl _ hlt
  ·exact e3 hc
 ·intro y d hy
  obtain ⟨v,hm,hr⟩:=Gl hb hy
  have hmem:nm y∈fn.params:=by
   rw [←hn,Bu hb]
   exact List.mem_map.mpr ⟨(y,v),hm,rfl⟩
  refine ⟨v,?_,(G.rd b (G.grow b (t:=tk) hk).2 hr)⟩
  rcases H.kinds y hmem with hl | hl
  ·exact .inl ⟨hl,_,x.toInCall.ns,RR hl bnodup hm⟩
  ·obtain ⟨c,hc⟩:=Option.isSome_iff_exists.mp (Bj (n:=s.heap.objs.size + 1) (acc:=[]) hl)
   refine .inr ⟨.inl hl,c,hc,?_⟩
   have:=x.cell y c hc
   rw [RT (by rw [show (callEnvC fd s.heap.objs.size a).kindOf y=some .cell from hl];decide) bnodup hm] at this
   exact this
end
section
open PySem PySem.W
variable {B:Bs} {F F':Fv} {C:Value} {W W':Wd} {σ σ':St} {s s':Shared}
open PyProof.Rows
theorem EZ {h h':Heap} {a:Addr} {m:SV} (x:h.Ns a m) (k:∀ o,h.get? a=some o→∃ sl,h'.get? a=some {o with slots:=sl}):h'.Ns a m:=by
 obtain ⟨o,es,ep,e,d,r⟩:=x
 obtain ⟨sl,e'⟩:=k o e
 exact ⟨_,es,ep,e',d,r⟩
theorem C7 {h h':Heap} {a:Addr} {v:Option Value} (x:h.IsCell a v) (k:∀ o,h.get? a=some o→∃ sl,h'.get? a=some {o with slots:=sl}):h'.IsCell a v:=by
 obtain ⟨o,e,d⟩:=x
 obtain ⟨sl,e'⟩:=k o e
 exact ⟨_,e',d⟩
theorem Good.notS (G:Good B F W σ s) {a:Addr} (h:∃ o,s.heap.get? a=some o∧(∀ vs n,o.data≠.seq vs n)):a≠B.S:=fun q=>by
 obtain ⟨o,e,n⟩:=h
 obtain ⟨⟨vs,⟨k,e'⟩,_⟩,_⟩:=G.src
 rw [q,e'] at e;cases e
 exact n _ _ rfl
theorem Iw (b:AK B) (G:Good B F W σ s) (G':Good B F' W' σ' s') (hb:F'.base=F.base) (hk:F4 [] F.fr B.S s.heap s'.heap) (hn:W.nu<+:W'.nu) (hp:∀ p∈W.pins,p∈W'.pins)
  (hf:∀ p∈W'.pins,p∈W.pins) (hfr:s'.heap.FunFrames F.base F.stack) {n:Nat} (d1:n≤40) (d2:F.A.depth≤310 + 3 * n) (d3:F.A.units≤20 + 20 * n) :
  Good B F W' {σ' with rho:=σ.rho,dep:=n} s'∧Step B F W s.heap W' s'.heap:=by
 have st:Step B F W s.heap W' s'.heap:=⟨hn,hp,hf,fun c o e n1 n2=>hk c o e (by simp) n2⟩
 have sl:∀ a,a≠B.S→∀ o,s.heap.get? a=some o→∃ sl,s'.heap.get? a=some {o with slots:=sl}:=fun a h o e=>(hk a o e (by simp) h).2
 have locS:F.env.locals≠B.S:=G.notS (by obtain ⟨⟨o,e,n,_⟩,_⟩:=G.own _ G.ok.loc;exact ⟨o,e,n⟩)
 have cellS:∀ x c,F.env.cells.lookup x=some c→c≠B.S:=fun x c e=>G.notS (by obtain ⟨ov,z⟩:=G.cells x c e;obtain ⟨o,e,n,_⟩:=BP z;exact ⟨o,e,n⟩)
 refine ⟨{ok:=G.ok,dep:=d1,depth:=d2,units:=d3,stay0:=G'.stay0,stayB:=hb▸G'.stayB,frames:=hfr,ns:=?_,cells:=?_,own:=?_,src:=?_,pins:=?_,vars:=?_,picks:=⟨G'.picks.len,G'.picks.cand,G'.picks.cmps⟩,rest:=G'.rest},st⟩
 ·obtain ⟨m,n⟩:=G.ns
  exact ⟨m,EZ n (sl _ locS)⟩
 ·intro x c e
  obtain ⟨ov,z⟩:=G.cells x c e
  exact ⟨ov,C7 z (sl _ (cellS x c e))⟩
 ·intro a m
  obtain ⟨⟨o,e,n1,n2⟩,r⟩:=G.own a m
  obtain ⟨l,e'⟩:=sl a (G.notS ⟨o,e,n1⟩) o e
  exact ⟨⟨_,e',n1,n2⟩,r⟩
 ·obtain ⟨x,y,z⟩:=G'.src
  exact ⟨x,y,fun q=>hb▸z q⟩
 ·intro p hp'
  obtain ⟨e,n1,n2,n3⟩:=G'.pins p hp'
  exact ⟨e,(G.pins p (hf p hp')).2.1,n2,(G.pins p (hf p hp')).2.2.2⟩
 ·intro x d hd
  obtain ⟨v,hv,r⟩:=G.vars x d hd
  refine ⟨v,?_,G.rd b st r⟩
  rcases hv with ⟨a,m,n,e⟩ | ⟨a,c,e,z⟩
  ·exact .inl ⟨a,m,EZ n (sl _ locS),e⟩
  ·exact .inr ⟨a,c,e,C7 z (sl _ (cellS x c e))⟩
theorem Q6 (b:AK B) (G:Good B F W σ s) (G':Good B F' W' σ' s') (hb:F'.base=F.base) (hk:F4 [] F.fr B.S s.heap s'.heap) (hn:W.nu<+:W'.nu) (hp:∀ p∈W.pins,p∈W'.pins)
  (hf:∀ p∈W'.pins,p∈W.pins) (hfr:s'.heap.FunFrames F.base F.stack) :
  Good B F W' {σ' with rho:=σ.rho,dep:=σ.dep} s'∧Step B F W s.heap W' s'.heap:=Iw b G G' hb hk hn hp hf hfr G.dep G.depth G.units
theorem Fly.back (G:Good B F W σ s) {a:Addr} (exc:F5 F.base F.stack F.env.frame a C s'.heap) (picks:∃ nu,W.nu<+:nu∧Mz nu σ') (rest:s'.gens=B.g∧s'.drawn=B.d∧s'.os=B.os) (up:LU [] B.S s.heap s'.heap) :
  Fly B C F W s.heap σ' (.ref a) s':=by
 have up0:∀ c,c≠B.S→∀ o,s.heap.get? c=some o→(∀ vs,o.data≠.fields vs)→∃ sl,s'.heap.get? c=some {o with slots:=sl}:=fun c n2 o e nf=>up c o e (by simp) n2 nf
 refine ⟨⟨a,rfl,exc⟩,picks,rest,fun c o e zz n2 nf=>up0 c n2 o e nf,?_,?_,?_⟩
 ·obtain ⟨m,n⟩:=G.ns
  obtain ⟨o,e,n1,nf⟩:=BF n
  refine ⟨m,EZ n fun o' e'=>?_⟩
  rw [e] at e';cases e'
  exact up0 _ (G.notS ⟨o,e,n1⟩) o e nf
 ·intro x c hc
  obtain ⟨ov,z⟩:=G.cells x c hc
  obtain ⟨o,e,n1,nf⟩:=BP z
  refine ⟨ov,C7 z fun o' e'=>?_⟩
  rw [e] at e';cases e'
  exact up0 _ (G.notS ⟨o,e,n1⟩) o e nf
 ·intro c hc
  obtain ⟨⟨o,e,n1,nf⟩,_⟩:=G.own c hc
  obtain ⟨sl,e'⟩:=up0 _ (G.notS ⟨o,e,n1⟩) o e nf
  exact ⟨_,e',n1,nf⟩
theorem CH {α:Type} {ρ:Rho} {o:Out α} {σ:St}:∀ {l:List (Out α×St)},(o,σ)∈l→(o,{σ with rho:=ρ})∈Ka ρ l
 | (o',s)::r,h=>by
  rcases List.mem_cons.mp h with e | h
  ·cases e;exact .head _
  ·exact .tail _ (CH h)
theorem DY {α:Type} {n:Nat} {o:Out α} {σ:St}:∀ {l:List (Out α×St)},(o,σ)∈l→(o,{σ with dep:=n})∈Kb n l
 | (o',s)::r,h=>by
  rcases List.mem_cons.mp h with e | h
  ·cases e;exact .head _
  ·exact .tail _ (DY h)
theorem He {α:Type} {m:M α} {σ:St} {outs:List (Out α×St)} (h:deeper m σ=some outs):σ.dep < 40∧∃ l,m {σ with dep:=σ.dep + 1}=some l∧outs=Kb σ.dep l:=by
 unfold deeper at h
 cases q:Nat.blt σ.dep 40 with
 | false=>rw [q] at h;cases h
 | true=>
  rw [q] at h
  cases hm:m {σ with dep:=σ.dep + 1} with
  | none=>rw [hm] at h;cases h
  | some l=>
   rw [hm] at h;cases h
   unfold Nat.blt at q
   exact ⟨AF q,l,rfl,rfl⟩
theorem Fi {α:Type} {ρ:Rho} {m:M α} {σ:St} {outs:List (Out α×St)} (h:under ρ m σ=some outs):∃ l,m {σ with rho:=ρ}=some l∧outs=Ka σ.rho l:=by
 unfold under at h
 cases hm:m {σ with rho:=ρ} with
 | none=>rw [hm] at h;cases h
 | some l=>rw [hm] at h;cases h;exact ⟨l,rfl,rfl⟩
theorem AS {α β:Type} {m:M α} {g:α→M β} {σ:St} {outs:List (Out β×St)} (h:(m>>=g) σ=some outs):∃ l,m σ=some l∧BS g l=some outs:=by
 change (match m σ with | some l=>BS g l | none=>none)=some outs at h
 cases hm:m σ with
 | none=>rw [hm] at h;cases h
 | some l=>rw [hm] at h;exact ⟨l,rfl,h⟩
noncomputable abbrev OkS (B:Bs) (C:Value) (F:Fv) (ss:List Stmt) (m:M Fl):Prop:=∀ W σ s,Ok B C F W σ s (execs ss F.env) m (RdF B)
theorem U3 (b:AK B) (hlim:B.h0.NoLimit) {i:Nat} {fn:Fn} {fd:FuncData} {stmts:List Stmt} (H:HN B i fn fd stmts) {r:Rec}
  (hss:∀ F':Fv,F'.isFn=true→F'.env.scope=fd.scope→OkS B C F' stmts (r.ss fn.body)) {args:List D} {vs:List Value} (ra:RdL B W s.heap args vs) {ρ:Rho} (hρ:Em fn.params args fn.defaults=some ρ) :
  Ok B C F W σ s (call (.ref (B.fnA i)) vs []) (deeper (under ρ (do match←r.ss fn.body with | .ret d=>pure d | .next=>pure .non))) (RdV B):=fun G outs ho=>by
 obtain ⟨hd,l,hl,rfl⟩:=He ho
 obtain ⟨l2,hl2,rfl⟩:=Fi hl
 obtain ⟨o,ho',hdat,hcls⟩:=H.obj
 obtain ⟨bs,hbs,hbr⟩:=H.binds args vs ρ W s hρ G.stay0 ra
 refine MZ fun Q E hQ hE=>?_
 refine wpAny_call (Cg (G.deepOk (k:=0) (by omega)) (G.stay0 _ _ ho') hdat (hlim.keeps G.stay0) (H.code.keeps G.stay0) H.body hbs H.clo ?_ ?_ H.co H.gen H.kind)
 ·intro x hx
  have hm:nm x.1∈fn.params:=by
   rw [←H.names args ρ hρ,Bu hbr]
   exact List.mem_map.mpr ⟨x,hx,rfl⟩
  rcases H.kinds x.1 hm with q | q
  ·exact .inl q
  ·exact .inr ⟨q,Bj q⟩
 ·intro s₁ x
  have Gc:=Ha b H G hd hbr (H.names args ρ hρ) x
  obtain ⟨h₁,tk,rfl,hk⟩:=x.done
  let F':=Dq F fd s.heap.objs.size (B.fnA i)
  have hfresh:∀ c∈F'.own,s.heap.get? c=none:=fun c hc=>Option.eq_none_iff_forall_ne_some.mpr fun o e=>by
   have hlt:=Heap.lt_size e
   rcases List.mem_cons.mp hc with hc | hc
   ·exact Nat.lt_irrefl _ (hc▸hlt)
   ·obtain ⟨n,hn⟩:=CO hc
    exact Nat.lt_irrefl _ (Nat.lt_trans hlt (x.above n c (mem_of_lookup hn)))
  have body:=hss F' rfl rfl W _ _ Gc
  obtain ⟨l3,hm,hl2⟩:=AS hl2
  refine AH (body l3 hm) (fun f s' hf=>?_) (fun e s' hf=>?_)
  ·obtain ⟨fl,W',σ',hin,G',st,rf⟩:=hf
   have kp:F4 [] F.fr B.S s.heap s'.heap:=fun c o e zz n2=>by
    have e1:=hk c o e
    have n1:c∉F'.own:=fun hc=>by rw [hfresh c hc] at e;cases e
    obtain ⟨k1,k2⟩:=st.keep c o e1 n1 n2
    refine ⟨fun hnf=>k1 fun hc=>?_,k2⟩
    rcases List.mem_cons.mp (show c∈s.heap.objs.size::F.fr from hc) with q | hc
    ·rw [q] at e;exact absurd (Heap.lt_size e) (Nat.lt_irrefl _)
    ·exact hnf hc
   obtain ⟨Gb,stb⟩:=Q6 b G G' rfl kp st.nu st.pins st.fresh G'.frames.2.2
   obtain ⟨o2,hf2,hsub⟩:=AZ hl2 hin
   have fin:∀ d v,o2=[(Out.ok d,σ')]→Rd B W' s'.heap d v→Q v s':=fun d v e rd=>hQ _ _ ⟨d,W',_,DY (CH (hsub (Out.ok d,σ') (e▸List.Mem.head _))),Gb,stb,rd⟩
   clear hQ hE
   cases fl with
   | next=>cases f<;>first | exact rf.elim | exact fin _ _ (AB hf2).symm .non
   | ret d=>cases f<;>first | exact rf.elim | exact fin _ _ (AB hf2).symm rf
  ·obtain ⟨σ',hin,fl⟩:=hf
   obtain ⟨a,ee,hfl⟩:=fl.exc
   rw [ee]
   obtain ⟨nu,h4,h5⟩:=fl.picks
   have hin2:=AQ hl2 hin
   refine Ri (outer:=F.stack) Gc.ok.frames rfl hfl fun h' a0 hfl' hup=>?_
   have up:LU [] B.S s.heap h':=fun c o e zz n2 nf=>by
    have n1:c∉F'.own:=fun hc=>by rw [hfresh c hc] at e;cases e
    obtain ⟨sl,e2⟩:=fl.up c o (hk c o e) n1 n2 nf
    obtain ⟨sl',e3⟩:=hup c _ e2 nf
    exact ⟨sl',e3⟩
   exact hE _ _ ⟨_,DY (CH hin2),Fly.back (s':={s' with heap:=h'}) G (.inr (.inl ⟨a0,hfl'⟩)) ⟨nu,h4,⟨h5.len,h5.cand,h5.cmps⟩⟩ fl.rest up⟩
end
section
open PySem PySem.W
variable {B:Bs} {F F':Fv} {C:Value} {W W':Wd} {σ σ':St} {s s':Shared}
open PyProof.Rows
theorem CY (b:AK B) {r:Rec} {sc:LK} {pos:Pos} {f:Value} (hbad:r.ev .bad=bad) (es:List Expr) (he:∀ e∈es,OkE B C F e (r.ev (AJ B.G sc e))) (W:Wd) (σ:St) (s:Shared) :
  Ok B C F W σ s (evalArgs f true (backTo pos (starEach es F.env)) []) (Ar r.ev (AN B.G sc es)) (fun W h ds a=>a.kw=[]∧RdL B W h ds a.pos):=fun G outs ho=>by
 cases es with
 | nil=>
  cases ho
  exact PySem.evalArgs_none ⟨[],W,σ,.head _,G,Step.refl B,rfl,.nil⟩
 | cons e es=>
  by_cases hp:Ai e
  ·have h:=D0 b (pos:=pos) hbad (e::es) he W σ s G outs ho
   rw [AL hp] at h ⊢
   show wpAny _ _ (evalArgs f true ((false,eval e F.env)::backTo pos (starEach es F.env)) []) _ _ _
   refine Calls.evalArgs_plain (AH h (fun vs s' ⟨ds,W',σ',a,c,d,r⟩=>⟨ds,W',σ',a,c,d,rfl,r⟩) fun zz zz x=>x)
  ·have:AJ B.G sc e=.bad:=by cases e<;>first | exact absurd trivial hp | rfl
   have e1:Ar r.ev (AN B.G sc (e::es))=bad:=by
    show (do let d←r.ev (AJ B.G sc e);let ds←Ar r.ev (AN B.G sc es);pure (d::ds))=_
    rw [this,hbad];rfl
   rw [e1] at ho;cases ho
structure A5 (sc:LK) (env:Env):Prop where
 glob:∀ x,As (nm x) sc=some .globalImplicit→env.kindOf x=some .globalImplicit
 loc:∀ x,As (nm x) sc=some .local→env.kindOf x=some .local
 cel:∀ x,As (nm x) sc=some .cell∨As (nm x) sc=some .free→(env.kindOf x=some .cell∨env.kindOf x=some .free)∧∃ c,env.cells.lookup x=some c
structure AX (B:Bs) (C:Value) (r:Rec):Prop where
 bad:r.ev .bad=Mine.bad
 ev:∀ F sc E,A5 sc F.env→OkE B C F E (r.ev (AJ B.G sc E))
 use:∀ F sc elt gens scope pos,A5 sc F.env→∀ (u:Value→Sem Unit) (m2:D→M Unit),(∀ d acc W σ s,Rd B W s.heap d acc→Ok B C F W σ s (u acc) (m2 d) (fun zz zz zz zz=>True))→
  ∀ W σ s,Ok B C F W σ s (evalThenUse (.ListComp elt gens scope pos) F.env u) (r.ev (AJ B.G sc (.ListComp elt gens scope pos))>>=m2) (fun zz zz zz zz=>True)
 tbad:r.tst .bad=Mine.bad
 tst:∀ F sc E,A5 sc F.env→OkT B C F E (r.tst (AJ B.G sc E))
 ss:∀ F stmts,F.isFn=true→OkS B C F stmts (r.ss (Ao B.G F.env.scope.names stmts))
 cal:∀ F i args vs W σ s,RdL B W s.heap args vs→Ok B C F W σ s (call (.ref (B.fnA i)) vs []) (r.cal i args) (RdV B)
 known:∀ i args σ l,r.cal i args σ=some l→∃ o fd,B.h0.get? (B.fnA i)=some o∧o.data=.func fd∧o.cls=.type "function"
theorem QD (ok:Xc B F) (hF:F.isFn=true):A5 F.env.scope.names F.env:=by
 refine ⟨fun x h=>by rw [Ad] at h;exact h,fun x h=>by rw [Ad] at h;exact h,fun x h=>?_⟩
 rw [Ad] at h
 rcases h with h | h
 ·obtain ⟨c,hc,_⟩:=ok.cell hF x h
  exact ⟨.inl h,c,hc⟩
 ·exact absurd h (ok.nofree hF x)
theorem IX (b:AK B) {r:Rec} (S:AX B C r) {sc:LK} (hsc:A5 sc F.env) {pos bp:Pos} {i:Nat} {es:List Expr} {first:List Value} {df:List D} (rf:RdL B W s.heap df first) :
  Ok B C F W σ s (callWith pos (.ref (B.fnA i)) first (backTo bp (starEach es F.env)) []) (do let ds←Ar r.ev (AN B.G sc es);r.cal i (df++ds)) (RdV B):=fun G outs ho=>by
 obtain ⟨l,hl,hb⟩:=AS ho
 by_cases hk:∃ ds σ1 l1,(Out.ok ds,σ1)∈l∧r.cal i (df++ds) σ1=some l1
 ·obtain ⟨ds0,σ0,l0,_,h0⟩:=hk
  obtain ⟨o,fd,ho1,hd,_⟩:=S.known i _ _ _ h0
  refine Calls.callWith_function (o:=o) (fd:=fd) (AH (CY b S.bad es (fun e zz=>S.ev F sc e hsc) W σ s G l hl) (fun a s1 h=>?_) (fun e s1 h=>?_))
  ·obtain ⟨ds,W1,σ1,hin,G1,st,hkw,rd⟩:=h
   refine ⟨⟨G1.stay0 _ _ ho1,hd⟩,?_⟩
   rw [hkw]
   obtain ⟨o2,hf,hsub⟩:=AZ hb hin
   refine AH (S.cal F i (df++ds) (first++a.pos) W1 σ1 s1 ((G.rdL b st rf).append rd) G1 o2 hf) (fun v s2 h=>?_) (fun e s2 h=>?_)
   ·obtain ⟨d,W2,σ2,hin2,G2,st2,r2⟩:=h
    exact ⟨d,W2,σ2,hsub _ hin2,G2,st.trans B G1 st2,r2⟩
   ·obtain ⟨σ2,hin2,fl⟩:=h
    exact ⟨σ2,hsub _ hin2,fl.of_step st⟩
  ·obtain ⟨σ1,hin,fl⟩:=h
   exact ⟨σ1,AQ hb hin,fl⟩
 ·-- then no way comes to the call: the arguments only fail
  have none_ok:∀ ds σ1,(Out.ok ds,σ1)∈l→False:=fun ds σ1 hin=>by
   obtain ⟨o2,hf,_⟩:=AZ hb hin
   exact hk ⟨ds,σ1,o2,hin,hf⟩
  unfold callWith
  refine AA (AG (AH (CY b S.bad es (fun e zz=>S.ev F sc e hsc) W σ s G l hl) (fun a s1 h=>?_) (fun e s1 h=>?_)))
  ·obtain ⟨ds,W1,σ1,hin,_⟩:=h
   exact (none_ok ds σ1 hin).elim
  ·obtain ⟨σ1,hin,fl⟩:=h
   exact ⟨σ1,AQ hb hin,fl⟩
theorem QX {e:Expr} {m:M D} (hm:OkE B C F e m) (he:isTrue e F.env (eval e F.env)=(do let v←eval e F.env;standAt e.pos;PySem.holding [v] (truthy v))):OkT B C F e (do Bn (←m)):=fun W σ s=>by
 rw [he]
 refine Ok.bind (hm W σ s) fun d v W1 σ1 s1 G st r=>Ok.at ?_
 refine Ok.ofGh (Dk r) fun c σ' G' hv=>⟨c,rfl,fun Q E h=>?_⟩
 rw [hv]
 exact AG (wpAny_truthy_bool h)
theorem SY (b:AK B) {r:Rec} {sc:LK} (hsc:A5 sc F.env) {x:Str} {p:Pos} (hv:∀ y,r.ev (.var y)=Iz y) (hg:∀ d,r.ev (.glb d)=pure d) (hb:r.ev .bad=bad) :
  OkE B C F (.Name x p) (r.ev (Ae B.G sc x)):=fun W σ s=>by
 unfold Ae
 cases hr:Ax x with
 | true=>dsimp only;rw [hb];exact Ok.bad
 | false=>
  dsimp only
  cases hk:As (nm x) sc with
  | none=>dsimp only;rw [hb];exact Ok.bad
  | some k=>
   cases k with
   | «local»=>dsimp only;rw [hv];exact Kk hr
   | cell=>dsimp only;rw [hv];exact Kk hr
   | free=>dsimp only;rw [hv];exact Kk hr
   | globalImplicit=>
    dsimp only
    cases hl:Dg (nm x) B.G with
    | none=>dsimp only;rw [hb];exact Ok.bad
    | some d=>dsimp only;rw [hg];exact E2 b hr (hsc.glob x hk) hl
   | globalExplicit=>dsimp only;rw [hb];exact Ok.bad
theorem EW (b:AK B) {c:Const} {k:Nat} {p:Pos} {d:D} (h:AJ B.G [] (.Constant c k p)=.cst d):OkE B C F (.Constant c k p) (pure d):=fun W σ s=>by
 rw [arm_eval_Constant]
 cases c with
 | none=>cases h;exact Ok.val0 (fun Q E h=>AD h) .non
 | bool x=>cases h;exact Ok.val0 (fun Q E h=>AD h) (.boo x)
 | int i=>cases h;exact Ok.val b (s.toks + 1) (fun Q E h=>wpAny_mkInt h) (.int _ _)
 | str x=>cases h;exact Ok.val b (s.toks + 1) (fun Q E h=>wpAny_mkText h) (.str _ _ _ rfl)
 | bytes x=>cases h;exact Ok.val b (s.toks + 1) (fun Q E h=>wpAny_mkTextBytes h) (.byt _ _ _ rfl)
 | _=>exact nomatch h
theorem Vm {a b:Bool}:Go a b=(a == b):=by cases a<;>cases b<;>rfl
theorem Ok.truthB {α:Type} {c:Bool} {f:Bool→Sem α} {β:Type} {m:M β} {R:Wd→Heap→β→α→Prop} {vs:List Value} (h:Ok B C F W σ s (f c) m R):Ok B C F W σ s (PySem.holding vs (truthy (.bool c))>>=f) m R :=
 Ok.skip c (fun Q E h=>AG (wpAny_truthy_bool h)) h
theorem IY (b:AK B) {r:Rec} (S:AX B C r) {sc:LK} (hsc:A5 sc F.env) {op:BoolOp} {pos:Pos}:∀ (es:List Expr) (W:Wd) (σ:St) (s:Shared),Ok B C F W σ s (boolOp pos op (evalEach es F.env)) (PX r (op == .And) (AN B.G sc es)) Vt
 | [],W,σ,s=>Ok.bad
 | [e],W,σ,s=>by
  show Ok B C F W σ s (eval e F.env) (r.ev (AJ B.G sc e)>>=fun d=>Bn d) _
  have:Ok B C F W σ s (eval e F.env>>=fun v=>pure v) (r.ev (AJ B.G sc e)>>=fun d=>Bn d) Vt :=
   Ok.bind (S.ev F sc e hsc W σ s) fun d v W1 σ1 s1 G st hr=>Ok.ofGh (Dk hr) fun c σ' G' hv=>⟨v,hv,fun Q E h=>AD h⟩
  intro G outs ho
  have h:=this G outs ho
  exact fun Γ p hΓ=>by
   have h2:=h Γ p hΓ
   rw [Sem.wp_bind'] at h2
   exact Sem.wp_mono _ Γ _ (fun a p' s' h'=>h') (fun zz zz zz h'=>h') _ _ h2
 | e::e2::es,W,σ,s=>by
  refine Ok.bind (S.ev F sc e hsc W σ s) fun d v W1 σ1 s1 G st hr=>?_
  refine Ok.ghost (Dk hr) fun c σ2 hv=>?_
  subst hv
  refine Ok.at (Ok.truthB ?_)
  cases op<;>cases c
  ·exact Ok.pure fun zz=>rfl
  ·exact IY b S hsc (e2::es) W1 σ2 s1
  ·exact IY b S hsc (e2::es) W1 σ2 s1
  ·exact Ok.pure fun zz=>rfl
theorem Ni (b:AK B) {r:Rec} (S:AX B C r) {sc:LK} (hsc:A5 sc F.env) {op:BoolOp}:∀ (es:List Expr) (W:Wd) (σ:St) (s:Shared),Ok B C F W σ s (allTrue op es F.env) (LM r (op == .And) (AN B.G sc es)) RdB:=by
 intro es
 induction es with
 | nil=>
  intro W σ s
  exact Ok.pure fun zz=>rfl
 | cons e es ih=>
  intro W σ s
  rw [arm_allTrue_cons]
  refine Ok.bind (S.tst F sc e hsc W σ s) fun c c' W1 σ1 s1 G st hc=>?_
  have hc':c=c':=hc
  subst hc'
  cases op<;>cases c
  ·exact Ok.pure fun zz=>rfl
  ·exact ih W1 σ1 s1
  ·exact ih W1 σ1 s1
  ·exact Ok.pure fun zz=>rfl
theorem CI {op:CmpOp} {o:Cm} (h:Ch op=some o):QQ o=op∧o≠.isNone∧o≠.isNotNone:=by
 cases op<;>first | exact nsF h | (rw [←AB h];exact ⟨rfl,nofun,nofun⟩)
theorem RV {op:CmpOp} {e:Expr} {G:List (Nm×D)} {sc:LK}:behindInMarks op e=false∨AJ G sc e=.bad:=by
 cases e<;>first | exact .inl rfl | exact .inr rfl
theorem Ez (b:AK B) {r:Rec} (S:AX B C r) {sc:LK} (hsc:A5 sc F.env) {op:CmpOp} {e:Expr} (W:Wd) (σ:St) (s:Shared) :
  Ok B C F W σ s (markedBehindIn op e (eval e F.env)) (r.ev (AJ B.G sc e)) (RdV B):=by
 rcases RV (op:=op) (e:=e) (G:=B.G) (sc:=sc) with h | h
 ·rw [markedBehindIn_of_false h];exact S.ev F sc e hsc W σ s
 ·rw [h,S.bad];exact Ok.bad
theorem VF (b:AK B) {r:Rec} (S:AX B C r) {sc:LK} (hsc:A5 sc F.env) {l e:Expr} {op:CmpOp} {o:Cm} {pos:Pos} (ho:Ch op=some o) :
  OkE B C F (.Compare l [op] [e] pos) (do let x←r.ev (AJ B.G sc l);let y←r.ev (AJ B.G sc e);let c←A8 o x y;pure (.boo c)):=fun W σ s=>by
 rw [arm_eval_Compare]
 obtain ⟨h1,h2,h3⟩:=CI ho
 refine Ok.bind (S.ev F sc l hsc W σ s) fun x v W1 σ1 s1 G st rx=>?_
 show Ok B C F W1 σ1 s1 (do
  let rv←PySem.holding [v] (markedBehindIn op e (eval e F.env))
  standAt pos
  PySem.operate [v,rv] (compareOp op v rv)) _ _
 refine Ok.bind (Ok.holding (Ez b S hsc W1 σ1 s1)) fun y u W2 σ2 s2 G1 st1 ry=>Ok.at (Ok.operate ?_)
 refine Ok.mapL (Ok.mono (h1▸Bb (G1.rd b st1 rx) ry (fun q=>by rcases q with q | q<;>exact absurd q (by assumption))) fun W h c v hv=>?_)
 have:v=.bool c:=hv
 subst this;exact .boo c
theorem U7 (b:AK B) {r:Rec} (S:AX B C r) {sc:LK} (hsc:A5 sc F.env) {l e:Expr} {op:CmpOp} {o:Cm} {pos:Pos} (ho:Ch op=some o) :
  OkT B C F (.Compare l [op] [e] pos) (do let x←r.ev (AJ B.G sc l);let y←r.ev (AJ B.G sc e);A8 o x y):=fun W σ s=>by
 rw [arm_isTrue_Compare]
 obtain ⟨h1,h2,h3⟩:=CI ho
 refine Ok.bind (S.ev F sc l hsc W σ s) fun x v W1 σ1 s1 G st rx=>?_
 show Ok B C F W1 σ1 s1 (do
  let rv←PySem.holding [v] (markedBehindIn op e (eval e F.env))
  standAt pos
  let c←PySem.operate [v,rv] (compareOp op v rv)
  PySem.holding [c] (truthy c)) _ _
 refine Ok.bind (Ok.holding (Ez b S hsc W1 σ1 s1)) fun y u W2 σ2 s2 G1 st1 ry=>Ok.at ?_
 have:=Ok.operate (vs:=[v,u]) (h1▸Bb (F:=F) (C:=C) (σ:=σ2) (G1.rd b st1 rx) ry (fun q=>by rcases q with q | q<;>exact absurd q (by assumption)))
 intro G2 outs ho
 refine AA (AH (this G2 outs ho) (fun c s' h=>?_) fun zz zz x=>x)
 obtain ⟨c',W',σ',a,g,st,hv⟩:=h
 have:c=.bool c':=hv
 subst this
 exact AG (wpAny_truthy_bool ⟨c',W',σ',a,g,st,rfl⟩)
theorem VG (b:AK B) {r:Rec} (S:AX B C r) {sc:LK} (hsc:A5 sc F.env) {l e e':Expr} {op op':CmpOp} {o o':Cm} {pos:Pos} (ho:Ch op=some o) (ho':Ch op'=some o') :
  OkE B C F (.Compare l [op,op'] [e,e'] pos) (do
   let x←r.ev (AJ B.G sc l)
   let y←r.ev (AJ B.G sc e)
   match←A8 o x y with
   | true=>do let z←r.ev (AJ B.G sc e');let t←A8 o' y z;pure (.boo t)
   | false=>pure (.boo false)):=fun W σ s=>by
 rw [arm_eval_Compare]
 obtain ⟨h1,h2,h3⟩:=CI ho
 obtain ⟨h1',h2',h3'⟩:=CI ho'
 refine Ok.bind (S.ev F sc l hsc W σ s) fun x v W1 σ1 s1 G st rx=>?_
 show Ok B C F W1 σ1 s1 (do
  let rv←PySem.holding [v] (eval e F.env)
  standAt pos
  let c←PySem.holding [v,rv] (compareOp op v rv)
  release [v,rv] [c]
  if←PySem.holding [c,rv] (truthy c) then compareChain pos rv [op'] (markedEach [op'] [e'] (evalEach [e'] F.env)) else pure c) _ _
 refine Ok.bind (Ok.holding (S.ev F sc e hsc W1 σ1 s1)) fun y u W2 σ2 s2 G1 st1 ry=>Ok.at ?_
 refine Ok.bind (Ok.holding (h1▸Bb (G1.rd b st1 rx) ry (fun q=>by rcases q with q | q<;>exact absurd q (by assumption)))) fun c cv W3 σ3 s3 G2 st2 hc=>?_
 have hc':cv=.bool c:=hc
 subst hc'
 refine Ok.skip () (fun Q E h=>wpAny_release h) (Ok.truthB ?_)
 cases c with
 | false=>exact Ok.pure fun zz=>.boo false
 | true=>
  show Ok B C F W3 σ3 s3 (do
   let rv←PySem.holding [u] (markedBehindIn op' e' (eval e' F.env))
   standAt pos
   PySem.operate [u,rv] (compareOp op' u rv)) _ _
  refine Ok.bind (Ok.holding (Ez b S hsc W3 σ3 s3)) fun z t W4 σ4 s4 G3 st3 rz=>Ok.at (Ok.operate ?_)
  refine Ok.mapL (Ok.mono (h1'▸Bb (G3.rd b st3 (G2.rd b st2 ry)) rz (fun q=>by rcases q with q | q<;>exact absurd q (by assumption))) fun W h c v hv=>?_)
  have:v=.bool c:=hv
  subst this;exact .boo c
theorem U8 (b:AK B) {r:Rec} (S:AX B C r) {sc:LK} (hsc:A5 sc F.env) {l e e':Expr} {op op':CmpOp} {o o':Cm} {pos:Pos} (ho:Ch op=some o) (ho':Ch op'=some o') :
  OkT B C F (.Compare l [op,op'] [e,e'] pos) (do
   let x←r.ev (AJ B.G sc l)
   let y←r.ev (AJ B.G sc e)
   match←A8 o x y with
   | true=>do let z←r.ev (AJ B.G sc e');A8 o' y z
   | false=>pure false):=fun W σ s=>by
 rw [arm_isTrue_Compare]
 obtain ⟨h1,h2,h3⟩:=CI ho
 obtain ⟨h1',h2',h3'⟩:=CI ho'
 refine Ok.bind (S.ev F sc l hsc W σ s) fun x v W1 σ1 s1 G st rx=>?_
 show Ok B C F W1 σ1 s1 (do
  let rv←PySem.holding [v] (eval e F.env)
  standAt pos
  let c←PySem.holding [v,rv] (compareOp op v rv)
  release [v,rv] [c]
  if←PySem.holding [c,rv] (truthy c) then testChain pos rv [op'] (markedEach [op'] [e'] (evalEach [e'] F.env)) else pure false) _ _
 refine Ok.bind (Ok.holding (S.ev F sc e hsc W1 σ1 s1)) fun y u W2 σ2 s2 G1 st1 ry=>Ok.at ?_
 refine Ok.bind (Ok.holding (h1▸Bb (G1.rd b st1 rx) ry (fun q=>by rcases q with q | q<;>exact absurd q (by assumption)))) fun c cv W3 σ3 s3 G2 st2 hc=>?_
 have hc':cv=.bool c:=hc
 subst hc'
 refine Ok.skip () (fun Q E h=>wpAny_release h) (Ok.truthB ?_)
 cases c with
 | false=>exact Ok.pure fun zz=>rfl
 | true=>
  show Ok B C F W3 σ3 s3 (do
   let rv←PySem.holding [u] (markedBehindIn op' e' (eval e' F.env))
   standAt pos
   let c←PySem.operate [u,rv] (compareOp op' u rv)
   PySem.holding [c] (truthy c)) _ _
  refine Ok.bind (Ok.holding (Ez b S hsc W3 σ3 s3)) fun z t W4 σ4 s4 G3 st3 rz=>Ok.at ?_
  have:=Ok.operate (vs:=[u,t]) (h1'▸Bb (F:=F) (C:=C) (σ:=σ4) (G3.rd b st3 (G2.rd b st2 ry)) rz (fun q=>by rcases q with q | q<;>exact absurd q (by assumption)))
  intro G4 outs ho
  refine AA (AH (this G4 outs ho) (fun c s' h=>?_) fun zz zz x=>x)
  obtain ⟨c',W',σ',a,g,st,hv⟩:=h
  have:c=.bool c':=hv
  subst this
  exact AG (wpAny_truthy_bool ⟨c',W',σ',a,g,st,rfl⟩)
theorem Ku {neg c:Bool} {v:Value} (h:c=(v == Value.none)) {A:Around} {Q:VP} {E:VP} (hq:Q (.bool (GL neg c)) s):wpAny (mdl B) A (compareOp (if neg then .IsNot else .Is) v .none) Q E s:=by
 cases neg with
 | false=>exact is_none (h▸hq)
 | true=>exact isNot_none (h▸hq)
theorem VE (b:AK B) {r:Rec} (S:AX B C r) {sc:LK} (hsc:A5 sc F.env) {l:Expr} {neg:Bool} {k:Nat} {p pos:Pos} :
  OkE B C F (.Compare l [if neg then .IsNot else .Is] [.Constant .none k p] pos) (do let d←r.ev (AJ B.G sc l);let c←Il d;pure (.boo (GL neg c))):=fun W σ s=>by
 rw [arm_eval_Compare]
 refine Ok.bind (S.ev F sc l hsc W σ s) fun x v W1 σ1 s1 G st rx=>?_
 have hm:markedEach [if neg then CmpOp.IsNot else .Is] [.Constant .none k p] (evalEach [.Constant .none k p] F.env)=[(pure .none:Sem Value)]:=by cases neg<;>rfl
 rw [hm]
 show Ok B C F W1 σ1 s1 (do
  let rv←PySem.holding [v] (pure .none:Sem Value)
  standAt pos
  PySem.operate [v,rv] (compareOp (if neg then .IsNot else .Is) v rv)) _ _
 refine Ok.skip .none (fun Q E h=>AG (AD h)) (Ok.at (Ok.operate ?_))
 refine Ok.ofGh (P:=fun d=>∃ c,c=(v == Value.none)∧d=D.boo (GL neg c)) (Gh.bind (GY rx) fun c σ' hc=>Gh.pure ⟨c,hc,rfl⟩) fun d σ' G' hd=>?_
 obtain ⟨c,hc,rfl⟩:=hd
 exact ⟨.bool (GL neg c),.boo _,fun Q E h=>Ku hc h⟩
theorem U6 (b:AK B) {r:Rec} (S:AX B C r) {sc:LK} (hsc:A5 sc F.env) {l:Expr} {neg:Bool} {k:Nat} {p pos:Pos} :
  OkT B C F (.Compare l [if neg then .IsNot else .Is] [.Constant .none k p] pos) (do let d←r.ev (AJ B.G sc l);let c←Il d;pure (GL neg c)):=fun W σ s=>by
 rw [arm_isTrue_Compare]
 refine Ok.bind (S.ev F sc l hsc W σ s) fun x v W1 σ1 s1 G st rx=>?_
 have hm:markedEach [if neg then CmpOp.IsNot else .Is] [.Constant .none k p] (evalEach [.Constant .none k p] F.env)=[(pure .none:Sem Value)]:=by cases neg<;>rfl
 rw [hm]
 show Ok B C F W1 σ1 s1 (do
  let rv←PySem.holding [v] (pure .none:Sem Value)
  standAt pos
  let c←PySem.operate [v,rv] (compareOp (if neg then .IsNot else .Is) v rv)
  PySem.holding [c] (truthy c)) _ _
 refine Ok.skip .none (fun Q E h=>AG (AD h)) (Ok.at ?_)
 refine Ok.ofGh (P:=fun d=>∃ c,c=(v == Value.none)∧d=GL neg c) (Gh.bind (GY rx) fun c σ' hc=>Gh.pure ⟨c,hc,rfl⟩) fun d σ' G' hd=>?_
 obtain ⟨c,hc,rfl⟩:=hd
 refine ⟨GL neg c,rfl,fun Q E h=>?_⟩
 unfold PySem.operate
 refine AA (AA (AG (Ku hc (AA (wpAny_release (AD ?_))))))
 exact AG (wpAny_truthy_bool h)
end
section
open PySem PySem.W
variable {B:Bs} {F F':Fv} {C:Value} {W W':Wd} {σ σ':St} {s s':Shared}
open PyProof.Rows
theorem Wu (b:AK B) {d:D} {v:Value} (r:Rd B W s.heap d v):Ok B C F W σ s (call (.builtin "len") [v]) (Bl YC d) (RdV B):=by
 refine CW (α:=Unit) r fun d e r zz he=>?_
 have i:=r.inv
 clear r
 cases d with
 | tup ds=>
  obtain ⟨a,vs,ev,hx,rl⟩:=i
  rw [ev]
  change (match small ds with | true=>some (D.int ds.length) | false=>none)=some e at he
  cases q:small ds with
  | false=>rw [q] at he;cases he
  | true=>
   rw [q] at he;rw [←AB he]
   have q':=Cw q
   have hl:=RdL.length rl
   rw [Array.length_toList] at hl
   refine Ok.val b (s.toks + 1 + 1) (v:=.int ds.length (s.toks + 1)) (fun Q E h=>?_) (.int _ _)
   refine PyProof.Rows.len_tuple (hx:IsTup _ _ _) ?_ ?_
   ·omega
   ·rw [hl];exact h
 | lst ds=>
  obtain ⟨a,vs,ev,_,hx,rl⟩:=i
  rw [ev]
  change (match small ds with | true=>some (D.int ds.length) | false=>none)=some e at he
  cases q:small ds with
  | false=>rw [q] at he;cases he
  | true=>
   rw [q] at he;rw [←AB he]
   have q':=Cw q
   have hl:=RdL.length rl
   rw [Array.length_toList] at hl
   refine Ok.val b (s.toks + 1 + 1) (v:=.int ds.length (s.toks + 1)) (fun Q E h=>?_) (.int _ _)
   refine Calls.call_len_list hx ?_ ?_
   ·omega
   ·rw [hl];exact h
 | byt l=>
  obtain ⟨x,t,ev,hl⟩:=i
  rw [ev]
  change (match Nat.ble l.length 100 with | true=>some (D.int l.length) | false=>none)=some e at he
  cases q:Nat.ble l.length 100 with
  | false=>rw [q] at he;cases he
  | true=>
   rw [q] at he;rw [←AB he]
   have q':=AF q
   have hl':x.size=l.length:=by rw [←hl];simp
   refine Ok.val b (s.toks + 1 + 1) (v:=.int l.length (s.toks + 1)) (fun Q E h=>?_) (.int _ _)
   refine len_bytes ?_ ?_
   ·omega
   ·rw [hl'];exact h
 | _=>exact nomatch he
theorem JS (b:AK B) {d:D} {v:Value} {t:Nat} (ht:t≤2) (r:Rd B W s.heap d v):Ok B C F W σ s (call (.builtin "isinstance") [v,.type (Cv t)]) (Bl (WD t) d) (RdV B):=by
 refine CW (α:=Unit) r fun d e r zz he=>?_
 have:t=0∨t=1∨t=2:=by omega
 have i:=r.inv
 clear r
 cases d with
 | boo x=>
  rw [show v=_ from i,←AB he]
  rcases this with rfl | rfl | rfl
  ·exact Ok.val b s.toks (fun Q E h=>IsiPair.bool_int h) (.boo true)
  ·exact Ok.val b s.toks (fun Q E h=>IsiPair.bool_bool h) (.boo true)
  ·exact Ok.val b (s.toks + 1) (fun Q E h=>IsiPair.bool_bytes h) (.boo false)
 | int n=>
  obtain ⟨u,ev⟩:=i
  rw [ev,←AB he]
  rcases this with rfl | rfl | rfl
  ·exact Ok.val b s.toks (fun Q E h=>IsiPair.int_int h) (.boo true)
  ·exact Ok.val b (s.toks + 1) (fun Q E h=>IsiPair.int_bool h) (.boo false)
  ·exact Ok.val b (s.toks + 1) (fun Q E h=>IsiPair.int_bytes h) (.boo false)
 | _=>exact nomatch he
end
section
open PySem PySem.W
variable {B:Bs} {F F':Fv} {C:Value} {W W':Wd} {σ σ':St} {s s':Shared}
open PyProof.Rows
theorem Ok.ofGhH (b:AK B) {α β:Type} {t:Sem α} {m:M β} {P:β→Prop} {R:Wd→Heap→β→α→Prop} (h1:Gh B F W s σ m P)
  (h2:∀ c σ',Good B F W σ' s→P c→∀ Q E,(∀ v h' tk,(∀ b o,s.heap.get? b=some o→h'.get? b=some o)→(Step B F W s.heap W h'→R W h' c v)→Q v {s with heap:=h',toks:=tk})→wpAny (mdl B) F.A t Q E s) :
  Ok B C F W σ s t m R:=fun G outs ho=>by
 obtain ⟨c,σ',x,G',p⟩:=h1 G outs ho
 refine h2 c σ' G' p _ _ fun v h' tk k r=>?_
 obtain ⟨G2,st⟩:=G'.grow b (t:=tk) k
 exact ⟨c,W,σ',x,G2,st,r st⟩
theorem NZ (b:AK B) {ds:List D} {v:Value} (r:Rd B W s.heap (.lst ds) v) (hn:ds.length≤2 ^ 20):Ok B C F W σ s (call (.type "tuple") [v]) (Pure.pure (.tup ds):M D) (RdV B):=by
 obtain ⟨a,vs,ev,_,hx,rl⟩:=r.inv
 rw [ev]
 have hl:=RdL.length rl
 rw [Array.length_toList] at hl
 refine Ok.ofGhH b (P:=fun d=>d=.tup ds) (Gh.pure rfl) fun c σ' G hc Q E hq=>?_
 refine call_tuple_list hx (fun h' hk=>hq _ (h'.push {cls:=.type "tuple",data:=.seq vs}) _ (fun c o e=>AE _ (hk c o e)) fun st=>?_) (by rw [hl];exact Nat.le_trans hn Ag)
 rw [hc]
 exact .tup _ vs ds ⟨_,Heap.get?_push_size _ rfl,rfl,0,rfl⟩ (G.rdL b st rl)
theorem OP:∀ n:Nat,n < 10→nm (Str.ofString (toString (n:Int)))=[48 + n]:=by decide
theorem SU (b:AK B) {d:D} {v:Value} (r:Rd B W s.heap d v):Ok B C F W σ s (call (.type "str") [v]) (Bl WM d) (RdV B):=by
 refine CW (α:=Unit) r fun d e r zz he=>?_
 have i:=r.inv
 clear r
 cases d with
 | int k=>
  obtain ⟨u,ev⟩:=i
  rw [ev]
  cases k with
  | ofNat n=>
   change (match Nat.blt n 10 with | true=>some (D.str [48 + n]) | false=>none)=some e at he
   cases q:Nat.blt n 10 with
   | false=>rw [q] at he;cases he
   | true=>
    rw [q] at he;rw [←AB he]
    have hn:n < 10:=AF q
    refine Ok.val b (s.toks + 1) (v:=.str (toString (n:Int)) s.toks) (fun Q E h=>PySem.P.str_of_int (a:=(n:Int)) ?_ h) (.str _ _ _ (OP n hn))
    have:(n:Int).natAbs=n:=rfl
    show Nat.log2 n < 1920
    have:Nat.log2 n≤n:=Nat.log2_le_self n
    omega
  | negSucc n=>exact nomatch he
 | _=>exact nomatch he
noncomputable def LG:Cm→Int→Int→Bool
 | .lt,a,b=>decide (a < b)
 | _,a,b=>decide (a > b)
noncomputable def DS (op:Cm) (f:Nat→Int) (a b:Nat):Bool:=LG op (f a) (f b)
theorem VS {op:Cm} (hop:op=.lt∨op=.gt) {vs:List Value} {l:List D}:∀ {us:List Value} {d:D} {v:Value} {σ:St} {i:Nat} {f:Nat→Int},RdL B W s.heap l us→Rd B W s.heap d v→us=vs.drop (i + 1)→i < vs.length→(∀ j,j≤i→∃ t,vs[j]? = some (.int (f j) t))→
  vs[argBest (DS op f) i]? = some v→
  Gh B F W s σ (EH op d l) (fun r=>∃ g:Nat→Int,(∀ j,j < vs.length→∃ t,vs[j]? = some (.int (g j) t))∧
   ∃ u,vs[argBest (DS op g) (vs.length - 1)]? = some u∧Rd B W s.heap r u):=by
 induction l with
 | nil=>
  intro us d v σ i f rl rd hu hi hf hb
  rw [show us=_ from rl.inv] at hu
  have hlen:vs.length=i + 1:=by
   have:=congrArg List.length hu
   simp at this
   omega
  refine Gh.pure ⟨f,fun j hj=>hf j (by omega),v,?_,rd⟩
  rw [hlen];simpa using hb
 | cons x l ih=>
  intro us d v σ i f rl rd hu hi hf hb
  obtain ⟨u,us,eu,rx,rl⟩:=rl.inv
  rw [eu] at hu
  have hget:vs[i + 1]? = some u:=by
   have:(vs.drop (i + 1))[0]? = some u:=by rw [←hu];rfl
   simpa using this
  have hi':i + 1 < vs.length:=(List.getElem?_eq_some_iff.mp hget).1
  have hdrop:us=vs.drop (i + 1 + 1):=by
   have:(vs.drop (i + 1)).tail=us:=by rw [←hu];rfl
   rw [←this];simp [Nat.add_comm,Nat.add_left_comm]
  show Gh B F W s σ (do match←Lz op x d with | true=>EH op x l | false=>EH op d l) _
  refine Gh.bind (Ef rx rd) fun c σ' hc=>?_
  obtain ⟨n,t,m,k,e1,e2,e⟩:=hc
  rw [e1] at hget;rw [e2] at hb
  obtain ⟨g,hg1,hg2,hg3⟩:∃ g:Nat→Int,g (i + 1)=n∧(∀ j,j≤i→g j=f j)∧∀ j,j≤i + 1→∃ t,vs[j]? = some (.int (g j) t):=by
   refine ⟨fun j=>if j=i + 1 then n else f j,by simp,fun j hj=>by dsimp only;rw [if_neg (by omega)],fun j hj=>?_⟩
   by_cases q:j=i + 1
   ·subst q;exact ⟨t,by simpa using hget⟩
   ·dsimp only;rw [if_neg q];exact hf j (by omega)
  have same:∀ j,j≤i→argBest (DS op g) j=argBest (DS op f) j∧
    argBest (DS op g) j≤j:=by
   intro j
   induction j with
   | zero=>intro _;exact ⟨rfl,Nat.le_refl _⟩
   | succ j ih=>
    intro hj
    obtain ⟨h1,h2⟩:=ih (by omega)
    unfold argBest
    rw [h1]
    rw [h1] at h2
    have ea:=hg2 (j + 1) hj
    have eb:=hg2 (argBest (DS op f) j) (by omega)
    have e3:DS op g (j + 1) (argBest (DS op f) j)=DS op f (j + 1) (argBest (DS op f) j):=by
     show LG op (g (j + 1)) (g (argBest (DS op f) j))=LG op (f (j + 1)) (f (argBest (DS op f) j))
     rw [ea,eb]
    rw [e3]
    refine ⟨rfl,?_⟩
    split<;>omega
  obtain ⟨s1,s2⟩:=same i (Nat.le_refl _)
  have hm:g (argBest (DS op g) i)=m:=by
   obtain ⟨t',ht'⟩:=hg3 _ (Nat.le_succ_of_le s2)
   rw [s1] at ht' ⊢
   rw [hb] at ht'
   injection ht' with ht'
   injection ht' with ht' _
   exact ht'.symm
  have hc:c=LG op n m:=by
   have:=PV e
   rcases hop with rfl | rfl
   ·rcases this with ⟨_,hc⟩ | ⟨h,_⟩ | ⟨h,_⟩ | ⟨h,_⟩<;>first | cases h;done | exact hc
   ·rcases this with ⟨h,_⟩ | ⟨h,_⟩ | ⟨_,hc⟩ | ⟨h,_⟩<;>first | cases h;done | exact hc
  have step:argBest (DS op g) (i + 1)=if c=true then i + 1 else argBest (DS op g) i:=by
   have e2:DS op g (i + 1) (argBest (DS op g) i)=c:=by
    show LG op (g (i + 1)) (g (argBest (DS op g) i))=c
    rw [hg1,hm,hc]
   show (if DS op g (i + 1) (argBest (DS op g) i)=true then _ else _)=_
   rw [e2]
  cases c with
  | true=>
   refine ih rl rx hdrop hi' hg3 ?_
   rw [step,e1];exact hget
  | false=>
   refine ih rl rd hdrop hi' hg3 ?_
   rw [step,e2]
   show vs[argBest _ i]? = _
   rw [s1];exact hb
theorem TM {vs:Array Value} {g:Nat→Int} (h:∀ j,j < vs.toList.length→∃ t,vs.toList[j]? = some (.int (g j) t)):∃ xs:Array (Int×Tok),vs=intItems xs∧∀ j,j < vs.size→numAt xs j=g j:=by
 have hv:∀ j (hj:j < vs.size),∃ t,vs[j]=.int (g j) t:=fun j hj=>by
  obtain ⟨t,e⟩:=h j (by simpa using hj)
  refine ⟨t,?_⟩
  have e':vs[j]? = some (.int (g j) t):=by simpa using e
  exact (Array.getElem?_eq_some_iff.mp e').2
 let xs:Array (Int×Tok):=vs.map fun v=>match v with | .int n t=>(n,t) | _=>(0,0)
 have hx:∀ j (hj:j < vs.size),∃ t,xs[j]? = some (g j,t)∧vs[j]=.int (g j) t:=fun j hj=>by
  obtain ⟨t,e⟩:=hv j hj
  exact ⟨t,by simp [xs,hj,e],e⟩
 refine ⟨xs,?_,fun j hj=>?_⟩
 ·apply Array.ext
  ·simp [intItems,xs]
  ·intro j h1 h2
   obtain ⟨t,e1,e2⟩:=hx j h1
   rw [e2]
   simp only [intItems,Array.getElem_map]
   have:xs[j]'(by simpa [intItems] using h2)=(g j,t):=(Array.getElem?_eq_some_iff.mp e1).2
   rw [this]
 ·obtain ⟨t,e1,_⟩:=hx j hj
  simp [numAt,e1]
theorem Fh {bt bt':Nat→Nat→Bool} {n:Nat} (h:∀ i j,i < n→j < n→bt i j=bt' i j):∀ k,k < n→argBest bt k=argBest bt' k∧argBest bt' k≤k
 | 0,_=>⟨rfl,Nat.le_refl _⟩
 | k + 1,hk=>by
  obtain ⟨h1,h2⟩:=Fh h k (by omega)
  unfold argBest
  rw [h1,h _ _ hk (by omega)]
  refine ⟨rfl,?_⟩
  split<;>omega
theorem OF {op:Cm} (hop:op=.lt∨op=.gt) {d:D} {l:List D} {a:Addr} {vs:Array Value} {σ:St} (r:RdL B W s.heap (d::l) vs.toList) :
  Gh B F W s σ (Bl TU d>>=fun zz=>EH op d l) (fun r=>∃ xs:Array (Int×Tok),vs=intItems xs∧0 < xs.size∧
   ∃ u,(intItems xs)[argBest (fun i j=>LG op (numAt xs i) (numAt xs j)) (xs.size - 1)]? = some u∧Rd B W s.heap r u):=by
 obtain ⟨v,us,hv,rd,rl⟩:=r.inv
 ·refine Gh.bind (P:=fun zz=>∃ n t,v=.int n t) (fun G outs ho=>?_) fun zz σ' hint=>?_
  ·unfold Bl at ho
   cases hh:DN TU 6 σ d with
   | none=>rw [hh] at ho;cases ho
   | some e=>
    rw [hh] at ho;cases ho
    obtain ⟨d0,e0,h1,h2,h3,_⟩:=EV G 6 d e rd hh
    refine ⟨e,σ,.head _,G,?_⟩
    have i:=h1.inv
    clear h1 h2
    cases d0<;>first | exact nsF h3 | exact ⟨_,i⟩
  ·obtain ⟨n,t,ev⟩:=hint
   rw [ev] at hv rd
   refine (VS (vs:=.int n t::us) (i:=0) (f:=fun zz=>n) hop rl rd (by simp) (by simp) (fun j hj=>⟨t,by obtain rfl:j=0:=(by omega);rfl⟩) rfl).mono fun r hr=>?_
   obtain ⟨g,hg,u,hu,ru⟩:=hr
   rw [←hv] at hg hu
   obtain ⟨xs,e1,e2⟩:=TM hg
   have hsz:vs.size=xs.size:=by rw [e1];simp [intItems]
   have hpos:0 < vs.size:=by
    have:=congrArg List.length hv
    simp at this;omega
   refine ⟨xs,e1,by omega,u,?_,ru⟩
   have hc:=(Fh (bt:=fun i j=>LG op (numAt xs i) (numAt xs j)) (bt':=DS op g) (n:=vs.size) (fun i j hi hj=>by
    show LG op (numAt xs i) (numAt xs j)=LG op (g i) (g j)
    rw [e2 i hi,e2 j hj]) (xs.size - 1) (by omega)).1
   rw [hc,←hsz,←e1]
   simpa using hu
noncomputable def S1:Cm→String | .lt=>"min" | _=>"max"
theorem QT (b:AK B) {op:Cm} (hop:op=.lt∨op=.gt) {d:D} {l:List D} {v:Value} (r:Rd B W s.heap (.lst (d::l)) v) :
  Ok B C F W σ s (call (.builtin (S1 op)) [v]) (Bl TU d>>=fun zz=>EH op d l) (RdV B):=fun G=>by
 obtain ⟨a,vs,ev,_,hx,rl⟩:=r.inv
 rw [ev]
 refine Ok.ofGhH b (OF (a:=a) hop rl) (fun c σ' G' hc Q E hq=>?_) G
 obtain ⟨xs,e1,hpos,u,hu,ru⟩:=hc
 rw [e1] at hx
 rcases hop with rfl | rfl
 ·exact min_intList G.ok.handled hx hpos fun v h' tk hv hk=>hq v h' tk hk fun st=>AB (hu.symm.trans hv)▸G.rd b st ru
 ·exact max_intList G.ok.handled hx hpos fun v h' tk hv hk=>hq v h' tk hk fun st=>AB (hu.symm.trans hv)▸G.rd b st ru
end
section
open PySem PySem.W
variable {B:Bs} {F F':Fv} {C:Value} {W W':Wd} {σ σ':St} {s s':Shared}
open PyProof.Rows
structure Off (B:Bs) (F:Fv) (W:Wd) (a:Addr):Prop where
 own:a∉F.own
 fr:a∉F.fr
 S:a≠B.S
 h0:B.h0.get? a=none
 base:F.base.get? a=none
 pins:∀ p∈W.pins,p.1≠a
 cells:∀ x c,F.env.cells.lookup x=some c→c≠a
 loc:F.env.locals≠a
theorem Off.fresh (G:Good B F W σ s) {a:Addr} (h:s.heap.get? a=none):Off B F W a:=by
 refine ⟨fun m=>?_,fun m=>?_,fun q=>?_,?_,?_,fun p hp q=>?_,fun x c e q=>?_,fun q=>?_⟩
 ·obtain ⟨⟨o,e,_⟩,_⟩:=G.own a m;rw [h] at e;cases e
 ·obtain ⟨_,o,e,_⟩:=G.frames.mem m;rw [h] at e;cases e
 ·obtain ⟨o,e,_⟩:=G.srcList;rw [←q,h] at e;cases e
 ·cases e:B.h0.get? a with
  | none=>rfl
  | some o=>have:=G.stay0 _ _ e;rw [h] at this;cases this
 ·cases e:F.base.get? a with
  | none=>rfl
  | some o=>have:=G.stayB _ _ e;rw [h] at this;cases this
 ·have:=(G.pins p hp).1;rw [q,h] at this;cases this
 ·obtain ⟨ov,o,e',_⟩:=G.cells x c e;rw [q,h] at e';cases e'
 ·obtain ⟨m,o,es,ep,e',_⟩:=G.ns;rw [q,h] at e';cases e'
theorem Off.step {h h':Heap} {a:Addr} (O:Off B F W a) (he:∃ o,h.get? a=some o) (st:Step B F W h W' h'):Off B F W' a :=
 ⟨O.own,O.fr,O.S,O.h0,O.base,(fun p hp=>O.pins p (st.fresh p hp)),O.cells,O.loc⟩
theorem Off.kept {h h':Heap} {a:Addr} (O:Off B F W a) (st:Step B F W h W' h') {o:Obj} (e:h.get? a=some o):h'.get? a=some o:=(st.keep a o e O.own O.S).1 O.fr
theorem Good.alter (b:AK B) (G:Good B F W σ s) {h':Heap} {t:Nat} {ex:List Addr} (hk:∀ c o,c∉ex→s.heap.get? c=some o→h'.get? c=some o) (hex:∀ a∈ex,Off B F W a)
  (hρ:∀ x d v,Ay x σ.rho=some d→Rd B W s.heap d v→Rd B W h' d v):Good B F W σ {s with heap:=h',toks:=t}:=by
 have kk:∀ c o,s.heap.get? c=some o→(c∈ex→False)→h'.get? c=some o:=fun c o e n=>hk c o n e
 refine {ok:=G.ok,dep:=G.dep,depth:=G.depth,units:=G.units,stay0:=fun c o e=>?_,stayB:=fun c o e=>?_,frames:=?_,ns:=?_,cells:=?_,own:=?_,src:=?_,pins:=?_,vars:=?_,picks:=G.picks,rest:=G.rest}
 ·exact kk c o (G.stay0 c o e) fun m=>by have:=(hex c m).h0;rw [e] at this;cases this
 ·exact kk c o (G.stayB c o e) fun m=>by have:=(hex c m).base;rw [e] at this;cases this
 ·have:∀ l:List Env,(∀ a∈l.filterMap (·.frame),a∉ex)→s.heap.FunFrames F.base l→h'.FunFrames F.base l:=by
   intro l
   induction l with
   | nil=>intro _ _;trivial
   | cons env rest ih=>
    rintro hn ⟨hkd,⟨L,o,hf,hnn,hL,hd⟩,hr⟩
    refine ⟨hkd,⟨L,o,hf,hnn,kk L o hL (hn L (List.mem_filterMap.mpr ⟨env,.head _,hf⟩)),hd⟩,ih (fun a ha=>hn a ?_) hr⟩
    obtain ⟨e,he,hf'⟩:=List.mem_filterMap.mp ha
    exact List.mem_filterMap.mpr ⟨e,.tail _ he,hf'⟩
  exact this _ (fun a ha m=>(hex a m).fr ha) G.frames
 ·obtain ⟨m,o,es,ep,e,r⟩:=G.ns
  exact ⟨m,o,es,ep,kk _ o e fun q=>(hex _ q).loc rfl,r⟩
 ·intro x c e
  obtain ⟨ov,o,e',r⟩:=G.cells x c e
  exact ⟨ov,o,kk _ o e' fun q=>(hex _ q).cells x c e rfl,r⟩
 ·intro a m
  obtain ⟨⟨o,e,n⟩,r⟩:=G.own a m
  exact ⟨⟨o,kk _ o e fun q=>(hex _ q).own m,n⟩,r⟩
 ·obtain ⟨⟨vs,⟨n,e⟩,r⟩,q⟩:=G.src
  exact ⟨⟨vs,⟨n,kk _ _ e fun q=>(hex _ q).S rfl⟩,r⟩,q⟩
 ·intro p hp
  obtain ⟨e,r⟩:=G.pins p hp
  exact ⟨kk _ _ e fun q=>(hex _ q).pins p hp rfl,r⟩
 ·intro x d e
  obtain ⟨v,y,r⟩:=G.vars x d e
  refine ⟨v,?_,hρ _ _ _ e r⟩
  rcases y with ⟨a,m,⟨o,es,ep,e',r'⟩,em⟩ | ⟨a,c,ec,o,e',r'⟩
  ·exact .inl ⟨a,m,⟨o,es,ep,kk _ o e' fun q=>(hex _ q).loc rfl,r'⟩,em⟩
  ·exact .inr ⟨a,c,ec,o,kk _ o e' fun q=>(hex _ q).cells x c ec rfl,r'⟩
theorem Sw (b:AK B) {h h':Heap} (ht:∀ a vs,h.IsTuple a vs→h'.IsTuple a vs) {n:Nat} (ih:∀ d v,noL n d=true→Rd B W h d v→Rd B W h' d v) {d:D} {v:Value} (e:noL (n + 1) d=true) (r:Rd B W h d v):Rd B W h' d v:=by
 have i:=r.inv
 clear r
 cases d with
 | non=>rw [show v=_ from i];exact .non
 | boo x=>rw [show v=_ from i];exact .boo x
 | int x=>obtain ⟨t,ev⟩:=i;rw [ev];exact .int x t
 | str l=>obtain ⟨x,t,ev,q⟩:=i;rw [ev];exact .str x t l q
 | byt l=>obtain ⟨x,t,ev,q⟩:=i;rw [ev];exact .byt x t l q
 | tup ds=>obtain ⟨a,vs,ev,hx,rl⟩:=i;rw [ev];exact .tup a vs ds (ht _ _ hx) (RdL.keep (fun d hd v=>ih d v (List.all_eq_true.mp e d hd)) rl)
 | lst=>exact ffF e
 | src=>rw [show v=_ from i];exact .src
 | chk=>obtain ⟨a,ev,x⟩:=i;rw [ev];exact .chk a x
 | wld=>obtain ⟨a,ev,x⟩:=i;rw [ev];exact .wld a x
 | fn i=>rw [show v=_ from i];exact .fn _
 | blt i=>rw [show v=_ from i];exact .blt _
 | ty i=>rw [show v=_ from i];exact .ty _
 | dic i=>rw [show v=_ from i];exact .dic _
 | pick k ds=>obtain ⟨i,d,e1,nn,r⟩:=i;exact .pick k i ds d v e1 nn (ih _ _ (List.all_eq_true.mp e d (List.mem_of_getElem? (Ib▸nn))) r)
theorem Rd.noL (b:AK B) {h h':Heap} (ht:∀ a vs,h.IsTuple a vs→h'.IsTuple a vs) {n:Nat}:∀ {d:D} {v:Value},noL n d=true→Rd B W h d v→Rd B W h' d v:=by
 induction n with
 | zero=>exact fun e zz=>ffF e
 | succ n ih=>exact Sw b ht fun zz zz=>ih
theorem RdL.noL (b:AK B) {h h':Heap} (ht:∀ a vs,h.IsTuple a vs→h'.IsTuple a vs) {n:Nat} {ds:List D} {vs:List Value} (e:Ko n ds=true):RdL B W h ds vs→RdL B W h' ds vs:=RdL.keep fun d hd zz=>Rd.noL b ht (List.all_eq_true.mp e d hd)
theorem Qd {n:Nat} {ρ:Rho} (h:Sv n ρ=true) {x:Nm} {d:D} (hl:Ay x ρ=some d):noL n d=true:=List.all_eq_true.mp h (x,d) (S3 hl)
end
section
open PySem PySem.W
open PyProof.Rows
open AutoSeq1 (wpAny_loadPart')
section
variable {prog:Program} {w:World} {A:Around} {E:VP} {s:Shared}
theorem M7 {it t:Addr} {i:Nat} {items:Array Value} {x:Value} {Q:VP} (hit:s.heap.IsTupleIter it t i) (ht:s.heap.IsTuple t items) (hx:items[i]? = some x)
  (hQ:∀ h',h'.IsTupleIter it t (i + 1)→Heap.SameBut it s.heap h'→Q x {s with heap:=h'}):wpAny (model prog w) A (Builtin.SmallTypes.nextOf (.ref it)) Q E s:=by
 obtain ⟨o,e1,e2,e3⟩:=id hit
 obtain ⟨p,p1,_,n,p2⟩:=ht
 unfold Builtin.SmallTypes.nextOf
 refine AA (wpAny_callSpecial?_slot (name:=Str.ofString "__next__") hit.typeIs F.slot_tuple_iterator_next (wpAny_call_entry F.slot_tuple_iterator_next hit.typeIs F.entry_tuple_iterator_next ?_ (F.args_tuple_iterator_next_1 _)))
 show wpAny _ _ (field (.ref it) 0>>=_) _ _ s
 refine AA (wpAny_field e1 e3 (x:=.ref t) rfl ?_)
 show wpAny _ _ (if (Value.ref t == Value.none)=true then _ else _) _ _ s
 rw [if_neg (show ¬ ((Value.ref t == Value.none)=true) from Bool.false_ne_true)]
 show wpAny _ _ (field (.ref it) 1>>=_) _ _ s
 refine AA (wpAny_field e1 e3 (x:=.int i 0) rfl ?_)
 show wpAny _ _ (seqItems? (.ref t)>>=_) _ _ s
 refine AA (wpAny_seqItems p1 p2 ?_)
 simp only [Int.toNat_natCast,hx]
 refine AA (wpAny_setField e1 e3 (by simp) (AD ⟨x,rfl,AD (hQ _ ?_ (Heap.SameBut.update ..))⟩))
 refine ⟨_,Heap.get?_update_self _ e1 (Obj.isFreed_of_fields (Obj.data_mapFields e3 _)),(Obj.cls_mapFields ..).trans e2,?_⟩
 rw [Obj.data_mapFields e3];simp [rawInt]
theorem Pt {it t:Addr} {i:Nat} {items:Array Value} {Q:VP} (hh:A.handled=none) (hit:s.heap.IsTupleIter it t i) (ht:s.heap.IsTuple t items) (hx:items[i]? = none)
  (hE:∀ h' e,Heap.ExtBut it s.heap h'→(∃ o,h'.get? e=some o∧o.cls=.type "StopIteration")→E (.ref e) {s with heap:=h'}) :
  wpAny (model prog w) A (Builtin.SmallTypes.nextOf (.ref it)) Q E s:=by
 obtain ⟨o,e1,e2,e3⟩:=id hit
 obtain ⟨p,p1,_,n,p2⟩:=ht
 unfold Builtin.SmallTypes.nextOf
 refine AA (wpAny_callSpecial?_slot (name:=Str.ofString "__next__") hit.typeIs F.slot_tuple_iterator_next (wpAny_call_entry F.slot_tuple_iterator_next hit.typeIs F.entry_tuple_iterator_next ?_ (F.args_tuple_iterator_next_1 _)))
 show wpAny _ _ (field (.ref it) 0>>=_) _ _ s
 refine AA (wpAny_field e1 e3 (x:=.ref t) rfl ?_)
 show wpAny _ _ (if (Value.ref t == Value.none)=true then _ else _) _ _ s
 rw [if_neg (show ¬ ((Value.ref t == Value.none)=true) from Bool.false_ne_true)]
 show wpAny _ _ (field (.ref it) 1>>=_) _ _ s
 refine AA (wpAny_field e1 e3 (x:=.int i 0) rfl ?_)
 show wpAny _ _ (seqItems? (.ref t)>>=_) _ _ s
 refine AA (wpAny_seqItems p1 p2 ?_)
 simp only [Int.toNat_natCast,hx]
 refine AA (wpAny_rule (AA (wpAny_setField e1 e3 (by simp) ?_)))
 show wpAny _ _ (newExc (.type "StopIteration") []>>=_) _ _ _
 refine AA ?_
 simp only [newExc,newTuple]
 refine AA (wpAny_newObj_type ?_ (by size_fits))
 refine AA (m:=firstArgMember _ _) (wpAny_of_eq (a:=Value.none) (by first | rfl | (simp only [firstArgMember];rfl)) ?_)
 refine wpAny_newObj_type ?_ (by size_fits)
 refine wpAny_raiseNew_none hh ?_
 exact hE _ _ (((Heap.SameBut.update ..).extBut.push _).push _) ⟨_,Heap.get?_push_size _ rfl,rfl⟩
end
theorem Fz {prog:Program} {w:World} {A:Around} (hh:A.handled=none) (it t:Addr) (hne:t≠it) (items:Array Value) :
  Draws prog w A it [it,t] items.size (fun i v=>items[i]? = some v) (fun i h=>h.IsTupleIter it t i∧h.IsTuple t items) where
 live:=fun zz zz st=>let ⟨o,ho,_⟩:=st.1;⟨o,ho⟩
 frame:=fun zz zz zz st hk=>⟨st.1.at fun o e=>hk it (by simp) o e,st.2.at fun o e=>hk t (by simp) o e⟩
 item:=fun i s Q E hi st hQ=>M7 st.1 st.2 (x:=items[i]) (by simp [hi]) fun h' hit' hs'=>hQ _ h' s.toks (by simp [hi]) ⟨hit',st.2.extBut hs'.extBut hne⟩ hs'
 done:=fun s Q E st hE=>Pt hh st.1 st.2 (by simp) hE
theorem Uu {α:Type} {M:Model} {A:Around} {Q:α→Shared→Prop} {E:VP} {s:Shared} {a:α} (h:∀ c,Q c s):wpAny M A (pure a) Q E s:=AD (h a)
theorem Gy (l:Addr) (items:Array Value) (o:Obj) (hc:o.cls=.type "tuple") (hd:∃ n,o.data=.seq items n) :
  Meets (Builtin.«enumerate.__new__» ⟨[.type "enumerate",.ref l],[]⟩) (fun zz R s=>s.heap.get? l=some o∧
   R (.ok (.ret (.ref (s.heap.push {cls:=.type "tuple_iterator",data:=.fields #[.ref l,.int 0 0]}).objs.size)))
    {s with heap:=(s.heap.push {cls:=.type "tuple_iterator",data:=.fields #[.ref l,.int 0 0]}).push {cls:=.type "enumerate",data:=.fields #[.none,.bool false,.ref s.heap.objs.size,rawInt 0,.none,.none]}}) :=
 .of_wp fun prog w A R s h=>by
  obtain ⟨hp,g,d,tk,os⟩:=s;obtain ⟨hl,h⟩:=h
  have hsub:=sub_enumerate
  have hT:Heap.IsTuple (Shared.heap ⟨hp,g,d,tk,os⟩) l items:=⟨_,hl,hc,hd⟩
  have hTy:Shared.TypeIs ⟨hp,g,d,tk,os⟩ (.ref l) "tuple":=hT.typeIs
  obtain ⟨n,hd⟩:=hd
  obtain ⟨c,dct,dt,sl⟩:=o
  replace hc:c=.type "tuple":=hc
  replace hd:dt=.seq items n:=hd
  subst hc hd
  wp_walk using wpAny_loadPart' hl
  refine wpAny_stack_any fun st=>Uu fun c=>?_
  cases c<;>(wp_walk using wpAny_loadPart' hl,wpAny_pyIter_tuple hT;exact ⟨_,rfl,h⟩)
theorem Hs {prog:Program} {w:World} {A:Around} {E:VP} {s:Shared} {l:Addr} {items:Array Value} {Q:VP} (hL:s.heap.IsTuple l items)
  (h:∀ h',IsEnum h' (s.heap.objs.size + 1) s.heap.objs.size 0 .none→h'.IsTupleIter s.heap.objs.size l 0→h'.objs.size=s.heap.objs.size + 2→
   (∀ b o,s.heap.get? b=some o→h'.get? b=some o)→Q (.ref (s.heap.objs.size + 1)) {s with heap:=h'}) :
  wpAny (model prog w) A (call (.type "enumerate") [.ref l]) Q E s:=by
 obtain ⟨o,ho,hc,hd⟩:=hL
 refine callType_new F.called_enumerate (by decide) (F.typeCall_enumerate_1 _) (F.newCall_enumerate_1 _) (fun obj=>F.args_object_init_2 obj _) F.entry_enumerate_new (Gy l items o hc hd) ⟨ho,?_⟩
 have hz:(s.heap.push {cls:=.type "tuple_iterator",data:=.fields #[.ref l,.int 0 0]}).objs.size=s.heap.objs.size + 1:=Heap.size_push ..
 show _∧_
 rw [hz]
 have he:IsEnum ((s.heap.push {cls:=.type "tuple_iterator",data:=.fields #[.ref l,.int 0 0]}).push {cls:=.type "enumerate",data:=.fields #[.none,.bool false,.ref s.heap.objs.size,rawInt 0,.none,.none]}) (s.heap.objs.size + 1) s.heap.objs.size 0 .none:=by
  have:=Heap.get?_push_size (s.heap.push {cls:=.type "tuple_iterator",data:=.fields #[.ref l,.int 0 0]}) (o:={cls:=.type "enumerate",data:=.fields #[.none,.bool false,.ref s.heap.objs.size,rawInt 0,.none,.none]}) rfl
  rw [hz] at this;exact this
 refine ⟨⟨_,he,rfl⟩,h _ he ⟨_,AE _ (Heap.get?_push_size _ rfl),rfl,rfl⟩ (by rw [Heap.size_push,hz]) fun b o x=>AE _ (AE _ x)⟩
end
section
open PySem PySem.W
open PyProof.Rows
open AutoSeq1 (wpAny_loadPart')
noncomputable def Cf (h:Heap) (e it:Addr) (i:Int) (T:Addr) (f1 item:Value):Prop :=
 h.get? e=some {cls:=.type "enumerate",dict:=none,data:=.fields #[rawInt T,f1,.ref it,rawInt i,.none,item],slots:=#[]}
section
variable {prog:Program} {w:World} {A:Around} {E:VP} {s:Shared}
theorem Rk {M:Model} {a:Addr} {Q:Option Obj→Shared→Prop} (h:Q (s.heap.get? a) s):wpAny M A (loadIfAlive a) Q E s:=fun zz zz zz=>h
theorem Tr {e it l T:Addr} {oT:Obj} {i:Nat} {items:Array Value} {x f1 item:Value} {Q:VP}
  (he:Cf s.heap e it i T f1 item) (hT:s.heap.get? T=some oT) (hTe:T≠e) (hTi:T≠it) (hit:s.heap.IsListIter it l i) (hl:s.heap.IsList l items) (hx:items[i]? = some x) (hne:e≠it)
  (hQ:∀ h' f,Cf h' e it ((i:Int) + 1) T f item→h'.IsListIter it l (i + 1)→h'.get? s.heap.objs.size=some {cls:=.type "tuple",data:=.seq #[.int i s.toks,x]}→
   (∀ b o,b≠e→b≠it→s.heap.get? b=some o→h'.get? b=some o)→Q (.ref s.heap.objs.size) {s with heap:=h',toks:=s.toks + 1}) :
  wpAny (model prog w) A (Builtin.«enumerate.__next__» ⟨[.ref e],[]⟩) (fun fin s'=>∃ v,fin=.done (.ret v)∧Q v s') E s:=by
 obtain ⟨hp,g,d,tk,os⟩:=s
 show wpAny _ _ (field (.ref e) 2>>=_) _ _ _
 refine AA (wpAny_field he rfl (x:=.ref it) rfl ?_)
 refine AA (wpAny_nextOf_list_item hit hl hx fun h₁ hit₁ hs₁=>?_)
 replace hs₁:Heap.SameBut it hp h₁:=hs₁
 have he₁:Cf h₁ e it i T f1 item:=(hs₁.2 e hne).trans he
 show wpAny _ _ (field (.ref e) 3>>=_) _ _ ⟨h₁,g,d,tk,os⟩
 refine AA (wpAny_field he₁ rfl (x:=rawInt i) rfl ?_)
 show wpAny _ _ (field (.ref e) 4>>=_) _ _ ⟨h₁,g,d,tk,os⟩
 refine AA (wpAny_field he₁ rfl (x:=.none) rfl ?_)
 show wpAny _ _ (mkInt i>>=_) _ _ ⟨h₁,g,d,tk,os⟩
 refine AA (wpAny_mkInt ?_)
 show wpAny _ _ (setField (.ref e) 3 (rawInt ((i:Int) + 1))>>=_) _ _ ⟨h₁,g,d,tk + 1,os⟩
 refine AA (wpAny_setField_rec he₁ (by simp) fun h₂ he₂ hs₂=>?_)
 replace hs₂:Heap.SameBut e h₁ h₂:=hs₂
 replace he₂:Cf h₂ e it ((i:Int) + 1) T f1 item:=he₂
 show wpAny _ _ (setField (.ref e) 4 .none>>=_) _ _ ⟨h₂,g,d,tk + 1,os⟩
 refine AA (wpAny_setField_rec he₂ (by simp) fun h₃ he₃ hs₃=>?_)
 replace hs₃:Heap.SameBut e h₂ h₃:=hs₃
 replace he₃:Cf h₃ e it ((i:Int) + 1) T f1 item:=he₃
 show wpAny _ _ (newTuple [.int i tk,x]>>=_) _ _ ⟨h₃,g,d,tk + 1,os⟩
 refine AA (wpAny_newTuple ?_)
 have hsz:h₃.objs.size=hp.objs.size:=by rw [hs₃.1,hs₂.1,hs₁.1]
 have he₄:Cf (h₃.push {cls:=.type "tuple",data:=.seq #[.int i tk,x]}) e it ((i:Int) + 1) T f1 item:=AE _ he₃
 have hk₃:∀ b o,b≠e→b≠it→hp.get? b=some o→h₃.get? b=some o:=fun b o hbe hbi hb=>hs₃.extBut b o hbe (hs₂.extBut b o hbe (hs₁.extBut b o hbi hb))
 have hit₃:=(hit₁.extBut hs₂.extBut (Ne.symm hne)).extBut hs₃.extBut (Ne.symm hne)
 have hel:e < hp.objs.size:=Heap.lt_size he
 have hT₄:(h₃.push {cls:=.type "tuple",data:=.seq #[.int i tk,x]}).get? T=some oT:=AE _ (hk₃ T oT hTe hTi hT)
 have ht₄:(h₃.push {cls:=.type "tuple",data:=.seq #[.int i tk,x]}).get? hp.objs.size=some {cls:=.type "tuple",data:=.seq #[.int i tk,x]}:=by rw [←hsz];exact Heap.get?_push_size _ rfl
 rw [hsz]
 show wpAny _ _ (Builtin.SmallTypes.ownedTupleIsFree (.ref e)>>=_) _ _ ⟨h₃.push {cls:=.type "tuple",data:=.seq #[.int i tk,x]},g,d,tk + 1,os⟩
 have fin:∀ h5 f,Cf h5 e it ((i:Int) + 1) T f item→(∀ b o,b≠e→(h₃.push {cls:=.type "tuple",data:=.seq #[.int i tk,x]}).get? b=some o→h5.get? b=some o)→
   Q (.ref hp.objs.size) ⟨h5,g,d,tk + 1,os⟩:=fun h5 f he5 k5=>by
  refine hQ h5 f he5 ?_ (k5 _ _ (Nat.ne_of_gt hel) ht₄) fun b o hbe hbi hb=>k5 b o hbe (AE _ (hk₃ b o hbe hbi hb))
  obtain ⟨o,ho,r⟩:=hit₃
  exact ⟨o,k5 _ _ (Ne.symm hne) (AE _ ho),r⟩
 refine AA ?_
 unfold Builtin.SmallTypes.ownedTupleIsFree
 refine AA (wpAny_field he₄ rfl (x:=rawInt T) rfl ?_)
 show wpAny _ _ (loadIfAlive ((T:Int)).toNat>>=_) _ _ _
 refine AA (Rk ?_)
 rw [Int.toNat_natCast,hT₄]
 show wpAny _ _ (if (false:Bool)=true then _ else _) _ _ _
 rw [if_neg Bool.false_ne_true]
 refine AA (wpAny_field he₄ rfl (x:=f1) rfl ?_)
 split
 ·refine AA (wpAny_setField_rec he₄ (by simp) fun h₅ he₅ hs₅=>?_)
  refine AD ?_
  rw [if_neg Bool.false_ne_true]
  exact AD ⟨_,rfl,fin h₅ _ he₅ fun b o hb e=>hs₅.extBut b o hb e⟩
 ·refine AD ?_
  rw [if_neg Bool.false_ne_true]
  exact AD ⟨_,rfl,fin _ _ he₄ fun b o hb e=>e⟩
theorem OL {e it l T:Addr} {oT:Obj} {i:Nat} {items:Array Value} {x f1 item:Value} {Q:Option Value→Shared→Prop}
  (he:Cf s.heap e it i T f1 item) (hT:s.heap.get? T=some oT) (hTe:T≠e) (hTi:T≠it) (hit:s.heap.IsListIter it l i) (hl:s.heap.IsList l items) (hx:items[i]? = some x) (hne:e≠it)
  (hQ:∀ h' f,Cf h' e it ((i:Int) + 1) T f item→h'.IsListIter it l (i + 1)→h'.get? s.heap.objs.size=some {cls:=.type "tuple",data:=.seq #[.int i s.toks,x]}→
   (∀ b o,b≠e→b≠it→s.heap.get? b=some o→h'.get? b=some o)→Q (some (.ref s.heap.objs.size)) {s with heap:=h',toks:=s.toks + 1}) :
  wpAny (model prog w) A (pyNext (.ref e)) Q E s:=by
 have hTy:s.TypeIs (.ref e) "enumerate":=⟨_,he,rfl⟩
 unfold pyNext
 exact AA (wpAny_attempt (wpAny_callSpecial?_slot (name:=Str.ofString "__next__") hTy F.slot_enumerate_next
  (wpAny_call_entry F.slot_enumerate_next hTy F.entry_enumerate_next (Tr he hT hTe hTi hit hl hx hne fun h' f a b c k=>AD (hQ h' f a b c k)) (F.args_enumerate_next_1 _))))
theorem Tu {e it l:Addr} {o:Obj} {vs:Array Value} {i:Nat} {items:Array Value} {Q:Option Value→Shared→Prop} (hh:A.handled=none)
  (he:s.heap.get? e=some o) (hc:o.cls=.type "enumerate") (hd:o.data=.fields vs) (h2:vs[2]? = some (.ref it)) (hit:s.heap.IsListIter it l i) (hl:s.heap.IsList l items) (hx:items[i]? = none)
  (hQ:∀ h',Heap.ExtBut it s.heap h'→Q none {s with heap:=h'}):wpAny (model prog w) A (pyNext (.ref e)) Q E s:=by
 have hTy:s.TypeIs (.ref e) "enumerate":=⟨_,he,hc⟩
 unfold pyNext
 refine AA (wpAny_attempt (wpAny_callSpecial?_slot (name:=Str.ofString "__next__") hTy F.slot_enumerate_next
  (wpAny_call_entry F.slot_enumerate_next hTy F.entry_enumerate_next ?_ (F.args_enumerate_next_1 _))))
 show wpAny _ _ (field (.ref e) 2>>=_) _ _ _
 refine AA (wpAny_field he hd h2 ?_)
 refine AA (wpAny_nextOf_list_end hh hit hl hx fun h' x he' hx'=>?_)
 obtain ⟨o',ho,hc'⟩:=hx'
 refine AA (wpAny_isInstance (T:="StopIteration") (b:=true) ⟨o',ho,hc'⟩ isSubtype_stop ?_)
 exact AD (hQ _ he')
end
noncomputable def M1 (e it S:Addr) (items:Array Value) (i:Nat) (acc:Array Value) (h:Heap):Prop :=
 (∃ c,h.get? S=some {cls:=.type "list",data:=.seq acc c})∧acc.size=i∧
  ∀ j,j < i→∃ T t x,acc[j]? = some (.ref T)∧items[j]? = some x∧h.get? T=some {cls:=.type "tuple",data:=.seq #[.int (j:Int) t,x]}∧T≠e∧T≠it∧T≠S
noncomputable def Yc (e it l S:Addr) (items:Array Value) (i:Nat) (acc:Array Value) (h:Heap):Prop :=
 ((i=0∧IsEnum h e it 0 .none)∨∃ T f item oT,Cf h e it i T f item∧h.get? T=some oT∧T≠e∧T≠it∧T≠S)∧h.IsListIter it l i∧h.IsList l items∧M1 e it S items i acc h
theorem M1.kept {e it S:Addr} {items:Array Value} {i:Nat} {acc:Array Value} {h h':Heap} (x:M1 e it S items i acc h) (k:∀ b o,b≠e→b≠it→h.get? b=some o→h'.get? b=some o) (n1:S≠e) (n2:S≠it):M1 e it S items i acc h':=by
 obtain ⟨⟨c,hc⟩,h1,h2⟩:=x
 refine ⟨⟨c,k S _ n1 n2 hc⟩,h1,fun j hj=>?_⟩
 obtain ⟨T,t,x,a,b,d,n3,n4,n5⟩:=h2 j hj
 exact ⟨T,t,x,a,b,k T _ n3 n4 d,n3,n4,n5⟩
section
variable {prog:Program} {w:World} {A:Around} {R:Result→Shared→Prop} {e it l S:Addr} {items:Array Value}
theorem VX (hh:A.handled=none) (h1:e≠it) (h2:l≠e) (h3:l≠it) (h4:S≠e) (h5:S≠it) (h6:S≠l) (hsz:items.size≤2 ^ 20) (res:Value) (k:Nat):∀ (i:Nat) (s:Shared) (acc:Array Value),items.size - i=k→i≤items.size→Yc e it l S items i acc s.heap→
  (∀ acc' h' tk,M1 e it S items items.size acc' h'→(∀ b o,b≠e→b≠it→b≠S→s.heap.get? b=some o→h'.get? b=some o)→R (.ok (.ret res)) {s with heap:=h',toks:=tk})→
  codeAny (model prog w) A (.builtin "list.extend.loop" ⟨[.ref S,.ref e,res],[]⟩) R s:=by
 induction k with
 | zero=>
  intro i s acc hk hi inv hR
  rw [Nat.le_antisymm hi (Nat.le_of_sub_eq_zero hk)] at inv
  obtain ⟨st,hit,hl,ha⟩:=inv
  refine codeAny_builtin F.entry_extend_loop ?_
  rw [Around.under_plainId F.plain_extend_loop _]
  show wpAny _ A.in1 (pyNext (.ref e)>>=_) _ _ s
  have fin:∀ h':Heap,Heap.ExtBut it s.heap h'→R (.ok (.ret res)) {s with heap:=h'}:=fun h' x=>
   hR acc h' s.toks (ha.kept (fun b o zz n e=>x b o n e) h4 h5) fun b o zz n zz e=>x b o n e
  have hx:items[items.size]? = none:=by simp
  rcases st with ⟨_,he⟩ | ⟨T,f,item,oT,he,_⟩
  ·exact AA (Tu (A:=A.in1) hh he rfl rfl rfl hit hl hx fun h' x=>AD (fin h' x))
  ·exact AA (Tu (A:=A.in1) hh he rfl rfl rfl hit hl hx fun h' x=>AD (fin h' x))
 | succ k ih=>
  intro i s acc hk hi inv hR
  have hlt:i < items.size:=Nat.lt_of_sub_pos (hk▸Nat.succ_pos k)
  obtain ⟨st,hit,hl,ha⟩:=inv
  have hx:items[i]? = some items[i]:=Array.getElem?_eq_getElem hlt
  refine codeAny_builtin F.entry_extend_loop ?_
  rw [Around.under_plainId F.plain_extend_loop _]
  show wpAny _ A.in1 (pyNext (.ref e)>>=_) _ _ s
  obtain ⟨⟨c,hS⟩,hsize,htup⟩:=id ha
  have hSlt:=Heap.lt_size hS
  have helt:e < s.heap.objs.size:=by rcases st with ⟨_,he⟩ | ⟨T,f,item,oT,he,_⟩<;>exact Heap.lt_size he
  have hilt:it < s.heap.objs.size:=by obtain ⟨o,e,_⟩:=hit;exact Heap.lt_size e
  have go:∀ (h₁:Heap) (T:Addr) (f item:Value) (oT:Obj),Cf h₁ e it ((i:Int) + 1) T f item→h₁.get? T=some oT→T≠e→T≠it→T≠S→h₁.IsListIter it l (i + 1)→
    h₁.get? s.heap.objs.size=some {cls:=.type "tuple",data:=.seq #[.int i s.toks,items[i]]}→(∀ b o,b≠e→b≠it→s.heap.get? b=some o→h₁.get? b=some o)→
    wpAny (model prog w) A.in1 (updateSeq S (·.push (.ref s.heap.objs.size))>>=fun zz=>again (.builtin "list.extend.loop" ⟨[.ref S,.ref e,res],[]⟩))
     (fun fin s'=>match fin with | .done f=>R (.ok f) s' | .again c'=>c'.quiet=true∧codeAny (model prog w) A c' R s') (fun e s'=>R (.error e) s') {s with heap:=h₁,toks:=s.toks + 1}:=by
   intro h₁ T f item oT he₁ hT₁ n1 n2 n3 hit₁ ht₁ k₁
   have hS₁:=k₁ S _ h4 h5 hS
   refine AA (wpAny_updateSeq hS₁ rfl (AD ⟨plainId_quiet F.plain_extend_loop _,?_⟩) (by rw [hsize];exact Nat.le_trans (Nat.le_of_lt hlt) (Nat.le_trans hsz Ag)) (by show (acc.push _).size≤_;rw [Array.size_push,hsize];exact Nat.succ_le_succ (Nat.le_trans (Nat.le_of_lt hlt) (Nat.le_trans hsz Ag))))
   have oth:∀ b o,b≠S→h₁.get? b=some o→(h₁.update S (Obj.mapSeq (·.push (.ref s.heap.objs.size)))).get? b=some o:=fun b o n e=>(Heap.get?_update_other _ _ (Ne.symm n)).trans e
   have hS₂:=Heap.get?_update_self (Obj.mapSeq (·.push (Value.ref s.heap.objs.size))) hS₁ rfl
   have a1:=ha.kept k₁ h4 h5
   have he₂:Cf h₁ e it ((i + 1:Nat):Int) T f item:=by
    have:((i + 1:Nat):Int)=(i:Int) + 1:=by omega
    rw [this];exact he₁
   refine ih (i + 1) _ (acc.push (.ref s.heap.objs.size)) (by rw [Nat.sub_succ,hk];rfl) hlt ⟨.inr ⟨T,f,item,oT,oth _ _ (Ne.symm h4) (he₂),oth _ _ n3 hT₁,n1,n2,n3⟩,?_,?_,⟨⟨_,hS₂⟩,by rw [Array.size_push,hsize],fun j hj=>?_⟩⟩ fun acc' h' tk ha' kk=>?_
   ·obtain ⟨o,e,r⟩:=hit₁;exact ⟨o,oth _ _ (Ne.symm h5) e,r⟩
   ·obtain ⟨o,e,r⟩:=hl;exact ⟨o,oth _ _ (Ne.symm h6) (k₁ l o h2 h3 e),r⟩
   ·by_cases q:j=i
    ·subst q
     refine ⟨s.heap.objs.size,s.toks,items[j],by rw [Array.getElem?_push,if_pos hsize.symm],hx,oth _ _ (Nat.ne_of_gt hSlt) ht₁,Nat.ne_of_gt helt,Nat.ne_of_gt hilt,Nat.ne_of_gt hSlt⟩
    ·obtain ⟨T',t,x,a,b,d,m1,m2,m3⟩:=a1.2.2 j (by omega)
     exact ⟨T',t,x,by rw [Array.getElem?_push,if_neg (by rw [hsize];exact q)];exact a,b,oth _ _ m3 d,m1,m2,m3⟩
   ·exact hR acc' h' tk ha' fun b o m1 m2 m3 e=>kk b o m1 m2 m3 (oth b o m3 (k₁ b o m1 m2 e))
  rcases st with ⟨rfl,he⟩ | ⟨T,f,item,oT,he,hT,n1,n2,n3⟩
  ·refine AA (wpAny_pyNext_enum_item (i:=0) he hit hl hx h1 fun h₁ he₁ hit₁ ht₁ hz₁ k₁=>?_)
   exact go h₁ s.heap.objs.size (.bool false) items[0] _ he₁ ht₁ (Nat.ne_of_gt helt) (Nat.ne_of_gt hilt) (Nat.ne_of_gt hSlt) hit₁ ht₁ k₁
  ·refine AA (OL he hT n1 n2 hit hl hx h1 fun h₁ f₁ he₁ hit₁ ht₁ k₁=>?_)
   exact go h₁ T f₁ item oT he₁ (k₁ T oT n1 n2 hT) n1 n2 n3 hit₁ ht₁ k₁
end
theorem RG:typeLookup (.type "enumerate") "__len__" = pure none:=by rw [typeLookup_type,builtinLookup_eq_fast];kernel_rfl
theorem OM:typeLookup (.type "enumerate") "__length_hint__" = pure none:=by rw [typeLookup_type,builtinLookup_eq_fast];kernel_rfl
section
variable {prog:Program} {w:World} {A:Around} {E:VP} {s:Shared} {e it l:Addr} {items:Array Value}
noncomputable def Pn (items acc:Array Value) (h:Heap):Prop:=acc.size=items.size∧∀ j,j < items.size→∃ T t x,acc[j]? = some (.ref T)∧items[j]? = some x∧h.get? T=some {cls:=.type "tuple",data:=.seq #[.int (j:Int) t,x]}
theorem ON {Q:List Value→Shared→Prop} (hh:A.handled=none) (h1:e≠it) (h2:l≠e) (h3:l≠it) (hsz:items.size≤2 ^ 20) (he:IsEnum s.heap e it 0 .none) (hit:s.heap.IsListIter it l 0) (hl:s.heap.IsList l items)
  (hQ:∀ acc h' tk,Pn items acc h'→(∀ b o,b≠e→b≠it→s.heap.get? b=some o→h'.get? b=some o)→Q acc.toList {s with heap:=h',toks:=tk}):wpAny (model prog w) A (collect (.ref e)) Q E s:=by
 have le:=Heap.lt_size he
 have li:it < s.heap.objs.size:=by obtain ⟨o,x,_⟩:=hit;exact Heap.lt_size x
 have ll:l < s.heap.objs.size:=by obtain ⟨o,x,_⟩:=hl;exact Heap.lt_size x
 have nSe:s.heap.objs.size≠e:=Nat.ne_of_gt le
 have nSi:s.heap.objs.size≠it:=Nat.ne_of_gt li
 have nSl:s.heap.objs.size≠l:=Nat.ne_of_gt ll
 unfold collect
 refine AA (wpAny_runValue (codeAny_builtin F.entry_proto_collect ?_))
 rw [Around.under_plainId F.plain_proto_collect _]
 show wpAny _ A.in1 (newList []>>=fun l=>again (.builtin "list.__iadd__" ⟨[l,.ref e],[]⟩)) _ _ s
 refine AA (wpAny_newObj_type ?_)
 refine AD ⟨plainId_quiet F.plain_list_iadd _,codeAny_builtin F.entry_list_iadd ?_⟩
 rw [Around.under_plainId F.plain_list_iadd _]
 have he₁:IsEnum (s.heap.push {cls:=.type "list",data:=.seq ([]:List Value).toArray}) e it 0 .none:=AE _ he
 have hT:Shared.TypeIs {s with heap:=s.heap.push {cls:=.type "list",data:=.seq ([]:List Value).toArray}} (.ref e) "enumerate":=⟨_,he₁,rfl⟩
 show wpAny _ A.in1 (Builtin.List.listExtendWith (.ref s.heap.objs.size) (.ref e) (.ref s.heap.objs.size)) _ _ _
 unfold Builtin.List.listExtendWith
 refine AA (wpAny_typeOf hT ?_)
 have g1:Builtin.List.listSameRef (.ref s.heap.objs.size) (.ref e)=false:=beq_eq_false_iff_ne.mpr nSe
 have g2:(Value.type "enumerate" == Value.type "list")=false:=by decide
 have g3:(Value.type "enumerate" == Value.type "tuple")=false:=by decide
 rw [if_neg (show ¬ ((Builtin.List.listSameRef (.ref s.heap.objs.size) (.ref e) || Value.type "enumerate" == Value.type "list" || Value.type "enumerate" == Value.type "tuple")=true) by rw [g1,g2,g3];exact Bool.false_ne_true)]
 refine AA (wpAny_pyIter_enum he₁ ?_)
 refine AA (AG ?_)
 unfold Builtin.List.listLengthHint
 refine AA (wpAny_specialOf hT RG ?_)
 show wpAny _ A.in1 (specialOf (Value.ref e) (Str.ofString "__length_hint__")>>=_) _ _ _
 refine AA (wpAny_specialOf hT OM ?_)
 refine AD ?_
 show wpAny _ A.in1 (rule "list.extend.makes-room">>=fun zz=>Builtin.List.listTouch (.ref s.heap.objs.size)>>=fun zz=>
  again (.builtin "list.extend.loop" ⟨[.ref s.heap.objs.size,.ref e,.ref s.heap.objs.size],[]⟩)) _ _ _
 refine AA (wpAny_rule ?_)
 have hS₁:(s.heap.push {cls:=.type "list",data:=.seq ([]:List Value).toArray}).get? s.heap.objs.size=some {cls:=.type "list",data:=.seq ([]:List Value).toArray}:=Heap.get?_push_size _ rfl
 refine AA ?_
 show wpAny _ A.in1 (updateSeq s.heap.objs.size (·.push .none)>>=fun zz=>updateSeq s.heap.objs.size (·.pop)) _ _ _
 refine AA (wpAny_updateSeq hS₁ rfl ?_)
 have hS₂:=Heap.get?_update_self (Obj.mapSeq (·.push Value.none)) hS₁ rfl
 refine wpAny_updateSeq hS₂ rfl ?_
 have hS₃:=Heap.get?_update_self (Obj.mapSeq (·.pop)) hS₂ rfl
 have oth:∀ b o,b≠s.heap.objs.size→s.heap.get? b=some o→
   (((s.heap.push {cls:=.type "list",data:=.seq ([]:List Value).toArray}).update s.heap.objs.size (Obj.mapSeq (·.push Value.none))).update s.heap.objs.size (Obj.mapSeq (·.pop))).get? b=some o :=
  fun b o hb x=>(Heap.get?_update_other _ _ (Ne.symm hb)).trans ((Heap.get?_update_other _ _ (Ne.symm hb)).trans (AE _ x))
 refine AD ⟨plainId_quiet F.plain_extend_loop _,VX hh h1 h2 h3 nSe nSi nSl hsz _ items.size 0 _ #[] rfl (Nat.zero_le _)
  ⟨.inl ⟨rfl,oth _ _ nSe.symm he⟩,?_,?_,⟨⟨_,hS₃⟩,rfl,fun j hj=>absurd hj (Nat.not_lt_zero _)⟩⟩ fun acc' h' tk ha kk=>?_⟩
 ·obtain ⟨o,x,r⟩:=hit;exact ⟨o,oth _ _ nSi.symm x,r⟩
 ·obtain ⟨o,x,r⟩:=hl;exact ⟨o,oth _ _ nSl.symm x,r⟩
 obtain ⟨⟨c,hS'⟩,hsize,ht⟩:=ha
 show wpAny _ A (load s.heap.objs.size>>=_) _ _ _
 refine AA (wpAny_load hS' ?_)
 refine AD (hQ acc' h' tk ⟨hsize,fun j hj=>?_⟩ fun b o m1 m2 x=>kk b o m1 m2 (Nat.ne_of_lt (Heap.lt_size x)) (oth b o (Nat.ne_of_lt (Heap.lt_size x)) x))
 obtain ⟨T,t,x,a,b,d,_⟩:=ht j hj
 exact ⟨T,t,x,a,b,d⟩
theorem JU {Q₁:VP} (hh:A.handled=none) (h1:e≠it) (h2:l≠e) (h3:l≠it) (hsz:items.size≤2 ^ 20) (he:IsEnum s.heap e it 0 .none) (hit:s.heap.IsListIter it l 0) (hl:s.heap.IsList l items)
  (h:∀ acc h' tk,Pn items acc h'→(∀ b o,b≠e→b≠it→s.heap.get? b=some o→h'.get? b=some o)→Q₁ (.ref h'.objs.size) {s with heap:=h'.push {cls:=.type "tuple",data:=.seq acc},toks:=tk}) :
  codeAny (model prog w) A (.call (.builtin "tuple.__new__") ⟨[.type "tuple",.ref e],[]⟩) (wants Q₁ E) s:=by
 refine codeAny_of_tree ?_
 show wpAny _ A.in1 (do checkBuiltinCall "tuple.__new__" ⟨[.type "tuple",.ref e],[]⟩;again (.builtin "tuple.__new__" ⟨[.type "tuple",.ref e],[]⟩)) _ _ s
 refine AA (wpAny_of_eq (F.newCall_tuple_1 _) (AD ⟨plainId_quiet F.plain_tuple_new _,codeAny_builtin F.entry_tuple_new ?_⟩))
 rw [Around.under_plainId F.plain_tuple_new _]
 have hsub:=sub_tuple_self
 have hinit:=init_tuple_lookup
 have hmh:=madeHere_tuple
 have hTI:s.TypeIs (.ref e) "enumerate":=⟨_,he,rfl⟩
 have hc:∀ {Q:List Value→Shared→Prop} {E':VP},(∀ acc h' tk,Pn items acc h'→(∀ b o,b≠e→b≠it→s.heap.get? b=some o→h'.get? b=some o)→Q acc.toList {s with heap:=h',toks:=tk})→wpAny (model prog w) A.in1 (collect (.ref e)) Q E' s :=
  fun hq=>ON (A:=A.in1) hh h1 h2 h3 hsz he hit hl hq
 wp_walk using wpAny_typeOf hTI,hc
 intro acc h' tk ho hk
 show wpAny _ _ (Builtin.Tuple.tupleExact acc.toList.toArray>>=fun v=>ret v) _ _ _
 unfold Builtin.Tuple.tupleExact
 refine AA (wpAny_newObj_type ?_ (by show acc.toList.toArray.size≤sizeLine;simp only [Array.toArray_toList];rw [ho.1];exact Nat.le_trans hsz Ag))
 refine AD ?_
 have e1:acc.toList.toArray=acc:=by simp
 rw [e1]
 exact h acc h' tk ho hk
theorem Hr {Q:VP} (hh:A.handled=none) (h1:e≠it) (h2:l≠e) (h3:l≠it) (hsz:items.size≤2 ^ 20) (he:IsEnum s.heap e it 0 .none) (hit:s.heap.IsListIter it l 0) (hl:s.heap.IsList l items)
  (hQ:∀ acc h' tk,Pn items acc h'→(∀ b o,b≠e→b≠it→s.heap.get? b=some o→h'.get? b=some o)→Q (.ref h'.objs.size) {s with heap:=h'.push {cls:=.type "tuple",data:=.seq acc},toks:=tk}) :
  wpAny (model prog w) A (call (.type "tuple") [.ref e]) Q E s:=by
 refine callType_codes (Q₁:=fun obj s₁=>s₁.TypeIs obj "tuple"∧Q obj s₁) F.called_tuple (F.typeCall_tuple_1 _) F.entry_object_init
  (JU hh h1 h2 h3 hsz he hit hl fun acc h' tk ho hk=>⟨⟨_,Heap.get?_push_size _ rfl,rfl⟩,hQ acc h' tk ho hk⟩) fun obj s₁ h₁=>?_
 exact ⟨h₁.1,F.args_object_init_2 obj _,object_init_meets F.called_tuple.init.lookup F.called_tuple.made (by decide) prog w A.in1 _ s₁ ⟨h₁.1,rfl,h₁.2⟩⟩
end
end
section
open PySem PySem.W
variable {B:Bs} {F F':Fv} {C:Value} {W W':Wd} {σ σ':St} {s s':Shared}
open PyProof.Rows
inductive ItK where
 | lst (I ax:Addr) (vs:Array Value) | tup (I ax:Addr) (vs:Array Value) | rng (I:Addr) (n:Nat) | enm (e it ax:Addr) (vs:Array Value)
noncomputable def ItK.I:ItK→Addr | .lst I ..=>I | .tup I ..=>I | .rng I _=>I | .enm e ..=>e
noncomputable def ItK.ex:ItK→List Addr | .lst I ..=>[I] | .tup I ..=>[I] | .rng I _=>[I] | .enm e it ..=>[e,it]
noncomputable def ItK.len:ItK→Nat | .lst _ _ vs=>vs.size | .tup _ _ vs=>vs.size | .rng _ n=>n | .enm _ _ _ vs=>vs.size
noncomputable def ItK.src:ItK→Option Addr | .lst _ ax _=>some ax | _=>none
noncomputable def ItK.isE:ItK→Bool | .enm ..=>true | _=>false
noncomputable def ItK.At (k:ItK) (i:Nat) (h:Heap):Prop:=match k with
 | .lst I ax vs=>h.IsListIter I ax i∧h.IsList ax vs∧ax≠I
 | .tup I ax vs=>h.IsTupleIter I ax i∧h.IsTuple ax vs∧ax≠I
 | .rng I n=>IsRangeIter h I ((0:Int) + (i:Nat) * 1) ((n:Int) - (i:Nat)) 1
 | .enm e it ax vs=>(∃ old,IsEnum h e it i old)∧h.IsTupleIter it ax i∧h.IsTuple ax vs∧e≠it∧ax≠e∧ax≠it
noncomputable def ItK.Rds (k:ItK) (B:Bs) (W:Wd) (h:Heap) (ds:List D):Prop:=match k with
 | .lst _ _ vs=>RdL B W h ds vs.toList
 | .tup _ _ vs=>RdL B W h ds vs.toList
 | .rng _ n=>ds=A3 n
 | .enm _ _ _ vs=>∃ es,ds=pairsOf 0 es∧RdL B W h es vs.toList
noncomputable def tgtOk (k:ItK) (target:Expr):Prop:=match k.isE with
 | true=>∃ es n p,target=.Tuple es n p
 | false=>∃ x p,target=.Name x p
noncomputable abbrev AU (ex:List Addr) (h h':Heap):Prop:=∀ c o,c∉ex→h.get? c=some o→h'.get? c=some o
theorem AU.trans {ex:List Addr} {h₁ h₂ h₃:Heap} (x:AU ex h₁ h₂) (y:AU ex h₂ h₃):AU ex h₁ h₃:=fun c o n e=>y c o n (x c o n e)
theorem ItK.At.fields {k:ItK} {i:Nat} {h:Heap} (x:k.At i h):∀ a∈k.ex,∃ o vs,h.get? a=some o∧o.data=.fields vs:=by
 intro a ha
 cases k with
 | lst I ax vs=>
  obtain ⟨⟨o,e,_,d⟩,_⟩:=x
  obtain rfl:a=I:=by simpa [ItK.ex] using ha
  exact ⟨o,_,e,d⟩
 | tup I ax vs=>
  obtain ⟨⟨o,e,_,d⟩,_⟩:=x
  obtain rfl:a=I:=by simpa [ItK.ex] using ha
  exact ⟨o,_,e,d⟩
 | rng I n=>
  obtain rfl:a=I:=by simpa [ItK.ex] using ha
  exact ⟨_,_,x,rfl⟩
 | enm e it ax vs=>
  obtain ⟨⟨old,he⟩,⟨o,e',_,d⟩,_⟩:=x
  rcases (by simpa [ItK.ex] using ha:a=e∨a=it) with rfl | rfl
  ·exact ⟨_,_,he,rfl⟩
  ·exact ⟨o,_,e',d⟩
theorem GK (b:AK B) {ex:List Addr} {h h':Heap} (hf:∀ a∈ex,∃ o,h.get? a=some o∧∀ vs n,o.data≠.seq vs n) (k:AU ex h h') {d:D} {v:Value} (r:Rd B W h d v):Rd B W h' d v:=by
 refine Rd.mono b (List.prefix_refl _) (fun zz h=>h) (fun a vs x=>?_) (fun a vs zz x=>?_) r
 ·obtain ⟨o,e,c,n,d⟩:=x
  refine ⟨o,k a o (fun m=>?_) e,c,n,d⟩
  obtain ⟨o',e',d'⟩:=hf a m
  rw [e] at e';cases e';exact d' _ _ d
 ·obtain ⟨o,e,c,n,d⟩:=x
  refine ⟨o,k a o (fun m=>?_) e,c,n,d⟩
  obtain ⟨o',e',d'⟩:=hf a m
  rw [e] at e';cases e';exact d' _ _ d
theorem Cj (b:AK B) {ex:List Addr} {h h':Heap} (hf:∀ a∈ex,∃ o vs,h.get? a=some o∧o.data=.fields vs) (k:AU ex h h') {d:D} {v:Value} (r:Rd B W h d v):Rd B W h' d v :=
 GK b (fun a ha=>let ⟨o,vs,e,q⟩:=hf a ha;⟨o,e,fun us n z=>by rw [q] at z;cases z⟩) k r
theorem Dc (b:AK B) {ex:List Addr} {h h':Heap} (hf:∀ a∈ex,∃ o vs,h.get? a=some o∧o.data=.fields vs) (k:AU ex h h') {ds:List D} {vs:List Value}:RdL B W h ds vs→RdL B W h' ds vs:=RdL.keep fun zz zz zz x=>Cj b hf k x
theorem ItK.Rds.kept (b:AK B) {k:ItK} {ex:List Addr} {h h':Heap} (hf:∀ a∈ex,∃ o vs,h.get? a=some o∧o.data=.fields vs) (kk:AU ex h h') {ds:List D} (r:k.Rds B W h ds):k.Rds B W h' ds:=by
 cases k with
 | lst I ax vs=>exact Dc b hf kk (show RdL B W h ds vs.toList from r)
 | tup I ax vs=>exact Dc b hf kk (show RdL B W h ds vs.toList from r)
 | rng I n=>exact r
 | enm e it ax vs=>obtain ⟨es,e,r⟩:=r;exact ⟨es,e,Dc b hf kk r⟩
theorem HQ:∀ {es:List D} {n i:Nat} {d:D},(pairsOf n es)[i]? = some d→∃ x,es[i]? = some x∧d=.tup [.int ((n + i:Nat):Int),x]
 | [],n,i,d,h=>by simp [pairsOf] at h
 | x::r,n,0,d,h=>by
  simp only [pairsOf,List.getElem?_cons_zero,Option.some.injEq] at h
  exact ⟨x,rfl,h.symm⟩
 | x::r,n,i + 1,d,h=>by
  simp only [pairsOf,List.getElem?_cons_succ] at h
  obtain ⟨y,h1,h2⟩:=HQ h
  refine ⟨y,by simpa using h1,?_⟩
  rw [h2,show n + 1 + i=n + (i + 1) by omega]
theorem IU:∀ {es:List D} {n:Nat},(pairsOf n es).length=es.length:=by
 intro es
 induction es with
 | nil=>
  intro _
  exact rfl
 | cons x r ih=>
  intro n
  simp [pairsOf,ih]
theorem Lg:∀ {n a i:Nat},i < n→(upTo a n)[i]? = some (a + i)
 | 0,_,_,h=>by omega
 | n + 1,a,0,_=>rfl
 | n + 1,a,i + 1,h=>by
  show (a::upTo (a + 1) n)[i + 1]? = _
  rw [List.getElem?_cons_succ,Lg (by omega),show a + 1 + i=a + (i + 1) by omega]
theorem EP:∀ {n a:Nat},(upTo a n).length=n:=by
 intro n
 induction n with
 | zero=>
  intro _
  exact rfl
 | succ n ih=>
  intro a
  simp [upTo,ih]
theorem GX {n i:Nat} {d:D} (h:(A3 n)[i]? = some d):i < n∧d=.int (i:Int):=by
 have hl:(A3 n).length=n:=by simp [A3,EP]
 have hi:i < n:=by have:=(List.getElem?_eq_some_iff.mp h).1;omega
 refine ⟨hi,?_⟩
 unfold A3 at h
 rw [List.getElem?_map,Lg hi] at h
 simp at h
 rw [←h]
theorem Kc {h:Heap}:∀ {ds:List D} {vs:List Value} {i:Nat} {d:D},RdL B W h ds vs→ds[i]? = some d→∃ v,vs[i]? = some v∧Rd B W h d v:=by
 intro ds
 induction ds with
 | nil=>
  intro _ i d r e
  exact nsF e
 | cons x ds ih=>
  intro vs i d r e
  obtain ⟨v,us,ev,r,rs⟩:=r.inv
  rw [ev]
  cases i with
  | zero=>exact ⟨v,rfl,AB e▸r⟩
  | succ i=>exact (ih rs (show ds[i]? = some d from e):∃ w,us[i]? = some w∧Rd B W h d w)
theorem ItK.Rds.length {k:ItK} {h:Heap} {ds:List D} (r:k.Rds B W h ds):ds.length=k.len:=by
 cases k with
 | lst I ax vs=>have:=RdL.length (show RdL B W h ds vs.toList from r);simpa [ItK.len] using this.symm
 | tup I ax vs=>have:=RdL.length (show RdL B W h ds vs.toList from r);simpa [ItK.len] using this.symm
 | rng I n=>rw [show ds=A3 n from r];simp [A3,EP,ItK.len]
 | enm e it ax vs=>
  obtain ⟨es,e,r⟩:=r
  rw [e,IU]
  have:=RdL.length r;simpa [ItK.len] using this.symm
theorem E7 (b:AK B) {A:Around} (hh:A.handled=none) {k:ItK} (hk:k.isE=false) {i:Nat} {ds:List D} {d:D} (at_:k.At i s.heap) (hd:ds[i]? = some d) (rd:k.Rds B W s.heap ds)
  {Q:Option Value→Shared→Prop} {E:VP}
  (hQ:∀ v h1 t1,AU k.ex s.heap h1→k.At (i + 1) h1→Rd B W h1 d v→Q (some v) {s with heap:=h1,toks:=t1}) :
  wpAny (mdl B) A (pyNext (.ref k.I)) Q E s:=by
 have hf:=at_.fields
 have hlen:i < k.len:=by
  have:=(List.getElem?_eq_some_iff.mp hd).1
  rw [rd.length] at this;exact this
 cases k with
 | lst I ax vs=>
  obtain ⟨a1,a2,a3⟩:=at_
  obtain ⟨v,hv,r⟩:=Kc (show RdL B W s.heap ds vs.toList from rd) hd
  refine (Walks.list (prog:=P) (w:=B.w) hh I ax a3 vs).item i s Q E hlen ⟨a1,a2⟩ fun v' h' tk hv' st hk=>?_
  have e:some v'=some v:=by
   have h1:vs[i]? = some v':=hv'
   have h2:vs[i]? = some v:=by simpa using hv
   exact h1.symm.trans h2
  cases e
  exact hQ _ h' tk (fun c o n e=>hk c o n e) ⟨st.1,st.2,a3⟩ (Cj b hf (fun c o n e=>hk c o n e) r)
 | tup I ax vs=>
  obtain ⟨a1,a2,a3⟩:=at_
  obtain ⟨v,hv,r⟩:=Kc (show RdL B W s.heap ds vs.toList from rd) hd
  refine (Walks.tuple (prog:=P) (w:=B.w) hh I ax a3 vs).item i s Q E hlen ⟨a1,a2⟩ fun v' h' tk hv' st hk=>?_
  have e:some v'=some v:=by
   have h1:vs[i]? = some v':=hv'
   have h2:vs[i]? = some v:=by simpa using hv
   exact h1.symm.trans h2
  cases e
  exact hQ _ h' tk (fun c o n e=>hk c o n e) ⟨st.1,st.2,a3⟩ (Cj b hf (fun c o n e=>hk c o n e) r)
 | rng I n=>
  have e:ds=A3 n:=rd
  subst e
  obtain ⟨hi,rfl⟩:=GX hd
  refine (Walks.range (prog:=P) (w:=B.w) hh I 0 1 n).item i s Q E hlen at_ fun v' h' tk hv' st hk=>?_
  obtain ⟨t,rfl⟩:=hv'
  refine hQ _ h' tk (fun c o n e=>hk c o n e) st ?_
  have:(0:Int) + (i:Int) * 1=(i:Int):=by omega
  rw [this];exact .int _ _
 | enm e it ax vs=>exact nomatch hk
theorem TL (b:AK B) {A:Around} (hh:A.handled=none) {k:ItK} {target:Expr} (ht:tgtOk k target) {i:Nat} {ds:List D} {d:D} (at_:k.At i s.heap) (hd:ds[i]? = some d) (rd:k.Rds B W s.heap ds)
  {Q:Option Value→Shared→Prop} {E E':VP}
  (hQ:∀ v h1 t1,AU k.ex s.heap h1→
   (∀ Q':Unit→Shared→Prop,(∀ h2,AU k.ex s.heap h2→k.At (i + 1) h2→Rd B W h2 d v→Q' () {s with heap:=h2,toks:=t1})→
    wpAny (mdl B) A (letOwnedTupleGo target (.ref k.I) v) Q' E' {s with heap:=h1,toks:=t1})→Q (some v) {s with heap:=h1,toks:=t1}) :
  wpAny (mdl B) A (pyNext (.ref k.I)) Q E s:=by
 have hf:=at_.fields
 have hlen:i < k.len:=by
  have:=(List.getElem?_eq_some_iff.mp hd).1
  rw [rd.length] at this;exact this
 cases hk:k.isE with
 | false=>
  unfold tgtOk at ht
  rw [hk] at ht
  obtain ⟨x,p,rfl⟩:=ht
  exact E7 b hh hk at_ hd rd fun v h1 t1 k1 a1 r1=>hQ v h1 t1 k1 fun Q' hq=>AD (hq h1 k1 a1 r1)
 | true=>
 cases k with
 | lst I ax vs=>cases hk
 | tup I ax vs=>cases hk
 | rng I n=>cases hk
 | enm e it ax vs=>
  obtain ⟨es,n,p,rfl⟩:=ht
  obtain ⟨a1,a2,a3,n1,n2,n3⟩:=at_
  obtain ⟨xs,rfl,r⟩:=rd
  obtain ⟨x,hx,rfl⟩:=HQ hd
  obtain ⟨v,hv,rx⟩:=Kc r hx
  have WT:=WalksT.enumerateD (prog:=P) (w:=B.w) (A:=A) (Fz (A:=A.in1) hh it ax n3 vs) e n1 (by simp [n1,Ne.symm n2]) (by simp)
  refine WT.item i s Q E hlen ⟨a1,a2,a3⟩ fun T vals h' tk hp hT hTup hmid hk=>?_
  obtain ⟨t,x',hx',rfl⟩:=hp
  have e2:some x'=some v:=by
   have h2:vs[i]? = some v:=by simpa using hv
   exact hx'.symm.trans h2
  cases e2
  refine hQ (.ref T) h' tk (fun c o n e=>hk c o n e) fun Q' hq=>WT.go es n p i T {s with heap:=h',toks:=tk} Q' E' hmid fun h2 st hk2=>?_
  have kk:AU [e,it] s.heap h2:=fun c o nn e'=>hk2 c o nn (hk c o nn e')
  refine hq h2 kk ⟨st.1,st.2.1,st.2.2,n1,n2,n3⟩ ?_
  have hTn:T∉[e,it]:=WT.apart i T h' hmid
  refine .tup T _ _ (hTup.at fun o e'=>hk2 T o hTn e') ?_
  refine RdL.cons _ _ _ _ ?_ (RdL.cons _ _ _ _ (Cj b hf kk rx) .nil)
  have:((0 + i:Nat):Int)=(i:Int):=by omega
  rw [this];exact .int _ _
theorem GU {A:Around} (hh:A.handled=none) {k:ItK} (at_:k.At k.len s.heap) {Q:Option Value→Shared→Prop} {E:VP}
  (hQ:∀ h' tk,AU k.ex s.heap h'→Q none {s with heap:=h',toks:=tk}):wpAny (mdl B) A (pyNext (.ref k.I)) Q E s:=by
 cases k with
 | lst I ax vs=>exact (Walks.list (prog:=P) (w:=B.w) hh I ax at_.2.2 vs).done s Q E ⟨at_.1,at_.2.1⟩ fun h' tk hk=>hQ h' tk fun c o n e=>hk c o n e
 | tup I ax vs=>exact (Walks.tuple (prog:=P) (w:=B.w) hh I ax at_.2.2 vs).done s Q E ⟨at_.1,at_.2.1⟩ fun h' tk hk=>hQ h' tk fun c o n e=>hk c o n e
 | rng I n=>exact (Walks.range (prog:=P) (w:=B.w) hh I 0 1 n).done s Q E at_ fun h' tk hk=>hQ h' tk fun c o n e=>hk c o n e
 | enm e it ax vs=>
  obtain ⟨a1,a2,a3,n1,n2,n3⟩:=at_
  exact (WalksT.enumerateD (prog:=P) (w:=B.w) (A:=A) (Fz (A:=A.in1) hh it ax n3 vs) e n1 (by simp [n1,Ne.symm n2]) (by simp)).done s Q E ⟨a1,a2,a3⟩ fun h' tk hk=>hQ h' tk fun c o n e=>hk c o n e
theorem TJ {A:Around} (hh:A.handled=none) {k:ItK} {i:Nat} (at_:k.At i s.heap) {Q:VP} {E:VP} (hQ:Q (.ref k.I) s):wpAny (mdl B) A (pyIter (.ref k.I)) Q E s:=by
 cases k with
 | lst I ax vs=>exact (Walks.list (prog:=P) (w:=B.w) hh I ax at_.2.2 vs).self i s Q E ⟨at_.1,at_.2.1⟩ hQ
 | tup I ax vs=>exact (Walks.tuple (prog:=P) (w:=B.w) hh I ax at_.2.2 vs).self i s Q E ⟨at_.1,at_.2.1⟩ hQ
 | rng I n=>exact (Walks.range (prog:=P) (w:=B.w) hh I 0 1 n).self i s Q E at_ hQ
 | enm e it ax vs=>
  obtain ⟨a1,a2,a3,n1,n2,n3⟩:=at_
  exact (WalksT.enumerateD (prog:=P) (w:=B.w) (A:=A) (Fz (A:=A.in1) hh it ax n3 vs) e n1 (by simp [n1,Ne.symm n2]) (by simp)).self i s Q E ⟨a1,a2,a3⟩ hQ
theorem ItK.At.kept {k:ItK} {i:Nat} {h h':Heap} (x:k.At i h) (hk:∀ a o,a∈k.ex→h.get? a=some o→h'.get? a=some o) (hs:∀ a vs,k.src=some a→h.IsList a vs→h'.IsList a vs) (ht:∀ a vs,h.IsTuple a vs→h'.IsTuple a vs):k.At i h':=by
 cases k with
 | lst I ax vs=>exact ⟨x.1.at fun o e=>hk I o (by simp [ItK.ex]) e,hs _ _ rfl x.2.1,x.2.2⟩
 | tup I ax vs=>exact ⟨x.1.at fun o e=>hk I o (by simp [ItK.ex]) e,ht _ _ x.2.1,x.2.2⟩
 | rng I n=>exact hk I _ (by simp [ItK.ex]) x
 | enm e it ax vs=>
  obtain ⟨⟨old,a1⟩,a2,a3,n1,n2,n3⟩:=x
  exact ⟨⟨old,hk e _ (by simp [ItK.ex]) a1⟩,a2.at fun o e=>hk it o (by simp [ItK.ex]) e,ht _ _ a3,n1,n2,n3⟩
end
section
open PySem PySem.W
variable {B:Bs} {F F':Fv} {C:Value} {W W':Wd} {σ σ':St} {s s':Shared}
open PyProof.Rows
theorem Jx {G:List (Nm×D)} {sc:LK} {iter:Expr} {env:Env}:(∀ x,foldedSetIterable iter env x=pure x)∨AJ G sc iter=.bad:=by
 cases iter<;>first | exact .inr rfl | exact .inl fun zz=>rfl
theorem HV {G:List (Nm×D)} {sc:LK} {x:Str}:Ae G sc x=.bad∨Ae G sc x=.var (nm x)∨∃ d,Dg (nm x) G=some d∧As (nm x) sc=some .globalImplicit∧Ax x=false∧Ae G sc x=.glb d:=by
 unfold Ae
 cases hr:Ax x with
 | true=>exact .inl rfl
 | false=>
  dsimp only
  cases hk:As (nm x) sc with
  | none=>exact .inl rfl
  | some k=>
   cases k with
   | globalImplicit=>
    dsimp only
    cases hl:Dg (nm x) G with
    | none=>exact .inl rfl
    | some d=>exact .inr (.inr ⟨d,rfl,rfl,rfl,rfl⟩)
   | _=>first | exact .inr (.inl rfl) | exact .inl rfl
set_option tactic.hygienic true in
theorem MU {f:X} {k:Nat} (h:Di f k=true):f=.glb (.ty k):=by
 cases f<;>first | exact ffF h | skip
 rename_i d
 cases d<;>first | exact ffF h | rw [AI h]
set_option tactic.hygienic true in
theorem MX {f:X} {k:Nat} (h:Jt f k=true):f=.glb (.fn k):=by
 cases f<;>first | exact ffF h | skip
 rename_i d
 cases d<;>first | exact ffF h | rw [AI h]
theorem De {α:Type} {l:List α} {a:α} (h:A2 l=some a):l=[a]:=B3 h
theorem Fj {G:List (Nm×D)} {sc:LK} {n:Str} {p pos:Pos} {as:List Expr} {k:Nat} {y:X} (hk:Nat.beq k 3=false) (ht:Di (Ae G sc n) k=true) (h:Hl (AJ G sc (.Call (.Name n p) as [] pos))=some y) :
  Ae G sc n=.glb (.ty k)∧Af as=true∧AN G sc as=[y]:=by
 have e:=MU ht
 have h':Hl (match Af as with | true=>DO G sc as (Ae G sc n) (AN G sc as) | false=>.bad)=some y:=h
 cases hp:Af as with
 | false=>rw [hp] at h';cases h'
 | true=>
  rw [hp] at h'
  have e3:DO G sc as (Ae G sc n) (AN G sc as)=.call (Ae G sc n) (AN G sc as):=by
   have:Di (Ae G sc n) 3=false:=by rw [e];exact hk
   unfold DO;rw [this]
  rw [e3] at h'
  exact ⟨e,rfl,De h'⟩
theorem TN {G:List (Nm×D)} {sc:LK} {e:Expr}:Qu G sc e .bad=.plain .bad:=by
 unfold Qu
 cases B9 e with
 | none=>rfl
 | some n=>
  dsimp only
  cases h:Di (Ae G sc n) 4 with
  | true=>rfl
  | false=>cases h:Di (Ae G sc n) 6<;>rfl
theorem JE {G:List (Nm×D)} {sc:LK} {e:Expr} (h:AJ G sc e=.bad):Aw G sc e=.plain .bad:=by unfold Aw;rw [h];exact TN
theorem Ik {r:Rec} (h:r.ev .bad=bad):Ee r (.plain .bad)=bad:=by
 show (do let d←r.ev .bad;opt (DE d))=_
 rw [h];rfl
noncomputable def Pl (B:Bs) (F:Fv) (h0:Heap) (W:Wd) (h:Heap) (ds:List D) (itv:Value) (e:Bool):Prop :=
 ∃ k:ItK,itv=.ref k.I∧k.At 0 h∧k.Rds B W h ds∧(∀ a∈k.ex,Off B F W a)∧(∀ a∈k.ex,h0.get? a=none)∧(∀ a,k.src=some a→a≠B.S)∧k.isE=e
theorem Step.back {h:Heap} (st:Step B F W h W' s'.heap) (G:Good B F W' σ s') {a:Addr} (e:s'.heap.get? a=none):h.get? a=none:=by
 cases q:h.get? a with
 | none=>rfl
 | some o=>
  by_cases n1:a∈F.own
  ·obtain ⟨⟨o',e',_⟩,_⟩:=G.own _ n1
   rw [e] at e';cases e'
  ·by_cases n2:a=B.S
   ·obtain ⟨o',e',_⟩:=G.srcList
    rw [←n2,e] at e';cases e'
   ·obtain ⟨_,sl,e'⟩:=st.keep a o q n1 n2
    rw [e] at e';cases e'
theorem Be (h:Heap):h.get? h.objs.size=none:=by
 cases e:h.get? h.objs.size with
 | none=>rfl
 | some o=>exact absurd (Heap.lt_size e) (Nat.lt_irrefl _)
theorem Eg {h:Heap} {a:Addr} (k:h.objs.size≤a):h.get? a=none:=by
 cases e:h.get? a with
 | none=>rfl
 | some o=>exact absurd (Heap.lt_size e) (Nat.not_lt.mpr k)
theorem Ij (b:AK B) {d:D} {l:List D} {v:Value} (r:Rd B W s.heap d v) (hl:DE d=some l) (G:Good B F W σ s) {Q:VP} {E:VP}
  (hQ:∀ itv h',(∀ c o,s.heap.get? c=some o→h'.get? c=some o)→Pl B F s.heap W h' l itv false→Q itv {s with heap:=h'}):wpAny (mdl B) F.A (pyIter v) Q E s:=by
 have ext:∀ o:Obj,∀ c o',s.heap.get? c=some o'→(s.heap.push o).get? c=some o':=fun o c o' e=>AE _ e
 have i:=r.inv
 clear r
 cases d with
 | tup ds=>
  obtain ⟨a,vs,ev,hx,rl⟩:=i
  rw [ev]
  rw [←AB hl] at hQ
  refine wpAny_pyIter_tuple hx (hQ _ _ (ext _) ⟨.tup s.heap.objs.size a vs,rfl,⟨⟨_,Heap.get?_push_size _ rfl,rfl,rfl⟩,hx.push _,?_⟩,?_,fun c hc=>?_,fun c hc=>?_,(fun c e=>nsF e),rfl⟩)
  ·obtain ⟨o,e,_⟩:=hx;exact Nat.ne_of_lt (Heap.lt_size e)
  ·exact G.rdL b (G.grow b (h':=s.heap.push {cls:=.type "tuple_iterator",data:=.fields #[.ref a,.int 0 0]}) (t:=0) (ext _)).2 rl
  ·rw [List.mem_singleton.mp hc];exact Off.fresh G (Be _)
  ·rw [List.mem_singleton.mp hc];exact Be _
 | lst ds=>
  obtain ⟨a,vs,ev,hn,hx,rl⟩:=i
  rw [ev]
  rw [←AB hl] at hQ
  refine wpAny_pyIter_list hx (hQ _ _ (ext _) ⟨.lst s.heap.objs.size a vs,rfl,⟨⟨_,Heap.get?_push_size _ rfl,rfl,rfl⟩,hx.push _,?_⟩,?_,fun c hc=>?_,fun c hc=>?_,(fun c e=>AB e▸hn),rfl⟩)
  ·obtain ⟨o,e,_⟩:=hx;exact Nat.ne_of_lt (Heap.lt_size e)
  ·exact G.rdL b (G.grow b (h':=s.heap.push {cls:=.type "list_iterator",data:=.fields #[.ref a,.int 0 0]}) (t:=0) (ext _)).2 rl
  ·rw [List.mem_singleton.mp hc];exact Off.fresh G (Be _)
  ·rw [List.mem_singleton.mp hc];exact Be _
 | _=>exact nomatch hl
theorem N3 (b:AK B) {n:Nat} {t:Tok} (hn:n≤64) (G:Good B F W σ s) {Q:VP} {E:VP}
  (hQ:∀ itv h' tk,(∀ c o,s.heap.get? c=some o→h'.get? c=some o)→Pl B F s.heap W h' (A3 n) itv false→Q itv {s with heap:=h',toks:=tk}) :
  wpAny (mdl B) F.A (call (.type "range") [.int (n:Int) t]) (fun x s₁=>wpAny (mdl B) F.A (pyIter x) Q E s₁) E s:=by
 refine call_range_1 ?_
 refine wpAny_pyIter_range (a:=0) (b:=n) (c:=1) (Heap.get?_push_size _ rfl) (small_one (by omega) (by omega) (by omega) (by omega)) ?_
 have ext:∀ o o2:Obj,∀ c o',s.heap.get? c=some o'→((s.heap.push o).push o2).get? c=some o':=fun o o2 c o' e=>AE _ (AE _ e)
 refine hQ _ _ _ (ext _ _) ⟨.rng _ n,rfl,?_,rfl,fun c hc=>?_,fun c hc=>?_,(fun c e=>by cases e),rfl⟩
 ·show Heap.get? _ _=_
  have hsz:Builtin.Range.rangeSize 0 n 1=(n:Int):=by
   unfold Builtin.Range.rangeSize
   rw [if_pos (by omega)]
   split<;>omega
  rw [hsz]
  have e1:(0:Int) + ((0:Nat):Int) * 1=0:=by omega
  have e2:(n:Int) - ((0:Nat):Int)=n:=by omega
  rw [e1,e2]
  exact Heap.get?_push_size _ rfl
 ·obtain rfl:c=(s.heap.push {cls:=.type "range",data:=.fields #[.int 0 s.toks,.int n t,.int 1 (s.toks + 1)]}).objs.size:=by simpa [ItK.ex] using hc
  refine Off.fresh G (Eg ?_)
  rw [Heap.size_push];exact Nat.le_succ _
 ·obtain rfl:c=(s.heap.push {cls:=.type "range",data:=.fields #[.int 0 s.toks,.int n t,.int 1 (s.toks + 1)]}).objs.size:=by simpa [ItK.ex] using hc
  refine Eg ?_
  rw [Heap.size_push];exact Nat.le_succ _
theorem Qt (b:AK B) {l:List D} {v:Value} (r:Rd B W s.heap (.tup l) v) (G:Good B F W σ s) {Q:VP} {E:VP}
  (hQ:∀ itv h',(∀ c o,s.heap.get? c=some o→h'.get? c=some o)→Pl B F s.heap W h' (pairsOf 0 l) itv true→Q itv {s with heap:=h'}) :
  wpAny (mdl B) F.A (call (.type "enumerate") [v]) (fun x s₁=>wpAny (mdl B) F.A (pyIter x) Q E s₁) E s:=by
 obtain ⟨a,vs,ev,hx,rl⟩:=r.inv
 rw [ev]
 ·have hlt:a < s.heap.objs.size:=by obtain ⟨o,e,_⟩:=hx;exact Heap.lt_size e
  refine Hs hx fun h' he hit hz hk=>?_
  refine wpAny_pyIter_enum he (hQ _ _ hk ⟨.enm (s.heap.objs.size + 1) s.heap.objs.size a vs,rfl,⟨⟨_,he⟩,hit,hx.at fun o e=>hk _ o e,Nat.succ_ne_self _,Nat.ne_of_lt (Nat.lt_succ_of_lt hlt),Nat.ne_of_lt hlt⟩,⟨l,rfl,?_⟩,fun c hc=>?_,fun c hc=>?_,(fun c e=>by cases e),rfl⟩)
  ·exact G.rdL b (G.grow b (h':=h') (t:=0) hk).2 rl
  ·rcases (by simpa [ItK.ex] using hc:c=s.heap.objs.size + 1∨c=s.heap.objs.size) with rfl | rfl
   ·exact Off.fresh G (Eg (Nat.le_succ _))
   ·exact Off.fresh G (Be _)
  ·rcases (by simpa [ItK.ex] using hc:c=s.heap.objs.size + 1∨c=s.heap.objs.size) with rfl | rfl
   ·exact Eg (Nat.le_succ _)
   ·exact Be _
noncomputable def WX (G:List (Nm×D)) (sc:LK) (e:Expr) (k:Nat) (y:X):Prop:=∃ n p as pos,e=.Call (.Name n p) as [] pos∧Ae G sc n=.glb (.ty k)∧AN G sc as=[y]∧Af as=true
theorem N4 (G:List (Nm×D)) (sc:LK) (e:Expr):(∃ y,WX G sc e 4 y∧Aw G sc e=.range y)∨(∃ y,WX G sc e 6 y∧Aw G sc e=.enum y)∨Aw G sc e=.plain (AJ G sc e)∨Aw G sc e=.plain .bad:=by
 unfold Aw Qu
 cases hc:B9 e with
 | none=>exact .inr (.inr (.inl rfl))
 | some n=>
  obtain ⟨p,as,pos,rfl⟩:=Ek hc
  dsimp only
  cases h4:Di (Ae G sc n) 4 with
  | true=>
   cases ha:Hl (AJ G sc (.Call (.Name n p) as [] pos)) with
   | none=>exact .inr (.inr (.inr rfl))
   | some y=>obtain ⟨a,b,c⟩:=Fj rfl h4 ha;exact .inl ⟨y,⟨n,p,as,pos,rfl,a,c,b⟩,rfl⟩
  | false=>
   cases h6:Di (Ae G sc n) 6 with
   | true=>
    cases ha:Hl (AJ G sc (.Call (.Name n p) as [] pos)) with
    | none=>exact .inr (.inr (.inr rfl))
    | some y=>obtain ⟨a,b,c⟩:=Fj rfl h6 ha;exact .inr (.inl ⟨y,⟨n,p,as,pos,rfl,a,c,b⟩,rfl⟩)
   | false=>exact .inr (.inr (.inl rfl))
theorem OR {G:List (Nm×D)} {sc:LK} {as:List Expr} {x:X} (h:AN G sc as=[x]):∃ a,as=[a]∧AJ G sc a=x:=by
 cases as with
 | nil=>cases h
 | cons a r=>
  cases r with
  | nil=>exact ⟨a,rfl,by injection h⟩
  | cons c r=>cases h
theorem E5 {G:List (Nm×D)} {sc:LK} {x:Str} {d:D} (h:Ae G sc x=.glb d):Dg (nm x) G=some d∧As (nm x) sc=some .globalImplicit∧Ax x=false:=by
 rcases HV (G:=G) (sc:=sc) (x:=x) with q | q | ⟨e,h1,h2,h3,q⟩<;>rw [q] at h<;>cases h
 exact ⟨h1,h2,h3⟩
theorem SM {e:Expr} (h:Ex e=none):Ai e:=by cases e<;>first | exact trivial | exact snF h
theorem NI {e:Expr} (h:Ai e):Ex e=none:=by cases e<;>first | exact rfl | exact h.elim
theorem Cz {e:Expr} {r:List Expr} (h:Af (e::r)=true):Ai e∧Af r=true:=by
 change (match Ex e with | some _=>false | none=>Af r)=true at h
 cases hs:Ex e with
 | some _=>rw [hs] at h;cases h
 | none=>rw [hs] at h;exact ⟨SM hs,h⟩
theorem Dd {e:Expr} {r:List Expr} (h:Ai e) (h2:Af r=true):Af (e::r)=true:=by
 show (match Ex e with | some _=>false | none=>Af r)=true
 rw [NI h]
 exact h2
theorem Fs {env:Env} {pos:Pos}:∀ {as:List Expr},Af as=true→(backTo pos (starEach as env)).any (·.1)=false:=by
 intro as
 induction as with
 | nil=>
  intro _
  exact rfl
 | cons e r ih=>
  intro h
  have hp:=Cz h
  rw [AL hp.1]
  show (false || (backTo pos (starEach r env)).any (·.1))=false
  rw [ih hp.2];rfl
theorem HJ (b:AK B) {r:Rec} (S:AX B C r) {sc:LK} (hsc:A5 sc F.env) {x:Str} {p pos:Pos} {as:List Expr} {k:Nat} (hn:Ae B.G sc x=.glb (.ty k)) (hp:Af as=true) (G:Good B F W σ s)
  {outs:List (Out (List D)×St)} (ho:Ar r.ev (AN B.G sc as) σ=some outs) {Q:VP} {E:VP}
  (hQ:∀ ds vs W' σ' s',(Out.ok ds,σ')∈outs→Good B F W' σ' s'→Step B F W s.heap W' s'.heap→RdL B W' s'.heap ds vs→wpAny (mdl B) F.A (call (.type (Cv k)) vs) Q E s')
  (hE:∀ e s' σ',(Out.fault,σ')∈outs→Fly B C F W s.heap σ' e s'→E e s') :
  wpAny (mdl B) F.A (eval (.Call (.Name x p) as [] pos) F.env) Q E s:=by
 obtain ⟨h1,h2,h3⟩:=E5 hn
 show wpAny _ _ (eval (.Name x p) F.env>>=fun f=>callWith pos f [] (backTo pos (starEach as F.env)) []) _ _ s
 have hname:=E2 (F:=F) (C:=C) (W:=W) (σ:=σ) (s:=s) b (p:=p) h3 (hsc.glob x h2) h1 G _ rfl
 refine AA (AH hname (fun f s1 hf=>?_) fun e s1 he=>?_)
 ·obtain ⟨d,W1,σ1,hin,G1,st,rf⟩:=hf
  rcases List.mem_cons.mp hin with e | e
  ·cases e
   cases rf
   have args:=CY (f:=.type (Cv k)) (pos:=pos) b S.bad as (fun e zz=>S.ev F sc e hsc) W1 _ s1 G1 outs ho
   refine PySem.callWith_type (Fs hp) (AH args (fun ar s2 h=>?_) (fun e s2 h=>?_))
   ·obtain ⟨ds,W2,σ2,hin2,G2,st2,hkw,rd⟩:=h
    rw [hkw]
    exact hQ ds ar.pos W2 σ2 s2 hin2 G2 (st.trans B G1 st2) rd
   ·obtain ⟨σ2,hin2,fl⟩:=h
    exact hE e s2 σ2 hin2 (fl.of_step st)
  ·cases e
 ·obtain ⟨σ',hin,_⟩:=he
  rcases List.mem_cons.mp hin with e | e<;>cases e
theorem QH {d:D} {l:List D} (h:Kd d=some l):∃ m:Nat,m≤64∧d=.int (m:Int)∧A3 m=l:=by
 unfold Kd at h
 cases q:C2 d with
 | none=>rw [q] at h;cases h
 | some n=>
  rw [q] at h
  cases n with
  | negSucc n=>exact nsF h
  | ofNat m=>
   change (match Nat.ble m 64 with | true=>some (A3 m) | false=>none)=some l at h
   cases hm:Nat.ble m 64 with
   | false=>rw [hm] at h;cases h
   | true=>rw [hm] at h;exact ⟨m,AF hm,C1 q,AB h⟩
theorem MT (b:AK B) {r:Rec} (S:AX B C r) {sc:LK} (hsc:A5 sc F.env) {iter:Expr} (G:Good B F W σ s) {outs:List (Out (List D)×St)} (ho:Ee r (Aw B.G sc iter) σ=some outs)
  {Q:VP} {E:VP}
  (hQ:∀ ds itv W' σ' s1 h' tk,(Out.ok ds,σ')∈outs→Good B F W' σ' s1→Step B F W s.heap W' s1.heap→(∀ c o,s1.heap.get? c=some o→h'.get? c=some o)→Pl B F s1.heap W' h' ds itv (Cd (Aw B.G sc iter))→Q itv {s1 with heap:=h',toks:=tk})
  (hE:∀ e s' σ',(Out.fault,σ')∈outs→Fly B C F W s.heap σ' e s'→E e s') :
  wpAny (mdl B) F.A (eval iter F.env) (fun x s₁=>wpAny (mdl B) F.A (pyIter x) Q E s₁) E s:=by
 rcases N4 B.G sc iter with ⟨x,⟨n,p,as,pos,rfl,hn,ha,hp⟩,hit⟩ | ⟨x,⟨n,p,as,pos,rfl,hn,ha,hp⟩,hit⟩ | hit | hit
 ·rw [hit] at ho hQ
  obtain ⟨l,hl,hb⟩:=AS ho
  rw [←ha] at hl
  refine HJ b S hsc hn hp G hl (fun ds vs W1 σ1 s1 hin G1 st1 rd=>?_) (fun e s' σ' hin fl=>hE e s' σ' (AQ hb hin) fl)
  obtain ⟨o,hf,hsub⟩:=AZ hb hin
  cases hd:A2 ds with
  | none=>rw [hd] at hf;cases hf
  | some d=>
  rw [hd] at hf
  rw [De hd] at rd
  obtain ⟨v,ev,rd⟩:=rd.one
  rw [ev]
  obtain ⟨l2,hl2,hb2⟩:=AS hf
  obtain ⟨d',σ2,hin2,G2,r2,_⟩:=A7 6 d σ1 rd G1 l2 hl2
  obtain ⟨o2,hf2,hsub2⟩:=AZ hb2 hin2
  cases hr:Kd d' with
  | none=>rw [hr] at hf2;cases hf2
  | some ls=>
  rw [hr] at hf2
  obtain ⟨m,hm,ed,el⟩:=QH hr
  rw [ed] at r2
  obtain ⟨t,et⟩:=r2.inv
  rw [et]
  refine N3 b hm G2 fun itv h' tk hk ir=>?_
  exact hQ _ itv W1 σ2 s1 h' tk (hsub _ (hsub2 _ (AB hf2▸.head _))) G2 st1 hk (el▸ir)
 ·rw [hit] at ho hQ
  obtain ⟨l,hl,hb⟩:=AS ho
  rw [←ha] at hl
  refine HJ b S hsc hn hp G hl (fun ds vs W1 σ1 s1 hin G1 st1 rd=>?_) (fun e s' σ' hin fl=>hE e s' σ' (AQ hb hin) fl)
  obtain ⟨o,hf,hsub⟩:=AZ hb hin
  cases hd:A2 ds with
  | none=>rw [hd] at hf;cases hf
  | some d=>
  rw [hd] at hf
  rw [De hd] at rd
  obtain ⟨v,ev,rd⟩:=rd.one
  rw [ev]
  replace hf:opt (Tq d) σ1=some o:=hf
  unfold Tq at hf
  cases ht:BL d with
  | none=>rw [ht] at hf;cases hf
  | some l3=>
  rw [ht] at hf
  refine Qt b (BU ht▸rd) G1 fun itv h' hk ir=>?_
  exact hQ _ itv W1 σ1 s1 h' s1.toks (hsub _ (AB hf▸.head _)) G1 st1 hk ir
 ·rw [hit] at ho hQ
  obtain ⟨l,hl,hb⟩:=AS ho
  refine AH (S.ev F sc iter hsc W σ s G l hl) (fun v s1 h=>?_) (fun e s1 h=>?_)
  ·obtain ⟨d,W1,σ1,hin,G1,st1,rd⟩:=h
   obtain ⟨o,hf,hsub⟩:=AZ hb hin
   cases hi:DE d with
   | none=>rw [hi] at hf;cases hf
   | some l3=>
    rw [hi] at hf
    exact Ij b rd hi G1 fun itv h' hk ir=>hQ _ itv W1 σ1 s1 h' s1.toks (hsub _ (AB hf▸.head _)) G1 st1 hk ir
  ·obtain ⟨σ',hin,fl⟩:=h
   exact hE e s1 σ' (AQ hb hin) fl
 ·rw [hit] at ho
  obtain ⟨l,hl,hb⟩:=AS ho
  rw [S.bad] at hl
  cases hl
end
section
open PySem PySem.W
variable {B:Bs} {F F':Fv} {C:Value} {W W':Wd} {σ σ':St} {s s':Shared}
open PyProof.Rows
theorem Ud (b:AK B) {A:Around} (hh:A.handled=none) {k:ItK} (hk:k.isE=false) {ds:List D} {E:VP}:∀ (n i:Nat) (s:Shared) (Q:List Value→Shared→Prop),k.At i s.heap→k.Rds B W s.heap ds→i + n≤ds.length→
  (∀ vs h' tk,AU k.ex s.heap h'→k.At (i + n) h'→RdL B W h' ((ds.drop i).take n) vs→Q vs {s with heap:=h',toks:=tk})→wpAny (mdl B) A (PySem.draw (.ref k.I) n) Q E s:=by
 intro n
 induction n with
 | zero=>
  intro i s Q a r hl hQ
  exact AD (hQ [] s.heap s.toks (fun zz zz zz e=>e) a (by simpa using RdL.nil))
 | succ n ih=>
  intro i s Q a r hl hQ
  have hi:i < ds.length:=by omega
  have hd:ds[i]? = some ds[i]:=List.getElem?_eq_getElem hi
  show wpAny _ _ (pyNext (.ref k.I)>>=_) Q E s
  refine AA (E7 b hh hk a hd r fun v h1 t1 k1 a1 r1=>?_)
  refine AA (AG (ih (i + 1) _ _ a1 (r.kept b a.fields k1) (by omega) fun vs h2 t2 k2 a2 r2=>AD ?_))
  refine hQ (v::vs) h2 t2 (AU.trans k1 k2) (by rw [show i + (n + 1)=i + 1 + n by omega];exact a2) ?_
  have e:(ds.drop i).take (n + 1)=ds[i]::(ds.drop (i + 1)).take n:=by rw [List.drop_eq_getElem_cons hi,List.take_succ_cons]
  rw [e]
  exact .cons _ _ _ _ (Cj b a1.fields k2 r1) r2
theorem Ja (b:AK B) (G:Good B F W σ s) {d:D} {l:List D} {v:Value} (r:Rd B W s.heap d v) (hl:DE d=some l) {Q:List Value→Shared→Prop} {E:VP}
  (hQ:∀ vs h' tk,(∀ c o,s.heap.get? c=some o→h'.get? c=some o)→RdL B W h' l vs→Q vs {s with heap:=h',toks:=tk}):wpAny (mdl B) F.A (unpackItems v l.length none) Q E s:=by
 have hh:=G.ok.handled
 have iter:∀ Q:Bool→Shared→Prop,Q false s→wpAny (mdl B) F.A (notIterableAtAll v) Q E s:=fun Q hq=>by
  unfold notIterableAtAll
  have i:=r.inv
  clear r
  cases d with
  | tup ds=>obtain ⟨a,vs,ev,hx,rl⟩:=i;rw [ev];exact AA (wpAny_specialOf hx.typeIs PySem.F.slot_tuple_iter.lookup (AD hq))
  | lst ds=>obtain ⟨a,vs,ev,_,hx,rl⟩:=i;rw [ev];exact AA (wpAny_specialOf hx.typeIs slot_list_iter.lookup (AD hq))
  | _=>exact nomatch hl
 unfold unpackItems
 refine AA (iter _ ?_)
 simp only [Bool.false_eq_true,if_false]
 refine AA (AG (Ij b r hl G fun itv h1 k1 ir=>?_))
 obtain ⟨k,rfl,a,rd,off,hn,_,hk⟩:=ir
 have gone:∀ h2,AU k.ex h1 h2→∀ c o,s.heap.get? c=some o→h2.get? c=some o:=fun h2 kk c o e=>kk c o (fun m=>by rw [hn c m] at e;cases e) (k1 c o e)
 refine AA (AG (Ud b hh hk l.length 0 _ _ a rd (by omega) fun vs h2 t2 k2 a2 r2=>?_))
 have e1:(l.drop 0).take l.length=l:=by simp
 rw [e1] at r2
 have e2:=RdL.length r2
 rw [if_neg (by omega)]
 have a3:k.At k.len h2:=by rw [←rd.length,←Nat.zero_add l.length];exact a2
 refine AA (AG (GU hh a3 fun h3 t3 k3=>?_))
 simp only [Option.isSome_none,Bool.false_eq_true,if_false]
 exact AD (hQ vs h3 t3 (gone h3 (AU.trans k2 k3)) (Dc b a3.fields k3 r2))
noncomputable def BD (F:Fv) (x:Str):Prop:=F.env.kindOf x=some .local∨(F.env.kindOf x=some .cell∧F.isFn=true)
theorem GD {x:Nm} {d:D} {l:Rho}:BJ ((x,d)::l)=(B2 x d>>=fun zz=>BJ l):=by
 funext s;rfl
theorem Du {t:Expr} {ts:List Expr} {xs:List Nm} (h:targetsOf (t::ts)=some xs):∃ x p ys,t=.Name x p∧targetsOf ts=some ys∧xs=nm x::ys :=
 AO (show ((An t).bind fun x=>(targetsOf ts).bind fun xs=>some (nm x::xs))=some xs from h) fun x hx h=>AO h fun ys hy h=>by
  obtain ⟨p,e⟩:=A1 hx
  exact ⟨x,p,ys,e,hy,(AB h).symm⟩
theorem Nd (b:AK B) (ts:List Expr):∀ (xs:List Nm) (ds:List D) (vs:List Value) (bnd:Rho) (W:Wd) (σ:St) (s:Shared),targetsOf ts=some xs→(∀ x,nm x∈xs→BD F x)→RdL B W s.heap ds vs→Ba xs ds=some bnd→
  Ok B C F W σ s (assignInOrder ((assignEach ts F.env).map (·.2)) vs) (BJ bnd) (fun zz zz zz zz=>True):=by
 induction ts with
 | nil=>
  intro xs ds vs bnd W σ s hx hk r hp
  rw [←AB hx] at hp
  cases ds with
  | nil=>rw [show vs=_ from r.inv,←AB hp];exact Ok.pure (b:=()) fun zz=>trivial
  | cons d ds=>exact nsF hp
 | cons t ts ih=>
  intro xs ds vs bnd W σ s hx hk r hp
  obtain ⟨x,p,ys,et,h1,ex⟩:=Du hx
  rw [ex] at hk hp
  rw [et]
  cases ds with
  | nil=>exact nsF hp
  | cons d ds=>
   obtain ⟨v,us,ev,rd,rs⟩:=r.inv
   rw [ev]
   refine AO (show ((Ba ys ds).bind fun r=>some ((nm x,d)::r))=some bnd from hp) fun bs hq hp=>?_
   rw [←AB hp,GD]
   show Ok B C F W σ s (PySem.holding us (standAt p>>=fun zz=>bindName F.env x v)>>=fun zz=>assignInOrder ((assignEach ts F.env).map (·.2)) us) _ _
   exact Ok.bind (Ok.holding (Ok.at (EX b (hk x (.head _)) rd))) fun zz zz W1 σ1 s1 G st zz=>ih ys ds us bs W1 σ1 s1 h1 (fun z hz=>hk z (.tail _ hz)) (G.rdL b st rs) hq
theorem OO {env:Env} {ts:List Expr}:∀ {xs:List Nm},targetsOf ts=some xs→(assignEach ts env).length=xs.length∧(assignEach ts env).findIdx? (·.1)=none:=by
 induction ts with
 | nil=>exact fun h=>AB h▸⟨rfl,rfl⟩
 | cons t ts ih=>
  intro xs h
  obtain ⟨x,p,ys,et,h1,ex⟩:=Du h
  obtain ⟨a,c⟩:=ih h1
  rw [ex,et,show assignEach (.Name x p::ts) env=(false,assign (.Name x p) env)::assignEach ts env from rfl]
  exact ⟨congrArg (· + 1) a,by rw [List.findIdx?_cons,c];rfl⟩
theorem Fb {xs:List Nm}:∀ {ds:List D} {r:Rho},Ba xs ds=some r→ds.length=xs.length:=by
 induction xs with
 | nil=>
  intro ds r h
  cases ds with
  | nil=>rfl
  | cons _ _=>exact nsF h
 | cons x xs ih=>
  intro ds r h
  cases ds with
  | nil=>exact nsF h
  | cons d ds=>exact AO (show ((Ba xs ds).bind fun r=>some ((x,d)::r))=some r from h) fun r' hr zz=>congrArg (· + 1) (ih hr)
theorem IZ (b:AK B) {ts:List Expr} {xs:List Nm} {k:Nat} {pos:Pos} {d:D} {l:List D} {v:Value} {bnd:Rho} (hx:targetsOf ts=some xs) (hk:∀ x,nm x∈xs→BD F x) (r:Rd B W s.heap d v) (hl:DE d=some l)
  (hp:Ba xs l=some bnd):Ok B C F W σ s (assign (.Tuple ts k pos) F.env v) (BJ bnd) (fun zz zz zz zz=>True):=fun G outs ho=>by
 rw [arm_assign_Tuple]
 refine AA (wpAny_standAt ?_)
 unfold unpack
 obtain ⟨h1,h2⟩:=OO (env:=F.env) hx
 rw [h1,h2,←Fb hp]
 refine AA (AG (Ja b G r hl fun vs h' tk hk' rl=>?_))
 obtain ⟨G',st⟩:=G.grow b (t:=tk) hk'
 refine AH (Nd (C:=C) b ts xs l vs bnd W σ _ hx hk rl hp G' outs ho) (fun u s2 h=>?_) (fun e s2 h=>?_)
 ·obtain ⟨c,W2,σ2,hin,G2,st2,rr⟩:=h
  exact ⟨c,W2,σ2,hin,G2,st.trans B G' st2,rr⟩
 ·obtain ⟨σ2,hin,fl⟩:=h
  exact ⟨σ2,hin,fl.of_step st⟩
theorem D5 (b:AK B) {x:Str} {p:Pos} {d:D} {v:Value} (hk:BD F x) (r:Rd B W s.heap d v):Ok B C F W σ s (assign (.Name x p) F.env v) (B2 (nm x) d) (fun zz zz zz zz=>True):=by
 show Ok B C F W σ s (standAt p>>=fun zz=>bindName F.env x v) _ _
 exact Ok.at (EX b hk r)
end
section
open PySem PySem.W
variable {B:Bs} {F F':Fv} {C:Value} {W W':Wd} {σ σ':St} {s s':Shared}
open PyProof.Rows
noncomputable def clO (env:Env) (p:Str×NameKind):Option (Str×Addr):=match p.2 == .free with
 | true=>(env.cells.lookup p.1).map fun c=>(p.1,c)
 | false=>none
noncomputable def Cr (env:Env) (l:LK) (acc:List (Str×Addr)):List (Str×Addr):=(l.filterMap (clO env)).reverse++acc
theorem UB {env:Env} {x:Str} {c:Addr} (h:env.cells.lookup x=some c):clO env (x,.free)=some (x,c):=by
 show (env.cells.lookup x).map _=_
 rw [h];rfl
theorem OT {scope:Scope} {env:Env} (h:∀ p∈scope.names,p.2=.free→∃ c,env.cells.lookup p.1=some c):closureFor scope env=pure (Cr env scope.names []):=by
 simp only [closureFor]
 generalize scope.names=l at h
 generalize ([]:List (Str×Addr))=acc
 induction l generalizing acc with
 | nil=>rfl
 | cons p r ih=>
  obtain ⟨n,k⟩:=p
  have ih':=fun a=>ih (fun q hq=>h q (.tail _ hq)) a
  cases hk:(k == NameKind.free) with
  | false=>
   have:=ih' acc
   have e:clO env (n,k)=none:=by show (match k == NameKind.free with | true=>_ | false=>_)=_;rw [hk]
   simp only [List.forIn_cons,hk,Bool.false_eq_true,if_false,pure_bind]
   rw [show Cr env ((n,k)::r) acc=Cr env r acc by unfold Cr;rw [List.filterMap_cons_none e]]
   exact this
  | true=>
   obtain ⟨c,hc⟩:=h (n,k) (.head _) (eq_of_beq hk)
   have hc':env.cells.lookup n=some c:=hc
   have hcell:cellOf env n=pure c:=by unfold cellOf;rw [hc']
   have:=ih' ((n,c)::acc)
   simp only [List.forIn_cons,hk,if_true,hcell,pure_bind]
   rw [show Cr env ((n,k)::r) acc=Cr env r ((n,c)::acc) by unfold Cr;rw [List.filterMap_cons_some (eq_of_beq hk▸UB hc'),List.reverse_cons,List.append_assoc];rfl]
   exact this
theorem By {env:Env} {l:LK} {x:Str} {c:Addr} (h:(Cr env l []).lookup x=some c):env.cells.lookup x=some c:=by
 have h:=mem_of_lookup h
 unfold Cr at h
 rw [List.append_nil,List.mem_reverse,List.mem_filterMap] at h
 obtain ⟨p,hp,e⟩:=h
 change (match p.2 == NameKind.free with | true=>(env.cells.lookup p.1).map fun c=>(p.1,c) | false=>none)=_ at e
 cases hk:p.2 == NameKind.free with
 | false=>rw [hk] at e;cases e
 | true=>
  rw [hk] at e
  obtain ⟨c',e1,e2⟩:=Option.map_eq_some_iff.mp e
  rw [←pI1 e2,←pI2 e2]
  exact e1
theorem Mr {env:Env} {x:Str} {c:Addr} (hc:env.cells.lookup x=some c) {l:LK} (h:(x,NameKind.free)∈l):((Cr env l []).lookup x).isSome=true:=by
 obtain ⟨v,e⟩:=mem_lookup (l:=Cr env l []) (List.mem_map.mpr ⟨(x,c),by unfold Cr;rw [List.append_nil,List.mem_reverse,List.mem_filterMap];exact ⟨_,h,UB hc⟩,rfl⟩)
 rw [e];rfl
noncomputable def UY (M:Model) (A:Around) (E:VP) (use:Option (Value→Sem Unit)) (Q:VP) (acc:Value) (cenv:Env):Result→Shared→Prop
 | .ok _,s'=>match use with
  | none=>∃ m,s'.heap.Ns cenv.locals m∧∀ h',Heap.SameBut cenv.locals s'.heap h'→Q acc {s' with heap:=h'}
  | some u=>wpAny M A (u acc) (fun zz s2=>∃ m,s2.heap.Ns cenv.locals m∧∀ h',Heap.SameBut cenv.locals s2.heap h'→Q .none {s2 with heap:=h'}) E s'
 | .error x,s'=>∃ m,s'.heap.Ns cenv.locals m∧∀ h',Heap.SameBut cenv.locals s'.heap h'→wpAny M A (passOn "comprehension.variables-let-go" x cenv:Sem Value) Q E {s' with heap:=h'}
theorem Rj {M:Model} {A:Around} {E:VP} {env:Env} {e:Expr} {scope:Scope} {pos:Pos} {newAcc first:Sem Value} {g:Comprehension} {gs:List Comprehension} {cl:List (Str×Addr)}
  {use:Option (Value→Sem Unit)} {Q:VP} (hcl:clausesOf e=g::gs) (hs:∀ x,foldedSetIterable g.iter env x=pure x) (hclos:closureFor scope env=pure cl)
  (hkind:scope.kind=.function) (hcell:∀ x∈scope.names,x.2≠.cell) (hnames:∀ x∈scope.names,x.2=.local→scope.names.lookup x.1=some .local)
  (h:wpAny M A first (fun x s₁=>wpAny M A (pyIter x) (fun it s₂=>wpAny M A newAcc (fun acc s₃=>
   ∀ h₄,h₄.Ns s₃.heap.objs.size (fun zz=>none)→Heap.SameBut s₃.heap.objs.size (s₃.heap.push {cls:=.type "dict",data:=.dict #[]}) h₄→
    codeAny M A (.compStart e 0 it acc (compEnvC scope cl s₃.heap.objs.size env)) (UY M A E use Q acc (compEnvC scope cl s₃.heap.objs.size env)) {s₃ with heap:=h₄}) E s₂) E s₁) E s) :
  wpAny M A (comprehension e scope env pos newAcc false first use) Q E s:=by
 unfold comprehension
 rw [hclos,hcl]
 refine AA (AH h (fun x s₁ h₁=>AA (wpAny_standAt (AA (wpAny_of_eq (hs x) (AA (AG (AH h₁ (fun it s₂ h₂=>
  wpAny_standIf (AA (AH h₂ (fun acc s₃ h₃=>AA (AD (AA ?_))) fun zz zz y=>y))) fun zz zz y=>y))))))) fun zz zz y=>y)
 refine wpAny_newFunctionEnv hcell (by intro y hy;simp at hy) (fun h₄ hns hsb=>?_) hkind
 have h₄':=h₃ h₄ (by simpa using hns) hsb
 have loc:∀ x∈(scope.names.filter fun x=>(x.2 == .local || x.2 == .cell)&&x.1 != (".0" : Str)),x.2=.local→Env.kindOf (compEnvC scope cl s₃.heap.objs.size env) x.1=some .local:=fun x hx hl=>
  lookup_relabel_local (hnames x (List.mem_filter.mp hx).1 hl)
 refine AG (AA (wpAny_attempt (AG (wpAny_run (codeAny_mono h₄' fun r s' hr=>?_)))))
 cases r with
 | error x=>
  obtain ⟨m,hn,hr⟩:=hr
  exact AA (AG (wpAny_comp_letGo (cenv:=compEnvC scope cl s₃.heap.objs.size env) hkind _ s' m (fun x hx=>loc x (List.mem_reverse.mp hx)) hn fun h' m' zz hs'=>hr h' hs'))
 | ok f=>
  cases use with
  | none=>
   obtain ⟨m,hn,hr⟩:=hr
   exact AA (AG (wpAny_comp_letGo (cenv:=compEnvC scope cl s₃.heap.objs.size env) hkind _ s' m (fun x hx=>loc x (List.mem_reverse.mp hx)) hn fun h' m' zz hs'=>AD (hr h' hs')))
  | some u=>
   refine AA (wpAny_rule (AA (AG (AH hr (fun zz s2 hr'=>?_) fun zz zz y=>y))))
   obtain ⟨m,hn,hr'⟩:=hr'
   refine AA (wpAny_comp_letGo (cenv:=compEnvC scope cl s₃.heap.objs.size env) hkind _ s2 m (fun x hx=>loc x ?_) hn fun h' m' zz hs'=>AD (hr' h' hs'))
   rcases List.mem_append.mp hx with h1 | h1
   ·exact List.mem_reverse.mp (List.mem_of_mem_drop h1)
   ·exact List.mem_reverse.mp (List.mem_of_mem_take h1)
theorem Bw {o:Option NameKind} {k:NameKind} (h:BG o k=true):o=some k:=by
 cases o with
 | none=>cases k<;>cases h
 | some j=>cases j<;>cases k<;>first | rfl | cases h
theorem Jq {sc:LK} {p:Str×NameKind} (h:TI sc p=true):p.2≠.cell∧(p.2=.free→As (nm p.1) sc=some .cell∨As (nm p.1) sc=some .free):=by
 obtain ⟨x,k⟩:=p
 cases k with
 | cell=>cases h
 | free=>exact ⟨nofun,fun zz=>orT h (fun h=>.inl (Bw h)) fun h=>.inr (Bw h)⟩
 | _=>exact ⟨nofun,nofun⟩
theorem D9 {all sc l:LK} (h:O9 all sc l=true) (p:Str×NameKind) (hp:p∈l):p.2≠.cell∧(p.2=.free→As (nm p.1) sc=some .cell∨As (nm p.1) sc=some .free)∧all.lookup p.1=some p.2:=by
 obtain ⟨h1,h2⟩:=BA (List.all_eq_true.mp h p hp)
 exact ⟨(Jq h1).1,(Jq h1).2,Ad▸Bw h2⟩
theorem MV {k:ScopeKind} (h:MW k=true):k=.function:=by cases k<;>first | rfl | cases h
theorem ML {x:Nm}:∀ {l:LK},x∈CP l→∃ n,nm n=x∧(n,NameKind.free)∈l:=by
 intro l
 induction l with
 | nil=>
  intro h
  cases h
 | cons zp r ih=>
  obtain ⟨y,k⟩:=zp
  intro h
  cases k with
  | free=>
   rcases List.mem_cons.mp h with rfl | h
   ·exact ⟨y,rfl,.head _⟩
   ·obtain ⟨n,a,c⟩:=ih h;exact ⟨n,a,.tail _ c⟩
  | _=>obtain ⟨n,a,c⟩:=ih h;exact ⟨n,a,.tail _ c⟩
theorem Ny {fs:List Nm} {x:Nm} {d:D} {ρ:Rho}:Ay x (HR fs ρ)=some d→x∈fs∧Ay x ρ=some d:=by
 induction ρ with
 | nil=>exact fun h=>nsF h
 | cons p r ih=>
  obtain ⟨y,e⟩:=p
  show Ay x (match fs.any (Ap y) with | true=>(y,e)::HR fs r | false=>HR fs r)=some d→_
  rw [DC]
  cases q:fs.any (Ap y) with
  | true=>
   dsimp only
   rw [DC]
   by_cases c:x=y
   ·rw [if_pos c,if_pos c]
    obtain ⟨z,hz,e⟩:=List.any_eq_true.mp q
    exact fun h=>⟨by rw [c,AW.mp e];exact hz,h⟩
   ·rw [if_neg c,if_neg c]
    exact ih
  | false=>
   intro h
   obtain ⟨h1,h2⟩:=ih h
   refine ⟨h1,?_⟩
   rw [if_neg fun c=>?_]
   ·exact h2
   ·rw [←c,List.any_eq_false] at q
    exact absurd QC (q x h1)
noncomputable def C5 (F:Fv) (scope:Scope) (cl:List (Str×Addr)) (C:Addr):Fv :=
 {env:=compEnvC scope cl C F.env,stack:=F.stack,own:=[C],A:=F.A,base:=F.base,isFn:=false}
theorem BZ {env:Env} {x:Str}:∀ {names:LK} {k:NameKind},names.lookup x=some k→
  (names.map fun (n,k)=>if (k == NameKind.free&&env.scope.kind == .function&&env.kindOf n == some .cell) then (n,NameKind.cell) else (n,k)).lookup x=some (if (k == NameKind.free&&env.scope.kind == .function&&env.kindOf x == some .cell) then NameKind.cell else k)
 | [],k,h=>by simp at h
 | (n,j)::r,k,h=>by
  have ih:=fun h=>@BZ env x r k h
  rw [List.lookup_cons] at h
  show List.lookup x ((if (j == NameKind.free&&env.scope.kind == .function&&env.kindOf n == some .cell)=true then (n,NameKind.cell) else (n,j))::_)=_
  cases hx:x == n with
  | true=>
   rw [hx] at h
   have:=eq_of_beq hx
   subst this
   cases h
   split<;>simp [List.lookup_cons]
  | false=>
   rw [hx] at h
   split<;>(simp only [List.lookup_cons,hx];exact ih h)
section
variable {sc:LK} {scope:Scope}
theorem Gw (hsc:A5 sc F.env) (hs:Cn sc scope=true) {C:Addr}:A5 scope.names (compEnvC scope (Cr F.env scope.names []) C F.env):=by
 obtain ⟨h1,h2⟩:=Bool.and_eq_true_iff.mp hs
 have sp:=D9 h2
 refine ⟨fun x h=>?_,fun x h=>?_,fun x h=>?_⟩
 ·rw [Ad] at h
  exact (BZ (env:=F.env) h).trans rfl
 ·rw [Ad] at h
  exact (BZ (env:=F.env) h).trans rfl
 ·rw [Ad] at h
  rcases h with h | h
  ·exact absurd rfl (sp _ (mem_of_lookup h)).1
  ·obtain ⟨_,q,_⟩:=sp _ (mem_of_lookup h)
   obtain ⟨_,c,hc⟩:=hsc.cel x (q rfl)
   obtain ⟨c',hc'⟩:=Option.isSome_iff_exists.mp (Mr (env:=F.env) hc (mem_of_lookup h))
   refine ⟨?_,c',hc'⟩
   have e:=BZ (env:=F.env) h
   split at e
   ·exact .inl e
   ·exact .inr e
theorem Q5 (b:AK B) (G:Good B F W σ s) (hsc:A5 sc F.env) (hs:Cn sc scope=true) {C:Addr} {h':Heap} {t:Nat} {m:SV} (hk:∀ c o,s.heap.get? c=some o→h'.get? c=some o)
  (hC:s.heap.get? C=none) (hn:h'.Ns C m):Good B (C5 F scope (Cr F.env scope.names []) C) W {σ with rho:=HR (CP scope.names) σ.rho} {s with heap:=h',toks:=t}:=by
 obtain ⟨Gm,st⟩:=G.grow b (t:=t) hk
 obtain ⟨h1,h2⟩:=Bool.and_eq_true_iff.mp hs
 have sp:=D9 h2
 have off:=Off.fresh G hC
 refine {ok:=?_,dep:=G.dep,depth:=G.depth,units:=G.units,stay0:=Gm.stay0,stayB:=Gm.stayB,frames:=Gm.frames,ns:=⟨_,hn⟩,cells:=fun x c e=>Gm.cells x c (By e),own:=?_,src:=Gm.src,pins:=?_,vars:=?_,picks:=⟨G.picks.len,G.picks.cand,G.picks.cmps⟩,rest:=G.rest}
 ·exact {kind:=MV h1,glob:=G.ok.glob,bltn:=G.ok.bltn,frame:=G.ok.frame,loc:=.head _,apart:=fun x c e=>off.cells x c (By e),inj:=fun x y c e1 e2=>G.ok.inj x y c (By e1) (By e2),nofree:=fun q=>(by cases q),cell:=fun q=>(by cases q),frames:=G.ok.frames,handled:=G.ok.handled,b0:=G.ok.b0,sfr:=G.ok.sfr}
 ·intro a ha
  obtain rfl:a=C:=by simpa [C5] using ha
  exact ⟨BF hn,off.h0,off.base⟩
 ·intro p hp
  obtain ⟨e,_,e2,e3⟩:=Gm.pins p hp
  exact ⟨e,(fun q=>off.pins p hp (by simpa [C5] using q)),e2,e3⟩
 ·intro x d hx
  obtain ⟨hf,hl⟩:=Ny hx
  obtain ⟨n,hn1,hn2⟩:=ML hf
  have:=Aj hn1
  subst this
  obtain ⟨v,hv,r⟩:=Gm.vars n d hl
  refine ⟨v,?_,r⟩
  obtain ⟨_,q,q2⟩:=sp _ hn2
  obtain ⟨kk,c,hc⟩:=hsc.cel n (q rfl)
  have e:=BZ (env:=F.env) q2
  obtain ⟨c',hc'⟩:=Option.isSome_iff_exists.mp (Mr (env:=F.env) hc hn2)
  have hcc:c'=c:=by have:=By hc';rw [hc] at this;exact (AB this).symm
  subst hcc
  have hk2:(compEnvC scope (Cr F.env scope.names []) C F.env).kindOf n=some .cell∨(compEnvC scope (Cr F.env scope.names []) C F.env).kindOf n=some .free:=by
   split at e
   ·exact .inl e
   ·exact .inr e
  rcases hv with ⟨a,_⟩ | ⟨_,c2,hc2,z⟩
  ·rcases kk with kk | kk<;>rw [a] at kk<;>cases kk
  ·rw [hc] at hc2
   cases hc2
   exact .inr ⟨hk2,_,hc',z⟩
theorem Off.comp {a:Addr} {cl:List (Str×Addr)} {C:Addr} (O:Off B F W a) (hC:a≠C) (hcl:∀ x c,cl.lookup x=some c→F.env.cells.lookup x=some c):Off B (C5 F scope cl C) W a :=
 ⟨fun m=>hC (by simpa [C5] using m),O.fr,O.S,O.h0,O.base,O.pins,fun x c e=>O.cells x c (hcl x c e),fun q=>hC q.symm⟩
end
end
section
open PySem PySem.W
variable {B:Bs} {F F':Fv} {C:Value} {W W':Wd} {σ σ':St} {s s':Shared}
open PyProof.Rows
theorem Lp {env:Env}:∀ (ifs:List Expr),(forIn ifs false fun c r=>if r=true then do let ok←isTrue c env (eval c env);pure (ForInStep.yield ok) else pure (ForInStep.yield r):Sem Bool)=pure false:=by
 intro ifs
 induction ifs with
 | nil=>
  exact rfl
 | cons c ifs ih=>
  rw [List.forIn_cons]
  simp only [Bool.false_eq_true,if_false,pure_bind]
  exact ih
theorem SS (b:AK B) {r:Rec} (S:AX B C r) {sc:LK} (hsc:A5 sc F.env):∀ (ifs:List Expr) (W:Wd) (σ:St) (s:Shared),Ok B C F W σ s (forIn ifs true fun c r=>if r=true then do let ok←isTrue c F.env (eval c F.env);pure (ForInStep.yield ok) else pure (ForInStep.yield r)) (Ov r (AN B.G sc ifs)) RdB:=by
 intro ifs
 induction ifs with
 | nil=>
  intro W σ s
  exact Ok.pure fun zz=>rfl
 | cons c ifs ih=>
  intro W σ s
  rw [List.forIn_cons]
  simp only [if_true]
  show Ok B C F W σ s ((isTrue c F.env (eval c F.env)>>=fun ok=>pure (ForInStep.yield ok))>>=_) (r.tst (AJ B.G sc c)>>=fun q=>match q with | true=>Ov r (AN B.G sc ifs) | false=>pure false) _
  refine Ok.bind (R:=fun zz zz b v=>v=ForInStep.yield b) (Ok.map (f:=ForInStep.yield) ((S.tst F sc c hsc W σ s).mono fun W h b v hv=>by rw [show b=v from hv])) fun q v W1 σ1 s1 G st hv=>?_
  have hv':v=ForInStep.yield q:=hv
  subst hv'
  cases q with
  | true=>exact ih W1 σ1 s1
  | false=>
   have e:=Lp (env:=F.env) ifs
   show Ok B C F W1 σ1 s1 (forIn ifs false fun c r=>if r=true then do let ok←isTrue c F.env (eval c F.env);pure (ForInStep.yield ok) else pure (ForInStep.yield r)) (pure false) _
   rw [e]
   exact Ok.pure fun zz=>rfl
structure Eo (B:Bs) (fr:List Addr) (W0:Wd) (h0:Heap) (W:Wd) (h:Heap):Prop where
 nu:W0.nu<+:W.nu
 pins:∀ p∈W0.pins,p∈W.pins
 fresh:∀ p∈W.pins,p∈W0.pins
 keep:F4 [] fr B.S h0 h
theorem Eo.step {fr:List Addr} {W0:Wd} {h0:Heap} (x:Eo B fr W0 h0 W s.heap) (G:Good B F W σ s) {h':Heap} (st:Step B F W s.heap W' h') (hfr:F.fr=fr) (hown:∀ a∈F.own,h0.get? a=none):Eo B fr W0 h0 W' h':=by
 refine ⟨x.nu.trans st.nu,fun p hp=>st.pins p (x.pins p hp),fun p hp=>x.fresh p (st.fresh p hp),fun c o e zz n2=>?_⟩
 ·have n1:c∉F.own:=fun m=>by rw [hown c m] at e;cases e
  obtain ⟨a1,sl,a2⟩:=x.keep c o e (by simp) n2
  obtain ⟨_,sl',b2⟩:=st.keep c _ a2 n1 n2
  exact ⟨fun n=>(st.keep c o (a1 n) n1 n2).1 (hfr▸n),sl',b2⟩
theorem Eo.touch {fr:List Addr} {W0:Wd} {h0 h h':Heap} {ex:List Addr} (x:Eo B fr W0 h0 W h) (k:AU ex h h') (hex:∀ a∈ex,h0.get? a=none):Eo B fr W0 h0 W h':=by
 refine ⟨x.nu,x.pins,x.fresh,fun c o e n1 n2=>?_⟩
 obtain ⟨a1,sl,a2⟩:=x.keep c o e n1 n2
 have n:c∉ex:=fun m=>by rw [hex c m] at e;cases e
 exact ⟨fun f=>k c o n (a1 f),sl,k c _ n a2⟩
structure Xd (B:Bs) (C:Value) (F:Fv) (W0:Wd) (h0:Heap) (σ:St) (e:Value) (s:Shared):Prop where
 exc:∃ a a0 L,e=.ref a∧F.env.frame=some L∧Heap.HeldW F.base F.stack a C a0 L s.heap
 picks:∃ nu,W0.nu<+:nu∧Mz nu σ
 rest:s.gens=B.g∧s.drawn=B.d∧s.os=B.os
 up:LU [] B.S h0 s.heap
 ns:∃ m,s.heap.Ns F.env.locals m
theorem Sq (G:Good B F W σ s) {W0:Wd} {h0:Heap} {fr:List Addr} (x:Eo B fr W0 h0 W s.heap) (hown:∀ a∈F.own,h0.get? a=none) {e:Value} {s1:Shared} (fl:Fly B C F W s.heap σ' e s1)
  {E:VP} (hE:∀ s2,Xd B C F W0 h0 σ' e s2→E e s2):notedBy (mdl B) F.A F.env E e s1:=by
 obtain ⟨a,rfl,hf⟩:=fl.exc
 obtain ⟨e0,rest,hst,hfr,L,hL⟩:=G.ok.frame
 rw [hL] at hf
 rw [hst] at hf
 refine KJ (by rw [G.ok.frames,hst]) (hfr.trans hL) hL hf fun h' a0 hh hup=>?_
 obtain ⟨nu,h4,h5⟩:=fl.picks
 refine hE _ ⟨⟨a,a0,L,rfl,hL,by rw [hst];exact hh⟩,⟨nu,x.nu.trans h4,h5⟩,fl.rest,fun c o e n1 n2 nf=>?_,?_⟩
 ·obtain ⟨_,sl,e2⟩:=x.keep c o e n1 n2
  have no:c∉F.own:=fun m=>by rw [hown c m] at e;cases e
  obtain ⟨sl2,e3⟩:=fl.up c _ e2 no n2 nf
  obtain ⟨sl3,e4⟩:=hup c _ e3 nf
  exact ⟨sl3,e4⟩
 ·obtain ⟨m,n⟩:=fl.ns
  exact ⟨m,hup.ns n⟩
theorem ItK.At.step (b:AK B) {k:ItK} {i:Nat} (x:k.At i s.heap) (G:Good B F W σ s) {h':Heap} (st:Step B F W s.heap W' h') (off:∀ a∈k.ex,Off B F W a) (hs:∀ a,k.src=some a→a≠B.S):k.At i h' :=
 x.kept (fun a o m e=>(off a m).kept st e)
  (fun a vs e l=>G7 st.keep (fun a m=>let ⟨⟨o,e,n,_⟩,_⟩:=G.own a m;⟨o,e,n⟩) (hs a e) l)
  (fun a vs t=>Fu st.keep (fun a m=>let ⟨⟨o,e,n,_⟩,_⟩:=G.own a m;⟨o,e,n⟩) G.srcList t)
theorem ItK.Rds.step (b:AK B) {k:ItK} {ds:List D} (x:k.Rds B W s.heap ds) (G:Good B F W σ s) {h':Heap} (st:Step B F W s.heap W' h'):k.Rds B W' h' ds:=by
 cases k with
 | lst I ax vs=>exact G.rdL b st (show RdL B W s.heap ds vs.toList from x)
 | tup I ax vs=>exact G.rdL b st (show RdL B W s.heap ds vs.toList from x)
 | rng I n=>exact x
 | enm e it ax vs=>obtain ⟨es,e,r⟩:=x;exact ⟨es,e,G.rdL b st r⟩
end
section
open PySem PySem.W
variable {B:Bs} {F F':Fv} {C:Value} {W W':Wd} {σ σ':St} {s s':Shared}
open PyProof.Rows
noncomputable def EN (F:Fv) (e:Bool) (target:Expr) (xs:List Nm):Prop:=match e with
 | false=>∃ x p,target=.Name x p∧xs=[nm x]∧BD F x
 | true=>∃ ts n p x y,target=.Tuple ts n p∧targetsOf ts=some xs∧xs=[x,y]∧∀ z,nm z∈xs→BD F z
theorem EN.tgtOk {k:ItK} {target:Expr} {xs:List Nm} (h:EN F k.isE target xs):tgtOk k target:=by
 unfold Mine.tgtOk
 unfold EN at h
 cases e:k.isE with
 | false=>rw [e] at h;obtain ⟨x,p,h,_⟩:=h;exact ⟨x,p,h⟩
 | true=>rw [e] at h;obtain ⟨ts,n,p,_,_,h,_⟩:=h;exact ⟨ts,n,p,h⟩
theorem QR (b:AK B) {e:Bool} {target:Expr} {xs:List Nm} {d:D} {v:Value} {bnd:Rho} (h:EN F e target xs) (r:Rd B W s.heap d v) (hb:LL xs d=some bnd) :
  Ok B C F W σ s (assign target F.env v) (BJ bnd) (fun zz zz zz zz=>True):=by
 unfold EN at h
 cases e with
 | false=>
  obtain ⟨x,p,rfl,rfl,hk⟩:=h
  cases hb
  exact D5 b hk r
 | true=>
  obtain ⟨ts,n,p,x,y,rfl,hx,rfl,hk⟩:=h
  have hb':(match d with | .tup l=>Ba [x,y] l | _=>none)=some bnd:=by
   cases d<;>exact hb
  cases d with
  | tup l=>exact IZ b hx hk r rfl hb'
  | _=>exact nomatch hb'
theorem J1 {α:Type} {l r:List α} {d:α} {i:Nat} (h:l.drop i=d::r):l[i]? = some d∧l.drop (i + 1)=r:=by
 have h1:(l.drop i)[0]? = some d:=by rw [h];rfl
 have h2:(l.drop i).tail=r:=by rw [h];rfl
 refine ⟨by simpa using h1,?_⟩
 rw [←h2];simp
theorem IP (b:AK B) {h h':Heap} (ht:∀ a vs,h.IsTuple a vs→h'.IsTuple a vs) {ds:List D} {vs:List Value} (n:∀ d∈ds,∃ n,noL n d=true):RdL B W h ds vs→RdL B W h' ds vs:=RdL.keep fun d hd zz r=>let ⟨_,q⟩:=n d hd;Rd.noL b ht q r
theorem MF {n:Nat} {ds:List D} {d:D} (h:Ko n ds=true) (hm:d∈ds):∃ m,noL m d=true:=⟨n,List.all_eq_true.mp h d hm⟩
theorem SQ {n:Nat} {k:Int} {x:D} (h:noL n (.tup [.int k,x])=true):∃ m,noL m x=true:=by
 cases n with
 | zero=>exact ffF h
 | succ n=>exact MF h (.tail _ (.head _))
theorem Jl:∀ {es:List D} {n:Nat} {x:D},x∈es→∃ m:Nat,D.tup [.int (m:Int),x]∈pairsOf n es
 | e::r,n,x,h=>by
  rcases List.mem_cons.mp h with rfl | h
  ·exact ⟨n,.head _⟩
  ·obtain ⟨m,hm⟩:=Jl (n:=n + 1) h
   exact ⟨m,.tail _ hm⟩
theorem Sk {d:D} {outs:List (Out Unit×St)} (h:okL d σ=some outs):noL 60 d=true∧Sv 60 σ.rho=true∧outs=[(.ok (),σ)]:=by
 unfold okL at h
 cases q:(noL 60 d&&Sv 60 σ.rho) with
 | false=>rw [q] at h;cases h
 | true=>
  rw [q] at h;cases h
  obtain ⟨a,c⟩:=Bool.and_eq_true_iff.mp q
  exact ⟨a,c,rfl⟩
theorem Uq {h:Heap} {ds:List D} {vs:Array Value} {d:D} {v:Value} (r:RdL B W h ds vs.toList) (x:Rd B W h d v):RdL B W h (ds++[d]) (vs.push v).toList:=by
 rw [Array.toList_push]
 exact r.append (.cons _ _ _ _ x .nil)
section
variable {r:Rec} {sc:LK} {elt target iter:Expr} {ifs:List Expr} {scope:Scope} {pos:Pos} {k:ItK} {Dl:Addr} {xs:List Nm} {W0:Wd} {h0:Heap} {ds:List D}
structure CL (B:Bs) (F:Fv) (W0:Wd) (h0:Heap) (k:ItK) (Dl:Addr) (ds:List D) (i:Nat) (acc:List D) (ys:Array Value) (W:Wd) (σ:St) (s:Shared):Prop where
 G:Good B F W σ s
 at_:k.At i s.heap
 rd:k.Rds B W s.heap ds
 hD:s.heap.PlainList Dl ys
 ra:RdL B W s.heap acc ys.toList
 off:∀ a∈k.ex,Off B F W a
 offD:Off B F W Dl
 si:Eo B F.fr W0 h0 W s.heap
structure CX (B:Bs) (F:Fv) (C:Value) (r:Rec) (sc:LK) (h0:Heap) (k:ItK) (Dl:Addr) (ds:List D) (target:Expr) (xs:List Nm):Prop where
 b:AK B
 S:AX B C r
 hsc:A5 sc F.env
 htg:EN F k.isE target xs
 hown:∀ a∈F.own,h0.get? a=none
 hex:∀ a∈k.ex,h0.get? a=none
 hD0:h0.get? Dl=none
 hDk:Dl∉k.ex
 hsrc:∀ a,k.src=some a→a≠B.S∧a≠Dl
 hds:Ko 60 ds=true
theorem CL.next {i:Nat} {acc:List D} {ys:Array Value} (K:CX B F C r sc h0 k Dl ds target xs) (X:CL B F W0 h0 k Dl ds i acc ys W σ s) (G':Good B F W' σ' s') (st:Step B F W s.heap W' s'.heap):CL B F W0 h0 k Dl ds i acc ys W' σ' s' :=
 ⟨G',X.at_.step K.b X.G st X.off fun a e=>(K.hsrc a e).1,X.rd.step K.b X.G st,X.hD.at fun o e=>X.offD.kept st e,X.G.rdL K.b st X.ra,fun a ha=>(X.off a ha).step (let ⟨o,_,e,_⟩:=X.at_.fields a ha;⟨o,e⟩) st,X.offD.step (let ⟨n,e⟩:=X.hD;⟨_,e⟩) st,X.si.step X.G st rfl K.hown⟩
theorem CL.app {i:Nat} {acc:List D} {ys:Array Value} {d5:D} {v5:Value} {h6:Heap} (K:CX B F C r sc h0 k Dl ds target xs) (X:CL B F W0 h0 k Dl ds i acc ys W σ s) (hn:∀ d∈acc,noL 60 d=true) (n1:noL 60 d5=true) (n2:Sv 60 σ.rho=true) (r5:Rd B W s.heap d5 v5) (hD6:h6.PlainList Dl (ys.push v5)) (hsb:Heap.SameBut Dl s.heap h6) :
  CL B F W0 h0 k Dl ds i (acc++[d5]) (ys.push v5) W σ {s with heap:=h6}:=by
 have k6:AU [Dl] s.heap h6:=fun c o n e=>hsb.extBut c o (by simpa using n) e
 have tup6:∀ a vs,s.heap.IsTuple a vs→h6.IsTuple a vs:=fun a vs x=>x.extBut hsb.extBut fun q=>by
  subst q
  obtain ⟨o,e,c,_⟩:=x
  obtain ⟨n,e2⟩:=X.hD
  rw [e] at e2;cases e2
  exact absurd c (show ¬ (Value.type "list" = Value.type "tuple") by decide)
 have G6:=X.G.alter K.b (t:=s.toks) k6 (fun a ha=>by rw [List.mem_singleton.mp ha];exact X.offD) fun x d v hx rx=>Rd.noL K.b tup6 (Qd n2 hx) rx
 have at6:k.At i h6:=X.at_.kept (fun a o m e=>k6 a o (fun q=>K.hDk (by rw [List.mem_singleton.mp q] at m;exact m)) e) (fun a vs e l=>l.extBut hsb.extBut (K.hsrc a e).2) tup6
 have rd6:k.Rds B W h6 ds:=by
  have hds:=K.hds
  have rd5:=X.rd
  cases k with
  | lst I ax vs=>exact RdL.noL K.b tup6 hds (show RdL B W s.heap ds vs.toList from rd5)
  | tup I ax vs=>exact RdL.noL K.b tup6 hds (show RdL B W s.heap ds vs.toList from rd5)
  | rng I n=>exact rd5
  | enm e it ax vs=>
   obtain ⟨es,e,r⟩:=rd5
   refine ⟨es,e,IP K.b tup6 (fun x hx=>?_) r⟩
   rw [e] at hds
   obtain ⟨m,hm⟩:=Jl (n:=0) hx
   obtain ⟨q,hq⟩:=MF hds hm
   exact SQ hq
 exact ⟨G6,at6,rd6,hD6,Uq (IP K.b tup6 (fun d hd=>⟨60,hn d hd⟩) X.ra) (Rd.noL K.b tup6 n1 r5),X.off,X.offD,X.si.touch k6 (fun a ha=>by rw [List.mem_singleton.mp ha];exact K.hD0)⟩
noncomputable def CR (B:Bs) (C:Value) (F:Fv) (W0:Wd) (h0:Heap) (Dl:Addr) (acc:List D) (outs:List (Out (List D)×St)) (res:Result) (s':Shared):Prop:=match res with
 | .ok _=>∃ out W' σ' ys',(Out.ok out,σ')∈outs∧Good B F W' σ' s'∧Eo B F.fr W0 h0 W' s'.heap∧s'.heap.PlainList Dl ys'∧RdL B W' s'.heap (acc++out) ys'.toList
 | .error e=>∃ σ',(Out.fault,σ')∈outs∧Xd B C F W0 h0 σ' e s'
theorem CR.sub {acc:List D} {o1 o2:List (Out (List D)×St)} (h:∀ p∈o1,p∈o2) {res:Result} (x:CR B C F W0 h0 Dl acc o1 res s):CR B C F W0 h0 Dl acc o2 res s:=by
 cases res with
 | ok f=>obtain ⟨out,W',σ',ys',hin,r⟩:=x;exact ⟨out,W',σ',ys',h _ hin,r⟩
 | error e=>obtain ⟨σ',hin,fc⟩:=x;exact ⟨σ',h _ hin,fc⟩
theorem CR.snoc {acc:List D} {d:D} {l o:List (Out (List D)×St)} (hb:BS (fun r=>(pure (d::r):M (List D))) l=some o) {res:Result} (x:CR B C F W0 h0 Dl (acc++[d]) l res s):CR B C F W0 h0 Dl acc o res s:=by
 cases res with
 | ok f=>
  obtain ⟨out,W',σ',ys',hin,g',si',hd',ra'⟩:=x
  obtain ⟨o8,hf8,hs8⟩:=AZ hb hin
  cases hf8
  refine ⟨d::out,W',σ',ys',hs8 _ (.head _),g',si',hd',?_⟩
  have e:acc++d::out=acc++[d]++out:=by simp
  rw [e];exact ra'
 | error e=>
  obtain ⟨σ',hin,fc⟩:=x
  exact ⟨σ',AQ hb hin,fc⟩
theorem CR.err {acc:List D} {o:List (Out (List D)×St)} {e:Value} {σ':St} (h:(Out.fault,σ')∈o) (f:Xd B C F W0 h0 σ' e s):CR B C F W0 h0 Dl acc o (.error e) s:=by exact ⟨σ',h,f⟩
noncomputable def CGo (B:Bs) (C:Value) (F:Fv) (r:Rec) (sc:LK) (elt target iter:Expr) (ifs:List Expr) (scope:Scope) (pos:Pos) (xs:List Nm) (W0:Wd) (h0:Heap) (k:ItK) (Dl:Addr) (ds l:List D):Prop :=
 ∀ (i:Nat) (acc:List D) (ys:Array Value) (W:Wd) (σ:St) (s:Shared),ds.drop i=l→i≤ds.length→CL B F W0 h0 k Dl ds i acc ys W σ s→(∀ d∈acc,noL 60 d=true)→ys.size + l.length≤2 ^ 20→∀ outs,Hh r (AJ B.G sc elt) xs (AN B.G sc ifs) l σ=some outs→
  codeAny (mdl B) F.A (.compLoop (.ListComp elt [⟨target,iter,ifs,0⟩] scope pos) 0 (.ref k.I) (.ref Dl) F.env) (CR B C F W0 h0 Dl acc outs) s
theorem T9 (K:CX B F C r sc h0 k Dl ds target xs):CGo B C F r sc elt target iter ifs scope pos xs W0 h0 k Dl ds []:=fun i acc ys W σ s hl hil X hn hsz outs ho=>by
 cases ho
 refine codeAny_of_tree ?_
 show wpAny _ F.A ((compTurn (.ListComp elt [⟨target,iter,ifs,0⟩] scope pos) 0 (.ref k.I) (.ref Dl) F.env).onRaise (fun x=>do noteFrame x F.env;theTreesLotGoes x)) _ _ s
 refine wpAny_noted ?_
 rw [compTurn_list]
 have hi:i=k.len:=by
  have:=congrArg List.length hl
  have h2:=X.rd.length
  simp at this
  omega
 subst hi
 refine AA (wpAny_standAt (AA (GU X.G.ok.handled X.at_ fun h' tk kk=>AD ?_)))
 have G':=X.G.alter K.b (t:=tk) kk X.off fun x d v zz rx=>Cj K.b X.at_.fields kk rx
 refine ⟨[],W,σ,ys,.head _,G',X.si.touch kk K.hex,X.hD.at fun o e=>kk _ o K.hDk e,?_⟩
 rw [List.append_nil]
 exact Dc K.b X.at_.fields kk X.ra
theorem RL (K:CX B F C r sc h0 k Dl ds target xs) {d:D} {l:List D} (ih:CGo B C F r sc elt target iter ifs scope pos xs W0 h0 k Dl ds l):CGo B C F r sc elt target iter ifs scope pos xs W0 h0 k Dl ds (d::l):=fun i acc ys W σ s hl hil X hn hsz outs ho=>by
 obtain ⟨hd,hl'⟩:=J1 hl
 have hil':i + 1≤ds.length:=(List.getElem?_eq_some_iff.mp hd).1
 have hsz':ys.size + l.length + 1≤2 ^ 20:=by simp at hsz;omega
 obtain ⟨l1,ho1,hb1⟩:=AS ho
 cases hbnd:LL xs d with
 | none=>rw [hbnd] at ho1;cases ho1
 | some bnd=>
 rw [hbnd] at ho1;cases ho1
 obtain ⟨o1,hf1,hs1⟩:=AZ hb1 (.head _)
 obtain ⟨l2,ho2,hb2⟩:=AS hf1
 refine codeAny_mono (R:=CR B C F W0 h0 Dl acc o1) ?_ fun res s' x=>x.sub hs1
 clear hb1 hf1 ho hl
 refine codeAny_of_tree ?_
 show wpAny _ F.A ((compTurn (.ListComp elt [⟨target,iter,ifs,0⟩] scope pos) 0 (.ref k.I) (.ref Dl) F.env).onRaise (fun x=>do noteFrame x F.env;theTreesLotGoes x)) _ _ s
 refine wpAny_noted ?_
 rw [compTurn_list]
 refine AA (wpAny_standAt (AA (TL K.b X.G.ok.handled K.htg.tgtOk X.at_ hd X.rd fun v h1 t1 k1 go=>AA (go _ fun h2 k2 at2 rv=>?_))))
 have X2:CL B F W0 h0 k Dl ds (i + 1) acc ys W σ {s with heap:=h2,toks:=t1}:=⟨X.G.alter K.b (t:=t1) k2 X.off fun x d v zz rx=>Cj K.b X.at_.fields k2 rx,at2,X.rd.kept K.b X.at_.fields k2,X.hD.at fun o e=>k2 _ o K.hDk e,Dc K.b X.at_.fields k2 X.ra,X.off,X.offD,X.si.touch k2 K.hex⟩
 refine AA (AH (QR (C:=C) K.b K.htg rv hbnd X2.G l2 ho2) (fun zz s3 h=>?_) (fun e s3 h=>?_))
 rotate_left
 ·obtain ⟨σ3,hin,fl⟩:=h
  exact Sq X2.G X2.si K.hown fl fun s4 fc=>CR.err (AQ hb2 hin) fc
 obtain ⟨c3,W3,σ3,hin3,G3,st3,_⟩:=h
 obtain ⟨o3,hf3,hs3⟩:=AZ hb2 hin3
 obtain ⟨l4,ho4,hb4⟩:=AS hf3
 have X3:=X2.next K G3 st3
 refine AA (AH (SS (C:=C) K.b K.S K.hsc ifs W3 σ3 s3 G3 l4 ho4) (fun c s4 h=>?_) (fun e s4 h=>?_))
 rotate_left
 ·obtain ⟨σ4,hin,fl⟩:=h
  exact Sq G3 X3.si K.hown fl fun s5 fc=>CR.err (hs3 _ (AQ hb4 hin)) fc
 obtain ⟨c4,W4,σ4,hin4,G4,st4,hc4⟩:=h
 have hc4':c4=c:=hc4
 subst hc4'
 obtain ⟨o4,hf4,hs4⟩:=AZ hb4 hin4
 have X4:=X3.next K G4 st4
 cases c4 with
 | false=>
  exact AD ⟨rfl,codeAny_mono (ih (i + 1) acc ys W4 σ4 s4 hl' hil' X4 hn (by omega) o4 hf4) fun res s5 h=>h.sub fun p hp=>hs3 _ (hs4 _ hp)⟩
 | true=>
  obtain ⟨l5,ho5,hb5⟩:=AS hf4
  refine AA (AA (AH (K.S.ev F sc elt K.hsc W4 σ4 s4 G4 l5 ho5) (fun v5 s5 h=>?_) (fun e s5 h=>?_)))
  rotate_left
  ·obtain ⟨σ5,hin,fl⟩:=h
   exact Sq G4 X4.si K.hown fl fun s6 fc=>CR.err (hs3 _ (hs4 _ (AQ hb5 hin))) fc
  obtain ⟨d5,W5,σ5,hin5,G5,st5,r5⟩:=h
  obtain ⟨o5,hf5,hs5⟩:=AZ hb5 hin5
  have X5:=X4.next K G5 st5
  obtain ⟨l6,ho6,hb6⟩:=AS hf5
  obtain ⟨n1,n2,rfl⟩:=Sk ho6
  obtain ⟨o6,hf6,hs6⟩:=AZ hb6 (.head _)
  obtain ⟨l7,ho7,hb7⟩:=AS hf6
  refine AA (wpAny_list_append_plain X5.hD (fun h6 hD6 hsb=>AD (AD ⟨rfl,?_⟩)) ?_)
  rotate_left
  ·exact Nat.le_trans (by omega) Ag
  have X6:=X5.app K hn n1 n2 r5 hD6 hsb
  refine codeAny_mono (ih (i + 1) (acc++[d5]) (ys.push v5) W5 σ5 _ hl' hil' X6 (fun d hd=>?_) (by simp;omega) l7 ho7) fun res s7 h=>(h.snoc hb7).sub fun p hp=>hs3 _ (hs4 _ (hs5 _ (hs6 _ hp)))
  rcases List.mem_append.mp hd with hd | hd
  ·exact hn d hd
  ·rw [List.mem_singleton.mp hd];exact n1
theorem Vc (K:CX B F C r sc h0 k Dl ds target xs) (l:List D):CGo B C F r sc elt target iter ifs scope pos xs W0 h0 k Dl ds l:=by
 induction l with
 | nil=>exact T9 K
 | cons d l ih=>exact RL K ih
theorem L5 (b:AK B) (S:AX B C r) (hsc:A5 sc F.env) (htg:EN F k.isE target xs) (hown:∀ a∈F.own,h0.get? a=none) (hex:∀ a∈k.ex,h0.get? a=none) (hD0:h0.get? Dl=none)
  (hDk:Dl∉k.ex) (hsrc:∀ a,k.src=some a→a≠B.S∧a≠Dl) (hds:Ko 60 ds=true) :
  ∀ (l:List D) (i:Nat) (acc:List D) (ys:Array Value) (W:Wd) (σ:St) (s:Shared),ds.drop i=l→i≤ds.length→Good B F W σ s→k.At i s.heap→k.Rds B W s.heap ds→s.heap.PlainList Dl ys→RdL B W s.heap acc ys.toList→
   (∀ d∈acc,noL 60 d=true)→(∀ a∈k.ex,Off B F W a)→Off B F W Dl→Eo B F.fr W0 h0 W s.heap→ys.size + l.length≤2 ^ 20→∀ outs,Hh r (AJ B.G sc elt) xs (AN B.G sc ifs) l σ=some outs→
   codeAny (mdl B) F.A (.compLoop (.ListComp elt [⟨target,iter,ifs,0⟩] scope pos) 0 (.ref k.I) (.ref Dl) F.env) (CR B C F W0 h0 Dl acc outs) s :=
 fun l i acc ys W σ s hl hil G at_ rd hD ra hn off offD si hsz outs ho=>Vc ⟨b,S,hsc,htg,hown,hex,hD0,hDk,hsrc,hds⟩ l i acc ys W σ s hl hil ⟨G,at_,rd,hD,ra,off,offD,si⟩ hn hsz outs ho
end
end
section
open PySem PySem.W
variable {B:Bs} {F F':Fv} {C:Value} {W W':Wd} {σ σ':St} {s s':Shared}
open PyProof.Rows
theorem Step.alter {h h1 h2:Heap} {ex:List Addr} (st:Step B F W h W' h1) (k:AU ex h1 h2) (hex:∀ a∈ex,h.get? a=none):Step B F W h W' h2 :=
 ⟨st.nu,st.pins,st.fresh,fun c o e n1 n2=>by
  obtain ⟨a1,sl,a2⟩:=st.keep c o e n1 n2
  have n:c∉ex:=fun m=>by rw [hex c m] at e;cases e
  exact ⟨fun f=>k c o n (a1 f),sl,k c _ n a2⟩⟩
theorem OA {base h h':Heap} {l:List Env} {e:Addr} {cls a0:Value} {L:Addr} {c:Addr} (x:Heap.HeldW base l e cls a0 L h) (k:AU [c] h h') (hb:base.get? c=none) (hc:∃ o,h.get? c=some o∧∀ vs,o.data≠.fields vs) (hfr:c∉l.filterMap (·.frame)) :
  Heap.HeldW base l e cls a0 L h':=by
 obtain ⟨f1,f2,f3,oe,vs,T,oT,ts,he,hcls,hd,h1,hnT,hTe,hT,hdT,h3⟩:=x
 obtain ⟨oc,hoc,hnf⟩:=hc
 have ne:∀ a o vs,h.get? a=some o→o.data=.fields vs→a∉[c]:=fun a o vs ha hd m=>by
  rw [List.mem_singleton.mp m,hoc] at ha;cases ha;exact hnf vs hd
 refine ⟨fun a o ha=>k a o (fun m=>by rw [List.mem_singleton.mp m,hb] at ha;cases ha) (f1 a o ha),f2,?_,oe,vs,T,oT,ts,k e oe (ne e oe vs he hd) he,hcls,hd,h1,hnT,hTe,k T oT (ne T oT ts hT hdT) hT,hdT,h3⟩
 clear he hcls hd h1 hTe hT hdT h3
 induction l with
 | nil=>trivial
 | cons env rest ih=>
  obtain ⟨hk,⟨L',o,hf,hn,hL,hd⟩,hr⟩:=f3
  refine ⟨hk,⟨L',o,hf,hn,k L' o (fun m=>hfr (List.mem_filterMap.mpr ⟨env,.head _,by rw [hf,List.mem_singleton.mp m]⟩)) hL,hd⟩,ih (fun m=>hfr ?_) hr⟩
  obtain ⟨e',he',q⟩:=List.mem_filterMap.mp m
  exact List.mem_filterMap.mpr ⟨e',.tail _ he',q⟩
section
variable {r:Rec} {sc:LK} {elt target iter:Expr} {ifs:List Expr} {scope:Scope} {pos:Pos} {xs:List Nm}
structure Made (B:Bs) (F:Fv) (W:Wd) (h:Heap) (outs:List (Out D×St)) (cenv:Env) (acc:Value) (W':Wd) (σ':St) (s':Shared):Prop where
 out:∃ ds,(Out.ok (.lst ds),σ')∈outs∧Rd B W' s'.heap (.lst ds) acc
 good:Good B F W' σ' s'
 step:Step B F W h W' s'.heap
 ns:∃ m,s'.heap.Ns cenv.locals m
 off:Off B F W' cenv.locals
 new:h.get? cenv.locals=none
theorem J2 (b:AK B) (S:AX B C r) (hsc:A5 sc F.env) (hs:Cn sc scope=true) (htg:∀ c,EN (C5 F scope (Cr F.env scope.names []) c) (Cd (Aw B.G sc iter)) target xs) (G:Good B F W σ s)
  {outs:List (Out D×St)}
  (ho:(Ee r (Aw B.G sc iter)>>=fun l=>match small l&&Ko 60 l with
   | true=>fun s=>(under (HR (CP scope.names) s.rho) (Hh r (AJ B.G scope.names elt) xs (AN B.G scope.names ifs) l>>=fun ds=>pure (.lst ds)):M D) s
   | false=>bad:M D) σ=some outs)
  {use:Option (Value→Sem Unit)} {Q:VP} {E:VP}
  (hok:∀ cenv acc W' σ' s' f,Made B F W s.heap outs cenv acc W' σ' s'→UY (mdl B) F.A E use Q acc cenv (.ok f) s')
  (hE:∀ e s' σ',(Out.fault,σ')∈outs→Fly B C F W s.heap σ' e s'→E e s') :
  wpAny (mdl B) F.A (comprehension (.ListComp elt [⟨target,iter,ifs,0⟩] scope pos) scope F.env iter.pos (newList []) false (eval iter F.env) use) Q E s:=by
 obtain ⟨h1,h2⟩:=Bool.and_eq_true_iff.mp hs
 have sp:=D9 h2
 obtain ⟨l1,ho1,hb1⟩:=AS ho
 have hfold:∀ x,foldedSetIterable iter F.env x=pure x:=by
  rcases Jx (G:=B.G) (sc:=sc) (iter:=iter) (env:=F.env) with h | h
  ·exact h
  ·rw [JE h,Ik S.bad] at ho1;cases ho1
 have hcl:closureFor scope F.env=pure (Cr F.env scope.names []):=OT fun p hp hf=>(hsc.cel p.1 ((sp p hp).2.1 hf)).2
 refine Rj (g:=⟨target,iter,ifs,0⟩) (gs:=[]) rfl hfold hcl (MV h1) (fun p hp=>(sp p hp).1) (fun p hp hl=>by rw [(sp p hp).2.2,hl]) ?_
 refine MT b S hsc G ho1 (fun ds itv W1 σ1 sa h1' tk hin Ga sta hka ir=>?_) (fun e s' σ' hin fl=>hE e s' σ' (AQ hb1 hin) fl)
 obtain ⟨k,rfl,at_,rd,off,hfresh,hsrc,hkE⟩:=ir
 obtain ⟨o2,hf2,hs2⟩:=AZ hb1 hin
 cases hsm:(small ds&&Ko 60 ds) with
 | false=>rw [hsm] at hf2;cases hf2
 | true=>
 rw [hsm] at hf2
 obtain ⟨hsmall,hnl⟩:=Bool.and_eq_true_iff.mp hsm
 obtain ⟨l3,ho3,rfl⟩:=Fi (show (under _ _) σ1=some o2 from hf2)
 obtain ⟨l4,ho4,hb4⟩:=AS ho3
 refine wpAny_newList ?_ (by simp)
 intro h4 hns hsb
 have szD:(h1'.push {cls:=.type "list",data:=.seq ([]:List Value).toArray}).objs.size=h1'.objs.size + 1:=Heap.size_push ..
 have k4:∀ c o,h1'.get? c=some o→h4.get? c=some o:=fun c o e=>by
  have hlt:=Heap.lt_size e
  refine hsb.extBut c o (fun q=>?_) (AE _ (AE _ e))
  rw [q] at hlt
  exact absurd (Nat.lt_trans (Nat.lt_succ_self _) (szD▸hlt)) (Nat.lt_irrefl _)
 have ka4:∀ c o,sa.heap.get? c=some o→h4.get? c=some o:=fun c o e=>k4 c o (hka c o e)
 have none1:∀ a,h1'.objs.size≤a→sa.heap.get? a=none:=fun a ha=>by
  cases e:sa.heap.get? a with
  | none=>rfl
  | some o=>exact absurd (Heap.lt_size (hka _ _ e)) (Nat.not_lt.mpr ha)
 have G1:=(Ga.grow b (t:=tk) hka).1
 have hCnone:sa.heap.get? (h1'.push {cls:=.type "list",data:=.seq ([]:List Value).toArray}).objs.size=none:=none1 _ (by rw [szD];exact Nat.le_succ _)
 have hDnone:sa.heap.get? h1'.objs.size=none:=none1 _ (Nat.le_refl _)
 have ne:h1'.objs.size≠(h1'.push {cls:=.type "list",data:=.seq ([]:List Value).toArray}).objs.size:=by rw [szD];exact Nat.ne_of_lt (Nat.lt_succ_self _)
 have hD4:h4.PlainList h1'.objs.size #[]:=⟨_,hsb.extBut _ _ ne (AE _ (Heap.get?_push_size _ rfl))⟩
 have Gc:=Q5 (t:=tk) b Ga hsc hs ka4 hCnone hns
 let F':=C5 F scope (Cr F.env scope.names []) (h1'.push {cls:=.type "list",data:=.seq ([]:List Value).toArray}).objs.size
 have hcl':∀ x c,(Cr F.env scope.names []).lookup x=some c→F.env.cells.lookup x=some c:=fun x c e=>By e
 have exlt:∀ a∈k.ex,a < h1'.objs.size:=fun a ha=>by obtain ⟨o,_,e,_⟩:=at_.fields a ha;exact Heap.lt_size e
 have off':∀ a∈k.ex,Off B F' W1 a:=fun a ha=>(off a ha).comp (fun q=>by have:=exlt a ha;rw [q,szD] at this;exact absurd (Nat.lt_trans (Nat.lt_succ_self _) this) (Nat.lt_irrefl _)) hcl'
 have offD:Off B F' W1 h1'.objs.size:=(Off.fresh Ga hDnone).comp ne hcl'
 have offC:Off B F W1 (h1'.push {cls:=.type "list",data:=.seq ([]:List Value).toArray}).objs.size:=Off.fresh Ga hCnone
 have at4:k.At 0 h4:=at_.kept (fun a o zz e=>k4 a o e) (fun a vs zz l=>l.at fun o e=>k4 a o e) (fun a vs t=>t.at fun o e=>k4 a o e)
 have rd4:k.Rds B W1 h4 ds:=by
  have st14:Step B F W1 h1' W1 h4:=(G1.grow b (t:=0) k4).2
  exact rd.step b (s:={sa with heap:=h1',toks:=tk}) G1 st14
 have si4:Eo B F'.fr W1 sa.heap W1 h4:=⟨List.prefix_refl _,fun zz h=>h,fun zz h=>h,fun c o e zz zz=>⟨fun zz=>ka4 c o e,o.slots,ka4 c o e⟩⟩
 have hown:∀ a∈F'.own,sa.heap.get? a=none:=fun a ha=>by
  have:a=(h1'.push {cls:=.type "list",data:=.seq ([]:List Value).toArray}).objs.size:=List.mem_singleton.mp ha
  rw [this];exact hCnone
 have tg:EN F' k.isE target xs:=hkE▸htg _
 have hsrc':∀ a,k.src=some a→a≠B.S∧a≠h1'.objs.size:=fun a e=>⟨hsrc a e,by
  cases k with
  | lst I ax vs=>cases e;obtain ⟨_,⟨o,e,_⟩,_⟩:=at_;exact Nat.ne_of_lt (Heap.lt_size e)
  | _=>cases e⟩
 have hlen:ds.length≤100:=AF hsmall
 have loop:=L5 (C:=C) (F:=F') (pos:=pos) (elt:=elt) (iter:=iter) (ifs:=ifs) (scope:=scope) b S (Gw hsc hs) tg hown (hfresh) hDnone (fun m=>Nat.lt_irrefl _ (exlt _ m)) hsrc' hnl ds 0 [] #[] W1 _ _ rfl (Nat.zero_le _) Gc at4 rd4 hD4 RdL.nil
  (fun d hd=>by cases hd) off' offD si4 (by simp;omega) l4 ho4
 have fin:codeAny (mdl B) F.A (.compLoop (.ListComp elt [⟨target,iter,ifs,0⟩] scope pos) 0 (.ref k.I) (.ref h1'.objs.size) F'.env) (UY (mdl B) F.A E use Q (.ref h1'.objs.size) F'.env) {sa with heap:=h4,toks:=tk}:=by
  refine codeAny_mono loop fun res s5 hr=>?_
  cases res with
  | ok f=>
   obtain ⟨out,W5,σ5,ys,hin5,G5,si5,hD5,ra5⟩:=hr
   obtain ⟨Gb,stb⟩:=Iw b Ga G5 rfl si5.keep si5.nu si5.pins si5.fresh G5.frames G5.dep G5.depth G5.units
   obtain ⟨o8,hf8,hs8⟩:=AZ hb4 hin5
   cases hf8
   refine hok F'.env _ W5 {σ5 with rho:=σ1.rho,dep:=σ5.dep} s5 f ⟨⟨out,hs2 _ (CH (hs8 _ (.head _))),.lst _ ys out (fun q=>offD.S q) hD5.isList (by simpa using ra5)⟩,Gb,sta.trans B Ga stb,G5.ns,?_,sta.back Ga hCnone⟩
   refine ⟨offC.own,offC.fr,offC.S,offC.h0,offC.base,fun p hp q=>?_,offC.cells,offC.loc⟩
   exact (G5.pins p hp).2.1 (by rw [q];exact .head _)
  | error e=>
   obtain ⟨σ5,hin5,fc⟩:=hr
   obtain ⟨a,a0,L,rfl,hL,hh⟩:=fc.exc
   obtain ⟨m,hn5⟩:=fc.ns
   refine ⟨m,hn5,fun h6 hsb6=>?_⟩
   have hC:∃ o,s5.heap.get? F'.env.locals=some o∧∀ vs,o.data≠.fields vs:=by obtain ⟨o,e,_,nf⟩:=BF hn5;exact ⟨o,e,nf⟩
   have hh6:=OA hh (h':=h6) (fun c o n e=>hsb6.extBut c o (fun q=>n (by rw [q];exact .head _)) e) offC.base hC offC.fr
   unfold PySem.passOn
   obtain ⟨oe,vs,T,he,hd,h1v⟩:=VQ hh6
   refine AA (wpAny_field he hd h1v ?_)
   rw [if_neg (show ¬ ((Value.ref T == Value.none)=true) from by simp)]
   have fr:F'.env.frame=some L:=hL
   have main:wpAny (mdl B) F.A (do setFlight (.ref a) F'.env.frame;throw (.ref a):Sem Value) Q E {s5 with heap:=h6}:=by
    rw [fr]
    refine AA (Uc (cls:=C) (base:=F.base) (l:=F.stack) (.inr (.inr ⟨a0,L,rfl,hh6⟩)) (fun oe' vs' he' hd' q=>?_) fun h7 a1 hh7 up7=>wpAny_throw ?_)
    ·have z:some oe'=some oe:=he'.symm.trans he
     cases z
     rw [hd] at hd';cases hd'
     rw [h1v] at q;cases q
    ·obtain ⟨nu,q1,q2⟩:=fc.picks
     have up:LU [] B.S sa.heap h7:=fun c o e n1 n2 nf=>by
      obtain ⟨sl,e2⟩:=fc.up c o e n1 n2 nf
      have n3:c≠F'.env.locals:=fun q=>by
       have:=hown c (by rw [q];exact .head _)
       rw [this] at e;cases e
      have e3:h6.get? c=_:=hsb6.extBut c _ n3 e2
      obtain ⟨sl2,e4⟩:=up7 c _ e3 nf
      exact ⟨sl2,e4⟩
     refine hE _ _ {σ5 with rho:=σ1.rho} (hs2 _ (CH (AQ hb4 hin5))) (Fly.of_step (s₁:=sa) (Fly.back (s':={s5 with heap:=h7}) Ga (.inr (.inr ⟨a1,L,hL,hh7⟩)) ⟨nu,q1,⟨q2.len,q2.cand,q2.cmps⟩⟩ fc.rest up) sta)
   first
    | exact main
    | exact AA (AD main)
 exact codeAny_compStart_list fin (TJ Gc.ok.handled at4 fin)
end
end
section
open PySem PySem.W
variable {B:Bs} {F F':Fv} {C:Value} {W W':Wd} {σ σ':St} {s s':Shared}
open PyProof.Rows
section
variable {r:Rec} {sc:LK}
theorem VD (S:AX B C r) (hsc:A5 sc F.env) {t a e:Expr} {pos:Pos} :
  OkE B C F (.IfExp t a e pos) (do match←r.tst (AJ B.G sc t) with | true=>r.ev (AJ B.G sc a) | false=>r.ev (AJ B.G sc e)):=fun W σ s=>by
 rw [eval_IfExp]
 refine Ok.bind (S.tst F sc t hsc W σ s) fun c c' W1 σ1 s1 G st hc=>?_
 have hc':c=c':=hc
 subst hc'
 cases c with
 | true=>exact S.ev F sc a hsc W1 σ1 s1
 | false=>exact S.ev F sc e hsc W1 σ1 s1
theorem U5 (S:AX B C r) (hsc:A5 sc F.env) {t a e:Expr} {pos:Pos} :
  OkT B C F (.IfExp t a e pos) (do match←r.tst (AJ B.G sc t) with | true=>r.tst (AJ B.G sc a) | false=>r.tst (AJ B.G sc e)):=fun W σ s=>by
 rw [arm_isTrue_IfExp]
 refine Ok.bind (S.tst F sc t hsc W σ s) fun c c' W1 σ1 s1 G st hc=>?_
 have hc':c=c':=hc
 subst hc'
 cases c with
 | true=>exact S.tst F sc a hsc W1 σ1 s1
 | false=>exact S.tst F sc e hsc W1 σ1 s1
theorem VC (S:AX B C r) (hsc:A5 sc F.env) {x:Expr} {pos:Pos}:OkE B C F (.UnaryOp .Not x pos) (do let b←Bn (←r.ev (AJ B.G sc x));pure (.boo (!b))):=fun W σ s=>by
 show Ok B C F W σ s (eval x F.env>>=fun v=>standAt pos>>=fun zz=>PySem.holding [v] (unaryOp .Not v)) (r.ev (AJ B.G sc x)>>=fun d=>Bn d>>=fun b=>pure (D.boo (!b))) _
 refine Ok.bind (S.ev F sc x hsc W σ s) fun d v W1 σ1 s1 G st hr=>Ok.at (Ok.holding ?_)
 refine Ok.ofGh (P:=fun d=>∃ c,v=.bool c∧d=D.boo (!c)) (Gh.bind (Dk hr) fun c σ' hv=>Gh.pure ⟨c,hv,rfl⟩) fun d σ' G' hd=>?_
 obtain ⟨c,rfl,rfl⟩:=hd
 exact ⟨.bool (!c),.boo _,fun Q E h=>not_of (wpAny_truthy_bool h)⟩
theorem U4 (S:AX B C r) (hsc:A5 sc F.env) {x:Expr} {pos:Pos}:OkT B C F (.UnaryOp .Not x pos) (do let b←r.tst (AJ B.G sc x);pure (!b)):=fun W σ s=>by
 rw [arm_isTrue_UnaryOp]
 show Ok B C F W σ s (isTrue x F.env (eval x F.env)>>=fun b=>pure (!b)) _ _
 refine Ok.bind (S.tst F sc x hsc W σ s) fun c c' W1 σ1 s1 G st hc=>Ok.pure fun zz=>?_
 rw [show c=c' from hc]
theorem Kn (b:AK B) (S:AX B C r) (hsc:A5 sc F.env) {l e:Expr} {op:Bo} {pos:Pos} :
  OkE B C F (.BinOp l (Mt op) e pos) (do let x←r.ev (AJ B.G sc l);let y←r.ev (AJ B.G sc e);Fe (Vk op) x y):=fun W σ s=>by
 show Ok B C F W σ s (eval l F.env>>=fun a=>PySem.holding [a] (eval e F.env)>>=fun c=>standAt pos>>=fun zz=>PySem.operate [a,c] (binaryOp (Mt op) a c)) _ _
 refine Ok.bind (S.ev F sc l hsc W σ s) fun x v W1 σ1 s1 G st rx=>?_
 refine Ok.bind (Ok.holding (S.ev F sc e hsc W1 σ1 s1)) fun y u W2 σ2 s2 G1 st1 ry=>Ok.at (Ok.operate ?_)
 exact SZ b (G1.rd b st1 rx) ry
theorem PA (b:AK B) (S:AX B C r) (hsc:A5 sc F.env) {op:BoolOp} {es:List Expr} {pos:Pos}:OkE B C F (.BoolOp op es pos) (do let c←PX r (op == .And) (AN B.G sc es);pure (.boo c)):=fun W σ s=>
 Ok.mapL (g:=D.boo) ((IY b S hsc es W σ s).mono fun W h c v hv=>by
  have:v=.bool c:=hv
  subst this;exact .boo c)
theorem O8 (b:AK B) (S:AX B C r) (hsc:A5 sc F.env) {op:BoolOp} {es:List Expr} {pos:Pos}:OkT B C F (.BoolOp op es pos) (LM r (op == .And) (AN B.G sc es)):=fun W σ s=>by
 rw [arm_isTrue_BoolOp]
 exact Ni b S hsc es W σ s
theorem VB (b:AK B) (S:AX B C r) (hsc:A5 sc F.env) {value:Expr} {le ue:Option Expr} {p pos:Pos} {l u:Option Nat} (hl:GO le=some l) (hu:GO ue=some u) :
  OkE B C F (.Subscript value (.Slice le ue none p) pos) (do let x←r.ev (AJ B.G sc value);Bl (KY l u) x):=fun W σ s=>by
 show Ok B C F W σ s (eval value F.env>>=fun o=>PySem.holding [o] (eval (.Slice le ue none p) F.env)>>=fun i=>standAt pos>>=fun zz=>subscriptTail value (.Slice le ue none p) o i) _ _
 exact Ok.bind (S.ev F sc value hsc W σ s) fun x v W1 σ1 s1 G st rx=>SX b hl hu rx
theorem So (b:AK B) (S:AX B C r) (hsc:A5 sc F.env) {elt target iter:Expr} {ifs:List Expr} {scope:Scope} {pos:Pos} {xs:List Nm} (hs:Cn sc scope=true)
  (htg:∀ c,EN (C5 F scope (Cr F.env scope.names []) c) (Cd (Aw B.G sc iter)) target xs) :
  OkE B C F (.ListComp elt [⟨target,iter,ifs,0⟩] scope pos) (Ee r (Aw B.G sc iter)>>=fun l=>match small l&&Ko 60 l with
   | true=>fun s=>(under (HR (CP scope.names) s.rho) (Hh r (AJ B.G scope.names elt) xs (AN B.G scope.names ifs) l>>=fun ds=>pure (.lst ds)):M D) s
   | false=>bad):=fun W σ s G outs ho=>by
 show wpAny _ _ (comprehension (.ListComp elt [⟨target,iter,ifs,0⟩] scope pos) scope F.env iter.pos (newList []) false (eval iter F.env)) _ _ s
 refine J2 b S hsc hs htg G ho (fun cenv acc W' σ' s' f m=>?_) fun e s' σ' hin fl=>⟨σ',hin,fl⟩
 obtain ⟨ds,hin,rd⟩:=m.out
 obtain ⟨mm,hn⟩:=m.ns
 refine ⟨mm,hn,fun h' hsb=>?_⟩
 have kk:AU [cenv.locals] s'.heap h':=fun c o n e=>hsb.extBut c o (fun q=>n (by rw [q];exact .head _)) e
 have hf:∀ a∈[cenv.locals],∃ o,s'.heap.get? a=some o∧∀ vs n,o.data≠.seq vs n:=fun a ha=>by
  rw [List.mem_singleton.mp ha]
  obtain ⟨o,e,n1,_⟩:=BF hn
  exact ⟨o,e,n1⟩
 refine ⟨.lst ds,W',σ',hin,m.good.alter b (t:=s'.toks) kk (fun a ha=>by rw [List.mem_singleton.mp ha];exact m.off) (fun x d v zz rx=>GK b hf kk rx),m.step.alter kk (fun a ha=>by rw [List.mem_singleton.mp ha];exact m.new),GK b hf kk rd⟩
end
end
section
open PySem PySem.W
variable {B:Bs} {F F':Fv} {C:Value} {W W':Wd} {σ σ':St} {s s':Shared}
open PyProof.Rows
noncomputable def JK (B:Bs) (dics:Nat→List (Nm×D)):Prop :=
 ∀ k x d,Ay (nm x) (dics k)=some d→∃ f,B.h0.MapOf (PySem.strKind P B.w) (B.dicA k) f∧∃ v,f x=some v∧∀ W h,B.h0.StaysIn h→Rd B W h d v
theorem Qh {K:Type} [DecidableEq K] {knd:PySem.KeyKind P B.w K} {h h':Heap} {a:Addr} {f:K→Option Value} (m:h.MapOf knd a f) (k:∀ b o,h.get? b=some o→h'.get? b=some o):h'.MapOf knd a f :=
 let ⟨o,es,ep,ho,r⟩:=m;⟨o,es,ep,k _ _ ho,r⟩
theorem Kj (b:AK B) {T:Tab} (hd:JK B T.dics) {value slice:Expr} {x y:D} {o i:Value} (rx:Rd B W s.heap x o) (ry:Rd B W s.heap y i) :
  Ok B C F W σ s (subscriptTail value slice o i) (Ew T x y) (RdV B):=by
 unfold Ew
 cases q:T5 x with
 | none=>exact Uz b rx ry
 | some n=>
  have eo:o=_:=(T2 q▸rx).inv
  rw [eo]
  refine Ok.ghost (m:=BN 6 y) (A7 6 y σ ry) fun y' σ' hy=>?_
  cases hs:strOf y' with
  | none=>exact Ok.bad
  | some l=>
   obtain ⟨z,t,ei,hz⟩:=(BY hs▸hy.1).str_inv
   rw [ei,←hz]
   refine Ok.opt fun d hdd G=>?_
   obtain ⟨f,hm,v,hv,rv⟩:=hd n z d hdd
   have hm':=Qh hm G.stay0
   exact Ok.val b (s.toks + 1) (v:=v) (fun Q E h=>DJ hm'.typeIs slot_dict_getitem.lookup (wpAny_getItem_of (key:=.str z t) (by show Value.isStrOf z (.str z t)=true;simp [Value.isStrOf]) hm' hv h)) (rv W _ G.stay0) G
section
variable {r:Rec} {sc:LK}
theorem VA (b:AK B) {T:Tab} (hd:JK B T.dics) (S:AX B C r) (hsc:A5 sc F.env) {value slice:Expr} {pos:Pos} :
  OkE B C F (.Subscript value slice pos) (do let x←r.ev (AJ B.G sc value);let y←r.ev (AJ B.G sc slice);Ew T x y):=fun W σ s=>by
 show Ok B C F W σ s (eval value F.env>>=fun o=>PySem.holding [o] (eval slice F.env)>>=fun i=>standAt pos>>=fun zz=>subscriptTail value slice o i) _ _
 refine Ok.bind (S.ev F sc value hsc W σ s) fun x v W1 σ1 s1 G st rx=>?_
 refine Ok.bind (Ok.holding (S.ev F sc slice hsc W1 σ1 s1)) fun y u W2 σ2 s2 G1 st1 ry=>Ok.at ?_
 exact Kj b hd (G1.rd b st1 rx) ry
end
noncomputable def KV:List (Nm×Nm)→List (Str×Value)→Prop
 | [],[]=>True
 | (k,v)::l,(x,u)::kvs=>nm x=k∧(∃ y t,u=.str y t∧nm y=v)∧KV l kvs
 | _,_=>False
inductive SP:List (Option Expr)→List Expr→List (Nm×Nm)→Prop
 | nil:SP [] [] []
 | cons {x y:Str} {k p k2 p2 ks vs l}:SP ks vs l→SP (some (.Constant (.str x) k p)::ks) (.Constant (.str y) k2 p2::vs) ((nm x,nm y)::l)
theorem ET:∀ {ks:List (Option Expr)} {vs:List Expr} {l:List (Nm×Nm)},strPairs ks vs=some l→SP ks vs l
 | [],[],l,h=>by rw [←AB h];exact .nil
 | [],_::_,l,h=>nsF h
 | none::ks,[],l,h=>nsF h
 | none::ks,_::_,l,h=>nsF h
 | some k::ks,[],l,h=>nsF h
 | some k::ks,v::vs,l,h=>by
  change (match DK k,DK v with | some x,some y=>(strPairs ks vs).map ((nm x,nm y)::·) | _,_=>none)=some l at h
  cases hk:DK k with
  | none=>rw [hk] at h;cases h
  | some x=>
  cases hv:DK v with
  | none=>rw [hk,hv] at h;cases h
  | some y=>
  rw [hk,hv] at h
  obtain ⟨k1,p1,e1⟩:=DW hk
  obtain ⟨k2,p2,e2⟩:=DW hv
  obtain ⟨l',h1,h2⟩:=Option.map_eq_some_iff.mp h
  rw [e1,e2,←h2];exact .cons (ET h1)
theorem OQ {env:Env} {A:Around} {pos:Pos} {E:VP} {ks:List (Option Expr)} {vs:List Expr} {l:List (Nm×Nm)} (h:strPairs ks vs=some l):∀ (s:Shared) (Q:List (Value×Value)→Shared→Prop),(∀ ps kvs tk,Carries (PySem.strKind P B.w) ps kvs→KV l kvs→ps.length=l.length→Q ps {s with toks:=tk})→wpAny (mdl B) A (evalPairs (pairTrees ks vs env pos)) Q E s:=by
 replace h:=ET h
 induction h with
 | nil=>exact fun s Q hQ=>pairTrees_nil_walk (hQ [] [] s.toks trivial trivial rfl)
 | cons _ ih=>
  exact fun s Q hQ=>pairTrees_cons_walk (Calls.Constant_str (Calls.Constant_str (ih _ _ fun ps kvs tk hc hkv hl=>
   hQ ((.str _ _,.str _ _)::ps) ((_,.str _ _)::kvs) tk ⟨strKind_is _ _ _ _,rfl,hc⟩ ⟨rfl,⟨_,_,rfl,rfl⟩,hkv⟩ (congrArg (· + 1) hl))))
theorem Cc {kvs:List (Str×Value)} {k x:Str} {v:Value}:valueAt (stored kvs k v) x=if x=k then some v else valueAt kvs x:=by
 unfold valueAt stored
 by_cases hany:(kvs.any fun kv=>kv.1=k)=true
 ·rw [if_pos hany]
  induction kvs with
  | nil=>simp at hany
  | cons p r ih=>
   obtain ⟨a,u⟩:=p
   simp only [List.map_cons]
   by_cases e:a=k
   ·subst e
    simp only [if_true,List.find?_cons]
    by_cases e2:a=x
    ·subst e2;simp
    ·have e3:¬ x=a:=fun q=>e2 q.symm
     simp only [e2,decide_false,if_neg e3]
     clear ih hany
     induction r with
     | nil=>rfl
     | cons q r ih2=>
      obtain ⟨c,w⟩:=q
      simp only [List.map_cons]
      by_cases f1:c=a
      ·subst f1;simp only [if_true,List.find?_cons,e2,decide_false];exact ih2
      ·simp only [if_neg f1,List.find?_cons]
       by_cases f2:c=x
       ·subst f2;simp
       ·simp only [f2,decide_false];exact ih2
   ·simp only [if_neg e,List.find?_cons]
    have hany':(r.any fun kv=>kv.1=k)=true:=by simpa [e] using hany
    by_cases f2:a=x
    ·subst f2;simp [e]
    ·simp only [f2,decide_false]
     exact ih hany'
 ·rw [if_neg hany]
  rw [List.find?_append]
  by_cases e:x=k
  ·subst e
   have:(kvs.find? fun kv=>decide (kv.1=x))=none:=by
    rw [List.find?_eq_none]
    intro p hp q
    exact hany (List.any_eq_true.mpr ⟨p,hp,q⟩)
   rw [this];simp
  ·have e':¬ k=x:=fun q=>e q.symm
   simp [e,e']
theorem MK {x:Str}:∀ {l:List (Nm×Nm)} {kvs:List (Str×Value)} {acc:List (Str×Value)} {v:Nm},KV l kvs→Ed (nm x) l=some v→∃ y t,valueAt (merged acc kvs) x=some (.str y t)∧nm y=v:=by
 have gone:∀ {l:List (Nm×Nm)} {kvs:List (Str×Value)} {acc:List (Str×Value)},KV l kvs→Ed (nm x) l=none→valueAt (merged acc kvs) x=valueAt acc x:=by
  intro l
  induction l with
  | nil=>intro kvs acc h _;cases kvs with | nil=>rfl | cons p r=>exact h.elim
  | cons q l ih=>
   intro kvs acc h hl
   cases kvs with
   | nil=>exact h.elim
   | cons p r=>
    obtain ⟨k,w⟩:=q
    obtain ⟨z,u⟩:=p
    obtain ⟨h1,h2,h3⟩:=h
    unfold Ed at hl
    cases q:Ed (nm x) l with
    | some v'=>rw [q] at hl;cases hl
    | none=>
     rw [q] at hl
     have e:valueAt (merged acc ((z,u)::r)) x=valueAt (merged (stored acc z u) r) x:=rfl
     rw [e,ih h3 q,Cc,if_neg]
     intro e;subst e
     rw [←h1] at hl
     simp only [AW.mpr rfl] at hl
     cases hl
 intro l
 induction l with
 | nil=>intro kvs acc v h hl;cases hl
 | cons q l ih=>
  intro kvs acc v h hl
  cases kvs with
  | nil=>exact h.elim
  | cons p r=>
   obtain ⟨k,w⟩:=q
   obtain ⟨z,u⟩:=p
   obtain ⟨h1,h2,h3⟩:=h
   have e:valueAt (merged acc ((z,u)::r)) x=valueAt (merged (stored acc z u) r) x:=rfl
   rw [e]
   unfold Ed at hl
   cases q:Ed (nm x) l with
   | some v'=>
    rw [q] at hl;cases hl
    exact ih h3 q
   | none=>
    rw [q] at hl
    cases c:Ap (nm x) k with
    | false=>rw [c] at hl;cases hl
    | true=>
     rw [c] at hl;cases hl
     rw [gone h3 q,Cc]
     have:x=z:=Aj ((AW.mp c).trans h1.symm)
     rw [if_pos this]
     obtain ⟨y,t,rfl,hy⟩:=h2
     exact ⟨y,t,rfl,hy⟩
theorem ID {ks:List (Option Expr)} {vs:List Expr} {l:List (Nm×Nm)} (h:strPairs ks vs=some l):ks.all (·.isSome)=true∧ks.length=vs.length∧ks.length=l.length:=by
 replace h:=ET h
 induction h with
 | nil=>exact ⟨rfl,rfl,rfl⟩
 | cons _ ih=>exact ⟨ih.1,congrArg (· + 1) ih.2.1,congrArg (· + 1) ih.2.2⟩
section
variable {r:Rec} {sc:LK}
theorem Sn (b:AK B) (S:AX B C r) (hsc:A5 sc F.env) {ks:List (Option Expr)} {vs:List Expr} {dpos pos:Pos} {slice:Expr} {l:List (Nm×Nm)} (hl:strPairs ks vs=some l) :
  OkE B C F (.Subscript (.Dict ks vs dpos) slice pos) (match Nat.ble 1 l.length&&Nat.ble l.length 15 with
   | true=>do
    let d←r.ev (AJ B.G sc slice)
    let d←BN 6 d
    match strOf d with
    | some s=>(match Ed s l with | some v=>pure (.str v) | none=>bad)
    | none=>bad
   | false=>bad):=fun W σ s=>by
 cases hlen:(Nat.ble 1 l.length&&Nat.ble l.length 15) with
 | false=>exact Ok.bad
 | true=>
  obtain ⟨q1,q2⟩:=Bool.and_eq_true_iff.mp hlen
  have q1:=AF q1
  have q2:=AF q2
  obtain ⟨z1,z2,z3⟩:=ID hl
  intro G outs ho
  show wpAny _ _ (eval (.Dict ks vs dpos) F.env>>=fun o=>PySem.holding [o] (eval slice F.env)>>=fun i=>standAt pos>>=fun zz=>subscriptTail (.Dict ks vs dpos) slice o i) _ _ s
  refine AA (wpAny_Dict_walk (knd:=PySem.strKind P B.w) z1 z2 (fun e=>by subst e;simp at z3;omega) (by omega) ?_)
  refine OQ hl _ _ fun ps kvs tk hc hkv hps=>⟨kvs,hc,?_,fun h' hd' hsb=>?_⟩
  ·exact Heap.dictOf_iff.mpr ⟨_,Heap.get?_push_size _ rfl,#[],0,⟨rfl,rfl,rfl⟩,rfl,(fun e he=>by simp at he),.nil,List.nodup_nil⟩
  have kk:∀ c o,s.heap.get? c=some o→h'.get? c=some o:=fun c o e=>hsb.extBut c o (Nat.ne_of_lt (Heap.lt_size e)) (AE _ e)
  obtain ⟨G1,st1⟩:=G.grow b (t:=tk + ps.length) kk
  have rest:Ok B C F W σ {s with heap:=h',toks:=tk + ps.length} (PySem.holding [.ref s.heap.objs.size] (eval slice F.env)>>=fun i=>standAt pos>>=fun zz=>subscriptTail (.Dict ks vs dpos) slice (.ref s.heap.objs.size) i)
    (r.ev (AJ B.G sc slice)>>=fun d=>BN 6 d>>=fun d=>match strOf d with
     | some s=>(match Ed s l with | some v=>pure (D.str v) | none=>bad)
     | none=>bad) (RdV B):=by
   refine Ok.bind (Ok.holding (S.ev F sc slice hsc W σ _)) fun y u W2 σ2 s2 Ga st2 ry=>Ok.at ?_
   refine Ok.ghost (A7 6 y σ2 ry) fun y' σ3 hy=>?_
   cases hs:strOf y' with
   | none=>exact Ok.bad
   | some n=>
    obtain ⟨z,t,eu,hz⟩:=(BY hs▸hy.1).str_inv
    rw [eu,←hz]
    dsimp only
    cases hq:Ed (nm z) l with
    | none=>exact Ok.bad
    | some v=>
     obtain ⟨y,t2,hv,hy⟩:=MK (acc:=[]) hkv hq
     have hm0:h'.MapOf (PySem.strKind P B.w) s.heap.objs.size (valueAt (merged [] kvs)):=hd'.mapOf
     have off:=Off.fresh G (Be s.heap)
     have hm:s2.heap.MapOf (PySem.strKind P B.w) s.heap.objs.size (valueAt (merged [] kvs)):=by
      obtain ⟨o,es,ep,e,r⟩:=hm0
      exact ⟨o,es,ep,off.kept st2 e,r⟩
     exact Ok.val b (s2.toks + 1) (v:=.str y t2) (fun Q E h=>DJ hm.typeIs slot_dict_getitem.lookup (wpAny_getItem_of (key:=.str z t) (strKind_is _ _ _ _) hm hv h)) (.str y t2 v hy)
  refine AH (rest G1 outs ho) (fun u s2 h=>?_) (fun e s2 h=>?_)
  ·obtain ⟨c,W2,σ2,hin,G2,st2,rr⟩:=h
   exact ⟨c,W2,σ2,hin,G2,st1.trans B G1 st2,rr⟩
  ·obtain ⟨σ2,hin,fl⟩:=h
   exact ⟨σ2,hin,fl.of_step st1⟩
end
end
section
open PySem PySem.W
variable {B:Bs} {F F':Fv} {C:Value} {W W':Wd} {σ σ':St} {s s':Shared}
open PyProof.Rows
theorem Nh (b:AK B) {k:Nat} {ds:List D} {vs:List Value} (r:RdL B W s.heap ds vs):Ok B C F W σ s (call (.builtin (DH k)) vs) (DG k ds) (RdV B):=by
 have two:∀ op,(op=.lt∨op=.gt)→Ok B C F W σ s (call (.builtin (S1 op)) vs) (Pa op ds) (RdV B):=fun op ho=>by
  unfold Pa
  cases h:A2 ds with
  | none=>exact Ok.bad
  | some d=>
   obtain ⟨v,ev,rd⟩:=(B3 h▸r).one
   rw [ev]
   dsimp only
   cases hl:BI d with
   | none=>exact Ok.bad
   | some l=>
    cases l with
    | nil=>exact Ok.bad
    | cons d l=>
     show Ok B C F W σ s _ (match small l with | true=>(do let _←Bl TU d;EH op d l) | false=>bad) _
     cases small l with
     | false=>exact Ok.bad
     | true=>exact QT b ho (Bc hl▸rd)
 match k with
 | 0=>
  show Ok B C F W σ s _ (XG ds) _
  unfold XG
  cases h:A2 ds with
  | none=>exact Ok.bad
  | some d=>obtain ⟨v,ev,rd⟩:=(B3 h▸r).one;rw [ev];exact Wu b rd
 | 1=>
  show Ok B C F W σ s _ (XH ds) _
  unfold XH
  cases h:HO ds with
  | none=>exact Ok.bad
  | some p=>
   obtain ⟨v,w,ev,rd,re⟩:=(KM h▸r).two
   rw [ev]
   dsimp only
   cases ht:Wb p.2 with
   | none=>exact Ok.bad
   | some t=>
    rw [show w=_ from (Ui ht▸re).inv]
    dsimp only
    cases q:Nat.ble t 2 with
    | false=>exact Ok.bad
    | true=>exact JS b (AF q) rd
 | 2=>exact two .lt (.inl rfl)
 | k + 3=>exact two .gt (.inr rfl)
theorem Ux (b:AK B) {k:Nat} {ds:List D} {vs:List Value} (r:RdL B W s.heap ds vs):Ok B C F W σ s (call (.type (Cv k)) vs) (ER k ds) (RdV B):=by
 unfold ER
 cases q:Nat.beq k 3 with
 | true=>
  rw [AI q]
  show Ok B C F W σ s _ (We ds) _
  unfold We
  cases h:A2 ds with
  | none=>exact Ok.bad
  | some d=>
   obtain ⟨v,ev,rd⟩:=(B3 h▸r).one
   rw [ev]
   dsimp only
   cases hl:BI d with
   | none=>exact Ok.bad
   | some l=>
    dsimp only
    cases q:small l with
    | false=>exact Ok.bad
    | true=>exact NZ b (Bc hl▸rd) (Cw q)
 | false=>
  dsimp only
  cases q:Nat.beq k 5 with
  | false=>exact Ok.bad
  | true=>
   rw [AI q]
   show Ok B C F W σ s _ (Wk ds) _
   unfold Wk
   cases h:A2 ds with
   | none=>exact Ok.bad
   | some d=>obtain ⟨v,ev,rd⟩:=(B3 h▸r).one;rw [ev];exact SU b rd
section
variable {r:Rec} {sc:LK}
theorem Nf (b:AK B) (S:AX B C r) (hsc:A5 sc F.env) {pos:Pos} {as:List Expr} (hp:Af as=true) {fd:D} {f:Value} (rf:Rd B W s.heap fd f) :
  Ok B C F W σ s (callWith pos f [] (backTo pos (starEach as F.env)) []) (match fd with
   | .fn i=>do let ds←Ar r.ev (AN B.G sc as);r.cal i ds
   | .blt k=>do let ds←Ar r.ev (AN B.G sc as);DG k ds
   | .ty k=>do let ds←Ar r.ev (AN B.G sc as);ER k ds
   | _=>bad) (RdV B):=by
 have go:∀ {g:List D→M D},(∀ (Q:VP) E s,wpAny (mdl B) F.A (evalArgs f true (backTo pos (starEach as F.env)) []) (fun ar s1=>wpAny (mdl B) F.A (call f ar.pos ar.kw) Q E s1) E s→wpAny (mdl B) F.A (callWith pos f [] (backTo pos (starEach as F.env)) []) Q E s)→
   (∀ W σ s ds vs,RdL B W s.heap ds vs→Ok B C F W σ s (call f vs []) (g ds) (RdV B))→
   Ok B C F W σ s (callWith pos f [] (backTo pos (starEach as F.env)) []) (do let ds←Ar r.ev (AN B.G sc as);g ds) (RdV B):=fun {g} hc hg G outs ho=>by
  obtain ⟨l,hl,hb⟩:=AS ho
  refine hc _ _ _ (AH (CY b S.bad as (fun e zz=>S.ev F sc e hsc) W σ s G l hl) (fun ar s1 h=>?_) (fun e s1 h=>?_))
  ·obtain ⟨ds,W1,σ1,hin,G1,st,hkw,rd⟩:=h
   obtain ⟨o,hf,hsub⟩:=AZ hb hin
   rw [hkw]
   refine AH (hg _ _ _ _ _ rd G1 o hf) (fun v s2 h=>?_) (fun e s2 h=>?_)
   ·obtain ⟨d,W2,σ2,hin2,G2,st2,r2⟩:=h
    exact ⟨d,W2,σ2,hsub _ hin2,G2,st.trans B G1 st2,r2⟩
   ·obtain ⟨σ2,hin2,fl⟩:=h
    exact ⟨σ2,hsub _ hin2,fl.of_step st⟩
  ·obtain ⟨σ1,hin,fl⟩:=h
   exact ⟨σ1,AQ hb hin,fl⟩
 have i:=rf.inv
 clear rf
 cases fd with
 | fn i=>rw [show f=_ from i];exact IX b S hsc (df:=[]) (first:=[]) .nil
 | blt k=>have i:f=_:=i;subst i;exact go (fun Q E s h=>Calls.callWith_builtin (Fs hp) h) fun W σ s ds vs rd=>Nh b rd
 | ty k=>have i:f=_:=i;subst i;exact go (fun Q E s h=>PySem.callWith_type (Fs hp) h) fun W σ s ds vs rd=>Ux b rd
 | _=>exact Ok.bad
theorem Km (b:AK B) (S:AX B C r) (hsc:A5 sc F.env) {x:Str} {p pos:Pos} {as:List Expr} (hp:Af as=true) :
  OkE B C F (.Call (.Name x p) as [] pos) (do
   let fd←r.ev (Ae B.G sc x)
   match fd with
   | .fn i=>do let ds←Ar r.ev (AN B.G sc as);r.cal i ds
   | .blt k=>do let ds←Ar r.ev (AN B.G sc as);DG k ds
   | .ty k=>do let ds←Ar r.ev (AN B.G sc as);ER k ds
   | _=>bad):=fun W σ s=>by
 show Ok B C F W σ s (eval (.Name x p) F.env>>=fun f=>callWith pos f [] (backTo pos (starEach as F.env)) []) _ _
 exact Ok.bind (S.ev F sc (.Name x p) hsc W σ s) fun fd f W1 σ1 s1 G st rf=>Nf b S hsc hp rf
end
end
section
open PySem PySem.W
variable {B:Bs} {F F':Fv} {C:Value} {W W':Wd} {σ σ':St} {s s':Shared}
open PyProof.Rows
theorem GP (G:List (Nm×D)) (sc:LK) (as:List Expr) (f:X):DO G sc as f (AN G sc as)=.call f (AN G sc as)∨DO G sc as f (AN G sc as)=.bad∨
  ∃ y n2 p2 as2 pos2,f=.glb (.ty 3)∧as=[.Call (.Name n2 p2) as2 [] pos2]∧Ae G sc n2=.glb (.ty 6)∧AN G sc as2=[y]∧Af as2=true∧DO G sc as f (AN G sc as)=.tupenum y:=by
 unfold DO
 cases h3:Di f 3 with
 | false=>exact .inl rfl
 | true=>
  cases ho:A2 as with
  | none=>exact .inl rfl
  | some e=>
   have:=De ho
   subst this
   have e1:A2 (AN G sc [e])=some (AJ G sc e):=rfl
   rw [e1]
   dsimp only
   cases hc:B9 e with
   | none=>exact .inl rfl
   | some n=>
    obtain ⟨p2,as2,pos2,rfl⟩:=Ek hc
    dsimp only
    cases h6:Di (Ae G sc n) 6 with
    | false=>exact .inl rfl
    | true=>
     cases ha:Hl (AJ G sc (.Call (.Name n p2) as2 [] pos2)) with
     | none=>exact .inr (.inl rfl)
     | some y=>
      obtain ⟨q1,q2,q3⟩:=Fj rfl h6 ha
      exact .inr (.inr ⟨y,n,p2,as2,pos2,MU h3,rfl,q1,q3,q2,rfl⟩)
section
variable {r:Rec} {sc:LK}
theorem SO {h:Heap} {items:Array Value} {acc:Array Value} {W:Wd} {l:List D}:∀ {vs:List Value} {n:Nat},RdL B W h l vs→vs=items.toList.drop n→(∀ j,j < items.size→∃ T t x,acc[j]? = some (.ref T)∧items[j]? = some x∧h.get? T=some {cls:=.type "tuple",data:=.seq #[.int (j:Int) t,x]})→acc.size=items.size→
  RdL B W h (pairsOf n l) (acc.toList.drop n):=by
 induction l with
 | nil=>
  intro vs n r hv ht hs
  have:items.size≤n:=by
   have:=congrArg List.length ((show vs=_ from r.inv)▸hv)
   simp at this;omega
  rw [List.drop_of_length_le (by simp;omega)];exact .nil
 | cons d l ih=>
  intro vs n r hv ht hs
  obtain ⟨v,us,ev,r,rs⟩:=r.inv
  rw [ev] at hv
  have hlt:n < items.size:=by
   have:=congrArg List.length hv
   simp at this;omega
  obtain ⟨T,t,x,a,b,c⟩:=ht n hlt
  have hn:n < items.toList.length:=by rw [Array.length_toList];exact hlt
  rw [List.drop_eq_getElem_cons hn] at hv
  have hx:x=v:=by
   have:=(Array.getElem?_eq_some_iff.mp b).2
   rw [lI1 hv,←this];rfl
  have hm:n < acc.toList.length:=by rw [Array.length_toList,hs];exact hlt
  rw [List.drop_eq_getElem_cons hm,show acc.toList[n]=.ref T from (Array.getElem?_eq_some_iff.mp a).2]
  exact .cons _ _ _ _ (.tup T _ _ ⟨_,c,rfl,0,rfl⟩ (.cons _ _ _ _ (.int _ _) (.cons _ _ _ _ (hx▸r) .nil))) (ih rs (lI2 hv) ht hs)
theorem L9 (b:AK B) (S:AX B C r) (hsc:A5 sc F.env) {x y:Str} {p p2 pos pos2:Pos} {a:Expr} (h1:Ae B.G sc x=.glb (.ty 3)) (h2:Ae B.G sc y=.glb (.ty 6)) (hp:Af [a]=true) :
  OkE B C F (.Call (.Name x p) [.Call (.Name y p2) [a] [] pos2] [] pos) (do
   let ds←Ar r.ev [AJ B.G sc a]
   opt (Hu ds)):=fun W σ s G outs ho=>by
 obtain ⟨q1,q2,q3⟩:=E5 h1
 show wpAny _ _ (eval (.Name x p) F.env>>=fun f=>callWith pos f [] [(false,eval (.Call (.Name y p2) [a] [] pos2) F.env)] []) _ _ s
 have hname:=E2 (F:=F) (C:=C) (W:=W) (σ:=σ) (s:=s) b (p:=p) q3 (hsc.glob x q2) q1 G _ rfl
 refine MZ fun Q E hQ hE=>?_
 refine AA (AH hname (fun f s1 hf=>?_) fun e s1 he=>?_)
 ·obtain ⟨d,W1,σ1,hin,G1,st,rf⟩:=hf
  rcases List.mem_cons.mp hin with e | e
  ·cases e
   rw [show f=_ from rf.inv]
   obtain ⟨l1,hl1,hb1⟩:=AS ho
   refine PySem.callWith_type rfl (Calls.evalArgs_plain (Calls.spliced_cons (HJ (as:=[a]) b S hsc h2 hp G1 hl1 (fun ds vs W2 σ2 s2 hin2 G2 st2 rd=>?_) fun e s2 σ2 hin2 fl=>hE _ _ ⟨σ2,AQ hb1 hin2,fl.of_step st⟩)))
   obtain ⟨o,hf,hsub⟩:=AZ hb1 hin2
   replace hf:opt (Hu ds) σ2=some o:=hf
   unfold Hu at hf
   cases ho1:A2 ds with
   | none=>rw [ho1] at hf;cases hf
   | some d=>
   obtain ⟨v,ev,rd⟩:=(B3 ho1▸rd).one
   rw [ho1] at hf
   rw [ev]
   replace hf:opt (match BI d with | some l=>(match small l with | true=>some (.tup (pairsOf 0 l)) | false=>none) | none=>none) σ2=some o:=hf
   cases hl:BI d with
   | none=>rw [hl] at hf;cases hf
   | some l=>
   rw [hl] at hf
   replace hf:opt (match small l with | true=>some (.tup (pairsOf 0 l)) | false=>none) σ2=some o:=hf
   obtain ⟨ax,items,ea,_,hx,rl⟩:=(Bc hl▸rd).lst_inv
   rw [ea]
   cases hsm:small l with
   | false=>rw [hsm] at hf;cases hf
   | true=>
   rw [hsm] at hf
   have hlt:ax < s2.heap.objs.size:=by obtain ⟨o,e,_⟩:=hx;exact Heap.lt_size e
   refine call_enumerate_list hx fun h' he hit hz hk=>Calls.spliced_nil ?_
   have hlen:=RdL.length rl
   have hl100:l.length≤100:=AF hsm
   rw [Array.length_toList] at hlen
   refine Hr (it:=s2.heap.objs.size) (l:=ax) (items:=items) G.ok.handled (Nat.succ_ne_self _) (Nat.ne_of_lt (Nat.lt_succ_of_lt hlt)) (Nat.ne_of_lt hlt) (by omega) he hit (hx.at fun o e=>hk _ o e) fun acc h2 tk eo k2=>?_
   obtain ⟨G3,st3⟩:=G2.grow b (t:=tk) (h':=h2.push {cls:=.type "tuple",data:=.seq acc}) fun c o e=>AE _ (k2 c o (Nat.ne_of_lt (Nat.lt_succ_of_lt (Heap.lt_size e))) (Nat.ne_of_lt (Heap.lt_size e)) (hk c o e))
   exact hQ _ _ ⟨_,W2,_,hsub _ (AB hf▸.head _),G3,st.trans B G1 (st2.trans B G2 st3),.tup _ acc _ ⟨_,Heap.get?_push_size _ rfl,rfl,0,rfl⟩
    (SO (n:=0) (G2.rdL b st3 rl) rfl (fun j hj=>(let ⟨T,t,x,a,b,c⟩:=eo.2 j hj;⟨T,t,x,a,b,AE _ c⟩)) eo.1)⟩
  ·cases e
 ·obtain ⟨σ',hin,_⟩:=he
  rcases List.mem_cons.mp hin with e | e<;>cases e
end
end
section
open PySem PySem.W
variable {B:Bs} {F F':Fv} {C:Value} {W W':Wd} {σ σ':St} {s s':Shared}
open PyProof.Rows
structure KI (B:Bs) (Ck Nk:Addr) (mk:SV):Prop where
 cls:ClsAt B.h0 Ck Nk mk
 ga:mk "__getattribute__" = none
 gb:mk "__getattr__" = none
 wld:mk "world" = none
 meths:∀ i (x:Str),CJ (nm x)=some i→mk x=some (.ref (B.fnA i))∧(∃ o,B.h0.get? (B.fnA i)=some o∧o.cls=.type "function")∧typeLookup (.type "object") x=pure none
 inst:∀ p a,B.ChkP p a→∀ h,B.h0.StaysIn h→(∀ q∈p,h.get? q.1=some q.2)→∃ mA wa,h.Inst a Ck mA∧mA "world" = some (.ref wa)∧B.WldP p wa∧∀ i x,CJ (nm x)=some i→mA x=none
theorem O5 (G:Good B F W σ s):∀ q∈W.pins,s.heap.get? q.1=some q.2:=fun q hq=>(G.pins q hq).1
theorem Su:typeLookup (.type "object") "world" = pure none:=by rw [typeLookup_type,builtinLookup_eq_fast];kernel_rfl
theorem GZ {env:Env} {pos:Pos}:∀ {as:List Expr},Af as=true→(backTo pos (starEach as env)).all (fun x=>!x.1)=true:=by
 intro as
 induction as with
 | nil=>
  intro _
  exact rfl
 | cons e r ih=>
  intro h
  have hp:=Cz h
  rw [AL hp.1]
  show (!false&&(backTo pos (starEach r env)).all (fun x=>!x.1))=true
  rw [ih hp.2];rfl
section
variable {r:Rec} {sc:LK} {Ck Nk:Addr} {mk:SV}
theorem U9 (b:AK B) (K:KI B Ck Nk mk) (S:AX B C r) (hsc:A5 sc F.env) {x:Str} {p pos:Pos} :
  OkE B C F (.Attribute (.Name x p) "world" pos) (do let d←r.ev (Ae B.G sc x);opt (Ru d)):=fun W σ s=>by
 rw [arm_eval_Attribute]
 have e1:attributeBase (.Name x p) "world" F.env (eval (.Name x p) F.env)=eval (.Name x p) F.env:=rfl
 rw [e1]
 show Ok B C F W σ s (eval (.Name x p) F.env>>=fun o=>standAt pos.atName>>=fun zz=>PySem.holding [o] (getAttr o "world" true)>>=fun r=>letTemporaryGo (.Name x p) o r>>=fun zz=>pure r) _ _
 refine Ok.bind (S.ev F sc (.Name x p) hsc W σ s) fun d o W1 σ1 s1 G st rd=>Ok.at ?_
 refine Ok.opt fun e he=>?_
 unfold Ru at he
 cases hc:GW d with
 | false=>rw [hc] at he;cases he
 | true=>
  obtain ⟨a,eo,ha⟩:=(Im hc▸rd).inv
  rw [hc] at he
  rw [eo,←AB he]
  intro G1 outs ho
  cases ho
  obtain ⟨mA,wa,I,hw,hW,_⟩:=K.inst _ a ha s1.heap G1.stay0 (O5 G1)
  obtain ⟨n1,q1,bs,sn,sub,col,d1,k0,k1,k2,k3,k5,hC⟩:=(K.cls.keeps G1.stay0).obj
  refine AA (AG (load_attr hC (K.cls.keeps G1.stay0).ns K.ga K.wld Su I hw rfl ?_))
  exact AA (AD (AD ⟨.wld,W1,σ1,.head _,G1.tok b,Step.refl B,.wld wa hW⟩))
theorem Sl (b:AK B) (K:KI B Ck Nk mk) (S:AX B C r) (hsc:A5 sc F.env) {x name:Str} {p apos pos:Pos} {as:List Expr} {i:Nat}
  (hn:CJ (nm name)=some i) (hp:Af as=true) (hl:apos.endLine=pos.line) (ha:as.length < 30) :
  OkE B C F (.Call (.Attribute (.Name x p) name apos) as [] pos) (do
   let ov←r.ev (Ae B.G sc x)
   match GW ov with
   | true=>do let ds←Ar r.ev (AN B.G sc as);r.cal i (.chk::ds)
   | false=>bad):=fun W σ s=>by
 rw [arm_eval_Call]
 have e1:attributeBase (.Name x p) name F.env (eval (.Name x p) F.env)=eval (.Name x p) F.env:=rfl
 rw [e1]
 refine Ok.bind (S.ev F sc (.Name x p) hsc W σ s) fun d o W1 σ1 s1 G st rd=>Ok.at ?_
 cases hk:GW d with
 | false=>exact Ok.bad
 | true=>
  obtain ⟨a,eo,hc⟩:=(Im hk▸rd).inv
  rw [eo]
  intro G1 outs ho
  obtain ⟨mA,wa,I,_,_,hsh⟩:=K.inst _ a hc s1.heap G1.stay0 (O5 G1)
  obtain ⟨hf,⟨of,hfo,hfc⟩,hB⟩:=K.meths i name hn
  obtain ⟨n1,q1,bs,sn,sub,col,d1,k0,k1,k2,k3,k5,hC⟩:=(K.cls.keeps G1.stay0).obj
  unfold methodCall
  have few:methodCallForm (as.length + ([]:List Keyword).length) (backTo pos (starEach as F.env)) (backToKw pos (keywordEach [] F.env))=true:=by
   show ((backTo pos (starEach as F.env)).all (fun x=>!x.1)&&true&&decide (as.length + 0 + 0 < 30))=true
   rw [GZ hp]
   simp;omega
  rw [few]
  refine AA (AG ?_)
  unfold calleeOf
  simp only [if_true]
  have gm:∀ (pl:Sem Bool) (Q:Value×List Value→Shared→Prop) (E:VP),Q (.ref (B.fnA i),[.ref a]) s1→wpAny (mdl B) F.A (getMethod (.ref a) name pl) Q E s1:=fun pl Q E hq=>by
   exact method_of hC (K.cls.keeps G1.stay0).ns K.ga K.gb hf (G1.stay0 _ _ hfo) hfc hB I (hsh i name hn) hq
  refine gm _ _ _ ?_
  refine AA (m:=methodCallPos true (.Name x p) F.env apos pos) ?_
  unfold methodCallPos
  rw [if_pos (by simp [hl])]
  refine AD ?_
  exact IX (C:=C) b S hsc (df:=[.chk]) (first:=[.ref a]) (.cons _ _ _ _ (.chk a hc) .nil) G1 outs ho
end
end
section
open PySem PySem.W
variable {B:Bs} {F F':Fv} {C:Value} {W W':Wd} {σ σ':St} {s s':Shared}
open PyProof.Rows
section
variable {r:Rec} {sc:LK} {Ck Nk:Addr} {mk:SV} {T:Tab}
theorem BR {e:Expr}:OkE B C F e (bad:M D):=fun W σ s=>Ok.bad
theorem Kl {e:Expr}:OkT B C F e (bad:M Bool):=fun W σ s=>Ok.bad
theorem Pu {sc':LK} {c:Bool} (h:A5 sc' F.env) {x:Str} (ht:tgt false sc' (nm x)=true):BD F x:=by
 unfold tgt at ht
 cases q:As (nm x) sc' with
 | none=>rw [q] at ht;cases ht
 | some k=>
  rw [q] at ht
  cases k<;>first | exact ffF ht | exact .inl (h.loc x q)
theorem Lo {sc':LK} (h:A5 sc' F.env) {xs:List Nm} (ht:KR false sc' xs=true):∀ x,nm x∈xs→BD F x:=fun x hx=>
 Pu (c:=false) h (List.all_eq_true.mp ht _ hx)
noncomputable def Vw (ops:List CmpOp) (es:List Expr):Xf→Prop
 | .isn n=>∃ k p,ops=[if n then .IsNot else .Is]∧es=[.Constant .none k p]
 | .one o=>∃ op b,ops=[op]∧es=[b]∧Ch op=some o
 | .two o o'=>∃ op op' b c,ops=[op,op']∧es=[b,c]∧Ch op=some o∧Ch op'=some o'
 | .bad=>True
theorem N7 {e:Expr} (h:Kw e=true):∃ k p,e=.Constant .none k p:=by
 refine Ac h fun c hc h=>?_
 obtain ⟨k,p,e1⟩:=C4 hc
 exact ⟨k,p,by rw [e1,show c=.none by cases c<;>first | exact ffF h | rfl]⟩
theorem VN {op:CmpOp} {n:Bool} (h:XI op=some n):op=if n then .IsNot else .Is:=by cases op<;>first | (cases h;done) | (cases h;rfl)
theorem Gk (ops:List CmpOp) (es:List Expr):Vw ops es (DF ops es):=by
 cases ops with
 | nil=>exact trivial
 | cons op ops=>
  cases es with
  | nil=>exact trivial
  | cons b es=>
   cases ops with
   | nil=>
    cases es with
    | cons c es=>exact trivial
    | nil=>
     unfold DF
     dsimp only
     cases hi:XI op with
     | some n=>
      cases hn:Kw b with
      | false=>exact trivial
      | true=>
       obtain ⟨k,p,rfl⟩:=N7 hn
       exact ⟨k,p,by rw [VN hi],rfl⟩
     | none=>
      dsimp only
      cases hc:Ch op with
      | none=>exact trivial
      | some o=>exact ⟨op,b,rfl,rfl,hc⟩
   | cons op' ops=>
    cases es with
    | nil=>exact trivial
    | cons c es=>
     cases ops with
     | cons x ops=>cases es<;>exact trivial
     | nil=>
      cases es with
      | cons d es=>exact trivial
      | nil=>
       unfold DF
       dsimp only
       cases hc:Ch op with
       | none=>exact trivial
       | some o=>
        cases hc':Ch op' with
        | none=>exact trivial
        | some o'=>exact ⟨op,op',b,c,rfl,rfl,hc,hc'⟩
theorem SE {e:Expr} {p:Option Nat×Option Nat} (h:II e=some p):∃ l u q,e=.Slice l u none q∧GO l=some p.1∧GO u=some p.2:=AO h fun w hw h=>by
 obtain ⟨h1,h⟩:=Bi h
 refine AO h fun a ha h=>AO h fun c hc h=>?_
 obtain ⟨q,e1⟩:=QA hw
 rw [←AB h]
 exact ⟨_,_,q,by rw [e1,MD h1],ha,hc⟩
theorem RH {e:Expr} {p:Option (List (Nm×Nm))} (h:dictOf e=some p):∃ ks vs q,e=.Dict ks vs q∧strPairs ks vs=p:=by
 refine AO h fun q hq h=>?_
 obtain ⟨p,e1⟩:=I9 hq
 exact ⟨q.1,q.2,p,e1,AB h⟩
theorem Yo {α:Type} {l:List α} (h:Nat.beq l.length 2=true):∃ x y,l=[x,y]:=by
 obtain ⟨x,r,e,l1⟩:=GR (AI h)
 obtain ⟨y,r2,e2,l2⟩:=GR l1
 exact ⟨x,y,by rw [e,e2,Nz l2]⟩
theorem Ou {e:Expr} {xs:List Nm} (h:Rx e=some xs):∃ ts k p,e=.Tuple ts k p∧targetsOf ts=some xs:=AO h fun ts ht h=>by
 obtain ⟨k,p,e1⟩:=KP ht
 exact ⟨ts,k,p,e1,h⟩
theorem Rw {F:Fv} {t:Expr} {p:List Nm×Bool} (h:GA t=some p) (hs:∀ x,nm x∈p.1→BD F x):EN F p.2 t p.1:=by
 change (match An t with | some x=>some ([nm x],false) | none=>(Rx t).bind fun xs=>B7 (Nat.beq xs.length 2) (some (xs,true)))=some p at h
 cases hn:An t with
 | some x=>
  rw [hn] at h
  rw [←AB h] at hs ⊢
  obtain ⟨q,e⟩:=A1 hn
  exact ⟨x,q,e,rfl,hs x (.head _)⟩
 | none=>
  rw [hn] at h
  refine AO h fun xs hx h=>?_
  obtain ⟨hb,h⟩:=Bi h
  rw [←AB h] at hs ⊢
  obtain ⟨ts,n,q,e,ht⟩:=Ou hx
  obtain ⟨x,y,e2⟩:=Yo hb
  exact ⟨ts,n,q,x,y,e,ht,e2,hs⟩
theorem F1 (G:List (Nm×D)) (sc:LK) (e:Expr) (gens:List Comprehension) (s:Scope) (pos:Pos):AJ G sc (.ListComp e gens s pos)=.bad∨
  ∃ t it ifs p,gens=[⟨t,it,ifs,0⟩]∧GA t=some p∧Cn sc s=true∧KR false s.names p.1=true∧p.2=Cd (Aw G sc it)∧AJ G sc (.ListComp e gens s pos)=.comp (AJ G s.names e) p.1 (Aw G sc it) (AN G s.names ifs) (CP s.names):=by
 cases gens with
 | nil=>exact .inl rfl
 | cons g r=>
  cases r with
  | cons _ _=>exact .inl rfl
  | nil=>
   obtain ⟨t,it,ifs,k⟩:=g
   have e1:AJ G sc (.ListComp e [⟨t,it,ifs,k⟩] s pos)=(match isZ k with
    | false=>.bad
    | true=>match GA t with
     | none=>.bad
     | some p=>(match Cn sc s&&(KR false s.names p.1&&Go p.2 (Cd (Aw G sc it))) with
      | true=>.comp (AJ G s.names e) p.1 (Aw G sc it) (AN G s.names ifs) (CP s.names)
      | false=>.bad)):=rfl
   rw [e1]
   cases hk:isZ k with
   | false=>exact .inl rfl
   | true=>
    obtain rfl:k=0:=by
     cases k with
     | ofNat n=>rw [AI hk];rfl
     | negSucc n=>cases hk
    dsimp only
    cases ht:GA t with
    | none=>exact .inl rfl
    | some p=>
     dsimp only
     cases hb:(Cn sc s&&(KR false s.names p.1&&Go p.2 (Cd (Aw G sc it)))) with
     | false=>exact .inl rfl
     | true=>
      simp only [Bool.and_eq_true] at hb
      exact .inr ⟨t,it,ifs,p,rfl,ht,hb.1,hb.2.1,eq_of_beq (by rw [←Vm];exact hb.2.2),rfl⟩
theorem QU (b:AK B) (hd:JK B T.dics) (K:KI B Ck Nk mk) (S:AX B C r) (hsc:A5 sc F.env) (E:Expr):OkE B C F E (EF T r (AJ B.G sc E)):=by
 cases E with
 | Constant c k p=>
  cases c with
  | none=>exact EW b rfl
  | bool x=>exact EW b rfl
  | int i=>exact EW b rfl
  | str x=>exact EW b rfl
  | bytes x=>exact EW b rfl
  | _=>exact BR
 | Name x p=>
  exact SY b (r:=⟨EF T r,r.tst,r.ss,r.cal⟩) hsc (fun zz=>rfl) (fun zz=>rfl) rfl
 | Tuple es k p=>exact Qc b S.bad fun e zz=>S.ev F sc e hsc
 | List es p=>exact Sm b S.bad fun e zz=>S.ev F sc e hsc
 | IfExp t a e p=>exact VD S hsc
 | BoolOp op es p=>
  cases op with
  | And=>exact PA b S hsc (op:=.And)
  | Or=>exact PA b S hsc (op:=.Or)
 | UnaryOp op x p=>
  cases op with
  | Not=>exact VC S hsc
  | _=>exact BR
 | BinOp l op e p=>
  cases op with
  | Add=>exact Kn b S hsc (op:=.add)
  | Sub=>exact Kn b S hsc (op:=.sub)
  | Pow=>exact Kn b S hsc (op:=.pow)
  | _=>exact BR
 | Compare a ops es p=>
  show OkE B C F _ (EF T r (XS (AJ B.G sc a) (DF ops es) (AN B.G sc es)))
  have hs:=Gk ops es
  cases hf:DF ops es with
  | isn n=>rw [hf] at hs;obtain ⟨k,q,rfl,rfl⟩:=hs;exact VE b S hsc
  | one o=>rw [hf] at hs;obtain ⟨op,e,rfl,rfl,h⟩:=hs;exact VF b S hsc h
  | two o o'=>rw [hf] at hs;obtain ⟨op,op',e,c,rfl,rfl,h1,h2⟩:=hs;exact VG b S hsc h1 h2
  | bad=>exact BR
 | Subscript o i p=>
  show OkE B C F _ (EF T r (match dictOf o with
   | some p=>(match p with | some l=>.dsub l (AJ B.G sc i) | none=>.bad)
   | none=>match II i with
    | some p=>.slc (AJ B.G sc o) p.1 p.2
    | none=>.sub (AJ B.G sc o) (AJ B.G sc i)))
  cases hd1:dictOf o with
  | some q=>
   obtain ⟨ks,vs,q1,rfl,h⟩:=RH hd1
   cases q with
   | none=>exact BR
   | some l=>exact Sn b S hsc h
  | none=>
   cases hs:II i with
   | some q=>obtain ⟨l,u,q1,rfl,h1,h2⟩:=SE hs;exact VB b S hsc h1 h2
   | none=>exact VA b hd S hsc
 | Attribute o a p=>
  show OkE B C F _ (EF T r (match An o with
   | some x=>(match nm a == nm "world" with | true=>.wld (Ae B.G sc x) | false=>.bad)
   | none=>.bad))
  cases ho:An o with
  | none=>exact BR
  | some x=>
   obtain ⟨q,rfl⟩:=A1 ho
   cases h:nm a == nm "world" with
   | false=>exact BR
   | true=>
    have:a = "world":=Aj (eq_of_beq h)
    subst this
    exact U9 b K S hsc
 | Call f args kws pos=>
  cases kws with
  | cons k ks=>exact BR
  | nil=>
   show OkE B C F _ (EF T r (match An f with
    | some x=>(match Af args with | true=>DO B.G sc args (Ae B.G sc x) (AN B.G sc args) | false=>.bad)
    | none=>match EI f with
     | none=>.bad
     | some p=>match CJ (nm p.2.1) with
      | none=>.bad
      | some i=>match Af args&&(Nat.beq p.2.2 pos.line&&Nat.blt args.length 30) with
       | true=>.meth (Ae B.G sc p.1) i (AN B.G sc args)
       | false=>.bad))
   cases hn:An f with
   | some x=>
    obtain ⟨q,rfl⟩:=A1 hn
    cases hp:Af args with
    | false=>exact BR
    | true=>
     dsimp only
     rcases GP B.G sc args (Ae B.G sc x) with h | h | ⟨y,n2,p2,as2,pos2,h1,rfl,hn2,hc2,hp2,h3⟩
     ·rw [h];exact Km b S hsc hp
     ·rw [h];exact BR
     ·rw [h3]
      obtain ⟨c,rfl,hc⟩:=OR hc2
      subst hc
      exact L9 b S hsc h1 hn2 hp2
   | none=>
    cases ha:EI f with
    | none=>exact BR
    | some p=>
     obtain ⟨q,ap,rfl,hl⟩:=FH ha
     dsimp only
     cases hm:CJ (nm p.2.1) with
     | none=>exact BR
     | some i=>
      dsimp only
      cases h2:Af args&&(Nat.beq p.2.2 pos.line&&Nat.blt args.length 30) with
      | false=>exact BR
      | true=>
       simp only [Bool.and_eq_true] at h2
       exact Sl b K S hsc hm h2.1 (hl.trans (AI h2.2.1)) (AF h2.2.2)
 | ListComp e gens scope p=>
  rcases F1 B.G sc e gens scope p with h | ⟨t,it,ifs,q,rfl,ht,q1,q2,q3,h⟩
  ·rw [h];exact BR
  ·rw [h]
   refine So (xs:=q.1) b S hsc q1 fun c=>?_
   rw [←q3]
   exact Rw ht (Lo (F:=C5 F scope (Cr F.env scope.names []) c) (Gw hsc q1) q2)
 | _=>exact BR
noncomputable def Fq:X→Bool
 | .not _ | .bop _ _ | .ite _ _ _ | .cmp _ _ _ | .isn _ _ | .chn .. | .bad=>false
 | _=>true
theorem Pp {x:X} (h:Fq x=true):Eu r x=(do let d←r.ev x;Bn d):=by
 cases x<;>first | rfl | cases h
theorem MI {G:List (Nm×D)} {x:Str}:Fq (Ae G sc x)=true∨Ae G sc x=.bad:=by
 rcases HV (G:=G) (sc:=sc) (x:=x) with q | q | ⟨d,_,_,_,q⟩
 ·exact .inr q
 ·rw [q];exact .inl rfl
 ·rw [q];exact .inl rfl
section
variable {G:List (Nm×D)}
theorem Pz {o i:Expr} {p:Pos} {q:Option (List (Nm×Nm))} (h:dictOf o=some q):Fq (AJ G sc (.Subscript o i p))=true∨AJ G sc (.Subscript o i p)=.bad:=by
 have e:AJ G sc (.Subscript o i p)=(match dictOf o with
   | some p=>(match p with | some l=>.dsub l (AJ G sc i) | none=>.bad)
   | none=>match II i with
    | some p=>.slc (AJ G sc o) p.1 p.2
    | none=>.sub (AJ G sc o) (AJ G sc i)):=rfl
 rw [e,h]
 cases q with
 | none=>exact .inr rfl
 | some l=>exact .inl rfl
theorem NA {o i:Expr} {p:Pos} (h:dictOf o=none):Fq (AJ G sc (.Subscript o i p))=true∨AJ G sc (.Subscript o i p)=.bad:=by
 have e:AJ G sc (.Subscript o i p)=(match dictOf o with
   | some p=>(match p with | some l=>.dsub l (AJ G sc i) | none=>.bad)
   | none=>match II i with
    | some p=>.slc (AJ G sc o) p.1 p.2
    | none=>.sub (AJ G sc o) (AJ G sc i)):=rfl
 rw [e,h]
 cases II i with
 | none=>exact .inl rfl
 | some l=>exact .inl rfl
theorem Ob {o:Expr} {a:Str} {p:Pos}:Fq (AJ G sc (.Attribute o a p))=true∨AJ G sc (.Attribute o a p)=.bad:=by
 have e:AJ G sc (.Attribute o a p)=(match An o with
   | some x=>(match nm a == nm "world" with | true=>.wld (Ae G sc x) | false=>.bad)
   | none=>.bad):=rfl
 rw [e]
 cases An o with
 | none=>exact .inr rfl
 | some x=>cases nm a == nm "world"<;>first | exact .inr rfl | exact .inl rfl
theorem call_plain {f:Expr} {args:List Expr} {kws:List Keyword} {pos:Pos}:Fq (AJ G sc (.Call f args kws pos))=true∨AJ G sc (.Call f args kws pos)=.bad:=by
 cases kws with
 | cons k ks=>exact .inr rfl
 | nil=>
  have e:AJ G sc (.Call f args [] pos)=(match An f with
    | some x=>(match Af args with | true=>DO G sc args (Ae G sc x) (AN G sc args) | false=>.bad)
    | none=>match EI f with
     | none=>.bad
     | some p=>match CJ (nm p.2.1) with
      | none=>.bad
      | some i=>match Af args&&(Nat.beq p.2.2 pos.line&&Nat.blt args.length 30) with
       | true=>.meth (Ae G sc p.1) i (AN G sc args)
       | false=>.bad):=rfl
  rw [e]
  cases An f with
  | some x=>
   dsimp only
   cases Af args with
   | false=>exact .inr rfl
   | true=>
    dsimp only
    rcases GP G sc args (Ae G sc x) with h | h | ⟨_,_,_,_,_,_,_,_,_,_,h⟩
    ·rw [h];exact .inl rfl
    ·exact .inr h
    ·rw [h];exact .inl rfl
  | none=>
   dsimp only
   cases EI f with
   | none=>exact .inr rfl
   | some p=>
    dsimp only
    cases CJ (nm p.2.1) with
    | none=>exact .inr rfl
    | some i=>
     dsimp only
     cases Af args&&(Nat.beq p.2.2 pos.line&&Nat.blt args.length 30) with
     | false=>exact .inr rfl
     | true=>exact .inl rfl
end
theorem BE (S:AX B C r) (hsc:A5 sc F.env) {E:Expr} (h:Fq (AJ B.G sc E)=true∨AJ B.G sc E=.bad) (he:isTrue E F.env (eval E F.env)=(do let v←eval E F.env;standAt E.pos;PySem.holding [v] (truthy v))) :
  OkT B C F E (Eu r (AJ B.G sc E)):=by
 rcases h with h | h
 ·rw [Pp h];exact QX (S.ev F sc E hsc) he
 ·rw [h];exact Kl
theorem Na (b:AK B) (S:AX B C r) (hsc:A5 sc F.env) (E:Expr):OkT B C F E (Eu r (AJ B.G sc E)):=by
 cases E with
 | IfExp t a e p=>exact U5 S hsc
 | BoolOp op es p=>
  cases op with
  | And=>exact O8 b S hsc (op:=.And)
  | Or=>exact O8 b S hsc (op:=.Or)
 | UnaryOp op x p=>
  cases op with
  | Not=>exact U4 S hsc
  | _=>exact Kl
 | Compare a ops es p=>
  show OkT B C F _ (Eu r (XS (AJ B.G sc a) (DF ops es) (AN B.G sc es)))
  have hs:=Gk ops es
  cases hf:DF ops es with
  | isn n=>rw [hf] at hs;obtain ⟨k,q,rfl,rfl⟩:=hs;exact U6 b S hsc
  | one o=>rw [hf] at hs;obtain ⟨op,e,rfl,rfl,h⟩:=hs;exact U7 b S hsc h
  | two o o'=>rw [hf] at hs;obtain ⟨op,op',e,c,rfl,rfl,h1,h2⟩:=hs;exact U8 b S hsc h1 h2
  | bad=>exact Kl
 | Constant c k p=>exact BE S hsc (by cases c<;>first | exact .inl rfl | exact .inr rfl) rfl
 | Name x p=>exact BE S hsc MI rfl
 | Tuple es k p=>exact BE S hsc (.inl rfl) rfl
 | List es p=>exact BE S hsc (.inl rfl) rfl
 | BinOp l op e p=>exact BE S hsc (by cases op<;>first | exact .inl rfl | exact .inr rfl) rfl
 | Subscript o i p=>
  refine BE S hsc ?_ rfl
  cases hd1:dictOf o with
  | some q=>exact Pz hd1
  | none=>exact NA hd1
 | Attribute o a p=>exact BE S hsc Ob rfl
 | ListComp e gens scope p=>
  refine BE S hsc ?_ rfl
  rcases F1 B.G sc e gens scope p with h | ⟨t,it,ifs,q,_,_,_,_,_,h⟩
  ·exact .inr h
  ·exact .inl (by rw [h];rfl)
 | Call f args kws pos=>exact BE S hsc call_plain rfl
 | _=>exact BE S hsc (.inr rfl) (by rfl)
end
end
section
open PySem PySem.W
variable {B:Bs} {F F':Fv} {C:Value} {W W':Wd} {σ σ':St} {s s':Shared}
open PyProof.Rows
section
variable {r:Rec} {sc:LK} {T:Tab}
theorem Se (b:AK B) (S:AX B C r) (hsc:A5 sc F.env) {elt target iter:Expr} {ifs:List Expr} {scope:Scope} {pos:Pos} {xs:List Nm} (hs:Cn sc scope=true)
  (htg:∀ c,EN (C5 F scope (Cr F.env scope.names []) c) (Cd (Aw B.G sc iter)) target xs)
  {u:Value→Sem Unit} {m2:D→M Unit} (hu:∀ d acc W σ s,Rd B W s.heap d acc→Ok B C F W σ s (u acc) (m2 d) (fun zz zz zz zz=>True)) :
  Ok B C F W σ s (evalThenUse (.ListComp elt [⟨target,iter,ifs,0⟩] scope pos) F.env u) ((Ee r (Aw B.G sc iter)>>=fun l=>match small l&&Ko 60 l with
   | true=>fun s=>(under (HR (CP scope.names) s.rho) (Hh r (AJ B.G scope.names elt) xs (AN B.G scope.names ifs) l>>=fun ds=>pure (.lst ds)):M D) s
   | false=>bad)>>=m2) (fun zz zz zz zz=>True):=fun G outs ho=>by
 obtain ⟨l,hl,hb⟩:=AS ho
 show wpAny _ _ (comprehension (.ListComp elt [⟨target,iter,ifs,0⟩] scope pos) scope F.env iter.pos (newList []) false (eval iter F.env) (some u)>>=fun zz=>pure ()) _ _ s
 refine AA (J2 b S hsc hs htg G hl (fun cenv acc W' σ' s' f m=>?_) fun e s' σ' hin fl=>⟨σ',AQ hb hin,fl⟩)
 obtain ⟨ds,hin,rd⟩:=m.out
 obtain ⟨mm,hn⟩:=m.ns
 obtain ⟨o,hf,hsub⟩:=AZ hb hin
 refine AH (hu _ _ W' σ' s' rd m.good o hf) (fun v s2 h=>?_) (fun e s2 h=>?_)
 ·obtain ⟨c,W2,σ2,hin2,G2,st2,_⟩:=h
  obtain ⟨oc,hoc,hnseq,_⟩:=BF hn
  have hn2:s2.heap.Ns cenv.locals mm:=by
   obtain ⟨o,es,ep,e,r⟩:=hn
   exact ⟨o,es,ep,m.off.kept st2 e,r⟩
  refine ⟨mm,hn2,fun h' hsb=>AD ?_⟩
  have kk:AU [cenv.locals] s2.heap h':=fun c o n e=>hsb.extBut c o (fun q=>n (by rw [q];exact .head _)) e
  have hff:∀ a∈[cenv.locals],∃ o,s2.heap.get? a=some o∧∀ vs n,o.data≠.seq vs n:=fun a ha=>by
   rw [List.mem_singleton.mp ha]
   obtain ⟨o,e,n1,_⟩:=BF hn2
   exact ⟨o,e,n1⟩
  have off2:=m.off.step ⟨_,hoc⟩ st2
  exact ⟨c,W2,σ2,hsub _ hin2,G2.alter b (t:=s2.toks) kk (fun a ha=>by rw [List.mem_singleton.mp ha];exact off2) (fun x d v zz rx=>GK b hff kk rx),(m.step.trans B m.good st2).alter kk (fun a ha=>by rw [List.mem_singleton.mp ha];exact m.new),trivial⟩
 ·obtain ⟨σ2,hin2,fl⟩:=h
  exact ⟨σ2,hsub _ hin2,fl.of_step m.step⟩
theorem Ws (b:AK B) (S:AX B C r) (hsc:A5 sc F.env) {elt:Expr} {gens:List Comprehension} {scope:Scope} {pos:Pos} {u:Value→Sem Unit} {m2:D→M Unit}
  (hu:∀ d acc W σ s,Rd B W s.heap d acc→Ok B C F W σ s (u acc) (m2 d) (fun zz zz zz zz=>True)) :
  Ok B C F W σ s (evalThenUse (.ListComp elt gens scope pos) F.env u) (EF T r (AJ B.G sc (.ListComp elt gens scope pos))>>=m2) (fun zz zz zz zz=>True):=by
 have bd:∀ t:Sem Unit,Ok B C F W σ s t ((bad:M D)>>=m2) (fun zz zz zz zz=>True):=fun t G outs ho=>by cases ho
 rcases F1 B.G sc elt gens scope pos with h | ⟨t,it,ifs,q,rfl,ht,q1,q2,q3,h⟩
 ·rw [h];exact bd _
 ·rw [h]
  refine Se (xs:=q.1) b S hsc q1 (fun c=>?_) hu
  rw [←q3]
  exact Rw ht (Lo (F:=C5 F scope (Cr F.env scope.names []) c) (Gw hsc q1) q2)
end
end
section
open PySem PySem.W
variable {B:Bs} {F F':Fv} {C:Value} {W W':Wd} {σ σ':St} {s s':Shared}
open PyProof.Rows
theorem Ok.useG {α β:Type} {t:Sem α} {m:M β} {R:Wd→Heap→β→α→Prop} (h:Good B F W σ s→Ok B C F W σ s t m R):Ok B C F W σ s t m R:=fun G=>h G G
theorem HU {x:Nm} {r:List Nm} (h:Bm (x::r)=true):x∉r∧Bm r=true:=by
 unfold Bm at h
 obtain ⟨a,b⟩:=Bool.and_eq_true_iff.mp h
 refine ⟨fun m=>?_,b⟩
 have:r.any (· == x)=true:=List.any_eq_true.mpr ⟨x,m,by simp⟩
 rw [this] at a;cases a
theorem Gz {x y:Nm} {d:D} {l:Rho}:Ay y ((x,d)::l)=if y=x then some d else Ay y l:=by
 simp only [Ay]
 by_cases h:y=x
 ·subst h;simp [AW.mpr rfl]
 ·rw [if_neg h]
  cases q:Ap y x with
  | true=>exact absurd (AW.mp q) h
  | false=>rfl
theorem Qk {y:Nm}:∀ {l:Rho},y∉l.map (·.1)→Ay y l=none:=by
 intro l
 induction l with
 | nil=>
  intro _
  exact rfl
 | cons zp l ih=>
  obtain ⟨x,d⟩:=zp
  intro h
  rw [Gz,if_neg (fun e=>h (by rw [e];exact .head _))]
  exact ih fun m=>h (.tail _ m)
theorem MO {y:Nm} {d:D}:∀ {l:Rho},Bm (l.map (·.1))=true→(Ay y l=some d↔(y,d)∈l):=by
 intro l
 induction l with
 | nil=>
  intro _
  exact ⟨fun h=>(by cases h),fun h=>(by cases h)⟩
 | cons zp l ih=>
  obtain ⟨x,e⟩:=zp
  intro h
  obtain ⟨h1,h2⟩:=HU h
  rw [Gz]
  by_cases q:y=x
  ·subst q
   rw [if_pos rfl]
   refine ⟨fun z=>by cases z;exact .head _,fun z=>?_⟩
   rcases List.mem_cons.mp z with z | z
   ·cases z;rfl
   ·exact absurd (List.mem_map.mpr ⟨(y,d),z,rfl⟩) h1
  ·rw [if_neg q,ih h2]
   refine ⟨.tail _,fun z=>?_⟩
   rcases List.mem_cons.mp z with z | z
   ·cases z;exact absurd rfl q
   ·exact z
theorem HX {y:Nm}:∀ {l ρ:Rho},Bm (l.map (·.1))=true→Ay y (Cu l ρ)=(match Ay y l with | some d=>some d | none=>Ay y ρ):=by
 intro l
 induction l with
 | nil=>
  intro ρ _
  exact rfl
 | cons zp l ih=>
  obtain ⟨x,d⟩:=zp
  intro ρ h
  obtain ⟨h1,h2⟩:=HU h
  show Ay y (Cu l (upd x d ρ))=_
  rw [ih h2,Gz,Ec]
  by_cases q:y=x
  ·subst q
   rw [Qk h1,if_pos rfl,if_pos rfl]
  ·rw [if_neg q,if_neg q]
theorem Nq:∀ {l:List Nm},Bm l=true↔l.Nodup:=by
 intro l
 induction l with
 | nil=>
  exact ⟨fun zz=>List.nodup_nil,fun zz=>rfl⟩
 | cons x r ih=>
  rw [List.nodup_cons,←ih]
  show (!(r.any (· == x))&&Bm r)=true↔_
  rw [Bool.and_eq_true]
  refine ⟨fun ⟨a,b⟩=>⟨fun m=>?_,b⟩,fun ⟨a,b⟩=>⟨?_,b⟩⟩
  ·have:r.any (· == x)=true:=List.any_eq_true.mpr ⟨x,m,by simp⟩
   rw [this] at a;cases a
  ·have:r.any (· == x)=false:=by
    rw [List.any_eq_false]
    intro z hz q
    exact a (eq_of_beq q▸hz)
   rw [this];rfl
theorem H8 {y:Nm} {d:D} {l ρ:Rho} (h:Bm (l.map (·.1))=true) (hl:Ay y (Cu l ρ)=some d):Ay y (Cu l.reverse ρ)=some d:=by
 have h':Bm (l.reverse.map (·.1))=true:=by
  rw [Nq] at h ⊢
  rw [List.map_reverse]
  exact List.pairwise_reverse.mpr (h.imp Ne.symm)
 rw [HX h] at hl
 rw [HX h']
 have key:∀ d,Ay y l.reverse=some d↔Ay y l=some d:=fun d=>by rw [MO h,MO h',List.mem_reverse]
 cases q:Ay y l with
 | some e=>
  rw [q] at hl
  rw [(key e).mpr q];exact hl
 | none=>
  rw [q] at hl
  have:Ay y l.reverse=none:=by
   cases z:Ay y l.reverse with
   | none=>rfl
   | some e=>rw [(key e).mp z] at q;cases q
  rw [this];exact hl
theorem Good.rho (G:Good B F W σ s) {ρ:Rho} (h:∀ y d,Ay y ρ=some d→Ay y σ.rho=some d):Good B F W {σ with rho:=ρ} s :=
 {ok:=G.ok,dep:=G.dep,depth:=G.depth,units:=G.units,stay0:=G.stay0,stayB:=G.stayB,frames:=G.frames,ns:=G.ns,cells:=G.cells,own:=G.own,src:=G.src,pins:=G.pins,vars:=fun x d e=>G.vars x d (h _ _ e),picks:=⟨G.picks.len,G.picks.cand,G.picks.cmps⟩,rest:=G.rest}
theorem Sb (b:AK B):∀ (names:List Str) (ds:List D) (vs:List Value) (W:Wd) (σ:St) (s:Shared),(∀ x∈names,BD F x)→RdL B W s.heap ds vs→names.length=ds.length→
  Ok B C F W σ s (assignInOrder (names.map fun n=>bindName F.env n) vs) (BJ ((names.map nm).zip ds)) (fun zz zz zz zz=>True):=by
 intro names
 induction names with
 | nil=>
  intro ds vs W σ s hk r hl
  cases r with
  | nil=>exact Ok.pure (b:=()) fun zz=>trivial
  | cons _ _ _ _ _ _=>cases hl
 | cons x names ih=>
  intro ds vs W σ s hk r hl
  cases r with
  | nil=>cases hl
  | cons d v ds vs rd rs=>
   show Ok B C F W σ s (PySem.holding vs (bindName F.env x v)>>=fun zz=>assignInOrder (names.map fun n=>bindName F.env n) vs) (BJ ((nm x,d)::(names.map nm).zip ds)) _
   rw [GD]
   refine Ok.bind (Ok.holding (EX b (hk x (.head _)) rd)) fun zz zz W1 σ1 s1 G st zz=>?_
   exact ih ds vs W1 σ1 s1 (fun z hz=>hk z (.tail _ hz)) (G.rdL b st rs) (by simpa using hl)
theorem RdL.reverse {h:Heap} {ds:List D}:∀ {vs:List Value},RdL B W h ds vs→RdL B W h ds.reverse vs.reverse:=by
 induction ds with
 | nil=>exact fun r=>by rw [show _=_ from r.inv];exact .nil
 | cons d ds ih=>
  intro vs r
  obtain ⟨v,us,ev,x,r⟩:=r.inv
  rw [ev,List.reverse_cons,List.reverse_cons]
  exact RdL.append (ih r) (.cons _ _ _ _ x .nil)
theorem IV {xs:List Nm}:∀ {ds:List D} {r:Rho},Ba xs ds=some r→r=xs.zip ds:=by
 induction xs with
 | nil=>
  intro ds r h
  cases ds with
  | nil=>exact (AB h).symm
  | cons _ _=>exact nsF h
 | cons x xs ih=>
  intro ds r h
  cases ds with
  | nil=>exact nsF h
  | cons d ds=>exact AO (show ((Ba xs ds).bind fun r=>some ((x,d)::r))=some r from h) fun r' hr h=>by rw [←AB h,ih hr];rfl
theorem map_fst_zip {xs:List Nm} {ds:List D} (h:ds.length=xs.length):(xs.zip ds).map (·.1)=xs:=by
 induction xs generalizing ds with
 | nil=>rfl
 | cons x xs ih=>
  cases ds with
  | nil=>cases h
  | cons d ds=>simp only [List.zip_cons_cons,List.map_cons];rw [ih (by simpa using h)]
theorem Nb (b:AK B) {names:List Str} {xs:List Nm} {d:D} {l:List D} {v:Value} {bnd:Rho} (hn:names.map nm=xs) (hnd:Bm xs=true) (hk:∀ x,nm x∈xs→BD F x) (r:Rd B W s.heap d v) (hl:DE d=some l)
  (hp:Ba xs l=some bnd):Ok B C F W σ s (do let items←unpackItems v names.length none;assignInOrder (names.reverse.map fun n=>bindName F.env n) items.reverse;pure Flow.next) (BJ bnd>>=fun zz=>pure Fl.next) (RdF B):=fun G outs ho=>by
 have hlen:=Fb hp
 have hnl:names.length=l.length:=by rw [←hn] at hlen;simpa using hlen.symm
 rw [hnl]
 refine AA (Ja b G r hl fun vs h' tk hk' rl=>?_)
 obtain ⟨G',st⟩:=G.grow b (t:=tk) hk'
 have hb:=Sb (C:=C) (F:=F) b names.reverse l.reverse vs.reverse W σ _ (fun x hx=>hk x (by rw [←hn];exact List.mem_map.mpr ⟨x,List.mem_reverse.mp hx,rfl⟩)) rl.reverse (by simp [hnl]) G' _ rfl
 refine AA (AH hb (fun u s2 h=>AD ?_) (fun e s2 h=>?_))
 ·obtain ⟨c,W2,σ2,hin,G2,st2,_⟩:=h
  rcases List.mem_cons.mp hin with e | e
  ·cases e
   cases ho
   refine ⟨.next,W2,{σ with rho:=Cu bnd σ.rho},.head _,?_,st.trans B G' st2,trivial⟩
   have:Good B F W2 {{σ with rho:=Cu ((names.reverse.map nm).zip l.reverse) σ.rho} with rho:=Cu bnd σ.rho} s2:=by
    refine G2.rho fun y d hy=>?_
    have e:(names.reverse.map nm).zip l.reverse=bnd.reverse:=by
     rw [IV hp,List.map_reverse,hn,List.zip_eq_zipWith,List.zip_eq_zipWith,List.reverse_zipWith (by omega)]
    show Ay y (Cu ((names.reverse.map nm).zip l.reverse) σ.rho)=some d
    rw [e]
    refine H8 ?_ hy
    rw [IV hp,map_fst_zip hlen];exact hnd
   exact this
  ·cases e
 ·obtain ⟨σ2,hin,_⟩:=h
  rcases List.mem_cons.mp hin with e | e<;>cases e
end
section
open PySem PySem.W
variable {B:Bs} {F F':Fv} {C:Value} {W W':Wd} {σ σ':St} {s s':Shared}
open PyProof.Rows
noncomputable abbrev FZ (B:Bs) (C:Value) (F:Fv) (st:Stmt) (m:M Fl):Prop:=∀ W σ s,Ok B C F W σ s (exec st F.env) m (RdF B)
section
variable {r:Rec} {T:Tab}
theorem A6 {st:Stmt}:FZ B C F st (bad:M Fl):=fun W σ s=>Ok.bad
theorem GG (G:Good B F W σ s) (hF:F.isFn=true):A5 F.env.scope.names F.env:=QD G.ok hF
theorem Sh (S:AX B C r) (hF:F.isFn=true) {e:Expr} {pos:Pos}:FZ B C F (.Return (some e) pos) (do let d←r.ev (AJ B.G F.env.scope.names e);pure (.ret d)):=fun W σ s=>Ok.useG fun G0=>by
 show Ok B C F W σ s (standAt pos>>=fun zz=>eval e F.env>>=fun v=>pure (Flow.ret v)) _ _
 refine Ok.at (Ok.bind (S.ev F _ e (GG G0 hF) W σ s) fun d v W1 σ1 s1 G st rd=>Ok.pure fun zz=>rd)
theorem Si (S:AX B C r) (hF:F.isFn=true) {t:Expr} {a e:List Stmt} {pos:Pos} :
  FZ B C F (.If t a e pos) (do match←r.tst (AJ B.G F.env.scope.names t) with | true=>r.ss (Ao B.G F.env.scope.names a) | false=>r.ss (Ao B.G F.env.scope.names e)):=fun W σ s=>Ok.useG fun G0=>by
 show Ok B C F W σ s (standAt pos>>=fun zz=>isTrue t F.env (eval t F.env)>>=fun c=>if c=true then execs a F.env else execs e F.env) _ _
 refine Ok.at (Ok.bind (S.tst F _ t (GG G0 hF) W σ s) fun c c' W1 σ1 s1 G st hc=>?_)
 have hc':c=c':=hc
 subst hc'
 cases c with
 | true=>exact S.ss F a hF W1 σ1 s1
 | false=>exact S.ss F e hF W1 σ1 s1
theorem Ea (ok:Xc B F):interactive F.env=false:=by
 unfold interactive
 rw [ok.kind];rfl
theorem QZ (S:AX B C r) (hF:F.isFn=true) {f:Expr} {args:List Expr} {kws:List Keyword} {p pos:Pos} :
  FZ B C F (.Expr (.Call f args kws p) pos) (do let d←r.ev (AJ B.G F.env.scope.names (.Call f args kws p));match d with | .non=>pure .next | _=>bad):=fun W σ s=>Ok.useG fun G0=>by
 show Ok B C F W σ s (standAt pos>>=fun zz=>if interactive F.env=true then printExpr (eval (.Call f args kws p) F.env) else (swapsWith (.Call f args kws p) none pos.line F.env>>=fun c=>if c=true then (evalThenUse (.Call f args kws p) F.env (fun zz=>point)>>=fun zz=>pure .next) else eval (.Call f args kws p) F.env>>=fun v=>dropValue (.Call f args kws p) pos v)) _ _
 rw [Ea G0.ok]
 refine Ok.at (Ok.skip false (fun Q E h=>AD h) ?_)
 refine Ok.bind (S.ev F _ _ (GG G0 hF) W σ s) fun d v W1 σ1 s1 G st rd=>?_
 cases rd with
 | non=>exact Ok.pure (b:=Fl.next) fun zz=>trivial
 | _=>exact Ok.bad
theorem Py {e:Expr} {t:Option Expr} {n:Nat} {env:Env} (h:∀ elt gens scope pos,e≠.ListComp elt gens scope pos) (hc:AJ B.G F.env.scope.names e≠.bad):swapsWith e t n env=pure false:=by
 cases e<;>first | rfl | exact absurd rfl (h _ _ _ _) | exact absurd rfl hc
theorem DV (G:Good B F W σ s) (hF:F.isFn=true) {x:Str} (ht:tgt true F.env.scope.names (nm x)=true):BD F x:=by
 unfold tgt at ht
 cases q:As (nm x) F.env.scope.names with
 | none=>rw [q] at ht;cases ht
 | some k=>
  rw [q] at ht
  cases k<;>first | exact ffF ht | exact .inl ((GG G hF).loc x q) | (rw [Ad] at q;exact .inr ⟨q,hF⟩)
theorem Mv {α β:Type} {f:α→M β} {l1 l2:List (Out α×St)}:BS f (l1++l2)=(BS f l1).bind fun a=>(BS f l2).bind fun b=>some (a++b):=by
 induction l1 with
 | nil=>
  show BS f l2=(BS f l2).bind fun b=>some ([]++b)
  cases BS f l2<;>rfl
 | cons p r ih=>
  show (JR f p).bind (fun x=>(BS f (r++l2)).bind fun l=>some (x++l))=((JR f p).bind fun x=>(BS f r).bind fun l=>some (x++l)).bind _
  rw [ih]
  cases JR f p with
  | none=>rfl
  | some x=>
   cases BS f r with
   | none=>rfl
   | some y=>cases BS f l2 with
    | none=>rfl
    | some z=>exact congrArg some (List.append_assoc x y z).symm
theorem NX {α β γ:Type} {f:α→M β} {g:β→M γ} {p:Out α×St}:JR (fun x=>f x>>=g) p=(JR f p).bind (BS g):=by
 obtain ⟨o,s⟩:=p
 cases o with
 | fault=>rfl
 | ok a=>
  show (match f a s with | some l=>BS g l | none=>none)=(f a s).bind (BS g)
  cases f a s<;>rfl
theorem OY {α β γ:Type} {f:α→M β} {g:β→M γ} {l:List (Out α×St)}:(match BS f l with | some l2=>BS g l2 | none=>none)=BS (fun x=>f x>>=g) l:=by
 induction l with
 | nil=>rfl
 | cons p r ih=>
  show _=(JR (fun x=>f x>>=g) p).bind fun x=>(BS (fun x=>f x>>=g) r).bind fun l=>some (x++l)
  rw [NX,←ih]
  change (match (JR f p).bind fun x=>(BS f r).bind fun l=>some (x++l) with | some l2=>BS g l2 | none=>none)=_
  cases JR f p with
  | none=>rfl
  | some x=>
   cases BS f r with
   | none=>
    show none=(BS g x).bind fun y=>none
    cases BS g x<;>rfl
   | some y=>exact Mv
theorem M.assoc {α β γ:Type} (m:M α) (f:α→M β) (g:β→M γ):(m>>=f)>>=g=(m>>=fun x=>f x>>=g):=by
 funext s
 show (match (match m s with | some l=>BS f l | none=>none) with | some l=>BS g l | none=>none)=(match m s with | some l=>BS (fun x=>f x>>=g) l | none=>none)
 cases m s with
 | none=>rfl
 | some l=>exact OY
theorem Um {x:Str} {p:Pos} {e:Expr} {env:Env}:swappedStores [.Name x p] e env=pure none:=by cases e<;>rfl
theorem Sj (b:AK B) (S:AX B C r) (hF:F.isFn=true) {x:Str} {p pos:Pos} {e:Expr} (ht:tgt true F.env.scope.names (nm x)=true) :
  FZ B C F (.Assign [.Name x p] e pos) (do let d←r.ev (AJ B.G F.env.scope.names e);B2 (nm x) d;pure .next):=fun W σ s=>Ok.useG fun G0=>by
 have hst:=DV G0 hF ht
 by_cases hbad:AJ B.G F.env.scope.names e=.bad
 ·rw [hbad,S.bad];exact fun zz zz ho=>by cases ho
 have plain:Ok B C F W σ s (eval e F.env>>=fun v=>swappedStores [.Name x p] e F.env>>=fun sw=>assignStores F.env v sw ((assignEach [.Name x p] F.env).map (·.2))) (do let d←r.ev (AJ B.G F.env.scope.names e);B2 (nm x) d;pure .next) (RdF B):=by
  refine Ok.bind (S.ev F _ e (GG G0 hF) W σ s) fun d v W1 σ1 s1 G st rd=>?_
  rw [Um]
  refine Ok.skip none (fun Q E h=>AD h) ?_
  show Ok B C F W1 σ1 s1 (assign (.Name x p) F.env v>>=fun zz=>pure Flow.next) (B2 (nm x) d>>=fun zz=>pure Fl.next) _
  exact Ok.bind (D5 b hst rd) fun zz zz W2 σ2 s2 G2 st2 zz=>Ok.pure fun zz=>trivial
 show Ok B C F W σ s (standAt pos>>=fun zz=>swapsWith e (some (.Name x p)) pos.line F.env>>=fun c=>if c=true then (evalThenUse e F.env (fun v=>assignAll v ((assignEach [.Name x p] F.env).map (·.2)))>>=fun zz=>pure Flow.next) else (eval e F.env>>=fun v=>swappedStores [.Name x p] e F.env>>=fun sw=>assignStores F.env v sw ((assignEach [.Name x p] F.env).map (·.2)))) _ _
 refine Ok.at ?_
 by_cases hc:∃ elt gens scope lpos,e=.ListComp elt gens scope lpos
 ·obtain ⟨elt,gens,scope,lpos,rfl⟩:=hc
  have sw:∃ c,swapsWith (.ListComp elt gens scope lpos) (some (.Name x p)) pos.line F.env=pure c:=⟨_,rfl⟩
  obtain ⟨c,hc⟩:=sw
  rw [hc]
  refine Ok.skip c (fun Q E h=>AD h) ?_
  cases c with
  | false=>exact plain
  | true=>
   have hu:=S.use F F.env.scope.names elt gens scope lpos (GG G0 hF) (fun v=>assignAll v ((assignEach [.Name x p] F.env).map (·.2))) (fun d=>B2 (nm x) d) (fun d acc W σ s rd=>D5 b hst rd) W σ s
   have:=Ok.bind (R':=RdF B) (f:=fun zz=>(pure Flow.next:Sem Flow)) (g:=fun zz=>(pure Fl.next:M Fl)) hu fun zz zz W1 σ1 s1 G st zz=>Ok.pure fun zz=>trivial
   exact this.eq rfl (M.assoc _ _ _).symm
 ·have:=Py (B:=B) (F:=F) (t:=some (.Name x p)) (n:=pos.line) (env:=F.env) (fun elt gens scope lpos q=>hc ⟨elt,gens,scope,lpos,q⟩) hbad
  rw [this]
  refine Ok.skip false (fun Q E h=>AD h) ?_
  rw [if_neg Bool.false_ne_true]
  exact plain
theorem Qf {env:Env} {line:Nat} {ts:List Expr}:∀ {xs:List Nm},targetsOf ts=some xs→
  (ts.filterMap fun t=>match t with | .Name id pos=>if (env.kindOf id == some .local&&pos.line == line)=true then some id else none | _=>none).length=ts.length→
  (ts.filterMap fun t=>match t with | .Name id pos=>if (env.kindOf id == some .local&&pos.line == line)=true then some id else none | _=>none).map nm=xs:=by
 induction ts with
 | nil=>exact fun h zz=>AB h
 | cons t ts ih=>
  intro xs h hl
  obtain ⟨x,p,ys,et,h1,ex⟩:=Du h
  rw [et,List.filterMap_cons] at hl
  rw [et,List.filterMap_cons,ex]
  dsimp only at hl ⊢
  by_cases q:(env.kindOf x == some .local&&p.line == line)=true
  ·rw [if_pos q] at hl ⊢
   exact congrArg (nm x::·) (ih h1 (Nat.succ.inj hl))
  ·rw [if_neg q] at hl
   exact absurd (Nat.le_of_eq hl.symm) (Nat.not_le_of_gt (Nat.lt_succ_of_le (List.length_filterMap_le _ _)))
theorem GV {α:Type} {c:Prop} [Decidable c] {k:Sem (Option α)} {R:Option α→Prop} (h:¬c→∃ o,k=pure o∧(o=none∨R o)):∃ o,(if c then pure none else k)=pure o∧(o=none∨R o):=by
 by_cases h1:c
 ·exact ⟨none,if_pos h1,.inl rfl⟩
 ·rw [if_neg h1]
  exact h h1
theorem R6 {ts:List Expr} {xs:List Nm} {k:Nat} {p:Pos} {e:Expr} {env:Env} (hx:targetsOf ts=some xs) (hc:Eb e=true):∃ o,swappedStores [.Tuple ts k p] e env=pure o∧(o=none∨∃ names,o=some names∧names.map nm=xs):=by
 by_cases he:∃ vs k2 p2,e=.Tuple vs k2 p2
 ·obtain ⟨vs,k2,p2,rfl⟩:=he
  have hc':(vs.all (constantsAlone 8))=false:=Sr hc
  delta swappedStores
  dsimp only
  refine GV fun zz=>GV fun zz=>GV fun hn=>GV fun zz=>?_
  rw [if_neg (by rw [hc'];exact Bool.false_ne_true)]
  exact ⟨_,rfl,.inr ⟨_,rfl,Qf hx (bne_eq_false_iff_eq.mp (Bool.or_eq_false_iff.mp (eq_false_of_ne_true hn)).1)⟩⟩
 ·refine ⟨none,?_,.inl rfl⟩
  cases e<;>first | rfl | exact absurd ⟨_,_,_,rfl⟩ he
theorem Px {ts:List Expr} {k:Nat} {p:Pos} {e:Expr} {n:Nat} {env:Env} (hb:AJ B.G F.env.scope.names e≠.bad):swapsWith e (some (.Tuple ts k p)) n env=pure false:=by
 cases e<;>first | rfl | exact absurd rfl hb
theorem D6 (b:AK B) {ts:List Expr} {xs:List Nm} {k:Nat} {p:Pos} {e:Expr} (hx:targetsOf ts=some xs) (hst:∀ x,nm x∈xs→BD F x) (hnd:Bm xs=true) (hc:Eb e=true) {d:D} {v:Value} {l:List D} (rd:Rd B W s.heap d v) (hl:DE d=some l) :
  Ok B C F W σ s (swappedStores [.Tuple ts k p] e F.env>>=fun sw=>assignStores F.env v sw ((assignEach [.Tuple ts k p] F.env).map (·.2))) (do let b←opt (Ba xs l);BJ b;pure Fl.next) (RdF B):=by
 obtain ⟨o,ho,hn⟩:=R6 (k:=k) (p:=p) (env:=F.env) hx hc
 rw [ho]
 refine Ok.skip o (fun Q E h=>AD h) ?_
 refine Ok.ghost (Gh.opt (P:=fun bnd=>Ba xs l=some bnd) fun bnd h=>h) fun bnd σ2 hp=>?_
 rcases hn with rfl | ⟨names,rfl,hnames⟩
 ·show Ok B C F W σ2 s (assign (.Tuple ts k p) F.env v>>=fun zz=>pure Flow.next) (BJ bnd>>=fun zz=>pure Fl.next) _
  exact Ok.bind (IZ b hx hst rd hl hp) fun zz zz W3 σ3 s3 zz zz zz=>Ok.pure fun zz=>trivial
 ·show Ok B C F W σ2 s (rule "assign.swapped-stores">>=fun zz=>unpackItems v names.length none>>=fun items=>assignInOrder (names.reverse.map fun n=>bindName F.env n) items.reverse>>=fun zz=>pure Flow.next) _ _
  exact Ok.skip () (fun Q E h=>wpAny_rule h) (Nb b hnames hnd hst rd hl hp)
theorem Qa (b:AK B) (S:AX B C r) (hF:F.isFn=true) {ts:List Expr} {xs:List Nm} {k:Nat} {p pos:Pos} {e:Expr} (hx:targetsOf ts=some xs) (ht:KR true F.env.scope.names xs=true) (hnd:Bm xs=true) (hc:Eb e=true) :
  FZ B C F (.Assign [.Tuple ts k p] e pos) (do
   let d←r.ev (AJ B.G F.env.scope.names e)
   match d with
   | .tup l=>do let b←opt (Ba xs l);BJ b;pure .next
   | .lst l=>do let b←opt (Ba xs l);BJ b;pure .next
   | _=>bad):=fun W σ s=>Ok.useG fun G0=>by
 have hst:∀ x,nm x∈xs→BD F x:=fun x hxx=>DV G0 hF (List.all_eq_true.mp ht _ hxx)
 by_cases hbad:AJ B.G F.env.scope.names e=.bad
 ·rw [hbad,S.bad];exact fun zz zz ho=>by cases ho
 show Ok B C F W σ s (standAt pos>>=fun zz=>swapsWith e (some (.Tuple ts k p)) pos.line F.env>>=fun c=>if c=true then (evalThenUse e F.env (fun v=>assignAll v ((assignEach [.Tuple ts k p] F.env).map (·.2)))>>=fun zz=>pure Flow.next) else (eval e F.env>>=fun v=>swappedStores [.Tuple ts k p] e F.env>>=fun sw=>assignStores F.env v sw ((assignEach [.Tuple ts k p] F.env).map (·.2)))) _ _
 refine Ok.at ?_
 rw [Px hbad]
 refine Ok.skip false (fun Q E h=>AD h) ?_
 rw [if_neg Bool.false_ne_true]
 refine Ok.bind (S.ev F _ e (GG G0 hF) W σ s) fun d v W1 σ1 s1 G st rd=>?_
 cases d with
 | tup l=>exact D6 b hx hst hnd hc rd rfl
 | lst l=>exact D6 b hx hst hnd hc rd rfl
 | _=>exact Ok.bad
end
end
section
open PySem PySem.W
variable {B:Bs} {F F':Fv} {C:Value} {W W':Wd} {σ σ':St} {s s':Shared}
open PyProof.Rows
theorem GN {α:Type}:∀ {l:List (Out α×St)},Hv l=true→∀ σ',(Out.fault,σ')∉l
 | [],_,σ',h=>by cases h
 | (.fault,s)::r,h,σ',_=>by cases h
 | (.ok a,s)::r,h,σ',hm=>by
  rcases List.mem_cons.mp hm with e | hm
  ·cases e
  ·exact GN (l:=r) h σ' hm
theorem QE {α:Type} {m:M α} {outs:List (Out α×St)} (h:Ur m σ=some outs):m σ=some outs∧∀ σ',(Out.fault,σ')∉outs:=by
 unfold Ur at h
 cases hm:m σ with
 | none=>rw [hm] at h;cases h
 | some l=>
  rw [hm] at h
  simp only at h
  cases q:Hv l with
  | false=>rw [q] at h;cases h
  | true=>rw [q] at h;cases h;exact ⟨rfl,GN q⟩
section
variable {r:Rec} {T:Tab} {k:ItK} {x:Str} {p:Pos} {body:List Stmt} {W0:Wd} {h0:Heap} {ds:List D}
theorem IW (b:AK B) (S:AX B C r) (hF:F.isFn=true) (hx:BD F x) (hk:k.isE=false) (hex:∀ a∈k.ex,h0.get? a=none) (hsrc:∀ a,k.src=some a→a≠B.S) :
  ∀ (l:List D) (i:Nat) (W:Wd) (σ:St) (s:Shared),ds.drop i=l→i≤ds.length→Good B F W σ s→k.At i s.heap→k.Rds B W s.heap ds→(∀ a∈k.ex,Off B F W a)→Step B F W0 h0 W s.heap→
   ∀ outs,PD r (nm x) (Ao B.G F.env.scope.names body) l σ=some outs→(∀ σ',(Out.fault,σ')∉outs)→
   codeAny (mdl B) F.A (.forLoop (.Name x p) (.ref k.I) body [] F.env) (fun res s'=>match res with
    | .ok f=>∃ fl W' σ',(Out.ok fl,σ')∈outs∧Good B F W' σ' s'∧Step B F W0 h0 W' s'.heap∧RdF B W' s'.heap fl f
    | .error e=>False) s
 | [],i,W,σ,s,hl,hil,G,at_,rd,off,si,outs,ho,hnf=>by
  cases ho
  refine codeAny_of_tree ?_
  show wpAny _ F.A ((forTurn (.Name x p) (.ref k.I) body [] F.env).onRaise (fun x=>do noteFrame x F.env;theTreesLotGoes x)) _ _ s
  refine wpAny_noted ?_
  simp only [forTurn]
  have hi:i=k.len:=by
   have:=congrArg List.length hl
   have h2:=rd.length
   simp at this
   omega
  subst hi
  refine AA (wpAny_standAt (AA (wpAny_onRaise (GU G.ok.handled at_ fun h' tk kk=>AD ⟨rfl,codeAny_block (AD ?_)⟩))))
  exact ⟨.next,W,σ,.head _,G.alter b (t:=tk) kk off fun x d v zz rx=>Cj b at_.fields kk rx,si.alter kk hex,trivial⟩
 | d::l,i,W,σ,s,hl,hil,G,at_,rd,off,si,outs,ho,hnf=>by
  obtain ⟨hd,hl'⟩:=J1 hl
  have hil':i + 1≤ds.length:=(List.getElem?_eq_some_iff.mp hd).1
  obtain ⟨l1,ho1,hb1⟩:=AS ho
  refine codeAny_of_tree ?_
  show wpAny _ F.A ((forTurn (.Name x p) (.ref k.I) body [] F.env).onRaise (fun x=>do noteFrame x F.env;theTreesLotGoes x)) _ _ s
  refine wpAny_noted ?_
  simp only [forTurn]
  refine AA (wpAny_standAt (AA (wpAny_onRaise (E7 b G.ok.handled hk at_ hd rd fun v h2 t2 k2 at2 rv=>?_))))
  have G2:=G.alter b (t:=t2) k2 off fun x d v zz rx=>Cj b at_.fields k2 rx
  have si2:=si.alter k2 hex
  have rd2:=rd.kept b at_.fields k2
  refine AA (AD ?_)
  refine AA (AH (D5 (C:=C) b hx rv G2 l1 ho1) (fun zz s3 h=>?_) (fun e s3 h=>?_))
  rotate_left
  ·obtain ⟨σ3,hin,_⟩:=h
   exact absurd (AQ hb1 hin) (hnf σ3)
  obtain ⟨c3,W3,σ3,hin3,G3,st3,_⟩:=h
  obtain ⟨o3,hf3,hs3⟩:=AZ hb1 hin3
  obtain ⟨l4,ho4,hb4⟩:=AS hf3
  have at3:=at2.step b G2 st3 off hsrc
  have rd3:=rd2.step b G2 st3
  have off3:∀ a∈k.ex,Off B F W3 a:=fun a ha=>(off a ha).step (let ⟨o,_,e,_⟩:=at2.fields a ha;⟨o,e⟩) st3
  refine AA (AH (S.ss F body hF W3 σ3 s3 G3 l4 ho4) (fun f s4 h=>?_) (fun e s4 h=>?_))
  rotate_left
  ·obtain ⟨σ4,hin,_⟩:=h
   exact absurd (hs3 _ (AQ hb4 hin)) (hnf σ4)
  obtain ⟨fl,W4,σ4,hin4,G4,st4,rf⟩:=h
  obtain ⟨o4,hf4,hs4⟩:=AZ hb4 hin4
  have st34:=(si2.trans B G2 st3).trans B G3 st4
  cases fl with
  | ret d4=>
   cases f with
   | ret v4=>
    cases hf4
    exact AD ⟨.ret d4,W4,σ4,hs3 _ (hs4 _ (.head _)),G4,st34,rf⟩
   | _=>exact rf.elim
  | next=>
   cases f with
   | next=>
    have at4:=at3.step b G3 st4 off3 hsrc
    have rd4:=rd3.step b G3 st4
    have off4:∀ a∈k.ex,Off B F W4 a:=fun a ha=>(off3 a ha).step (let ⟨o,_,e,_⟩:=at3.fields a ha;⟨o,e⟩) st4
    refine AD ⟨rfl,codeAny_mono (IW b S hF hx hk hex hsrc l (i + 1) W4 σ4 s4 hl' hil' G4 at4 rd4 off4 st34 o4 hf4 (fun σ' hm=>hnf σ' (hs3 _ (hs4 _ hm)))) fun res s5 h=>?_⟩
    cases res with
    | ok f=>
     obtain ⟨fl,W',σ',hin,r'⟩:=h
     exact ⟨fl,W',σ',hs3 _ (hs4 _ hin),r'⟩
    | error e=>exact h.elim
   | _=>exact rf.elim
theorem QY (b:AK B) (S:AX B C r) (hF:F.isFn=true) {iter:Expr} {pos:Pos} (ht:tgt true F.env.scope.names (nm x)=true) (he:Cd (Aw B.G F.env.scope.names iter)=false) :
  FZ B C F (.For (.Name x p) iter body [] pos) (do
   let l←Ee r (Aw B.G F.env.scope.names iter)
   match small l with | true=>Ur (PD r (nm x) (Ao B.G F.env.scope.names body) l) | false=>bad):=fun W σ s=>Ok.useG fun G0 G outs ho=>by
 have hx:=DV G0 hF ht
 obtain ⟨l1,ho1,hb1⟩:=AS ho
 have hfold:∀ y,foldedSetIterable iter F.env y=pure y:=by
  rcases Jx (G:=B.G) (sc:=F.env.scope.names) (iter:=iter) (env:=F.env) with h | h
  ·exact h
  ·rw [JE h,Ik S.bad] at ho1;cases ho1
 refine wpAny_For (MT b S (GG G0 hF) G ho1 (fun ds itv W1 σ1 sa h1 tk hin Ga sta hka ir=>?_) (fun e s' σ' hin fl=>⟨σ',AQ hb1 hin,fl⟩)) hfold
 obtain ⟨k,rfl,at_,rd,off,hfresh,hsrc,hkE⟩:=ir
 obtain ⟨o2,hf2,hs2⟩:=AZ hb1 hin
 cases hsm:small ds with
 | false=>rw [hsm] at hf2;cases hf2
 | true=>
  rw [hsm] at hf2
  obtain ⟨hf3,hnf⟩:=QE hf2
  obtain ⟨G1,st1⟩:=Ga.grow b (t:=tk) hka
  refine codeAny_mono (IW (C:=C) (p:=p) (W0:=W1) (h0:=sa.heap) (ds:=ds) b S hF hx (hkE.trans he) hfresh hsrc ds 0 W1 σ1 {sa with heap:=h1,toks:=tk} rfl (Nat.zero_le _) G1 at_ rd off st1 o2 hf3 hnf) fun res s5 h=>?_
  cases res with
  | ok f=>
   obtain ⟨fl,W',σ',hin',G',st',rf⟩:=h
   exact ⟨fl,W',σ',hs2 _ hin',G',sta.trans B Ga st',rf⟩
  | error e=>exact h.elim
end
end
section
open PySem PySem.W
variable {B:Bs} {F F':Fv} {C:Value} {W W':Wd} {σ σ':St} {s s':Shared}
open PyProof.Rows
theorem Good.own2 (b:AK B) (G:Good B F W σ s) {a:Addr} {h':Heap} {t:Nat} {ρ:Rho} (ha:a∈F.own) (hk:∀ c o,c≠a→s.heap.get? c=some o→h'.get? c=some o)
  (ho:∃ o,h'.get? a=some o∧(∀ vs n,o.data≠.seq vs n)∧∀ vs,o.data≠.fields vs) (hns:∃ m,h'.Ns F.env.locals m)
  (hc:∀ x c,F.env.cells.lookup x=some c→∃ ov,h'.IsCell c ov) (hv:Step B F W s.heap W h'→Xa B F W h' ρ) :
  Good B F W {σ with rho:=ρ} {s with heap:=h',toks:=t}∧Step B F W s.heap W h':=by
 obtain ⟨_,n0,nB⟩:=G.own a ha
 have st:Step B F W s.heap W h':=⟨List.prefix_refl _,fun zz h=>h,fun zz h=>h,fun c o e n1 n2=>by
  have:h'.get? c=some o:=hk c o (fun q=>n1 (q▸ha)) e
  exact ⟨fun zz=>this,o.slots,this⟩⟩
 have hS:B.S≠a:=fun q=>by
  obtain ⟨⟨o,e,n,_⟩,_⟩:=G.own a ha
  obtain ⟨⟨vs,⟨k,e'⟩,_⟩,_⟩:=G.src
  rw [q,e] at e';cases e';exact n _ _ rfl
 refine ⟨{ok:=G.ok,dep:=G.dep,depth:=G.depth,units:=G.units,stay0:=fun c o e=>?_,stayB:=fun c o e=>?_,frames:=?_,ns:=hns,cells:=hc,own:=?_,src:=?_,pins:=?_,vars:=hv st,picks:=⟨G.picks.len,G.picks.cand,G.picks.cmps⟩,rest:=G.rest},st⟩
 ·exact hk c o (fun q=>by rw [q,n0] at e;cases e) (G.stay0 c o e)
 ·exact hk c o (fun q=>by rw [q,nB] at e;cases e) (G.stayB c o e)
 ·have:∀ l:List Env,s.heap.FunFrames F.base l→h'.FunFrames F.base l:=by
   intro l
   induction l with
   | nil=>intro _;trivial
   | cons env rest ih=>
    rintro ⟨hkd,⟨L,o,hf,hn,hL,hd⟩,hr⟩
    refine ⟨hkd,?_,ih hr⟩
    by_cases q:L=a
    ·subst q
     obtain ⟨o',e,_,nf⟩:=ho
     exact ⟨L,o',hf,hn,e,nf⟩
    ·exact ⟨L,o,hf,hn,hk L o q hL,hd⟩
  exact this _ G.frames
 ·intro c m
  by_cases q:c=a
  ·subst q;exact ⟨ho,n0,nB⟩
  ·obtain ⟨⟨o,e,n⟩,r⟩:=G.own c m
   exact ⟨⟨o,hk c o q e,n⟩,r⟩
 ·obtain ⟨⟨vs,⟨n,e⟩,r⟩,q⟩:=G.src
  exact ⟨⟨vs,⟨n,hk _ _ hS e⟩,r⟩,q⟩
 ·intro p hp
  obtain ⟨e,n,r⟩:=G.pins p hp
  exact ⟨hk _ _ (fun q=>n (by rw [q];exact ha)) e,n,r⟩
theorem NG (G:Good B F W σ s) {x:Str} {v:Value} (hk:BD F x) {Q:Unit→Shared→Prop} {E:VP}
  (hQ:∀ h' a tk,a∈F.own→Heap.SameBut a s.heap h'→(∃ o,h'.get? a=some o∧(∀ vs n,o.data≠.seq vs n)∧∀ vs,o.data≠.fields vs)→(∃ m,h'.Ns F.env.locals m)→(∀ y c,F.env.cells.lookup y=some c→∃ ov,h'.IsCell c ov)→
   DA F.env h' x v→(∀ y u,nm y≠nm x→DA F.env s.heap y u→DA F.env h' y u)→Q () {s with heap:=h',toks:=tk}) :
  wpAny (mdl B) F.A (storeName F.env x v) Q E s:=by
 obtain ⟨m,hn⟩:=G.ns
 rcases hk with hl | ⟨hl,hF⟩
 ·refine wpAny_storeName_local hl hn (fun h' hn' hs=>?_) (by rw [G.ok.kind];rfl)
  refine hQ h' _ _ G.ok.loc hs (BF hn') ⟨_,hn'⟩ (fun y c e=>let ⟨ov,q⟩:=G.cells y c e;⟨ov,q.sameBut hs (G.ok.apart y c e)⟩) (.inl ⟨hl,_,hn',by simp⟩) fun y u q hu=>?_
  rcases hu with ⟨a,m',n,e'⟩ | ⟨a,c,e',n⟩
  ·refine .inl ⟨a,_,hn',?_⟩
   show (if y=x then some v else m y)=some u
   rw [if_neg (fun z=>q (by rw [z])),Jn hn n];exact e'
  ·exact .inr ⟨a,c,e',n.sameBut hs (G.ok.apart y c e')⟩
 ·obtain ⟨c,hc,hco⟩:=G.ok.cell hF x hl
  obtain ⟨ov,hcell⟩:=G.cells x c hc
  refine wpAny_storeName_cell G.ok.kind hl hc hcell (fun h' hc' hs=>?_)
  refine hQ h' c _ hco hs (BP hc') ⟨_,hn.sameBut hs (fun q=>G.ok.apart x c hc q.symm)⟩ (fun y c' e=>?_) (.inr ⟨.inl hl,c,hc,hc'⟩) fun y u q hu=>?_
  ·by_cases q:c'=c
   ·subst q;exact ⟨_,hc'⟩
   ·exact let ⟨ov,z⟩:=G.cells y c' e;⟨ov,z.sameBut hs q⟩
  ·rcases hu with ⟨a,m',n,e'⟩ | ⟨a,c',e',n⟩
   ·exact .inl ⟨a,m',n.sameBut hs (fun z=>G.ok.apart x c hc z.symm),e'⟩
   ·exact .inr ⟨a,c',e',n.sameBut hs (fun z=>q (by subst z;rw [G.ok.inj _ _ _ e' hc]))⟩
noncomputable abbrev FV (h h':Heap):Prop:=∀ a vs,h.IsTuple a vs→h'.IsTuple a vs
theorem FV.of {h h':Heap} (k:∀ c o,h.get? c=some o→h'.get? c=some o):FV h h':=fun a vs ⟨o,e,r⟩=>⟨o,k a o e,r⟩
theorem Ji {l:List D} (h:Mine.small l=true):l.length≤2 ^ 20:=Cw h
noncomputable def CEv (B:Bs) (env:Env) (A:Around) (E:VP) (n:Nat):Prop:=∀ (e:Expr) (d:D) (s:Shared) (Q:VP),B8 n e=some d→
  (∀ v h' tk,(∀ c o,s.heap.get? c=some o→h'.get? c=some o)→(∀ h'',FV h' h''→∀ W,Rd B W h'' d v)→Q v {s with heap:=h',toks:=tk})→wpAny (mdl B) A (eval e env) Q E s
theorem JC {n:Nat} {e:Expr} {d:D} {G:Prop} (h:B8 (n + 1) e=some d) (k1:∀ c k p,e=.Constant c k p→JD c=some d→G)
  (k2:∀ es k p ds,e=.Tuple es k p→My (B8 n) es=some ds→Nat.ble ds.length 100=true→some (.tup ds)=some d→G):G:=by
 change (match constOf e with | some c=>JD c | none=>(M5 e).bind fun es=>(My (B8 n) es).bind fun ds=>B7 (Nat.ble ds.length 100) (some (.tup ds)))=some d at h
 cases hc:constOf e with
 | some c=>
  rw [hc] at h
  obtain ⟨k,p,e1⟩:=C4 hc
  exact k1 c k p e1 h
 | none=>
  rw [hc] at h
  refine AO h fun es he h=>AO h fun ds hd h=>?_
  obtain ⟨k,p,e1⟩:=KP he
  obtain ⟨h1,h⟩:=Bi h
  exact k2 es k p ds e1 hd h1 h
theorem Hf {n:Nat} {e:Expr} {d:D} (h:B8 n e=some d):Ai e:=by
 cases n with
 | zero=>cases h
 | succ n=>exact JC h (fun zz zz zz e zz=>e▸trivial) fun zz zz zz zz e zz zz zz=>e▸trivial
theorem RY {α β:Type} {f:α→Option β} {x:α} {r:List α}:My f (x::r)=(match f x with | some d=>(match My f r with | some ds=>some (d::ds) | none=>none) | none=>none):=rfl
theorem Mo {env:Env} {A:Around} {E:VP} {pos:Pos} {n:Nat} (ih:CEv B env A E n) (es:List Expr):∀ (ds:List D) (s:Shared) (Q:List Value→Shared→Prop),My (B8 n) es=some ds→
  (∀ vs h' tk,(∀ c o,s.heap.get? c=some o→h'.get? c=some o)→(∀ h'',FV h' h''→∀ W,RdL B W h'' ds vs)→Q vs {s with heap:=h',toks:=tk})→wpAny (mdl B) A (spliced (backTo pos (starEach es env))) Q E s:=by
 induction es with
 | nil=>
  intro ds s Q h hQ
  cases h
  exact AD (hQ [] s.heap s.toks (fun zz zz e=>e) fun zz zz zz=>.nil)
 | cons e es ihl=>
  intro ds s Q h hQ
  rw [RY] at h
  cases hd:B8 n e with
  | none=>rw [hd] at h;cases h
  | some d=>
   rw [hd] at h
   dsimp only at h
   cases hds:My (B8 n) es with
   | none=>rw [hds] at h;cases h
   | some ds'=>
    rw [hds] at h;cases h
    rw [AL (Hf hd)]
    show wpAny (mdl B) A (do
     let v←eval e env
     let here←(pure [v]:Sem (List Value))
     return here++(←PySem.holding here (spliced (backTo pos (starEach es env))))) Q E s
    refine AA (ih e d s _ hd fun v h1 tk k1 r1=>?_)
    refine AA (AD (AA (AG ?_)))
    refine ihl ds' _ _ hds fun vs h2 tk2 k2 r2=>AD ?_
    exact hQ (v::vs) h2 tk2 (fun c o e=>k2 c o (k1 c o e)) fun h'' k3 W=>.cons _ _ _ _ (r1 h'' (fun a us x=>k3 _ _ (FV.of k2 _ _ x)) W) (r2 h'' k3 W)
theorem JB {env:Env} {A:Around} {E:VP}:∀ (n:Nat),CEv B env A E n:=fun n=>by
 induction n with
 | zero=>intro e d s Q h;cases h
 | succ n ih=>
  intro e d s Q h hQ
  refine JC h (fun c k p e1 h=>?_) fun es k p ds e1 ha hs h=>?_
  ·rw [e1,arm_eval_Constant]
   cases c with
   | none=>cases h;exact AD (hQ _ s.heap s.toks (fun zz zz e=>e) fun zz zz zz=>.non)
   | bool x=>cases h;exact AD (hQ _ s.heap s.toks (fun zz zz e=>e) fun zz zz zz=>.boo x)
   | int i=>cases h;exact wpAny_mkInt (hQ _ s.heap _ (fun zz zz e=>e) fun zz zz zz=>.int _ _)
   | str x=>cases h;exact wpAny_mkText (hQ _ s.heap _ (fun zz zz e=>e) fun zz zz zz=>.str _ _ _ rfl)
   | bytes x=>cases h;exact wpAny_mkTextBytes (hQ _ s.heap _ (fun zz zz e=>e) fun zz zz zz=>.byt _ _ _ rfl)
   | _=>cases h
  ·rw [e1,arm_eval_Tuple]
   refine AA (wpAny_standAt (AA ?_))
   refine Mo ih es ds s _ ha fun vs h' tk k1 r=>?_
   have hl:vs.length=ds.length:=RdL.length (r h' (fun zz zz x=>x) ⟨[],[]⟩)
   refine wpAny_newTuple ?_ (by rw [hl];exact Nat.le_trans (Ji (l:=ds) hs) Ag)
   refine hQ _ _ _ (fun c o e=>AE _ (k1 c o e)) fun h'' k2 W=>?_
   rw [←AB h]
   refine .tup _ vs.toArray ds (k2 _ _ Co) ?_
   simpa using r h'' (fun a us x=>k2 _ _ (FV.of (fun c o e=>AE _ e) _ _ x)) W
end
section
open PySem PySem.W
variable {B:Bs} {F F':Fv} {C:Value} {W W':Wd} {σ σ':St} {s s':Shared}
open PyProof.Rows
theorem DA.keepBut {env:Env} {h h':Heap} {x:Str} {v:Value} {n:Addr} (k:∀ c o,c≠n→h.get? c=some o→h'.get? c=some o) (hn:∃ o vs m,h.get? n=some o∧o.data=.seq vs m) (y:DA env h x v):DA env h' x v:=by
 obtain ⟨on,vsn,mn,e0,d0⟩:=hn
 rcases y with ⟨a,m,q,e⟩ | ⟨a,c,e,q⟩
 ·obtain ⟨o,e1,n1,_⟩:=BF q
  obtain ⟨o',es,ep,e2,r⟩:=q
  refine .inl ⟨a,m,⟨o',es,ep,k _ _ (fun z=>?_) e2,r⟩,e⟩
  rw [z,e0] at e1;cases e1;exact n1 _ _ d0
 ·obtain ⟨o,e1,n1,_⟩:=BP q
  obtain ⟨o',e2,r⟩:=q
  refine .inr ⟨a,c,e,⟨o',k _ _ (fun z=>?_) e2,r⟩⟩
  rw [z,e0] at e1;cases e1;exact n1 _ _ d0
theorem Ub {env:Env} {x:Str} {v:Value} {A:Around} {Q:VP} {E:VP} (hk:env.scope.kind=.function) (hr:Ax x=false) (hv:DA env s.heap x v) (hQ:Q v s):wpAny (mdl B) A (loadName env x) Q E s:=by
 rcases hv with ⟨a,m,n,e⟩ | ⟨a | a,c,e,n⟩
 ·exact wpAny_loadName_local hk a n e hQ
 ·exact wpAny_loadName_cell hk a e n hQ
 ·exact wpAny_loadName_free hk a e n hQ (BB hr).2
theorem QV (b:AK B) {x:Str} {p yp ap cp pos:Pos} {e:Expr} {ds:List D} {vs:List Value} {d:D} (hst:BD F x) (hr:Ax x=false) (hc:B8 4 e=some d)
  (rd:RdL B W s.heap ds vs) (hs:small ds=true) (hl:ap.endLine=cp.line) :
  Ok B C F W σ s (newList vs>>=fun v=>assign (.Name x p) F.env v>>=fun zz=>exec (.Expr (.Call (.Attribute (.Name x yp) "append" ap) [e] [] cp) pos) F.env) (B2 (nm x) (.lst (ds++[d]))) (fun zz zz zz f=>f=.next):=fun G outs ho=>by
 cases ho
 have hlen:vs.length=ds.length:=RdL.length rd
 have hls:=Ji hs
 have hp:Ai e:=Hf hc
 refine MZ fun Q E hQ zz=>?_
 refine AA (wpAny_newList ?_ (by rw [hlen];exact Nat.le_trans hls Ag))
 obtain ⟨n,hn⟩:∃ n,n=s.heap.objs.size:=⟨_,rfl⟩
 have k1:∀ c o,s.heap.get? c=some o→(s.heap.push {cls:=.type "list",data:=.seq vs.toArray}).get? c=some o:=fun c o e=>AE _ e
 have pl1:(s.heap.push {cls:=.type "list",data:=.seq vs.toArray}).PlainList n vs.toArray:=by rw [hn];exact ⟨0,Heap.get?_push_size _ rfl⟩
 have live:∀ c o,s.heap.get? c=some o→c≠n:=fun c o e q=>by
  rw [q,hn] at e;exact Nat.lt_irrefl _ (Heap.lt_size e)
 have nS:n≠B.S:=by rw [hn];exact G.freshS
 rw [←hn]
 generalize hh1:s.heap.push {cls:=.type "list",data:=.seq vs.toArray}=h1 at k1 pl1 ⊢
 obtain ⟨G1,st1⟩:=G.grow b (t:=s.toks) k1
 have e1:assign (.Name x p) F.env (.ref n)=(standAt p>>=fun zz=>bindName F.env x (.ref n)):=rfl
 rw [e1]
 refine AA (AA (wpAny_standAt ?_))
 unfold bindName
 refine AA (AG (wpAny_point (AA (NG G1 hst fun h2 a tk ha hsb hob hns2 hcl2 hv2 hk2=>wpAny_point ?_))))
 have han:a≠n:=fun q=>by
  obtain ⟨⟨o,e,_⟩,_⟩:=G.own a ha
  exact live a o e q
 have pl2:h2.PlainList n vs.toArray:=by
  obtain ⟨m,e⟩:=pl1
  exact ⟨m,(hsb.2 n (Ne.symm han)).trans e⟩
 rw [arm_exec_Expr,Ea G.ok]
 refine AA (wpAny_standAt ?_)
 simp only [Bool.false_eq_true,if_false]
 have e2:swapsWith (.Call (.Attribute (.Name x yp) "append" ap) [e] [] cp) none pos.line F.env=pure false:=rfl
 rw [e2]
 refine AA (AD ?_)
 simp only [Bool.false_eq_true,if_false]
 rw [arm_eval_Call]
 have e3:attributeBase (.Name x yp) "append" F.env (eval (.Name x yp) F.env)=eval (.Name x yp) F.env:=rfl
 rw [e3,eval_Name F.env x yp (BB hr).1]
 refine AA (AA (AA (wpAny_standAt (Ub G.ok.kind hr hv2 ?_))))
 refine AA (wpAny_standAt ?_)
 unfold methodCall
 have few:methodCallForm ([e].length + ([]:List Keyword).length) (backTo cp (starEach [e] F.env)) (backToKw cp (keywordEach [] F.env))=true:=by
  show ((backTo cp (starEach [e] F.env)).all (fun x=>!x.1)&&true&&decide (1 + 0 + 0 < 30))=true
  rw [AL hp];rfl
 rw [few]
 refine AA (AG ?_)
 unfold calleeOf
 simp only [if_true]
 obtain ⟨m2,hm2⟩:=pl2
 refine Calls.getMethod_list_append hm2 rfl rfl ?_
 refine AA (m:=methodCallPos true (.Name x yp) F.env ap cp) ?_
 unfold methodCallPos
 rw [if_pos (by simp [hl])]
 refine AD ?_
 have se:backTo cp (starEach [e] F.env)=[(false,eval e F.env)]:=by rw [AL hp];rfl
 rw [se]
 refine Calls.callWith_builtin rfl (Calls.evalArgs_plain (Calls.spliced_cons ?_))
 refine JB 4 e d _ _ hc fun v h3 tk3 k3 r3=>Calls.spliced_nil ?_
 have pl3:h3.PlainList n vs.toArray:=⟨m2,k3 _ _ hm2⟩
 refine wpAny_list_append_plain (items:=vs.toArray) pl3 (fun h4 pl4 sb4=>?_) (by simp [hlen];exact Nat.le_trans hls Ag)
 rw [dropValue_plain (by intro a q;cases q)]
 refine AD ?_
 have k34:∀ c o,c≠n→h3.get? c=some o→h4.get? c=some o:=fun c o q e=>(sb4.2 c q).trans e
 have k24:∀ c o,c≠n→h2.get? c=some o→h4.get? c=some o:=fun c o q e=>k34 c o q (k3 c o e)
 have kk:∀ c o,c≠a→s.heap.get? c=some o→h4.get? c=some o:=fun c o q e=>k24 c o (live c o e) ((hsb.2 c q).trans (k1 c o e))
 have seq2:∃ o us m,h2.get? n=some o∧o.data=.seq us m:=⟨_,_,_,hm2,rfl⟩
 have nsk:∀ {m:SV} {L:Addr},h2.Ns L m→h4.Ns L m:=fun {m L} q=>by
  obtain ⟨o,e1,n1,_⟩:=BF q
  obtain ⟨o',es,ep,e2,r⟩:=q
  refine ⟨o',es,ep,k24 _ _ (fun z=>?_) e2,r⟩
  rw [z,hm2] at e1;cases e1;exact n1 _ _ rfl
 have clk:∀ {ov:Option Value} {c:Addr},h2.IsCell c ov→h4.IsCell c ov:=fun {m L} q=>by
  obtain ⟨o,e1,n1,_⟩:=BP q
  obtain ⟨o',e2,r⟩:=q
  refine ⟨o',k24 _ _ (fun z=>?_) e2,r⟩
  rw [z,hm2] at e1;cases e1;exact n1 _ _ rfl
 obtain ⟨GF,stF⟩:=G.own2 b (h':=h4) (t:=tk3) (ρ:=upd (nm x) (.lst (ds++[d])) σ.rho) ha kk
  (by obtain ⟨o,e,r⟩:=hob;exact ⟨o,k24 _ _ han e,r⟩) (by obtain ⟨m,q⟩:=hns2;exact ⟨m,nsk q⟩) (fun y c e=>by obtain ⟨ov,q⟩:=hcl2 y c e;exact ⟨ov,clk q⟩)
  (fun st y e' hy=>by
   rw [Ec] at hy
   by_cases q:nm y=nm x
   ·rw [if_pos q] at hy;cases hy
    have:=Aj q;subst this
    refine ⟨.ref n,hv2.keepBut k24 seq2,.lst n (vs.toArray.push v) _ nS pl4.isList ?_⟩
    rw [show (vs.toArray.push v).toList=vs++[v] from by simp]
    refine RdL.append (G.rdL b st rd) (.cons _ _ _ _ (r3 h4 (fun a us tu=>?_) W) .nil)
    obtain ⟨o,e,hc,r⟩:=tu
    refine ⟨o,k34 _ _ (fun z=>?_) e,hc,r⟩
    obtain ⟨m3,e3⟩:=pl3
    rw [z,e3] at e;cases e;exact absurd (show Value.type "list" = .type "tuple" from hc) (by decide)
   ·rw [if_neg q] at hy
    obtain ⟨u,hu,ru⟩:=G.vars y e' hy
    exact ⟨u,(hk2 y u q (hu.grow k1)).keepBut k24 seq2,G.rd b st ru⟩)
 exact hQ _ _ ⟨(),W,_,.head _,GF,stF,rfl⟩
end
section
open PySem PySem.W
open PyProof.Rows
noncomputable abbrev RD:List Value:=[.type "Exception",.type "BaseException",.type "object"]
structure BH (h:Heap) (C N H:Addr) (mN mH:SV):Prop where
 obj:∃ nm q bs sn sub ab col dd k0 k1 k2 k3 k5,h.get? C=some (excClassObj nm q C N bs (.ref H::RD) true sn sub ab col dd k0 k1 k2 k3 k5 "Exception.__new__")
 ns:h.Ns N mN
 par:∃ c0 dd cd sl,h.get? H=some {cls:=c0,dict:=dd,data:=.cls cd,slots:=sl}∧h.Ns cd.ns mH
theorem BH.keeps {h h':Heap} {C N H:Addr} {mN mH:SV} (X:BH h C N H mN mH) (k:∀ b o,h.get? b=some o→h'.get? b=some o):BH h' C N H mN mH:=by
 obtain ⟨⟨nm,q,bs,sn,sub,ab,col,dd,k0,k1,k2,k3,k5,e⟩,n,⟨c0,d2,cd,sl,e2,n2⟩⟩:=X
 exact ⟨⟨nm,q,bs,sn,sub,ab,col,dd,k0,k1,k2,k3,k5,k _ _ e⟩,n.keeps k,⟨c0,d2,cd,sl,k _ _ e2,n2.keeps k⟩⟩
noncomputable def two (mN mH:SV) (name:Str) (y:Option Value):Option Value:=match mN name with | some v=>some v | none=>match mH name with | some v=>some v | none=>y
section
variable {M:Model} {A:Around} {E:VP} {h:Heap} {g:Array GenState} {d:Drawn} {t:Nat} {os:OsState} {C N H:Addr} {mN mH:SV}
theorem CE (X:BH h C N H mN mH) {name:Str} {y:Option Value} {Q:Option Value→Shared→Prop} (hB:typeLookup (.type "Exception") name=pure y)
  (hq:Q (two mN mH name y) ⟨h,g,d,t,os⟩):wpAny M A (typeLookup (.ref C) name) Q E ⟨h,g,d,t,os⟩:=by
 obtain ⟨⟨nm,q,bs,sn,sub,ab,col,dd,k0,k1,k2,k3,k5,hC⟩,hn,⟨c0,d2,cd,sl,hH,hn2⟩⟩:=X
 have hrest:lookupAlong RD name=pure y:=by rw [typeLookup_eq,PySem.F.excBase_Exception.mroIs] at hB;exact hB
 unfold two at hq
 rw [typeLookup_eq]
 refine AA (wpAny_mroOf_exc hC ?_)
 rw [lookupAlong_cons]
 refine AA (wpAny_classOwn_exc hC hn ?_)
 cases hv:mN name with
 | some v=>rw [hv] at hq;exact AD hq
 | none=>
  rw [hv] at hq
  simp only at hq ⊢
  rw [lookupAlong_cons]
  refine AA (wpAny_classOwn_cls hH hn2 ?_)
  cases hw:mH name with
  | some v=>rw [hw] at hq;exact AD hq
  | none=>rw [hw] at hq;rw [hrest];exact AD hq
theorem Ds (C H:Addr) {X:String} {b:Bool} (hb:RD.contains (.type X)=b):(Value.ref C::.ref H::RD).contains (.type X)=b:=by
 rw [List.contains_cons,List.contains_cons,hb];rfl
theorem JN (X:BH h C N H mN mH) {rest:List Value} {Q:Unit→Shared→Prop}
  (hq:Q () ⟨h,g,d,t,os⟩):wpAny M A (checkBuiltinCall "Exception.__new__" ⟨.ref C::rest,[]⟩) Q E ⟨h,g,d,t,os⟩:=by
 obtain ⟨⟨nm,q,bs,sn,sub,ab,col,dd,k0,k1,k2,k3,k5,hC⟩,hn,_⟩:=X
 have F:=PySem.F.excBase_Exception
 have hcont:=Ds C H F.hasB
 have hstar:=F.noStar
 simp only [checkBuiltinCall,F.newKind,F.newSplit,F.newRow]
 repeat (first | refine wpAny_loadPart_at hC ?_ | (refine wpAny_isSubtype_exc hC ?_;rw [hcont]) | refine wpAny_staticBase_exc hC ?_ | refine wpAny_madeBy_exc hC ?_ | simp only [bne_self_eq_false,Bool.false_eq_true,if_false] | wp_step)
 exact hq
end
section
variable {prog:Program} {w:World} {A:Around} {R:Result→Shared→Prop} {E:VP} {h:Heap} {g:Array GenState} {d:Drawn} {t:Nat} {os:OsState} {C N H:Addr} {mN mH:SV}
theorem Lh (X:BH h C N H mN mH) {rest:List Value}
  (hq:R (.ok (.ret (.ref (h.objs.size + 1)))) ⟨(h.push {cls:=.type "tuple",data:=.seq rest.toArray}).push
   {cls:=.ref C,data:=.fields #[.ref h.objs.size,.none,.none,.none,.bool false,.none]},g,d,t,os⟩) (hrest:rest.length≤sizeLine) :
  codeAny (model prog w) A (.builtin "Exception.__new__" ⟨.ref C::rest,[]⟩) R ⟨h,g,d,t,os⟩:=by
 obtain ⟨⟨nm,q,bs,sn,sub,ab,col,dd,k0,k1,k2,k3,k5,hC⟩,hn,_⟩:=X
 have F:=PySem.F.excBase_Exception
 have hends:=F.ends
 have hcB:=Ds C H F.hasB
 have hcA:=Ds C H F.noAttr
 have hcN:=Ds C H F.noName
 refine codeAny_builtinAt F.entry ?_
 unfold Builtin.«BaseException.__new__»
 refine PySem.wpAt_bind ?_
 show PySem.wpAt _ _ _ (stack>>=_) _ _ _
 refine PySem.wpAt_bind (PySem.wpAt_stack fun p below=>PySem.wpAt_of_wpAny ?_)
 wp_walk
 refine PySem.wpAt_of_wpAny ?_
 rw [F.owner]
 repeat (first | with_reducible refine wpAny_madeHere_exc F.canon hC ?_ | with_reducible refine wpAny_loadPart_at hC ?_ | (with_reducible refine wpAny_isSubtype_exc hC ?_;first | rw [hcB] | rw [hcA] | rw [hcN]) | wp_step)
 show R _ _
 rw [Heap.size_push]
 exact hq
theorem JM (X:BH h C N H mN mH) {rest:List Value} {fI:Addr} {oI:Obj} {Q:Fin→Shared→Prop} (hi:two mN mH "__init__" (some (.builtin "Exception.__init__"))=some (.ref fI))
  (hfI:h.get? fI=some oI) (hfc:oI.cls=.type "function")
  (hq:∀ h' e,Heap.MadeExcOf h h' e (.ref C) rest→
   wpAny (model prog w) A (call (.ref fI) (.ref e::rest)) (fun r s'=>r=.none∧Q (.done (.ret (.ref e))) s') E ⟨h',g,d,t,os⟩) (hrest:rest.length≤sizeLine) :
  wpAny (model prog w) A (Builtin.«type.__call__» ⟨.ref C::rest,[]⟩) Q E ⟨h,g,d,t,os⟩:=by
 have F:=PySem.F.excBase_Exception
 obtain ⟨⟨nm,q,bs,sn,sub,ab,col,dd,k0,k1,k2,k3,k5,hC⟩,hn,_⟩:=id X
 repeat (first | with_reducible refine wpAny_loadPart_at hC ?_ | with_reducible refine wpAny_madeBy_exc hC ?_ | wp_step)
 refine codeAny_call_builtin_code (Code.quiet_builtin _ F.quiet) (JN X ?_)
 refine Lh X ?_ hrest
 show wpAny _ _ _ _ _ _
 have kk:∀ b o,h.get? b=some o→((h.push {cls:=.type "tuple",data:=.seq rest.toArray}).push {cls:=.ref C,data:=.fields #[.ref h.objs.size,.none,.none,.none,.bool false,.none]}).get? b=some o :=
  fun b o e=>AE _ (AE _ e)
 have hC₁:=kk _ _ hC
 have hfI₁:=kk _ _ hfI
 have X₁:=X.keeps kk
 have hget:((h.push {cls:=.type "tuple",data:=.seq rest.toArray}).push
   {cls:=.ref C,data:=.fields #[.ref h.objs.size,.none,.none,.none,.bool false,.none]}).get? (h.objs.size + 1)=some
   {cls:=.ref C,data:=.fields #[.ref h.objs.size,.none,.none,.none,.bool false,.none]}:=by heap_get
 have hcC:(Value.ref C::.ref H::RD).contains (.ref C)=true:=by simp
 unfold isInstance
 repeat (first | with_reducible refine wpAny_loadPart_at hget ?_ | (with_reducible refine wpAny_isSubtype_exc hC₁ ?_;rw [hcC]) | wp_step)
 show wpAny _ _ (typeLookup (.ref C) _) _ _ _
 refine CE X₁ F.init.lookup ?_
 rw [hi]
 refine AG (AA ?_)
 unfold bindSpecial
 refine AA (wpAny_typeOf (T:="function") ⟨_,hfI₁,hfc⟩ ?_)
 rw [if_pos (by decide)]
 refine AD (AA (AH (hq _ (h.objs.size + 1) ⟨kk,Heap.get?_none_of_le (Nat.le_succ _),h.objs.size,hget,Heap.get?_none_of_le (Nat.le_refl _),?_⟩) (fun r s' hr=>?_) fun zz zz x=>x))
 ·exact AE _ (Heap.get?_push_at rfl rfl)
 ·obtain ⟨rfl,hQ⟩:=hr
  wp_walk
  exact hQ
theorem Ro (X:BH h C N H mN mH) {rest:List Value} {fI:Addr} {oI:Obj} {Q:VP} (hi:two mN mH "__init__" (some (.builtin "Exception.__init__"))=some (.ref fI))
  (hfI:h.get? fI=some oI) (hfc:oI.cls=.type "function")
  (hq:∀ h' e,Heap.MadeExcOf h h' e (.ref C) rest→
   wpAny (model prog w) (A.under (.builtin "type.__call__" ⟨.ref C::rest,[]⟩)) (call (.ref fI) (.ref e::rest)) (fun r s'=>r=.none∧Q (.ref e) s') E ⟨h',g,d,t,os⟩) (hrest:rest.length≤sizeLine) :
  wpAny (model prog w) A (call (.ref C) rest) Q E ⟨h,g,d,t,os⟩:=by
 obtain ⟨⟨nm,q,bs,sn,sub,ab,col,dd,k0,k1,k2,k3,k5,hC⟩,hn,_⟩:=id X
 have f1:=tc_lookup
 have f2:=tc_bind (.ref C)
 have hT:(⟨h,g,d,t,os⟩:Shared).TypeIs (.ref C) "type":=⟨_,hC,rfl⟩
 refine wpAny_call (codeAny_of_tree ?_)
 show wpAny _ _ (callAny (.ref C) _) _ _ _
 repeat (any_goals (first | assumption | with_reducible refine wpAny_loadPart_at hC ?_ | wp_step))
 refine ⟨rfl,?_⟩
 exact codeAny_call_builtin_at (Code.quiet_builtin _ (by decide +kernel)) entry_typeCall (wpAny_check_type_call_sub hC (JM X hi hfI hfc (fun h' e hm=>hq h' e hm) hrest))
end
end
section
open PySem PySem.W
open PyProof.Rows
open PySem.Builtin PySem.Builtin.ObjectAttr
section
variable {prog:Program} {w:World} {A:Around} {R:Result→Shared→Prop} {E:VP} {h:Heap} {g:Array GenState} {d:Drawn} {t:Nat} {os:OsState} {C N H x:Addr} {mN mH:SV}
 {mA:SV} {name:Str} {v:Value}
theorem KN {M:Model} (X:BH h C N H mN mH) {o:Obj} {nameV:Value} {Q:Unit→Shared→Prop} (hx:h.get? x=some o) (hc:o.cls=.ref C) (hq:Q () ⟨h,g,d,t,os⟩) :
  wpAny M A (checkBuiltinCall "object.__setattr__" ⟨[.ref x,nameV,v],[]⟩) Q E ⟨h,g,d,t,os⟩:=by
 have SF:=PySem.F.store_Exception
 obtain ⟨⟨nm,q,bs,sn,sub,ab,col,dd,k0,k1,k2,k3,k5,hC⟩,hn,_⟩:=X
 have hcB:=Ds C H SF.hasOwner
 have ha:=SF.args (.ref x) nameV v
 simp only [checkBuiltinCall,SF.kind,SF.split]
 refine AA ?_
 ·unfold isInstance
  repeat (first | (with_reducible refine wpAny_loadPart_at hx ?_;rw [hc]) | (with_reducible refine wpAny_isSubtype_exc hC ?_;rw [hcB]) | wp_step)
  exact hq
structure Og (h h':Heap) (x C:Addr) (mA:SV) (name:Str) (v:Value):Prop where
 inst:h'.Inst x C (fun y=>if y=name then some v else mA y)
 keep:∀ b o,b≠x→(∀ o₀ dx,h.get? x=some o₀→o₀.dict=some dx→b≠dx)→h.get? b=some o→h'.get? b=some o
 self:∀ o₀,h.get? x=some o₀→∃ o₁,h'.get? x=some o₁∧o₁.cls=o₀.cls∧o₁.data=o₀.data∧(∀ dx,o₀.dict=some dx→o₁.dict=some dx)∧∀ dx,o₁.dict=some dx→o₀.dict=some dx∨h.get? dx=none
set_option tactic.hygienic true in
theorem Hn {tk:Tok} {Q:Fin→Shared→Prop} {ns:List Str} (X:BH h C N H mN mH) (hna:mN name=none) (hnh:mH name=none)
  (hB:typeLookup (.type "Exception") name=pure none) (I:h.Inst x C mA)
  (hq:∀ h' tk',Og h h' x C mA name v→Q (.done (.ret .none)) ⟨h',g,d,tk',os⟩) (hw:Within mA ns) (hsz:ns.length≤sizeLine) :
  wpAny (model prog w) A (Builtin.«object.__setattr__» ⟨[.ref x,.str name tk,v],[]⟩) Q E ⟨h,g,d,t,os⟩:=by
 have SF:=PySem.F.store_Exception
 obtain ⟨o,hx,hc,hnc,hd⟩:=I
 have hpass:=SF.passes (.ref x)
 obtain ⟨⟨nm,q,bs,sn,sub,ab,col,dd,k0,k1,k2,k3,k5,hC⟩,hn,_⟩:=id X
 have htwo:two mN mH name none=none:=by unfold two;rw [hna,hnh]
 unfold Builtin.«object.__setattr__»
 repeat (first | rw [refuse_eq] | (rw [refuseLoop_ref,refuseLoop_ref,hpass]) | (with_reducible refine wpAny_loadPart_at hx ?_;rw [hc]) | with_reducible refine wpAny_mroOf_exc hC ?_ | (with_reducible refine CE X hB ?_;rw [htwo]) | wp_step)
 rcases hd with ⟨hdn,hmA⟩ | ⟨dx,hdx,hne,hns⟩
 ·
  rw [hdn,if_neg (by simp [typeHasDict])]
  split
  ·rename_i hcd
   cases hcd
  split
  ·rename_i c hcd
   exact absurd hcd (hnc c)
  ·have hx₁:(h.push {cls:=.type "dict",data:=.dict #[]}).get? x=some o:=AE _ hx
   have hxs:x≠h.objs.size:=Nat.ne_of_lt (Heap.lt_size hx)
   refine AA (wpAny_alloc' ?_)
   refine AA (wpAny_update' hx₁ ?_)
   refine AD ?_
   have hgd:((h.push {cls:=.type "dict",data:=.dict #[]}).update x fun o=>{cls:=o.cls,dict:=some h.objs.size,data:=o.data,slots:=o.slots}).get? h.objs.size
     = some {cls:=.type "dict",data:=.dict #[]} :=
    (Heap.get?_update_ne _ _ _ _ hxs.symm).trans (Heap.get?_push_at rfl rfl)
   have hnd:((h.push {cls:=.type "dict",data:=.dict #[]}).update x fun o=>{cls:=o.cls,dict:=some h.objs.size,data:=o.data,slots:=o.slots}).Ns h.objs.size (fun zz=>none) :=
    ⟨_,#[],_,hgd,rfl,fun e he=>absurd he (by simp),fun zz=>rfl⟩
   show wpAny _ _ (storeInDict h.objs.size (.str name tk) name v) _ _ _
   unfold storeInDict newKeyGuard
   refine AA (AD (AA (wpAny_nsSet1 (Heap.Ns1.of_empty hnd) fun h' hn' hs=>?_)))
   obtain ⟨oD,esD,epD,hoD,hdD,hcD⟩:=hn'.count (Within.cons name v Within.nil)
   refine AA (wpAny_lookBehind hoD (by rw [hdD];exact pastItsLine_dict (Nat.le_trans hcD (by rw [List.length_cons,List.length_nil,sizeLine_eq];omega))) ?_)
   wp_walk
   have hx':h'.get? x=some {cls:=o.cls,dict:=some h.objs.size,data:=o.data,slots:=o.slots}:=by
    refine (hs.2 x hxs).trans (Heap.get?_update_self _ hx₁ ?_)
    have hfr:=(Heap.get?_some_iff.mp hx).2
    obtain ⟨oc,od,odt,osl⟩:=o
    cases odt<;>first | rfl | exact hfr
   refine hq h' _ ⟨⟨{cls:=o.cls,dict:=some h.objs.size,data:=o.data,slots:=o.slots},hx',hc,hnc,.inr ⟨h.objs.size,rfl,hxs.symm,?_⟩⟩,fun b ob hbx zz hb=>?_,fun o₀ h₀=>by
     obtain rfl:o=o₀:=AB (hx.symm.trans h₀)
     exact ⟨_,hx',rfl,rfl,fun dx e=>(by rw [hdn] at e;cases e),fun dx e=>.inr (by cases e;exact Heap.get?_none_of_le (Nat.le_refl _))⟩⟩
   ·obtain ⟨o',es,ep,e1,e2,e3,eu,e4⟩:=hn'
    exact ⟨o',es,ep,e1,e2,e3,eu,fun y=>by rw [e4 y];by_cases hy:y=name<;>simp [hy,hmA]⟩
   ·exact (hs.2 b (Nat.ne_of_lt (Heap.lt_size hb))).trans ((Heap.get?_update_ne _ _ _ _ hbx).trans (AE _ hb))
 ·
  rw [hdx]
  refine AD ?_
  show wpAny _ _ (storeInDict dx (.str name tk) name v) _ _ _
  unfold storeInDict newKeyGuard
  refine AA (AD (AA (wpAny_nsSet1 hns fun h' hn' hs=>?_)))
  obtain ⟨oD,esD,epD,hoD,hdD,hcD⟩:=hn'.count (Within.cons name v hw)
  refine AA (wpAny_lookBehind hoD (by rw [hdD];exact pastItsLine_dict (Nat.le_trans hcD (by rw [List.length_cons];omega))) ?_)
  wp_walk
  refine hq h' _ ⟨⟨o,(hs.2 x hne.symm).trans hx,hc,hnc,.inr ⟨dx,hdx,hne,hn'⟩⟩,fun b ob zz hbd hb=>?_,fun o₀ h₀=>⟨o₀,(hs.2 x hne.symm).trans h₀,rfl,rfl,fun zz e=>e,fun zz e=>.inl e⟩⟩
  exact (hs.2 b (hbd o dx hx hdx)).trans hb
theorem Jb {Q:Unit→Shared→Prop} {ns:List Str} (X:BH h C N H mN mH) (hns:mN "__setattr__" = none) (hnS:mH "__setattr__" = none) (hna:mN name=none) (hnh:mH name=none)
  (hB:typeLookup (.type "Exception") name=pure none) (I:h.Inst x C mA)
  (hq:∀ h' tk',Og h h' x C mA name v→Q () ⟨h',g,d,tk',os⟩) (hw:Within mA ns) (hsz:ns.length≤sizeLine) :
  wpAny (model prog w) A (setAttr (.ref x) name v) Q E ⟨h,g,d,t,os⟩:=by
 have SF:=PySem.F.store_Exception
 obtain ⟨o,hx,hc,_⟩:=id I
 have f3:=SF.slot.bind (.ref x)
 have htwo:two mN mH "__setattr__" (some (.builtin "object.__setattr__"))=some (.builtin "object.__setattr__"):=by unfold two;rw [hns,hnS]
 unfold setAttr callSpecial? specialOf
 repeat (any_goals (first | assumption | (with_reducible refine wpAny_loadPart_at hx ?_;rw [hc]) | (with_reducible refine CE X SF.slot.lookup ?_;rw [htwo]) | wp_step))
 refine codeAny_call_builtin SF.slot.plain SF.entry (KN X hx hc (Hn X hna hnh hB I (fun h' tk' St=>?_) hw hsz))
 repeat (any_goals (first | assumption | wp_step))
 exact hq h' tk' St
end
end
section
open PySem PySem.W
variable {B:Bs} {F F':Fv} {C:Value} {W W':Wd} {σ σ':St} {s s':Shared}
open PyProof.Rows
noncomputable def Al (B:Bs) (fd:FuncData) (names:List Str) (k:Nat) (ds:List Value):Prop:=∀ (s:Shared) (vs:List Value),B.h0.StaysIn s.heap→vs.length=k→BindsTo s fd ⟨vs,[]⟩ (names.zip (vs++ds))
structure Er (B:Bs) (Cx N H fI:Addr) (mN mH:SV) (fd:FuncData):Prop where
 cls:BH B.h0 Cx N H mN mH
 ini:two mN mH "__init__" (some (.builtin "Exception.__init__"))=some (.ref fI)
 sa:mN "__setattr__" = none∧mH "__setattr__" = none
 at1:mN "message" = none∧mH "message" = none
 at2:mN "spot" = none∧mH "spot" = none
 fn:∃ o,B.h0.get? fI=some o∧o.cls=.type "function"∧o.data=.func fd
 body:∃ p1 p2 p3 p4 p5 p6 q1 q2 q3 q4 r1 r2 r3 r4,fd.body=.stmts [.Expr (.Call (.Attribute (.Name "Exception" p1) "__init__" p2) [.Name "self" p3,.Name "message" p4] [] p5) p6,.Assign [.Attribute (.Name "self" q1) "message" q2] (.Name "message" q3) q4,.Assign [.Attribute (.Name "self" r1) "spot" r2] (.Name "spot" r3) r4]∧p2.endLine=p5.line
 glob:fd.globals=mainGlobals
 bltn:fd.builtins=builtinsNs
 co:fd.scope.isCoroutine=false
 gen:fd.scope.isGenerator=false
 kind:fd.scope.kind=.function
 cells:∀ x∈fd.scope.names,x.2≠.cell
 lself:fd.scope.names.lookup ("self" : Str)=some NameKind.local
 lmsg:fd.scope.names.lookup ("message" : Str)=some NameKind.local
 lspot:fd.scope.names.lookup ("spot" : Str)=some NameKind.local
 lexc:fd.scope.names.lookup ("Exception" : Str)=some NameKind.globalImplicit
 binds:Al B fd ["self","message","spot"] 3 []
 code:B.h0.CodeRec fd.code fd.qualname
 gexc:B.mg "Exception" = none∧B.mb "Exception" = some (.type "Exception")
structure XSt (h0 hh:Heap) (L e Cx:Addr) (m mA:SV):Prop where
 keep:∀ b o,h0.get? b=some o→hh.get? b=some o
 ns:hh.Ns L m
 nL:L≠e
 new:h0.get? e=none
 obj:∃ o vs a0,hh.get? e=some o∧o.cls=.ref Cx∧o.data=.fields vs∧vs[1]? = some .none∧vs[0]? = some (.ref a0)∧∀ dx,o.dict=some dx→h0.get? dx=none∧dx≠L
 inst:hh.Inst e Cx mA
theorem VH {h:Heap} {L:Addr} {m:SV} (x:h.Ns L m):∃ o,h.get? L=some o:=let ⟨o,_,_,e,_⟩:=x;⟨o,e⟩
theorem XSt.stored {h0 hh h':Heap} {L e Cx:Addr} {m mA:SV} {name:Str} {v:Value} (x:XSt h0 hh L e Cx m mA) (S:Og hh h' e Cx mA name v):XSt h0 h' L e Cx m (fun y=>if y=name then some v else mA y):=by
 obtain ⟨o,vs,a0,he,hc,hd,h1,h2,hdd⟩:=x.obj
 have nodx:∀ b ob,h0.get? b=some ob→∀ o₀ dx,hh.get? e=some o₀→o₀.dict=some dx→b≠dx:=fun b ob hb o₀ dx h₀ hdx q=>by
  rw [he] at h₀;cases h₀
  rw [q,(hdd dx hdx).1] at hb;cases hb
 have nodL:∀ o₀ dx,hh.get? e=some o₀→o₀.dict=some dx→L≠dx:=fun o₀ dx h₀ hdx q=>by
  rw [he] at h₀;cases h₀
  exact (hdd dx hdx).2 q.symm
 refine ⟨fun b ob hb=>S.keep b ob (fun q=>by rw [q,x.new] at hb;cases hb) (nodx b ob hb) (x.keep b ob hb),?_,x.nL,x.new,?_,S.inst⟩
 ·obtain ⟨oL,es,ep,e1,r⟩:=x.ns
  exact ⟨oL,es,ep,S.keep L oL x.nL nodL e1,r⟩
 ·obtain ⟨o1,e1,c1,d1,_,k1⟩:=S.self o he
  refine ⟨o1,vs,a0,e1,c1.trans hc,d1.trans hd,h1,h2,fun dx q=>?_⟩
  rcases k1 dx q with z | z
  ·exact hdd dx z
  ·refine ⟨?_,fun y=>?_⟩
   ·cases w:h0.get? dx with
    | none=>rfl
    | some o=>rw [x.keep _ _ w] at z;cases z
   ·obtain ⟨oL,eL⟩:=VH x.ns
    rw [y,eL] at z;cases z
theorem Fg:typeLookup (.type "Exception") "message" = pure none∧typeLookup (.type "Exception") "spot" = pure none:=by
 constructor<;>(rw [typeLookup_type,builtinLookup_eq_fast];kernel_rfl)
theorem IB {M:Model} {A:Around} {E:VP} {h:Heap} {g:Array GenState} {d:Drawn} {t:Nat} {os:OsState} {Cx N H:Addr} {mN mH:SV} (X:BH h Cx N H mN mH) {e:Addr} {oe:Obj} {rest:List Value} {Q:Unit→Shared→Prop}
  (he:h.get? e=some oe) (hcls:oe.cls=.ref Cx) (hq:Q () ⟨h,g,d,t,os⟩) :
  wpAny M A (checkBuiltinCall "Exception.__init__" ⟨.ref e::rest,[]⟩) Q E ⟨h,g,d,t,os⟩:=by
 have F:=PySem.F.excBase_Exception
 obtain ⟨⟨nm,q,bs,sn,sub,ab,col,dd,k0,k1,k2,k3,k5,hC⟩,hn,_⟩:=X
 have hcB:=Ds Cx H F.hasB
 have hshort:=F.noStar
 simp only [checkBuiltinCall,F.initKind,F.initSplit,F.initRow]
 repeat (first | (with_reducible refine wpAny_loadPart_at he ?_;rw [hcls]) | with_reducible refine wpAny_loadPart_at hC ?_ | (with_reducible refine wpAny_isSubtype_exc hC ?_;rw [hcB]) | wp_step)
 refine wpAny_onRaise ?_
 rw [show ∀ (a b:String) (n:Nat),Bind.check ⟨.positional,"*","Exception",.self,[⟨"args",.varPos,false⟩]⟩ a b n (List.map (fun x=>x.fst) ({pos:=Value.ref e::rest}:Args).kw)=pure () from
  fun a b n=>check_star_args _ _ _ _ _ _]
 exact AD hq
theorem JO {A:Around} {E:VP} {Cx N H:Addr} {mN mH:SV} (X:BH s.heap Cx N H mN mH) {e:Addr} {ob:Obj} {vs:Array Value} {t0:Addr} {rest:List Value} {Q:VP}
  (he:s.heap.get? e=some ob) (hcls:ob.cls=.ref Cx) (hd:ob.data=.fields vs) (h0:vs[0]? = some (.ref t0))
  (h:Q .none {s with heap:=(s.heap.push {cls:=.type "tuple",data:=.seq rest.toArray}).update e (Obj.mapFields (·.setIfInBounds 0 (.ref s.heap.objs.size)))}) (hrest:rest.length≤sizeLine) :
  wpAny (mdl B) A (call (.builtin "Exception.__init__") (.ref e::rest)) Q E s:=by
 have F:=PySem.F.excBase_Exception
 obtain ⟨hp,g,d,tk,os⟩:=s
 refine wpAny_call (codeAny_call_builtin F.init.plain F.initEntry (IB X he hcls ?_))
 unfold Builtin.«BaseException.__init__»
 dsimp only
 rw [if_neg (by simp)]
 unfold newTuple Builtin.BaseException.bexcPut
 have hsz:0 < vs.size:=(Array.getElem?_eq_some_iff.mp h0).1
 have he₁:=AE (h:=hp) {cls:=.type "tuple",data:=.seq rest.toArray} he
 refine AA (wpAny_newObj_type (AA (AA (wpAny_field he₁ hd h0 (AA (wpAny_setField he₁ hd hsz ?_))))) (by show rest.toArray.size≤sizeLine;rw [List.size_toArray];exact hrest))
 exact wpAny_letGo (AD h)
end
section
open PySem PySem.W
variable {B:Bs} {F F':Fv} {C:Value} {W W':Wd} {σ σ':St} {s s':Shared}
open PyProof.Rows
theorem XSt.based {h0 hh:Heap} {L e Cx:Addr} {m mA:SV} {args:List Value} (x:XSt h0 hh L e Cx m mA) :
  XSt h0 ((hh.push {cls:=.type "tuple",data:=.seq args.toArray}).update e (Obj.mapFields (·.setIfInBounds 0 (.ref hh.objs.size)))) L e Cx m mA:=by
 obtain ⟨o,vs,a0,he,hc,hd,h1,h2,hdd⟩:=x.obj
 have he1:(hh.push {cls:=.type "tuple",data:=.seq args.toArray}).get? e=some o:=AE _ he
 have k:∀ b ob,b≠e→hh.get? b=some ob→((hh.push {cls:=.type "tuple",data:=.seq args.toArray}).update e (Obj.mapFields (·.setIfInBounds 0 (.ref hh.objs.size)))).get? b=some ob:=fun b ob hb q=>by
  rw [Heap.get?_update_other _ _ (Ne.symm hb)]
  exact AE _ q
 have hsz:0 < vs.size:=(Array.getElem?_eq_some_iff.mp h2).1
 have self:=Heap.get?_update_self (Obj.mapFields (·.setIfInBounds 0 (.ref hh.objs.size))) he1 (Obj.isFreed_of_fields (Obj.data_mapFields hd _))
 have dictEq:(Obj.mapFields (·.setIfInBounds 0 (.ref hh.objs.size)) o).dict=o.dict:=by
  obtain ⟨c,dd,dt,sl⟩:=o
  cases dt<;>rfl
 refine ⟨fun b ob hb=>k b ob (fun q=>by rw [q,x.new] at hb;cases hb) (x.keep b ob hb),?_,x.nL,x.new,?_,?_⟩
 ·obtain ⟨oL,es,ep,e1,r⟩:=x.ns
  exact ⟨oL,es,ep,k L oL x.nL e1,r⟩
 ·refine ⟨_,_,hh.objs.size,self,(Obj.cls_mapFields _ _).trans hc,Obj.data_mapFields hd _,?_,?_,fun dx q=>hdd dx (by rw [←dictEq];exact q)⟩
  ·rw [Array.getElem?_setIfInBounds_ne (by decide)];exact h1
  ·rw [Array.getElem?_setIfInBounds_self_of_lt hsz]
 ·obtain ⟨o',e',c',n',d'⟩:=x.inst
  rw [he] at e';cases e'
  refine ⟨_,self,(Obj.cls_mapFields _ _).trans hc,fun c q=>?_,?_⟩
  ·rw [Obj.data_mapFields hd] at q;cases q
  ·rw [dictEq]
   rcases d' with ⟨a,b⟩ | ⟨dx,a,b,c⟩
   ·exact .inl ⟨a,b⟩
   ·refine .inr ⟨dx,a,b,?_⟩
    obtain ⟨o2,es,ep,e1,r⟩:=c
    exact ⟨o2,es,ep,k dx o2 b e1,r⟩
theorem Qz {A:Around} {pl:Sem Bool} {E:VP} {Q:Value×List Value→Shared→Prop} (h:Q (.builtin "Exception.__init__",[]) {s with toks:=s.toks + 1}):wpAny (mdl B) A (getMethod (.type "Exception") "__init__" pl) Q E s:=by
 have X:Frag.In [] s.heap:=fun a o e=>by cases e
 have ht:typeOf (.type "Exception")=pure (.type "type"):=by rfl
 have hstub:opaqueClassAbove (.type "Exception")=pure none:=by
  unfold opaqueClassAbove
  dsimp only
  rw [show Manifest.isStub "Exception" = false from by decide +kernel];rfl
 have L0:Looks (mdl B) s.heap (typeOf (.type "Exception")) (.type "type"):=Looks.of_pure ht
 have hg:findIn [] (.type "type") "__getattribute__" = some (some (.builtin "type.__getattribute__")):=type_tga
 unfold getMethod specialOf
 refine AA (AA (L0.here ((looks_findIn X hg).here ?_)))
 dsimp only
 rw [if_pos canon_tga]
 refine AA (AH (Q:=fun v=>Q (v,[])) (E:=E) ?_ (fun zz zz z=>AD z) fun zz zz z=>z)
 have LO:Looks (mdl B) s.heap (opaqueClassAbove (.type "Exception")) none:=Looks.of_pure hstub
 refine cls_open X LO L0 hg (looks_hook X (r:=none) (by rfl)) (by show subIn [] _ _=_;rfl) (r:=.val (.builtin "Exception.__init__")) (by kernel_rfl)
  (AD (by show wpAny _ _ (handedOut (.builtin "Exception.__init__")) _ _ _;rw [handedOut_of (by decide +kernel)];exact AD h))
theorem Q3 (b:AK B) {Cx N H fI:Addr} {mN mH:SV} {fd:FuncData} (K:Er B Cx N H fI mN mH fd) {env:Env} {A:Around} {L e:Addr} {h0:Heap} {mv sv:Value} {m:SV} {stmts:List Stmt}
  (hb:fd.body=.stmts stmts) (h1:env.scope=fd.scope) (h2:env.locals=L) (h3:env.globals=mainGlobals) (h4:env.builtins=builtinsNs)
  (hm:m "self" = some (.ref e)∧m "message" = some mv∧m "spot" = some sv) (hs0:B.h0.StaysIn h0) (x:XSt h0 s.heap L e Cx m (fun zz=>none)) {Q:FP} {E:VP}
  (hQ:∀ h' tk mA,XSt h0 h' L e Cx m mA→Q .next {s with heap:=h',toks:=tk}):wpAny (mdl B) A (execs stmts env) Q E s:=by
 obtain ⟨p1,p2,p3,p4,p5,p6,q1,q2,q3,q4,r1,r2,r3,r4,hbody,hline⟩:=K.body
 rw [hb] at hbody
 cases hbody
 have hk:env.scope.kind=.function:=by rw [h1];exact K.kind
 have hi:interactive env=false:=by unfold interactive;rw [hk];rfl
 have kof:∀ y k,fd.scope.names.lookup y=some k→env.kindOf y=some k:=fun y k q=>by
  show env.scope.names.lookup y=some k
  rw [h1];exact q
 have st0:∀ {hh:Heap} {mA:SV},XSt h0 hh L e Cx m mA→B.h0.StaysIn hh:=fun x c o q=>x.keep c o (hs0 c o q)
 have loadL:∀ (y:Str) (v:Value) (p:Pos) (s':Shared) (mA:SV) (Q:VP) (E:VP),fd.scope.names.lookup y=some NameKind.local→m y=some v→(y == ("__debug__" : Str))=false→XSt h0 s'.heap L e Cx m mA→Q v s'→wpAny (mdl B) A (eval (.Name y p) env) Q E s' :=
  fun y v p s' mA Q E hl hv hdb x hq=>by
   rw [eval_Name env y p hdb]
   exact AA (wpAny_standAt (wpAny_loadName_local hk (kof y _ hl) (by rw [h2];exact x.ns) hv hq))
 rw [execs_cons,execs_cons,execs_cons]
 refine AA (AH (Q:=fun f s'=>f=.next∧∃ h' tk,XSt h0 h' L e Cx m (fun zz=>none)∧s'={s with heap:=h',toks:=tk}) (E:=E) ?_ (fun f s1 hf=>?_) fun zz zz z=>z)
 ·rw [arm_exec_Expr,hi]
  refine AA (wpAny_standAt ?_)
  simp only [Bool.false_eq_true,if_false]
  have e2:swapsWith (.Call (.Attribute (.Name "Exception" p1) "__init__" p2) [.Name "self" p3,.Name "message" p4] [] p5) none p6.line env=pure false:=rfl
  rw [e2]
  refine AA (AD ?_)
  simp only [Bool.false_eq_true,if_false]
  rw [arm_eval_Call]
  have e3:attributeBase (.Name "Exception" p1) "__init__" env (eval (.Name "Exception" p1) env)=eval (.Name "Exception" p1) env:=rfl
  rw [e3]
  refine AA (AA (Calls.Name_function_global hk (kof _ _ K.lexc) (Calls.loadGlobal_builtin (by rw [h3];exact b.hmg.keeps (st0 x)) K.gexc.1 (by rw [h4];exact b.hmb.keeps (st0 x)) K.gexc.2 ?_)))
  refine AA (wpAny_standAt ?_)
  unfold methodCall
  have few:methodCallForm ([Expr.Name "self" p3,Expr.Name "message" p4].length + ([]:List Keyword).length) (backTo p5 (starEach [.Name "self" p3,.Name "message" p4] env)) (backToKw p5 (keywordEach [] env))=true:=rfl
  rw [few]
  refine AA (AG ?_)
  unfold calleeOf
  simp only [if_true]
  refine Qz ?_
  refine AA (m:=methodCallPos true (.Name "Exception" p1) env p2 p5) ?_
  unfold methodCallPos
  rw [if_pos (by simp [hline])]
  refine AD ?_
  show wpAny _ _ (callWith p5 (.builtin "Exception.__init__") [] [(false,eval (.Name "self" p3) env),(false,eval (.Name "message" p4) env)] []) _ _ _
  refine Calls.callWith_builtin rfl (Calls.evalArgs_plain (Calls.spliced_cons ?_))
  refine loadL "self" _ _ _ _ _ _ K.lself hm.1 (by decide) x (Calls.spliced_cons ?_)
  refine loadL "message" _ _ _ _ _ _ K.lmsg hm.2.1 (by decide) x (Calls.spliced_nil ?_)
  obtain ⟨o,vs,a0,he,hc,hd,hv1,hv0,hdd⟩:=x.obj
  refine JO (s:={s with toks:=s.toks + 1}) (rest:=[mv]) (K.cls.keeps (st0 x)) he hc hd hv0 ?_ (by show 1≤sizeLine;rw [sizeLine_eq];decide)
  rw [dropValue_plain (by intro a q;cases q)]
  exact AD ⟨rfl,_,_,x.based,rfl⟩
 ·obtain ⟨rfl,ha,ta,xa,rfl⟩:=hf
  refine AA (AH (Q:=fun f s'=>f=.next∧∃ h' tk,XSt h0 h' L e Cx m (fun y=>if y = "message" then some mv else none)∧s'={s with heap:=h',toks:=tk}) (E:=E) ?_ (fun f s2 hf=>?_) fun zz zz z=>z)
  ·refine plainObj_wpAny_Assign_Attribute ?_
   refine loadL "message" _ _ _ _ _ _ K.lmsg hm.2.1 (by decide) xa ?_
   refine loadL "self" _ _ _ _ _ _ K.lself hm.1 (by decide) xa ?_
   obtain ⟨hh,g,d,t,os⟩:=s
   exact Jb (K.cls.keeps (st0 xa)) K.sa.1 K.sa.2 K.at1.1 K.at1.2 Fg.1 xa.inst (fun h' tk' St=>⟨rfl,h',tk',xa.stored St,rfl⟩) Within.nil (by show 0≤sizeLine;omega)
  ·obtain ⟨rfl,hc,tc,xc,rfl⟩:=hf
   refine AA (AH (Q:=fun f s'=>f=.next∧∃ h' tk mA,XSt h0 h' L e Cx m mA∧s'={s with heap:=h',toks:=tk}) (E:=E) ?_ (fun f s2 hf=>?_) fun zz zz z=>z)
   ·refine plainObj_wpAny_Assign_Attribute ?_
    refine loadL "spot" _ _ _ _ _ _ K.lspot hm.2.2 (by decide) xc ?_
    refine loadL "self" _ _ _ _ _ _ K.lself hm.1 (by decide) xc ?_
    obtain ⟨hh,g,d,t,os⟩:=s
    exact Jb (K.cls.keeps (st0 xc)) K.sa.1 K.sa.2 K.at2.1 K.at2.2 Fg.2 xc.inst (fun h' tk' St=>⟨rfl,h',tk',_,xc.stored St,rfl⟩) (Within.cons _ _ Within.nil) (by show 1≤sizeLine;rw [sizeLine_eq];decide)
   ·obtain ⟨rfl,h3,t3,mA,x3,rfl⟩:=hf
    exact AD (hQ _ _ _ x3)
end
section
open PySem PySem.W
variable {B:Bs} {F F':Fv} {C:Value} {W W':Wd} {σ σ':St} {s s':Shared}
open PyProof.Rows
noncomputable abbrev Pm (h:Heap) (e Cx:Addr):Prop:=∃ oe vs a0,h.get? e=some oe∧oe.cls=.ref Cx∧oe.data=.fields vs∧vs[1]? = some .none∧vs[0]? = some a0
theorem OW (b:AK B) (hlim:B.h0.NoLimit) {Cx N H fI:Addr} {mN mH:SV} {fd:FuncData} (K:Er B Cx N H fI mN mH fd) (G:Good B F W σ s) {mv sv:Value} {Q:VP} {E:VP}
  (hQ:∀ h' tk e,(∀ c o,s.heap.get? c=some o→h'.get? c=some o)→s.heap.get? e=none→Pm h' e Cx→Q (.ref e) {s with heap:=h',toks:=tk}) :
  wpAny (mdl B) F.A (call (.ref Cx) [mv,sv]) Q E s:=by
 obtain ⟨of,hfo,hfc,hfd⟩:=K.fn
 obtain ⟨stmts,hst⟩:∃ stmts,fd.body=.stmts stmts:=by
  obtain ⟨p1,p2,p3,p4,p5,p6,q1,q2,q3,q4,r1,r2,r3,r4,h,_⟩:=K.body
  exact ⟨_,h⟩
 have G0:=G
 obtain ⟨hh,g,d,t,os⟩:=s
 refine Ro (rest:=[mv,sv]) (K.cls.keeps G.stay0) K.ini (G.stay0 _ _ hfo) hfc (fun h' e Mk=>?_) (by show 2≤sizeLine;rw [sizeLine_eq];decide)
 have room:(F.A.under (.builtin "type.__call__" ⟨[.ref Cx,mv,sv],[]⟩)).depth < recursionLimit:=by
  rw [depth_under_make]
  exact G.deepOk (k:=1) (by omega)
 have k0:∀ c o,B.h0.get? c=some o→h'.get? c=some o:=fun c o q=>Mk.keeps c o (G.stay0 c o q)
 refine wpAny_call (codeAny_call_def (fd:=fd) (body:=stmts) (binds:=[(("self" : Str),Value.ref e),(("message" : Str),mv),(("spot" : Str),sv)]) room (k0 _ _ hfo) hfd (hlim.keeps k0) (K.code.keeps k0) hst (K.binds _ [.ref e,mv,sv] k0 rfl) K.cells ?_
  (fun h₁ hns hk₁=>?_) K.co K.gen K.kind)
 ·intro x hx
  simp only [List.mem_cons,List.not_mem_nil,or_false] at hx
  rcases hx with rfl | rfl | rfl
  ·exact K.lself
  ·exact K.lmsg
  ·exact K.lspot
 obtain ⟨t1,hx,hnt,htt⟩:=Mk.there
 have hx1:=hk₁ _ _ hx
 have x:XSt hh h₁ h'.objs.size e Cx (fun x=>[(("self" : Str),Value.ref e),(("message" : Str),mv),(("spot" : Str),sv)].reverse.lookup x) (fun zz=>none) :=
  ⟨fun c o q=>hk₁ c o (Mk.keeps c o q),hns,fun q=>Nat.ne_of_lt (Heap.lt_size hx) q.symm,Mk.new,⟨_,_,t1,hx1,rfl,rfl,rfl,rfl,fun dx q=>by cases q⟩,⟨_,hx1,rfl,fun c q=>(by cases q),.inl ⟨rfl,fun zz=>rfl⟩⟩⟩
 refine Q3 b K hst rfl rfl K.glob K.bltn ⟨rfl,rfl,rfl⟩ G.stay0 x (fun h2 tk mA x2=>?_)
 refine ⟨rfl,?_⟩
 obtain ⟨o,vs,a0,he,hc,hd,hv1,hv0,_⟩:=x2.obj
 exact hQ h2 tk e x2.keep x2.new ⟨o,vs,_,he,hc,hd,hv1,hv0⟩
theorem LJ {A:Around} {env:Env} {pos:Pos} {e:Expr} {rest:List Expr} {E:VP} {Q:VP} {h₀:Heap} {C N H:Addr} {mN mH:SV} (X:BH h₀ C N H mN mH)
  (h:wpAny (mdl B) A (spliced (backTo pos (starEach (e::rest) env))) (fun vs s₁=>(∀ b o,h₀.get? b=some o→s₁.heap.get? b=some o)∧wpAny (mdl B) A (call (.ref C) vs) Q E s₁) E s)
  (he:starEach (e::rest) env=(false,eval e env)::starEach rest env)
  (hplain:(backTo pos (starEach rest env)).any (·.1)=false) :
  wpAny (mdl B) A (callWith pos (.ref C) [] (backTo pos (starEach (e::rest) env)) []) Q E s:=by
 rw [he] at h ⊢
 have hst:((backTo pos ((false,eval e env)::starEach rest env)).any (fun x=>x.fst) || ([]:List (Option Str×Sem Value)).any fun x=>x.fst.isNone)=false:=by
  show ((false || (backTo pos (starEach rest env)).any (·.1)) || false)=false
  rw [hplain];rfl
 unfold callWith
 refine AA (AG (Calls.evalArgs_plain (AH h (fun vs s₁ h₁=>?_) fun zz zz x=>x)))
 obtain ⟨hh,g,d,t,os⟩:=s₁
 obtain ⟨⟨nm,q,bs,sn,sub,ab,col,dd,k0,k1,k2,k3,k5,hC⟩,_,_⟩:=X.keeps h₁.1
 have f1:=tc_lookup
 have hT:(⟨hh,g,d,t,os⟩:Shared).TypeIs (.ref C) "type":=⟨_,hC,rfl⟩
 refine AA (wpAny_standAt ?_)
 show wpAny _ _ (keeperOf (.ref C)>>=_) _ _ _
 unfold keeperOf specialOf
 repeat (any_goals (first | assumption | with_reducible refine wpAny_loadPart_at hC ?_ | with_reducible refine wpAny_load' hC ?_ | wp_step))
 rw [if_pos (by rfl),hst]
 show wpAny _ _ (call (.ref C) vs []>>=fun r=>do PySem.holding [r] point;pure r) _ _ _
 exact AA (AH h₁.2 (fun r s' hr=>AA (AG (wpAny_point (AD hr)))) fun zz zz x=>x)
theorem NT {A:Around} {env:Env} {e Cx N H:Addr} {mN mH:SV} {E:VP} {Q:FP} {x:Sem Value} (hh:A.handled=none)
  (h:wpAny (mdl B) A x (fun v s1=>∃ e,v=.ref e∧BH s1.heap Cx N H mN mH∧Pm s1.heap e Cx∧E (.ref e) s1) E s) :
  wpAny (mdl B) A (raiseStmt env (some x) none) Q E s:=by
 unfold raiseStmt
 dsimp only
 refine AA (AH h (fun v s₁ h₁=>?_) fun zz zz x=>x)
 obtain ⟨e,rfl,X,⟨ob,vs,a0,ha,hcls,hd,h1,h0⟩,hE⟩:=h₁
 obtain ⟨hp,g,d,tk,os⟩:=s₁
 obtain ⟨⟨nm,q,bs,sn,sub,ab,col,dd,k0,k1,k2,k3,k5,hC⟩,_,_⟩:=X
 have hnt:∀ {Q':Bool→Shared→Prop},Q' false ⟨hp,g,d,tk,os⟩→wpAny (mdl B) A (isType (.ref e)) Q' E ⟨hp,g,d,tk,os⟩:=by
  intro Q' hq
  simp only [isType,loadHead]
  refine AA (wpAny_loadPart ha ?_)
  rw [hd];exact AD hq
 have hty:∀ {Q':VP},Q' (.ref Cx) ⟨hp,g,d,tk,os⟩→wpAny (mdl B) A (typeOf (.ref e)) Q' E ⟨hp,g,d,tk,os⟩:=by
  intro Q' hq
  simp only [typeOf]
  refine AA (wpAny_loadPart ha ?_)
  rw [hcls];exact AD hq
 refine AA (AD ?_)
 dsimp only
 refine AA (AG ?_)
 unfold excFromValue isExcClass
 refine AA (AA (hnt ?_))
 simp only [Bool.false_eq_true,if_false]
 refine AD ?_
 simp only [Bool.false_eq_true,if_false]
 unfold isInstance
 refine AA (AA (hty ?_))
 refine wpAny_isSubtype_exc hC ?_
 rw [Ds Cx H PySem.F.excBase_Exception.hasBase]
 simp only [if_true]
 refine AD ?_
 refine AA (hnt ?_)
 simp only [Bool.false_eq_true,if_false]
 unfold raisedInstance
 refine AA (AA (hty (AA ?_)))
 refine wpAny_typeOf (T:="type") ⟨_,hC,rfl⟩ ?_
 rw [if_pos (by decide)]
 refine AD ?_
 unfold setFlight raiseNew
 refine AA (AA (wpAny_field ha hd h1 ?_))
 rw [if_neg (by decide)]
 refine AD (AA (wpAny_handled ?_))
 rw [hh]
 first
  | exact wpAny_throw hE
  | exact AA (AD (wpAny_throw hE))
end
section
open PySem PySem.W
variable {B:Bs} {F F':Fv} {C:Value} {W W':Wd} {σ σ':St} {s s':Shared}
open PyProof.Rows
theorem L2 (b:AK B) {r:Rec} {sc:LK} {pos:Pos} {e1 e2:Expr} (h1:OkE B C F e1 (r.ev (AJ B.G sc e1))) (h2:OkE B C F e2 (r.ev (AJ B.G sc e2))) (hp1:Ai e1) (hp2:Ai e2) (W:Wd) (σ:St) (s:Shared) :
  Ok B C F W σ s (spliced (backTo pos (starEach [e1,e2] F.env))) (Ar r.ev [AJ B.G sc e1,AJ B.G sc e2]) (fun zz zz zz vs=>∃ v1 v2,vs=[v1,v2]):=by
 rw [AL hp1,AL hp2]
 show Ok B C F W σ s (do
  let v←eval e1 F.env
  let here←(pure [v]:Sem (List Value))
  return here++(←PySem.holding here (do
   let v←eval e2 F.env
   let here←(pure [v]:Sem (List Value))
   return here++(←PySem.holding here (pure []))))) (do let d←r.ev (AJ B.G sc e1);let ds←(do let d2←r.ev (AJ B.G sc e2);let ds←(pure []:M (List D));pure (d2::ds));pure (d::ds)) _
 refine Ok.bind (h1 W σ s) fun d v W1 σ1 s1 G st hr=>?_
 refine Ok.skip [v] (fun Q E h=>AD h) ?_
 refine Ok.bind (R:=fun zz zz zz vs=>∃ v2,vs=[v2]) (Ok.holding ?_) fun ds vs W2 σ2 s2 G1 st2 hrs=>Ok.pure fun zz=>?_
 ·refine Ok.bind (h2 W1 σ1 s1) fun d2 v2 W2 σ2 s2 G1 st2 hr2=>?_
  refine Ok.skip [v2] (fun Q E h=>AD h) ?_
  refine Ok.skip [] (fun Q E h=>AG (AD h)) ?_
  exact Ok.pure (b:=[d2]) fun zz=>⟨v2,rfl⟩
 ·obtain ⟨v2,rfl⟩:=hrs
  exact ⟨v,v2,rfl⟩
theorem QK {a1 a2:Expr} (h:Af [a1,a2]=true):Ai a1∧Ai a2:=⟨(Cz h).1,(Cz (Cz h).2).1⟩
theorem Nj (b:AK B) (hlim:B.h0.NoLimit) {N H fI:Addr} {mN mH:SV} {fd:FuncData} (K:Er B (B.fnA 4) N H fI mN mH fd) {r:Rec} (S:AX B (.ref (B.fnA 4)) r) (hF:F.isFn=true)
  {c:Str} {np cp pos:Pos} {a1 a2:Expr} (hc:Ae B.G F.env.scope.names c=.glb (.fn 4)) (hp:Af [a1,a2]=true) :
  FZ B (.ref (B.fnA 4)) F (.Raise (some (.Call (.Name c np) [a1,a2] [] cp)) none pos) (do let _←Ar r.ev [AJ B.G F.env.scope.names a1,AJ B.G F.env.scope.names a2];fault):=fun W σ s G outs ho=>by
 have hsc:=GG G hF
 obtain ⟨hp1,hp2⟩:=QK hp
 obtain ⟨l,hl,hout⟩:=AS ho
 obtain ⟨hg,hk,hr⟩:=E5 hc
 show wpAny (mdl B) F.A (do standAt pos;raiseStmt F.env (some (do let v←eval (.Call (.Name c np) [a1,a2] [] cp) F.env;standAt pos;pure v)) none) _ _ _
 refine AA (wpAny_standAt ?_)
 refine NT (mN:=mN) (mH:=mH) (N:=N) (H:=H) (Cx:=B.fnA 4) G.ok.handled (e:=0) (AA (wpAny_Call_ofName ?_))
 refine AH (E2 (C:=.ref (B.fnA 4)) b hr (hsc.glob _ hk) hg G [(.ok (.fn 4),σ)] rfl) (fun f s1 hf=>?_) (fun e s1 hf=>by obtain ⟨_,hin,_⟩:=hf;rcases List.mem_cons.mp hin with q | q<;>cases q)
 obtain ⟨d,W1,σ1,hin,G1,st1,rd⟩:=hf
 have e1:(Out.ok d,σ1)=(Out.ok (D.fn 4),σ):=by simpa using hin
 cases e1
 cases rd
 have hst:starEach [a1,a2] F.env=(false,eval a1 F.env)::starEach [a2] F.env:=AL hp1
 refine LJ K.cls (AH (L2 (C:=.ref (B.fnA 4)) b (r:=r) (sc:=F.env.scope.names) (S.ev F _ a1 hsc) (S.ev F _ a2 hsc) hp1 hp2 W1 _ s1 G1 l hl) (fun vs s2 hv=>?_) (fun e s2 hv=>?_)) hst (by rw [AL hp2];rfl)
 ·obtain ⟨ds,W2,σ2,hin2,G2,st2,v1,v2,rfl⟩:=hv
  refine ⟨G2.stay0,OW b hlim K G2 fun h' tk e hk2 hne hfl=>AA (wpAny_standAt (AD ⟨e,rfl,K.cls.keeps fun c o q=>hk2 c o (G2.stay0 c o q),hfl,?_⟩))⟩
  obtain ⟨o2,hf2,hsub⟩:=AZ hout hin2
  cases hf2
  refine ⟨σ2,hsub _ (.head _),?_⟩
  obtain ⟨G3,st3⟩:=G2.grow b (t:=tk) hk2
  have st:=(st1.trans B G1 st2).trans B G2 st3
  obtain ⟨oe,vs,a0,he,hcl,hd,h1,h0⟩:=hfl
  have hbe:F.base.get? e=none:=by
   cases q:F.base.get? e with
   | none=>rfl
   | some o=>rw [G2.stayB _ _ q] at hne;cases hne
  exact ⟨⟨e,rfl,.inl ⟨G3.stayB,hbe,G3.frames,oe,vs,a0,he,hcl,hd,h1,h0⟩⟩,⟨W2.nu,st.nu,G3.picks⟩,G3.rest,fun c o q n1 n2 zz=>(st.keep c o q n1 n2).2,G3.ns,G3.cells,fun a ha=>(G3.own a ha).1⟩
 ·obtain ⟨σ2,hin2,fl⟩:=hv
  exact ⟨σ2,AQ hout hin2,fl.of_step st1⟩
end
section
open PySem PySem.W
variable {B:Bs} {F F':Fv} {C:Value} {W W':Wd} {σ σ':St} {s s':Shared}
open PyProof.Rows
noncomputable def Dt (F:Fv) (h:Heap):Heap:=hideAll h (F.fr++F.own)
noncomputable def Lj (F:Fv) (h:Heap):Fv:={F with base:=Dt F h}
theorem S4 {F:Fv} {env:Env} {a:Addr} (h:env∈F.stack) (e:env.frame=some a):a∈F.fr:=List.mem_filterMap.mpr ⟨env,h,e⟩
theorem ES {h:Heap} {c:Addr} {o:Obj} (e:h.get? c=some o) (n1:c∉F.fr) (n2:c∉F.own):(Dt F h).get? c=some o :=
 hideAll_get _ e fun m=>(List.mem_append.mp m).elim n1 n2
theorem K0 (G:Good B F W σ s) {c:Addr} (h:c∈F.fr):F.base.get? c=none∧∃ o,s.heap.get? c=some o∧∀ vs,o.data≠.fields vs:=G.frames.mem h
theorem OB (G:Good B F W σ s):B.h0.StaysIn (Dt F s.heap):=fun c o e=>
 ES (G.stay0 c o e) (fun m=>by have:=(K0 G m).1;have h2:=G.ok.b0 c o e;rw [this] at h2;cases h2) (fun m=>by have:=(G.own c m).2.1;rw [e] at this;cases this)
theorem Gp (G:Good B F W σ s):F.base.StaysIn (Dt F s.heap):=fun c o e=>
 ES (G.stayB c o e) (fun m=>by have:=(K0 G m).1;rw [e] at this;cases this) (fun m=>by have:=(G.own c m).2.2;rw [e] at this;cases this)
theorem TV (G:Good B F W σ s):Good B (Lj F s.heap) W {σ with lock:=true} s where
 ok:={kind:=G.ok.kind,glob:=G.ok.glob,bltn:=G.ok.bltn,frame:=G.ok.frame,loc:=G.ok.loc,apart:=G.ok.apart,inj:=G.ok.inj,nofree:=G.ok.nofree,cell:=G.ok.cell,frames:=G.ok.frames,handled:=G.ok.handled,b0:=OB G,sfr:=G.ok.sfr}
 dep:=G.dep
 depth:=G.depth
 units:=G.units
 stay0:=G.stay0
 stayB:=fun c o e=>of_hideAll _ e
 frames:=funFrames_hide G.frames fun env he a ha=>List.mem_append_left _ (S4 he ha)
 ns:=G.ns
 cells:=G.cells
 own:=fun a ha=>⟨(G.own a ha).1,(G.own a ha).2.1,hideAll_none _ (List.mem_append_right _ ha)⟩
 src:=⟨G.src.1,G.src.2.1,fun q=>by cases q⟩
 pins:=G.pins
 vars:=G.vars
 picks:=⟨G.picks.len,G.picks.cand,G.picks.cmps⟩
 rest:=G.rest
theorem OC (G:Good B F W σ s) (G':Good B (Lj F s.heap) W' σ' s') (st:Step B (Lj F s.heap) W s.heap W' s'.heap):Good B F W' {σ' with lock:=σ.lock} s'∧Step B F W s.heap W' s'.heap:=by
 refine ⟨?_,⟨st.nu,st.pins,st.fresh,st.keep⟩⟩
 exact {ok:=G.ok,dep:=G'.dep,depth:=G'.depth,units:=G'.units,stay0:=G'.stay0,stayB:=fun c o e=>G'.stayB c o (Gp G c o e),frames:=funFrames_base (Gp G) G'.frames,ns:=G'.ns,cells:=G'.cells,own:=fun a ha=>⟨(G'.own a ha).1,(G'.own a ha).2.1,(G.own a ha).2.2⟩,src:=⟨G'.src.1,G'.src.2.1,G.src.2.2⟩,pins:=G'.pins,vars:=G'.vars,picks:=⟨G'.picks.len,G'.picks.cand,G'.picks.cmps⟩,rest:=G'.rest}
theorem HI {b:Bool} {n:Nat} {e:Nm} {f:Fl} {σ:St}:∀ {l:List (Out Fl×St)},(Out.ok f,σ)∈l→(Out.ok f,{σ with lock:=b})∈F2 b n e l
 | (.ok f',s')::r,h=>by
  rcases List.mem_cons.mp h with q | q
  ·cases q;exact .head _
  ·exact .tail _ (HI q)
 | (.fault,s')::r,h=>by
  rcases List.mem_cons.mp h with q | q
  ·cases q
  ·exact .tail _ (HI q)
theorem EG {b:Bool} {n:Nat} {e:Nm} {σ:St}:∀ {l:List (Out Fl×St)},(Out.fault,σ)∈l→(Out.ok (.ret (.str e)),{σ with rho:=[],lock:=b,dep:=n})∈F2 b n e l
 | (.ok f',s')::r,h=>by
  rcases List.mem_cons.mp h with q | q
  ·cases q
  ·exact .tail _ (EG q)
 | (.fault,s')::r,h=>by
  rcases List.mem_cons.mp h with q | q
  ·cases q;exact .head _
  ·exact .tail _ (EG q)
theorem Xh {own:List Addr} {h h':Heap} {a:Addr} {m:SV} (k:h.UpToSlots h') (x:h.Ns a m):h'.Ns a m:=EZ x fun o e=>k a o e fun vs q=>by
 obtain ⟨o',e',_,n⟩:=BF x
 rw [e] at e';cases e';exact n _ q
theorem Uh {h h':Heap} {a:Addr} {v:Option Value} (k:h.UpToSlots h') (x:h.IsCell a v):h'.IsCell a v:=C7 x fun o e=>k a o e fun vs q=>by
 obtain ⟨o',e',_,n⟩:=BP x
 rw [e] at e';cases e';exact n _ q
theorem Mb {C:Value} {a:Addr} {h4:Heap} {s1:Shared} {nu:List Nat} {tk:Nat} (G:Good B F W σ s) (fl:Fly B C (Lj F s.heap) W s.heap σ' (.ref a) s1) (hnu:W.nu<+:nu) (hpk:Mz nu σ') (up:s1.heap.UpToSlots h4)
  (hb:(Dt F s.heap).StaysIn h4) (frs:h4.FunFrames F.base F.stack):Good B F ⟨nu,W.pins⟩ {σ' with rho:=[],lock:=σ.lock,dep:=σ.dep} {s1 with heap:=h4,toks:=tk}∧Step B F W s.heap ⟨nu,W.pins⟩ h4:=by
 have b2:∀ c o,s.heap.get? c=some o→c∉F.fr→c∉F.own→h4.get? c=some o:=fun c o e n1 n2=>hb c o (ES e n1 n2)
 have notS:B.S∉F.own:=fun m=>by
  obtain ⟨⟨o,e,n,_⟩,_⟩:=G.own _ m
  obtain ⟨⟨vs,⟨k,e'⟩,_⟩,_⟩:=G.src
  rw [e] at e';cases e';exact n _ _ rfl
 refine ⟨
  {ok:=G.ok,dep:=G.dep,depth:=G.depth,units:=G.units,stay0:=fun c o e=>hb c o (OB G c o e),stayB:=fun c o e=>hb c o (Gp G c o e),frames:=frs,ns:=(by obtain ⟨m,n⟩:=fl.ns;exact ⟨m,Xh (own:=[]) up n⟩),cells:=(fun y c e=>by obtain ⟨ov,n⟩:=fl.cells y c e;exact ⟨ov,Uh up n⟩),own:=(fun y hy=>by
    obtain ⟨o,e,n1,n2⟩:=fl.own y hy
    obtain ⟨sl,e'⟩:=up y o e n2
    exact ⟨⟨_,e',n1,n2⟩,(G.own y hy).2.1,(G.own y hy).2.2⟩),src:=(by
    obtain ⟨⟨vs,⟨n,e⟩,r⟩,q⟩:=G.src
    exact ⟨⟨vs,⟨n,b2 _ _ e G.ok.sfr notS⟩,r⟩,q⟩),pins:=(fun p hp=>by
    obtain ⟨e,n1,n2,n3⟩:=G.pins p hp
    exact ⟨b2 _ _ e n3 n1,n1,n2,n3⟩),vars:=(fun y d hy=>by cases hy),picks:=⟨hpk.len,hpk.cand,hpk.cmps⟩,rest:=fl.rest},hnu,fun zz h=>h,fun zz h=>h,fun c o e n1 n2=>?_⟩
 by_cases m:c∈F.fr
 ·refine ⟨fun n=>absurd m n,?_⟩
  obtain ⟨_,o',e',nf⟩:=K0 G m
  rw [e] at e';cases e'
  obtain ⟨sl,e1⟩:=fl.up c o e n1 n2 nf
  obtain ⟨sl2,e2⟩:=up c _ e1 nf
  exact ⟨sl2,e2⟩
 ·exact ⟨fun zz=>b2 c o e m n1,o.slots,b2 c o e m n1⟩
theorem Sg (b:AK B) {N H fI:Addr} {mN mH:SV} {fd:FuncData} (K:Er B (B.fnA 4) N H fI mN mH fd) {r:Rec} (S:AX B (.ref (B.fnA 4)) r) (hF:F.isFn=true)
  {c rs:Str} {np cp hp rp pos:Pos} {kk:Nat} {body:List Stmt} (hc:Ae B.G F.env.scope.names c=.glb (.fn 4)) :
  FZ B (.ref (B.fnA 4)) F (.Try body [.ExceptHandler (some (.Name c np)) none [.Return (some (.Constant (.str rs) kk cp)) rp] hp] [] [] pos) (fun s=>match r.ss (Ao B.G F.env.scope.names body) {s with lock:=true} with
   | some outs=>some (F2 s.lock s.dep (nm rs) outs)
   | none=>none):=fun W σ s G outs ho=>by
 change (match r.ss (Ao B.G F.env.scope.names body) {σ with lock:=true} with | some outs=>some (F2 σ.lock σ.dep (nm rs) outs) | none=>none)=some outs at ho
 cases hl:r.ss (Ao B.G F.env.scope.names body) {σ with lock:=true} with
 | none=>rw [hl] at ho;cases ho
 | some l=>
 rw [hl] at ho;cases ho
 obtain ⟨hg,hk,hr⟩:=E5 hc
 have hsc:=GG G hF
 refine MZ fun Q E hQ zz=>?_
 refine wpAny_Try_except (AH (S.ss (Lj F s.heap) body hF W _ s (TV G) l hl) (fun f s1 hf=>?_) (fun e s1 hf=>?_))
 ·obtain ⟨fl,W',σ',hin,G',st,rf⟩:=hf
  obtain ⟨G1,st1⟩:=OC G G' st
  have post:Q f s1:=hQ _ _ ⟨fl,W',_,HI hin,G1,st1,rf⟩
  cases f<;>first | exact post | exact AD post
 ·obtain ⟨σ',hin,fl⟩:=hf
  obtain ⟨a,ea,hfl⟩:=fl.exc
  rw [ea] at fl ⊢
  obtain ⟨nu,hnu,hpk⟩:=fl.picks
  obtain ⟨e0,rest,hstk,hef,L,hL⟩:=G.ok.frame
  have hfr:F.A.frames=some (e0::rest):=by rw [G.ok.frames,hstk]
  have hfl':F5 (Dt F s.heap) (e0::rest) (some L) a (.ref (B.fnA 4)) s1.heap:=by
   have:=hfl
   change F5 (Dt F s.heap) F.stack F.env.frame a (.ref (B.fnA 4)) s1.heap at this
   rw [hstk,hL] at this
   exact this
  refine KJ (env:=F.env) hfr (hef.trans hL) hL hfl' fun h2 a0 hh2 k2=>?_
  refine wpAny_landsW hh2 fun h3 hf3 k3=>?_
  have stay3:B.h0.StaysIn h3:=fun c o e=>hf3.1 c o (OB G c o e)
  obtain ⟨v,hv,rdv⟩:=b.glob c _ hg
  refine wpAny_handleBy_cons (codeAny_handlers_test ?_) (by intro q;cases q)
  have hname:∀ (A:Around) (Q:VP) (E:VP) (s':Shared),B.h0.StaysIn s'.heap→Q (.ref (B.fnA 4)) s'→wpAny (mdl B) A (eval (.Name c np) F.env) Q E s':=fun A Q E s' hs hq=>by
   have hv4:v=.ref (B.fnA 4):=by cases rdv ⟨[],[]⟩ s'.heap hs;rfl
   subst hv4
   refine Calls.Name_function_global G.ok.kind (hsc.glob _ hk) ?_ (BB hr).1
   rcases hv with hv | ⟨h1,h2⟩
   ·exact Calls.loadGlobal_global (by rw [G.ok.glob];exact b.hmg.keeps hs) hv hq
   ·exact Calls.loadGlobal_builtin (by rw [G.ok.glob];exact b.hmg.keeps hs) h1 (by rw [G.ok.bltn];exact b.hmb.keeps hs) h2 hq
  refine hname _ _ _ _ stay3 ?_
  obtain ⟨⟨nmc,q,bs,sn,sub,ab,col,dd,k0,k1,k2',k3',k5,hC⟩,_,_⟩:=K.cls.keeps stay3
  obtain ⟨oe,hoe,hoc⟩:=hf3.there
  refine wpAny_excMatches_sub_self hC hoe hoc (by rw [List.contains_cons,PySem.F.excBase_Exception.hasBase,Bool.or_true]) ?_
  refine codeAny_handlers_suite (lands_againW hf3 fun h4 hf4 k4=>?_)
  rw [execs_cons]
  refine AA (wpAny_Return_some (by
   rw [arm_eval_Constant]
   refine wpAny_mkText ?_
   refine AD ?_
   have up:s1.heap.UpToSlots h4:=(k2.trans k3).trans k4
   obtain ⟨GF,stF⟩:=Mb (tk:=s1.toks + 1) G fl hnu hpk up hf4.1 (by rw [hstk];exact funFrames_base (Gp G) hf4.2.2.1)
   exact hQ _ _ ⟨.ret (.str (nm rs)),⟨nu,W.pins⟩,_,EG hin,GF,stF,.str _ _ _ rfl⟩))
end
section
open PySem PySem.W
variable {B:Bs} {F F':Fv} {C:Value} {W W':Wd} {σ σ':St} {s s':Shared} {r:Rec} {T:Tab}
open PyProof.Rows
theorem Od {st:Stmt} {q:Str×List Expr} (h:Pc st=some q):∃ pp lp pos,st=.Assign [.Name q.1 pp] (.List q.2 lp) pos:=AO h fun w hw h=>AO h fun t ht h=>AO h fun x hx h=>AO h fun es he h=>by
 obtain ⟨pos,e1⟩:=Pd hw
 obtain ⟨pp,e2⟩:=A1 hx
 obtain ⟨lp,e3⟩:=MQ he
 exact ⟨pp,lp,pos,by rw [e1,B3 ht,e2,e3,←AB h]⟩
theorem UM {st:Stmt} {q:Str×Expr} (h:WW st=some q):∃ yp ap cp pos,st=.Expr (.Call (.Attribute (.Name q.1 yp) "append" ap) [q.2] [] cp) pos∧ap.endLine=cp.line:=AO h fun e he h=>AO h fun c hc h=>AO h fun w hw h=>AO h fun a ha h=>by
 obtain ⟨hb,h⟩:=Bi h
 rw [Bool.and_eq_true] at hb
 obtain ⟨pos,e1⟩:=Mf he
 obtain ⟨yp,ap,e2,hl⟩:=FH hw
 exact ⟨yp,ap,c.2.2,pos,by rw [e1,El hc,e2,Aj (eq_of_beq hb.1),B3 ha,←AB h],hl.trans (AI hb.2)⟩
theorem QO {sc:LK} {a b:Stmt} {p:Nm×List Expr×D} (h:Kg sc a b=some p):∃ x pp lp pos yp ap e cp pos2,a=.Assign [.Name x pp] (.List p.2.1 lp) pos∧b=.Expr (.Call (.Attribute (.Name x yp) "append" ap) [e] [] cp) pos2∧
  p.1=nm x∧B8 4 e=some p.2.2∧tgt true sc (nm x)=true∧Ax x=false∧ap.endLine=cp.line:=AO h fun q hq h=>AO h fun w hw h=>by
 obtain ⟨hc,h⟩:=Bi h
 refine AO h fun d hd h=>?_
 rw [Bool.and_eq_true,Bool.and_eq_true,Bool.not_eq_true'] at hc
 obtain ⟨pp,lp,pos,e1⟩:=Od hq
 obtain ⟨yp,ap,cp,pos2,e2,hl⟩:=UM hw
 rw [←AB h]
 exact ⟨q.1,pp,lp,pos,yp,ap,w.2,cp,pos2,e1,by rw [Aj (AW.mp hc.1)];exact e2,rfl,hd,hc.2.1,hc.2.2,hl⟩
theorem NV {e:Expr} {p:Str×Expr×Expr} (h:Ke e=some p):∃ np cp,e=.Call (.Name p.1 np) [p.2.1,p.2.2] [] cp:=AO h fun q hq h=>AO h fun c hc h=>AO h fun w hw h=>by
 obtain ⟨np,e2⟩:=A1 hc
 exact ⟨np,q.2.2,by rw [El hq,e2,KM hw,←AB h]⟩
theorem P9 {l:List Stmt} {x:Str} (h:NF l=some x):∃ kk cp rp,l=[.Return (some (.Constant (.str x) kk cp)) rp]:=AO h fun st hs h=>AO h fun e he h=>by
 obtain ⟨rp,e1⟩:=O2 he
 obtain ⟨kk,cp,e2⟩:=DW h
 exact ⟨kk,cp,rp,by rw [B3 hs,e1,e2]⟩
theorem Rr {hs:List ExceptHandler} {o f:List Stmt} {p:Str×Str} (h:Om hs o f=some p):∃ np kk cp rp hp,hs=[.ExceptHandler (some (.Name p.1 np)) none [.Return (some (.Constant (.str p.2) kk cp)) rp] hp]∧o=[]∧f=[]:=AO h fun zz h1 h=>AO h fun zz h2 h=>AO h fun w hw h=>by
 obtain ⟨t,n,body,hp⟩:=w
 obtain ⟨hn,h⟩:=Bi (show B7 (PC n) (t.bind fun t=>(NF body).bind fun r=>(An t).bind fun c=>some (c,r))=some p from h)
 refine AO h fun t' ht h=>AO h fun r hr h=>AO h fun c hc h=>?_
 obtain ⟨np,e1⟩:=A1 hc
 obtain ⟨kk,cp,rp,e2⟩:=P9 hr
 rw [←AB h]
 exact ⟨np,kk,cp,rp,hp,by rw [De hw,MD hn,ht,e1,e2],(Hw h1).1,(Hw h2).1⟩
theorem Qb (b:AK B) (S:AX B C r) (hF:F.isFn=true) (ts:List Expr) (e:Expr) (pos:Pos):FZ B C F (.Assign ts e pos) (DL r (XY B.G F.env.scope.names ts e)):=by
 unfold XY
 cases ho:A2 ts with
 | none=>exact A6
 | some t=>
  rw [De ho]
  dsimp only
  cases hn:An t with
  | some x=>
   obtain ⟨p,e1⟩:=A1 hn
   rw [e1]
   dsimp only
   cases ht:tgt true F.env.scope.names (nm x) with
   | true=>exact Sj b S hF ht
   | false=>exact A6
  | none=>
   dsimp only
   cases hx:Rx t with
   | none=>exact A6
   | some xs=>
    obtain ⟨ts,k,p,e1,hx⟩:=Ou hx
    rw [e1]
    dsimp only
    cases ht:(KR true F.env.scope.names xs&&(Bm xs&&Eb e)) with
    | false=>exact A6
    | true=>
     simp only [Bool.and_eq_true] at ht
     exact Qa b S hF hx ht.1 ht.2.1 ht.2.2
theorem L6 (b:AK B) (hlim:B.h0.NoLimit) {N H fI:Addr} {mN mH:SV} {fd:FuncData} (K:Er B (B.fnA 4) N H fI mN mH fd) (S:AX B (.ref (B.fnA 4)) r) (hF:F.isFn=true) (e c:Option Expr) (pos:Pos) :
  FZ B (.ref (B.fnA 4)) F (.Raise e c pos) (DL r (NU B.G F.env.scope.names e c)):=by
 unfold NU
 cases c with
 | some _=>exact A6
 | none=>
  cases e with
  | none=>exact A6
  | some e=>
   dsimp only
   cases hr:Ke e with
   | none=>exact A6
   | some p=>
    dsimp only
    cases hb:Jt (Ae B.G F.env.scope.names p.1) 4&&Af [p.2.1,p.2.2] with
    | false=>exact A6
    | true=>
     simp only [Bool.and_eq_true] at hb
     obtain ⟨np,cp,rfl⟩:=NV hr
     exact Nj b hlim K S hF (MX hb.1) hb.2
theorem Jm (b:AK B) (hlim:B.h0.NoLimit) {N H fI:Addr} {mN mH:SV} {fd:FuncData} (K:Er B (B.fnA 4) N H fI mN mH fd) (S:AX B (.ref (B.fnA 4)) r) (hF:F.isFn=true) (st:Stmt) :
  FZ B (.ref (B.fnA 4)) F st (DL r (Hg B.G F.env.scope.names st)):=by
 cases st with
 | Return v pos=>cases v with
  | some e=>exact Sh S hF
  | none=>exact A6
 | Assign ts e pos=>exact Qb b S hF ts e pos
 | Expr e pos=>
  show FZ B (.ref (B.fnA 4)) F _ (DL r (match B9 e with | some _=>.expr (AJ B.G F.env.scope.names e) | none=>.bad))
  cases hc:B9 e with
  | none=>exact A6
  | some n=>obtain ⟨p,as,q,rfl⟩:=Ek hc;exact QZ S hF
 | If t x y pos=>exact Si S hF
 | For t it body orelse pos=>
  show FZ B (.ref (B.fnA 4)) F _ (DL r (match An t with
   | some x=>(match orelse.isEmpty&&(tgt true F.env.scope.names (nm x)&&!Cd (Aw B.G F.env.scope.names it)) with | true=>.loop (nm x) (Aw B.G F.env.scope.names it) (Ao B.G F.env.scope.names body) | false=>.bad)
   | none=>.bad))
  cases hn:An t with
  | none=>exact A6
  | some x=>
   obtain ⟨p,rfl⟩:=A1 hn
   dsimp only
   cases hb:orelse.isEmpty&&(tgt true F.env.scope.names (nm x)&&!Cd (Aw B.G F.env.scope.names it)) with
   | false=>exact A6
   | true=>
    simp only [Bool.and_eq_true,Bool.not_eq_true',List.isEmpty_iff] at hb
    obtain ⟨rfl,h1,h2⟩:=hb
    exact QY b S hF h1 h2
 | Raise e c pos=>exact L6 b hlim K S hF e c pos
 | Try body hs orelse fin pos=>
  show FZ B (.ref (B.fnA 4)) F _ (DL r (match Om hs orelse fin with
   | some p=>(match Jt (Ae B.G F.env.scope.names p.1) 4 with | true=>.tryRet (Ao B.G F.env.scope.names body) (nm p.2) | false=>.bad)
   | none=>.bad))
  cases ht:Om hs orelse fin with
  | none=>exact A6
  | some p=>
   dsimp only
   cases hf:Jt (Ae B.G F.env.scope.names p.1) 4 with
   | false=>exact A6
   | true=>
    obtain ⟨np,kk,cp,rp,hp,rfl,rfl,rfl⟩:=Rr ht
    exact Sg b K S hF (MX hf)
 | _=>exact A6
theorem O7 (b:AK B) (hlim:B.h0.NoLimit) {N H fI:Addr} {mN mH:SV} {fd:FuncData} (K:Er B (B.fnA 4) N H fI mN mH fd) (S:AX B (.ref (B.fnA 4)) r) (hF:F.isFn=true) (st:Stmt) (rest:List Stmt) :
  OkS B (.ref (B.fnA 4)) F (st::rest) (Fm r (Hg B.G F.env.scope.names st::Ao B.G F.env.scope.names rest)):=fun W σ s=>by
 show Ok B (.ref (B.fnA 4)) F W σ s (exec st F.env>>=fun f=>match f with | .next=>execs rest F.env | f=>pure f) _ _
 refine Ok.bind (Jm b hlim K S hF st W σ s) fun fl f W1 σ1 s1 G st1 hf=>?_
 cases fl with
 | next=>
  cases f with
  | next=>exact S.ss F rest hF W1 σ1 s1
  | _=>exact hf.elim
 | ret d=>
  cases f with
  | ret v=>exact Ok.pure fun zz=>hf
  | _=>exact hf.elim
theorem U0 (b:AK B) (S:AX B (.ref (B.fnA 4)) r) (hF:F.isFn=true) {x':Str} {p lp pos yp ap cp pos2:Pos} {es':List Expr} {e2:Expr} {d:D} (rest2:List Stmt) (hc:B8 4 e2=some d) (ht:tgt true F.env.scope.names (nm x')=true) (hr:Ax x'=false) (hap:ap.endLine=cp.line) :
  OkS B (.ref (B.fnA 4)) F (.Assign [.Name x' p] (.List es' lp) pos::.Expr (.Call (.Attribute (.Name x' yp) "append" ap) [e2] [] cp) pos2::rest2) (Fm r (.asgL (nm x') (AN B.G F.env.scope.names es') d::Ao B.G F.env.scope.names rest2)):=fun W σ s=>by
 have em:Fm r (.asgL (nm x') (AN B.G F.env.scope.names es') d::Ao B.G F.env.scope.names rest2)=(do
   let ds←Ar r.ev (AN B.G F.env.scope.names es')
   match small ds with
   | true=>do
    B2 (nm x') (.lst (ds++[d]))
    r.ss (Ao B.G F.env.scope.names rest2)
   | false=>bad):=by
  show ((do
   let ds←Ar r.ev (AN B.G F.env.scope.names es')
   match small ds with
   | true=>do B2 (nm x') (.lst (ds++[d]));pure Fl.next
   | false=>bad:M Fl)>>=fun f=>match f with | .next=>r.ss (Ao B.G F.env.scope.names rest2) | .ret d=>(pure (Fl.ret d):M Fl))=_
  rw [M.assoc]
  congr 1
  funext ds
  cases small ds<;>rfl
 rw [em]
 refine Ok.useG fun G0=>?_
 have hst:=DV G0 hF ht
 have hsc:=GG G0 hF
 have e0:execs (.Assign [.Name x' p] (.List es' lp) pos::.Expr (.Call (.Attribute (.Name x' yp) "append" ap) [e2] [] cp) pos2::rest2) F.env =
   (standAt pos>>=fun zz=>swapsWith (.List es' lp) (some (.Name x' p)) pos.line F.env>>=fun c=>if c=true then (evalThenUse (.List es' lp) F.env (fun v=>assignAll v ((assignEach [.Name x' p] F.env).map (·.2)))>>=fun zz=>pure Flow.next) else (eval (.List es' lp) F.env>>=fun v=>swappedStores [.Name x' p] (.List es' lp) F.env>>=fun sw=>assignStores F.env v sw ((assignEach [.Name x' p] F.env).map (·.2))))>>=fun f=>match f with | .next=>execs (.Expr (.Call (.Attribute (.Name x' yp) "append" ap) [e2] [] cp) pos2::rest2) F.env | f=>pure f:=rfl
 have sw0:swapsWith (.List es' lp) (some (.Name x' p)) pos.line F.env=pure false:=rfl
 have sw1:swappedStores [.Name x' p] (.List es' lp) F.env=pure none:=rfl
 have el:eval (.List es' lp) F.env=(standAt lp>>=fun zz=>spliced (backTo lp (starEach es' F.env))>>=fun vs=>newList vs):=rfl
 have as1:∀ v,assignStores F.env v none ((assignEach [.Name x' p] F.env).map (·.2))=(assign (.Name x' p) F.env v>>=fun zz=>pure Flow.next):=fun v=>rfl
 rw [e0,sw0,sw1,el]
 simp only [pure_bind,bind_assoc,Bool.false_eq_true,if_false,as1]
 refine Ok.at (Ok.at (Ok.bind (D0 b S.bad es' (fun e zz=>S.ev F _ e hsc) W σ s) fun ds vs W1 σ1 s1 G st rd=>?_))
 cases hsm:small ds with
 | false=>exact Ok.bad
 | true=>
  dsimp only
  have hk:=QV (C:=.ref (B.fnA 4)) (F:=F) (σ:=σ1) (p:=p) (yp:=yp) (ap:=ap) (cp:=cp) (pos:=pos2) b hst hr hc rd hsm hap
  have:=Ok.bind (g:=fun zz=>r.ss (Ao B.G F.env.scope.names rest2)) (f:=fun f=>match f with | .next=>execs rest2 F.env | f=>pure f) (R':=RdF B) hk fun zz f W2 σ2 s2 G2 st2 hf=>(by subst hf;exact S.ss F rest2 hF W2 σ2 s2)
  refine this.eq ?_ rfl
  simp only [bind_assoc]
  rfl
theorem QS (b:AK B) (hlim:B.h0.NoLimit) {N H fI:Addr} {mN mH:SV} {fd:FuncData} (K:Er B (B.fnA 4) N H fI mN mH fd) (S:AX B (.ref (B.fnA 4)) r) (hF:F.isFn=true) (ss:List Stmt) :
  OkS B (.ref (B.fnA 4)) F ss (Fm r (Ao B.G F.env.scope.names ss)):=by
 cases ss with
 | nil=>exact fun W σ s=>Ok.pure (b:=Fl.next) fun zz=>trivial
 | cons st rest=>
  cases rest with
  | nil=>exact O7 b hlim K S hF st []
  | cons st2 rest2=>
   show OkS B (.ref (B.fnA 4)) F _ (Fm r (match Kg F.env.scope.names st st2 with
    | some p=>.asgL p.1 (AN B.G F.env.scope.names p.2.1) p.2.2::Ao B.G F.env.scope.names rest2
    | none=>Hg B.G F.env.scope.names st::Ao B.G F.env.scope.names (st2::rest2)))
   cases hp:Kg F.env.scope.names st st2 with
   | none=>exact O7 b hlim K S hF st (st2::rest2)
   | some p=>
    obtain ⟨x,pp,lp,pos,yp,ap,e,cp,pos2,rfl,rfl,e1,hc,ht,hr,hl⟩:=QO hp
    dsimp only
    rw [e1]
    exact U0 b S hF rest2 hc ht hr hl
end
section
open PySem PySem.W
variable {B:Bs} {F F':Fv} {C:Value} {W W':Wd} {σ σ':St} {s s':Shared} {r:Rec} {T:Tab}
open PyProof.Rows
structure Pf (B:Bs) (T:Tab):Prop where
 fns:∀ i fn,T.hook i=none→T.fns i=some fn→∃ fd stmts,HN B i fn fd stmts
 known:∀ i h,T.hook i=some h→∃ o fd,B.h0.get? (B.fnA i)=some o∧o.data=.func fd∧o.cls=.type "function"
 hook:∀ i h,T.hook i=some h→∀ F args vs W σ s,RdL B W s.heap args vs→Ok B (.ref (B.fnA 4)) F W σ s (call (.ref (B.fnA i)) vs []) (h args) (RdV B)
theorem NO:AX B C Rec.none where
 bad:=rfl
 ev:=fun F sc E h W σ s=>Ok.bad
 use:=fun F sc elt gens scope pos h u m2 hu W σ s G outs ho=>by cases ho
 tbad:=rfl
 tst:=fun F sc E h W σ s=>Ok.bad
 ss:=fun F st h W σ s=>Ok.bad
 cal:=fun F i args vs W σ s h=>Ok.bad
 known:=fun i args σ l h=>by cases h
theorem Ng (b:AK B) (hlim:B.h0.NoLimit) (TK:Pf B T) (S:AX B (.ref (B.fnA 4)) r) {i:Nat} {args:List D} {vs:List Value} (ra:RdL B W s.heap args vs) :
  Ok B (.ref (B.fnA 4)) F W σ s (call (.ref (B.fnA i)) vs []) (FG T r i args) (RdV B):=by
 unfold FG
 cases hh:T.hook i with
 | some h=>exact TK.hook i h hh F args vs W σ s ra
 | none=>
  dsimp only
  cases hf:T.fns i with
  | none=>exact Ok.bad
  | some fn=>
   obtain ⟨fd,stmts,FF⟩:=TK.fns i fn hh hf
   dsimp only
   cases hb:Em fn.params args fn.defaults with
   | none=>exact Ok.bad
   | some ρ=>exact U3 b hlim FF (fun F' h1 h2=>by
     have:=S.ss F' stmts h1
     rw [h2,FF.comp] at this
     exact this) ra hb
theorem NM {Ck Nk:Addr} {mk:SV} (b:AK B) (hlim:B.h0.NoLimit) (hd:JK B T.dics) (CK:KI B Ck Nk mk) {N H fI:Addr} {mN mH:SV} {fd:FuncData} (K:Er B (B.fnA 4) N H fI mN mH fd) (TK:Pf B T)
  (S:AX B (.ref (B.fnA 4)) r):AX B (.ref (B.fnA 4)) ⟨EF T r,Eu r,Fm r,FG T r⟩ where
 bad:=rfl
 ev:=fun F sc E h=>QU b hd CK S h E
 use:=fun F sc elt gens scope pos h u m2 hu W σ s=>Ws b S h hu
 tbad:=rfl
 tst:=fun F sc E h=>Na b S h E
 ss:=fun F st h=>QS b hlim K S h st
 cal:=fun F i args vs W σ s h=>Ng b hlim TK S h
 known:=fun i args σ l h=>by
  change FG T r i args σ=some l at h
  unfold FG at h
  cases hh:T.hook i with
  | some h=>exact TK.known i h hh
  | none=>
   rw [hh] at h
   simp only at h
   cases hf:T.fns i with
   | none=>rw [hf] at h;cases h
   | some fn=>
    obtain ⟨fd,stmts,FF⟩:=TK.fns i fn hh hf
    obtain ⟨o,e,d,c⟩:=FF.obj
    exact ⟨o,fd,e,d,c⟩
theorem Jh {Ck Nk:Addr} {mk:SV} (b:AK B) (hlim:B.h0.NoLimit) (hd:JK B T.dics) (CK:KI B Ck Nk mk) {N H fI:Addr} {mN mH:SV} {fd:FuncData} (K:Er B (B.fnA 4) N H fI mN mH fd) (TK:Pf B T) :
  ∀ n,AX B (.ref (B.fnA 4)) (run T n)
 | 0=>NO
 | n + 1=>NM b hlim hd CK K TK (Jh b hlim hd CK K TK n)
end
section
open PySem PySem.W
variable {B:Bs} {F F':Fv} {C:Value} {W W':Wd} {σ σ':St} {s s':Shared}
open PyProof.Rows
section
variable (B) (A:Around) (env:Env) (h:Heap)
noncomputable abbrev Vv (e:Expr) (v:Value):Prop:=∀ (s:Shared) (Q:VP) (E:VP),s.heap=h→(∀ tk,Q v {s with toks:=tk})→wpAny (mdl B) A (eval e env) Q E s
noncomputable abbrev Iv (e:Expr) (n:Int):Prop:=∀ (s:Shared) (Q:VP) (E:VP),s.heap=h→(∀ t tk,Q (.int n t) {s with toks:=tk})→wpAny (mdl B) A (eval e env) Q E s
end
section
variable {A:Around} {env:Env} {h:Heap} {m:SV}
structure Fn1 (B:Bs) (env:Env) (h:Heap) (m:SV):Prop where
 kind:env.scope.kind=.function
 glob:env.globals=mainGlobals
 bltn:env.builtins=builtinsNs
 ns:h.Ns env.locals m
 stay:B.h0.StaysIn h
theorem Fn1.inter (X:Fn1 B env h m):interactive env=false:=by unfold interactive;rw [X.kind];rfl
theorem Vv.name (X:Fn1 B env h m) {x:Str} {p:Pos} {v:Value} (hk:env.kindOf x=some .local) (hv:m x=some v) (hd:(x == ("__debug__" : Str))=false):Vv B A env h (.Name x p) v:=fun s Q E hs hQ=>by
 rw [eval_Name env x p hd]
 exact AA (wpAny_standAt (wpAny_loadName_local X.kind hk (by rw [hs];exact X.ns) hv (hQ s.toks)))
theorem Vv.int {e:Expr} {n:Int} {t:Tok} (x:Vv B A env h e (.int n t)):Iv B A env h e n:=fun s Q E hs hQ=>x s Q E hs fun tk=>hQ t tk
theorem Vv.global (b:AK B) (X:Fn1 B env h m) {x:Str} {p:Pos} {v:Value} (hk:env.kindOf x=some .globalImplicit) (hv:B.mg x=some v∨(B.mg x=none∧B.mb x=some v)) (hd:(x == ("__debug__" : Str))=false):Vv B A env h (.Name x p) v:=fun s Q E hs hQ=>by
 refine Calls.Name_function_global X.kind hk ?_ hd
 have st:B.h0.StaysIn s.heap:=by rw [hs];exact X.stay
 rcases hv with hv | ⟨h1,h2⟩
 ·exact Calls.loadGlobal_global (by rw [X.glob];exact b.hmg.keeps st) hv (hQ s.toks)
 ·exact Calls.loadGlobal_builtin (by rw [X.glob];exact b.hmg.keeps st) h1 (by rw [X.bltn];exact b.hmb.keeps st) h2 (hQ s.toks)
theorem Iv.const {n:Int} {k:Nat} {p:Pos}:Iv B A env h (.Constant (.int n) k p) n:=fun s Q E hs hQ=>by
 rw [arm_eval_Constant]
 exact wpAny_mkInt (hQ _ _)
theorem Iv.sub {o i:Expr} {p:Pos} {a:Addr} {items:Array Value} {k n:Int} {t:Tok} (ho:Vv B A env h o (.ref a)) (hi:Iv B A env h i k) (hl:h.IsList a items) (h0:0≤k) (h1:k < 2 ^ 63) (hx:items[k.toNat]? = some (.int n t)):Iv B A env h (.Subscript o i p) n:=fun s Q E hs hQ=>by
 show wpAny (mdl B) A (eval o env>>=fun o'=>PySem.holding [o'] (eval i env)>>=fun i'=>standAt p>>=fun zz=>subscriptTail o i o' i') Q E s
 refine AA (ho s _ E hs fun tk=>AA (AG (hi _ _ E hs fun t' tk'=>AA (wpAny_standAt ?_))))
 subst hs
 obtain ⟨j,rfl⟩:=Int.eq_ofNat_of_zero_le h0
 exact DJ hl.typeIs slot_list_getitem.lookup (wpAny_getItem_list (k:=(j:Int)) hl h0 h1 hx (hQ t tk'))
theorem Iv.bin {l r:Expr} {op:Operator} {p:Pos} {a c n:Int} (hop:∀ (t u:Tok) (s:Shared) (Q:VP) (E:VP),Q (.int n s.toks) {s with toks:=s.toks + 1}→wpAny (mdl B) A (binaryOp op (.int a t) (.int c u)) Q E s)
  (hl:Iv B A env h l a) (hr:Iv B A env h r c):Iv B A env h (.BinOp l op r p) n:=fun s Q E hs hQ=>by
 show wpAny (mdl B) A (eval l env>>=fun a=>PySem.holding [a] (eval r env)>>=fun c=>standAt p>>=fun zz=>PySem.operate [a,c] (binaryOp op a c)) Q E s
 refine AA (hl s _ E hs fun t tk=>AA (AG (hr _ _ E hs fun u tk'=>AA (wpAny_standAt ?_))))
 unfold PySem.operate
 refine AA (AG (hop t u _ _ _ ?_))
 refine AA ?_
 refine wpAny_release (AD ?_)
 exact hQ _ _
theorem Iv.add {l r:Expr} {p:Pos} {a c:Int} (hl:Iv B A env h l a) (hr:Iv B A env h r c):Iv B A env h (.BinOp l .Add r p) (a + c):=Iv.bin (fun t u s Q E q=>AutoIntOps.add_0 q) hl hr
theorem Iv.subt {l r:Expr} {p:Pos} {a c:Int} (hl:Iv B A env h l a) (hr:Iv B A env h r c):Iv B A env h (.BinOp l .Sub r p) (a - c):=Iv.bin (fun t u s Q E q=>AutoIntOps.sub_0 q) hl hr
theorem Iv.mul {l r:Expr} {p:Pos} {a c:Int} (hm:IntMulOk a c) (hl:Iv B A env h l a) (hr:Iv B A env h r c):Iv B A env h (.BinOp l .Mult r p) (a * c):=Iv.bin (fun t u s Q E q=>AutoIntOps.mul_0 q hm) hl hr
theorem Iv.mod {l r:Expr} {p:Pos} {a c:Int} (hc:0 < c) (hl:Iv B A env h l a) (hr:Iv B A env h r c):Iv B A env h (.BinOp l .Mod r p) (a % c) :=
 Iv.bin (fun t u s Q E q=>AutoIntOps.mod_1 (by simp;omega) (by rw [Int.fmod_eq_emod_of_nonneg _ (by omega)];exact q)) hl hr
theorem Iv.fdiv {l r:Expr} {p:Pos} {a c:Int} (hc:0 < c) (hc2:c < 1073741824 * 2) (hc3:Builtin.divisionGoesByPylong a c=false) (hl:Iv B A env h l a) (hr:Iv B A env h r c):Iv B A env h (.BinOp l .FloorDiv r p) (a / c) :=
 Iv.bin (fun t u s Q E q=>AutoIntOps.floordiv_1 (by simp;omega) (by rw [hc3];decide) (by rw [Int.fdiv_eq_ediv_of_nonneg _ (by omega)];exact q)) hl hr
theorem Iv.int (b:AK B) (X:Fn1 B env h m) {e:Expr} {p pos:Pos} {n:Int} (hp:Ai e) (hk:env.kindOf "int" = some .globalImplicit) (hg:B.mg "int" = none∧B.mb "int" = some (.type "int")) (he:Iv B A env h e n):Iv B A env h (.Call (.Name "int" p) [e] [] pos) n:=fun s Q E hs hQ=>by
 refine wpAny_Call_ofName (Vv.global b X hk (.inr hg) (by decide) s _ E hs fun tk=>?_)
 have se:backTo pos (starEach [e] env)=[(false,eval e env)]:=by rw [AL hp];rfl
 rw [se]
 refine PySem.callWith_type1 (he _ _ E hs fun t tk'=>?_)
 exact call_int_int (hQ _ _)
end
end
section
open PySem PySem.W
variable {B:Bs} {F F':Fv} {C:Value} {W W':Wd} {σ σ':St} {s s':Shared}
open PyProof.Rows
noncomputable def Am (i:Nat):List Stmt:=match (nth P.main.body i).bind K9 with
 | some q=>q.2.1
 | none=>[]
theorem JP {A:Around} {E:VP} {l:Addr} {items:Array Value} {k:Int} {t:Tok} {v:Value} {Q:Unit→Shared→Prop} (hl:s.heap.PlainList l items)
  (h0:0≤k) (hfit:k < 2 ^ 63) (hn:k < items.size)
  (hQ:∀ h',h'.PlainList l (items.setIfInBounds k.toNat v)→Heap.SameBut l s.heap h'→Q () {s with heap:=h'}) :
  wpAny (mdl B) A (setItem (.ref l) (.int k t) v) Q E s:=by
 obtain ⟨n,ho⟩:=hl
 have hl':s.heap.IsList l items:=⟨_,ho,rfl,n,rfl⟩
 unfold setItem
 try with_reducible refine AG ?_
 first | refine AA (AD ?_) | skip
 refine AA (wpAny_sequenceKey hl'.typeIs (by decide) ?_)
 refine AA (wpAny_callSpecial?_slot (name:=Str.ofString "__setitem__") hl'.typeIs slot_list_setitem
  (wpAny_call_entry slot_list_setitem hl'.typeIs entry_list_setitem ?_ (args_list_setitem _ _ _)))
 show wpAny _ _ (Builtin.List.listSubscript? (.int k t)>>=_) _ _ s
 refine AA (wpAny_listSubscript_int (fitsIndex_of h0 hfit) ?_)
 clear hfit
 obtain ⟨j,rfl⟩:=Int.eq_ofNat_of_zero_le h0
 have hj:j < items.size:=by omega
 have hx':items[j]? = some items[j]:=Array.getElem?_eq_getElem hj
 show wpAny _ _ ((seqItemAt l j>>=fun r=>pure (r.map (j,·)))>>=_) _ _ s
 refine AA (AA (wpAny_seqItemAt ho rfl (AD ?_)))
 rw [hx']
 show wpAny _ _ (setSeqItemAt l j v>>=_) _ _ s
 have hfin:(s.heap.update l (Obj.mapSeq (·.setIfInBounds j v))).PlainList l (items.setIfInBounds j v):=by
  refine ⟨?n,(Heap.get?_update_self _ ho ?_).trans ?_⟩
  rotate_left
  ·exact Obj.isFreed_of_seq (Obj.data_mapSeq (o:={cls:=.type "list",data:=.seq items n}) rfl (·.setIfInBounds j v)).choose_spec
  ·simp [Obj.mapSeq];rfl
 refine AA (wpAny_setSeqItemAt ho rfl ?_)
 first
  | exact AA (AD (AD ⟨.none,rfl,AD (hQ _ hfin (Heap.SameBut.update ..))⟩))
  | exact AD ⟨.none,rfl,AD (hQ _ hfin (Heap.SameBut.update ..))⟩
end
section
open PySem PySem.W
variable {B:Bs} {F F':Fv} {C:Value} {W W':Wd} {σ σ':St} {s s':Shared}
open PyProof.Rows
section
variable {A:Around} {env:Env} {m:SV} {Q:FP} {E:VP}
theorem Vz {e:Expr} {pos:Pos} {n:Int} (he:Iv B A env s.heap e n) (hQ:∀ t tk,Q (.ret (.int n t)) {s with toks:=tk}):wpAny (mdl B) A (exec (.Return (some e) pos) env) Q E s :=
 wpAny_Return_some (he s _ _ rfl hQ)
theorem Yg {l r:Expr} {p:Pos} {a c:Int} {Q:Bool→Shared→Prop} (hm:behindInMarks .Gt r=false) (hl:Iv B A env s.heap l a) (hr:Iv B A env s.heap r c) (hQ:∀ tk,Q (decide (a > c)) {s with toks:=tk}):wpAny (mdl B) A (isTrue (.Compare l [.Gt] [r] p) env (eval (.Compare l [.Gt] [r] p) env)) Q E s:=by
 rw [arm_isTrue_Compare]
 refine AA (hl s _ _ rfl fun t tk=>?_)
 show wpAny (mdl B) A (do
  let rv←PySem.holding [.int a t] (markedBehindIn .Gt r (eval r env))
  standAt p
  let c←PySem.operate [.int a t,rv] (compareOp .Gt (.int a t) rv)
  PySem.holding [c] (truthy c)) Q E _
 have em:markedBehindIn .Gt r (eval r env)=eval r env:=by
  unfold markedBehindIn;rw [hm]
 rw [em]
 refine AA (AG (hr _ _ E rfl fun u tk'=>AA (wpAny_standAt ?_)))
 unfold PySem.operate
 refine AA (AA (AG (P.gt_int ?_)))
 refine AA ?_
 refine wpAny_release (AD ?_)
 exact AG (wpAny_truthy_bool (hQ _))
theorem M4 {t:Expr} {a e:List Stmt} {pos:Pos} (h:wpAny (mdl B) A (isTrue t env (eval t env)) (fun c s1=>if c=true then wpAny (mdl B) A (execs a env) Q E s1 else wpAny (mdl B) A (execs e env) Q E s1) E s):wpAny (mdl B) A (exec (.If t a e pos) env) Q E s:=by
 show wpAny (mdl B) A (standAt pos>>=fun zz=>isTrue t env (eval t env)>>=fun c=>if c=true then execs a env else execs e env) Q E s
 refine AA (wpAny_standAt (AA (AH h (fun c s1 hc=>?_) fun zz zz x=>x)))
 cases c<;>simpa using hc
theorem Bk {st:Stmt} {rest:List Stmt} (h:wpAny (mdl B) A (exec st env) (fun f s1=>match f with | .next=>wpAny (mdl B) A (execs rest env) Q E s1 | f=>Q f s1) E s):wpAny (mdl B) A (execs (st::rest) env) Q E s:=by
 rw [execs_cons]
 refine AA (AH h (fun f s1 hf=>?_) fun zz zz x=>x)
 cases f<;>first | exact hf | exact AD hf
theorem EM (h:Q .next s):wpAny (mdl B) A (execs [] env) Q E s:=AD h
theorem Xg (X:Fn1 B env s.heap m) {x:Str} {p pos:Pos} {e:Expr} {n:Int} (he:Iv B A env s.heap e n) (hk:env.kindOf x=some .local) (hsw:swapsWith e (some (.Name x p)) pos.line env=pure false)
  (hQ:∀ h' t tk,h'.Ns env.locals (fun y=>if y=x then some (.int n t) else m y)→Heap.SameBut env.locals s.heap h'→Q .next {s with heap:=h',toks:=tk}) :
  wpAny (mdl B) A (exec (.Assign [.Name x p] e pos) env) Q E s:=by
 refine wpAny_Assign_Name (he s _ _ rfl fun t tk=>?_) hsw
 exact wpAny_storeName_local hk X.ns (fun h' hn' hs=>hQ h' t _ hn' hs) (by rw [X.kind];rfl)
theorem Vy {o i:Expr} {p pos:Pos} {e:Expr} {n k:Int} {a:Addr} {items:Array Value} (he:Iv B A env s.heap e n) (ho:Vv B A env s.heap o (.ref a)) (hi:Iv B A env s.heap i k) (hl:s.heap.PlainList a items)
  (h0:0≤k) (h1:k < 2 ^ 63) (hn:k < items.size) (hsw:swapsWith e (some (.Subscript o i p)) pos.line env=pure false)
  (hQ:∀ h' t tk,h'.PlainList a (items.setIfInBounds k.toNat (.int n t))→Heap.SameBut a s.heap h'→Q .next {s with heap:=h',toks:=tk}) :
  wpAny (mdl B) A (exec (.Assign [.Subscript o i p] e pos) env) Q E s:=by
 refine wpAny_Assign_Subscript (he s _ _ rfl fun t tk=>ho _ _ _ rfl fun tk2=>hi _ _ _ rfl fun t3 tk3=>?_) hsw
 exact JP hl h0 h1 hn fun h' pl sb=>hQ h' t tk3 pl sb
end
noncomputable abbrev JI (h:Heap) (a:Addr) (x y:Int):Prop:=∃ t u,h.PlainList a #[.int x t,.int y u]
theorem Pw (b:AK B) {A:Around} {env:Env} {m:SV} {E:VP} {Q:FP} {x y top:Int} {tt:Tok} {a:Addr} (X:Fn1 B env s.heap m)
  (hint:B.mg "int" = none∧B.mb "int" = some (.type "int")) (k1:env.kindOf "source" = some .local) (k2:env.kindOf "top" = some .local) (k3:env.kindOf "drawn" = some .local) (k4:env.kindOf "int" = some .globalImplicit)
  (m1:m "source" = some (.ref a)) (m2:m "top" = some (.int top tt)) (hS:JI s.heap a x y) (hx:0≤x) (hy:0≤y) (hy2:y < 2147483648) (ht:0 < top) (ht2:top≤16) (hL:a≠env.locals) (h0S:B.h0.get? a=none) (h0L:B.h0.get? env.locals=none)
  (hQ:∀ h' tk r t x' y',0≤r→r < top→JI h' a x' y'→0≤x'→0≤y'→y' < 2147483648→(∀ c o,c≠a→c≠env.locals→s.heap.get? c=some o→h'.get? c=some o)→Q (.ret (.int r t)) {s with heap:=h',toks:=tk}) :
  wpAny (mdl B) A (execs (Am 100) env) Q E s:=by
 obtain ⟨t1,u1,hpl⟩:=hS
 have src:∀ {h:Heap} {mm:SV},Fn1 B env h mm→mm "source" = some (.ref a)→∀ p,Vv B A env h (.Name "source" p) (.ref a):=fun X e p=>Vv.name X k1 e (by decide)
 refine Bk (M4 (Yg rfl (Iv.sub (src X m1 _) Iv.const hpl.isList (by decide) (by decide) rfl) Iv.const fun tk0=>?_))
 by_cases hp:x > 0
 ·rw [decide_eq_true hp,if_pos rfl]
  refine Bk (Xg (s:={s with toks:=tk0}) X (Iv.mod ht (Iv.int b X trivial k4 hint (Iv.sub (src X m1 _) Iv.const hpl.isList (by decide) (by decide) rfl)) (Vv.int (Vv.name X k2 m2 (by decide)))) k3 rfl fun h1 t3 tk1 hn1 sb1=>?_)
  have hpl1:h1.PlainList a #[.int x t1,.int y u1]:=by obtain ⟨n,e⟩:=hpl;exact ⟨n,(sb1.2 a hL).trans e⟩
  have X1:Fn1 B env h1 (fun y=>if y = "drawn" then some (.int (x % top) t3) else m y):=⟨X.kind,X.glob,X.bltn,hn1,fun c o e=>(sb1.2 c (fun q=>by rw [q,h0L] at e;cases e)).trans (X.stay c o e)⟩
  refine Bk (Vy (s:={s with heap:=h1,toks:=tk1}) (k:=0) (Iv.fdiv ht (by omega) (PyProof.noPylong_small (by omega)) (Iv.sub (src X1 m1 _) Iv.const hpl1.isList (by decide) (by decide) rfl) (Vv.int (Vv.name X1 k2 m2 (by decide)))) (src X1 m1 _) Iv.const hpl1 (by decide) (by decide) (by show (0:Int) < 2;decide) rfl fun h2 t4 tk2 pl2 sb2=>?_)
  have X2:Fn1 B env h2 (fun y=>if y = "drawn" then some (.int (x % top) t3) else m y):=⟨X.kind,X.glob,X.bltn,hn1.sameBut sb2 (Ne.symm hL),fun c o e=>(sb2.2 c (fun q=>by rw [q,h0S] at e;cases e)).trans (X1.stay c o e)⟩
  refine Bk (Vz (s:={s with heap:=h2,toks:=tk2}) (Vv.int (t:=t3) (Vv.name X2 k3 (if_pos rfl) (by decide))) fun t tk=>?_)
  exact hQ h2 tk (x % top) t (x / top) y (Int.emod_nonneg _ (by omega)) (Int.emod_lt_of_pos _ ht) ⟨_,_,pl2⟩ (Int.ediv_nonneg hx (by omega)) hy hy2 fun c o n1 n2 e=>(sb2.2 c n1).trans ((sb1.2 c n2).trans e)
 ·rw [decide_eq_false hp,if_neg (by decide)]
  refine EM ?_
  refine Bk (Vy (s:={s with toks:=tk0}) (k:=1) (n:=(y * 39373 + 7) % 2147483647) (Iv.mod (by decide) (Iv.int b X trivial k4 hint (Iv.add (Iv.mul (IntMulOk.of_right (by decide +kernel)) (Iv.sub (src X m1 _) Iv.const hpl.isList (by decide) (by decide) rfl) Iv.const) Iv.const)) Iv.const) (src X m1 _) Iv.const hpl (by decide) (by decide) (by show (1:Int) < 2;decide) rfl fun h2 t4 tk2 pl2 sb2=>?_)
  have X2:Fn1 B env h2 m:=⟨X.kind,X.glob,X.bltn,X.ns.sameBut sb2 (Ne.symm hL),fun c o e=>(sb2.2 c (fun q=>by rw [q,h0S] at e;cases e)).trans (X.stay c o e)⟩
  obtain ⟨y',hy'⟩:∃ y',y'=(y * 39373 + 7) % 2147483647:=⟨_,rfl⟩
  rw [←hy'] at pl2
  have hy0:0≤y':=by rw [hy'];exact Int.emod_nonneg _ (by decide)
  have hy1:y' < 2147483647:=by rw [hy'];exact Int.emod_lt_of_pos _ (by decide)
  have pl2':h2.PlainList a #[.int x t1,.int y' t4]:=pl2
  have sub1:∀ p q k p2,Iv B A env h2 (.Subscript (.Name "source" p) (.Constant (.int 1) k q) p2) y':=fun p q k p2=>Iv.sub (src X2 m1 _) Iv.const pl2'.isList (by decide) (by decide) rfl
  refine Bk (Vz (s:={s with heap:=h2,toks:=tk2}) (n:=((y' * y') % 2147483629 / 32) % top) (Iv.mod ht (Iv.int b X2 trivial k4 hint (Iv.fdiv (by decide) (by decide) (PyProof.noPylong_small (by decide)) (Iv.mod (by decide) (Iv.int b X2 trivial k4 hint (Iv.mul (IntMulOk.of_left (intBits_le_64 (by omega) (by omega))) (sub1 _ _ _ _) (sub1 _ _ _ _))) Iv.const) Iv.const)) (Vv.int (Vv.name X2 k2 m2 (by decide)))) fun t tk=>?_)
  exact hQ h2 tk _ t x y' (Int.emod_nonneg _ (by omega)) (Int.emod_lt_of_pos _ ht) ⟨_,_,pl2'⟩ hx hy0 (by omega) fun c o n1 n2 e=>(sb2.2 c n1).trans e
end
section
open PySem PySem.W
variable {B:Bs} {F F':Fv} {C:Value} {W W':Wd} {σ σ':St} {s s':Shared}
open PyProof.Rows
noncomputable def AM (i:Nat):Scope:=match (nth P.main.body i).bind K9 with
 | some q=>q.2.2
 | none=>P.main.scope
structure DT (B:Bs) (i:Nat) (fd:FuncData):Prop where
 obj:∃ o,B.h0.get? (B.fnA i)=some o∧o.data=.func fd∧o.cls=.type "function"
 body:fd.body=.stmts (Am i)
 scope:fd.scope=AM i
 glob:fd.globals=mainGlobals
 bltn:fd.builtins=builtinsNs
 code:B.h0.CodeRec fd.code fd.qualname
theorem Lf:∀ {n i k:Nat},k < n→nth (upTo i n) k=some (i + k)
 | 0,_,_,h=>absurd h (Nat.not_lt_zero _)
 | n + 1,i,0,h=>rfl
 | n + 1,i,k + 1,h=>by
  show nth (upTo (i + 1) n) k=_
  rw [Lf (Nat.lt_of_succ_lt_succ h)]
  congr 1;omega
theorem PB {α β:Type} {f:α→β}:∀ {l:List α} {k:Nat},nth (l.map f) k=(nth l k).map f
 | [],_=>rfl
 | a::l,0=>rfl
 | a::l,k + 1=>PB (l:=l) (k:=k)
theorem Q4 (b:AK B) (G:Good B F W σ s) (hl:σ.lock=false) {h':Heap} {tk:Nat} {x y:Int} {r:Nat} (hS:JI h' B.S x y) (hx:0≤x) (hy:0≤y) (hy2:y < 2147483648)
  (hk:∀ c o,c≠B.S→s.heap.get? c=some o→h'.get? c=some o):Good B F ⟨W.nu++[r],W.pins⟩ {σ with next:=σ.next + 1} {s with heap:=h',toks:=tk}∧Step B F W s.heap ⟨W.nu++[r],W.pins⟩ h':=by
 have hn:W.nu<+:W.nu++[r]:=⟨[r],rfl⟩
 have st:Step B F W s.heap ⟨W.nu++[r],W.pins⟩ h':=⟨hn,fun zz h=>h,fun zz h=>h,fun c o e n1 n2=>⟨fun zz=>hk c o n2 e,o.slots,hk c o n2 e⟩⟩
 obtain ⟨⟨vsS,⟨nS,eS⟩,_⟩,hS0,hSB⟩:=G.src
 have own:∀ a∈F.own,a≠B.S:=fun a ha q=>by
  obtain ⟨⟨o,e,n,_⟩,_⟩:=G.own a ha
  rw [q,eS] at e;cases e;exact n _ _ rfl
 have nsk:∀ {L:Addr} {m:SV},s.heap.Ns L m→h'.Ns L m:=fun {L m} q=>by
  obtain ⟨o,e1,n1,_⟩:=BF q
  obtain ⟨o',es,ep,e2,r⟩:=q
  refine ⟨o',es,ep,hk _ _ (fun z=>?_) e2,r⟩
  rw [z,eS] at e1;cases e1;exact n1 _ _ rfl
 have clk:∀ {ov:Option Value} {c:Addr},s.heap.IsCell c ov→h'.IsCell c ov:=fun {m L} q=>by
  obtain ⟨o,e1,n1,_⟩:=BP q
  obtain ⟨o',e2,r⟩:=q
  refine ⟨o',hk _ _ (fun z=>?_) e2,r⟩
  rw [z,eS] at e1;cases e1;exact n1 _ _ rfl
 refine ⟨{ok:=G.ok,dep:=G.dep,depth:=G.depth,units:=G.units,stay0:=fun c o e=>hk c o (fun q=>by rw [q,hS0] at e;cases e) (G.stay0 c o e),stayB:=fun c o e=>hk c o (fun q=>by rw [q,hSB hl] at e;cases e) (G.stayB c o e),frames:=?_,ns:=?_,cells:=?_,own:=?_,src:=?_,pins:=?_,vars:=?_,picks:=?_,rest:=G.rest},st⟩
 ·have sfr:=G.ok.sfr
  have:∀ l:List Env,(∀ env∈l,∀ a,env.frame=some a→a∈F.fr)→s.heap.FunFrames F.base l→h'.FunFrames F.base l:=by
   intro l
   induction l with
   | nil=>intro _ _;trivial
   | cons env rest ih=>
    rintro hin ⟨hkd,⟨L,o,hf,hn,hL,hd⟩,hr⟩
    exact ⟨hkd,⟨L,o,hf,hn,hk L o (fun q=>sfr (by rw [←q];exact hin env (.head _) L hf)) hL,hd⟩,ih (fun e he=>hin e (.tail _ he)) hr⟩
  exact this F.stack (fun env he a ha=>S4 he ha) G.frames
 ·obtain ⟨m,q⟩:=G.ns;exact ⟨m,nsk q⟩
 ·intro z c e;obtain ⟨ov,q⟩:=G.cells z c e;exact ⟨ov,clk q⟩
 ·intro a ha
  obtain ⟨⟨o,e,n⟩,r⟩:=G.own a ha
  exact ⟨⟨o,hk _ _ (own a ha) e,n⟩,r⟩
 ·obtain ⟨t,u,pl⟩:=hS
  exact ⟨⟨_,pl,x,y,t,u,rfl,hx,hy,hy2⟩,hS0,hSB⟩
 ·intro p hp
  obtain ⟨e,n1,n2,n3⟩:=G.pins p hp
  exact ⟨hk _ _ n2 e,n1,n2,n3⟩
 ·intro z d e
  obtain ⟨v,hv,r⟩:=G.vars z d e
  exact ⟨v,hv.keepBut hk ⟨_,_,_,eS,rfl⟩,G.rd b st r⟩
 ·refine ⟨by show (W.nu++[r]).length=σ.next + 1;rw [List.length_append,G.picks.len];rfl,fun k l e=>?_,fun c hc=>?_⟩
  ·obtain ⟨i,h1,h2⟩:=G.picks.cand k l e
   exact ⟨i,Cy hn h1,h2⟩
  ·exact JV hn (G.picks.cmps c hc)
theorem Uy (b:AK B) (hlim:B.h0.NoLimit) {fd:FuncData} (H:DT B 100 fd) (hbind:Al B fd ["source","top"] 2 [])
  (hint:B.mg "int" = none∧B.mb "int" = some (.type "int")) {args:List D} {vs:List Value} (ra:RdL B W s.heap args vs) :
  Ok B C F W σ s (call (.ref (B.fnA 100)) vs []) (GB args) (RdV B):=fun G outs ho=>by
 unfold GB at ho
 cases h2:HO args with
 | none=>rw [h2] at ho;cases ho
 | some p=>
 obtain ⟨v1,v2,ev,r1,r2⟩:=(KM h2▸ra).two
 rw [ev]
 rw [h2] at ho
 replace ho:(match Kv p.1 with | true=>Ow p.2 | false=>bad) σ=some outs:=ho
 cases hs:Kv p.1 with
 | false=>rw [hs] at ho;cases ho
 | true=>
 rw [show v1=_ from (Qx hs▸r1).inv]
 rw [hs] at ho
 replace ho:Ow p.2 σ=some outs:=ho
 unfold Ow at ho
 cases hi:C2 p.2 with
 | none=>rw [hi] at ho;cases ho
 | some n=>
 obtain ⟨t,et⟩:=(C1 hi▸r2).int_inv
 rw [et]
 rw [hi] at ho
 cases n with
 | negSucc n=>exact nsF ho
 | ofNat top=>
    change (match Nat.blt 0 top&&Nat.ble top 16 with | true=>draw top | false=>bad) σ=some outs at ho
    cases ht:(Nat.blt 0 top&&Nat.ble top 16) with
    | false=>rw [ht] at ho;cases ho
    | true=>
     rw [ht] at ho
     rw [Bool.and_eq_true] at ht
     have t1:0 < top:=AF ht.1
     have t2:top≤16:=AF ht.2
     change (match σ.lock with | true=>none | false=>some [(.ok (.pick σ.next ((upTo 0 top).map fun i=>D.int (Int.ofNat i))),{σ with next:=σ.next + 1})])=some outs at ho
     cases hl:σ.lock with
     | true=>rw [hl] at ho;cases ho
     | false=>
      rw [hl] at ho
      replace ho:=AB ho
      rw [←ho]
      obtain ⟨⟨vsS,plS,x,y,t3,t4,evS,hx,hy,hy2⟩,hS0,hSB⟩:=G.src
      rw [evS] at plS
      obtain ⟨o,ho',hdat,hcls⟩:=H.obj
      have hk0:fd.scope.kind=.function:=by rw [H.scope];rfl
      refine wpAny_call (codeAny_call_def (fd:=fd) (body:=Am 100) (binds:=[(("source" : Str),.ref B.S),(("top" : Str),.int (Int.ofNat top) t)]) (G.deepOk (k:=0) (by omega)) (G.stay0 _ _ ho') hdat (hlim.keeps G.stay0) (H.code.keeps G.stay0) H.body (hbind _ [.ref B.S,.int (Int.ofNat top) t] G.stay0 rfl) ?_ ?_ (fun h₀ hns hk=>?_) (by rw [H.scope];rfl) (by rw [H.scope];rfl) hk0)
      ·rw [H.scope]
       intro z hz
       have hz':z∈[(("source" : Str),NameKind.local),(("top" : Str),NameKind.local),(("drawn" : Str),NameKind.local),(("int" : Str),NameKind.globalImplicit)]:=hz
       simp only [List.mem_cons,List.not_mem_nil,or_false] at hz'
       rcases hz' with rfl | rfl | rfl | rfl<;>decide
      ·rw [H.scope]
       intro z hz
       simp only [List.mem_cons,List.not_mem_nil,or_false] at hz
       rcases hz with rfl | rfl<;>rfl
      ·have fresh:∀ c,s.heap.objs.size≤c→s.heap.get? c=none:=fun c hc=>Eg hc
       have hLnone:B.h0.get? s.heap.objs.size=none:=(Off.fresh G (Be _)).h0
       have hSL:B.S≠s.heap.objs.size:=fun q=>by
        obtain ⟨n,e⟩:=plS
        rw [q,fresh _ (Nat.le_refl _)] at e;cases e
       have X:Fn1 B (callEnv fd s.heap.objs.size (B.fnA 100)) h₀ (fun x=>[(("source" : Str),Value.ref B.S),(("top" : Str),.int (Int.ofNat top) t)].reverse.lookup x) :=
        ⟨hk0,H.glob,H.bltn,hns,fun c o e=>hk c o (G.stay0 c o e)⟩
       have ko:∀ y,(callEnv fd s.heap.objs.size (B.fnA 100)).kindOf y=(AM 100).names.lookup y:=fun y=>by
        show fd.scope.names.lookup y=_
        rw [H.scope]
       refine Pw (s:={s with heap:=h₀,toks:=s.toks + 2}) (x:=x) (y:=y) (top:=Int.ofNat top) b X hint ((ko _).trans rfl) ((ko _).trans rfl) ((ko _).trans rfl) ((ko _).trans rfl) rfl rfl ⟨t3,t4,by obtain ⟨n,e⟩:=plS;exact ⟨n,hk _ _ e⟩⟩ hx hy hy2 (by show (0:Int) < Int.ofNat top;simp;omega) (by show (Int.ofNat top)≤16;simp;omega) hSL hS0 hLnone
        fun h' tk r tr x' y' hr0 hr1 hS' hx' hy' hy2' hkeep=>?_
       obtain ⟨rn,rfl⟩:=Int.eq_ofNat_of_zero_le hr0
       have hrt:rn < top:=by have:(rn:Int) < Int.ofNat top:=hr1;simp at this;exact this
       obtain ⟨G',st⟩:=Q4 (r:=rn) (tk:=tk) b G hl hS' hx' hy' hy2' (fun c o n1 e=>hkeep c o n1 (fun q=>by
        rw [show (callEnv fd s.heap.objs.size (B.fnA 100)).locals=s.heap.objs.size from rfl] at q
        rw [q,fresh _ (Nat.le_refl _)] at e;cases e) (hk c o e))
       refine ⟨_,⟨W.nu++[rn],W.pins⟩,_,.head _,(by rw [←hl];exact G'),st,.pick σ.next rn _ (.int (Int.ofNat rn)) _ ?_ ?_ (.int _ _)⟩
       ·show (W.nu++[rn])[σ.next]? = some rn
        rw [←G.picks.len];simp
       ·rw [PB,Lf hrt];simp
end
section
open PySem PySem.W
variable {B:Bs} {F F':Fv} {C:Value} {W W':Wd} {σ σ':St} {s s':Shared}
open PyProof.Rows
section
variable {A:Around} {env:Env} {h:Heap} {m:SV}
theorem Vv.const_str {x:Str} {k:Nat} {p:Pos}:∀ (s:Shared) (Q:VP) (E:VP),(∀ t tk,Q (.str x t) {s with toks:=tk})→wpAny (mdl B) A (eval (.Constant (.str x) k p) env) Q E s:=fun s Q E hQ=>by
 rw [arm_eval_Constant]
 exact wpAny_mkText (hQ _ _)
theorem Vv.sub {o i:Expr} {p:Pos} {a:Addr} {items:Array Value} {k:Int} {v:Value} (ho:Vv B A env h o (.ref a)) (hi:Iv B A env h i k) (hl:h.IsTuple a items) (h0:0≤k) (h1:k < 2 ^ 62) (hn:k < items.size) (hx:items[k.toNat]? = some v):Vv B A env h (.Subscript o i p) v:=fun s Q E hs hQ=>by
 show wpAny (mdl B) A (eval o env>>=fun o'=>PySem.holding [o'] (eval i env)>>=fun i'=>standAt p>>=fun zz=>subscriptTail o i o' i') Q E s
 refine AA (ho s _ E hs fun tk=>AA (AG (hi _ _ E hs fun t' tk'=>AA (wpAny_standAt ?_))))
 subst hs
 obtain ⟨j,rfl⟩:=Int.eq_ofNat_of_zero_le h0
 have e1 : -(2 ^ 63)≤(j:Int):=by omega
 have e2:(j:Int) < 2 ^ 63:=by omega
 exact DJ hl.typeIs slot_tuple_getitem.lookup (PyProof.Rows.getItem_tuple hl e1 e2 (Dw (i:=j) (by omega)) hx (hQ tk'))
theorem Vv.attr {x name:Str} {p pos:Pos} {a Ck Nk:Addr} {mk mA:SV} {v:Value} (ho:Vv B A env h (.Name x p) (.ref a)) (hC:ClsAt h Ck Nk mk) (I:h.Inst a Ck mA) (hg:mk "__getattribute__" = none) (hn:mk name=none) (hB:typeLookup (.type "object") name=pure none)
  (hv:mA name=some v) (hh:handedOut v=pure v):Vv B A env h (.Attribute (.Name x p) name pos) v:=fun s Q E hs hQ=>by
 refine Attribute_name (ho s _ E hs fun tk=>?_)
 subst hs
 obtain ⟨hh',g,d,t,os⟩:=s
 obtain ⟨n1,q1,bs,sn,sub,col,d1,k0,k1,k2,k3,k5,hC0⟩:=hC.obj
 exact load_attr hC0 hC.ns hg hn hB I hv hh (hQ _)
theorem Vv.dget {o i:Expr} {p:Pos} {a:Addr} {f:SV} {key:Str} {kt:Tok} {v:Value} (ho:Vv B A env h o (.ref a)) (hi:Vv B A env h i (.str key kt)) (hm:h.MapOf (PySem.strKind P B.w) a f) (hv:f key=some v):Vv B A env h (.Subscript o i p) v:=fun s Q E hs hQ=>by
 show wpAny (mdl B) A (eval o env>>=fun o'=>PySem.holding [o'] (eval i env)>>=fun i'=>standAt p>>=fun zz=>subscriptTail o i o' i') Q E s
 refine AA (ho s _ E hs fun tk=>AA (AG (hi _ _ E hs fun tk'=>AA (wpAny_standAt ?_))))
 subst hs
 exact DJ hm.typeIs slot_dict_getitem.lookup (wpAny_getItem_of (key:=.str key kt) (by show Value.isStrOf key (.str key kt)=true;simp [Value.isStrOf]) hm hv (hQ _))
noncomputable abbrev Pv (B:Bs) (A:Around) (env:Env) (h:Heap) (e:Expr) (R:Value→Prop):Prop:=∀ (s:Shared) (Q:VP) (E:VP),s.heap=h→(∀ v tk,R v→Q v {s with toks:=tk})→wpAny (mdl B) A (eval e env) Q E s
theorem Vv.p {e:Expr} {v:Value} (x:Vv B A env h e v):Pv B A env h e (· = v):=fun s Q E hs hQ=>x s Q E hs fun tk=>hQ v tk rfl
theorem Pv.str {x:Str} {k:Nat} {p:Pos}:Pv B A env h (.Constant (.str x) k p) (fun v=>∃ t,v=.str x t):=fun s Q E hs hQ=>Vv.const_str s Q E fun t tk=>hQ _ tk ⟨t,rfl⟩
theorem Pv.none {k:Nat} {p:Pos}:Pv B A env h (.Constant .none k p) (· = .none):=fun s Q E hs hQ=>by
 rw [arm_eval_Constant]
 exact AD (hQ _ s.toks rfl)
theorem H4 {l r:Expr} {op:CmpOp} {p:Pos} {Ra Rc:Value→Prop} {res:Bool} {Q:Bool→Shared→Prop} {E:VP} (hm:behindInMarks op r=false)
  (hl:Pv B A env s.heap l Ra) (hr:Pv B A env s.heap r Rc)
  (hop:∀ (a c:Value) (s':Shared) (Q:VP),Ra a→Rc c→s'.heap=s.heap→(∀ tk,Q (.bool res) {s' with toks:=tk})→wpAny (mdl B) A (compareOp op a c) Q E s')
  (hQ:∀ tk,Q res {s with toks:=tk}):wpAny (mdl B) A (isTrue (.Compare l [op] [r] p) env (eval (.Compare l [op] [r] p) env)) Q E s:=by
 rw [arm_isTrue_Compare]
 refine AA (hl s _ E rfl fun a tk ra=>?_)
 show wpAny (mdl B) A (do
  let rv←PySem.holding [a] (markedBehindIn op r (eval r env))
  standAt p
  let c←PySem.operate [a,rv] (compareOp op a rv)
  PySem.holding [c] (truthy c)) Q E _
 have em:markedBehindIn op r (eval r env)=eval r env:=by
  unfold markedBehindIn;rw [hm]
 rw [em]
 refine AA (AG (hr _ _ E rfl fun c tk' rc=>AA (wpAny_standAt ?_)))
 unfold PySem.operate
 refine AA (AA (AG (hop a c _ _ ra rc rfl fun tk2=>?_)))
 refine AA ?_
 refine wpAny_release (AD ?_)
 exact AG (wpAny_truthy_bool (hQ _))
theorem Rh {Q:FP} {E:VP} (X:Fn1 B env s.heap m) {x:Str} {p pos:Pos} {e:Expr} {v:Value} (he:Vv B A env s.heap e v) (hk:env.kindOf x=some .local) (hsw:swapsWith e (some (.Name x p)) pos.line env=pure false)
  (hQ:∀ h' tk,h'.Ns env.locals (fun y=>if y=x then some v else m y)→Heap.SameBut env.locals s.heap h'→Q .next {s with heap:=h',toks:=tk}) :
  wpAny (mdl B) A (exec (.Assign [.Name x p] e pos) env) Q E s:=by
 refine wpAny_Assign_Name (he s _ _ rfl fun tk=>?_) hsw
 exact wpAny_storeName_local hk X.ns (fun h' hn' hs=>hQ h' _ hn' hs) (by rw [X.kind];rfl)
end
end
section
open PySem PySem.W
variable {B:Bs} {F F':Fv} {C:Value} {W W':Wd} {σ σ':St} {s s':Shared}
open PyProof.Rows
noncomputable def methDef (i j:Nat):Option (Arguments×List Stmt×Scope):=(MJ i j).bind K9
noncomputable def Aq (i j:Nat):List Stmt:=match methDef i j with
 | some q=>q.2.1
 | none=>[]
noncomputable def AR (i j:Nat):Scope:=match methDef i j with
 | some q=>q.2.2
 | none=>P.main.scope
structure CD (B:Bs) (i j:Nat) (f:Addr) (fd:FuncData):Prop where
 obj:∃ o,B.h0.get? f=some o∧o.data=.func fd∧o.cls=.type "function"
 body:fd.body=.stmts (Aq i j)
 scope:fd.scope=AR i j
 glob:fd.globals=mainGlobals
 bltn:fd.builtins=builtinsNs
 code:B.h0.CodeRec fd.code fd.qualname
structure UT (B:Bs) (WC RC:Addr) (h:Heap) (wa ua na ra:Addr) (mW mR mp:SV):Prop where
 iW:h.Inst wa WC mW
 named:mW "named" = some (.ref na)
 bo:mW "base_of" = none
 map:h.MapOf (PySem.strKind P B.w) na mp
 sys:(na == sysModules)=false
 row:mp "m.R" = some (.ref ra)
 iR:h.Inst ra RC mR
 und:mR "underlying" = some (.ref ua)
 hu:handedOut (.ref ua)=pure (.ref ua)
 hn:handedOut (.ref na)=pure (.ref na)
 tup:∃ items t,h.IsTuple ua items∧items[0]? = some (.str "slice" t)
structure YX (B:Bs) (WC WN RC RN:Addr) (mkW mkR:SV):Prop where
 cW:ClsAt B.h0 WC WN mkW
 cR:ClsAt B.h0 RC RN mkR
 gW:mkW "__getattribute__" = none∧mkW "__getattr__" = none∧mkW "named" = none
 gR:mkR "__getattribute__" = none∧mkR "underlying" = none
theorem Df:typeLookup (.type "object") "named" = pure none∧typeLookup (.type "object") "underlying" = pure none∧typeLookup (.type "object") "base_of" = pure none:=by
 refine ⟨?_,?_,?_⟩<;>(rw [typeLookup_type,builtinLookup_eq_fast];kernel_rfl)
theorem RW (b:AK B) {A:Around} {env:Env} {m:SV} {E:VP} {Q:FP} {WC WN RC RN:Addr} {mkW mkR:SV} (X:Fn1 B env s.heap m) (WF:YX B WC WN RC RN mkW mkR)
  (k1:env.kindOf "self" = some .local) (k2:env.kindOf "told" = some .local) (k3:env.kindOf "row" = some .local)
  {wa a ua na ra:Addr} {mW mR mp:SV} {items:Array Value} {x:Str} {t:Tok} (m1:m "self" = some (.ref wa)) (m2:m "told" = some (.ref a)) 
  (hnL:∀ wh:Heap,Heap.SameBut env.locals s.heap wh→B.h0.StaysIn wh∧UT B WC RC wh wa ua na ra mW mR mp)
  (hT:s.heap.IsTuple a items) (h0:items[0]? = some (.str x t)) (h1:x = "named"→∃ t,items[1]? = some (.str "m.R" t)) (haL:a≠env.locals)
  (hQ:∀ h' tk r,Heap.SameBut env.locals s.heap h'→(x≠"named"→r=.ref a)→(x = "named"→r=.ref ua)→Q (.ret r) {s with heap:=h',toks:=tk}) :
  wpAny (mdl B) A (execs (Aq 97 1) env) Q E s:=by
 let I:Nat→Shared→Prop:=fun n s'=>∃ hh tk mm,s'={s with heap:=hh,toks:=tk}∧Heap.SameBut env.locals s.heap hh∧hh.Ns env.locals mm∧mm "self" = some (.ref wa)∧((n=1∧mm "told" = some (.ref a))∨(n=0∧x = "named"∧mm "told" = some (.ref ua)))
 refine Bk (wpAny_While (codeAny_whileLoop I (fun n s' hI=>?_) 1 ⟨s.heap,s.toks,m,rfl,Heap.SameBut.refl _ _,X.ns,m1,.inl ⟨rfl,m2⟩⟩))
 obtain ⟨hh,tk,mm,rfl,sb,hns,ms,hcase⟩:=hI
 obtain ⟨stay,wi'⟩:=hnL hh sb
 have X':Fn1 B env hh mm:=⟨X.kind,X.glob,X.bltn,hns,stay⟩
 have hT':hh.IsTuple a items:=by
  obtain ⟨o,e,r⟩:=hT
  exact ⟨o,(sb.2 a haL).trans e,r⟩
 rcases hcase with ⟨rfl,mt⟩ | ⟨rfl,hx,mt⟩
 ·refine H4 (s:={s with heap:=hh,toks:=tk}) (res:=decide (x = "named")) rfl (Vv.p (Vv.sub (Vv.name X' k2 mt (by decide)) Iv.const hT' (by decide) (by decide) (by have:=(Array.getElem?_eq_some_iff.mp h0).1;show (0:Int) < _;omega) h0)) Pv.str (fun v c s' Q' hv hc hs hq=>?_) fun tk1=>?_
  ·subst hv
   obtain ⟨t',rfl⟩:=hc
   refine eq_str ?_
   have:(x == ("named" : Str))=decide (x = "named"):=by
    by_cases q:x = "named"
    ·subst q;simp
    ·rw [decide_eq_false q]
     simpa using q
   rw [this]
   exact hq s'.toks
  ·by_cases q:x = "named"
   ·rw [decide_eq_true q,if_pos rfl]
    obtain ⟨t2,h1'⟩:=h1 q
    have cW:=WF.cW.keeps stay
    have cR:=WF.cR.keeps stay
    have told1:∀ (p q:Pos) (k:Nat) (q2:Pos),Vv B A env hh (.Subscript (.Name "told" p) (.Constant (.int 1) k q) q2) (.str "m.R" t2):=fun p q k q2=>Vv.sub (Vv.name X' k2 mt (by decide)) Iv.const hT' (by decide) (by decide) (by have:=(Array.getElem?_eq_some_iff.mp h1').1;show (1:Int) < _;omega) h1'
    have selfN:∀ (p q:Pos),Vv B A env hh (.Attribute (.Name "self" p) "named" q) (.ref na):=fun p q=>Vv.attr (Vv.name X' k1 ms (by decide)) cW wi'.iW WF.gW.1 WF.gW.2.2 Df.1 wi'.named wi'.hn
    refine Bk (M4 (H4 (s:={s with heap:=hh,toks:=tk1}) (res:=false) rfl (Vv.p (told1 _ _ _ _)) (Vv.p (selfN _ _)) (fun v c s' Q' hv hc hs hq=>?_) fun tk2=>?_))
    ·subst hv hc
     refine wpAny_notIn_of (knd:=PySem.strKind P B.w) (k:="m.R") (key:=.str "m.R" t2) (by show Value.isStrOf "m.R" (.str "m.R" t2)=true;simp [Value.isStrOf]) wi'.sys (by rw [hs];exact wi'.map) ?_
     rw [wi'.row]
     exact hq _
    ·rw [if_neg (by decide)]
     refine EM (Bk (Rh (s:={s with heap:=hh,toks:=tk2}) X' (Vv.dget (selfN _ _) (told1 _ _ _ _) wi'.map wi'.row) k3 rfl fun h2 tk3 hn2 sb2=>?_))
     have sbb:=sb.trans sb2
     obtain ⟨stay2,wi2⟩:=hnL h2 sbb
     have X2:Fn1 B env h2 (fun y=>if y = "row" then some (.ref ra) else mm y):=⟨X.kind,X.glob,X.bltn,hn2,stay2⟩
     have rowU:∀ (p q:Pos),Vv B A env h2 (.Attribute (.Name "row" p) "underlying" q) (.ref ua):=fun p q=>Vv.attr (Vv.name X2 k3 (if_pos rfl) (by decide)) (WF.cR.keeps stay2) wi2.iR WF.gR.1 WF.gR.2 Df.2.1 wi2.und wi2.hu
     refine Bk (M4 (H4 (s:={s with heap:=h2,toks:=tk3}) (res:=false) rfl (Vv.p (rowU _ _)) Pv.none (fun v c s' Q' hv hc hs hq=>?_) fun tk4=>?_))
     ·subst hv hc
      exact Ku (neg:=false) (c:=false) (by rfl) (hq s'.toks)
     ·rw [if_neg (by decide)]
      refine EM (Bk (Rh (s:={s with heap:=h2,toks:=tk4}) X2 (rowU _ _) k2 rfl fun h3 tk5 hn3 sb3=>EM ?_))
      exact ⟨0,by omega,h3,tk5,_,rfl,sbb.trans sb3,hn3,ms,.inr ⟨rfl,q,if_pos rfl⟩⟩
   ·rw [decide_eq_false q,if_neg (by decide)]
    refine EM ?_
    show wpAny (mdl B) A (execs _ env) Q E _
    refine Bk (wpAny_Return_some (Vv.name X' k2 mt (by decide) _ _ _ rfl fun tk2=>?_))
    exact hQ hh tk2 _ sb (fun zz=>rfl) (fun z=>absurd z q)
 ·obtain ⟨its,t3,hut,hu0⟩:=wi'.tup
  refine H4 (s:={s with heap:=hh,toks:=tk}) (res:=false) rfl (Vv.p (Vv.sub (Vv.name X' k2 mt (by decide)) Iv.const hut (by decide) (by decide) (by have:=(Array.getElem?_eq_some_iff.mp hu0).1;show (0:Int) < _;omega) hu0)) Pv.str (fun v c s' Q' hv hc hs hq=>?_) fun tk1=>?_
  ·subst hv
   obtain ⟨t',rfl⟩:=hc
   refine eq_str ?_
   rw [show (("slice" : Str) == ("named" : Str))=false from by decide]
   exact hq s'.toks
  ·rw [if_neg (by decide)]
   refine EM ?_
   show wpAny (mdl B) A (execs _ env) Q E _
   refine Bk (wpAny_Return_some (Vv.name X' k2 mt (by decide) _ _ _ rfl fun tk2=>?_))
   exact hQ hh tk2 _ sb (fun z=>absurd hx z) (fun zz=>rfl)
end
section
open PySem PySem.W
variable {B:Bs} {F F':Fv} {C:Value} {W W':Wd} {σ σ':St} {s s':Shared}
open PyProof.Rows
structure Pe (B:Bs) (WC WN RC RN fB:Addr) (mkW mkR:SV) (fd fdB:FuncData):Prop where
 fix:YX B WC WN RC RN mkW mkR
 hf:DT B 37 fd
 hb:Al B fd ["world","T"] 2 []
 mf:CD B 97 1 fB fdB
 mb:Al B fdB ["self","told"] 2 []
 bo:mkW "base_of" = some (.ref fB)
 inst:∀ p a,B.WldP p a→∃ ua na ra mW mR mp,∀ h,B.h0.StaysIn h→(∀ q∈p,h.get? q.1=some q.2)→UT B WC RC h a ua na ra mW mR mp∧∀ W,Rd B W h EU (.ref ua)
noncomputable abbrev AY (h h':Heap):Prop:=∀ c o,h.get? c=some o→h'.get? c=some o
theorem RX (b:AK B) (hlim:B.h0.NoLimit) {WC WN RC RN fB:Addr} {mkW mkR:SV} {fd fdB:FuncData} (U:Pe B WC WN RC RN fB mkW mkR fd fdB) {A:Around} {E:VP} {Q:VP}
  (hroom:A.depth < recursionLimit) (h0s:B.h0.StaysIn s.heap) {pins:Frag} (hp:∀ q∈pins,s.heap.get? q.1=some q.2) {wa a ua na ra:Addr} {mW mR mp:SV} {items:Array Value} {x:Str} {t:Tok}
  (hi:∀ h,B.h0.StaysIn h→(∀ q∈pins,h.get? q.1=some q.2)→UT B WC RC h wa ua na ra mW mR mp)
  (hT:s.heap.IsTuple a items) (h0:items[0]? = some (.str x t)) (h1:x = "named"→∃ t,items[1]? = some (.str "m.R" t))
  (hQ:∀ h' tk r,AY s.heap h'→(x≠"named"→r=.ref a)→(x = "named"→r=.ref ua)→Q r {s with heap:=h',toks:=tk}) :
  wpAny (mdl B) A (call (.ref fB) [.ref wa,.ref a]) Q E s:=by
 obtain ⟨o,ho',hdat,hcls⟩:=U.mf.obj
 have hk0:fdB.scope.kind=.function:=by rw [U.mf.scope];rfl
 refine wpAny_call (codeAny_call_def (fd:=fdB) (body:=Aq 97 1) (binds:=[(("self" : Str),.ref wa),(("told" : Str),.ref a)]) hroom (h0s _ _ ho') hdat (hlim.keeps h0s) (U.mf.code.keeps h0s) U.mf.body (U.mb _ [.ref wa,.ref a] h0s rfl) ?_ ?_ (fun h₀ hns hk=>?_) (by rw [U.mf.scope];rfl) (by rw [U.mf.scope];rfl) hk0)
 ·rw [U.mf.scope]
  show ∀ z∈(AR 97 1).names,z.2≠.cell
  decide +kernel
 ·rw [U.mf.scope]
  intro z hz
  simp only [List.mem_cons,List.not_mem_nil,or_false] at hz
  rcases hz with rfl | rfl<;>rfl
 ·have fresh:∀ c o,s.heap.get? c=some o→c≠s.heap.objs.size:=fun c o e q=>by
   rw [q] at e;exact Nat.lt_irrefl _ (Heap.lt_size e)
  have X:Fn1 B (callEnv fdB s.heap.objs.size fB) h₀ (fun x=>[(("self" : Str),Value.ref wa),(("told" : Str),.ref a)].reverse.lookup x):=⟨hk0,U.mf.glob,U.mf.bltn,hns,fun c o e=>hk c o (h0s c o e)⟩
  have ko:∀ y,(callEnv fdB s.heap.objs.size fB).kindOf y=(AR 97 1).names.lookup y:=fun y=>by
   show fdB.scope.names.lookup y=_
   rw [U.mf.scope]
  have kk:∀ wh:Heap,Heap.SameBut s.heap.objs.size h₀ wh→AY s.heap wh:=fun wh sb c o e=>(sb.2 c (fresh c o e)).trans (hk c o e)
  refine RW (s:={s with heap:=h₀,toks:=s.toks + 2}) (wa:=wa) (a:=a) (items:=items) (x:=x) b X U.fix ((ko _).trans rfl) ((ko _).trans rfl) ((ko _).trans rfl) rfl rfl
   (fun wh sb=>⟨fun c o e=>kk wh sb c o (h0s c o e),hi wh (fun c o e=>kk wh sb c o (h0s c o e)) fun q hq=>kk wh sb _ _ (hp q hq)⟩) ?_ h0 h1 ?_ fun h' tk r sb r1 r2=>hQ h' tk r (kk h' sb) r1 r2
  ·obtain ⟨o,e,rr⟩:=hT
   exact ⟨o,hk _ _ e,rr⟩
  ·obtain ⟨o,e,_⟩:=hT
   exact fresh a o e
end
section
open PySem PySem.W
variable {B:Bs} {F F':Fv} {C:Value} {W W':Wd} {σ σ':St} {s s':Shared}
open PyProof.Rows
theorem IA (b:AK B) (hlim:B.h0.NoLimit) {WC WN RC RN fB:Addr} {mkW mkR:SV} {fd fdB:FuncData} (U:Pe B WC WN RC RN fB mkW mkR fd fdB) {A:Around} {E:VP} {Q:VP}
  (hroom:A.depth + 1 < recursionLimit) (h0s:B.h0.StaysIn s.heap) {pins:Frag} (hp:∀ q∈pins,s.heap.get? q.1=some q.2) {wa a ua na ra:Addr} {mW mR mp:SV} {items:Array Value} {x:Str} {t:Tok}
  (hi:∀ h,B.h0.StaysIn h→(∀ q∈pins,h.get? q.1=some q.2)→UT B WC RC h wa ua na ra mW mR mp)
  (hT:s.heap.IsTuple a items) (h0:items[0]? = some (.str x t)) (h1:x = "named"→∃ t,items[1]? = some (.str "m.R" t))
  (hQ:∀ h' tk r,AY s.heap h'→(x≠"named"→r=.ref a)→(x = "named"→r=.ref ua)→Q r {s with heap:=h',toks:=tk}) :
  wpAny (mdl B) A (call (.ref (B.fnA 37)) [.ref wa,.ref a]) Q E s:=by
 obtain ⟨o,ho',hdat,hcls⟩:=U.hf.obj
 have hk0:fd.scope.kind=.function:=by rw [U.hf.scope];rfl
 refine wpAny_call (codeAny_call_def (fd:=fd) (body:=Am 37) (binds:=[(("world" : Str),.ref wa),(("T" : Str),.ref a)]) (by omega) (h0s _ _ ho') hdat (hlim.keeps h0s) (U.hf.code.keeps h0s) U.hf.body (U.hb _ [.ref wa,.ref a] h0s rfl) ?_ ?_ (fun h₀ hns hk=>?_) (by rw [U.hf.scope];rfl) (by rw [U.hf.scope];rfl) hk0)
 ·rw [U.hf.scope]
  show ∀ z∈(AM 37).names,z.2≠.cell
  decide +kernel
 ·rw [U.hf.scope]
  intro z hz
  simp only [List.mem_cons,List.not_mem_nil,or_false] at hz
  rcases hz with rfl | rfl<;>rfl
 ·have stay:B.h0.StaysIn h₀:=fun c o e=>hk c o (h0s c o e)
  have X:Fn1 B (callEnv fd s.heap.objs.size (B.fnA 37)) h₀ (fun x=>[(("world" : Str),Value.ref wa),(("T" : Str),.ref a)].reverse.lookup x):=⟨hk0,U.hf.glob,U.hf.bltn,hns,stay⟩
  have ko:∀ y,(callEnv fd s.heap.objs.size (B.fnA 37)).kindOf y=(AM 37).names.lookup y:=fun y=>by
   show fd.scope.names.lookup y=_
   rw [U.hf.scope]
  refine Bk (wpAny_Return_some ?_)
  rw [arm_eval_Call]
  refine AA (m:=attributeBase (.Name _ _) _ _ (eval (.Name _ _) _)) ?_
  show wpAny (mdl B) _ (eval (.Name _ _) _) _ _ _
  refine Vv.name X ((ko _).trans rfl) (v:=.ref wa) rfl (by decide) _ _ _ rfl fun tk=>?_
  refine AA (wpAny_standAt ?_)
  unfold methodCall
  have few:∀ (env:Env) (e:Expr) (cp:Pos),Ai e→methodCallForm ([e].length + ([]:List Keyword).length) (backTo cp (starEach [e] env)) (backToKw cp (keywordEach [] env))=true:=fun env e cp hp=>by
   show ((backTo cp (starEach [e] env)).all (fun x=>!x.1)&&true&&decide (1 + 0 + 0 < 30))=true
   rw [AL hp];rfl
  rw [few _ (.Name _ _) _ trivial]
  refine AA (AG ?_)
  unfold calleeOf
  simp only [if_true]
  have wi:=hi h₀ stay fun q hq=>hk _ _ (hp q hq)
  obtain ⟨oB,hoB,hdB,hcB⟩:=U.mf.obj
  obtain ⟨n1,q1,bs,sn,sub,col,d1,k0,k1,k2,k3,k5,hC⟩:=(U.fix.cW.keeps stay).obj
  have gm:∀ (s':Shared) (pl:Sem Bool) (Q:Value×List Value→Shared→Prop) (E:VP) (A:Around),s'.heap=h₀→Q (.ref fB,[.ref wa]) s'→wpAny (mdl B) A (getMethod (.ref wa) "base_of" pl) Q E s':=fun s' pl Q E A hs hq=>by
   subst hs
   obtain ⟨hh,g,dd,t,os⟩:=s'
   exact method_of hC (U.fix.cW.keeps stay).ns U.fix.gW.1 U.fix.gW.2.1 U.bo (stay _ _ hoB) hcB Df.2.2 wi.iW wi.bo hq
  refine gm _ _ _ _ _ rfl ?_
  refine AA (m:=methodCallPos true _ _ _ _) ?_
  unfold methodCallPos
  rw [if_pos (by rfl)]
  refine AD ?_
  have se:∀ (env:Env) (e:Expr) (cp:Pos),Ai e→backTo cp (starEach [e] env)=[(false,eval e env)]:=fun env e cp hp=>by rw [AL hp];rfl
  rw [se _ (.Name _ _) _ trivial]
  refine Calls.callWith_function (o:=oB) (fd:=fdB) (Calls.evalArgs_plain (Calls.spliced_cons ?_))
  refine Vv.name X ((ko _).trans rfl) (v:=.ref a) rfl (by decide) _ _ _ rfl fun tk2=>Calls.spliced_nil ?_
  refine ⟨⟨stay _ _ hoB,hdB⟩,?_⟩
  refine RX (s:={s with heap:=h₀,toks:=_}) (items:=items) (x:=x) b hlim U (by show A.depth + 1 < _;omega) stay (fun q hq=>hk _ _ (hp q hq)) hi ?_ h0 h1 fun h' tk3 r hg r1 r2=>?_
  ·obtain ⟨o,e,rr⟩:=hT
   exact ⟨o,hk _ _ e,rr⟩
  ·exact hQ h' tk3 r (fun c o e=>hg c o (hk c o e)) r1 r2
theorem SR (b:AK B) (hlim:B.h0.NoLimit) {WC WN RC RN fB:Addr} {mkW mkR:SV} {fd fdB:FuncData} (U:Pe B WC WN RC RN fB mkW mkR fd fdB) {args:List D} {vs:List Value} (ra:RdL B W s.heap args vs) :
  Ok B C F W σ s (call (.ref (B.fnA 37)) vs []) (Es args) (RdV B):=by
 unfold Es
 cases h2:HO args with
 | none=>exact Ok.bad
 | some p=>
 obtain ⟨v1,v2,ev,r1,r2⟩:=(KM h2▸ra).two
 rw [ev]
 dsimp only
 cases hw:TP p.1 with
 | false=>exact Ok.bad
 | true=>
 obtain ⟨wa,ew,hw⟩:=(TO hw▸r1).inv
 rw [ew]
 refine CW (α:=D) r2 fun d0 e0 r0 np he G outs ho=>?_
 obtain ⟨ua,na,rra,mW,mR,mp,hi⟩:=U.inst _ _ hw
 unfold UH at he
 cases ht:BL d0 with
 | none=>rw [ht] at he;cases he
 | some l=>
 obtain ⟨a,vs,ea,hx,r⟩:=(BU ht▸r0).tup_inv
 rw [ht] at he
 rw [ea]
 cases l with
 | nil=>exact nsF he
 | cons k ds=>
 have hT:Rd B W s.heap (.tup (k::ds)) (.ref a):=.tup a vs _ hx r
 obtain ⟨v0,vrest,hv,rk,rr⟩:=r.inv
 replace he:(match strOf k with | some x=>(match Ap x [110,97,109,101,100] with | true=>Mx ds | false=>some (.tup (k::ds))) | none=>none)=some e0:=he
 cases hk:strOf k with
 | none=>rw [hk] at he;cases he
 | some kx=>
 obtain ⟨x,t,e1,hxk⟩:=(BY hk▸rk).str_inv
 have i0:vs[0]? = some (.str x t):=E3 (by rw [hv,e1];rfl)
 rw [hk,←hxk] at he
 replace he:(match Ap (nm x) [110,97,109,101,100] with | true=>Mx ds | false=>some (.tup (k::ds)))=some e0:=he
 rw [←AB ho]
 cases hn:Ap (nm x) [110,97,109,101,100] with
 | true=>
  have q:x = "named":=Aj (by rw [AW.mp hn];decide)
  rw [hn] at he
  replace he:Mx ds=some e0:=he
  unfold Mx at he
  cases h1:A2 ds with
  | none=>rw [h1] at he;cases he
  | some m=>
  obtain ⟨v1',ev1,rm⟩:=(B3 h1▸rr).one
  rw [h1] at he
  replace he:(match strOf m with | some m=>(match Ap m [109,46,82] with | true=>some EU | false=>none) | none=>none)=some e0:=he
  cases hm:strOf m with
  | none=>rw [hm] at he;cases he
  | some mm=>
  obtain ⟨z,t2,ez,hz⟩:=(BY hm▸rm).str_inv
  rw [hm] at he
  replace he:(match Ap mm [109,46,82] with | true=>some EU | false=>none)=some e0:=he
  cases hq:Ap mm [109,46,82] with
  | false=>rw [hq] at he;cases he
  | true=>
  rw [hq] at he
  have hz2:z = "m.R":=Aj (by rw [hz,AW.mp hq];decide)
  refine IA (x:=x) (items:=vs) b hlim U (G.deepOk (k:=1) (by omega)) G.stay0 (pins:=W.pins) (fun q hq=>(G.pins q hq).1) (fun h a b=>(hi h a b).1) hx i0 (fun zz=>⟨t2,E3 (by rw [hv,ev1,ez,hz2];rfl)⟩) fun h' tk rv hg zz h2=>?_
  obtain ⟨G',st⟩:=G.grow b (t:=tk) hg
  rw [h2 q,←AB he]
  exact ⟨_,W,_,.head _,G',st,(hi h' G'.stay0 fun q hq=>(G'.pins q hq).1).2 W⟩
 | false=>
  have q:x≠"named":=fun q=>by rw [q] at hn;revert hn;decide
  rw [hn] at he
  refine IA (x:=x) (items:=vs) b hlim U (G.deepOk (k:=1) (by omega)) G.stay0 (pins:=W.pins) (fun q hq=>(G.pins q hq).1) (fun h a b=>(hi h a b).1) hx i0 (fun z=>absurd z q) fun h' tk rv hg h1 zz=>?_
  obtain ⟨G',st⟩:=G.grow b (t:=tk) hg
  rw [h1 q,←AB he]
  exact ⟨_,W,_,.head _,G',st,G.rd b st hT⟩
end
section
open PySem PySem.W
variable {B:Bs} {F F':Fv} {C:Value} {W W':Wd} {σ σ':St} {s s':Shared}
open PyProof.Rows
section
variable {A:Around} {R:Result→Shared→Prop}
theorem JF {e:Expr} {env:Env} (h:wpAny (mdl B) (A.deeper env) (eval e env) (fun v s'=>R (.ok (.ret v)) s') (fun e s'=>wpAny (mdl B) (A.deeper env) (leaving env e) (fun zz s''=>R (.error e) s'') (fun e' s''=>R (.error e') s'') s') s) :
  codeAny (mdl B) A (.expr e env) R s:=by
 refine codeAny_of_tree ?_
 show wpAny _ (A.deeper env) (do point;ret (←(eval e env).onRaise (leaving env))) _ _ s
 refine AA (wpAny_point (AA (wpAny_onRaise (AH h (fun f s' h'=>?_) fun zz zz h'=>h'))))
 exact AD h'
theorem FY {a:Addr} {args:Args} {o:Obj} {fd:FuncData} {body:Expr} (hroom:A.depth < recursionLimit)
  (ho:s.heap.get? a=some o)
  (hd':o.data=.func fd) (hco:fd.scope.isCoroutine=false) (hgen:fd.scope.isGenerator=false) (hbody:fd.body=.expr body) (hcd:s.heap.CodeRec fd.code fd.qualname)
  (h:wpAny (mdl B) A.in1 (bindArgs fd args) (fun binds s₁=>
   wpAny (mdl B) A.in1 (newFunctionEnv fd.scope fd.globals fd.closure binds (fd.qualname++".<locals>.") (some a) fd.code none fd.builtins)
    (fun env s₂=>s₂.heap.NoLimit∧codeAny (mdl B) A (.expr body env) R s₂) (fun e s'=>R (.error e) s') s₁) (fun e s'=>R (.error e) s') s) :
  codeAny (mdl B) A (.call (.ref a) args) R s:=by
 refine codeAny_of_tree ?_
 show wpAny _ A.in1 (callAny (.ref a) args) _ _ s
 delta callAny
 refine AA (wpAny_load ho ?_)
 obtain ⟨c,oc,vs,tq,hc,hoc,hdc,hq⟩:=hcd
 simp only [hd',callFunction,hco,hgen,hbody,hc]
 rw [hc] at h
 refine AA (m:=field (.ref c) 1) (wpAny_field hoc hdc hq (AA (AD ?_)))
 exact AA (AH h (fun binds s₁ h₁=>AA (AH h₁ (fun env s₂ h₂=>AA (wpAny_enterFrame h₂.1 hroom
  (AD (And.intro rfl h₂.2)))) fun zz zz h'=>h')) fun zz zz h'=>h')
theorem HH {a:Addr} {o:Obj} {fd:FuncData} {body:Expr} {args:Args} {binds:List (Str×Value)}
  (hroom:A.depth < recursionLimit) (ho:s.heap.get? a=some o) (hdata:o.data=.func fd) (hlim:s.heap.NoLimit) (hcd:s.heap.CodeRec fd.code fd.qualname)
  (hbody:fd.body=.expr body) (hbind:BindsTo s fd args binds)
  (hcell:∀ x∈fd.scope.names,x.2≠.cell) (hloc:∀ x∈binds,fd.scope.names.lookup x.1=some .local)
  (h:∀ h₀,h₀.Ns s.heap.objs.size (fun x=>binds.reverse.lookup x)→(∀ b o,s.heap.get? b=some o→h₀.get? b=some o)→
   wpAny (mdl B) (A.deeper (callEnv fd s.heap.objs.size a)) (eval body (callEnv fd s.heap.objs.size a)) (fun v s'=>R (.ok (.ret v)) s')
    (fun e s'=>wpAny (mdl B) (A.deeper (callEnv fd s.heap.objs.size a)) (leaving (callEnv fd s.heap.objs.size a) e) (fun zz s''=>R (.error e) s'') (fun e' s''=>R (.error e') s'') s')
    {s with heap:=h₀,toks:=s.toks + binds.length})
  (hco:fd.scope.isCoroutine=false) (hgen:fd.scope.isGenerator=false) (hk:fd.scope.kind=.function) :
  codeAny (mdl B) A (.call (.ref a) args) R s:=by
 refine FY hroom ho hdata hco hgen hbody hcd (hbind _ _ _ _ ?_)
 refine wpAny_newFunctionEnv hcell hloc (fun h₀ hns₀ hsb₀=>⟨hlim.fresh _ hsb₀,JF (h h₀ hns₀ fun b o e=>?_)⟩) hk
 exact hsb₀.extBut b o (Nat.ne_of_lt (Heap.lt_size e)) (AE _ e)
end
end
section
open PySem PySem.W
variable {B:Bs} {F F':Fv} {C:Value} {W W':Wd} {σ σ':St} {s s':Shared}
open PyProof.Rows
noncomputable def YD:Option (Arguments×Expr×Scope×Pos):=(nth (Am 106) 2).bind fun st=>(SJ st).bind fun e=>(Hi e).bind fun q=>(nth q.2.1 4).bind fun d=>(Ml d).bind fun p=>(A2 p.2).bind Yp
noncomputable def TF:Option (Arguments×Expr×Scope):=match YD with
 | some q=>some (q.1,q.2.1,q.2.2.1)
 | none=>none
noncomputable def DD:Expr:=match TF with | some (_,e,_)=>e | none=>.Constant .none 0 ⟨0,0,0,0⟩
noncomputable def CZ:Scope:=match TF with | some (_,_,sc)=>sc | none=>P.main.scope
structure Vx (B:Bs) (CC:Addr) (h:Heap) (ca rd lam:Addr) (mC mp:SV) (oL:Obj) (fdL:FuncData):Prop where
 iC:h.Inst ca CC mC
 readers:mC "readers" = some (.ref rd)
 map:h.MapOf (PySem.strKind P B.w) rd mp
 told:mp "told" = some (.ref lam)
 hr:handedOut (.ref rd)=pure (.ref rd)
 obj:h.get? lam=some oL
 dat:oL.data=.func fdL
 body:fdL.body=.expr DD
 scope:fdL.scope=CZ
 code:h.CodeRec fdL.code fdL.qualname
 glob:fdL.globals=mainGlobals
 bltn:fdL.builtins=builtinsNs
 binds:∀ v1 v2 v3,bindArgs fdL ⟨[v1,v2,v3],[]⟩=(pure [(("checker" : Str),v1),(("node" : Str),v2),(("wanted" : Str),v3)]:Sem (List (Str×Value)))
structure Oi (B:Bs) (CC CN:Addr) (mkC:SV) (fd:FuncData):Prop where
 cC:ClsAt B.h0 CC CN mkC
 gC:mkC "__getattribute__" = none∧mkC "readers" = none
 mf:CD B 88 1 (B.fnA 1000) fd
 b2:∀ s v1 v2,B.h0.StaysIn s.heap→BindsTo s fd ⟨[v1,v2],[]⟩ [(("self" : Str),v1),(("node" : Str),v2),(("wanted" : Str),.none)]
 b3:∀ s v1 v2 v3,B.h0.StaysIn s.heap→BindsTo s fd ⟨[v1,v2,v3],[]⟩ [(("self" : Str),v1),(("node" : Str),v2),(("wanted" : Str),v3)]
 inst:∀ p a,B.ChkP p a→∃ rd lam mC mp oL fdL,∀ h,B.h0.StaysIn h→(∀ q∈p,h.get? q.1=some q.2)→Vx B CC h a rd lam mC mp oL fdL
theorem MB:typeLookup (.type "object") "readers" = pure none:=by rw [typeLookup_type,builtinLookup_eq_fast];kernel_rfl
theorem TC (b:AK B) (hlim:B.h0.NoLimit) {CC:Addr} {A:Around} {E:VP} {Q:VP} {ca rd lam:Addr} {mC mp:SV} {oL:Obj} {fdL:FuncData} (h0s:B.h0.StaysIn s.heap) (ci:Vx B CC s.heap ca rd lam mC mp oL fdL)
  (hroom:A.depth < recursionLimit) {v1 v3 ve:Value} {a:Addr} {items:Array Value} (hT:s.heap.IsTuple a items) (h2:items[2]? = some ve)
  (hQ:∀ h' tk,AY s.heap h'→Q ve {s with heap:=h',toks:=tk}):wpAny (mdl B) A (call (.ref lam) [v1,.ref a,v3]) Q E s:=by
 have hk0:fdL.scope.kind=.function:=by rw [ci.scope];rfl
 refine wpAny_call (HH (fd:=fdL) (body:=DD) (binds:=[(("checker" : Str),v1),(("node" : Str),.ref a),(("wanted" : Str),v3)]) hroom ci.obj ci.dat (hlim.keeps h0s) ci.code ci.body (.of_eq (ci.binds _ _ _)) ?_ ?_ (fun h₀ hns hk=>?_) (by rw [ci.scope];rfl) (by rw [ci.scope];rfl) hk0)
 ·rw [ci.scope]
  decide +kernel
 ·rw [ci.scope]
  intro z hz
  simp only [List.mem_cons,List.not_mem_nil,or_false] at hz
  rcases hz with rfl | rfl | rfl<;>rfl
 ·have X:Fn1 B (callEnv fdL s.heap.objs.size lam) h₀ (fun x=>[(("checker" : Str),v1),(("node" : Str),Value.ref a),(("wanted" : Str),v3)].reverse.lookup x):=⟨hk0,ci.glob,ci.bltn,hns,fun c o e=>hk c o (h0s c o e)⟩
  have ko:∀ y,(callEnv fdL s.heap.objs.size lam).kindOf y=CZ.names.lookup y:=fun y=>by
   show fdL.scope.names.lookup y=_
   rw [ci.scope]
  have hT':h₀.IsTuple a items:=by
   obtain ⟨o,e,r⟩:=hT
   exact ⟨o,hk _ _ e,r⟩
  exact Vv.sub (k:=2) (Vv.name X ((ko _).trans rfl) rfl (by decide)) Iv.const hT' (by decide) (by decide) (by have:=(Array.getElem?_eq_some_iff.mp h2).1;show (2:Int) < _;omega) h2 _ _ _ rfl fun tk=>hQ h₀ tk hk
theorem Jy (b:AK B) (hlim:B.h0.NoLimit) {CC CN:Addr} {mkC:SV} {fd:FuncData} (U:Oi B CC CN mkC fd) {A:Around} {E:VP} {Q:VP} (hroom:A.depth + 1 < recursionLimit) (h0s:B.h0.StaysIn s.heap) {pins:Frag} (hp:∀ q∈pins,s.heap.get? q.1=some q.2)
  {ca rd lam:Addr} {mC mp:SV} {oL:Obj} {fdL:FuncData} (hi:∀ h,B.h0.StaysIn h→(∀ q∈pins,h.get? q.1=some q.2)→Vx B CC h ca rd lam mC mp oL fdL)
  {vals:List Value} {vw ve:Value} {a:Addr} {items:Array Value} {t:Tok} (hbind:BindsTo s fd ⟨vals,[]⟩ [(("self" : Str),.ref ca),(("node" : Str),.ref a),(("wanted" : Str),vw)])
  (hT:s.heap.IsTuple a items) (h0:items[0]? = some (.str "told" t)) (h2:items[2]? = some ve)
  (hQ:∀ h' tk,AY s.heap h'→Q ve {s with heap:=h',toks:=tk}):wpAny (mdl B) A (call (.ref (B.fnA 1000)) vals) Q E s:=by
 obtain ⟨o,ho',hdat,hcls⟩:=U.mf.obj
 have hk0:fd.scope.kind=.function:=by rw [U.mf.scope];rfl
 refine wpAny_call (codeAny_call_def (fd:=fd) (body:=Aq 88 1) (binds:=[(("self" : Str),.ref ca),(("node" : Str),.ref a),(("wanted" : Str),vw)]) (by omega) (h0s _ _ ho') hdat (hlim.keeps h0s) (U.mf.code.keeps h0s) U.mf.body hbind ?_ ?_ (fun h₀ hns hk=>?_) (by rw [U.mf.scope];rfl) (by rw [U.mf.scope];rfl) hk0)
 ·rw [U.mf.scope]
  show ∀ z∈(AR 88 1).names,z.2≠.cell
  decide +kernel
 ·rw [U.mf.scope]
  intro z hz
  simp only [List.mem_cons,List.not_mem_nil,or_false] at hz
  rcases hz with rfl | rfl | rfl<;>rfl
 ·have stay:B.h0.StaysIn h₀:=fun c o e=>hk c o (h0s c o e)
  have X:Fn1 B (callEnv fd s.heap.objs.size (B.fnA 1000)) h₀ (fun x=>[(("self" : Str),Value.ref ca),(("node" : Str),.ref a),(("wanted" : Str),vw)].reverse.lookup x):=⟨hk0,U.mf.glob,U.mf.bltn,hns,stay⟩
  have ko:∀ y,(callEnv fd s.heap.objs.size (B.fnA 1000)).kindOf y=(AR 88 1).names.lookup y:=fun y=>by
   show fd.scope.names.lookup y=_
   rw [U.mf.scope]
  have ci:=hi h₀ stay fun q hq=>hk _ _ (hp q hq)
  have hT':h₀.IsTuple a items:=by
   obtain ⟨o,e,r⟩:=hT
   exact ⟨o,hk _ _ e,r⟩
  have hname:∀ (n:Str) (p:Pos) (v:Value),(AR 88 1).names.lookup n=some NameKind.local→[(("self" : Str),Value.ref ca),(("node" : Str),Value.ref a),(("wanted" : Str),vw)].reverse.lookup n=some v→(n == ("__debug__" : Str))=false→Vv B (A.deeper (callEnv fd s.heap.objs.size (B.fnA 1000))) (callEnv fd s.heap.objs.size (B.fnA 1000)) h₀ (.Name n p) v :=
   fun n p v h1 h2 h3=>Vv.name X ((ko _).trans h1) h2 h3
  refine Bk (wpAny_Return_some ?_)
  refine AA (m:=eval (.Subscript _ _ _) _) ?_
  refine Vv.dget (Vv.attr (hname _ _ _ rfl rfl (by decide)) (U.cC.keeps stay) ci.iC U.gC.1 U.gC.2 MB ci.readers ci.hr) (Vv.sub (k:=0) (hname _ _ _ rfl rfl (by decide)) Iv.const hT' (by decide) (by decide) (by have:=(Array.getElem?_eq_some_iff.mp h0).1;show (0:Int) < _;omega) h0) ci.map ci.told _ _ _ rfl fun tk=>?_
  have se:∀ (env:Env) (e1 e2 e3:Expr) (cp:Pos),Ai e1→Ai e2→Ai e3→backTo cp (starEach [e1,e2,e3] env)=[(false,eval e1 env),(false,eval e2 env),(false,eval e3 env)]:=fun env e1 e2 e3 cp h1 h2 h3=>by rw [AL h1,AL h2,AL h3];rfl
  rw [se _ (.Name _ _) (.Name _ _) (.Name _ _) _ trivial trivial trivial]
  refine Calls.callWith_function (o:=oL) (fd:=fdL) (Calls.evalArgs_plain (Calls.spliced_cons ?_))
  refine hname _ _ _ rfl rfl (by decide) _ _ _ rfl fun tk1=>Calls.spliced_cons ?_
  refine hname _ _ _ rfl rfl (by decide) _ _ _ rfl fun tk2=>Calls.spliced_cons ?_
  refine hname _ _ _ rfl rfl (by decide) _ _ _ rfl fun tk3=>Calls.spliced_nil ?_
  refine ⟨⟨ci.obj,ci.dat⟩,?_⟩
  exact TC (s:={s with heap:=h₀,toks:=_}) b hlim stay ci (by show A.depth + 1 < _;omega) hT' h2 fun h' tk4 hg=>hQ h' tk4 fun c o e=>hg c o (hk c o e)
end
section
open PySem PySem.W
variable {B:Bs} {F F':Fv} {C:Value} {W W':Wd} {σ σ':St} {s s':Shared}
open PyProof.Rows
theorem Ti {t e:D} (h:PO t=some e):∃ m,t=.tup [.str [116,111,108,100],m,e]:=by
 unfold PO at h
 cases ht:BL t with
 | none=>rw [ht] at h;cases h
 | some l=>
 rw [ht] at h
 replace h:(match F9 l with | some p=>(match strOf p.1 with | some k=>(match Ap k [116,111,108,100] with | true=>some p.2.2 | false=>none) | none=>none) | none=>none)=some e:=h
 cases h3:F9 l with
 | none=>rw [h3] at h;cases h
 | some p=>
 rw [h3] at h
 replace h:(match strOf p.1 with | some k=>(match Ap k [116,111,108,100] with | true=>some p.2.2 | false=>none) | none=>none)=some e:=h
 cases hk:strOf p.1 with
 | none=>rw [hk] at h;cases h
 | some k=>
 rw [hk] at h
 replace h:(match Ap k [116,111,108,100] with | true=>some p.2.2 | false=>none)=some e:=h
 cases hs:Ap k [116,111,108,100] with
 | false=>rw [hs] at h;cases h
 | true=>
 rw [hs] at h
 exact ⟨p.2.1,by rw [BU ht,Ln h3,BY hk,AW.mp hs,AB h]⟩
theorem U2 (b:AK B) (hlim:B.h0.NoLimit) {CC CN:Addr} {mkC:SV} {fd:FuncData} (U:Oi B CC CN mkC fd) {args:List D} {vs:List Value} (ra:RdL B W s.heap args vs) :
  Ok B C F W σ s (call (.ref (B.fnA 1000)) vs []) (I5 args) (RdV B):=by
 cases args with
 | nil=>exact Ok.bad
 | cons d1 args=>
 cases args with
 | nil=>exact Ok.bad
 | cons d2 rest=>
 show Ok B C F W σ s _ (match GW d1&&Nat.ble rest.length 1 with | true=>opt (PO d2) | false=>bad) _
 cases hc:(GW d1&&Nat.ble rest.length 1) with
 | false=>exact Ok.bad
 | true=>
 rw [Bool.and_eq_true] at hc
 refine Ok.opt fun e he G outs ho=>?_
 rw [←AB ho]
 obtain ⟨m,et⟩:=Ti he
 obtain ⟨v1,us,e1,r1,ra⟩:=ra.inv
 obtain ⟨v2,ws,e2,r2,ra⟩:=ra.inv
 obtain ⟨ca,eca,hca⟩:=(Im hc.1▸r1).inv
 obtain ⟨a,items,ea,hx,r⟩:=(et▸r2).tup_inv
 obtain ⟨w0,l0,q0,z0,r⟩:=r.inv
 obtain ⟨w1,w2,q1,_,z2⟩:=r.two
 obtain ⟨x,t,ex,hxk⟩:=z0.str_inv
 have hx0:x = "told":=Aj (by rw [hxk];decide)
 obtain ⟨rd,lam,mC,mp,oL,fdL,hi⟩:=U.inst _ _ hca
 have i0:items[0]? = some (.str "told" t):=E3 (by rw [q0,ex,hx0];rfl)
 have i2:items[2]? = some w2:=E3 (by rw [q0,q1];rfl)
 have fin:∀ (h':Heap) (tk:Nat),AY s.heap h'→OkP B F W s.heap [(Out.ok e,σ)] (RdV B) w2 {s with heap:=h',toks:=tk}:=fun h' tk hg=>by
  obtain ⟨G',st⟩:=G.grow b (t:=tk) hg
  exact ⟨e,W,σ,.head _,G',st,G.rd b st z2⟩
 rw [e1,e2,eca,ea]
 cases rest with
 | nil=>
  rw [show ws=_ from ra.inv]
  exact Jy b hlim U (G.deepOk (k:=1) (by omega)) G.stay0 (pins:=W.pins) (fun q hq=>(G.pins q hq).1) hi (U.b2 _ _ _ G.stay0) hx i0 i2 fin
 | cons w rest=>
  cases rest with
  | nil=>
   obtain ⟨v3,e3,_⟩:=ra.one
   rw [e3]
   exact Jy b hlim U (G.deepOk (k:=1) (by omega)) G.stay0 (pins:=W.pins) (fun q hq=>(G.pins q hq).1) hi (U.b3 _ _ _ _ G.stay0) hx i0 i2 fin
  | cons _ _=>exact ffF hc.2
end
section
open PySem PySem.W
variable {B:Bs} {F F':Fv} {C:Value} {W W':Wd} {σ σ':St} {s s':Shared}
open PyProof.Rows
structure OSt (h0 hh:Heap) (L x dx C:Addr) (m mA:SV):Prop where
 keep:AY h0 hh
 ns:hh.Ns L m
 nL:L≠x
 new:h0.get? x=none
 newL:h0.get? L=none
 inst:hh.Inst x C mA
 dict:∀ o,hh.get? x=some o→o.dict=some dx
 newD:h0.get? dx=none
 dL:dx≠L
theorem OSt.grew {h0 hh h':Heap} {L x dx C:Addr} {m mA:SV} (X:OSt h0 hh L x dx C m mA) (k:AY hh h'):OSt h0 h' L x dx C m mA where
 keep:=fun c o e=>k c o (X.keep c o e)
 ns:=X.ns.keeps k
 nL:=X.nL
 new:=X.new
 newL:=X.newL
 inst:=X.inst.keeps k
 dict:=fun o e=>by
  obtain ⟨o',e',_⟩:=X.inst
  have:=k _ _ e'
  rw [this] at e;cases e
  exact X.dict _ e'
 newD:=X.newD
 dL:=X.dL
theorem OSt.store {h0:Heap} {L x dx Ck Nk:Addr} {m mA mk:SV} (X:OSt h0 s.heap L x dx Ck m mA) (hC:ClsAt h0 Ck Nk mk) {A:Around} {name:Str} {v:Value} {Q:Unit→Shared→Prop} {E:VP} {ns:List Str}
  (h1:mk "__setattr__" = none) (h2:mk name=none) (hB:typeLookup (.type "object") name=pure none) (hw:Within mA ns) (hz:ns.length≤1000)
  (hQ:∀ h' tk,OSt h0 h' L x dx Ck m (fun y=>if y=name then some v else mA y)→Q () {s with heap:=h',toks:=tk}):wpAny (mdl B) A (setAttr (.ref x) name v) Q E s:=by
 obtain ⟨hh,g,d,t,os⟩:=s
 obtain ⟨n1,q1,bs,sn,sub,col,d1,k0,k1,k2,k3,k5,hC0⟩:=hC.obj
 have hxC:x≠Ck:=fun q=>by have:=X.new;rw [q,hC0] at this;cases this
 refine store_attr PySem.F.store_object (X.keep _ _ hC0) (hC.ns.keeps X.keep) h1 h2 hB hxC X.inst (fun h' tk' I' hk hsame=>?_) hw (by rw [sizeLine_eq];omega)
 obtain ⟨o,ho,hcls,hnc,hd⟩:=X.inst
 have nodx:∀ c oc,h0.get? c=some oc→∀ o₀ d2,hh.get? x=some o₀→o₀.dict=some d2→c≠d2:=fun c oc ec o₀ d2 e₀ ed q=>by
  rw [X.dict o₀ e₀] at ed;cases ed
  rw [q,X.newD] at ec;cases ec
 have nodL:∀ o₀ d2,hh.get? x=some o₀→o₀.dict=some d2→L≠d2:=fun o₀ d2 e₀ ed q=>by
  rw [X.dict o₀ e₀] at ed;cases ed
  exact X.dL q.symm
 refine hQ h' tk' ⟨fun c oc ec=>hk c oc (fun q=>by rw [q,X.new] at ec;cases ec) (nodx c oc ec) (X.keep c oc ec),?_,X.nL,X.new,X.newL,I',?_,X.newD,X.dL⟩
 ·obtain ⟨oL,es,ep,e1,r⟩:=X.ns
  exact ⟨oL,es,ep,hk L oL X.nL nodL e1,r⟩
 ·intro o1 e1
  obtain ⟨o2,e2,c2,dt2,sl2,dk2⟩:=hsame o ho
  rw [e1] at e2;cases e2
  exact dk2 dx (X.dict o ho)
theorem OSt.rebase {h0 hh:Heap} {L x dx C:Addr} {m mA:SV} (X:OSt h0 hh L x dx C m mA):OSt (hideAll hh [x,dx,L]) hh L x dx C m mA where
 keep:=fun c o e=>of_hideAll _ e
 ns:=X.ns
 nL:=X.nL
 new:=hideAll_none _ (.head _)
 newL:=hideAll_none _ (.tail _ (.tail _ (.head _)))
 inst:=X.inst
 dict:=X.dict
 newD:=hideAll_none _ (.tail _ (.head _))
 dL:=X.dL
theorem OSt.base {h0 hh:Heap} {L x dx C:Addr} {m mA:SV} (X:OSt h0 hh L x dx C m mA):AY h0 (hideAll hh [x,dx,L]):=fun c o e=>
 hideAll_get _ (X.keep c o e) fun q=>by
  simp only [List.mem_cons,List.not_mem_nil,or_false] at q
  rcases q with rfl | rfl | rfl
  ·rw [X.new] at e;cases e
  ·rw [X.newD] at e;cases e
  ·rw [X.newL] at e;cases e
structure C9 (h:Heap) (x Ck dx:Addr) (mA:SV):Prop where
 inst:h.Inst x Ck mA
 dict:∀ o,h.get? x=some o→o.dict=some dx
theorem C9.at {h h':Heap} {x Ck dx:Addr} {mA:SV} (i:C9 h x Ck dx mA) (k1:∀ o,h.get? x=some o→h'.get? x=some o) (k2:∀ o,h.get? dx=some o→h'.get? dx=some o):C9 h' x Ck dx mA:=by
 obtain ⟨o,e,c,n,r⟩:=i.inst
 have hd:=i.dict o e
 refine ⟨⟨o,k1 _ e,c,n,?_⟩,fun o' e'=>by rw [k1 _ e] at e';cases e';exact hd⟩
 rcases r with r | ⟨dx',h1,h2,h3⟩
 ·exact .inl r
 ·obtain rfl:dx'=dx:=AB (h1.symm.trans hd)
  exact .inr ⟨dx',h1,h2,h3.at k2⟩
theorem OSt.instD {h0 hh:Heap} {L x dx C:Addr} {m mA:SV} (X:OSt h0 hh L x dx C m mA):C9 hh x C dx mA:=⟨X.inst,X.dict⟩
end
section
open PySem PySem.W
variable {B:Bs} {F F':Fv} {C:Value} {W W':Wd} {σ σ':St} {s s':Shared}
open PyProof.Rows
theorem MN (hlim:B.h0.NoLimit) {A:Around} {Ck Nk fI:Addr} {mk:SV} {i j:Nat} {fd:FuncData} {vals:List Value} {binds:Addr→List (Str×Value)} {Q:VP} {E:VP}
  (hroom:A.depth + 1 < recursionLimit) (h0s:B.h0.StaysIn s.heap) (hC:ClsAt B.h0 Ck Nk mk) (hi:mk "__init__" = some (.ref fI)) (mf:CD B i j fI fd)
  (hb:∀ x (s':Shared),B.h0.StaysIn s'.heap→BindsTo s' fd ⟨.ref x::vals,[]⟩ (binds x))
  (hcell:∀ z∈(AR i j).names,z.2≠.cell) (hloc:∀ x,∀ z∈binds x,(AR i j).names.lookup z.1=some .local) (hco:(AR i j).isCoroutine=false) (hgen:(AR i j).isGenerator=false) (hk:(AR i j).kind=.function)
  (hbody:∀ x dx L h₀ tk (A':Around) (E':VP),A'.depth=A.depth + 2→OSt s.heap h₀ L x dx Ck (fun y=>(binds x).reverse.lookup y) (fun zz=>none)→
   wpAny (mdl B) A' (execs (Aq i j) (callEnv fd L fI)) (fun f s'=>f=.next∧Q (.ref x) s') E' {s with heap:=h₀,toks:=tk}) :
  wpAny (mdl B) A (call (.ref Ck) vals) Q E s:=by
 obtain ⟨hh,g,d,t,os⟩:=s
 obtain ⟨n1,q1,bs,sn,sub,col,d1,k0,k1,k2,k3,k5,hC0⟩:=(hC.keeps h0s).obj
 obtain ⟨oI,hoI,hdI,hcI⟩:=mf.obj
 refine wpAny_call_obj_init PySem.F.objNew hC0 (hC.keeps h0s).ns hi (h0s _ _ hoI) hcI fun h' x dx Mk=>?_
 have h0s':B.h0.StaysIn h':=fun c o e=>Mk.keeps c o (h0s c o e)
 refine wpAny_call (codeAny_call_def (fd:=fd) (body:=Aq i j) (binds:=binds x) (by rw [depth_under_make];exact hroom) (h0s' _ _ hoI) hdI (hlim.keeps h0s') (mf.code.keeps h0s') mf.body (hb x _ h0s') (by rw [mf.scope];exact hcell) (by rw [mf.scope];exact hloc x)
  (fun h₁ hns hk₁=>?_) (by rw [mf.scope];exact hco) (by rw [mf.scope];exact hgen) (by rw [mf.scope];exact hk))
 obtain ⟨ox,hx,hcx,hncx,hdx⟩:=Mk.inst
 have hdd:=Mk.dict ox hx
 have hnsd:h'.Ns1 dx fun zz=>none:=by
  rcases hdx with ⟨hn0,_⟩ | ⟨d',hd',_,hns'⟩
  ·rw [hn0] at hdd;cases hdd
  ·obtain rfl:=AB (hd'.symm.trans hdd);exact hns'
 have fresh:∀ c,(∃ o,h'.get? c=some o)→c≠h'.objs.size:=fun c ⟨o,e⟩ q=>by
  rw [q] at e;exact Nat.lt_irrefl _ (Heap.lt_size e)
 have st:OSt hh h₁ h'.objs.size x dx Ck (fun y=>(binds x).reverse.lookup y) (fun zz=>none) :=
  {keep:=fun c o e=>hk₁ c o (Mk.keeps c o e),ns:=hns,nL:=fun q=>fresh x ⟨ox,hx⟩ q.symm,new:=Mk.newX,newL:=Heap.get?_none_of_le Mk.grows,inst:=Mk.inst.keeps hk₁,dict:=fun o e=>(by rw [hk₁ _ _ hx] at e;cases e;exact hdd),newD:=Mk.newD,dL:=fresh dx (by obtain ⟨o,_,_,e,_⟩:=hnsd;exact ⟨o,e⟩)}
 refine AH (hbody x dx h'.objs.size h₁ _ _ _ ?_ st) (fun f s' hf=>?_) fun zz zz y=>y
 ·show (A.under _).depth + 1=A.depth + 2
  rw [depth_under_make]
 ·obtain ⟨rfl,hq⟩:=hf
  exact ⟨rfl,hq⟩
end
section
open PySem PySem.W
variable {B:Bs} {F F':Fv} {C:Value} {W W':Wd} {σ σ':St} {s s':Shared}
open PyProof.Rows
structure InF (B:Bs) (env:Env) (L:Addr):Prop where
 kind:env.scope.kind=.function
 glob:env.globals=mainGlobals
 bltn:env.builtins=builtinsNs
 loc:env.locals=L
 self:env.kindOf "self" = some .local
structure M0 (mk:SV) (name:Str):Prop where
 sa:mk "__setattr__" = none
 at_:mk name=none
 ob:typeLookup (.type "object") name=pure none
theorem OSt.fn1 {h0 hh:Heap} {L x dx Ck:Addr} {m mA:SV} {env:Env} (X:OSt h0 hh L x dx Ck m mA) (I:InF B env L) (hs0:B.h0.StaysIn h0):Fn1 B env hh m :=
 ⟨I.kind,I.glob,I.bltn,by rw [I.loc];exact X.ns,fun c o e=>X.keep c o (hs0 c o e)⟩
theorem OSt.attrP {h0:Heap} {L x dx Ck Nk:Addr} {m mA mk:SV} (X:OSt h0 s.heap L x dx Ck m mA) (hC:ClsAt h0 Ck Nk mk) (hs0:B.h0.StaysIn h0) {A:Around} {env:Env} {name:Str} {e:Expr} {p1 p2 pos:Pos} {Q:FP} {E:VP} {ns:List Str} {R:Value→Prop}
  (I:InF B env L) (hm:m "self" = some (.ref x)) (he:Pv B A env s.heap e R) (hsw:swapsWith e (some (.Attribute (.Name "self" p1) name p2)) pos.line env=pure false) (hf:M0 mk name) (hw:Within mA ns) (hz:ns.length≤1000)
  (hQ:∀ v h' tk,R v→OSt h0 h' L x dx Ck m (fun y=>if y=name then some v else mA y)→Q .next {s with heap:=h',toks:=tk}) :
  wpAny (mdl B) A (exec (.Assign [.Attribute (.Name "self" p1) name p2] e pos) env) Q E s:=by
 refine plainObj_wpAny_Assign_Attribute (he _ _ _ rfl fun v tk rv=>?_) hsw
 refine Vv.name (X.fn1 I hs0) I.self hm (by decide) _ _ _ rfl fun tk1=>?_
 exact OSt.store (s:={s with toks:=tk1}) X hC hf.sa hf.at_ hf.ob hw hz fun h' tk2 X2=>hQ v h' tk2 rv X2
theorem OSt.attrG {h0:Heap} {L x dx Ck Nk:Addr} {m mA mk:SV} (X:OSt h0 s.heap L x dx Ck m mA) (hC:ClsAt h0 Ck Nk mk) (hs0:B.h0.StaysIn h0) {A:Around} {env:Env} {name:Str} {e:Expr} {p1 p2 pos:Pos} {Q:FP} {E:VP} {ns:List Str}
  (I:InF B env L) (hm:m "self" = some (.ref x)) (he:∀ (Q:VP),(∀ v h' tk,AY s.heap h'→Q v {s with heap:=h',toks:=tk})→wpAny (mdl B) A (eval e env) Q E s) (hsw:swapsWith e (some (.Attribute (.Name "self" p1) name p2)) pos.line env=pure false) (hf:M0 mk name) (hw:Within mA ns) (hz:ns.length≤1000)
  (hQ:∀ v h' tk,OSt h0 h' L x dx Ck m (fun y=>if y=name then some v else mA y)→Q .next {s with heap:=h',toks:=tk}) :
  wpAny (mdl B) A (exec (.Assign [.Attribute (.Name "self" p1) name p2] e pos) env) Q E s:=by
 refine plainObj_wpAny_Assign_Attribute (he _ fun v h1 tk hg=>?_) hsw
 refine Vv.name ((X.grew hg).fn1 I hs0) I.self hm (by decide) _ _ _ rfl fun tk1=>?_
 exact OSt.store (s:={s with heap:=h1,toks:=tk1}) (X.grew hg) hC hf.sa hf.at_ hf.ob hw hz fun h' tk2 X2=>hQ v h' tk2 X2
theorem Nl:typeLookup (.type "object") "path" = pure none∧typeLookup (.type "object") "package" = pure none∧typeLookup (.type "object") "methods" = pure none:=by
 refine ⟨?_,?_,?_⟩<;>(rw [typeLookup_type,builtinLookup_eq_fast];kernel_rfl)
structure LX (B:Bs) (RC RN fI:Addr) (mk:SV) (fd:FuncData):Prop where
 cls:ClsAt B.h0 RC RN mk
 ini:mk "__init__" = some (.ref fI)
 mf:CD B 94 0 fI fd
 sa:mk "__setattr__" = none
 ats:mk "path" = none∧mk "package" = none∧mk "underlying" = none∧mk "methods" = none
 binds:Al B fd ["self","path","package","underlying","methods"] 5 []
theorem MM (hlim:B.h0.NoLimit) {RC RN fI:Addr} {mk:SV} {fd:FuncData} (K:LX B RC RN fI mk fd) {A:Around} (hroom:A.depth + 1 < recursionLimit) (h0s:B.h0.StaysIn s.heap) {v1 v2 v3 v4:Value} {Q:VP} {E:VP}
  (hQ:∀ h' tk x dx mR,AY s.heap h'→s.heap.get? x=none→s.heap.get? dx=none→C9 h' x RC dx mR→mR "underlying" = some v3→Q (.ref x) {s with heap:=h',toks:=tk}):wpAny (mdl B) A (call (.ref RC) [v1,v2,v3,v4]) Q E s:=by
 refine MN (i:=94) (j:=0) (binds:=fun x=>[(("self" : Str),.ref x),(("path" : Str),v1),(("package" : Str),v2),(("underlying" : Str),v3),(("methods" : Str),v4)]) hlim hroom h0s K.cls K.ini K.mf (fun x s' h=>K.binds s' [.ref x,v1,v2,v3,v4] h rfl) (by decide +kernel) (fun x z hz=>?_) rfl rfl rfl
  fun x dx L h₀ tk A' E' zz X=>?_
 ·simp only [List.mem_cons,List.not_mem_nil,or_false] at hz
  rcases hz with rfl | rfl | rfl | rfl | rfl<;>rfl
 ·have ko:∀ y,(callEnv fd L fI).kindOf y=(AR 94 0).names.lookup y:=fun y=>by
   show fd.scope.names.lookup y=_
   rw [K.mf.scope]
  have I:InF B (callEnv fd L fI) L:=⟨by show fd.scope.kind=_;rw [K.mf.scope];rfl,K.mf.glob,K.mf.bltn,rfl,(ko _).trans rfl⟩
  have hC:=K.cls.keeps h0s
  refine Bk (OSt.attrP (s:={s with heap:=h₀,toks:=tk}) X hC h0s I rfl (Vv.p (Vv.name (X.fn1 I h0s) ((ko _).trans rfl) rfl (by decide))) rfl ⟨K.sa,K.ats.1,Nl.1⟩ Within.nil (by decide) fun w1 h1 tk1 e1 X1=>?_)
  refine Bk (OSt.attrP (s:={s with heap:=h1,toks:=tk1}) X1 hC h0s I rfl (Vv.p (Vv.name (X1.fn1 I h0s) ((ko _).trans rfl) rfl (by decide))) rfl ⟨K.sa,K.ats.2.1,Nl.2.1⟩ (Within.cons _ _ Within.nil) (by decide) fun w2 h2 tk2 e2 X2=>?_)
  refine Bk (OSt.attrP (s:={s with heap:=h2,toks:=tk2}) X2 hC h0s I rfl (Vv.p (Vv.name (X2.fn1 I h0s) ((ko _).trans rfl) rfl (by decide))) rfl ⟨K.sa,K.ats.2.2.1,Df.2.1⟩ (Within.cons _ _ (Within.cons _ _ Within.nil)) (by show 2≤1000;decide) fun w3 h3 tk3 e3 X3=>?_)
  refine Bk (OSt.attrP (s:={s with heap:=h3,toks:=tk3}) X3 hC h0s I rfl (Vv.p (Vv.name (X3.fn1 I h0s) ((ko _).trans rfl) rfl (by decide))) rfl ⟨K.sa,K.ats.2.2.2,Nl.2.2⟩ (Within.cons _ _ (Within.cons _ _ (Within.cons _ _ Within.nil))) (by show 3≤1000;decide) fun w4 h4 tk4 e4 X4=>?_)
  refine EM ⟨rfl,hQ h4 tk4 x dx _ X4.keep X4.new X4.newD X4.instD ?_⟩
  subst e3
  rfl
end
section
open PySem PySem.W
variable {B:Bs} {F F':Fv} {C:Value} {W W':Wd} {σ σ':St} {s s':Shared}
open PyProof.Rows
section
variable {A:Around} {env:Env} {m:SV}
theorem AY.refl {h:Heap}:AY h h:=fun zz zz e=>e
theorem AY.trans {h1 h2 h3:Heap} (a:AY h1 h2) (c:AY h2 h3):AY h1 h3:=fun x o e=>c x o (a x o e)
theorem AY.push {h:Heap} {o:Obj}:AY h (h.push o):=fun zz zz e=>AE _ e
theorem Fn1.grew {h h':Heap} (X:Fn1 B env h m) (k:AY h h'):Fn1 B env h' m:=⟨X.kind,X.glob,X.bltn,X.ns.keeps k,fun c o e=>k c o (X.stay c o e)⟩
variable (B A env m) in
noncomputable abbrev Ge (e:Expr):Prop:=∀ (s:Shared) (Q:VP) (E:VP),Fn1 B env s.heap m→(∀ v h' tk,AY s.heap h'→Q v {s with heap:=h',toks:=tk})→wpAny (mdl B) A (eval e env) Q E s
theorem Ge.of_pv {e:Expr} {R:Value→Prop} (x:∀ h,Fn1 B env h m→Pv B A env h e R):Ge B A env m e:=fun s Q E X hQ=>x s.heap X s Q E rfl fun v tk zz=>hQ v s.heap tk AY.refl
theorem Ge.name {x:Str} {p:Pos} {v:Value} (hk:env.kindOf x=some .local) (hv:m x=some v) (hd:(x == ("__debug__" : Str))=false):Ge B A env m (.Name x p):=Ge.of_pv fun h X=>Vv.p (Vv.name X hk hv hd)
theorem Ge.glob (b:AK B) {x:Str} {p:Pos} {v:Value} (hk:env.kindOf x=some .globalImplicit) (hv:B.mg x=some v∨(B.mg x=none∧B.mb x=some v)) (hd:(x == ("__debug__" : Str))=false):Ge B A env m (.Name x p):=Ge.of_pv fun h X=>Vv.p (Vv.global b X hk hv hd)
theorem Ge.const {c:Const} {k:Nat} {p:Pos} {d:D} (h:B8 1 (.Constant c k p)=some d):Ge B A env m (.Constant c k p):=fun s Q E X hQ=>by
 exact JB (B:=B) 1 _ d s Q h fun v h' tk hg zz=>hQ v h' tk hg
theorem EC {pos:Pos}:∀ {es:List Expr},(∀ e∈es,Ai e∧Ge B A env m e)→∀ (s:Shared) (Q:List Value→Shared→Prop) (E:VP),Fn1 B env s.heap m→
  (∀ vs h' tk,vs.length=es.length→AY s.heap h'→Q vs {s with heap:=h',toks:=tk})→wpAny (mdl B) A (spliced (backTo pos (starEach es env))) Q E s:=by
 intro es
 induction es with
 | nil=>
  intro _ s Q E X hQ
  exact AD (hQ [] s.heap s.toks rfl AY.refl)
 | cons e es ih=>
  intro he s Q E X hQ
  obtain ⟨hp,ge⟩:=he e (.head _)
  rw [AL hp]
  show wpAny (mdl B) A (do
   let v←eval e env
   let here←(pure [v]:Sem (List Value))
   return here++(←PySem.holding here (spliced (backTo pos (starEach es env))))) Q E s
  refine AA (ge s _ E X fun v h1 tk k1=>?_)
  refine AA (AD (AA (AG ?_)))
  refine ih (fun x hx=>he x (.tail _ hx)) _ _ E (X.grew k1) fun vs h2 tk2 hl k2=>AD ?_
  exact hQ (v::vs) h2 tk2 (by simp [hl]) (k1.trans k2)
theorem Ge.tuple {es:List Expr} {k:Nat} {p:Pos} (he:∀ e∈es,Ai e∧Ge B A env m e) (hl:es.length≤1000):Ge B A env m (.Tuple es k p):=fun s Q E X hQ=>by
 rw [arm_eval_Tuple]
 refine AA (wpAny_standAt (AA (EC he s _ E X fun vs h' tk hv hg=>?_)))
 exact wpAny_newTuple (hQ _ _ _ (hg.trans AY.push)) (by rw [hv,sizeLine_eq];omega)
theorem Ge.list {es:List Expr} {p:Pos} (he:∀ e∈es,Ai e∧Ge B A env m e) (hl:es.length≤1000):Ge B A env m (.List es p):=fun s Q E X hQ=>by
 rw [arm_eval_List]
 refine AA (wpAny_standAt (AA (EC he s _ E X fun vs h' tk hv hg=>?_)))
 exact wpAny_newList (hQ _ _ _ (hg.trans AY.push)) (by rw [hv,sizeLine_eq];omega)
end
end
section
open PySem PySem.W
variable {B:Bs} {F F':Fv} {C:Value} {W W':Wd} {σ σ':St} {s s':Shared}
open PyProof.Rows
section
variable {A:Around} {env:Env} {m:SV}
noncomputable def Xs (o:Option Expr):Option Str:=o.bind DK
theorem Oy {o:Option Expr} {x:Str} (h:Xs o=some x):∃ k p,o=some (.Constant (.str x) k p):=AO h fun e he h=>by
 obtain ⟨k,p,e1⟩:=DW h
 exact ⟨k,p,by rw [he,e1]⟩
noncomputable def StrKeys (ks:List (Option Expr)):Bool:=ks.all fun o=>Bp (Xs o) fun zz=>true
theorem KU {o:Option Expr} {ks:List (Option Expr)} (h:StrKeys (o::ks)=true):(∃ x k p,o=some (.Constant (.str x) k p))∧StrKeys ks=true:=by
 obtain ⟨h1,h2⟩:=BA h
 exact ⟨Ac h1 fun x hx zz=>⟨x,Oy hx⟩,h2⟩
theorem TZ {pos:Pos} {ks:List (Option Expr)}:∀ {vs:List Expr},StrKeys ks=true→ks.length=vs.length→(∀ e∈vs,Ge B A env m e)→∀ (s:Shared) (Q:List (Value×Value)→Shared→Prop) (E:VP),Fn1 B env s.heap m→
  (∀ ps kvs h' tk,Carries (PySem.strKind P B.w) ps kvs→ps.length=ks.length→AY s.heap h'→Q ps {s with heap:=h',toks:=tk})→wpAny (mdl B) A (evalPairs (pairTrees ks vs env pos)) Q E s:=by
 induction ks with
 | nil=>exact fun {vs} _ hl _ s Q E X hQ=>by rw [Nz hl.symm];exact pairTrees_nil_walk (hQ [] [] s.heap s.toks trivial rfl AY.refl)
 | cons o ks ih=>
  intro vs h hl he s Q E X hQ
  obtain ⟨⟨x,kk,p,eo⟩,h⟩:=KU h
  obtain ⟨v,us,ev,hl⟩:=GR hl.symm
  rw [ev] at he
  rw [eo,ev]
  refine pairTrees_cons_walk (Calls.Constant_str (he v (.head _) _ _ _ X fun v' h1 tk1 k1=>?_))
  exact ih h hl.symm (fun e hx=>he e (.tail _ hx)) _ _ _ (X.grew k1) fun ps kvs h2 tk2 hc hp k2=>
   hQ ((.str x _,v')::ps) ((x,v')::kvs) h2 tk2 ⟨strKind_is _ _ _ _,rfl,hc⟩ (congrArg (· + 1) hp) (k1.trans k2)
theorem KT {ks:List (Option Expr)} (h:StrKeys ks=true):ks.all (·.isSome)=true:=List.all_eq_true.mpr fun o ho=>Ac (List.all_eq_true.mp h o ho) fun x hx zz=>by
 obtain ⟨k,p,e⟩:=Oy hx
 rw [e];rfl
theorem PK {ks:List (Option Expr)} {vs:List Expr} {pos:Pos} (h:StrKeys ks=true) (hl:ks.length=vs.length) (h0:ks≠[]) (h15:ks.length≤15) (he:∀ e∈vs,Ge B A env m e) (s:Shared) (Q:VP) (E:VP) (X:Fn1 B env s.heap m)
  (hQ:∀ h' tk (kvs:List (Str×Value)),AY s.heap h'→kvs.length≤15→h'.DictOf (PySem.strKind P B.w) s.heap.objs.size kvs→Q (.ref s.heap.objs.size) {s with heap:=h',toks:=tk}):wpAny (mdl B) A (eval (.Dict ks vs pos) env) Q E s:=by
 refine wpAny_Dict_walk (knd:=PySem.strKind P B.w) (KT h) hl h0 h15 ?_
 refine TZ h hl he _ _ _ (X.grew AY.push) fun ps kvs h' tk hc hp hg=>⟨kvs,hc,?_,fun h2 hd2 hsb=>?_⟩
 ·have e0:(s.heap.push {cls:=.type "dict",data:=.dict #[]}).get? s.heap.objs.size=some {cls:=.type "dict",data:=.dict #[]}:=Heap.get?_push_size _ rfl
  exact Heap.dictOf_iff.mpr ⟨_,hg _ _ e0,#[],0,⟨rfl,rfl,rfl⟩,rfl,(fun e he=>by simp at he),.nil,List.nodup_nil⟩
 ·refine hQ h2 _ _ (fun c o e=>?_) (Nat.le_trans (merged_length_le _ _) (by have:=hc.length;simp only [List.length_nil];omega)) hd2
  exact (hsb.2 c (Nat.ne_of_lt (Heap.lt_size e))).trans (hg c o (AE _ e))
theorem Ge.dict {ks:List (Option Expr)} {vs:List Expr} {pos:Pos} (h:StrKeys ks=true) (hl:ks.length=vs.length) (h0:ks≠[]) (h15:ks.length≤15) (he:∀ e∈vs,Ge B A env m e):Ge B A env m (.Dict ks vs pos) :=
 fun s Q E X hQ=>PK h hl h0 h15 he s Q E X fun h' tk f hg zz zz=>hQ _ h' tk hg
theorem Ge.dict0 {pos:Pos}:Ge B A env m (.Dict [] [] pos):=fun s Q E X hQ=>wpAny_Dict_empty (hQ _ _ s.toks AY.push)
theorem Ua {Q:FP} {E:VP} (X:Fn1 B env s.heap m) {x:Str} {p pos:Pos} {e:Expr} (he:Ge B A env m e) (hk:env.kindOf x=some .local) (hsw:swapsWith e (some (.Name x p)) pos.line env=pure false)
  (hQ:∀ v h1 h' tk,AY s.heap h1→h'.Ns env.locals (fun y=>if y=x then some v else m y)→Heap.SameBut env.locals h1 h'→Q .next {s with heap:=h',toks:=tk}) :
  wpAny (mdl B) A (exec (.Assign [.Name x p] e pos) env) Q E s:=by
 refine wpAny_Assign_Name (he s _ _ X fun v h1 tk hg=>?_) hsw
 exact wpAny_storeName_local hk (X.grew hg).ns (fun h' hn' hs=>hQ v h1 h' _ hg hn' hs) (by rw [X.kind];rfl)
end
end
section
open PySem PySem.W
variable {B:Bs} {F F':Fv} {C:Value} {W W':Wd} {σ σ':St} {s s':Shared}
open PyProof.Rows
section
variable {A:Around} {env:Env} {m:SV}
theorem XJ (b:AK B) (hlim:B.h0.NoLimit) {RC RN fI:Addr} {mk:SV} {fd:FuncData} (K:LX B RC RN fI mk fd) (hroom:A.depth + 1 < recursionLimit) (hg:B.mg "NamedRow" = some (.ref RC)) (hk:env.kindOf "NamedRow" = some .globalImplicit)
  {e1 e2 e3 e4:Expr} {p pos:Pos} (h1:Ai e1∧Ge B A env m e1) (h2:Ai e2∧Ge B A env m e2) (h3:Ai e3∧Ge B A env m e3) (h4:Ai e4∧Ge B A env m e4):Ge B A env m (.Call (.Name "NamedRow" p) [e1,e2,e3,e4] [] pos):=fun s Q E X hQ=>by
 refine wpAny_Call_ofName (Vv.global b X hk (.inl hg) (by decide) _ _ _ rfl fun tk=>?_)
 have all:∀ e∈[e1,e2,e3,e4],Ai e∧Ge B A env m e:=fun e he=>by
  simp only [List.mem_cons,List.not_mem_nil,or_false] at he
  rcases he with rfl | rfl | rfl | rfl<;>assumption
 refine callWith_cls (h₀:=s.heap) (K.cls.keeps X.stay) (EC all _ _ E X fun vs h' tk1 hl hgr=>?_) (AL h1.1) (by rw [AL h2.1,AL h3.1,AL h4.1];rfl)
 obtain ⟨v1,v2,v3,v4,rfl⟩:∃ v1 v2 v3 v4,vs=[v1,v2,v3,v4]:=by
  obtain ⟨v1,r1,e1,h1⟩:=GR hl
  obtain ⟨v2,r2,e2,h2⟩:=GR h1
  obtain ⟨v3,r3,e3,h3⟩:=GR h2
  obtain ⟨v4,r4,e4,h4⟩:=GR h3
  exact ⟨v1,v2,v3,v4,by rw [e1,e2,e3,e4,Nz h4]⟩
 refine ⟨hgr,MM (s:={s with heap:=h',toks:=tk1}) hlim K hroom (fun c o e=>hgr c o (X.stay c o e)) fun h2' tk2 x dx mR hg2 zz zz zz zz=>?_⟩
 exact hQ _ h2' tk2 (hgr.trans hg2)
structure FSt (B:Bs) (env:Env) (h0 hh:Heap) (m:SV) (vars:List Str):Prop where
 fn:Fn1 B env hh m
 keep:AY h0 hh
 newL:h0.get? env.locals=none
 vars:∀ x∈vars,env.kindOf x=some .local∧∃ v,m x=some v
theorem FSt.asg {h0:Heap} {vars:List Str} (X:FSt B env h0 s.heap m vars) {x:Str} {p pos:Pos} {e:Expr} {Q:FP} {E:VP} (he:Ge B A env m e) (hs0:B.h0.StaysIn h0) (hk:env.kindOf x=some .local) (hsw:swapsWith e (some (.Name x p)) pos.line env=pure false)
  (hQ:∀ h' tk m',FSt B env h0 h' m' (x::vars)→Q .next {s with heap:=h',toks:=tk}):wpAny (mdl B) A (exec (.Assign [.Name x p] e pos) env) Q E s:=by
 refine Ua X.fn he hk hsw fun v h1 h' tk hg hn hsb=>hQ h' tk (fun y=>if y=x then some v else m y) ?_
 have kp:AY h0 h':=fun c o ec=>(hsb.2 c (fun q=>by rw [q,X.newL] at ec;cases ec)).trans (hg c o (X.keep c o ec))
 refine ⟨⟨X.fn.kind,X.fn.glob,X.fn.bltn,hn,fun c o e=>kp c o (hs0 c o e)⟩,kp,X.newL,fun y hy=>?_⟩
 rcases List.mem_cons.mp hy with rfl | hy
 ·exact ⟨hk,v,if_pos rfl⟩
 ·obtain ⟨h1,u,h2⟩:=X.vars y hy
  refine ⟨h1,?_⟩
  by_cases q:y=x
  ·exact ⟨v,if_pos q⟩
  ·exact ⟨u,by show (if y=x then _ else m y)=_;rw [if_neg q];exact h2⟩
end
end
section
open PySem PySem.W
variable {B:Bs} {F F':Fv} {C:Value} {W W':Wd} {σ σ':St} {s s':Shared}
open PyProof.Rows
noncomputable def DB (x:Str) (l:List Str):Bool:=l.any fun y=>nm x == nm y
theorem AP {x:Str} {l:List Str} (h:DB x l=true):x∈l:=by
 obtain ⟨y,hy,e⟩:=List.any_eq_true.mp h
 rw [Aj (eq_of_beq e)]
 exact hy
noncomputable def V6:Const→Bool | .none | .bool _ | .int _ | .str _ | .bytes _=>true | _=>false
noncomputable def Ta (row:Bool) (f:Expr→Bool) (e:Expr):Bool:=Bp (Hi e) fun q=>Bp (An q.1) fun n=>row&&(nm n == nm "NamedRow"&&(Nat.beq q.2.1.length 4&&q.2.1.all f))
noncomputable def geE (row:Bool) (loc glo:List Str):Nat→Expr→Bool
 | 0,_=>false
 | n + 1,e=>(Bp (constOf e) V6 || Bp (An e) fun x=>!Ax x&&(DB x loc || DB x glo)) || ((Bp (M5 e) fun es=>Nat.ble es.length 1000&&es.all fun e=>geE row loc glo n e) ||
  ((Bp (listE e) fun es=>Nat.ble es.length 1000&&es.all fun e=>geE row loc glo n e) || ((Bp (Ml e) fun q=>StrKeys q.1&&(Nat.beq q.1.length q.2.length&&(Nat.ble q.1.length 15&&q.2.all fun e=>geE row loc glo n e))) ||
   Ta row (fun e=>geE row loc glo n e) e)))
section
variable {A:Around} {env:Env} {m:SV}
theorem Md {row:Bool} {f:Expr→Bool} {e:Expr} (h:Ta row f e=true):∃ x p a b c d pos,e=.Call (.Name x p) [a,b,c,d] [] pos∧row=true∧x = "NamedRow"∧[a,b,c,d].all f=true:=Ac h fun q hq h=>Ac h fun x hx h=>by
 obtain ⟨h1,h⟩:=BA h
 obtain ⟨h2,h⟩:=BA h
 obtain ⟨h3,h4⟩:=BA h
 obtain ⟨p,e2⟩:=A1 hx
 obtain ⟨a,r1,e3,l1⟩:=GR (AI h3)
 obtain ⟨b,r2,e4,l2⟩:=GR l1
 obtain ⟨c,r3,e5,l3⟩:=GR l2
 obtain ⟨d,r4,e6,l4⟩:=GR l3
 have ea:q.2.1=[a,b,c,d]:=by rw [e3,e4,e5,e6,Nz l4]
 exact ⟨x,p,a,b,c,d,q.2.2,by rw [El hq,e2,ea],h1,Aj (eq_of_beq h2),ea▸h4⟩
theorem Hz {row:Bool} {loc glo:List Str} {n:Nat} {e:Expr} {G:Prop} (h:geE row loc glo n e=true) (k1:∀ c k p,e=.Constant c k p→V6 c=true→G)
  (k2:∀ x p,e=.Name x p→Ax x=false→(DB x loc || DB x glo)=true→G) (k3:∀ m es k p,n=m + 1→e=.Tuple es k p→Nat.ble es.length 1000=true→es.all (geE row loc glo m)=true→G)
  (k4:∀ m es p,n=m + 1→e=.List es p→Nat.ble es.length 1000=true→es.all (geE row loc glo m)=true→G)
  (k5:∀ m ks vs p,n=m + 1→e=.Dict ks vs p→StrKeys ks=true→ks.length=vs.length→ks.length≤15→vs.all (geE row loc glo m)=true→G)
  (k6:∀ m x p a b c d pos,n=m + 1→e=.Call (.Name x p) [a,b,c,d] [] pos→row=true→x = "NamedRow"→[a,b,c,d].all (geE row loc glo m)=true→G):G:=by
 cases n with
 | zero=>exact ffF h
 | succ n=>
  refine orT h (fun h=>orT h (fun h=>Ac h fun c hc h=>?_) fun h=>Ac h fun x hx h=>?_) fun h=>orT h (fun h=>Ac h fun es he h=>?_) fun h=>orT h (fun h=>Ac h fun es he h=>?_) fun h=>orT h (fun h=>Ac h fun q he h=>?_) fun h=>?_
  ·obtain ⟨k,p,e1⟩:=C4 hc
   exact k1 c k p e1 h
  ·obtain ⟨p,e1⟩:=A1 hx
   obtain ⟨h1,h2⟩:=BA h
   exact k2 x p e1 (Sr h1) h2
  ·obtain ⟨k,p,e1⟩:=KP he
   obtain ⟨h1,h2⟩:=BA h
   exact k3 n es k p rfl e1 h1 h2
  ·obtain ⟨p,e1⟩:=MQ he
   obtain ⟨h1,h2⟩:=BA h
   exact k4 n es p rfl e1 h1 h2
  ·obtain ⟨p,e1⟩:=I9 he
   obtain ⟨h1,h⟩:=BA h
   obtain ⟨h2,h⟩:=BA h
   obtain ⟨h3,h4⟩:=BA h
   exact k5 n q.1 q.2 p rfl e1 h1 (AI h2) (AF h3) h4
  ·obtain ⟨x,p,a,b,c,d,pos,e1,h1,h2,h3⟩:=Md h
   exact k6 n x p a b c d pos rfl e1 h1 h2 h3
theorem Ju {row:Bool} {loc glo:List Str} {n:Nat} {e:Expr} (h:geE row loc glo n e=true):Ai e :=
 Hz h (fun zz zz zz e zz=>e▸trivial) (fun zz zz e zz zz=>e▸trivial) (fun zz zz zz zz zz e zz zz=>e▸trivial) (fun zz zz zz zz e zz zz=>e▸trivial) (fun zz zz zz zz zz e zz zz zz zz=>e▸trivial) (fun zz zz zz zz zz zz zz zz zz e zz zz zz=>e▸trivial)
noncomputable abbrev Pg (B:Bs) (A:Around) (env:Env) (m:SV):Prop:=∀ (e1 e2 e3 e4:Expr) (p pos:Pos),(Ai e1∧Ge B A env m e1)→(Ai e2∧Ge B A env m e2)→(Ai e3∧Ge B A env m e3)→(Ai e4∧Ge B A env m e4)→Ge B A env m (.Call (.Name "NamedRow" p) [e1,e2,e3,e4] [] pos)
theorem Mc (b:AK B) {row:Bool} {loc glo:List Str} (hr:row=true→Pg B A env m) (hl:∀ x∈loc,env.kindOf x=some .local∧∃ v,m x=some v) (hg:∀ x∈glo,env.kindOf x=some .globalImplicit∧∃ v,B.mg x=some v∨(B.mg x=none∧B.mb x=some v)) :
  ∀ (n:Nat) (e:Expr),geE row loc glo n e=true→Ge B A env m e:=fun n=>by
 have many:∀ n,(∀ e,geE row loc glo n e=true→Ge B A env m e)→∀ es:List Expr,es.all (geE row loc glo n)=true→∀ e∈es,Ai e∧Ge B A env m e:=fun n ih es hs e he=>
  have:=List.all_eq_true.mp hs e he
  ⟨Ju this,ih e this⟩
 induction n with
 | zero=>exact fun e h=>ffF h
 | succ n ih=>
  intro e h
  refine Hz h (fun c k p e1 h=>?_) (fun x p e1 h1 h2=>?_) (fun k es zz p hn e1 h1 h2=>?_) (fun k es p hn e1 h1 h2=>?_) (fun k ks vs p hn e1 h1 h2 h3 h4=>?_) (fun k x p a b' c d pos hn e1 h1 h2 h3=>?_)<;>rw [e1]
  ·cases c<;>first | exact Ge.const rfl | exact ffF h
  ·refine orT h2 (fun q=>?_) fun q=>?_
   ·obtain ⟨hk,v,hv⟩:=hl x (AP q)
    exact Ge.name hk hv (BB h1).1
   ·obtain ⟨hk,v,hv⟩:=hg x (AP q)
    exact Ge.glob b hk hv (BB h1).1
  ·rw [←Nat.succ.inj hn] at h2
   exact Ge.tuple (many n ih es h2) (AF h1)
  ·rw [←Nat.succ.inj hn] at h2
   exact Ge.list (many n ih es h2) (AF h1)
  ·rw [←Nat.succ.inj hn] at h4
   cases ks with
   | nil=>
    rw [show vs=[] from List.length_eq_zero_iff.mp h2.symm]
    exact Ge.dict0
   | cons k ks=>exact Ge.dict h1 h2 (by simp) h3 fun e he=>(many n ih vs h4 e he).2
  ·rw [←Nat.succ.inj hn] at h3
   have ha:=many n ih _ h3
   rw [h2]
   exact hr h1 a b' c d p pos (ha a (.head _)) (ha b' (.tail _ (.head _))) (ha c (.tail _ (.tail _ (.head _)))) (ha d (.tail _ (.tail _ (.tail _ (.head _)))))
structure Wx (B:Bs) (A:Around) (env:Env) (l:List Stmt) (Q:FP) (E:VP) (s:Shared):Prop where
 go:wpAny (mdl B) A (execs l env) Q E s
theorem Wx.cons {st:Stmt} {rest:List Stmt} {Q:FP} {E:VP} (h:wpAny (mdl B) A (exec st env) (fun f s1=>match f with | .next=>Wx B A env rest Q E s1 | f=>Q f s1) E s):Wx B A env (st::rest) Q E s :=
 ⟨Bk (AH h (fun f s1 hf=>by cases f<;>first | exact hf.go | exact hf) fun zz zz x=>x)⟩
theorem Wx.nil {Q:FP} {E:VP} (h:Q .next s):Wx B A env [] Q E s:=⟨EM h⟩
theorem Wx.ret {e:Expr} {pos:Pos} {rest:List Stmt} {Q:FP} {E:VP} (h:wpAny (mdl B) A (eval e env) (fun v s'=>Q (.ret v) s') E s):Wx B A env (.Return (some e) pos::rest) Q E s :=
 ⟨Bk (wpAny_Return_some h)⟩
theorem YI {row:Bool} {loc glo:List Str} {n:Nat} {e:Expr} (h:geE row loc glo n e=true) {x:Str} {p:Pos} {l:Nat}:swapsWith e (some (.Name x p)) l env=pure false :=
 Hz h (fun zz zz zz e zz=>e▸rfl) (fun zz zz e zz zz=>e▸rfl) (fun zz zz zz zz zz e zz zz=>e▸rfl) (fun zz zz zz zz e zz zz=>e▸rfl) (fun zz zz zz zz zz e zz zz zz zz=>e▸rfl) (fun zz zz zz zz zz zz zz zz zz e zz zz zz=>e▸rfl)
noncomputable def Oc (st:Stmt):Option (Expr×Expr):=(Vo st).bind fun q=>(A2 q.1).bind fun t=>some (t,q.2)
theorem J9 {st:Stmt} {q:Expr×Expr} (h:Oc st=some q):∃ pos,st=.Assign [q.1] q.2 pos:=AO h fun w hw h=>AO h fun t ht h=>by
 obtain ⟨pos,e⟩:=Pd hw
 exact ⟨pos,by rw [e,B3 ht,←AB h]⟩
noncomputable def O0 (st:Stmt):Option (Str×Expr):=(Oc st).bind fun q=>(An q.1).bind fun x=>some (x,q.2)
theorem NK {st:Stmt} {x:Str} {e:Expr} (h:O0 st=some (x,e)):∃ p pos,st=.Assign [.Name x p] e pos:=AO h fun q hq h=>AO h fun y hy h=>by
 obtain ⟨p,e1⟩:=A1 hy
 obtain ⟨pos,e2⟩:=J9 hq
 have h:=AB h
 exact ⟨p,pos,by rw [e2,e1,pI1 h,pI2 h]⟩
noncomputable def EK (row:Bool) (sc:LK) (glo:List Str):List Str→List Stmt→List Str×List Stmt
 | vars,[]=>(vars,[])
 | vars,st::rest=>match O0 st with
  | none=>(vars,st::rest)
  | some q=>(match geE row vars glo 8 q.2&&BG (As (nm q.1) sc) .local with
   | true=>EK row sc glo (q.1::vars) rest
   | false=>(vars,st::rest))
theorem EJ {row:Bool} {sc:LK} {glo vars:List Str} {st:Stmt} {rest:List Stmt}:EK row sc glo vars (st::rest)=match O0 st with
  | none=>(vars,st::rest)
  | some q=>(match geE row vars glo 8 q.2&&BG (As (nm q.1) sc) .local with
   | true=>EK row sc glo (q.1::vars) rest
   | false=>(vars,st::rest)):=rfl
theorem Pb (b:AK B) {row:Bool} {glo:List Str} (hr:∀ m,row=true→Pg B A env m) (hg:∀ x∈glo,env.kindOf x=some .globalImplicit∧∃ v,B.mg x=some v∨(B.mg x=none∧B.mb x=some v)) {h0:Heap} (hs0:B.h0.StaysIn h0) {sc:LK} (hsc:env.scope.names=sc)
  {Q:FP} {E:VP}:∀ (l:List Stmt) (vars:List Str) (s:Shared) (m:SV),FSt B env h0 s.heap m vars→
  (∀ h' tk m',FSt B env h0 h' m' (EK row sc glo vars l).1→Wx B A env (EK row sc glo vars l).2 Q E {s with heap:=h',toks:=tk})→Wx B A env l Q E s
 | l,vars,s,m,X,hQ=>by
  have stop:EK row sc glo vars l=(vars,l)→Wx B A env l Q E s:=fun e=>by
   have:=hQ s.heap s.toks m
   rw [e] at this
   exact this X
  cases l with
  | nil=>exact stop rfl
  | cons st rest=>
   cases hs:O0 st with
   | none=>exact stop (by rw [EJ,hs])
   | some xe=>
    obtain ⟨x,e⟩:=xe
    cases hc:(geE row vars glo 8 e&&BG (As (nm x) sc) .local) with
    | false=>exact stop (by rw [EJ,hs];dsimp only;rw [hc])
    | true=>
     rw [EJ,hs] at hQ
     dsimp only at hQ
     rw [hc] at hQ
     simp only [Bool.and_eq_true] at hc
     obtain ⟨p,pos,rfl⟩:=NK hs
     refine Wx.cons (FSt.asg X (Mc b (hr m) X.vars hg 8 _ hc.1) hs0 ?_ (YI hc.1) fun h' tk m' X'=>Pb b hr hg hs0 hsc rest (x::vars) _ m' X' fun h2 tk2 m2 X2=>hQ h2 tk2 m2 X2)
     show env.scope.names.lookup x=_
     rw [hsc,←Ad]
     exact Bw hc.2
end
end
section
open PySem PySem.W
variable {B:Bs} {F F':Fv} {C:Value} {W W':Wd} {σ σ':St} {s s':Shared}
open PyProof.Rows
structure Pk (B:Bs) (RC RN fI:Addr) (mk:SV) (fd fdR:FuncData):Prop where
 row:LX B RC RN fI mk fdR
 hf:DT B 95 fd
 hb:Al B fd [] 0 []
 gRow:B.mg "NamedRow" = some (.ref RC)
 gPlain:∃ v,B.mg "PLAIN" = some v
noncomputable def Dh:List Str×List Stmt:=EK true (AM 95).names ["PLAIN"] [] (Am 95)
noncomputable def HF (l:List Stmt):Option (List (Option Expr)×List Expr):=(A2 l).bind fun st=>(SJ st).bind Ml
noncomputable def PE:Bool:=match HF Dh.2 with
 | some (ks,vs)=>StrKeys ks&&(Nat.beq ks.length vs.length&&(Nat.ble ks.length 15&&(Nat.blt 0 ks.length&&vs.all (geE true Dh.1 ["PLAIN"] 8))))
 | none=>false
theorem TG:PE=true:=by decide +kernel
theorem I8 {l:List Stmt} {ks:List (Option Expr)} {vs:List Expr} (h:HF l=some (ks,vs)):∃ p q,l=[.Return (some (.Dict ks vs p)) q]:=AO h fun st hs h=>AO h fun e he h=>by
 obtain ⟨q,e1⟩:=O2 he
 obtain ⟨p,e2⟩:=I9 h
 exact ⟨p,q,by rw [B3 hs,e1,e2]⟩
theorem Qs (b:AK B) {A:Around} {env:Env} {h0:Heap} {m:SV} (X:FSt B env h0 s.heap m Dh.1) (row:∀ m,true=true→Pg B A env m)
  (glo:∀ x∈[("PLAIN" : Str)],env.kindOf x=some .globalImplicit∧∃ v,B.mg x=some v∨(B.mg x=none∧B.mb x=some v)) {Q:FP} {E:VP}
  (hQ:∀ h' tk d (kvs:List (Str×Value)),AY h0 h'→h0.get? d=none→kvs.length≤15→h'.DictOf (PySem.strKind P B.w) d kvs→Q (.ret (.ref d)) {s with heap:=h',toks:=tk}):Wx B A env Dh.2 Q E s:=by
 have hk:=TG
 unfold PE at hk
 cases hd:HF Dh.2 with
 | none=>rw [hd] at hk;cases hk
 | some p=>
  obtain ⟨ks,vs⟩:=p
  rw [hd] at hk
  simp only [Bool.and_eq_true] at hk
  obtain ⟨p,q,e⟩:=I8 hd
  rw [e]
  refine Wx.ret (PK hk.1 (AI hk.2.1) (fun q=>?_) (AF hk.2.2.1) (fun e he=>Mc b (row m) X.vars glo 8 e (List.all_eq_true.mp hk.2.2.2.2 e he)) _ _ _ X.fn fun h7 t7 kvs hg hl hm=>?_)
  ·have:=hk.2.2.2.1
   rw [q] at this;cases this
  ·refine hQ h7 t7 _ kvs (X.keep.trans hg) ?_ hl hm
   cases e:h0.get? s.heap.objs.size with
   | none=>rfl
   | some o=>exact absurd (Heap.lt_size (X.keep _ _ e)) (Nat.lt_irrefl _)
theorem N1 (b:AK B) (hlim:B.h0.NoLimit) {RC RN fI:Addr} {mk:SV} {fd fdR:FuncData} (K:Pk B RC RN fI mk fd fdR) {A:Around} {E:VP} {Q:VP} (hroom:A.depth + 2 < recursionLimit) (h0s:B.h0.StaysIn s.heap)
  (hQ:∀ h' tk d (kvs:List (Str×Value)),AY s.heap h'→s.heap.get? d=none→kvs.length≤15→h'.DictOf (PySem.strKind P B.w) d kvs→Q (.ref d) {s with heap:=h',toks:=tk}):wpAny (mdl B) A (call (.ref (B.fnA 95)) []) Q E s:=by
 obtain ⟨o,ho',hdat,hcls⟩:=K.hf.obj
 have hk0:fd.scope.kind=.function:=by rw [K.hf.scope];rfl
 refine wpAny_call (codeAny_call_def (fd:=fd) (body:=Am 95) (binds:=[]) (by omega) (h0s _ _ ho') hdat (hlim.keeps h0s) (K.hf.code.keeps h0s) K.hf.body (K.hb _ [] h0s rfl) ?_ ?_ (fun h₀ hns hk=>?_) (by rw [K.hf.scope];rfl) (by rw [K.hf.scope];rfl) hk0)
 ·rw [K.hf.scope]
  show ∀ z∈(AM 95).names,z.2≠.cell
  decide +kernel
 ·intro x hx
  exact absurd hx (by simp)
 have ko:∀ y,(callEnv fd s.heap.objs.size (B.fnA 95)).kindOf y=(AM 95).names.lookup y:=fun y=>by
  show fd.scope.names.lookup y=_
  rw [K.hf.scope]
 have X0:FSt B (callEnv fd s.heap.objs.size (B.fnA 95)) s.heap h₀ (fun x=>([]:List (Str×Value)).reverse.lookup x) []:=⟨⟨hk0,K.hf.glob,K.hf.bltn,hns,fun c o e=>hk c o (h0s c o e)⟩,hk,Heap.get?_none_of_le (Nat.le_refl _),fun x hx=>by cases hx⟩
 have glo:∀ x∈[("PLAIN" : Str)],(callEnv fd s.heap.objs.size (B.fnA 95)).kindOf x=some .globalImplicit∧∃ v,B.mg x=some v∨(B.mg x=none∧B.mb x=some v):=fun x hx=>by
  rw [List.mem_singleton.mp hx]
  obtain ⟨v,hv⟩:=K.gPlain
  exact ⟨(ko _).trans (by decide +kernel),v,.inl hv⟩
 have row:∀ m,true=true→Pg B (A.deeper (callEnv fd s.heap.objs.size (B.fnA 95))) (callEnv fd s.heap.objs.size (B.fnA 95)) m:=fun m zz e1 e2 e3 e4 p pos a1 a2 a3 a4=>
  XJ b hlim K.row (by show A.depth + 1 + 1 < _;omega) K.gRow ((ko _).trans (by decide +kernel)) a1 a2 a3 a4
 refine (Pb b row glo h0s (sc:=(AM 95).names) (by show fd.scope.names=_;rw [K.hf.scope]) (Am 95) [] _ _ X0 fun h1 t1 m1 X1=>?_).go
 exact Qs b X1 row glo fun h2 t2 d kvs hg hn hl hd=>hQ h2 t2 d kvs hg hn hl hd
end
section
open PySem PySem.W
variable {B:Bs} {s s':Shared}
open PyProof.Rows
noncomputable def IF (st:Stmt):Option (Str×Expr):=(Oc st).bind fun q=>(EI q.1).bind fun w=>B7 (nm w.1 == nm "self") (some (w.2.1,q.2))
theorem Lu {st:Stmt} {x:Str} {e:Expr} (h:IF st=some (x,e)):∃ p1 p2 pos,st=.Assign [.Attribute (.Name "self" p1) x p2] e pos:=AO h fun q hq h=>AO h fun w hw h=>by
 obtain ⟨ho,h⟩:=Bi h
 obtain ⟨p1,p2,e1,_⟩:=FH hw
 obtain ⟨pos,e2⟩:=J9 hq
 have h:=AB h
 exact ⟨p1,p2,pos,by rw [e2,e1,Aj (eq_of_beq ho),pI1 h,pI2 h]⟩
noncomputable def BC (loc all:List Str):List Str→List Stmt→List Str×List Stmt
 | ns,[]=>(ns,[])
 | ns,st::rest=>match IF st with
  | none=>(ns,st::rest)
  | some q=>(match geE false loc [] 8 q.2&&DB q.1 all with
   | true=>BC loc all (q.1::ns) rest
   | false=>(ns,st::rest))
theorem Ct {mA:SV} {all:List Str} {x:Str} {v:Value} (h:Within mA all) (hx:x∈all):Within (fun y=>if y=x then some v else mA y) all:=fun y hy=>by
 by_cases q:y=x
 ·rw [q];exact hx
 ·exact h y (by simpa [q] using hy)
section
variable {A:Around} {env:Env} {m:SV}
theorem Vn {loc glo:List Str} {n:Nat} {e:Expr} (h:geE false loc glo n e=true) {t:Expr} {p:Pos} {x:Str} {l:Nat}:swapsWith e (some (.Attribute t x p)) l env=pure false :=
 Hz h (fun zz zz zz e zz=>e▸rfl) (fun zz zz e zz zz=>e▸rfl) (fun zz zz zz zz zz e zz zz=>e▸rfl) (fun zz zz zz zz e zz zz=>e▸rfl) (fun zz zz zz zz zz e zz zz zz zz=>e▸rfl) (fun zz zz zz zz zz zz zz zz zz e zz zz zz=>e▸rfl)
theorem CQ {loc all ns:List Str} {st:Stmt} {rest:List Stmt}:BC loc all ns (st::rest)=match IF st with
  | none=>(ns,st::rest)
  | some q=>(match geE false loc [] 8 q.2&&DB q.1 all with
   | true=>BC loc all (q.1::ns) rest
   | false=>(ns,st::rest)):=rfl
theorem Gq (b:AK B) {h0:Heap} {L x dx Ck Nk:Addr} {mk:SV} (hC:ClsAt h0 Ck Nk mk) (hs0:B.h0.StaysIn h0) (I:InF B env L) (hm:m "self" = some (.ref x)) {loc all:List Str}
  (hl:∀ y∈loc,env.kindOf y=some .local∧∃ v,m y=some v) (hf:∀ n∈all,M0 mk n) (hz:all.length≤1000) {Q:FP} {E:VP} :
  ∀ (l:List Stmt) (ns:List Str) (s:Shared) (mA:SV),OSt h0 s.heap L x dx Ck m mA→Within mA all→
  (∀ h' tk mA',OSt h0 h' L x dx Ck m mA'→Within mA' all→(∀ y,y∉(BC loc all ns l).1→mA' y=mA y)→Wx B A env (BC loc all ns l).2 Q E {s with heap:=h',toks:=tk})→Wx B A env l Q E s
 | l,ns,s,mA,X,hw,hQ=>by
  have stop:BC loc all ns l=(ns,l)→Wx B A env l Q E s:=fun e=>by
   have:=hQ s.heap s.toks mA X hw fun zz zz=>rfl
   rw [e] at this
   exact this
  cases l with
  | nil=>exact stop rfl
  | cons st rest=>
   cases hs:IF st with
   | none=>exact stop (by rw [CQ,hs])
   | some xe=>
    obtain ⟨z,e⟩:=xe
    cases hc:(geE false loc [] 8 e&&DB z all) with
    | false=>exact stop (by rw [CQ,hs];dsimp only;rw [hc])
    | true=>
     rw [CQ,hs] at hQ
     dsimp only at hQ
     rw [hc] at hQ
     simp only [Bool.and_eq_true] at hc
     obtain ⟨p1,p2,pos,rfl⟩:=Lu hs
     have hz':=AP hc.2
     refine Wx.cons (OSt.attrG X hC hs0 I hm (fun Q hq=>Mc b (fun q=>by cases q) hl (fun zz q=>by cases q) 8 _ hc.1 s Q _ (X.fn1 I hs0) hq) (Vn hc.1) (hf z hz') hw hz fun v h1 tk1 X1=>?_)
     refine Gq b hC hs0 I hm hl hf hz rest (z::ns) _ _ X1 (Ct hw hz') fun h2 tk2 mA2 X2 w2 k2=>hQ h2 tk2 mA2 X2 w2 fun y hy=>(k2 y hy).trans ?_
     have:y≠z:=fun q=>hy (by rw [q];exact attr_mem loc all rest (z::ns) (.head _))
     show (if y=z then _ else mA y)=_
     rw [if_neg this]
where
 attr_mem (loc all:List Str):∀ (l:List Stmt) (ns:List Str) {z:Str},z∈ns→z∈(BC loc all ns l).1
 | [],ns,z,h=>h
 | st::rest,ns,z,h=>by
  rw [CQ]
  cases IF st with
  | none=>exact h
  | some q=>
   dsimp only
   cases geE false loc [] 8 q.2&&DB q.1 all with
   | true=>exact attr_mem loc all rest _ (.tail _ h)
   | false=>exact h
theorem OSt.attrR {h0:Heap} {L x dx Ck Nk:Addr} {mA mk:SV} (X:OSt h0 s.heap L x dx Ck m mA) (hC:ClsAt h0 Ck Nk mk) (hs0:B.h0.StaysIn h0) {name:Str} {e:Expr} {p1 p2 pos:Pos} {Q:FP} {E:VP} {ns:List Str} {R:Value→Heap→Prop}
  (I:InF B env L) (hm:m "self" = some (.ref x)) (he:∀ (Q:VP),(∀ v h' tk,R v h'→AY s.heap h'→Q v {s with heap:=h',toks:=tk})→wpAny (mdl B) A (eval e env) Q E s) (hsw:swapsWith e (some (.Attribute (.Name "self" p1) name p2)) pos.line env=pure false)
  (hf:M0 mk name) (hw:Within mA ns) (hz:ns.length≤1000)
  (hQ:∀ v h1 h' tk,R v h1→AY s.heap h1→OSt (hideAll h1 [x,dx,L]) h' L x dx Ck m (fun y=>if y=name then some v else mA y)→Q .next {s with heap:=h',toks:=tk}) :
  wpAny (mdl B) A (exec (.Assign [.Attribute (.Name "self" p1) name p2] e pos) env) Q E s:=by
 refine plainObj_wpAny_Assign_Attribute (he _ fun v h1 tk hr hg=>?_) hsw
 refine Vv.name ((X.grew hg).fn1 I hs0) I.self hm (by decide) _ _ _ rfl fun tk1=>?_
 exact OSt.store (s:={s with heap:=h1,toks:=tk1}) (X.grew hg).rebase (hC.keeps (X.grew hg).base) hf.sa hf.at_ hf.ob hw hz fun h' tk2 X2=>hQ v h1 h' tk2 hr hg X2
end
end
section
open PySem PySem.W
variable {B:Bs} {s s':Shared}
open PyProof.Rows
theorem Bg {A:Around} {f:Value} {args:List (Bool×Sem Value)} {Q:Args→Shared→Prop} {E:VP} (hany:args.any (·.1)=false)
  (h:wpAny (mdl B) A (spliced args) (fun vs s'=>Q ⟨vs,[]⟩ s') E s):wpAny (mdl B) A (evalArgs f true args []) Q E s:=by
 cases args with
 | nil=>
  unfold evalArgs
  show wpAny _ A (spliced []>>=_) Q E s
  exact AA (AH h (fun vs s' h'=>AA (AD (AG (AA (AD (AA (AD (AD h'))))))) ) fun zz zz x=>x)
 | cons a rest=>
  obtain ⟨c,x⟩:=a
  cases c with
  | true=>simp at hany
  | false=>exact Calls.evalArgs_plain h
theorem call_cls {A:Around} {env:Env} {pos:Pos} {es:List Expr} {h₀:Heap} {Ck Nk:Addr} {mk:SV} {Q:VP} {E:VP} (X:ClsAt h₀ Ck Nk mk) (hany:(backTo pos (starEach es env)).any (·.1)=false)
  (h:wpAny (mdl B) A (spliced (backTo pos (starEach es env))) (fun vs s₁=>AY h₀ s₁.heap∧wpAny (mdl B) A (call (.ref Ck) vs) Q E s₁) E s) :
  wpAny (mdl B) A (callWith pos (.ref Ck) [] (backTo pos (starEach es env)) []) Q E s:=by
 have hst:((backTo pos (starEach es env)).any (fun x=>x.fst) || ([]:List (Option Str×Sem Value)).any fun x=>x.fst.isNone)=false:=by rw [hany];rfl
 unfold callWith
 refine AA (AG (Bg hany (AH h (fun vs s₁ h₁=>?_) fun zz zz x=>x)))
 obtain ⟨hh,g,d,t,os⟩:=s₁
 obtain ⟨nm,q,bs,sn,sub,col,dd,k0,k1,k2,k3,k5,hC⟩:=(X.keeps h₁.1).obj
 have f1:=tc_lookup
 have hT:(⟨hh,g,d,t,os⟩:Shared).TypeIs (.ref Ck) "type":=⟨_,hC,rfl⟩
 refine AA (wpAny_standAt ?_)
 show wpAny _ _ (keeperOf (.ref Ck)>>=_) _ _ _
 unfold keeperOf specialOf
 repeat (any_goals (first | assumption | with_reducible refine wpAny_loadPart_at hC ?_ | with_reducible refine wpAny_load' hC ?_ | wp_step))
 rw [if_pos (by rfl),hst]
 show wpAny _ _ (call (.ref Ck) vs []>>=fun r=>do PySem.holding [r] point;pure r) _ _ _
 exact AA (AH h₁.2 (fun r s' hr=>AA (AG (wpAny_point (AD hr)))) fun zz zz x=>x)
structure InitOf (B:Bs) (i:Nat) (Ck Nk fI:Addr) (mk:SV) (fd:FuncData) (all:List Str):Prop where
 cls:ClsAt B.h0 Ck Nk mk
 ini:mk "__init__" = some (.ref fI)
 mf:CD B i 0 fI fd
 free:∀ n∈all,M0 mk n
 len:all.length≤1000
noncomputable def C3 (i:Nat) (names:List Str):Bool :=
 (AR i 0).names.all (fun z=>!BG (some z.2) .cell)&&((!DB "self" names&&(("self" : Str)::names).all (fun y=>BG (As (nm y) (AR i 0).names) .local))&&(!(AR i 0).isCoroutine&&(!(AR i 0).isGenerator&&MW (AR i 0).kind)))
theorem Ih {y:Str} {v:Value}:∀ {l:List (Str×Value)},l.lookup y=some v→y∈l.map (·.1):=by
 intro l
 induction l with
 | nil=>
  intro h
  cases h
 | cons zp l ih=>
  obtain ⟨z,u⟩:=zp
  intro h
  rw [List.lookup_cons] at h
  cases q:y == z with
  | true=>rw [eq_of_beq q];exact .head _
  | false=>rw [q] at h;exact .tail _ (ih h)
theorem GQ {x:Str} {l:List Str} (h:x∈l):DB x l=true:=List.any_eq_true.mpr ⟨x,h,BEq.rfl⟩
theorem Ff {k:NameKind} (h:BG (some k) .cell=false):k≠.cell:=fun q=>by rw [q] at h;cases h
theorem E6 (hlim:B.h0.NoLimit) {A:Around} {i:Nat} {Ck Nk fI:Addr} {mk:SV} {fd:FuncData} {all:List Str} (K:InitOf B i Ck Nk fI mk fd all) {names:List Str} (st:C3 i names=true) {vals:List Value} {vs:List Value} (hv:vs.length=names.length)
  (hroom:A.depth + 1 < recursionLimit) (h0s:B.h0.StaysIn s.heap) (hb:∀ x (s':Shared),B.h0.StaysIn s'.heap→BindsTo s' fd ⟨.ref x::vals,[]⟩ ((("self" : Str),.ref x)::names.zip vs))
  {Q:VP} {E:VP}
  (hbody:∀ x dx L h₀ tk (A':Around) (E':VP) env m,A'.depth=A.depth + 2→InF B env L→(∀ y,m y=((("self" : Str),.ref x)::names.zip vs).reverse.lookup y)→m "self" = some (.ref x)→env.scope.names=(AR i 0).names→(∀ y∈names,env.kindOf y=some .local∧∃ v,m y=some v)→
   OSt s.heap h₀ L x dx Ck m (fun zz=>none)→Wx B A' env (Aq i 0) (fun f s'=>f=.next∧Q (.ref x) s') E' {s with heap:=h₀,toks:=tk}) :
  wpAny (mdl B) A (call (.ref Ck) vals) Q E s:=by
 unfold C3 at st
 simp only [Bool.and_eq_true,Bool.not_eq_true'] at st
 obtain ⟨s1,⟨s0,s2⟩,s3,s4,s5⟩:=st
 have hkind:∀ y∈("self" : Str)::names,(AR i 0).names.lookup y=some .local:=fun y hy=>by
  rw [←Ad]
  exact Bw (List.all_eq_true.mp s2 y hy)
 have hz:∀ x,∀ z∈(("self" : Str),Value.ref x)::names.zip vs,z.1∈("self" : Str)::names:=fun x z hz=>by
  rcases List.mem_cons.mp hz with rfl | hz
  ·exact .head _
  ·exact .tail _ (List.of_mem_zip (a:=z.1) (b:=z.2) hz).1
 have hk5:(AR i 0).kind=.function:=by
  cases q:(AR i 0).kind<;>first | rfl | (rw [q] at s5;cases s5)
 refine MN (i:=i) (j:=0) (binds:=fun x=>(("self" : Str),.ref x)::names.zip vs) hlim hroom h0s K.cls K.ini K.mf hb (fun z hz=>Ff (by simpa using List.all_eq_true.mp s1 z hz)) (fun x z h=>hkind _ (hz x z h)) s3 s4 hk5
  fun x dx L h₀ tk A' E' hd X=>?_
 have ko:∀ y,(callEnv fd L fI).kindOf y=(AR i 0).names.lookup y:=fun y=>by
  show fd.scope.names.lookup y=_
  rw [K.mf.scope]
 have bound:∀ y∈("self" : Str)::names,∃ v,((("self" : Str),Value.ref x)::names.zip vs).reverse.lookup y=some v:=fun y hy=>mem_lookup (by
  rw [List.map_reverse,List.mem_reverse,List.map_cons,List.map_fst_zip (by omega)]
  exact hy)
 refine (hbody x dx L h₀ tk A' E' (callEnv fd L fI) _ hd ⟨by show fd.scope.kind=_;rw [K.mf.scope];exact hk5,K.mf.glob,K.mf.bltn,rfl,(ko _).trans (hkind _ (.head _))⟩ (fun zz=>rfl) ?_ (by show fd.scope.names=_;rw [K.mf.scope]) (fun y hy=>⟨(ko _).trans (hkind _ (.tail _ hy)),bound y (.tail _ hy)⟩) X).go
 show ((("self" : Str),Value.ref x)::names.zip vs).reverse.lookup ("self" : Str)=some (.ref x)
 rw [List.reverse_cons,List.lookup_append]
 cases q:(names.zip vs).reverse.lookup ("self" : Str) with
 | none=>simp
 | some v=>
  have:=Ih q
  rw [List.map_reverse,List.mem_reverse,List.map_fst_zip (by omega)] at this
  exact absurd (GQ this) (by rw [s0];decide)
end
section
open PySem PySem.W
variable {B:Bs} {s s':Shared}
open PyProof.Rows
structure H3 (B:Bs) (f:Addr) (fd:FuncData) (body:List Stmt) (sc:Scope):Prop where
 obj:∃ o,B.h0.get? f=some o∧o.data=.func fd∧o.cls=.type "function"
 body:fd.body=.stmts body
 scope:fd.scope=sc
 glob:fd.globals=mainGlobals
 bltn:fd.builtins=builtinsNs
 code:B.h0.CodeRec fd.code fd.qualname
theorem DT.hand {i:Nat} {fd:FuncData} (H:DT B i fd):H3 B (B.fnA i) fd (Am i) (AM i):=⟨H.obj,H.body,H.scope,H.glob,H.bltn,H.code⟩
theorem CD.hand {i j:Nat} {f:Addr} {fd:FuncData} (H:CD B i j f fd):H3 B f fd (Aq i j) (AR i j):=⟨H.obj,H.body,H.scope,H.glob,H.bltn,H.code⟩
noncomputable def Fp (sc:Scope) (names:List Str):Bool :=
 sc.names.all (fun z=>!BG (some z.2) .cell)&&(names.all (fun y=>BG (As (nm y) sc.names) .local)&&(!sc.isCoroutine&&(!sc.isGenerator&&MW sc.kind)))
structure Xe (B:Bs) (fd:FuncData) (A:Around) (env:Env) (names:LK) (h h₀:Heap) (m:SV) (A':Around):Prop where
 sc:env.scope.names=names
 fn:Fn1 B env h₀ m
 keep:AY h h₀
 new:h.get? env.locals=none
 dep:A'.depth=A.depth + 1
 frame:env.frame=some env.locals
 code:env.code=fd.code
 qual:env.qual=fd.qualname++".<locals>."
 cells:env.cells=fd.closure
 units:A'.units=A.units + 3
 frames:A'.frames=A.frames.map (env::·)
 handled:A.handled=none→A'.handled=none
theorem Dj (hlim:B.h0.NoLimit) {A:Around} {f:Addr} {fd:FuncData} {body:List Stmt} {sc:Scope} (H:H3 B f fd body sc) {names:List Str} (st:Fp sc names=true) {vals vs:List Value} (hv:vs.length=names.length)
  (hroom:A.depth < recursionLimit) (h0s:B.h0.StaysIn s.heap) (hb:BindsTo s fd ⟨vals,[]⟩ (names.zip vs)) {Q:VP} {E:VP}
  (hbody:∀ h₀ tk env m A' E',Xe B fd A env sc.names s.heap h₀ m A'→(∀ y,m y=(names.zip vs).reverse.lookup y)→Wx B A' env body (fun fl s'=>Q (match fl with | .ret v=>v | _=>.none) s') E' {s with heap:=h₀,toks:=tk}) :
  wpAny (mdl B) A (call (.ref f) vals) Q E s:=by
 unfold Fp at st
 simp only [Bool.and_eq_true,Bool.not_eq_true'] at st
 obtain ⟨s1,s2,s3,s4,s5⟩:=st
 have hk5:sc.kind=.function:=by
  cases q:sc.kind<;>first | rfl | (rw [q] at s5;cases s5)
 obtain ⟨o,ho',hdat,hcls⟩:=H.obj
 refine wpAny_call (codeAny_call_def (fd:=fd) (body:=body) (binds:=names.zip vs) hroom (h0s _ _ ho') hdat (hlim.keeps h0s) (H.code.keeps h0s) H.body hb (fun z hz=>Ff (by rw [H.scope] at hz;simpa using List.all_eq_true.mp s1 z hz)) (fun z hz=>?_) (fun h₀ hns hk=>?_) (by rw [H.scope];exact s3) (by rw [H.scope];exact s4) (by rw [H.scope];exact hk5))
 ·rw [H.scope,←Ad]
  exact Bw (List.all_eq_true.mp s2 _ (List.of_mem_zip (a:=z.1) (b:=z.2) hz).1)
 ·refine (hbody h₀ _ (callEnv fd s.heap.objs.size f) _ (A.deeper (callEnv fd s.heap.objs.size f)) _ ⟨by show fd.scope.names=_;rw [H.scope],⟨by show fd.scope.kind=_;rw [H.scope];exact hk5,H.glob,H.bltn,hns,fun c o e=>hk c o (h0s c o e)⟩,hk,Heap.get?_none_of_le (Nat.le_refl _),rfl,rfl,rfl,rfl,rfl,rfl,rfl,fun h=>h⟩ (fun zz=>rfl)).go
end
section
open PySem PySem.W
variable {B:Bs} {s s':Shared}
open PyProof.Rows
theorem CT {all:List Str}:Within (fun zz=>none) all:=fun y h=>absurd rfl h
theorem Nx (b:AK B) (hlim:B.h0.NoLimit) {A:Around} {i:Nat} {Ck Nk fI:Addr} {mk:SV} {fd:FuncData} {all:List Str} (K:InitOf B i Ck Nk fI mk fd all) {names:List Str} (st:C3 i names=true) {vals ds:List Value} (hv:(vals++ds).length=names.length)
  (he:(BC names all [] (Aq i 0)).2=[]) (hroom:A.depth + 1 < recursionLimit) (h0s:B.h0.StaysIn s.heap) (hb:Al B fd ("self"::names) (vals.length + 1) ds) {Q:VP} {E:VP}
  (hQ:∀ h' tk x,AY s.heap h'→Q (.ref x) {s with heap:=h',toks:=tk}):wpAny (mdl B) A (call (.ref Ck) vals) Q E s:=by
 refine E6 hlim K st hv hroom h0s (fun x s' h=>hb s' (.ref x::vals) h (by simp)) fun x dx L h₀ tk A' E' env m hd I hm hself zz hl X=>?_
 refine Gq b (K.cls.keeps h0s) h0s I hself hl K.free K.len (Aq i 0) [] _ _ X CT fun h1 tk1 mA1 X1 zz zz=>?_
 rw [he]
 exact Wx.nil ⟨rfl,hQ h1 tk1 x X1.keep⟩
structure CB (B:Bs) (SC SN fI fD RC RN fR:Addr) (mkS mkR:SV) (fdI fdD fdR:FuncData):Prop where
 sco:InitOf B 85 SC SN fI mkS fdI ["outer","owner","rows"]
 row:InitOf B 84 RC RN fR mkR fdR ["name","entry","spot","owner","is_checked","is_used"]
 bI:Al B fdI ["self","outer","owner"] 2 [.none]
 bR:Al B fdR ["self","name","entry","spot","owner","is_checked"] 6 []
 mf:CD B 85 1 fD fdD
 bD:Al B fdD ["self","name","entry","spot","is_checked"] 4 [.bool false]
 dec:mkS "declare" = some (.ref fD)
 ga:mkS "__getattribute__" = none∧mkS "__getattr__" = none
 gRow:B.mg "ScopeRow" = some (.ref RC)
theorem HP:C3 84 ["name","entry","spot","owner","is_checked"]=true∧C3 85 ["outer","owner"]=true:=by constructor<;>decide +kernel
theorem SI:(BC ["name","entry","spot","owner","is_checked"] ["name","entry","spot","owner","is_checked","is_used"] [] (Aq 84 0)).2=[]:=by kernel_rfl
structure JW (B:Bs) (SC:Addr) (h0 hh:Heap) (sc dx rd:Addr) (ks:List Str):Prop where
 inst:∃ mS,C9 hh sc SC dx mS∧mS "rows" = some (.ref rd)∧mS "owner" = some .none∧mS "declare" = none
 dict:∃ kvs:List (Str×Value),hh.DictOf (PySem.strKind P B.w) rd kvs∧kvs.map (·.1)=ks
 new:h0.get? rd=none
 sys:(rd == sysModules)=false
 apart:sc≠rd∧dx≠rd
noncomputable abbrev La (rd:Addr) (h h':Heap):Prop:=∀ c o,c≠rd→h.get? c=some o→h'.get? c=some o
theorem IQ {A:Around} {env:Env} {h:Heap} {pos:Pos}:∀ {es:List Expr},(∀ e∈es,Ai e∧Pv B A env h e (fun zz=>True))→∀ (s:Shared) (Q:List Value→Shared→Prop) (E:VP),s.heap=h→
  (∀ vs tk,vs.length=es.length→Q vs {s with toks:=tk})→wpAny (mdl B) A (spliced (backTo pos (starEach es env))) Q E s:=by
 intro es
 induction es with
 | nil=>
  intro _ s Q E hs hQ
  exact AD (hQ [] s.toks rfl)
 | cons e es ih=>
  intro he s Q E hs hQ
  obtain ⟨hp,pv⟩:=he e (.head _)
  rw [AL hp]
  show wpAny (mdl B) A (do
   let v←eval e env
   let here←(pure [v]:Sem (List Value))
   return here++(←PySem.holding here (spliced (backTo pos (starEach es env))))) Q E s
  refine AA (pv s _ E hs fun v tk zz=>?_)
  refine AA (AD (AA (AG ?_)))
  exact ih (fun x hx=>he x (.tail _ hx)) {s with toks:=tk} _ E hs fun vs tk2 hl=>AD (hQ (v::vs) tk2 (by simp [hl]))
theorem Vv.any {A:Around} {env:Env} {h:Heap} {e:Expr} {v:Value} (x:Vv B A env h e v):Pv B A env h e (fun zz=>True):=fun s Q E hs hQ=>x s Q E hs fun tk=>hQ v tk trivial
theorem NH:Fp (AR 85 1) ["self","name","entry","spot","is_checked"]=true:=by decide +kernel
theorem LA (b:AK B) (hlim:B.h0.NoLimit) {SC SN fI fD RC RN fR:Addr} {mkS mkR:SV} {fdI fdD fdR:FuncData} (U:CB B SC SN fI fD RC RN fR mkS mkR fdI fdD fdR) {A:Around} {E:VP} {Q:VP}
  (hroom:A.depth + 2 < recursionLimit) (h0s:B.h0.StaysIn s.heap) {h0:Heap} {sc dx rd:Addr} {ks:List Str} {x:Str} {t:Tok} {ve vi:Value} (S:JW B SC h0 s.heap sc dx rd ks) (hx:x∉ks) (hx2:(x == ("_" : Str))=false) (hz:ks.length≤1000)
  (hQ:∀ h' tk,La rd s.heap h'→JW B SC h0 h' sc dx rd (ks++[x])→Q .none {s with heap:=h',toks:=tk}) :
  wpAny (mdl B) A (call (.ref fD) [.ref sc,.str x t,ve,vi]) Q E s:=by
 refine Dj hlim U.mf.hand NH (vs:=[.ref sc,.str x t,ve,vi,.bool false]) rfl (by omega) h0s (U.bD _ [.ref sc,.str x t,ve,vi] h0s rfl) fun h₀ tk env m A' E' V hm=>?_
 have X:=V.fn
 have ko:∀ y,env.kindOf y=(AR 85 1).names.lookup y:=fun y=>by
  show env.scope.names.lookup y=_
  rw [V.sc]
 have loc:∀ {n:Str} {v:Value},(AR 85 1).names.lookup n=some .local→([("self" : Str),"name","entry","spot","is_checked"].zip [Value.ref sc,.str x t,ve,vi,.bool false]).reverse.lookup n=some v→(n == ("__debug__" : Str))=false→∀ {h:Heap} (p:Pos),Fn1 B env h m→Vv B A' env h (.Name n p) v :=
  fun k1 k2 k3 zz p X=>Vv.name X ((ko _).trans k1) ((hm _).trans k2) k3
 obtain ⟨mS,i1,r1,o1,d1⟩:=S.inst
 obtain ⟨kvs,D,hks⟩:=S.dict
 have hk:=V.keep
 have i2:=i1.at (h':=h₀) (hk _) (hk _)
 have D2:h₀.DictOf (PySem.strKind P B.w) rd kvs:=by obtain ⟨o,es,ep,e,r⟩:=D;exact ⟨o,es,ep,hk _ _ e,r⟩
 have attr:∀ {n:Str} {v:Value},n∈([("outer" : Str),"owner","rows"])→mS n=some v→handedOut v=pure v→∀ {h:Heap},Fn1 B env h m→C9 h sc SC dx mS→∀ p q,Vv B A' env h (.Attribute (.Name "self" p) n q) v:=fun hn hv hh zz X i p q=>
  Vv.attr (loc rfl rfl (by decide) p X) (U.sco.cls.keeps X.stay) i.inst U.ga.1 (U.sco.free _ hn).at_ (U.sco.free _ hn).ob hv hh
 have nm1:∀ {h:Heap} (p:Pos),Fn1 B env h m→Vv B A' env h (.Name "name" p) (.str x t):=fun p X=>loc rfl rfl (by decide) p X
 refine Wx.cons (M4 (H4 (s:={s with heap:=h₀,toks:=_}) (res:=false) rfl (Vv.p (nm1 _ X)) Pv.str (fun v c s' Q' hv hc hs hq=>?_) fun tk1=>?_))
 ·subst hv
  obtain ⟨t',rfl⟩:=hc
  refine eq_str ?_
  rw [hx2]
  exact hq s'.toks
 rw [if_neg (by decide)]
 refine EM ?_
 have hv0:valueAt kvs x=none:=by
  unfold valueAt
  rw [Option.map_eq_none_iff,List.find?_eq_none]
  intro p hp q
  exact hx (by rw [←hks];have:=of_decide_eq_true q;rw [←this];exact List.mem_map.mpr ⟨p,hp,rfl⟩)
 refine Wx.cons (M4 (H4 (s:={s with heap:=h₀,toks:=tk1}) (res:=false) rfl (Vv.p (nm1 _ X)) (Vv.p (attr (.tail _ (.tail _ (.head _))) r1 rfl X i2 _ _)) (fun v c s' Q' hv hc hs hq=>?_) fun tk2=>?_))
 ·subst hv hc
  refine wpAny_in_of (knd:=PySem.strKind P B.w) (k:=x) (key:=.str x t) (by show Value.isStrOf x (.str x t)=true;simp [Value.isStrOf]) S.sys (by rw [hs];exact D2.mapOf) ?_
  rw [hv0]
  exact hq _
 rw [if_neg (by decide)]
 refine EM ?_
 refine Wx.cons (wpAny_Assign_Subscript (wpAny_Call_ofName (Vv.global b X ((ko _).trans rfl) (.inl U.gRow) (by decide) _ _ _ rfl fun tk3=>?_)) rfl)
 have args:∀ e∈[Expr.Name "name" ⟨0,0,0,0⟩],True:=fun zz zz=>trivial
 refine call_cls (h₀:=h₀) (U.row.cls.keeps X.stay) rfl (IQ (h:=h₀) (fun e he=>?_) _ _ _ rfl fun vs tk4 hl=>?_)
 ·simp only [List.mem_cons,List.not_mem_nil,or_false] at he
  rcases he with rfl | rfl | rfl | rfl | rfl
  ·exact ⟨trivial,Vv.any (nm1 _ X)⟩
  ·exact ⟨trivial,Vv.any (loc rfl rfl (by decide) _ X)⟩
  ·exact ⟨trivial,Vv.any (loc rfl rfl (by decide) _ X)⟩
  ·exact ⟨trivial,Vv.any (attr (.tail _ (.head _)) o1 rfl X i2 _ _)⟩
  ·exact ⟨trivial,Vv.any (loc rfl rfl (by decide) _ X)⟩
 refine ⟨AY.refl,Nx (s:={s with heap:=h₀,toks:=tk4}) b hlim U.row HP.1 (vals:=vs) (ds:=[]) (by rw [List.append_nil];exact hl) SI (by have:=V.dep;omega) X.stay (by rw [hl];exact U.bR) fun h1 tk5 x1 hg=>?_⟩
 have X1:=X.grew hg
 have i3:=i2.at (h':=h1) (hg _) (hg _)
 have D3:h1.DictOf (PySem.strKind P B.w) rd kvs:=by obtain ⟨o,es,ep,e,r⟩:=D2;exact ⟨o,es,ep,hg _ _ e,r⟩
 refine attr (.tail _ (.tail _ (.head _))) r1 rfl X1 i3 _ _ _ _ _ rfl fun tk6=>nm1 _ X1 _ _ _ rfl fun tk7=>?_
 have hl2:kvs.length=ks.length:=by rw [←hks,List.length_map]
 refine wpAny_setItem_pairs (k:=x) (knd:=PySem.strKind P B.w) (by show Value.isStrOf x (.str x t)=true;simp [Value.isStrOf]) D3 (fun h2 D4 sb=>?_) (by rw [hl2,sizeLine_eq];omega)
 have gb:La rd s.heap h2:=fun c o n e=>(sb.2 c n).trans (hg c o (hk c o e))
 refine Wx.nil (hQ h2 _ gb ⟨⟨mS,i1.at (fun o e=>gb _ _ S.apart.1 e) (fun o e=>gb _ _ S.apart.2 e),r1,o1,d1⟩,⟨_,D4,?_⟩,S.new,S.sys,S.apart⟩)
 rw [stored_absent hv0,List.map_append,hks]
 rfl
end
section
open PySem PySem.W
variable {B:Bs} {s s':Shared}
open PyProof.Rows
theorem OSt.there {h0 hh:Heap} {L x dx C:Addr} {m mA:SV} (X:OSt h0 hh L x dx C m mA):(∃ o,hh.get? x=some o)∧(∃ o,hh.get? L=some o)∧∃ o,hh.get? dx=some o:=by
 obtain ⟨o,e,c,n,r⟩:=X.inst
 refine ⟨⟨o,e⟩,?_,?_⟩
 ·obtain ⟨oL,_,_,e1,_⟩:=X.ns;exact ⟨oL,e1⟩
 ·have hd:=X.dict o e
  rcases r with r | ⟨dx',h1,h2,h3⟩
  ·rw [r.1] at hd;cases hd
  ·obtain rfl:dx'=dx:=AB (h1.symm.trans hd)
   obtain ⟨o',_,_,e',_⟩:=h3
   exact ⟨o',e'⟩
theorem CU {h:Heap} {c:Addr} (h1:∃ o,h.get? c=some o):c≠h.objs.size:=fun q=>by
 obtain ⟨o,e⟩:=h1
 rw [q] at e
 exact Nat.lt_irrefl _ (Heap.lt_size e)
theorem Ig (b:AK B) (hlim:B.h0.NoLimit) {SC SN fI fD RC RN fR:Addr} {mkS mkR:SV} {fdI fdD fdR:FuncData} (U:CB B SC SN fI fD RC RN fR mkS mkR fdI fdD fdR) (hsys:∃ o,B.h0.get? sysModules=some o) {A:Around} {E:VP} {Q:VP}
  (hroom:A.depth + 1 < recursionLimit) (h0s:B.h0.StaysIn s.heap) {vo:Value} (hQ:∀ h' tk x dx rd,AY s.heap h'→s.heap.get? x=none→s.heap.get? dx=none→JW B SC s.heap h' x dx rd []→Q (.ref x) {s with heap:=h',toks:=tk}) :
  wpAny (mdl B) A (call (.ref SC) [vo]) Q E s:=by
 refine E6 hlim U.sco HP.2 (vs:=[vo,.none]) rfl hroom h0s (fun x s' h=>U.bI s' [.ref x,vo] h rfl) fun x dx L h₀ tk A' E' env m hd I hm hself zz hl X=>?_
 have hC:=U.sco.cls.keeps h0s
 have fr:=fun n hn=>U.sco.free n hn
 have nv:∀ {n:Str} {v:Value},env.kindOf n=some .local→m n=some v→(n == ("__debug__" : Str))=false→∀ {h:Heap} (p:Pos),Fn1 B env h m→Vv B A' env h (.Name n p) v:=fun k1 k2 k3 zz p X=>Vv.name X k1 k2 k3
 refine Wx.cons (OSt.attrP X hC h0s I hself (Vv.p (nv (hl _ (.head _)).1 ((hm _).trans rfl) (by decide) _ (X.fn1 I h0s))) rfl (fr _ (.head _)) Within.nil (by decide) fun w1 h1 tk1 e1 X1=>?_)
 refine Wx.cons (OSt.attrP (s:={s with heap:=h1,toks:=tk1}) X1 hC h0s I hself (Vv.p (nv (v:=.none) (hl _ (.tail _ (.head _))).1 ((hm _).trans rfl) (by decide) _ (X1.fn1 I h0s))) rfl (fr _ (.tail _ (.head _))) (Within.cons _ _ Within.nil) (by decide) fun w2 h2 tk2 e2 X2=>?_)
 refine Wx.cons (OSt.attrR (s:={s with heap:=h2,toks:=tk2}) (R:=fun v h=>v=.ref h2.objs.size∧h.DictOf (PySem.strKind P B.w) h2.objs.size []) X2 hC h0s I hself (fun Q hq=>wpAny_Dict_empty (hq _ _ tk2 ⟨rfl,?_⟩ AY.push)) rfl (fr _ (.tail _ (.tail _ (.head _)))) (Within.cons _ _ (Within.cons _ _ Within.nil)) (by decide) fun w3 h3 h4 tk4 e3 hg X4=>Wx.nil ⟨rfl,?_⟩)
 ·exact Heap.dictOf_iff.mpr ⟨_,Heap.get?_push_size _ rfl,#[],0,⟨rfl,rfl,rfl⟩,rfl,(fun e he=>by simp at he),.nil,List.nodup_nil⟩
 ·obtain ⟨rfl,D⟩:=e3
  have th:=X2.there
  have n1:x≠h2.objs.size:=CU th.1
  have n2:L≠h2.objs.size:=CU th.2.1
  have n3:dx≠h2.objs.size:=CU th.2.2
  have kp:AY s.heap h4:=fun c o e=>X4.keep c o ((X2.grew hg).base c o e)
  have old:s.heap.get? h2.objs.size=none:=by
   cases e:s.heap.get? h2.objs.size with
   | none=>rfl
   | some o=>exact absurd (Heap.lt_size (X2.keep _ _ e)) (Nat.lt_irrefl _)
  refine hQ h4 tk4 x dx h2.objs.size kp X2.new X2.newD ⟨⟨_,X4.instD,if_pos rfl,?_,?_⟩,⟨[],?_,rfl⟩,old,?_,n1,n3⟩
  ·rw [if_neg (by decide),if_pos rfl,e2]
  ·rw [if_neg (by decide),if_neg (by decide),if_neg (by decide)]
  ·obtain ⟨o,es,ep,e,r⟩:=D
   refine ⟨o,es,ep,X4.keep _ _ (hideAll_get _ e ?_),r⟩
   simp only [List.mem_cons,List.not_mem_nil,or_false,not_or]
   exact ⟨Ne.symm n1,Ne.symm n3,Ne.symm n2⟩
  ·obtain ⟨o,e⟩:=hsys
   cases q:(h2.objs.size == sysModules) with
   | false=>rfl
   | true=>
    rw [eq_of_beq q,h0s _ _ e] at old;cases old
end
section
open PySem PySem.W
variable {B:Bs} {s s':Shared}
open PyProof.Rows
noncomputable abbrev W00:Wd:=⟨[],[]⟩
theorem Iq (b:AK B) {A:Around} {env:Env} (hh:A.handled=none) {x:Str} {p:Pos} {body:List Stmt} {k:ItK} (hk:k.isE=false) {ds:List D} {Inv:Nat→Shared→Prop} {Q:FP}
  (hinv:∀ i s,Inv i s→k.At i s.heap∧k.Rds B W00 s.heap ds)
  (hturn:∀ i d v s h1 t1,ds[i]? = some d→Inv i s→AU k.ex s.heap h1→k.At (i + 1) h1→k.Rds B W00 h1 ds→Rd B W00 h1 d v→
   wpAny (mdl B) A (storeName env x v) (fun zz s2=>Wx B A env body (fun f s3=>f=.next∧Inv (i + 1) s3) (fun zz zz=>False) s2) (fun zz zz=>False) {s with heap:=h1,toks:=t1})
  (hend:∀ s h' tk,Inv ds.length s→AU k.ex s.heap h'→Q .next {s with heap:=h',toks:=tk}) :
  ∀ (n i:Nat) (s:Shared),n + i=ds.length→Inv i s→codeAny (mdl B) A (.forLoop (.Name x p) (.ref k.I) body [] env) (fun r s'=>match r with | .ok f=>Q f s' | .error e=>False) s
 | 0,i,s,hn,hI=>by
  obtain ⟨at_,rd⟩:=hinv i s hI
  have hi:i=k.len:=by have:=rd.length;omega
  have hi2:i=ds.length:=by omega
  subst hi
  refine codeAny_of_tree ?_
  show wpAny _ A ((forTurn (.Name x p) (.ref k.I) body [] env).onRaise (fun x=>do noteFrame x env;theTreesLotGoes x)) _ _ s
  refine wpAny_noted ?_
  simp only [forTurn]
  refine AA (wpAny_standAt (AA (wpAny_onRaise (GU hh at_ fun h' tk kk=>AD ⟨rfl,codeAny_block (AD ?_)⟩))))
  exact hend s h' tk (by rw [←hi2];exact hI) kk
 | n + 1,i,s,hn,hI=>by
  obtain ⟨at_,rd⟩:=hinv i s hI
  obtain ⟨d,hd⟩:∃ d,ds[i]? = some d:=⟨_,List.getElem?_eq_getElem (by omega)⟩
  refine codeAny_of_tree ?_
  show wpAny _ A ((forTurn (.Name x p) (.ref k.I) body [] env).onRaise (fun x=>do noteFrame x env;theTreesLotGoes x)) _ _ s
  refine wpAny_noted ?_
  simp only [forTurn]
  refine AA (wpAny_standAt (AA (wpAny_onRaise (E7 b hh hk at_ hd rd fun v h2 t2 k2 at2 rv=>?_))))
  have rd2:=rd.kept b at_.fields k2
  refine AA (AD ?_)
  refine AA (AH (wpAny_assign_Name (hturn i d v s h2 t2 hd hI k2 at2 rd2 rv)) (fun zz s3 h3=>?_) (fun zz zz h=>h.elim))
  refine AA (AH h3.go (fun f s4 h4=>?_) (fun zz zz h=>h.elim))
  obtain ⟨rfl,h5⟩:=h4
  exact AD ⟨rfl,Iq b hh hk hinv hturn hend n (i + 1) s4 (by omega) h5⟩
theorem Q8 (b:AK B) {A:Around} {env:Env} (hh:A.handled=none) {x:Str} {p pos:Pos} {iter:Expr} {body:List Stmt} {vs:Array Value} {ds:List D} {ax:Addr} {Q:FP} {E:VP} {Inv:Nat→Heap→Prop}
  (he:Vv B A env s.heap iter (.ref ax)) (ht:s.heap.IsTuple ax vs) (hrd:∀ h,RdL B W00 h ds vs.toList) (hf:∀ y,foldedSetIterable iter env y=pure y)
  (h0:∀ h,AY s.heap h→Inv 0 h) (hkeep:∀ i h h',AU [s.heap.objs.size] h h'→Inv i h→Inv i h')
  (hturn:∀ i d v h1 t1,ds[i]? = some d→Inv i h1→Rd B W00 h1 d v→
   wpAny (mdl B) A (storeName env x v) (fun zz s2=>Wx B A env body (fun f s3=>f=.next∧∃ h3 t3,s3={s with heap:=h3,toks:=t3}∧Inv (i + 1) h3∧∀ c o,(c=s.heap.objs.size∨c=ax)→h1.get? c=some o→h3.get? c=some o) (fun zz zz=>False) s2) (fun zz zz=>False) {s with heap:=h1,toks:=t1})
  (hend:∀ h' tk,Inv ds.length h'→Q .next {s with heap:=h',toks:=tk}):wpAny (mdl B) A (exec (.For (.Name x p) iter body [] pos) env) Q E s:=by
 have hax:ax≠s.heap.objs.size:=by obtain ⟨o,e,_⟩:=ht;exact Nat.ne_of_lt (Heap.lt_size e)
 refine wpAny_For (he s _ _ rfl fun tk=>wpAny_pyIter_tuple ht ?_) hf
 refine codeAny_mono (Iq (k:=.tup s.heap.objs.size ax vs) (ds:=ds) (Inv:=fun i s'=>∃ h t,s'={s with heap:=h,toks:=t}∧Inv i h∧(ItK.tup s.heap.objs.size ax vs).At i h) (Q:=Q) b hh rfl (fun i s' hI=>?_) (fun i d v s' h1 t1 hd hI kb at1 rd1 rv=>?_) (fun s' h' tk' hI kb=>?_) ds.length 0 _ (by omega)
  ⟨_,tk,rfl,h0 _ AY.push,⟨_,Heap.get?_push_size _ rfl,rfl,rfl⟩,ht.push _,hax⟩) fun r s' h=>?_
 ·obtain ⟨h,t,rfl,_,at_⟩:=hI
  exact ⟨at_,hrd h⟩
 ·obtain ⟨h,t,rfl,inv,at_⟩:=hI
  refine AH (hturn i d v h1 t1 hd (hkeep i h h1 kb inv) rv) (fun zz s2 w=>⟨AH w.go (fun f s3 hq=>?_) fun zz zz h=>h⟩) fun zz zz h=>h
  obtain ⟨rfl,h3,t3,rfl,inv3,k3⟩:=hq
  exact ⟨rfl,h3,t3,rfl,inv3,at1.1.at fun o e=>k3 _ o (.inl rfl) e,(by obtain ⟨o,e,r⟩:=at1.2.1;exact ⟨o,k3 _ o (.inr rfl) e,r⟩),hax⟩
 ·obtain ⟨h,t,rfl,inv,at_⟩:=hI
  exact hend h' tk' (hkeep _ h h' kb inv)
 ·cases r with
  | ok f=>exact h
  | error e=>exact h.elim
end
section
open PySem PySem.W
variable {B:Bs} {s s':Shared}
open PyProof.Rows
theorem WZ {A:Around} {env:Env} {x name:Str} {p apos pos:Pos} {as:List Expr} {a Ck Nk f:Addr} {mk mA:SV} {of:Obj} {fd:FuncData} {Q:VP} {E:VP}
  (hc:ClsAt s.heap Ck Nk mk) (hga:mk "__getattribute__" = none) (hgb:mk "__getattr__" = none) (hf:mk name=some (.ref f)) (hfo:s.heap.get? f=some of) (hfd:of.data=.func fd) (hfc:of.cls=.type "function") (hB:typeLookup (.type "object") name=pure none) (I:s.heap.Inst a Ck mA) (hsh:mA name=none)
  (hp:Af as=true) (hl:apos.endLine=pos.line) (ha:as.length < 30) (ho:Vv B A env s.heap (.Name x p) (.ref a))
  (h:∀ tk,wpAny (mdl B) A (spliced (backTo pos (starEach as env))) (fun vs s1=>s1.heap.get? f=some of∧wpAny (mdl B) A (call (.ref f) (.ref a::vs)) Q E s1) E {s with toks:=tk}) :
  wpAny (mdl B) A (eval (.Call (.Attribute (.Name x p) name apos) as [] pos) env) Q E s:=by
 rw [arm_eval_Call]
 have e1:attributeBase (.Name x p) name env (eval (.Name x p) env)=eval (.Name x p) env:=rfl
 rw [e1]
 refine AA (ho s _ E rfl fun tk=>AA (wpAny_standAt ?_))
 obtain ⟨n1,q1,bs,sn,sub,col,d1,k0,k1,k2,k3,k5,hC⟩:=hc.obj
 unfold methodCall
 have few:methodCallForm (as.length + ([]:List Keyword).length) (backTo pos (starEach as env)) (backToKw pos (keywordEach [] env))=true:=by
  show ((backTo pos (starEach as env)).all (fun x=>!x.1)&&true&&decide (as.length + 0 + 0 < 30))=true
  rw [GZ hp]
  simp;omega
 rw [few]
 refine AA (AG ?_)
 unfold calleeOf
 simp only [if_true]
 have gm:∀ (pl:Sem Bool) (Q:Value×List Value→Shared→Prop) (E:VP),Q (.ref f,[.ref a]) {s with toks:=tk}→wpAny (mdl B) A (getMethod (.ref a) name pl) Q E {s with toks:=tk}:=fun pl Q E hq=>by
  obtain ⟨hh,g,dd,t,os⟩:=s
  exact method_of hC hc.ns hga hgb hf hfo hfc hB I hsh hq
 refine gm _ _ _ ?_
 refine AA (m:=methodCallPos true (.Name x p) env apos pos) ?_
 unfold methodCallPos
 rw [if_pos (by simp [hl])]
 refine AD ?_
 have hany:(backTo pos (starEach as env)).any (·.1)=false:=by
  have:=GZ (env:=env) (pos:=pos) hp
  rw [List.any_eq_false]
  intro z hz
  have:=List.all_eq_true.mp this z hz
  simpa using this
 refine Calls.callWith_function (o:=of) (fd:=fd) (Bg hany (AH (h tk) (fun vs s1 hq=>?_) fun zz zz x=>x))
 exact ⟨⟨hq.1,hfd⟩,hq.2⟩
structure UF (B:Bs) (SC:Addr) (env:Env) (h0 hh:Heap) (m:SV) (sc dx rd:Addr) (ks:List Str):Prop where
 fn:Fn1 B env hh m
 keep:AY h0 hh
 newL:h0.get? env.locals=none
 found:m "found" = some (.ref sc)
 S:JW B SC h0 hh sc dx rd ks
 apart:env.locals≠rd∧sc≠env.locals∧dx≠env.locals
theorem UF.there {SC:Addr} {env:Env} {h0 hh:Heap} {m:SV} {sc dx rd:Addr} {ks:List Str} (X:UF B SC env h0 hh m sc dx rd ks):(∃ o,hh.get? env.locals=some o)∧(∃ o,hh.get? sc=some o)∧(∃ o,hh.get? dx=some o)∧∃ o,hh.get? rd=some o:=by
 obtain ⟨mS,i,_⟩:=X.S.inst
 obtain ⟨kvs,D,_⟩:=X.S.dict
 obtain ⟨oL,_,_,e1,_⟩:=X.fn.ns
 obtain ⟨oR,_,_,e2,_⟩:=D
 obtain ⟨o,e,c,n,r⟩:=i.inst
 refine ⟨⟨oL,e1⟩,⟨o,e⟩,?_,⟨oR,e2⟩⟩
 have hd:=i.dict o e
 rcases r with r | ⟨dx',h1,h2,h3⟩
 ·rw [r.1] at hd;cases hd
 ·obtain rfl:dx'=dx:=AB (h1.symm.trans hd)
  obtain ⟨o',_,_,e',_⟩:=h3
  exact ⟨o',e'⟩
theorem JW.at {SC:Addr} {h0 h h':Heap} {sc dx rd:Addr} {ks:List Str} (S:JW B SC h0 h sc dx rd ks) (k:∀ c o,(c=sc∨c=dx∨c=rd)→h.get? c=some o→h'.get? c=some o):JW B SC h0 h' sc dx rd ks:=by
 obtain ⟨mS,i,r⟩:=S.inst
 obtain ⟨kvs,⟨o,es,ep,e,q⟩,hk⟩:=S.dict
 exact ⟨⟨mS,i.at (k _ · (.inl rfl)) (k _ · (.inr (.inl rfl))),r⟩,⟨kvs,⟨o,es,ep,k _ _ (.inr (.inr rfl)) e,q⟩,hk⟩,S.new,S.sys,S.apart⟩
theorem UF.at {SC:Addr} {env:Env} {h0 h h':Heap} {m:SV} {sc dx rd:Addr} {ks:List Str} (X:UF B SC env h0 h m sc dx rd ks) (hs0:B.h0.StaysIn h0) {I:Addr} (hI:h0.get? I=none) (n:I≠env.locals∧I≠sc∧I≠dx∧I≠rd) (k:AU [I] h h'):UF B SC env h0 h' m sc dx rd ks:=by
 have kk:∀ c o,c≠I→h.get? c=some o→h'.get? c=some o:=fun c o n e=>k c o (by simpa using n) e
 have kp:AY h0 h':=fun c o e=>kk c o (fun q=>by rw [q,hI] at e;cases e) (X.keep c o e)
 refine ⟨⟨X.fn.kind,X.fn.glob,X.fn.bltn,?_,fun c o e=>kp c o (hs0 c o e)⟩,kp,X.newL,X.found,X.S.at fun c o hc e=>kk c o ?_ e,X.apart⟩
 ·obtain ⟨oL,es,ep,e1,r⟩:=X.fn.ns
  exact ⟨oL,es,ep,kk _ _ (Ne.symm n.1) e1,r⟩
 ·rcases hc with rfl | rfl | rfl
  ·exact Ne.symm n.2.1
  ·exact Ne.symm n.2.2.1
  ·exact Ne.symm n.2.2.2
theorem UF.grew {SC:Addr} {env:Env} {h0 h h':Heap} {m:SV} {sc dx rd:Addr} {ks:List Str} (X:UF B SC env h0 h m sc dx rd ks) (k:AY h h'):UF B SC env h0 h' m sc dx rd ks :=
 ⟨X.fn.grew k,X.keep.trans k,X.newL,X.found,X.S.at fun c o zz e=>k c o e,X.apart⟩
theorem Nn:typeLookup (.type "object") "declare" = pure none:=by rw [typeLookup_type,builtinLookup_eq_fast];kernel_rfl
theorem JZ (b:AK B) (hlim:B.h0.NoLimit) {SC SN fI fD RC RN fR:Addr} {mkS mkR:SV} {fdI fdD fdR:FuncData} (U:CB B SC SN fI fD RC RN fR mkS mkR fdI fdD fdR) {A:Around} {E:VP} {Q:FP} {env:Env} {h0:Heap} {m:SV} {sc dx rd:Addr} {ks:List Str}
  (X:UF B SC env h0 s.heap m sc dx rd ks) (hs0:B.h0.StaysIn h0) (hroom:A.depth + 2 < recursionLimit) (hk:env.kindOf "found" = some .local) {e1 e2 e3:Expr} {p1 p2 p3 p4:Pos} (hl:p2.endLine=p3.line) {x:Str} (h1:Ai e1∧Pv B A env s.heap e1 (fun v=>∃ t,v=.str x t))
  (h2:Ai e2∧Ge B A env m e2) (h3:Ai e3∧Ge B A env m e3) (hx:x∉ks) (hx2:(x == ("_" : Str))=false) (hz:ks.length≤1000)
  (hQ:∀ h' tk,La rd s.heap h'→UF B SC env h0 h' m sc dx rd (ks++[x])→Q .next {s with heap:=h',toks:=tk}) :
  wpAny (mdl B) A (exec (.Expr (.Call (.Attribute (.Name "found" p1) "declare" p2) [e1,e2,e3] [] p3) p4) env) Q E s:=by
 obtain ⟨mS,i,r1,r2,r3⟩:=X.S.inst
 obtain ⟨oD,hoD,hdD,hcD⟩:=U.mf.obj
 have stay:B.h0.StaysIn s.heap:=X.fn.stay
 have pl:Af [e1,e2,e3]=true:=Dd h1.1 (Dd h2.1 (Dd h3.1 rfl))
 refine wpAny_Expr_any (WZ (U.sco.cls.keeps stay) U.ga.1 U.ga.2 U.dec (stay _ _ hoD) hdD hcD Nn i.inst r3 pl hl (by show 3 < 30;decide) (Vv.name X.fn hk X.found (by decide)) fun tk=>?_) X.fn.inter rfl
 have rest:∀ e∈[e2,e3],Ai e∧Ge B A env m e:=fun e he=>by
  rcases List.mem_cons.mp he with rfl | he
  ·exact h2
  ·rw [List.mem_singleton.mp he];exact h3
 rw [AL h1.1]
 show wpAny (mdl B) A (do
  let v←eval e1 env
  let here←(pure [v]:Sem (List Value))
  return here++(←PySem.holding here (spliced (backTo p3 (starEach [e2,e3] env))))) _ E _
 refine AA (h1.2 _ _ E rfl fun v tk1 hv=>?_)
 obtain ⟨t,rfl⟩:=hv
 refine AA (AD (AA (AG ?_)))
 refine EC rest _ _ E X.fn fun vs h' tk2 hlen hg=>AD ?_
 obtain ⟨v2,r1,e1,h1'⟩:=GR hlen
 obtain ⟨v3,r2,e2,h2'⟩:=GR h1'
 rw [e1,e2,Nz h2']
 ·have X1:=X.grew hg
  refine ⟨hg _ _ (stay _ _ hoD),LA (s:={s with heap:=h',toks:=tk2}) b hlim U hroom X1.fn.stay X1.S hx hx2 hz fun h2 tk3 gb S2=>?_⟩
  have kp:AY h0 h2:=fun c o e=>gb c o (fun q=>by rw [q,X.S.new] at e;cases e) (X1.keep c o e)
  refine hQ h2 tk3 (fun c o n e=>gb c o n (hg c o e)) ⟨⟨X.fn.kind,X.fn.glob,X.fn.bltn,?_,fun c o e=>kp c o (hs0 c o e)⟩,kp,X.newL,X.found,S2,X.apart⟩
  obtain ⟨oL,es,ep,e1,r⟩:=X1.fn.ns
  exact ⟨oL,es,ep,gb _ _ X.apart.1 e1,r⟩
end
section
open PySem PySem.W
variable {B:Bs} {s s':Shared}
open PyProof.Rows
theorem UF.store {SC:Addr} {env:Env} {h0 h h':Heap} {m:SV} {sc dx rd:Addr} {ks:List Str} (X:UF B SC env h0 h m sc dx rd ks) (hs0:B.h0.StaysIn h0) {x:Str} {v:Value} (hx:x≠"found") (hn:h'.Ns env.locals (fun y=>if y=x then some v else m y)) (sb:Heap.SameBut env.locals h h') :
  UF B SC env h0 h' (fun y=>if y=x then some v else m y) sc dx rd ks:=by
 have kp:AY h0 h':=fun c o e=>(sb.2 c (fun q=>by rw [q,X.newL] at e;cases e)).trans (X.keep c o e)
 refine ⟨⟨X.fn.kind,X.fn.glob,X.fn.bltn,hn,fun c o e=>kp c o (hs0 c o e)⟩,kp,X.newL,?_,X.S.at fun c o hc e=>(sb.2 c ?_).trans e,X.apart⟩
 ·rw [if_neg (Ne.symm hx)];exact X.found
 ·rcases hc with rfl | rfl | rfl
  ·exact X.apart.2.1
  ·exact X.apart.2.2
  ·exact Ne.symm X.apart.1
noncomputable def Ie:List Str:=["byte","rune","bool","string","error","any","true","false","iota","nil"]
structure LV (B:Bs) (SC:Addr) (fd:FuncData):Prop where
 hf:DT B 96 fd
 hb:Al B fd [] 0 []
 gS:B.mg "Scope" = some (.ref SC)
 gE:∃ v,B.mg "ERROR" = some v
 gI:∃ ax vs,B.mg "INT_KINDS" = some (.ref ax)∧B.h0.IsTuple ax vs∧∀ h,RdL B W00 h (Br.map IE) vs.toList
 gB:∃ ax vs,B.mg "BUILTINS" = some (.ref ax)∧B.h0.IsTuple ax vs∧∀ h,RdL B W00 h (CM.map IE) vs.toList
 sys:∃ o,B.h0.get? sysModules=some o
theorem Oj (b:AK B) (hlim:B.h0.NoLimit) {SC SN fI fD RC RN fR:Addr} {mkS mkR:SV} {fdI fdD fdR:FuncData} (U:CB B SC SN fI fD RC RN fR mkS mkR fdI fdD fdR) {A:Around} {E:VP} {Q:FP} {env:Env} {h0:Heap} {m:SV} {sc dx rd:Addr} {ks names:List Str}
  (X:UF B SC env h0 s.heap m sc dx rd ks) (hs0:B.h0.StaysIn h0) (hh:A.handled=none) (hroom:A.depth + 2 < recursionLimit) (hk:env.kindOf "found" = some .local) {x G:Str} {p p0 pp1 pp2 pp3 pp4 pp5 pos:Pos} {e2 e3:Expr} (hkx:env.kindOf x=some .local) (hxf:x≠"found") (hxd:(x == ("__debug__" : Str))=false) (hkG:env.kindOf G=some .globalImplicit) (hGd:(G == ("__debug__" : Str))=false)
  (hg:∃ ax vs,B.mg G=some (.ref ax)∧B.h0.IsTuple ax vs∧∀ h,RdL B W00 h (names.map IE) vs.toList) (hl:pp2.endLine=pp3.line)
  (he2:Ai e2∧∀ m',(∃ v,m' x=some v)→Ge B A env m' e2) (he3:Ai e3∧∀ m',Ge B A env m' e3) (hnd:(ks++names).Nodup) (hu:∀ n∈names,(n == ("_" : Str))=false) (hz:(ks++names).length≤1000)
  (hQ:∀ h' tk m',UF B SC env h0 h' m' sc dx rd (ks++names)→Q .next {s with heap:=h',toks:=tk}) :
  wpAny (mdl B) A (exec (.For (.Name x p) (.Name G p0) [.Expr (.Call (.Attribute (.Name "found" pp1) "declare" pp2) [.Name x pp5,e2,e3] [] pp3) pp4] [] pos) env) Q E s:=by
 obtain ⟨ax,vs,hG,hT,hrd⟩:=hg
 have th:=X.there
 have n1:=CU th.1
 have n2:=CU th.2.1
 have n3:=CU th.2.2.1
 have n4:=CU th.2.2.2
 have hI:h0.get? s.heap.objs.size=none:=by
  cases e:h0.get? s.heap.objs.size with
  | none=>rfl
  | some o=>exact absurd (Heap.lt_size (X.keep _ _ e)) (Nat.lt_irrefl _)
 have hax:h0.get? ax≠none:=by obtain ⟨o,e,_⟩:=hT;rw [hs0 _ _ e];exact fun q=>by cases q
 have hT2:s.heap.IsTuple ax vs:=by obtain ⟨o,e,r⟩:=hT;exact ⟨o,X.fn.stay _ _ e,r⟩
 refine Q8 (Inv:=fun i h=>∃ m',UF B SC env h0 h m' sc dx rd (ks++names.take i)) b hh (Vv.global b X.fn hkG (.inl hG) hGd) hT2 hrd (fun zz=>rfl) (fun h hg=>⟨m,by rw [List.take_zero,List.append_nil];exact X.grew hg⟩)
  (fun i h h' kb ⟨m',Y⟩=>⟨m',Y.at hs0 hI ⟨Ne.symm n1,Ne.symm n2,Ne.symm n3,Ne.symm n4⟩ kb⟩) (fun i d v h1 t1 hd inv rv=>?_) fun h' tk inv=>?_
 ·obtain ⟨m',Y⟩:=inv
  rw [List.getElem?_map] at hd
  cases hn:names[i]? with
  | none=>rw [hn] at hd;cases hd
  | some n=>
   rw [hn] at hd;cases hd
   cases rv with
   | str z t _ hz2=>
    obtain rfl:z=n:=Aj hz2
    have hin:z∈names:=List.mem_of_getElem? hn
    refine wpAny_storeName_local (s:={s with heap:=h1,toks:=t1}) hkx Y.fn.ns (fun h2 hn2 sb=>?_) (by rw [Y.fn.kind];rfl)
    have Y2:=Y.store hs0 hxf hn2 sb
    have hnew:z∉ks++names.take i:=fun q=>by
     have e:ks++names=(ks++names.take i)++names.drop i:=by rw [List.append_assoc,List.take_append_drop]
     rw [e] at hnd
     have hd:z∈names.drop i:=by
      have:names.drop i=z::names.drop (i + 1):=(List.drop_eq_getElem_cons (List.getElem?_eq_some_iff.mp hn).1).trans (by rw [(List.getElem?_eq_some_iff.mp hn).2])
      rw [this];exact .head _
     exact (List.nodup_append.mp hnd).2.2 z q z hd rfl
    refine Wx.cons (JZ (s:={s with heap:=h2,toks:=_}) b hlim U Y2 hs0 hroom hk hl (x:=z) ⟨trivial,fun s Q E hs hq=>Vv.name Y2.fn hkx (if_pos rfl) hxd s Q E hs fun tk=>hq _ tk ⟨_,rfl⟩⟩ ⟨he2.1,he2.2 _ ⟨_,if_pos rfl⟩⟩ ⟨he3.1,he3.2 _⟩ hnew (hu _ hin) ?_ fun h3 tk3 gb Y3=>Wx.nil ⟨rfl,h3,tk3,rfl,⟨fun y=>if y=x then some (.str z t) else m' y,?_⟩,fun c o hc e=>?_⟩)
    ·simp only [List.length_append,List.length_take] at hz ⊢
     omega
    ·rw [List.take_add_one,hn]
     simpa [List.append_assoc] using Y3
    ·refine gb c o ?_ ((sb.2 c ?_).trans e)
     ·rcases hc with rfl | rfl
      ·exact Ne.symm n4
      ·exact fun q=>hax (by rw [q];exact X.S.new)
     ·rcases hc with rfl | rfl
      ·exact Ne.symm n1
      ·exact fun q=>hax (by rw [q];exact X.newL)
 ·obtain ⟨m',Y⟩:=inv
  rw [List.length_map,List.take_length] at Y
  exact hQ h' tk m' Y
end
section
open PySem PySem.W
variable {B:Bs} {s s':Shared}
open PyProof.Rows
noncomputable def KX (st:Stmt):Option (Str×Expr×Expr):=(Tj st).bind fun e=>(Hi e).bind fun c=>(EI c.1).bind fun w=>(F9 c.2.1).bind fun q=>(DK q.1).bind fun x=>
 B7 ((nm w.1 == nm "found"&&nm w.2.1 == nm "declare")&&Nat.beq w.2.2 c.2.2.line) (some (x,q.2.1,q.2.2))
theorem Ls {st:Stmt} {x:Str} {e2 e3:Expr} (h:KX st=some (x,e2,e3)):∃ p1 p2 p3 p4 k p5,p2.endLine=p3.line∧st=.Expr (.Call (.Attribute (.Name "found" p1) "declare" p2) [.Constant (.str x) k p5,e2,e3] [] p3) p4:=AO h fun e he h=>AO h fun c hc h=>AO h fun w hw h=>AO h fun q hq h=>AO h fun y hy h=>by
 obtain ⟨hb,h⟩:=Bi h
 rw [Bool.and_eq_true,Bool.and_eq_true] at hb
 obtain ⟨p4,e1⟩:=Mf he
 obtain ⟨p1,p2,e2,hl⟩:=FH hw
 obtain ⟨k,p5,e3⟩:=DW hy
 have e4:=pI1 (AB h)
 have e5:=pI2 (AB h)
 exact ⟨p1,p2,c.2.2,p4,k,p5,hl.trans (AI hb.2),by rw [e1,El hc,e2,Aj (eq_of_beq hb.1.1),Aj (eq_of_beq hb.1.2),Ln hq,e3,e4,pI1 e5,pI2 e5]⟩
noncomputable def Cb (glo:List Str):List Str→List Stmt→List Str×List Stmt
 | ks,[]=>(ks,[])
 | ks,st::rest=>match KX st with
  | none=>(ks,st::rest)
  | some q=>(match (geE false [] glo 8 q.2.1&&geE false [] glo 8 q.2.2)&&(!DB q.1 ks&&(!(nm q.1 == nm "_")&&Nat.ble ks.length 900)) with
   | true=>Cb glo (ks++[q.1]) rest
   | false=>(ks,st::rest))
theorem DQ {glo ks:List Str} {st:Stmt} {rest:List Stmt}:Cb glo ks (st::rest)=match KX st with
  | none=>(ks,st::rest)
  | some q=>(match (geE false [] glo 8 q.2.1&&geE false [] glo 8 q.2.2)&&(!DB q.1 ks&&(!(nm q.1 == nm "_")&&Nat.ble ks.length 900)) with
   | true=>Cb glo (ks++[q.1]) rest
   | false=>(ks,st::rest)):=rfl
theorem Mn (b:AK B) (hlim:B.h0.NoLimit) {SC SN fI fD RC RN fR:Addr} {mkS mkR:SV} {fdI fdD fdR:FuncData} (U:CB B SC SN fI fD RC RN fR mkS mkR fdI fdD fdR) {A:Around} {E:VP} {Q:FP} {env:Env} {h0:Heap} {m:SV} {sc dx rd:Addr}
  (hs0:B.h0.StaysIn h0) (hroom:A.depth + 2 < recursionLimit) (hk:env.kindOf "found" = some .local) {glo:List Str} (hg:∀ x∈glo,env.kindOf x=some .globalImplicit∧∃ v,B.mg x=some v∨(B.mg x=none∧B.mb x=some v)) :
  ∀ (l:List Stmt) (ks:List Str) (s:Shared),UF B SC env h0 s.heap m sc dx rd ks→
  (∀ h' tk,UF B SC env h0 h' m sc dx rd (Cb glo ks l).1→Wx B A env (Cb glo ks l).2 Q E {s with heap:=h',toks:=tk})→Wx B A env l Q E s
 | l,ks,s,X,hQ=>by
  have stop:Cb glo ks l=(ks,l)→Wx B A env l Q E s:=fun e=>by
   have:=hQ s.heap s.toks
   rw [e] at this
   exact this X
  cases l with
  | nil=>exact stop rfl
  | cons st rest=>
   cases hs:KX st with
   | none=>exact stop (by rw [DQ,hs])
   | some xe=>
    obtain ⟨x,e2,e3⟩:=xe
    cases hc:((geE false [] glo 8 e2&&geE false [] glo 8 e3)&&(!DB x ks&&(!(nm x == nm "_")&&Nat.ble ks.length 900))) with
    | false=>exact stop (by rw [DQ,hs];dsimp only;rw [hc])
    | true=>
     rw [DQ,hs] at hQ
     dsimp only at hQ
     rw [hc] at hQ
     simp only [Bool.and_eq_true,Bool.not_eq_true'] at hc
     obtain ⟨⟨c1,c2⟩,c3,c4,c5⟩:=hc
     obtain ⟨p1,p2,p3,p4,k,p5,hl,rfl⟩:=Ls hs
     have ge:∀ {e},geE false [] glo 8 e=true→Ai e∧Ge B A env m e:=fun h=>⟨Ju h,Mc b (fun q=>by cases q) (fun zz q=>by cases q) hg 8 _ h⟩
     refine Wx.cons (JZ b hlim U X hs0 hroom hk hl (x:=x) ⟨trivial,Pv.str⟩ (ge c1) (ge c2) (fun q=>by rw [GQ q] at c3;cases c3) ?_ (Nat.le_trans (AF c5) (by decide)) fun h' tk zz X'=>Mn b hlim U hs0 hroom hk hg rest (ks++[x]) _ X' fun h2 tk2 X2=>hQ h2 tk2 X2)
     cases q:x == ("_" : Str) with
     | false=>rfl
     | true=>rw [eq_of_beq q] at c4;exact absurd c4 (by decide)
theorem JW.weak {SC:Addr} {h0 h1 h:Heap} {sc dx rd:Addr} {ks:List Str} (S:JW B SC h1 h sc dx rd ks) (k:AY h0 h1):JW B SC h0 h sc dx rd ks :=
 ⟨S.inst,S.dict,(by cases e:h0.get? rd with | none=>rfl | some o=>have:=k _ _ e;rw [S.new] at this;cases this),S.sys,S.apart⟩
noncomputable def Rm:List Str×List Stmt:=Cb ["ERROR"] Br ((Am 96).drop 2)
theorem H9:Fp (AM 96) []=true∧Rm.1=Br++Ie:=by constructor<;>decide +kernel
theorem Gv:(Br++Ie++CM).Nodup∧(∀ n∈Br++Ie++CM,(n == ("_" : Str))=false):=by constructor<;>decide +kernel
theorem JL (b:AK B) (hlim:B.h0.NoLimit) {SC SN fI fD RC RN fR:Addr} {mkS mkR:SV} {fdI fdD fdR fd:FuncData} (U:CB B SC SN fI fD RC RN fR mkS mkR fdI fdD fdR) (V:LV B SC fd) {A:Around} {E:VP} {Q:VP}
  (hh:A.handled=none) (hroom:A.depth + 3 < recursionLimit) (h0s:B.h0.StaysIn s.heap) (hQ:∀ h' tk v,AY s.heap h'→Q v {s with heap:=h',toks:=tk}):wpAny (mdl B) A (call (.ref (B.fnA 96)) []) Q E s:=by
 refine Dj hlim V.hf.hand H9.1 (vs:=[]) rfl (by omega) h0s (V.hb _ [] h0s rfl) fun h₀ tk env m A' E' F hm=>?_
 have X:=F.fn
 have ko:∀ y,env.kindOf y=(AM 96).names.lookup y:=fun y=>by
  show env.scope.names.lookup y=_
  rw [F.sc]
 have hr:A'.depth + 2 < recursionLimit:=by have:=F.dep;omega
 refine Wx.cons (wpAny_Assign_Name (wpAny_Call_ofName (Vv.global b X ((ko _).trans rfl) (.inl V.gS) (by decide) _ _ _ rfl fun tk1=>?_)) rfl)
 refine call_cls (h₀:=h₀) (U.sco.cls.keeps X.stay) rfl (IQ (h:=h₀) (fun e he=>?_) _ _ _ rfl fun vs tk2 hl=>?_)
 ·rw [List.mem_singleton.mp he]
  exact ⟨trivial,fun s Q E hs hq=>Pv.none s Q E hs fun v tk zz=>hq v tk trivial⟩
 obtain ⟨vo,r1,e1,h1'⟩:=GR hl
 rw [e1,Nz h1']
 refine ⟨AY.refl,Ig (s:={s with heap:=h₀,toks:=tk2}) b hlim U V.sys (by omega) X.stay fun h1 tk3 sc dx rd hg w1 w2 S=>?_⟩
 have X1:=X.grew hg
 refine wpAny_storeName_local (s:={s with heap:=h1,toks:=tk3}) ((ko _).trans rfl) X1.ns (fun h2 hn2 sb=>?_) (by rw [X.kind];rfl)
 have hL:∃ o,h₀.get? env.locals=some o:=by obtain ⟨o,_,_,e,_⟩:=X.ns;exact ⟨o,e⟩
 have ne:∀ {c:Addr},h₀.get? c=none→env.locals≠c:=fun e q=>by obtain ⟨o,e'⟩:=hL;rw [q,e] at e';cases e'
 have X2:UF B SC env s.heap h2 (fun y=>if y = "found" then some (.ref sc) else m y) sc dx rd []:=by
  have kp:AY s.heap h2:=fun c o e=>(sb.2 c (fun q=>by rw [q,F.new] at e;cases e)).trans (hg c o (F.keep c o e))
  refine ⟨⟨X.kind,X.glob,X.bltn,hn2,fun c o e=>kp c o (h0s c o e)⟩,kp,F.new,if_pos rfl,(S.weak F.keep).at fun c o hc e=>(sb.2 c ?_).trans e,ne S.new,Ne.symm (ne w1),Ne.symm (ne w2)⟩
  rcases hc with rfl | rfl | rfl
  ·exact Ne.symm (ne w1)
  ·exact Ne.symm (ne w2)
  ·exact Ne.symm (ne S.new)
 have hh':=F.handled hh
 have kf:env.kindOf "found" = some .local:=(ko _).trans rfl
 have cs:∀ {e:Expr} {loc glo:List Str} {m':SV},geE false loc glo 8 e=true→(∀ x∈loc,env.kindOf x=some .local∧∃ v,m' x=some v)→(∀ x∈glo,env.kindOf x=some .globalImplicit∧∃ v,B.mg x=some v∨(B.mg x=none∧B.mb x=some v))→Ge B A' env m' e:=fun h a c=>Mc b (fun q=>by cases q) a c 8 _ h
 have noglo:∀ x∈([]:List Str),env.kindOf x=some .globalImplicit∧∃ v,B.mg x=some v∨(B.mg x=none∧B.mb x=some v):=fun zz h=>by cases h
 have nd:=Gv.1
 refine Wx.cons (Oj (s:={s with heap:=h2,toks:=_}) (names:=Br) (x:="kind") (G:="INT_KINDS") b hlim U X2 h0s hh' hr kf ((ko _).trans rfl) (by decide) (by decide) ((ko _).trans rfl) (by decide) V.gI rfl
  ⟨trivial,fun m' hv=>cs (loc:=["kind"]) (by decide +kernel) (fun x hx=>by rw [List.mem_singleton.mp hx];exact ⟨(ko _).trans rfl,hv⟩) noglo⟩ ⟨trivial,fun m'=>cs (loc:=[]) (glo:=[]) (by decide +kernel) (fun zz h=>by cases h) noglo⟩ ?_ (fun n hn=>Gv.2 n (List.mem_append_left _ (List.mem_append_left _ hn))) (by decide) fun h3 tk3 m3 X3=>?_)
 ·exact (List.nodup_append.mp (List.nodup_append.mp nd).1).1
 have glo:∀ x∈[("ERROR" : Str)],env.kindOf x=some .globalImplicit∧∃ v,B.mg x=some v∨(B.mg x=none∧B.mb x=some v):=fun x hx=>by
  rw [List.mem_singleton.mp hx]
  obtain ⟨v,hv⟩:=V.gE
  exact ⟨(ko _).trans rfl,v,.inl hv⟩
 refine Mn b hlim U h0s hr kf glo ((Am 96).drop 2) Br _ (by simpa using X3) fun h4 tk4 X4=>?_
 rw [show Cb ["ERROR"] Br ((Am 96).drop 2)=Rm from rfl] at X4 ⊢
 rw [H9.2] at X4
 refine Wx.cons (Oj (s:={s with heap:=h4,toks:=_}) (names:=CM) (x:="name") (G:="BUILTINS") b hlim U X4 h0s hh' hr kf ((ko _).trans rfl) (by decide) (by decide) ((ko _).trans rfl) (by decide) V.gB rfl
  ⟨trivial,fun m' hv=>cs (loc:=["name"]) (by decide +kernel) (fun x hx=>by rw [List.mem_singleton.mp hx];exact ⟨(ko _).trans rfl,hv⟩) noglo⟩ ⟨trivial,fun m'=>cs (loc:=[]) (glo:=[]) (by decide +kernel) (fun zz h=>by cases h) noglo⟩ nd (fun n hn=>Gv.2 n (List.mem_append_right _ hn)) (by decide) fun h5 tk5 m5 X5=>?_)
 refine Wx.ret (Vv.name X5.fn kf X5.found (by decide) _ _ _ rfl fun tk6=>hQ _ _ _ X5.keep)
end
section
open PySem PySem.W
variable {B:Bs} {s s':Shared}
open PyProof.Rows
structure Gr (B:Bs) (WC WN fI:Addr) (mkW:SV) (fdI:FuncData) (RC RN fR:Addr) (mkR:SV) (fd fdR:FuncData):Prop where
 cls:InitOf B 97 WC WN fI mkW fdI BQ
 bI:Al B fdI ["self","packages"] 1 [.none]
 known:Pk B RC RN fR mkR fd fdR
 gK:B.mg "known_rows" = some (.ref (B.fnA 95))
theorem F7:C3 97 ["packages"]=true∧(BC ["packages"] BQ [] ((Aq 97 0).drop 2)).2=[]:=by constructor<;>kernel_rfl
theorem Le:("named" : Str)∉(BC ["packages"] BQ [] ((Aq 97 0).drop 2)).1:=by decide +kernel
theorem S5 {x:Str} {l:List Str} (h:DB x l=false):x∉l:=fun q=>by rw [GQ q] at h;cases h
theorem Nw (b:AK B) (hlim:B.h0.NoLimit) {WC WN fI:Addr} {mkW:SV} {fdI:FuncData} {RC RN fR:Addr} {mkR:SV} {fd fdR:FuncData} (U:Gr B WC WN fI mkW fdI RC RN fR mkR fd fdR) {A:Around} {E:VP} {Q:VP}
  (hroom:A.depth + 5 < recursionLimit) (h0s:B.h0.StaysIn s.heap)
  (hQ:∀ h' tk x dx mW d (kvs:List (Str×Value)),AY s.heap h'→s.heap.get? x=none→s.heap.get? dx=none→s.heap.get? d=none→C9 h' x WC dx mW→mW "named" = some (.ref d)→Within mW BQ→kvs.length≤15→h'.DictOf (PySem.strKind P B.w) d kvs→x≠d→dx≠d→Q (.ref x) {s with heap:=h',toks:=tk}) :
  wpAny (mdl B) A (call (.ref WC) []) Q E s:=by
 refine E6 hlim U.cls F7.1 (vs:=[.none]) rfl (by omega) h0s (fun x s' h=>U.bI s' [.ref x] h rfl) fun x dx L h₀ tk A' E' env m hd I hm hself hsc hl X=>?_
 have hC:=U.cls.cls.keeps h0s
 have ko:∀ y,env.kindOf y=(AR 97 0).names.lookup y:=fun y=>by
  show env.scope.names.lookup y=_
  rw [hsc]
 refine Wx.cons (OSt.attrP X hC h0s I hself (Vv.p (v:=.none) (Vv.name (X.fn1 I h0s) (hl _ (.head _)).1 ((hm _).trans rfl) (by decide))) rfl (U.cls.free _ (by decide +kernel)) CT U.cls.len fun w1 h1 tk1 e1 X1=>?_)
 obtain ⟨oK,hoK,hdK,_⟩:=U.known.hf.obj
 refine Wx.cons (OSt.attrR (s:={s with heap:=h1,toks:=tk1}) (R:=fun v h=>∃ d,∃ kvs:List (Str×Value),v=.ref d∧h1.get? d=none∧kvs.length≤15∧h.DictOf (PySem.strKind P B.w) d kvs) X1 hC h0s I hself (fun Q hq=>?_) rfl (U.cls.free _ (by decide +kernel)) (Ct CT (by decide +kernel)) U.cls.len fun w3 h3 h4 tk4 e3 hg X4=>?_)
 ·have X1':=X1.fn1 I h0s
  refine wpAny_Call_ofName (Vv.global b X1' ((ko _).trans rfl) (.inl U.gK) (by decide) _ _ _ rfl fun tk2=>?_)
  refine Calls.callWith_function (o:=oK) (fd:=fd) (Bg rfl (AD ⟨⟨X1'.stay _ _ hoK,hdK⟩,N1 (s:={s with heap:=h1,toks:=tk2}) b hlim U.known (by omega) X1'.stay fun h2 tk3 d kvs hg hn hl2 D=>?_⟩))
  exact hq _ h2 tk3 ⟨d,kvs,rfl,hn,hl2,D⟩ hg
 obtain ⟨d,kvs,rfl,hn,hl2,D⟩:=e3
 have th:=X1.there
 have ne:∀ {c:Addr},(∃ o,h1.get? c=some o)→c≠d:=fun h q=>by obtain ⟨o,e⟩:=h;rw [q,hn] at e;cases e
 have D4:(hideAll h3 [x,dx,L]).DictOf (PySem.strKind P B.w) d kvs:=by
  obtain ⟨o,es,ep,e,r⟩:=D
  refine ⟨o,es,ep,hideAll_get _ e ?_,r⟩
  simp only [List.mem_cons,List.not_mem_nil,or_false,not_or]
  exact ⟨Ne.symm (ne th.1),Ne.symm (ne th.2.2),Ne.symm (ne th.2.1)⟩
 have base:=(X1.grew hg).base
 refine Gq b (hC.keeps base) (fun c o e=>base _ _ (h0s c o e)) I hself hl U.cls.free U.cls.len ((Aq 97 0).drop 2) [] {s with heap:=h4,toks:=tk4} _ X4 (Ct (Ct CT (by decide +kernel)) (by decide +kernel)) fun h5 tk5 mW X5 w5 k5=>?_
 rw [F7.2]
 refine Wx.nil ⟨rfl,hQ h5 tk5 x dx mW d kvs (fun c o e=>X5.keep c o (base c o e)) X.new X.newD ?_ X5.instD ((k5 _ Le).trans (if_pos rfl)) w5 hl2 ?_ (ne th.1) (ne th.2.2)⟩
 ·cases e:s.heap.get? d with
  | none=>rfl
  | some o=>rw [X1.keep _ _ e] at hn;cases hn
 ·obtain ⟨o,es,ep,e,r⟩:=D4
  exact ⟨o,es,ep,X5.keep _ _ e,r⟩
end
section
open PySem PySem.W
variable {B:Bs} {s s':Shared}
open PyProof.Rows
noncomputable def Dp:List Str:=["world","package","scope","key","readers","run_body","outer"]
structure Gs (B:Bs) (CC CN fI:Addr) (mkC:SV) (fdI:FuncData):Prop where
 cls:InitOf B 88 CC CN fI mkC fdI BO
 bI:Al B fdI ("self"::Dp) 7 [.none]
theorem JH:C3 88 Dp=true∧(BC Dp BO [] ((Aq 88 0).drop 5)).2=[]:=by constructor<;>kernel_rfl
theorem J5:("world" : Str)∉(BC Dp BO [] ((Aq 88 0).drop 5)).1∧("readers" : Str)∉(BC Dp BO [] ((Aq 88 0).drop 5)).1:=by decide +kernel
theorem Kr (b:AK B) (hlim:B.h0.NoLimit) {CC CN fI:Addr} {mkC:SV} {fdI:FuncData} (U:Gs B CC CN fI mkC fdI) {A:Around} {E:VP} {Q:VP}
  (hroom:A.depth + 1 < recursionLimit) (h0s:B.h0.StaysIn s.heap) {v1 v2 v3 v4 v5 v6:Value}
  (hQ:∀ h' tk x dx mC,AY s.heap h'→s.heap.get? x=none→s.heap.get? dx=none→C9 h' x CC dx mC→mC "world" = some v1→mC "readers" = some v5→Within mC BO→Q (.ref x) {s with heap:=h',toks:=tk}) :
  wpAny (mdl B) A (call (.ref CC) [v1,v2,v3,v4,v5,v6]) Q E s:=by
 refine E6 hlim U.cls JH.1 (vs:=[v1,v2,v3,v4,v5,v6,.none]) rfl hroom h0s (fun x s' h=>U.bI s' [.ref x,v1,v2,v3,v4,v5,v6] h rfl) fun x dx L h₀ tk A' E' env m hd I hm hself hsc hl X=>?_
 have hC:=U.cls.cls.keeps h0s
 have step:∀ {n:Str} {v:Value} {h:Heap} {t:Nat} {mA:SV} {rest:List Stmt} {p p1 p2 pos:Pos},OSt s.heap h L x dx CC m mA→Within mA BO→n∈Dp→m n=some v→(n == ("__debug__" : Str))=false→DB n BO=true→
   (∀ h' tk',OSt s.heap h' L x dx CC m (fun y=>if y=n then some v else mA y)→Within (fun y=>if y=n then some v else mA y) BO→Wx B A' env rest (fun f s'=>f=.next∧Q (.ref x) s') E' {s with heap:=h',toks:=tk'})→
   Wx B A' env (.Assign [.Attribute (.Name "self" p1) n p2] (.Name n p) pos::rest) (fun f s'=>f=.next∧Q (.ref x) s') E' {s with heap:=h,toks:=t}:=fun X w hn hv hd ha hq=>
  Wx.cons (OSt.attrP (s:={s with heap:=_,toks:=_}) X hC h0s I hself (Vv.p (Vv.name (X.fn1 I h0s) (hl _ hn).1 hv hd)) rfl (U.cls.free _ (AP ha)) w U.cls.len fun w1 h1 tk1 e1 X1=>hq h1 tk1 (by subst e1;exact X1) (by subst e1;exact Ct w (AP ha)))
 refine step X CT (by decide +kernel) ((hm _).trans rfl) (by decide) (by decide +kernel) fun h1 tk1 X1 w1=>?_
 refine step X1 w1 (by decide +kernel) ((hm _).trans rfl) (by decide) (by decide +kernel) fun h2 tk2 X2 w2=>?_
 refine step X2 w2 (by decide +kernel) ((hm _).trans rfl) (by decide) (by decide +kernel) fun h3 tk3 X3 w3=>?_
 refine step X3 w3 (by decide +kernel) ((hm _).trans rfl) (by decide) (by decide +kernel) fun h4 tk4 X4 w4=>?_
 refine step X4 w4 (by decide +kernel) ((hm _).trans rfl) (by decide) (by decide +kernel) fun h5 tk5 X5 w5=>?_
 refine Gq b hC h0s I hself hl U.cls.free U.cls.len ((Aq 88 0).drop 5) [] {s with heap:=h5,toks:=tk5} _ X5 w5 fun h6 tk6 mC X6 w6 k6=>?_
 rw [JH.2]
 exact Wx.nil ⟨rfl,hQ h6 tk6 x dx mC X6.keep X6.new X6.newD X6.instD ((k6 _ J5.1).trans rfl) ((k6 _ J5.2).trans rfl) w6⟩
end
section
open PySem PySem.W
variable {B:Bs} {s s':Shared}
variable {ps0:Array Value}
open PyProof.Rows
theorem Yi {v:Value} {l:List Value} (h:TriplesOk (v::l)):∃ n t,v=.int n t:=by cases v<;>first | exact ⟨_,_,rfl⟩ | exact False.elim h
theorem Yh {n:Int} {t:Tok} {v:Value} {l:List Value} (h:TriplesOk (.int n t::v::l)):∃ n t,v=.int n t:=by cases v<;>first | exact ⟨_,_,rfl⟩ | exact False.elim h
theorem Lk {a b:Int} {t u:Tok} {c:Value} (n:Nat):∀ {l:List Value},l.length≤n→TriplesOk l→TriplesOk (l++[.int a t,.int b u,c]):=by
 induction n with
 | zero=>exact fun hl zz=>by rw [Nz (Nat.le_zero.mp hl)];trivial
 | succ n ih=>
  intro l hl h
  cases l with
  | nil=>trivial
  | cons v l=>
   obtain ⟨n1,t1,e1⟩:=Yi h
   rw [e1] at h ⊢
   cases l with
   | nil=>exact False.elim h
   | cons w l=>
    obtain ⟨n2,t2,e2⟩:=Yh h
    rw [e2] at h ⊢
    cases l with
    | nil=>exact False.elim h
    | cons x r=>exact ih (l:=r) (by simp only [List.length_cons] at hl;omega) h
theorem Ll {l:List Value} {a b:Int} {t u:Tok} {c:Value} (h:TriplesOk l):TriplesOk (l++[.int a t,.int b u,c]):=Lk _ (Nat.le_refl _) h
structure AV (ps0:Array Value) (T:Addr) (pos:Pos) (qual:Str) (h:Heap):Prop where
 at_:∃ ps,h.get? T=some (tabObj ps)∧TriplesOk ps.toList∧(∃ more,ps=ps0++more)∧(codeAmong pos ps.toList=none∨∃ c',codeAmong pos ps.toList=some (.ref c')∧h.CodeRec (.ref c') qual∧c'≠T)
theorem AV.keep {T:Addr} {pos:Pos} {qual:Str} {h h':Heap} (x:AV ps0 T pos qual h) (k:∀ c o,(∃ vs,o.data=.fields vs)→h.get? c=some o→h'.get? c=some o):AV ps0 T pos qual h':=by
 obtain ⟨ps,e,t,hm,r⟩:=x.at_
 refine ⟨ps,k _ _ ⟨_,rfl⟩ e,t,hm,?_⟩
 rcases r with r | ⟨c',r1,⟨c,o,vs,t,q1,q2,q3,q4⟩,r3⟩
 ·exact .inl r
 ·exact .inr ⟨c',r1,⟨c,o,vs,t,q1,k _ _ ⟨_,q3⟩ q2,q3,q4⟩,r3⟩
theorem TA {A:Around} {env:Env} {a:Arguments} {e:Expr} {sc:Scope} {pos:Pos} {c T:Addr} {mg:SV} {E:VP} {Q:VP} (hd:defaultsOf a env=([],[])) (hcl:closureFor sc env=pure []) (hge:env.globals=mainGlobals) (hg:s.heap.Ns mainGlobals mg) (hcode:env.code=.ref c)
  (C:CodeHd s.heap c T) (I:AV ps0 T pos (env.qual++"<lambda>") s.heap) (hgT:mainGlobals≠T) (hb:s.heap.BuiltinsAt mg T)
  (hQ:∀ f c' ctv h' tk pm,AU [T] s.heap h'→s.heap.get? f=none→h'.get? f=some (kla_obj "<lambda>" (env.qual++"<lambda>") a e sc [] pm c' ctv)→h'.CodeRec (.ref c') (env.qual++"<lambda>")→c'≠T→AV ps0 T pos (env.qual++"<lambda>") h'→Q (.ref f) {s with heap:=h',toks:=tk}) :
  wpAny (mdl B) A (eval (.Lambda a e sc pos) env) Q E s:=by
 obtain ⟨ps,hP,ht,⟨mr,hmr⟩,r⟩:=I.at_
 have none_of:∀ {h:Heap} {n:Nat},s.heap.objs.size≤n→s.heap.get? n=none:=fun h=>Heap.get?_none_of_le h
 refine kla_eval hd ?_
 rcases r with hn | ⟨c',hf,hrec,hcT⟩
 ·refine kla_makeFunction hcl hge hg hcode C hP ht hn hgT hb fun c' ctv h' tk hx h1 h2 hrec hT=>?_
  have hcT:c'≠T:=fun q=>by rw [q] at h1;exact absurd (Heap.lt_size hP) (Nat.not_lt.mpr h1)
  have hTn:(h'.push (kla_obj "<lambda>" (env.qual++"<lambda>") a e sc [] ((mg "__name__").getD .none) c' ctv)).get? T=some (tabObj (ps++#[rawInt pos.line,rawInt pos.col,.ref c'])):=AE _ hT
  refine hQ _ c' ctv _ tk _ (fun b o n eb=>AE _ (hx b o (by simpa using n) eb)) (Heap.get?_none_of_le (Nat.le_trans h1 (Nat.le_of_lt h2))) (Heap.get?_push_size _ rfl) (hrec.push _) hcT ⟨_,hTn,?_,⟨mr++#[rawInt pos.line,rawInt pos.col,.ref c'],by rw [hmr,Array.append_assoc]⟩,.inr ⟨c',?_,hrec.push _,hcT⟩⟩
  ·rw [Array.toList_append];exact Ll ht
  ·rw [Array.toList_append];exact codeAmong_snoc _ ht hn
 ·refine kla_makeFunctionHit hcl hge hg hcode C hP ht hf hb fun ctv h' tk hk hsz=>?_
  have kk:AY s.heap (h'.push (kla_obj "<lambda>" (env.qual++"<lambda>") a e sc [] ((mg "__name__").getD .none) c' ctv)):=fun b o eb=>AE _ (hk b o eb)
  exact hQ _ c' ctv _ tk _ (fun b o zz eb=>kk b o eb) (Heap.get?_none_of_le hsz) (Heap.get?_push_size _ rfl) (hrec.keeps kk) hcT (I.keep fun c o zz e=>kk c o e)
end
section
open PySem PySem.W
variable {B:Bs} {s s':Shared}
open PyProof.Rows
inductive Cs (w:World) (mg:SV) (WC RC:Addr) (p:Frag) (wa:Addr):Prop
 | mk (dW:Addr) (mW:SV) (na:Addr) (kvs:List (Str×Value)) (ra dR:Addr) (mR:SV) (ua:Addr) (t:Tok) (vi:Value) (h1:mW "named" = some (.ref na)) (h2:Within mW BQ) (h3:valueAt kvs "m.R" = some (.ref ra)) (h4:mR "underlying" = some (.ref ua)) (h5:(na == sysModules)=false) (h6:mg "_law_int" = some vi)
  (hold:∀ h:Heap,(∀ q∈p,h.get? q.1=some q.2)→C9 h wa WC dW mW∧h.DictOf (PySem.strKind P w) na kvs∧C9 h ra RC dR mR∧h.IsTuple ua #[.str "slice" t,vi]):Cs w mg WC RC p wa
noncomputable def Ab:Pos:=match YD with
 | some q=>q.2.2.2
 | none=>⟨0,0,0,0⟩
noncomputable def Qr:Arguments:=match TF with | some (a,_,_)=>a | none=>default
inductive CS (w:World) (mg:SV) (CC WC RC:Addr) (p:Frag) (ca:Addr):Prop
 | mk (dC:Addr) (mC:SV) (wa rd:Addr) (kvs:List (Str×Value)) (lam:Addr) (oL:Obj) (fdL:FuncData) (h1:mC "world" = some (.ref wa)) (h2:mC "readers" = some (.ref rd)) (h3:Within mC BO) (h4:Cs w mg WC RC p wa) (h5:valueAt kvs "told" = some (.ref lam))
  (h6:oL.data=.func fdL) (h7:∃ qual pm c' ctv,fdL=kla_fn "<lambda>" qual Qr DD CZ [] pm (.ref c') ctv)
  (hold:∀ h:Heap,(∀ q∈p,h.get? q.1=some q.2)→C9 h ca CC dC mC∧h.DictOf (PySem.strKind P w) rd kvs∧h.get? lam=some oL∧h.CodeRec fdL.code fdL.qualname):CS w mg CC WC RC p ca
structure LZ (B:Bs) (T:Addr) (cd:Addr) (fd:FuncData):Prop where
 hf:DT B 106 fd
 b0:Al B fd [] 0 []
 code:fd.code=.ref cd
 hd:CodeHd B.h0 cd T
 tab:B.h0.get? T=none
 blt:B.h0.BuiltinsAt B.mg T
 gU:B.mg "universe" = some (.ref (B.fnA 96))
 gInt:∃ v,B.mg "_law_int" = some v
noncomputable def E4 (h h':Heap):Frag:=(List.range h'.objs.size).filterMap fun a=>match h.get? a with | some _=>none | none=>(h'.get? a).map (a,·)
theorem MH {h h':Heap} {a:Addr} {o:Obj} (e1:h.get? a=none) (e2:h'.get? a=some o):(a,o)∈E4 h h':=by
 unfold E4
 rw [List.mem_filterMap]
 refine ⟨a,List.mem_range.mpr (Heap.lt_size e2),?_⟩
 rw [e1,e2];rfl
theorem Kp {h h':Heap} {q:Addr×Obj} (hq:q∈E4 h h'):h.get? q.1=none∧h'.get? q.1=some q.2:=by
 unfold E4 at hq
 obtain ⟨a,_,e⟩:=List.mem_filterMap.mp hq
 cases e1:h.get? a with
 | some o=>rw [e1] at e;cases e
 | none=>
  rw [e1] at e
  cases e2:h'.get? a with
  | none=>rw [e2] at e;cases e
  | some o=>rw [e2] at e;cases e;exact ⟨e1,e2⟩
theorem H6 {kvs:List (Str×Value)} {k:Str} {v:Value}:valueAt (stored kvs k v) k=some v:=by rw [Cc,if_pos rfl]
theorem Dn {h h':Heap} {d:Addr} {kvs:List (Str×Value)} (D:h.DictOf (PySem.strKind P B.w) d kvs) (k:∀ o,h.get? d=some o→h'.get? d=some o):h'.DictOf (PySem.strKind P B.w) d kvs:=by
 obtain ⟨o,es,ep,e,r⟩:=D;exact ⟨o,es,ep,k _ e,r⟩
theorem IC {h h':Heap} {d:Addr} {vs:Array Value} (D:h.IsTuple d vs) (k:∀ o,h.get? d=some o→h'.get? d=some o):h'.IsTuple d vs:=by
 obtain ⟨o,e,r⟩:=D;exact ⟨o,k _ e,r⟩
theorem N0:Fp (AM 106) []=true:=by decide +kernel
theorem DM {A:Around} {env:Env} {pos:Pos} {Q:List Value→Shared→Prop} {E:VP} (h:Q [] s):wpAny (mdl B) A (spliced (backTo pos (starEach [] env))) Q E s:=AD h
theorem Au {A:Around} {env:Env} {pos:Pos} {e:Expr} {es:List Expr} {Q:List Value→Shared→Prop} {E:VP} (hp:Ai e) (h:wpAny (mdl B) A (eval e env) (fun v s1=>wpAny (mdl B) A (spliced (backTo pos (starEach es env))) (fun vs s2=>Q (v::vs) s2) E s1) E s) :
  wpAny (mdl B) A (spliced (backTo pos (starEach (e::es) env))) Q E s:=by
 rw [AL hp]
 show wpAny (mdl B) A (do
  let v←eval e env
  let here←(pure [v]:Sem (List Value))
  return here++(←PySem.holding here (spliced (backTo pos (starEach es env))))) Q E s
 exact AA (AH h (fun v s1 h1=>AA (AD (AA (AG (AH h1 (fun vs s2 h2=>AD h2) fun zz zz x=>x))))) fun zz zz x=>x)
theorem Wo (b:AK B) (hlim:B.h0.NoLimit) {RC RN fI:Addr} {mk:SV} {fd:FuncData} (K:LX B RC RN fI mk fd) {A:Around} {env:Env} {m:SV} (X:Fn1 B env s.heap m) (hroom:A.depth + 1 < recursionLimit) (hg:B.mg "NamedRow" = some (.ref RC)) (hk:env.kindOf "NamedRow" = some .globalImplicit) {vi:Value} (hi:B.mg "_law_int" = some vi) (hki:env.kindOf "_law_int" = some .globalImplicit)
  {c1 c2 c3:Str} {k1 k2 k3 k4:Nat} {p p1 p2 p3 p4 p5 p6 pos:Pos} {E:VP} {Q:VP}
  (hQ:∀ h' tk x dx mR ua t,AY s.heap h'→s.heap.get? x=none→s.heap.get? dx=none→s.heap.get? ua=none→C9 h' x RC dx mR→mR "underlying" = some (.ref ua)→h'.IsTuple ua #[.str c3 t,vi]→Q (.ref x) {s with heap:=h',toks:=tk}) :
  wpAny (mdl B) A (eval (.Call (.Name "NamedRow" p) [.Constant (.str c1) k1 p1,.Constant (.str c2) k2 p2,.Tuple [.Constant (.str c3) k3 p3,.Name "_law_int" p4] k4 p5,.Dict [] [] p6] [] pos) env) Q E s:=by
 refine wpAny_Call_ofName (Vv.global b X hk (.inl hg) (by decide) _ _ _ rfl fun tk=>?_)
 refine call_cls (h₀:=s.heap) (K.cls.keeps X.stay) rfl ?_
 refine Au trivial (Vv.const_str _ _ _ fun t1 tk1=>Au trivial (Vv.const_str _ _ _ fun t2 tk2=>Au trivial ?_))
 rw [arm_eval_Tuple]
 refine AA (wpAny_standAt (AA (Au trivial (Vv.const_str _ _ _ fun t3 tk3=>Au trivial (Vv.global b X hki (.inl hi) (by decide) _ _ _ rfl fun tk4=>DM ?_)))))
 refine wpAny_newTuple ?_ (by rw [sizeLine_eq];show 2≤_;omega)
 refine Au trivial (wpAny_Dict_empty (DM ?_))
 obtain ⟨h1,e1⟩:∃ h1,h1=s.heap.push {cls:=.type "tuple",data:=.seq [.str c3 t3,vi].toArray}:=⟨_,rfl⟩
 have g1:AY s.heap h1:=by rw [e1];exact AY.push
 have g2:AY s.heap (h1.push {cls:=.type "dict",data:=.dict #[]}):=g1.trans AY.push
 have T1:h1.IsTuple s.heap.objs.size #[.str c3 t3,vi]:=by rw [e1];exact ⟨_,Heap.get?_push_size _ rfl,rfl,_,rfl⟩
 rw [←e1]
 refine ⟨g2,MM (s:={s with heap:=_,toks:=_}) hlim K hroom (fun c o e=>g2 c o (X.stay c o e)) fun h' tk5 x dx mR hg2 n1 n2 i1 hu=>?_⟩
 have old:∀ {c:Addr},(h1.push {cls:=.type "dict",data:=.dict #[]}).get? c=none→s.heap.get? c=none:=fun {c} h=>by
  cases e:s.heap.get? c with
  | none=>rfl
  | some o=>rw [g2 _ _ e] at h;cases h
 exact hQ h' tk5 x dx mR s.heap.objs.size t3 (g2.trans hg2) (old n1) (old n2) (Heap.get?_none_of_le (Nat.le_refl _)) i1 hu (IC T1 fun o e=>hg2 _ _ (AY.push _ _ e))
end
section
open PySem PySem.W
variable {B:Bs} {s s':Shared}
variable {ps0:Array Value}
open PyProof.Rows
theorem Tv {A:Around} {env:Env} {k:Str} {kk:Nat} {kp pos:Pos} {e:Expr} {E:VP} {Q:VP} {R:Value→Heap→Prop} {T:Addr} (hT:∃ o,s.heap.get? T=some o)
  (he:∀ (s1:Shared) (Q:VP) (E:VP),AY s.heap s1.heap→s1.heap.get? s.heap.objs.size=some {cls:=.type "dict",data:=.dict #[]}→(∀ v h' tk,AU [T] s1.heap h'→R v h'→Q v {s1 with heap:=h',toks:=tk})→wpAny (mdl B) A (eval e env) Q E s1)
  (hR:∀ v h h',(∃ o,h.get? s.heap.objs.size=some o∧∀ vs,o.data≠.fields vs)→R v h→(∀ c o,c≠s.heap.objs.size→h.get? c=some o→h'.get? c=some o)→R v h')
  (hQ:∀ v h' tk,AU [T] s.heap h'→R v h'→h'.DictOf (PySem.strKind P B.w) s.heap.objs.size [(k,v)]→Q (.ref s.heap.objs.size) {s with heap:=h',toks:=tk}) :
  wpAny (mdl B) A (eval (.Dict [some (.Constant (.str k) kk kp)] [e] pos) env) Q E s:=by
 have hTs:T≠s.heap.objs.size:=CU hT
 refine wpAny_Dict_walk (knd:=PySem.strKind P B.w) rfl rfl (by simp) (by show 1≤15;omega) ?_
 refine pairTrees_cons_walk (Calls.Constant_str ?_)
 refine he _ _ _ AY.push (Heap.get?_push_size _ rfl) fun v h' tk kb r=>?_
 refine pairTrees_nil_walk ⟨[(k,v)],⟨strKind_is _ _ _ _,rfl,trivial⟩,?_,fun h2 hd2 hsb=>?_⟩
 ·have e0:(s.heap.push {cls:=.type "dict",data:=.dict #[]}).get? s.heap.objs.size=some {cls:=.type "dict",data:=.dict #[]}:=Heap.get?_push_size _ rfl
  exact Heap.dictOf_iff.mpr ⟨_,kb _ _ (by simpa using Ne.symm hTs) e0,#[],0,⟨rfl,rfl,rfl⟩,rfl,(fun e he=>by simp at he),.nil,List.nodup_nil⟩
 ·refine hQ v h2 _ (fun c o n ec=>(hsb.2 c (Nat.ne_of_lt (Heap.lt_size ec))).trans (kb c o n (AE _ ec))) (hR v _ _ ⟨_,kb _ _ (by simpa using Ne.symm hTs) (Heap.get?_push_size _ rfl),fun vs q=>by cases q⟩ r fun c o n ec=>(hsb.2 c n).trans ec) ?_
  exact hd2
inductive Ye (B:Bs) (WC NC:Addr) (s0 h:Heap) (wa:Addr):Prop
 | mk (dW:Addr) (mW:SV) (na:Addr) (kvs:List (Str×Value)) (ra dR:Addr) (mR:SV) (ua:Addr) (t:Tok) (vi:Value) (h1:mW "named" = some (.ref na)) (h2:Within mW BQ) (h3:valueAt kvs "m.R" = some (.ref ra)) (h4:mR "underlying" = some (.ref ua)) (h5:(na == sysModules)=false) (h6:B.mg "_law_int" = some vi)
  (hold:C9 h wa WC dW mW∧h.DictOf (PySem.strKind P B.w) na kvs∧C9 h ra NC dR mR∧h.IsTuple ua #[.str "slice" t,vi]) (n1:s0.get? wa=none) (n2:s0.get? dW=none) (n3:s0.get? na=none) (n4:s0.get? ra=none) (n5:s0.get? dR=none) (n6:s0.get? ua=none):Ye B WC NC s0 h wa
structure Yd (B:Bs) (WC NC:Addr) (s0 h:Heap) (env:Env) (m:SV) (wa:Addr):Prop where
 keep:AY s0 h
 fn:Fn1 B env h m
 mw:m "world" = some (.ref wa)
 ex:Ye B WC NC s0 h wa
noncomputable def UC:List Stmt:=(Am 106).drop 2
theorem Qm (b:AK B) (hlim:B.h0.NoLimit) {WC WN fW:Addr} {mkW:SV} {fdW:FuncData} {NC NN fN:Addr} {mkN:SV} {fdK fdN:FuncData} (WF:Gr B WC WN fW mkW fdW NC NN fN mkN fdK fdN) {T cd:Addr} {fd:FuncData} (LF:LZ B T cd fd) (hsys:∃ o,B.h0.get? sysModules=some o)
  (gW:B.mg "World" = some (.ref WC)) (ga:mkW "__getattribute__" = none) {A A':Around} {env:Env} {m:SV} {s0:Heap} {Q:FP} {E':VP} (hr:A'.depth + 7 < recursionLimit) (h0s:B.h0.StaysIn s0) (F:Xe B fd A env (AM 106).names s0 s.heap m A')
  (hQ:∀ h' tk m' wa,Yd B WC NC s0 h' env m' wa→Wx B A' env UC Q E' {s with heap:=h',toks:=tk}):Wx B A' env (Am 106) Q E' s:=by
 have X:=F.fn
 have ko:∀ y,env.kindOf y=(AM 106).names.lookup y:=fun y=>by
  show env.scope.names.lookup y=_
  rw [F.sc]
 have hL:∃ o,s.heap.get? env.locals=some o:=by obtain ⟨o,_,_,e,_⟩:=X.ns;exact ⟨o,e⟩
 have neL:∀ {c:Addr},s.heap.get? c=none→c≠env.locals:=fun e q=>by obtain ⟨o,e'⟩:=hL;rw [←q,e] at e';cases e'
 have old:∀ {c:Addr},s.heap.get? c=none→s0.get? c=none:=fun {c} h=>by
  cases e:s0.get? c with
  | none=>rfl
  | some o=>rw [F.keep _ _ e] at h;cases h
 refine Wx.cons (wpAny_Assign_Name (wpAny_Call_ofName (Vv.global b X ((ko _).trans rfl) (.inl gW) (by decide) _ _ _ rfl fun tk1=>?_)) rfl)
 refine call_cls (h₀:=s.heap) (WF.cls.cls.keeps X.stay) rfl (DM ⟨AY.refl,Nw (s:={s with toks:=tk1}) b hlim WF (by omega) X.stay fun h1 tk2 wa dW mW na kvs g1 nw ndw nna W1 hna ww hl D1 ne1 ne2=>?_⟩)
 refine wpAny_storeName_local (s:={s with heap:=h1,toks:=tk2}) ((ko _).trans rfl) (X.grew g1).ns (fun h2 hn2 sb=>?_) (by rw [X.kind];rfl)
 have k12:∀ c o,c≠env.locals→h1.get? c=some o→h2.get? c=some o:=fun c o n e=>(sb.2 c n).trans e
 have X2:Fn1 B env h2 (fun y=>if y = "world" then some (.ref wa) else m y):=⟨X.kind,X.glob,X.bltn,hn2,fun c o e=>k12 c o (fun q=>by have:=h0s c o e;rw [q,F.new] at this;cases this) ((X.grew g1).stay c o e)⟩
 have W2:=W1.at (h':=h2) (fun o=>k12 _ o (neL nw)) (fun o=>k12 _ o (neL ndw))
 have D2:=Dn (h':=h2) D1 (fun o=>k12 _ o (neL nna))
 have old2:∀ {c:Addr},h2.get? c=none→s0.get? c=none:=fun {c} h=>by
  cases e:s0.get? c with
  | none=>rfl
  | some o=>rw [k12 c o (fun q=>by rw [q,F.new] at e;cases e) (g1 _ _ (F.keep _ _ e))] at h;cases h
 have na2:∃ o,h2.get? na=some o:=by obtain ⟨o,_,_,e,_⟩:=D2;exact ⟨o,e⟩
 obtain ⟨vi,hvi⟩:=LF.gInt
 refine Wx.cons (wpAny_Assign_Subscript (Wo (s:={s with heap:=h2,toks:=_}) b hlim WF.known.row X2 (by omega) WF.known.gRow ((ko _).trans rfl) hvi ((ko _).trans rfl) fun h3 tk3 ra dR mR ua t g3 n1 n2 n3 R3 hu T3=>?_) rfl)
 have X3:=X2.grew g3
 have W3:=W2.at (h':=h3) (g3 _) (g3 _)
 refine Vv.attr (Vv.name X3 ((ko _).trans rfl) (if_pos rfl) (by decide)) (WF.cls.cls.keeps X3.stay) W3.inst ga (WF.cls.free "named" (by decide +kernel)).at_ Df.1 hna rfl _ _ _ rfl fun tk4=>Vv.const_str _ _ _ fun t5 tk5=>?_
 refine wpAny_setItem_pairs (k:="m.R") (knd:=PySem.strKind P B.w) (by show Value.isStrOf "m.R" (.str "m.R" t5)=true;simp [Value.isStrOf]) (Dn D2 (g3 _)) (fun h4 D4 sb4=>?_) (by rw [sizeLine_eq];omega)
 have k34:∀ c o,c≠na→h3.get? c=some o→h4.get? c=some o:=fun c o n e=>(sb4.2 c n).trans e
 have neN:∀ {c:Addr},h2.get? c=none→c≠na:=fun e q=>by obtain ⟨o,e'⟩:=na2;rw [←q,e] at e';cases e'
 have X4:Fn1 B env h4 (fun y=>if y = "world" then some (.ref wa) else m y):=⟨X.kind,X.glob,X.bltn,by
   obtain ⟨o,es,ep,e,r⟩:=X3.ns
   exact ⟨o,es,ep,k34 _ _ (fun q=>neL nna q.symm) e,r⟩,fun c o e=>k34 c o (fun q=>by have:=X.stay c o e;rw [q,nna] at this;cases this) (X3.stay c o e)⟩
 have W4:=W3.at (h':=h4) (fun o=>k34 _ o ne1) (fun o=>k34 _ o ne2)
 have R4:=R3.at (h':=h4) (fun o=>k34 _ o (neN n1)) (fun o=>k34 _ o (neN n2))
 have T4:=IC (h':=h4) T3 (fun o=>k34 _ o (neN n3))
 have ks4:AY s0 h4:=fun c o e=>k34 c o (fun q=>by rw [q,old nna] at e;cases e) (g3 _ _ (k12 c o (fun q=>by rw [q,F.new] at e;cases e) (g1 _ _ (F.keep _ _ e))))
 have hsn:(na == sysModules)=false:=by
  obtain ⟨o,e⟩:=hsys
  cases q:(na == sysModules) with
  | false=>rfl
  | true=>
   have:=h0s _ _ e
   rw [←eq_of_beq q,old nna] at this;cases this
 exact hQ h4 _ _ wa ⟨ks4,X4,if_pos rfl,dW,mW,na,_,ra,dR,mR,ua,t,vi,hna,ww,H6,hu,hsn,hvi,⟨W4,D4,R4,T4⟩,old nw,old ndw,old nna,old2 n1,old2 n2,old2 n3⟩
end
section
open PySem PySem.W
variable {B:Bs} {s s':Shared}
variable {ps0:Array Value}
open PyProof.Rows
structure Pj (ps0:Array Value) (qual:Str) (s0 h:Heap) (T f c':Addr) (ctv pm:Value):Prop where
 new:s0.get? f=none
 obj:h.get? f=some (kla_obj "<lambda>" qual Qr DD CZ [] pm c' ctv)
 cdr:h.CodeRec (.ref c') qual
 ne:c'≠T
 inv:AV ps0 T Ab qual h
theorem Pj.at {ps0:Array Value} {qual:Str} {s0 h h':Heap} {T f c':Addr} {ctv pm:Value} (x:Pj ps0 qual s0 h T f c' ctv pm) (k:∀ c o,(∃ vs,o.data=.fields vs)→h.get? c=some o→h'.get? c=some o) (kf:∀ o,h.get? f=some o→h'.get? f=some o):Pj ps0 qual s0 h' T f c' ctv pm:=by
 obtain ⟨c,o,vs,t,q1,q2,q3,q4⟩:=x.cdr
 exact ⟨x.new,kf _ x.obj,⟨c,o,vs,t,q1,k _ _ ⟨_,q3⟩ q2,q3,q4⟩,x.ne,x.inv.keep k⟩
theorem Dr {env:Env} {pos:Pos} {as:List Expr} (hp:Af as=true):(backTo pos (starEach as env)).any (·.1)=false:=by
 have:=GZ (env:=env) (pos:=pos) hp
 rw [List.any_eq_false]
 intro z hz
 have:=List.all_eq_true.mp this z hz
 simpa using this
theorem Ms (b:AK B) (hlim:B.h0.NoLimit) {SC SN fI fD RC RN fR:Addr} {mkS mkR:SV} {fdI fdD fdR:FuncData} (U:CB B SC SN fI fD RC RN fR mkS mkR fdI fdD fdR) {fdU:FuncData} (V:LV B SC fdU)
  {CC CN fC:Addr} {mkC:SV} {fdC:FuncData} (CF:Gs B CC CN fC mkC fdC) {T cd:Addr} {fd:FuncData} (LF:LZ B T cd fd) (gC:B.mg "Checker" = some (.ref CC)) {WC NC:Addr}
  {A A':Around} {env:Env} {m:SV} {s0 h₀:Heap} {wa:Addr} {Q:FP} {E':VP} (hr:A'.depth + 7 < recursionLimit) (hh:A'.handled=none) {m0:SV} (F:Xe B fd A env (AM 106).names s0 h₀ m0 A') (S:Yd B WC NC s0 s.heap env m wa)
  (I:AV ps0 T Ab (fd.qualname++".<locals>."++"<lambda>") s.heap) (hTs:∃ o,s0.get? T=some o)
  (hQ:∀ h' tk ca pins,AU [T] s0 h'→AV ps0 T Ab (fd.qualname++".<locals>."++"<lambda>") h'→(∀ q∈pins,h'.get? q.1=some q.2∧q.1≠T∧(s0.get? q.1=none∨∃ vs,q.2.data=.fields vs))→CS B.w B.mg CC WC NC pins ca→Q (.ret (.ref ca)) {s with heap:=h',toks:=tk}):Wx B A' env UC Q E' s:=by
 have X4:=S.fn
 have ko:∀ y,env.kindOf y=(AM 106).names.lookup y:=fun y=>by
  show env.scope.names.lookup y=_
  rw [F.sc]
 have hq2:env.qual++"<lambda>" = fd.qualname++".<locals>."++"<lambda>":=by rw [F.qual]
 have hT4:∃ o,s.heap.get? T=some o:=by obtain ⟨o,e⟩:=hTs;exact ⟨o,S.keep _ _ e⟩
 refine Wx.ret ?_
 refine wpAny_Call_ofName ?_
 refine Vv.global b X4 ((ko _).trans rfl) (.inl gC) (by decide) _ _ _ rfl fun tk6=>?_
 refine call_cls (h₀:=B.h0) CF.cls.cls (Dr rfl) ?_
 refine Au trivial ?_
 refine Vv.name X4 ((ko _).trans rfl) S.mw (by decide) _ _ _ rfl fun tk7=>?_
 refine Au trivial ?_
 refine Vv.const_str _ _ _ fun t8 tk8=>?_
 refine Au trivial ?_
 refine wpAny_Call_ofName ?_
 refine Vv.global b X4 ((ko _).trans rfl) (.inl V.gS) (by decide) _ _ _ rfl fun tk9=>?_
 obtain ⟨oU,hoU,hdU,_⟩:=V.hf.obj
 refine call_cls (h₀:=s.heap) (U.sco.cls.keeps X4.stay) (Dr rfl) ?_
 refine Au trivial ?_
 refine wpAny_Call_ofName ?_
 refine Vv.global b X4 ((ko _).trans rfl) (.inl LF.gU) (by decide) _ _ _ rfl fun tk10=>?_
 refine Calls.callWith_function (o:=oU) (fd:=fdU) (Bg rfl (AD ⟨⟨X4.stay _ _ hoU,hdU⟩,?_⟩))
 refine JL (s:={s with toks:=tk10}) b hlim U V hh (by omega) X4.stay fun h5 tk11 vU g5=>?_
 refine DM ⟨g5,?_⟩
 refine Ig (s:={s with heap:=h5,toks:=tk11}) b hlim U V.sys (by omega) (fun c o e=>g5 _ _ (X4.stay c o e)) fun h6 tk12 sc dxs rd g6 zz zz zz=>?_
 have g46:AY s.heap h6:=g5.trans g6
 refine Au trivial ?_
 refine Vv.const_str _ _ _ fun t13 tk13=>?_
 refine Au trivial ?_
 have X6:=X4.grew g46
 have hT6:∃ o,h6.get? T=some o:=by obtain ⟨o,e⟩:=hT4;exact ⟨o,g46 _ _ e⟩
 have ks6:AY s0 h6:=S.keep.trans g46
 have I6:AV ps0 T Ab (fd.qualname++".<locals>."++"<lambda>") h6:=I.keep fun c o zz e=>g46 _ _ e
 have hgT:mainGlobals≠T:=fun q=>by obtain ⟨o,_,_,e,_⟩:=b.hmg;rw [q,LF.tab] at e;cases e
 refine Tv (s:={s with heap:=h6,toks:=tk13}) (R:=fun v h=>∃ f c' ctv pm,v=.ref f∧f≠h6.objs.size∧Pj ps0 (fd.qualname++".<locals>."++"<lambda>") s0 h T f c' ctv pm) (T:=T) hT6 (fun s1 Q1 E1 g7 hd1 hq=>?_) (fun v h h' hd r k=>?_) fun v h7 tk14 kb r D7=>?_
 ·have st1:B.h0.StaysIn s1.heap:=fun c o e=>g7 _ _ (X6.stay c o e)
  have I1:AV ps0 T Ab (env.qual++"<lambda>") s1.heap:=by rw [hq2];exact I6.keep fun c o zz e=>g7 _ _ e
  refine TA (c:=cd) (T:=T) (mg:=B.mg) rfl rfl X4.glob (b.hmg.keeps st1) (F.code.trans LF.code) (LF.hd.keeps st1) I1 hgT ?_ fun f c' ctv h' tk15 pm kb hf hf2 hrec hcT hI=>hq _ h' tk15 kb ⟨f,c',ctv,pm,rfl,fun q=>?_,?_,?_,?_,hcT,?_⟩
  ·obtain ⟨bm,o,q1,q2,q3,q4,q5,q6⟩:=LF.blt
   exact ⟨bm,o,q1,q2,q3,q4,st1 _ _ q5,q6⟩
  ·rw [q,hd1] at hf;cases hf
  ·cases e:s0.get? f with
   | none=>rfl
   | some o=>rw [g7 _ _ (ks6 _ _ e)] at hf;cases hf
  ·rw [hq2] at hf2;exact hf2
  ·rw [hq2] at hrec;exact hrec
  ·rw [hq2] at hI;exact hI
 ·obtain ⟨f,c',ctv,pm,rfl,q1,q2⟩:=r
  refine ⟨f,c',ctv,pm,rfl,q1,q2.at (fun c o hf e=>k c o (fun q=>?_) e) (fun o e=>k f o q1 e)⟩
  obtain ⟨vs,hf⟩:=hf
  obtain ⟨o',e',n'⟩:=hd
  rw [q,e'] at e;cases e
  exact n' vs hf
 ·obtain ⟨f,c',ctv,pm,rfl,q1,L7⟩:=r
  refine Au trivial ?_
  refine Pv.none _ _ _ rfl fun v9 tk16 hv9=>?_
  subst hv9
  refine DM ⟨fun c o e=>?_,?_⟩
  ·exact kb c o (by simp;exact fun q=>by rw [q,LF.tab] at e;cases e) (X6.stay c o e)
  have hTe:∃ o,h7.get? T=some o:=by obtain ⟨ps,e,_⟩:=L7.inv.at_;exact ⟨_,e⟩
  have old7:∀ {c:Addr},h7.get? c=none→s0.get? c=none:=fun {c} h=>by
   cases e:s0.get? c with
   | none=>rfl
   | some o=>
    by_cases q:c=T
    ·obtain ⟨o',e'⟩:=hTe;rw [q,e'] at h;cases h
    ·rw [kb c o (by simpa using q) (ks6 _ _ e)] at h;cases h
  have stay7:B.h0.StaysIn h7:=fun c o e=>kb c o (by simp;exact fun q=>by rw [q,LF.tab] at e;cases e) (X6.stay c o e)
  have dep:A'.depth + 1 < recursionLimit:=by omega
  refine Kr (s:={s with heap:=h7,toks:=tk16}) b hlim CF dep stay7 fun h8 tk17 ca dC mC g8 nca ndC C8 mw8 mr8 wC=>?_
  have L8:=L7.at (h':=h8) (fun c o zz e=>g8 _ _ e) (fun o e=>g8 _ _ e)
  obtain ⟨c1,oc,vs,t,e1,e2,e3,e4⟩:=L8.cdr
  cases e1
  have neT:∀ {c:Addr},s0.get? c=none→c≠T:=fun e q=>by obtain ⟨o,e'⟩:=hTs;rw [←q,e] at e';cases e'
  have kk:∀ {c:Addr} {o:Obj},s0.get? c=none→s.heap.get? c=some o→h8.get? c=some o:=fun n e=>g8 _ _ (kb _ _ (by simpa using neT n) (g46 _ _ e))
  obtain ⟨dW,mW,na,kvs,ra,dR,mR,ua,tt,vi,f1,f2,f3,f4,f5,f6,⟨W,D,R,Tp⟩,n1,n2,n3,n4,n5,n6⟩:=S.ex
  have nd:s0.get? h6.objs.size=none:=by
   cases e:s0.get? h6.objs.size with
   | none=>rfl
   | some o=>exact absurd (Heap.lt_size (ks6 _ _ e)) (Nat.lt_irrefl _)
  have D8:=Dn D7 (g8 _)
  have pin:∀ {h:Heap},(∀ q∈E4 s0 h8++[(c',oc)],h.get? q.1=some q.2)→∀ {c:Addr} {o:Obj},s0.get? c=none→h8.get? c=some o→h.get? c=some o:=fun hp zz zz n e=>hp _ (List.mem_append_left _ (MH n e))
  refine hQ h8 tk17 ca (E4 s0 h8++[(c',oc)]) (fun c o n e=>g8 _ _ (kb c o n (ks6 _ _ e))) L8.inv (fun q hq=>?_) ⟨dC,mC,wa,h6.objs.size,[("told",.ref f)],f,kla_obj "<lambda>" (fd.qualname++".<locals>."++"<lambda>") Qr DD CZ [] pm c' ctv,kla_fn "<lambda>" (fd.qualname++".<locals>."++"<lambda>") Qr DD CZ [] pm (.ref c') ctv,mw8,mr8,wC,⟨dW,mW,na,kvs,ra,dR,mR,ua,tt,vi,f1,f2,f3,f4,f5,f6,fun h hp=>?_⟩,?_,rfl,⟨_,pm,c',ctv,rfl⟩,fun h hp=>?_⟩
  ·rcases List.mem_append.mp hq with hq | hq
   ·obtain ⟨a1,a2⟩:=Kp hq
    exact ⟨a2,neT a1,.inl a1⟩
   ·rw [List.mem_singleton.mp hq]
    exact ⟨e2,L8.ne,.inr ⟨vs,e3⟩⟩
  ·exact ⟨W.at (fun o e=>pin hp n1 (kk n1 e)) (fun o e=>pin hp n2 (kk n2 e)),Dn D (fun o e=>pin hp n3 (kk n3 e)),R.at (fun o e=>pin hp n4 (kk n4 e)) (fun o e=>pin hp n5 (kk n5 e)),IC Tp (fun o e=>pin hp n6 (kk n6 e))⟩
  ·unfold valueAt
   simp
  ·refine ⟨C8.at (fun o e=>pin hp (old7 nca) e) (fun o e=>pin hp (old7 ndC) e),Dn D8 (fun o e=>pin hp nd e),pin hp L8.new L8.obj,⟨c',oc,vs,t,rfl,hp _ (List.mem_append_right _ (.head _)),e3,e4⟩⟩
theorem LI (b:AK B) (hlim:B.h0.NoLimit) {SC SN fI fD RC RN fR:Addr} {mkS mkR:SV} {fdI fdD fdR:FuncData} (U:CB B SC SN fI fD RC RN fR mkS mkR fdI fdD fdR) {fdU:FuncData} (V:LV B SC fdU)
  {WC WN fW:Addr} {mkW:SV} {fdW:FuncData} {NC NN fN:Addr} {mkN:SV} {fdK fdN:FuncData} (WF:Gr B WC WN fW mkW fdW NC NN fN mkN fdK fdN) {CC CN fC:Addr} {mkC:SV} {fdC:FuncData} (CF:Gs B CC CN fC mkC fdC) {T cd:Addr} {fd:FuncData} (LF:LZ B T cd fd)
  (gW:B.mg "World" = some (.ref WC)) (gC:B.mg "Checker" = some (.ref CC)) (ga:mkW "__getattribute__" = none) {A:Around} {E:VP} {Q:VP}
  (hh:A.handled=none) (hroom:A.depth + 8 < recursionLimit) (h0s:B.h0.StaysIn s.heap) (I:AV ps0 T Ab (fd.qualname++".<locals>."++"<lambda>") s.heap)
  (hQ:∀ h' tk ca pins,AU [T] s.heap h'→AV ps0 T Ab (fd.qualname++".<locals>."++"<lambda>") h'→(∀ q∈pins,h'.get? q.1=some q.2∧q.1≠T∧(s.heap.get? q.1=none∨∃ vs,q.2.data=.fields vs))→CS B.w B.mg CC WC NC pins ca→Q (.ref ca) {s with heap:=h',toks:=tk}) :
  wpAny (mdl B) A (call (.ref (B.fnA 106)) []) Q E s:=by
 refine Dj hlim LF.hf.hand N0 (vs:=[]) rfl (by omega) h0s (LF.b0 _ [] h0s rfl) fun h₀ tk env m A' E' F hm=>?_
 have hr:A'.depth + 7 < recursionLimit:=by have:=F.dep;omega
 have hTs:∃ o,s.heap.get? T=some o:=by obtain ⟨ps,e,_⟩:=I.at_;exact ⟨_,e⟩
 refine Qm (s:={s with heap:=h₀,toks:=tk}) b hlim WF LF V.sys gW ga hr h0s F fun h4 tk4 m4 wa S=>?_
 exact Ms (s:={s with heap:=h4,toks:=tk4}) b hlim U V CF LF gC hr (F.handled hh) F S (I.keep fun c o zz e=>S.keep _ _ e) hTs fun h' tk' ca pins a1 a2 a3 a4=>hQ h' tk' ca pins a1 a2 a3 a4
end
section
open PySem PySem.W
variable {B:Bs} {s s':Shared}
open PyProof.Rows
theorem H5 {mA:SV} {ns:List Str} {x:Str} (h:Within mA ns) (hx:DB x ns=false):mA x=none:=by
 cases e:mA x with
 | none=>rfl
 | some v=>exact absurd (h x (by rw [e];simp)) (S5 hx)
theorem Qq (qual:Str) (pm cdv ctv:Value):∀ v1 v2 v3,bindArgs (kla_fn "<lambda>" qual Qr DD CZ [] pm cdv ctv) ⟨[v1,v2,v3],[]⟩=(pure [(("checker" : Str),v1),(("node" : Str),v2),(("wanted" : Str),v3)]:Sem (List (Str×Value))):=fun v1 v2 v3=>by
 rfl
theorem Ve {CC WC NC:Addr} {p:Frag} {ca:Addr} (x:CS B.w B.mg CC WC NC p ca):∃ rd lam mC mp oL fdL,∀ h,B.h0.StaysIn h→(∀ q∈p,h.get? q.1=some q.2)→Vx B CC h ca rd lam mC mp oL fdL:=by
 obtain ⟨dC,mC,wa,rd,kvs,lam,oL,fdL,h1,h2,h3,h4,h5,h6,⟨qual,pm,c',ctv,rfl⟩,hold⟩:=x
 refine ⟨rd,lam,mC,valueAt kvs,oL,kla_fn "<lambda>" qual Qr DD CZ [] pm (.ref c') ctv,fun h hs hp=>?_⟩
 obtain ⟨i,d,o,c⟩:=hold h hp
 exact ⟨i.inst,h2,d.mapOf,h5,rfl,o,h6,rfl,rfl,c,rfl,rfl,Qq _ _ _ _⟩
theorem Ue (b:AK B) {WC NC:Addr} {p:Frag} {wa:Addr} (hi:Dg (nm "_law_int") B.G=some (.tup [.str [105,110,116],.str [105,110,116]])) (x:Cs B.w B.mg WC NC p wa) :
  ∃ ua na ra mW mR mp,∀ h,B.h0.StaysIn h→(∀ q∈p,h.get? q.1=some q.2)→UT B WC NC h wa ua na ra mW mR mp∧∀ W,Rd B W h EU (.ref ua):=by
 obtain ⟨dW,mW,na,kvs,ra,dR,mR,ua,t,vi,h1,h2,h3,h4,h5,h6,hold⟩:=x
 refine ⟨ua,na,ra,mW,mR,valueAt kvs,fun h hs hp=>?_⟩
 obtain ⟨i,d,r,tp⟩:=hold h hp
 refine ⟨⟨i.inst,h1,H5 h2 (by decide +kernel),d.mapOf,h5,h3,r.inst,h4,rfl,rfl,⟨_,t,tp,rfl⟩⟩,fun W=>.tup ua _ _ tp (.cons _ _ _ _ (.str _ _ _ (by decide)) (.cons _ _ _ _ ?_ .nil))⟩
 obtain ⟨v,hv,rd⟩:=b.glob "_law_int" _ hi
 rcases hv with hv | ⟨hv,_⟩
 ·rw [h6] at hv;cases hv;exact rd W h hs
 ·rw [h6] at hv;cases hv
set_option tactic.hygienic true in
theorem Nu {i:Nat} {x:Str} (h:CJ (nm x)=some i):DB x BO=false:=by
 unfold CJ at h
 have e:∀ {y:Str},(nm x == nm y)=true→x=y:=fun h=>Aj (eq_of_beq h)
 split at h
 ·rename_i q;rw [e q];decide +kernel
 ·split at h
  ·rename_i q;rw [e q];decide +kernel
  ·split at h
   ·rename_i q;rw [e q];decide +kernel
   ·split at h
    ·rename_i q;rw [e q];decide +kernel
    ·cases h
theorem XW {CC WC NC:Addr} {p:Frag} {ca:Addr} (x:CS B.w B.mg CC WC NC p ca):∀ h,B.h0.StaysIn h→(∀ q∈p,h.get? q.1=some q.2)→∃ mA wa,h.Inst ca CC mA∧mA "world" = some (.ref wa)∧Cs B.w B.mg WC NC p wa∧∀ i x,CJ (nm x)=some i→mA x=none:=fun h hs hp=>by
 obtain ⟨dC,mC,wa,rd,kvs,lam,oL,fdL,h1,h2,h3,h4,h5,h6,h7,hold⟩:=x
 exact ⟨mC,wa,(hold h hp).1.inst,h1,h4,fun i x hx=>H5 h3 (Nu hx)⟩
theorem Cs.mono {w:World} {mg:SV} {WC RC:Addr} {p q:Frag} {wa:Addr} (h:∀ x∈p,x∈q) (x:Cs w mg WC RC p wa):Cs w mg WC RC q wa:=by
 obtain ⟨dW,mW,na,kvs,ra,dR,mR,ua,t,vi,h1,h2,h3,h4,h5,h6,hold⟩:=x
 exact ⟨dW,mW,na,kvs,ra,dR,mR,ua,t,vi,h1,h2,h3,h4,h5,h6,fun hh hp=>hold hh fun y hy=>hp y (h y hy)⟩
theorem CS.mono {w:World} {mg:SV} {CC WC RC:Addr} {p q:Frag} {ca:Addr} (h:∀ x∈p,x∈q) (x:CS w mg CC WC RC p ca):CS w mg CC WC RC q ca:=by
 obtain ⟨dC,mC,wa,rd,kvs,lam,oL,fdL,h1,h2,h3,h4,h5,h6,h7,hold⟩:=x
 exact ⟨dC,mC,wa,rd,kvs,lam,oL,fdL,h1,h2,h3,h4.mono h,h5,h6,h7,fun hh hp=>hold hh fun y hy=>hp y (h y hy)⟩
end
section
open PySem PySem.W
variable {B:Bs} {F:Fv} {W W':Wd} {σ σ':St} {s s':Shared}
variable {ps0:Array Value}
open PyProof.Rows
structure Ep (B:Bs) (ps0:Array Value) (T:Addr) (qual:Str):Prop where
 b:AK B
 hG:B.G=G0
 hlim:B.h0.NoLimit
 tab:B.h0.get? T=none
 chk:∀ (A:Around) (s:Shared) (E Q:VP),A.handled=none→A.depth + 8 < recursionLimit→B.h0.StaysIn s.heap→AV ps0 T Ab qual s.heap→
  (∀ h' tk ca pins,AU [T] s.heap h'→AV ps0 T Ab qual h'→(∀ q∈pins,h'.get? q.1=some q.2∧q.1≠T∧(s.heap.get? q.1=none∨∃ vs,q.2.data=.fields vs))→B.ChkP pins ca→Q (.ref ca) {s with heap:=h',toks:=tk})→
  wpAny (mdl B) A (call (.ref (B.fnA 106)) []) Q E s
 snd:AX B (.ref (B.fnA 4)) RU
 told:∃ fd,HN B 107 K7 fd (Am 107)∧fd.scope=AM 107
 gChk:B.mg "_law_checker" = some (.ref (B.fnA 106))
 obj:∃ o fd,B.h0.get? (B.fnA 106)=some o∧o.data=.func fd
noncomputable abbrev KH (T:Addr) (fr:List Addr) (S:Addr) (h h':Heap):Prop:=∀ b o,h.get? b=some o→b≠S→b≠T→(b∉fr→h'.get? b=some o)∧∃ sl,h'.get? b=some {o with slots:=sl}
noncomputable abbrev UU (h:Heap) (pins:Frag):Prop:=∀ q∈pins,h.get? q.1=none∨∃ vs,q.2.data=.fields vs
theorem Good.table (b:AK B) (G:Good B F W σ s) (hW:W.pins=[]) {T:Addr} {qual:Str} (hT0:B.h0.get? T=none) (I:AV ps0 T Ab qual s.heap) (hTB:F.base.get? T=none) {h':Heap} {tk:Nat} (k:AU [T] s.heap h') (I':AV ps0 T Ab qual h') {pins:Frag}
  (hp:∀ q∈pins,h'.get? q.1=some q.2∧q.1≠T∧(s.heap.get? q.1=none∨∃ vs,q.2.data=.fields vs)):Good B F ⟨W.nu,pins⟩ σ {s with heap:=h',toks:=tk}∧∀ {d:D} {v:Value},Rd B W s.heap d v→Rd B ⟨W.nu,pins⟩ h' d v:=by
 obtain ⟨ps,eT,_⟩:=I.at_
 have kk:∀ {c:Addr} {o:Obj},s.heap.get? c=some o→(∀ vs,o.data≠.fields vs)→h'.get? c=some o:=fun {c o} e n=>k c o (by simp;exact fun q=>by rw [q,eT] at e;cases e;exact n _ rfl) e
 have rd:∀ {d:D} {v:Value},Rd B W s.heap d v→Rd B ⟨W.nu,pins⟩ h' d v:=fun r=>Rd.mono (W:=W) (W':=⟨W.nu,pins⟩) b (List.prefix_refl _) (fun p hp=>by rw [hW] at hp;cases hp) (fun a vs ⟨o,e,c,n,d⟩=>⟨o,kk e (fun us q=>by rw [d] at q;cases q),c,n,d⟩) (fun a vs _ ⟨o,e,c,n,d⟩=>⟨o,kk e (fun us q=>by rw [d] at q;cases q),c,n,d⟩) r
 have kb:∀ {h0:Heap},h0.StaysIn s.heap→h0.get? T=none→h0.StaysIn h':=fun hs hn c o e=>k c o (by simp;exact fun q=>by rw [q,hn] at e;cases e) (hs c o e)
 refine ⟨{ok:=G.ok,dep:=G.dep,depth:=G.depth,units:=G.units,stay0:=kb G.stay0 hT0,stayB:=kb G.stayB hTB,frames:=G.frames.of_keeps fun c o e nf=>⟨o,kk e nf,rfl⟩,ns:=?_,cells:=?_,own:=?_,src:=?_,pins:=?_,vars:=?_,picks:=⟨G.picks.len,G.picks.cand,G.picks.cmps⟩,rest:=G.rest},rd⟩
 ·obtain ⟨m,n⟩:=G.ns
  obtain ⟨o,e,_,nf⟩:=BF n
  obtain ⟨o',es,ep,e',r⟩:=n
  rw [e] at e';cases e'
  exact ⟨m,o,es,ep,kk e nf,r⟩
 ·intro x c hc
  obtain ⟨ov,z⟩:=G.cells x c hc
  obtain ⟨o,e,_,nf⟩:=BP z
  obtain ⟨o',e',r⟩:=z
  rw [e] at e';cases e'
  exact ⟨ov,o,kk e nf,r⟩
 ·intro a m
  obtain ⟨⟨o,e,n1,n2⟩,r⟩:=G.own a m
  exact ⟨⟨o,kk e n2,n1,n2⟩,r⟩
 ·obtain ⟨⟨vs,⟨n,e⟩,r⟩,q⟩:=G.src
  exact ⟨⟨vs,⟨n,kk e (fun us q=>by cases q)⟩,r⟩,q⟩
 ·intro p hp'
  obtain ⟨e,n1,n2⟩:=hp p hp'
  refine ⟨e,fun hm=>?_,fun q=>?_,fun hm=>?_⟩
  ·obtain ⟨⟨o,e',_,nf⟩,_⟩:=G.own _ hm
   rcases n2 with q | ⟨vs,q⟩
   ·rw [q] at e';cases e'
   ·have:=kk e' nf;rw [e] at this;cases this;exact nf _ q
  ·obtain ⟨⟨vs,⟨n,e'⟩,_⟩,_⟩:=G.src
   rw [←q] at e'
   rcases n2 with q | ⟨us,q⟩
   ·rw [q] at e';cases e'
   ·have:=kk e' fun us q=>by cases q
    rw [e] at this;injection this with this;rw [this] at q;cases q
  ·obtain ⟨_,o,e',nf⟩:=G.frames.mem hm
   rcases n2 with q | ⟨us,q⟩
   ·rw [q] at e';cases e'
   ·have:=kk e' nf;rw [e] at this;cases this;exact nf _ q
 ·intro x d hd
  obtain ⟨v,hv,r⟩:=G.vars x d hd
  refine ⟨v,?_,rd r⟩
  rcases hv with ⟨a,m,n,e⟩ | ⟨a,c,e,z⟩
  ·obtain ⟨o,eo,_,nf⟩:=BF n
   obtain ⟨o',es,ep,e',r⟩:=n
   rw [eo] at e';cases e'
   exact .inl ⟨a,m,⟨o,es,ep,kk eo nf,r⟩,e⟩
  ·obtain ⟨o,eo,_,nf⟩:=BP z
   obtain ⟨o',e',r⟩:=z
   rw [eo] at e';cases e'
   exact .inr ⟨a,c,e,o,kk eo nf,r⟩
theorem AV.step {T:Addr} {qual:Str} (G:Good B F W σ s) {h':Heap} (st:Step B F W s.heap W' h') (I:AV ps0 T Ab qual s.heap):AV ps0 T Ab qual h' :=
 I.keep fun c o hf e=>(st.keep c o e (fun hm=>by obtain ⟨⟨o',e',_,nf⟩,_⟩:=G.own _ hm;rw [e] at e';cases e';obtain ⟨vs,hf⟩:=hf;exact nf _ hf) (fun q=>by
  obtain ⟨⟨vs,⟨n,e'⟩,_⟩,_⟩:=G.src
  rw [q,e'] at e;cases e;obtain ⟨us,hf⟩:=hf;cases hf)).1 (fun hm=>by
  obtain ⟨_,o',e',nf⟩:=G.frames.mem hm
  rw [e] at e';cases e';obtain ⟨vs,hf⟩:=hf;exact nf _ hf)
end
section
open PySem PySem.W
variable {B:Bs} {F:Fv} {W W':Wd} {σ σ':St} {s s':Shared}
variable {ps0:Array Value}
open PyProof.Rows
noncomputable def noE:Expr:=.Constant .none 0 ⟨0,0,0,0⟩
noncomputable def V3:Expr:=Option.getD (dflt:=noE) ((nth (Am 107) 0).bind fun st=>(Vo st).bind fun q=>(M5 q.2).bind fun es=>nth es 0)
theorem Jg:AJ G0 (AM 107).names V3=V2∧Ao G0 (AM 107).names ((Am 107).drop 1)=Oo:=by constructor<;>kernel_rfl
noncomputable def Oq:List Nm:=[[115,111,109,101],[99,104,101,99,107,101,114]]
theorem Je:KR true (AM 107).names Oq=true∧Bm Oq=true:=by decide +kernel
noncomputable abbrev Ci (T:Addr) (own fr:List Addr) (S:Addr) (h h':Heap):Prop:=∀ b o,h.get? b=some o→b∉own→b≠S→b≠T→(b∉fr→h'.get? b=some o)∧∃ sl,h'.get? b=some {o with slots:=sl}
theorem Ci.trans {T:Addr} {own fr:List Addr} {S:Addr} {h₁ h₂ h₃:Heap} (x:Ci T own fr S h₁ h₂) (y:Ci T own fr S h₂ h₃):Ci T own fr S h₁ h₃:=fun b o e n1 n2 n3=>by
 obtain ⟨a1,sl,a2⟩:=x b o e n1 n2 n3
 obtain ⟨b1,sl',b2⟩:=y b _ a2 n1 n2 n3
 exact ⟨fun n=>(y b o (a1 n) n1 n2 n3).1 n,sl',b2⟩
theorem Step.keepT {T:Addr} {h h':Heap} (st:Step B F W h W' h'):Ci T F.own F.fr B.S h h':=fun b o e n1 n2 zz=>st.keep b o e n1 n2
theorem AU.keepT {T:Addr} {own fr:List Addr} {S:Addr} {h h':Heap} (k:AU [T] h h'):Ci T own fr S h h':=fun b o e zz zz n3=>⟨fun zz=>k b o (by simpa using n3) e,o.slots,k b o (by simpa using n3) e⟩
theorem Good.fn1 (G:Good B F W σ s):∃ m,Fn1 B F.env s.heap m:=by
 obtain ⟨m,n⟩:=G.ns
 exact ⟨m,G.ok.kind,G.ok.glob,G.ok.bltn,n,G.stay0⟩
theorem Ps {T:Addr} {qual:Str} (L:Ep B ps0 T qual) (hF:F.isFn=true) (hsc:F.env.scope=AM 107) (G:Good B F W σ s) (hW:W.pins=[]) (I:AV ps0 T Ab qual s.heap) (hTB:F.base.get? T=none) {outs:List (Out D×St)} (ho:V1 σ=some outs) :
  wpAny (mdl B) F.A (execs (Am 107) F.env)
   (fun f s'=>∃ d v W' σ',f=.ret v∧(Out.ok d,σ')∈outs∧Good B F W' σ' s'∧Rd B W' s'.heap d v∧W.nu<+:W'.nu∧AV ps0 T Ab qual s'.heap∧UU s.heap W'.pins∧Ci T F.own F.fr B.S s.heap s'.heap)
   (fun e s'=>∃ σ',(Out.fault,σ')∈outs) s:=by
 have b:=L.b
 obtain ⟨l1,ho1,hb1⟩:=AS ho
 have ko:∀ y,F.env.kindOf y=(AM 107).names.lookup y:=fun y=>by
  show F.env.scope.names.lookup y=_
  rw [hsc]
 have hnames:F.env.scope.names=(AM 107).names:=by rw [hsc]
 refine MZ fun Q E hQ hE=>?_
 refine Bk ?_
 refine AA (wpAny_standAt (AA (AD ?_)))
 rw [if_neg (by decide)]
 refine AA ?_
 rw [arm_eval_Tuple]
 refine AA (wpAny_standAt (AA (Au trivial ?_)))
 have ev:=L.snd.ev F F.env.scope.names V3 (GG G hF) W σ s G
 rw [L.hG,hnames,Jg.1] at ev
 refine AH (ev l1 ho1) (fun v1 s1 h1=>?_) (fun e s1 h1=>?_)
 rotate_left
 ·obtain ⟨σ1,hin,_⟩:=h1
  exact hE _ _ ⟨σ1,AQ hb1 hin⟩
 obtain ⟨d1,W1,σ1,hin1,G1,st1,rd1⟩:=h1
 obtain ⟨o1,hf1,hs1⟩:=AZ hb1 hin1
 have hW1:W1.pins=[]:=List.eq_nil_iff_forall_not_mem.mpr fun p hp=>by have:=st1.fresh p hp;rw [hW] at this;cases this
 have I1:=I.step G st1
 obtain ⟨m1,X1⟩:=G1.fn1
 refine Au trivial (wpAny_Call_ofName (Vv.global b X1 ((ko _).trans rfl) (.inl L.gChk) (by decide) _ _ _ rfl fun tk2=>?_))
 obtain ⟨oC,fdC,hoC,hdC⟩:=L.obj
 refine Calls.callWith_function (o:=oC) (fd:=fdC) (Bg rfl (AD ⟨⟨X1.stay _ _ hoC,hdC⟩,?_⟩))
 refine L.chk F.A {s1 with toks:=tk2} _ _ G1.ok.handled (G1.deepOk (k:=8) (by omega)) X1.stay I1 fun h3 tk3 ca pins kb I3 hp hca=>?_
 obtain ⟨G3,rd3⟩:=G1.table b hW1 L.tab I1 hTB (tk:=tk3) kb I3 hp
 refine DM (wpAny_newTuple ?_ (by rw [sizeLine_eq];show 2≤_;omega))
 have g4:AY h3 (h3.push {cls:=.type "tuple",data:=.seq [v1,.ref ca].toArray}):=AY.push
 obtain ⟨G4,st4⟩:=G3.grow b (t:=tk3) g4
 have rt:Rd B ⟨W1.nu,pins⟩ (h3.push {cls:=.type "tuple",data:=.seq [v1,.ref ca].toArray}) (.tup [d1,.chk]) (.ref h3.objs.size) :=
  .tup _ _ _ ⟨_,Heap.get?_push_size _ rfl,rfl,_,rfl⟩ (.cons _ _ _ _ (G3.rd b st4 (rd3 rd1)) (.cons _ _ _ _ (.chk ca hca) .nil))
 have hx:∀ x,nm x∈Oq→BD F x:=fun x hxx=>DV G hF (by rw [hnames];exact List.all_eq_true.mp Je.1 _ hxx)
 refine AH (D6 (C:=.ref (B.fnA 4)) (σ:=σ1) (xs:=Oq) b ?hts hx Je.2 ?hnc rt rfl G4 [(.ok .next,{σ1 with rho:=Cu [([115,111,109,101],d1),([99,104,101,99,107,101,114],.chk)] σ1.rho})] rfl) (fun f s5 h5=>?_) (fun e s5 h5=>?_)
 case hts=>kernel_rfl
 case hnc=>rfl
 rotate_left
 ·obtain ⟨σ5,hin,_⟩:=h5
  exact absurd (List.mem_singleton.mp hin) nofun
 obtain ⟨fl,W5,σ5,hin5,G5,st5,rf5⟩:=h5
 have e5:=List.mem_singleton.mp hin5
 have ef:fl=.next:=Out.ok.inj (pI1 e5)
 rw [ef] at rf5
 cases f with
 | next=>
  have kall:Ci T F.own F.fr B.S s.heap s5.heap:=((st1.keepT.trans (AU.keepT kb)).trans st4.keepT).trans st5.keepT
  obtain ⟨l2,ho2,hb2⟩:=AS hf1
  cases ho2
  obtain ⟨o2,hf2,hs2⟩:=AZ hb2 (.head _)
  obtain ⟨l3,ho3,hb3⟩:=AS hf2
  have tr:=L.snd.ss F ((Am 107).drop 1) hF W5 _ s5 G5
  rw [L.hG,hnames,Jg.2] at tr
  refine AH (tr l3 (by rw [pI2 e5];exact ho3)) (fun f s6 h6=>?_) (fun e s6 h6=>?_)
  rotate_left
  ·obtain ⟨σ6,hin,_⟩:=h6
   exact hE _ _ ⟨σ6,hs1 _ (hs2 _ (AQ hb3 hin))⟩
  obtain ⟨fl,W6,σ6,hin6,G6,st6,rf6⟩:=h6
  obtain ⟨o4,hf4,hs4⟩:=AZ hb3 hin6
  cases fl with
  | next=>cases hf4
  | ret d6=>
   cases f with
   | ret v6=>
    cases hf4
    have hp6:∀ p∈W6.pins,p∈pins:=fun p hp=>st5.fresh p (st6.fresh p hp)
    refine hQ _ _ ⟨d6,v6,W6,σ6,rfl,hs1 _ (hs2 _ (hs4 _ (.head _))),G6,rf6,(st1.nu.trans st5.nu).trans st6.nu,(((I3.keep fun c o zz e=>g4 _ _ e).step G4 st5).step G5 st6),fun q hq=>?_,kall.trans st6.keepT⟩
    rcases (hp q (hp6 q hq)).2.2 with h | h
    ·cases e:s.heap.get? q.1 with
     | none=>exact .inl rfl
     | some o=>
      by_cases n1:q.1∈F.own
      ·obtain ⟨⟨o',e',_⟩,_⟩:=G1.own _ n1
       rw [h] at e';cases e'
      ·by_cases n2:q.1=B.S
       ·obtain ⟨o',e',_⟩:=G1.srcList
        rw [←n2,h] at e';cases e'
       ·obtain ⟨_,sl,e'⟩:=st1.keep _ o e n1 n2
        rw [h] at e';cases e'
    ·exact .inr h
   | _=>exact rf6.elim
 | _=>exact rf5.elim
end
section
open PySem PySem.W
variable {B:Bs} {F F':Fv} {W W':Wd} {σ σ':St} {s s':Shared}
variable {ps0:Array Value}
open PyProof.Rows
theorem OD (b:AK B) {T:Addr} {qual:Str} (G:Good B F W σ s) (hW:W.pins=[]) (I:AV ps0 T Ab qual s.heap) (G':Good B F' W' σ' s') (hb:F'.base=F.base) (hk:KH T F.fr B.S s.heap s'.heap) (hn:W.nu<+:W'.nu) (hf:UU s.heap W'.pins) (hfr:s'.heap.FunFrames F.base F.stack) :
  Good B F W' {σ' with rho:=σ.rho,dep:=σ.dep} s'∧∀ {d:D} {v:Value},Rd B W s.heap d v→Rd B W' s'.heap d v:=by
 obtain ⟨ps,eT,_⟩:=I.at_
 have nT:∀ {a:Addr} {o:Obj},s.heap.get? a=some o→(∀ vs,o.data≠.fields vs)→a≠T:=fun e n q=>by rw [q,eT] at e;cases e;exact n _ rfl
 have sl:∀ a,a≠B.S→∀ o,s.heap.get? a=some o→(∀ vs,o.data≠.fields vs)→∃ sl,s'.heap.get? a=some {o with slots:=sl}:=fun a h o e nf=>(hk a o e h (nT e nf)).2
 have locS:F.env.locals≠B.S:=G.notS (by obtain ⟨⟨o,e,n,_⟩,_⟩:=G.own _ G.ok.loc;exact ⟨o,e,n⟩)
 have cellS:∀ x c,F.env.cells.lookup x=some c→c≠B.S:=fun x c e=>G.notS (by obtain ⟨ov,z⟩:=G.cells x c e;obtain ⟨o,e,n,_⟩:=BP z;exact ⟨o,e,n⟩)
 have nsk:∀ {a:Addr} {m:SV},a≠B.S→s.heap.Ns a m→s'.heap.Ns a m:=fun h n=>EZ n fun o e=>by
  obtain ⟨o',e',_,nf⟩:=BF n
  rw [e] at e';cases e'
  exact sl _ h o e nf
 have clk:∀ {a:Addr} {v:Option Value},a≠B.S→s.heap.IsCell a v→s'.heap.IsCell a v:=fun h n=>C7 n fun o e=>by
  obtain ⟨o',e',_,nf⟩:=BP n
  rw [e] at e';cases e'
  exact sl _ h o e nf
 have rd:∀ {d:D} {v:Value},Rd B W s.heap d v→Rd B W' s'.heap d v:=fun r=>Rd.mono b hn (fun p hp=>by rw [hW] at hp;cases hp)
  (fun a vs ⟨o,e,c,n,d⟩=>by
   have nf:∀ us,o.data≠.fields us:=fun us q=>by rw [d] at q;cases q
   have nS:a≠B.S:=fun q=>by obtain ⟨o',e',c'⟩:=G.srcList;rw [←q,e] at e';cases e';rw [c] at c';exact absurd c' (by decide)
   obtain ⟨l,e'⟩:=sl a nS o e nf
   exact ⟨_,e',c,n,d⟩)
  (fun a vs nS ⟨o,e,c,n,d⟩=>by
   obtain ⟨l,e'⟩:=sl a nS o e fun us q=>by rw [d] at q;cases q
   exact ⟨_,e',c,n,d⟩) r
 refine ⟨{ok:=G.ok,dep:=G.dep,depth:=G.depth,units:=G.units,stay0:=G'.stay0,stayB:=hb▸G'.stayB,frames:=hfr,ns:=?_,cells:=fun x c e=>?_,own:=fun a m=>?_,src:=?_,pins:=fun p hp'=>?_,vars:=fun x d hd=>?_,picks:=⟨G'.picks.len,G'.picks.cand,G'.picks.cmps⟩,rest:=G'.rest},rd⟩
 ·obtain ⟨m,n⟩:=G.ns
  exact ⟨m,nsk locS n⟩
 ·obtain ⟨ov,z⟩:=G.cells x c e
  exact ⟨ov,clk (cellS x c e) z⟩
 ·obtain ⟨⟨o,e,n1,n2⟩,r⟩:=G.own a m
  obtain ⟨l,e'⟩:=sl a (G.notS ⟨o,e,n1⟩) o e n2
  exact ⟨⟨_,e',n1,n2⟩,r⟩
 ·obtain ⟨x,y,z⟩:=G'.src
  exact ⟨x,y,fun q=>hb▸z q⟩
 ·obtain ⟨e,n1,n2,n3⟩:=G'.pins p hp'
  refine ⟨e,fun hm=>?_,n2,fun hm=>?_⟩
  ·obtain ⟨⟨o,e',m1,m2⟩,_⟩:=G.own _ hm
   rcases hf p hp' with q | ⟨vs,q⟩
   ·rw [q] at e';cases e'
   ·obtain ⟨l,e2⟩:=sl _ (G.notS ⟨o,e',m1⟩) o e' m2
    rw [e] at e2;injection e2 with e2;rw [e2] at q;exact m2 _ q
  ·obtain ⟨_,o,e',m2⟩:=G.frames.mem hm
   rcases hf p hp' with q | ⟨vs,q⟩
   ·rw [q] at e';cases e'
   ·obtain ⟨l,e2⟩:=sl _ n2 o e' m2
    rw [e] at e2;injection e2 with e2;rw [e2] at q;exact m2 _ q
 ·obtain ⟨v,hv,r⟩:=G.vars x d hd
  refine ⟨v,?_,rd r⟩
  rcases hv with ⟨a,m,n,e⟩ | ⟨a,c,e,z⟩
  ·exact .inl ⟨a,m,nsk locS n,e⟩
  ·exact .inr ⟨a,c,e,clk (cellS x c e) z⟩
theorem Pr {T:Addr} {qual:Str} (L:Ep B ps0 T qual) (G:Good B F W σ s) (hW:W.pins=[]) (I:AV ps0 T Ab qual s.heap) (hTB:F.base.get? T=none) {d1 d2 d3:D} {vs:List Value} (ra:RdL B W s.heap [d1,d2,d3] vs) {outs:List (Out D×St)} (ho:F8 [d1,d2,d3] σ=some outs) (hnf:∀ σ',(Out.fault,σ')∉outs)
  {Q:VP} {E:VP}
  (hQ:∀ v s' d W' σ',(Out.ok d,σ')∈outs→Good B F W' σ' s'→Rd B W' s'.heap d v→AV ps0 T Ab qual s'.heap→KH T F.fr B.S s.heap s'.heap→(∀ {d:D} {v:Value},Rd B W s.heap d v→Rd B W' s'.heap d v)→Q v s') :
  wpAny (mdl B) F.A (call (.ref (B.fnA 107)) vs []) Q E s:=by
 have b:=L.b
 obtain ⟨fd,H,hsc⟩:=L.told
 obtain ⟨hd,l,hl,rfl⟩:=He ho
 obtain ⟨l2,hl2,rfl⟩:=Fi hl
 obtain ⟨o,ho',hdat,hcls⟩:=H.obj
 have hρ:Em K7.params [d1,d2,d3] K7.defaults=some [([110,97,109,101],d1),([101,115],d2),([105,115,95,115,112,114,101,97,100],d3)]:=rfl
 obtain ⟨bs,hbs,hbr⟩:=H.binds _ vs _ W s hρ G.stay0 ra
 refine wpAny_call (Cg (G.deepOk (k:=0) (by omega)) (G.stay0 _ _ ho') hdat (L.hlim.keeps G.stay0) (H.code.keeps G.stay0) H.body hbs H.clo ?_ ?_ H.co H.gen H.kind)
 ·intro x hx
  have hm:nm x.1∈K7.params:=by
   rw [←H.names _ _ hρ,Bu hbr]
   exact List.mem_map.mpr ⟨x,hx,rfl⟩
  rcases H.kinds x.1 hm with q | q
  ·exact .inl q
  ·exact .inr ⟨q,Bj q⟩
 ·intro s₁ x
  have Gc:=Ha b H G hd hbr (H.names _ _ hρ) x
  obtain ⟨h₁,tk,rfl,hk⟩:=x.done
  have hfresh:∀ c∈(Dq F fd s.heap.objs.size (B.fnA 107)).own,s.heap.get? c=none:=fun c hc=>by
   cases e:s.heap.get? c with
   | none=>rfl
   | some o=>
    have hlt:=Heap.lt_size e
    rcases List.mem_cons.mp hc with rfl | hc
    ·exact absurd hlt (Nat.lt_irrefl _)
    ·obtain ⟨n,hn⟩:=CO hc
     have:=x.above n c (mem_of_lookup hn)
     exact absurd (Nat.lt_trans hlt this) (Nat.lt_irrefl _)
  refine AH (Ps L rfl hsc Gc hW (I.keep fun c o zz e=>hk _ _ e) hTB hl2) (fun f s' hf=>?_) (fun e s' hf=>?_)
  ·obtain ⟨d,v,W',σ',rfl,hin,G',rd,hnu,I',hpn,kt⟩:=hf
   have kp:KH T F.fr B.S s.heap s'.heap:=fun c o e n2 n3=>by
    have n1:c∉(Dq F fd s.heap.objs.size (B.fnA 107)).own:=fun hc=>by rw [hfresh c hc] at e;cases e
    obtain ⟨k1,k2⟩:=kt c o (hk c o e) n1 n2 n3
    refine ⟨fun hnf=>k1 fun hc=>?_,k2⟩
    rcases List.mem_cons.mp (show c∈s.heap.objs.size::F.fr from hc) with q | hc
    ·rw [q] at e;exact absurd (Heap.lt_size e) (Nat.lt_irrefl _)
    ·exact hnf hc
   obtain ⟨Gb,rd2⟩:=OD b G hW I G' rfl kp hnu (fun q hq=>(hpn q hq).imp (fun h=>by
    cases e:s.heap.get? q.1 with
    | none=>rfl
    | some o=>rw [hk _ _ e] at h;cases h) id) G'.frames.2.2
   exact hQ v s' d W' _ (DY (CH hin)) Gb rd I' kp rd2
  ·obtain ⟨σ',hin⟩:=hf
   exact absurd (DY (CH hin)) (hnf _)
end
section
open PySem PySem.W
variable {B:Bs} {F F':Fv} {W W':Wd} {σ σ':St} {s s':Shared}
variable {ps0:Array Value} {T:Addr} {qual:Str}
open PyProof.Rows
theorem IT (hW:W.pins=[]) {h h':Heap} (st:Step B F W h W' h'):W'.pins=[]:=List.eq_nil_iff_forall_not_mem.mpr fun p hp=>by have:=st.fresh p hp;rw [hW] at this;cases this
theorem KH.keepT {own fr:List Addr} {S:Addr} {h h':Heap} (k:KH T fr S h h'):Ci T own fr S h h':=fun c o e zz n2 n3=>k c o e n2 n3
theorem Pq (L:Ep B ps0 T qual) (hF:F.isFn=true) (G:Good B F W σ s) (hW:W.pins=[]) (I:AV ps0 T Ab qual s.heap) (hTB:F.base.get? T=none) (hg:B.mg "_law_told" = some (.ref (B.fnA 107))) (hk:F.env.kindOf "_law_told" = some .globalImplicit) {as:List Expr} {q1 q2:Pos} {ps:List X} (hp:AN G0 F.env.scope.names as=ps)
  {outs:List (Out D×St)} (ho:(Ar RU.ev ps>>=F8) σ=some outs) (hnf:∀ σ',(Out.fault,σ')∉outs) {Q:VP} {E:VP}
  (hQ:∀ v s' d W' σ',(Out.ok d,σ')∈outs→Good B F W' σ' s'→Rd B W' s'.heap d v→AV ps0 T Ab qual s'.heap→Ci T F.own F.fr B.S s.heap s'.heap→Q v s') :
  wpAny (mdl B) F.A (eval (.Call (.Name "_law_told" q1) as [] q2) F.env) Q E s:=by
 obtain ⟨m,X⟩:=G.fn1
 obtain ⟨fd,H,_⟩:=L.told
 obtain ⟨o,ho',hdat,_⟩:=H.obj
 obtain ⟨l,hl,hb⟩:=AS ho
 refine wpAny_Call_ofName (Vv.global L.b X hk (.inl hg) (by decide) _ _ _ rfl fun tk=>?_)
 have args:=CY (F:=F) (C:=.ref (B.fnA 4)) (sc:=F.env.scope.names) (pos:=q2) (f:=.ref (B.fnA 107)) L.b L.snd.bad as (fun e zz=>L.snd.ev F _ e (GG G hF)) W σ {s with toks:=tk} (G.tok L.b)
 rw [L.hG,hp] at args
 refine Calls.callWith_function (o:=o) (fd:=fd) (AH (args l hl) (fun a s1 h=>?_) (fun e s1 h=>?_))
 rotate_left
 ·obtain ⟨σ',hin,_⟩:=h
  exact absurd (AQ hb hin) (hnf σ')
 obtain ⟨ds,W1,σ1,hin,G1,st,hkw,rd⟩:=h
 refine ⟨⟨G1.stay0 _ _ ho',hdat⟩,?_⟩
 rw [hkw]
 obtain ⟨o2,hf,hsub⟩:=AZ hb hin
 have I0:AV ps0 T Ab qual s.heap:=I
 have I1:AV ps0 T Ab qual s1.heap:=AV.step (s:={s with toks:=tk}) (G.tok L.b) st I0
 rcases ds with _ | ⟨d1,_ | ⟨d2,_ | ⟨d3,_ | ⟨_,_⟩⟩⟩⟩<;>first | exact nsF hf | skip
 ·exact Pr L G1 (IT hW st) I1 hTB rd hf (fun σ' hm=>hnf σ' (hsub _ hm)) fun v s' d W' σ' hin' G' r I' kp zz=>hQ v s' d W' σ' (hsub _ hin') G' r I' (st.keepT.trans (KH.keepT kp))
theorem FN {w:Bool} {l:List (Out Bool×St)} (h:allB w (some l)=true):(∀ σ',(Out.fault,σ')∉l)∧∀ c σ',(Out.ok c,σ')∈l→c=w∧IK σ'.rho=true:=by
 have h':(l.all fun p=>match p.1 with | .ok b=>(match Go b w with | true=>IK p.2.rho | false=>false) | _=>false)=true:=h
 refine ⟨fun σ' hm=>?_,fun c σ' hm=>?_⟩
 ·have:=List.all_eq_true.mp h' _ hm
  cases this
 ·have:(match Go c w with | true=>IK σ'.rho | false=>false)=true:=List.all_eq_true.mp h' _ hm
  cases c<;>cases w<;>first | exact ⟨rfl,this⟩ | cases this
theorem Lm (L:Ep B ps0 T qual) (hF:F.isFn=true) (G:Good B F W σ s) (hW:W.pins=[]) (I:AV ps0 T Ab qual s.heap) (hTB:F.base.get? T=none) (hg:B.mg "_law_told" = some (.ref (B.fnA 107))) (hk:F.env.kindOf "_law_told" = some .globalImplicit) {as:List Expr} {e:Expr} {op:CmpOp} {oc:Cm} {q1 q2:Pos} (hop:QQ oc=op) (hn:oc≠.isNone∧oc≠.isNotNone)
  (hm:behindInMarks op e=false) {p:List X×X} (hp1:AN G0 F.env.scope.names as=p.1) (hp2:AJ G0 F.env.scope.names e=p.2) {outs:List (Out Bool×St)} (ho:B1 oc p σ=some outs) {w:Bool} (hall:allB w (some outs)=true) {pos:Pos}
  {Q:VP} {E:VP}
  (hQ:∀ s' W' σ',(Out.ok w,σ')∈outs→Good B F W' σ' s'→AV ps0 T Ab qual s'.heap→Ci T F.own F.fr B.S s.heap s'.heap→Q (.bool w) s') :
  wpAny (mdl B) F.A (eval (.Call (.Name "_law_told" q1) as [] q2) F.env) (fun v s1=>wpAny (mdl B) F.A (PySem.holding [v] (markedBehindIn op e (eval e F.env))) (fun rv s2=>wpAny (mdl B) F.A (standAt pos) (fun zz s3=>wpAny (mdl B) F.A (PySem.operate [v,rv] (compareOp op v rv)) Q E s3) E s2) E s1) E s:=by
 obtain ⟨nf,hw⟩:=FN hall
 have ho':((Ar RU.ev p.1>>=F8)>>=fun r=>RU.ev p.2>>=fun due=>A8 oc r due) σ=some outs:=by rw [M.assoc];exact ho
 obtain ⟨l,hl,hb⟩:=AS ho'
 refine (Pq L hF G hW I hTB hg hk hp1 hl (fun σ' hm=>nf σ' (AQ hb hm)) fun v s1 d W1 σ1 hin G1 r1 I1 k1=>?_)
 obtain ⟨o2,hf2,hs2⟩:=AZ hb hin
 obtain ⟨l3,hl3,hb3⟩:=AS hf2
 have em:markedBehindIn op e (eval e F.env)=eval e F.env:=by unfold markedBehindIn;rw [hm]
 rw [em]
 have ev:=L.snd.ev F F.env.scope.names e (GG G1 hF) W1 σ1 s1 G1
 rw [L.hG,hp2] at ev
 refine (AG (AH (ev l3 hl3) (fun u s2 h2=>?_) (fun x s2 h2=>?_)))
 rotate_left
 ·obtain ⟨σ2,hin2,_⟩:=h2
  exact absurd (hs2 _ (AQ hb3 hin2)) (nf σ2)
 obtain ⟨d2,W2,σ2,hin2,G2,st2,r2⟩:=h2
 obtain ⟨o4,hf4,hs4⟩:=AZ hb3 hin2
 refine wpAny_standAt ?_
 have cmp:=Ok.operate (vs:=[v,u]) (Bb (C:=.ref (B.fnA 4)) (F:=F) (W:=W2) (σ:=σ2) (s:=s2) (op:=oc) (G1.rd L.b st2 r1) r2 (fun q=>by rcases q with q | q;exact absurd q hn.1;exact absurd q hn.2))
 rw [hop] at cmp
 refine AH (cmp G2 o4 hf4) (fun c s3 h3=>?_) (fun x s3 h3=>?_)
 rotate_left
 ·obtain ⟨σ3,hin3,_⟩:=h3
  exact absurd (hs2 _ (hs4 _ hin3)) (nf σ3)
 obtain ⟨bb,W3,σ3,hin3,G3,st3,r3⟩:=h3
 have e1:c=.bool bb:=r3
 have hin4:=hs2 _ (hs4 _ hin3)
 have e2:=(hw bb σ3 hin4).1
 rw [e1,e2]
 exact hQ s3 W3 σ3 (e2▸hin4) G3 ((I1.step G1 st2).step G2 st3) ((k1.trans st2.keepT).trans st3.keepT)
theorem Jf (L:Ep B ps0 T qual) (hF:F.isFn=true) (G:Good B F W σ s) (hW:W.pins=[]) (I:AV ps0 T Ab qual s.heap) (hTB:F.base.get? T=none) (hg:B.mg "_law_told" = some (.ref (B.fnA 107))) (hk:F.env.kindOf "_law_told" = some .globalImplicit) {as:List Expr} {e:Expr} {op:CmpOp} {oc:Cm} {q1 q2:Pos} (hop:QQ oc=op) (hn:oc≠.isNone∧oc≠.isNotNone)
  (hm:behindInMarks op e=false) {p:List X×X} (hp1:AN G0 F.env.scope.names as=p.1) (hp2:AJ G0 F.env.scope.names e=p.2) {outs:List (Out Bool×St)} (ho:B1 oc p σ=some outs) {w:Bool} (hall:allB w (some outs)=true) {pos:Pos} {E:VP} {Q:Bool→Shared→Prop}
  (hQ:∀ s' W' σ',(Out.ok w,σ')∈outs→Good B F W' σ' s'→AV ps0 T Ab qual s'.heap→Ci T F.own F.fr B.S s.heap s'.heap→Q w s') :
  wpAny (mdl B) F.A (isTrue (.Compare (.Call (.Name "_law_told" q1) as [] q2) [op] [e] pos) F.env (eval (.Compare (.Call (.Name "_law_told" q1) as [] q2) [op] [e] pos) F.env)) Q E s:=by
 rw [arm_isTrue_Compare]
 refine AA (AH (Lm (Q:=fun c s3=>c=.bool w∧Q w s3) (E:=E) L hF G hW I hTB hg hk hop hn hm hp1 hp2 ho hall (pos:=pos) fun s' W' σ' a1 a2 a3 a4=>⟨rfl,hQ s' W' σ' a1 a2 a3 a4⟩) (fun v s1 h1=>?_) fun zz zz x=>x)
 show wpAny (mdl B) F.A (do
  let rv←PySem.holding [v] (markedBehindIn op e (eval e F.env))
  standAt pos
  let c←PySem.operate [v,rv] (compareOp op v rv)
  PySem.holding [c] (truthy c)) Q E s1
 refine AA (AH h1 (fun rv s2 h2=>AA (AH h2 (fun zz s3 h3=>AA (AH h3 (fun c s4 h4=>?_) fun zz zz x=>x)) fun zz zz x=>x)) fun zz zz x=>x)
 obtain ⟨rfl,hq⟩:=h4
 exact AG (wpAny_truthy_bool hq)
theorem M6 (L:Ep B ps0 T qual) (hF:F.isFn=true) (G:Good B F W σ s) (hW:W.pins=[]) (I:AV ps0 T Ab qual s.heap) (hTB:F.base.get? T=none) (hg:B.mg "_law_told" = some (.ref (B.fnA 107))) (hk:F.env.kindOf "_law_told" = some .globalImplicit) {as:List Expr} {e:Expr} {op:CmpOp} {oc:Cm} {q1 q2:Pos} (hop:QQ oc=op) (hn:oc≠.isNone∧oc≠.isNotNone)
  (hm:behindInMarks op e=false) {p:List X×X} (hp1:AN G0 F.env.scope.names as=p.1) (hp2:AJ G0 F.env.scope.names e=p.2) {outs:List (Out Bool×St)} (ho:B1 oc p σ=some outs) {w:Bool} (hall:allB w (some outs)=true) {pos:Pos} {E:VP} {Q:VP}
  (hQ:∀ s' W' σ',(Out.ok w,σ')∈outs→Good B F W' σ' s'→AV ps0 T Ab qual s'.heap→Ci T F.own F.fr B.S s.heap s'.heap→Q (.bool w) s') :
  wpAny (mdl B) F.A (eval (.Compare (.Call (.Name "_law_told" q1) as [] q2) [op] [e] pos) F.env) Q E s:=by
 rw [arm_eval_Compare]
 refine AA (AH (Lm (Q:=Q) (E:=E) L hF G hW I hTB hg hk hop hn hm hp1 hp2 ho hall (pos:=pos) hQ) (fun v s1 h1=>?_) fun zz zz x=>x)
 show wpAny (mdl B) F.A (do
  let rv←PySem.holding [v] (markedBehindIn op e (eval e F.env))
  standAt pos
  PySem.operate [v,rv] (compareOp op v rv)) Q E s1
 exact AA (AH h1 (fun rv s2 h2=>AA (AH h2 (fun zz s3 h3=>h3) fun zz zz x=>x)) fun zz zz x=>x)
end
section
open PySem PySem.W
variable {B:Bs} {s s':Shared}
open PyProof.Rows
section
variable {A:Around} {env:Env} {h:Heap} {m:SV}
theorem Iv.pv {e:Expr} {n:Int} (x:Iv B A env h e n):Pv B A env h e (fun v=>∃ t,v=.int n t):=fun s Q E hs hQ=>x s Q E hs fun t tk=>hQ _ tk ⟨t,rfl⟩
theorem Iv.neg {e:Expr} {n:Int} {p:Pos} (x:Iv B A env h e n):Iv B A env h (.UnaryOp .USub e p) (-n):=fun s Q E hs hQ=>by
 rw [arm_eval_UnaryOp]
 exact AA (x s _ E hs fun t tk=>AA (wpAny_standAt (AG (P.neg_int (hQ _ _)))))
theorem Iv.ite {t a b:Expr} {p:Pos} {n:Int} (c:Bool) (ht:∀ (s:Shared) (Q:Bool→Shared→Prop) (E:VP),s.heap=h→(∀ tk,Q c {s with toks:=tk})→wpAny (mdl B) A (isTrue t env (eval t env)) Q E s)
  (ha:c=true→Iv B A env h a n) (hb:c=false→Iv B A env h b n):Iv B A env h (.IfExp t a b p) n:=fun s Q E hs hQ=>by
 rw [arm_eval_IfExp]
 refine AA (ht s _ E hs fun tk=>?_)
 cases c with
 | true=>exact ha rfl {s with toks:=tk} Q E hs hQ
 | false=>exact hb rfl {s with toks:=tk} Q E hs hQ
theorem Iv.len (b:AK B) (X:Fn1 B env h m) {e:Expr} {p pos:Pos} {a:Addr} {items:Array Value} (hp:Ai e) (hk:env.kindOf "len" = some .globalImplicit) (hg:B.mg "len" = none∧B.mb "len" = some (.builtin "len")) (he:Vv B A env h e (.ref a)) (hl:h.IsList a items) (hz:items.size≤2 ^ 24):Iv B A env h (.Call (.Name "len" p) [e] [] pos) items.size:=fun s Q E hs hQ=>by
 refine wpAny_Call_ofName (Vv.global b X hk (.inr hg) (by decide) s _ E hs fun tk=>?_)
 refine Calls.callWith_builtin (by rw [AL hp];rfl) (Bg (by rw [AL hp];rfl) (Au hp (he _ _ E hs fun tk2=>DM ?_)))
 exact Calls.call_len_list (by rw [←hs] at hl;exact hl) (by omega) (hQ _ _)
theorem YF {l r:Expr} {p:Pos} {a c:Int} (hm:behindInMarks .Lt r=false) (hl:Iv B A env h l a) (hr:Iv B A env h r c):∀ (s:Shared) (Q:Bool→Shared→Prop) (E:VP),s.heap=h→(∀ tk,Q (decide (a < c)) {s with toks:=tk})→wpAny (mdl B) A (isTrue (.Compare l [.Lt] [r] p) env (eval (.Compare l [.Lt] [r] p) env)) Q E s:=fun s Q E hs hQ=>by
 subst hs
 refine H4 hm hl.pv hr.pv (fun v u s' Q' hv hu hs' hq=>?_) hQ
 obtain ⟨t,rfl⟩:=hv
 obtain ⟨t',rfl⟩:=hu
 exact P.lt_int (hq s'.toks)
theorem Iv.intge (b:AK B) (X:Fn1 B env h m) {l r:Expr} {p p2 pos:Pos} {a c:Int} (hk:env.kindOf "int" = some .globalImplicit) (hg:B.mg "int" = none∧B.mb "int" = some (.type "int")) (hm:behindInMarks .GtE r=false) (hl:Iv B A env h l a) (hr:Iv B A env h r c) :
  Iv B A env h (.Call (.Name "int" p) [.Compare l [.GtE] [r] p2] [] pos) (if decide (a≥c)=true then 1 else 0):=fun s Q E hs hQ=>by
 refine wpAny_Call_ofName (Vv.global b X hk (.inr hg) (by decide) s _ E hs fun tk=>?_)
 have se:backTo pos (starEach [Expr.Compare l [.GtE] [r] p2] env)=[(false,eval (Expr.Compare l [.GtE] [r] p2) env)]:=by rw [AL (by trivial)];rfl
 rw [se]
 refine PySem.callWith_type1 ?_
 rw [arm_eval_Compare]
 refine AA (hl _ _ E hs fun t tk1=>?_)
 show wpAny (mdl B) A (do
  let rv←PySem.holding [.int a t] (markedBehindIn .GtE r (eval r env))
  standAt p2
  PySem.operate [.int a t,rv] (compareOp .GtE (.int a t) rv)) _ E _
 have em:markedBehindIn .GtE r (eval r env)=eval r env:=by unfold markedBehindIn;rw [hm]
 rw [em]
 refine AA (AG (hr _ _ E hs fun u tk2=>AA (wpAny_standAt ?_)))
 unfold PySem.operate
 refine AA (AG (P.ge_int ?_))
 refine AA (wpAny_release (AD ?_))
 exact call_int_bool (hQ _ _)
theorem Iv.pow18 {l r:Expr} {p:Pos} (hl:Iv B A env h l 10) (hr:Iv B A env h r 18):Iv B A env h (.BinOp l .Pow r p) 1000000000000000000 :=
 Iv.bin (fun t u s Q E q=>AutoIntOps.pow_4 (a:=10) (b:=18) (by decide) (by decide) (by decide) (by decide) (by decide +kernel) (by
  show Q (.int ((10:Int) ^ (18:Int).toNat) _) _
  rw [show (10:Int) ^ (18:Int).toNat=1000000000000000000 from by decide]
  exact q)) hl hr
theorem Iv.g {e:Expr} {n:Int} {h:Heap} (x:Iv B A env h e n) {E:VP}:∀ (s':Shared) (Q:VP),s'.heap=h→(∀ h' t tk,AY h h'→Q (.int n t) {s' with heap:=h',toks:=tk})→wpAny (mdl B) A (eval e env) Q E s':=fun s' Q hs hq=>x s' Q E hs fun t tk=>by
 have:=hq s'.heap t tk (by rw [hs];exact AY.refl)
 exact this
theorem Rg {E:VP} (b:AK B) (X:Fn1 B env s.heap m) (hh:A.handled=none) {f:Str} {fb:String} (hf:fb = "max"∨fb = "min") {p pos:Pos} {e1 e2:Expr} {a c:Int} (hp1:Ai e1) (hp2:Ai e2) (hk:env.kindOf f=some .globalImplicit) (hd:(f == ("__debug__" : Str))=false) (hg:B.mg f=none∧B.mb f=some (.builtin fb))
  (h1:Iv B A env s.heap e1 a) (h2:∀ (s':Shared) (Q:VP),s'.heap=s.heap→(∀ h' t tk,AY s.heap h'→Q (.int c t) {s' with heap:=h',toks:=tk})→wpAny (mdl B) A (eval e2 env) Q E s') {Q:VP}
  (hQ:∀ h' t tk,AY s.heap h'→Q (.int (if fb = "max" then max a c else min a c) t) {s with heap:=h',toks:=tk}):wpAny (mdl B) A (eval (.Call (.Name f p) [e1,e2] [] pos) env) Q E s:=by
 refine wpAny_Call_ofName (Vv.global b X hk (.inr hg) hd s _ E rfl fun tk=>?_)
 have pl:Af [e1,e2]=true:=Dd hp1 (Dd hp2 rfl)
 refine Calls.callWith_builtin (Dr pl) (Bg (Dr pl) (Au hp1 (h1 _ _ E rfl fun t1 tk1=>Au hp2 (h2 _ _ rfl fun h2' t2 tk2 g2=>DM ?_))))
 rcases hf with rfl | rfl
 ·refine PySem.Flt.max_two_num hh (.int a t1) (.int c t2) fun h' tk3 k=>?_
  have e:(if PySem.Flt.ltV (.int a t1) (.int c t2)=true then Value.int c t2 else .int a t1)=.int (max a c) (if a < c then t2 else t1):=by
   show (if decide (a < c)=true then Value.int c t2 else .int a t1)=_
   by_cases q:a < c
   ·rw [if_pos (decide_eq_true q),if_pos q,Int.max_eq_right (by omega)]
   ·rw [if_neg (by simpa using q),if_neg q,Int.max_eq_left (by omega)]
  rw [e]
  exact hQ h' _ tk3 (g2.trans k)
 ·refine PySem.Flt.min_two_num hh (.int a t1) (.int c t2) fun h' tk3 k=>?_
  have e:(if PySem.Flt.ltV (.int c t2) (.int a t1)=true then Value.int c t2 else .int a t1)=.int (min a c) (if c < a then t2 else t1):=by
   show (if decide (c < a)=true then Value.int c t2 else .int a t1)=_
   by_cases q:c < a
   ·rw [if_pos (decide_eq_true q),if_pos q,Int.min_eq_right (by omega)]
   ·rw [if_neg (by simpa using q),if_neg q,Int.min_eq_left (by omega)]
  rw [e]
  exact hQ h' _ tk3 (g2.trans k)
end
end
section
open PySem PySem.W
variable {B:Bs} {s s':Shared}
open PyProof.Rows
structure Ph (B:Bs) (fd:FuncData):Prop where
 hf:DT B 99 fd
 hb:Al B fd ["script","k"] 2 []
 int:B.mg "int" = none∧B.mb "int" = some (.type "int")
 len:B.mg "len" = none∧B.mb "len" = some (.builtin "len")
 max:B.mg "max" = none∧B.mb "max" = some (.builtin "max")
theorem Lw:Fp (AM 99) ["script","k"]=true:=by decide +kernel
noncomputable abbrev Vu (vs:Array Value):Prop:=∀ i,i < vs.size→∃ n t,vs[i]? = some (.int n t)
theorem YB {a:Int} {c:Bool}:IntMulOk a (if c=true then 1 else 0):=IntMulOk.of_right (by cases c<;>decide)
theorem M3 {A:Around} {env:Env} {m:SV} {h0:Heap} (X:Fn1 B env s.heap m) (h0s:B.h0.StaysIn h0) (hk0:AY h0 s.heap) (hL:h0.get? env.locals=none) {x:Str} {v:Value} (hk:env.kindOf x=some .local) {Q:Unit→Shared→Prop} {E:VP}
  (hQ:∀ h' tk,Fn1 B env h' (fun y=>if y=x then some v else m y)→AY h0 h'→Heap.SameBut env.locals s.heap h'→Q () {s with heap:=h',toks:=tk}):wpAny (mdl B) A (storeName env x v) Q E s:=by
 refine wpAny_storeName_local hk X.ns (fun h' hn' sb=>?_) (by rw [X.kind];rfl)
 have kp:AY h0 h':=fun c o e=>(sb.2 c (fun q=>by rw [q,hL] at e;cases e)).trans (hk0 c o e)
 exact hQ h' _ ⟨X.kind,X.glob,X.bltn,hn',fun c o e=>kp c o (h0s c o e)⟩ kp sb
theorem QJ (b:AK B) (hlim:B.h0.NoLimit) {fd:FuncData} (PF:Ph B fd) {A:Around} {E:VP} {Q:VP} (hh:A.handled=none) (hroom:A.depth < recursionLimit) (h0s:B.h0.StaysIn s.heap) {ax:Addr} {items:Array Value} (hl:s.heap.IsList ax items) (hi:Vu items) (hz:items.size≤2 ^ 24) {k:Int} {tk:Tok} (hk:k=0∨k=1)
  (hQ:∀ h' t a x y,AY s.heap h'→s.heap.get? a=none→JI h' a x y→0≤x→0≤y→y < 2147483648→Q (.ref a) {s with heap:=h',toks:=t}) :
  wpAny (mdl B) A (call (.ref (B.fnA 99)) [.ref ax,.int k tk]) Q E s:=by
 refine Dj hlim PF.hf.hand Lw (vs:=[.ref ax,.int k tk]) rfl hroom h0s (PF.hb _ [.ref ax,.int k tk] h0s rfl) fun h₀ t0 env m A' E' F hm=>?_
 have ko:∀ y,env.kindOf y=(AM 99).names.lookup y:=fun y=>by
  show env.scope.names.lookup y=_
  rw [F.sc]
 have X:=F.fn
 have ki:env.kindOf "int" = some .globalImplicit:=(ko _).trans rfl
 have list:∀ {h:Heap},AY s.heap h→h.IsList ax items:=fun {h} g=>by obtain ⟨o,e,r⟩:=hl;exact ⟨o,g _ _ e,r⟩
 have k0:0≤k∧k < 2 ^ 63:=by omega
 have hh':=F.handled hh
 obtain ⟨c,c1,c2⟩:∃ c:Int,(k < items.size→∃ t,items[k.toNat]? = some (.int c t))∧(¬ k < items.size→c=0):=by
  by_cases q:k < items.size
  ·obtain ⟨n,t,e⟩:=hi k.toNat (by omega)
   exact ⟨n,fun zz=>⟨t,e⟩,fun z=>absurd q z⟩
  ·exact ⟨0,fun z=>absurd z q,fun zz=>rfl⟩
 have mk:m "k" = some (.int k tk):=(hm _).trans rfl
 have ms:m "script" = some (.ref ax):=(hm _).trans rfl
 have kk:env.kindOf "k" = some .local:=(ko _).trans rfl
 have ks:env.kindOf "script" = some .local:=(ko _).trans rfl
 refine Wx.cons (wpAny_Assign_Name ?_ rfl)
 refine Iv.ite (n:=c) (decide (k < items.size)) (YF rfl (Vv.int (Vv.name X kk mk (by decide))) (Iv.len b X (by trivial) ((ko _).trans rfl) PF.len (Vv.name X ks ms (by decide)) (list F.keep) hz)) (fun q=>?_) (fun q=>?_) _ _ _ rfl fun t1 tk1=>?_
 ·obtain ⟨t,e⟩:=c1 (of_decide_eq_true q)
  exact Iv.sub (Vv.name X ks ms (by decide)) (Vv.int (Vv.name X kk mk (by decide))) (list F.keep) k0.1 k0.2 e
 ·rw [c2 (of_decide_eq_false q)];exact Iv.const
 refine M3 (s:={s with heap:=h₀,toks:=tk1}) X h0s F.keep F.new ((ko _).trans rfl) fun h1 tk2 X1 g1 sb1=>?_
 have e1:∀ {h:Heap} {m':SV},Fn1 B env h m'→m' "cell" = some (.int c t1)→∀ p,Iv B A' env h (.Name "cell" p) c:=fun X e p=>Vv.int (Vv.name X ((ko _).trans rfl) e (by decide))
 refine Wx.cons (wpAny_Assign_Name (Rg (s:={s with heap:=h1,toks:=tk2}) b X1 hh' (.inl rfl) (by trivial) (by trivial) ((ko _).trans rfl) (by decide) PF.max (Iv.int b X1 (by trivial) ki PF.int (e1 X1 rfl _)) (Iv.g (Iv.int b X1 (by trivial) ki PF.int (Iv.subt (Iv.neg Iv.const) (e1 X1 rfl _)))) fun h2 t3 tk3 g2=>?_) rfl)
 obtain ⟨big,hbig⟩:∃ big,big=max c (-1 - c):=⟨_,rfl⟩
 rw [if_pos rfl,←hbig]
 have big0:0≤big:=by rw [hbig];omega
 refine M3 (s:={s with heap:=h2,toks:=tk3}) (X1.grew g2) h0s (g1.trans g2) F.new ((ko _).trans rfl) fun h3 tk4 X3 g3 sb3=>?_
 have e2:∀ {h:Heap} {m':SV},Fn1 B env h m'→m' "big" = some (.int big t3)→∀ p,Iv B A' env h (.Name "big" p) big:=fun X e p=>Vv.int (Vv.name X ((ko _).trans rfl) e (by decide))
 have e3:∀ {h:Heap} {m':SV},Fn1 B env h m'→m' "k" = some (.int k tk)→∀ p,Iv B A' env h (.Name "k" p) k:=fun X e p=>Vv.int (Vv.name X kk e (by decide))
 have m1:IntMulOk 7919 k:=IntMulOk.of_left (by decide +kernel)
 have m2:IntMulOk (7919 * k) k:=by rcases hk with rfl | rfl<;>exact IntMulOk.of_right (by decide +kernel)
 have m3:IntMulOk 31 k:=IntMulOk.of_left (by decide +kernel)
 refine Wx.cons (wpAny_Assign_Name ?_ rfl)
 refine Iv.mod (by decide) (Iv.int b X3 (by trivial) ki PF.int (Iv.mul (IntMulOk.of_right (by decide +kernel)) (Iv.add (Iv.add (Iv.add (Iv.mod (by decide) (Iv.int b X3 (by trivial) ki PF.int (e2 X3 rfl _)) Iv.const) (Iv.mul m2 (Iv.mul m1 Iv.const (e3 X3 mk _)) (e3 X3 mk _))) (Iv.mul m3 Iv.const (e3 X3 mk _))) Iv.const) Iv.const)) Iv.const _ _ _ rfl fun t5 tk5=>?_
 obtain ⟨y,hy⟩:∃ y,y=(big % 2147483629 + 7919 * k * k + 31 * k + 17) * 48271 % 2147483647:=⟨_,rfl⟩
 rw [←hy]
 have y0:0≤y:=by rw [hy];exact Int.emod_nonneg _ (by decide)
 have y1:y < 2147483647:=by rw [hy];exact Int.emod_lt_of_pos _ (by decide)
 refine M3 (s:={s with heap:=h3,toks:=tk5}) X3 h0s g3 F.new ((ko _).trans rfl) fun h4 tk6 X4 g4 sb4=>?_
 refine Wx.ret ?_
 rw [arm_eval_List]
 refine AA (wpAny_standAt (AA (Au trivial ?_)))
 refine Iv.mul YB (e2 X4 rfl _) (Iv.intge b X4 ki PF.int rfl (e2 X4 rfl _) (Iv.pow18 Iv.const Iv.const)) _ _ _ rfl fun t7 tk7=>Au trivial (Vv.name X4 ((ko _).trans rfl) rfl (by decide) _ _ _ rfl fun tk8=>DM ?_)
 refine wpAny_newList ?_ (by rw [sizeLine_eq];show 2≤_;omega)
 refine hQ _ _ _ (big * (if decide (big≥1000000000000000000)=true then 1 else 0)) y (g4.trans AY.push) ?_ ⟨t7,t5,0,Heap.get?_push_size _ rfl⟩ ?_ y0 (by omega)
 ·cases e:s.heap.get? h4.objs.size with
  | none=>rfl
  | some o=>exact absurd (Heap.lt_size (g4 _ _ e)) (Nat.lt_irrefl _)
 ·exact Int.mul_nonneg big0 (by split<;>decide)
end
section
open PySem PySem.W
variable {B:Bs} {s s':Shared}
open PyProof.Rows
noncomputable def DI (h:Heap) (a:Addr):Prop:=∃ o vs,h.get? a=some o∧o.data=.fields vs∧∀ q t,vs[1]?≠some (.str q t)
theorem Jw (b:AK B) {A:Around} {env:Env} (hh:A.handled=none) {x:Str} {p p2 pos pos2:Pos} {e:Expr} {body:List Stmt} {n:Nat} {Q:FP} {E:VP} {Inv:Nat→Heap→Prop} {m:SV} (X:Fn1 B env s.heap m) (hn:n≤64) (hp:Ai e)
  (hk:env.kindOf "range" = some .globalImplicit) (hg:B.mg "range" = none∧B.mb "range" = some (.type "range")) (he:∀ (s':Shared) (Q:VP),s'.heap=s.heap→(∀ h' t tk,AY s.heap h'→Q (.int n t) {s' with heap:=h',toks:=tk})→wpAny (mdl B) A (eval e env) Q E s')
  (h0:∀ h,AY s.heap h→Inv 0 h) (hkeep:∀ I,s.heap.get? I=none→∀ i h h',DI h I→AU [I] h h'→Inv i h→Inv i h')
  (hturn:∀ I,s.heap.get? I=none→∀ i t h1 t1,i < n→Inv i h1→DI h1 I→
   wpAny (mdl B) A (storeName env x (.int (i:Nat) t)) (fun zz s2=>Wx B A env body (fun f s3=>f=.next∧∃ h3 t3,s3={s with heap:=h3,toks:=t3}∧Inv (i + 1) h3∧∀ o,h1.get? I=some o→h3.get? I=some o) (fun zz zz=>False) s2) (fun zz zz=>False) {s with heap:=h1,toks:=t1})
  (hend:∀ h' tk,Inv n h'→Q .next {s with heap:=h',toks:=tk}):wpAny (mdl B) A (exec (.For (.Name x p) (.Call (.Name "range" p2) [e] [] pos2) body [] pos) env) Q E s:=by
 refine wpAny_For (wpAny_Call_ofName (Vv.global b X hk (.inr hg) (by decide) _ _ _ rfl fun tk0=>?_)) (fun zz=>rfl)
 have se:backTo pos2 (starEach [e] env)=[(false,eval e env)]:=by rw [AL hp];rfl
 rw [se]
 refine PySem.callWith_type1 (he _ _ rfl fun h1 t1 tk1 g1=>?_)
 refine call_range_1 ?_
 refine wpAny_pyIter_range (a:=0) (b:=n) (c:=1) (Heap.get?_push_size _ rfl) (small_one (by omega) (by omega) (by omega) (by omega)) ?_
 have ext:∀ o o2:Obj,AY h1 ((h1.push o).push o2):=fun o o2 c o' e=>AE _ (AE _ e)
 obtain ⟨I,hI⟩:∃ I,I=(h1.push {cls:=.type "range",data:=.fields #[.int 0 tk1,.int n t1,.int 1 (tk1 + 1)]}).objs.size:=⟨_,rfl⟩
 have hIn:s.heap.get? I=none:=by
  cases e:s.heap.get? I with
  | none=>rfl
  | some o=>
   have h1':=Heap.lt_size (g1 _ _ e)
   have h2':I=h1.objs.size + 1:=by rw [hI];exact Heap.size_push ..
   rw [h2'] at h1'
   exact absurd h1' (Nat.not_lt.mpr (Nat.le_succ _))
 dsimp only
 rw [←hI]
 have fld:∀ {h:Heap} {j:Nat},(ItK.rng I n).At j h→DI h I:=fun {h j} a=>⟨_,_,a,rfl,fun q t e=>by simp [rawInt] at e⟩
 refine codeAny_mono (Iq (k:=.rng I n) (ds:=A3 n) (Inv:=fun i s'=>∃ h t,s'={s with heap:=h,toks:=t}∧Inv i h∧(ItK.rng I n).At i h) (Q:=Q) b hh rfl (fun i s' hI=>?_) (fun i d v s' h2 t2 hd hI kb at1 rd1 rv=>?_) (fun s' h' tk' hI kb=>?_) (A3 n).length 0 _ (by omega) ?_) fun r s' h=>?_
 ·obtain ⟨h,t,rfl,_,at_⟩:=hI
  exact ⟨at_,rfl⟩
 ·obtain ⟨h,t,rfl,inv,at_⟩:=hI
  obtain ⟨hi,rfl⟩:=GX hd
  cases rv with
  | int _ tv=>
   refine AH (hturn I hIn i tv h2 t2 hi (hkeep I hIn i h h2 (fld at_) kb inv) (fld at1)) (fun zz s2 w=>⟨AH w.go (fun f s3 hq=>?_) fun zz zz h=>h⟩) fun zz zz h=>h
   obtain ⟨rfl,h3,t3,rfl,inv3,k3⟩:=hq
   exact ⟨rfl,h3,t3,rfl,inv3,k3 _ at1⟩
 ·obtain ⟨h,t,rfl,inv,at_⟩:=hI
  have:(A3 n).length=n:=by simp [A3,EP]
  rw [this] at inv at_
  exact hend h' tk' (hkeep I hIn _ h h' (fld at_) kb inv)
 ·refine ⟨_,_,rfl,h0 _ (g1.trans (ext _ _)),?_⟩
  show Heap.get? _ _=_
  have hsz:Builtin.Range.rangeSize 0 n 1=(n:Int):=by
   unfold Builtin.Range.rangeSize
   rw [if_pos (by omega)]
   split<;>omega
  rw [hsz,hI]
  have e1:(0:Int) + ((0:Nat):Int) * 1=0:=by omega
  have e2:(n:Int) - ((0:Nat):Int)=n:=by omega
  rw [e1,e2]
  exact Heap.get?_push_size _ rfl
 ·cases r with
  | ok f=>exact h
  | error e=>exact h.elim
end
section
open PySem PySem.W
variable {B:Bs} {s s':Shared}
variable {ps0:Array Value} {T:Addr} {qual:Str}
open PyProof.Rows
noncomputable abbrev Bs.withS (B:Bs) (S:Addr):Bs:={B with S:=S}
structure EL (B:Bs) (env:Env) (A:Around) (ax:Addr):Prop where
 names:env.scope.names=(AM 116).names
 kind:env.scope.kind=.function
 glob:env.globals=mainGlobals
 bltn:env.builtins=builtinsNs
 frame:env.frame=some env.locals
 cells:env.cells=[]
 frames:A.frames=some [env]
 handled:A.handled=none
 depth:A.depth≤310
 units:A.units≤20
 new:B.h0.get? env.locals=none
 scr:B.fnA 9999=ax
noncomputable abbrev B5 (B:Bs) (env:Env) (A:Around):Fv:={env:=env,stack:=[env],own:=[env.locals],A:=A,base:=B.h0,isFn:=true}
structure Raw (ps0:Array Value) (T:Addr) (qual:Str) (B:Bs) (env:Env) (ax:Addr) (s0 h:Heap):Prop where
 stay:B.h0.StaysIn h
 ns:∃ m,h.Ns env.locals m∧m "script" = some (.ref ax)
 tab:AV ps0 T Ab qual h
 old:∀ c o,s0.get? c=some o→c≠T→h.get? c=some o
structure Ce (ps0:Array Value) (T:Addr) (qual:Str) (B:Bs) (env:Env) (ax:Addr) (s0:Heap) (S:Addr) (h:Heap):Prop where
 stay:B.h0.StaysIn h
 ns:∃ m,h.Ns env.locals m∧m "script" = some (.ref ax)∧m "source" = some (.ref S)
 tab:AV ps0 T Ab qual h
 old:∀ c o,s0.get? c=some o→c≠T→h.get? c=some o
 at_:∃ x y,JI h S x y∧0≤x∧0≤y∧y < 2147483648
 new:s0.get? S=none
theorem Qn:(AM 116).names.all (fun z=>!BG (some z.2) .cell&&!BG (some z.2) .free)=true:=by decide +kernel
theorem MR {x:Str} {k:NameKind} (h:(AM 116).names.lookup x=some k):k≠.cell∧k≠.free:=by
 have:∀ l:LK,l.all (fun z=>!BG (some z.2) .cell&&!BG (some z.2) .free)=true→l.lookup x=some k→k≠.cell∧k≠.free:=by
  intro l
  induction l with
  | nil=>intro _ h;cases h
  | cons p r ih=>
   intro ha hl
   obtain ⟨y,k'⟩:=p
   rw [List.lookup_cons] at hl
   simp only [List.all_cons,Bool.and_eq_true,Bool.not_eq_true'] at ha
   cases q:x == y with
   | true=>
    rw [q] at hl;cases hl
    exact ⟨fun z=>(by rw [z] at ha;exact absurd ha.1.1 (by decide)),fun z=>(by rw [z] at ha;exact absurd ha.1.2 (by decide))⟩
   | false=>rw [q] at hl;exact ih (by simpa using ha.2) hl
 exact this _ Qn h
theorem Fy {env:Env} {A:Around} {ax S:Addr} {s0 h:Heap} {t:Nat} (E:EL B env A ax) (h0s:B.h0.StaysIn s0) (hrest:s.gens=B.g∧s.drawn=B.d∧s.os=B.os) (R:Ce ps0 T qual B env ax s0 S h):Good (B.withS S) (B5 B env A) W00 st0 {s with heap:=h,toks:=t}:=by
 obtain ⟨m,n,m1,m2⟩:=R.ns
 obtain ⟨x,y,⟨tx,ty,pl⟩,x0,y0,y1⟩:=R.at_
 have ko:∀ z,env.kindOf z=(AM 116).names.lookup z:=fun z=>by
  show env.scope.names.lookup z=_
  rw [E.names]
 obtain ⟨oL,eL,nL1,nL2⟩:=BF n
 have hSn:B.h0.get? S=none:=by
  cases e:B.h0.get? S with
  | none=>rfl
  | some o=>have:=h0s _ _ e;rw [R.new] at this;cases this
 have hSL:S≠env.locals:=fun q=>by obtain ⟨k,e⟩:=pl;rw [q,eL] at e;cases e;exact nL1 _ _ rfl
 have nolook:∀ (x:Str) (c:Addr),env.cells.lookup x≠some c:=fun x c e=>by rw [E.cells] at e;cases e
 refine {ok:=?_,dep:=Nat.zero_le _,depth:=E.depth,units:=E.units,stay0:=R.stay,stayB:=R.stay,frames:=?_,ns:=⟨m,n⟩,cells:=fun x c e=>absurd e (nolook x c),own:=?_,src:=⟨⟨_,pl,x,y,tx,ty,rfl,x0,y0,y1⟩,hSn,fun zz=>hSn⟩,pins:=fun p hp=>(by cases hp),vars:=?_,picks:=⟨rfl,(fun k l e=>by cases e),(fun c hc=>by cases hc)⟩,rest:=hrest}
 ·have sfr:S∉(B5 B env A).fr:=fun hm=>by
   have:S∈[env].filterMap (·.frame):=hm
   rw [List.filterMap_cons,E.frame] at this
   simp at this
   exact hSL this
  exact ⟨E.kind,E.glob,E.bltn,⟨env,[],rfl,rfl,_,E.frame⟩,.head _,fun x c e=>absurd e (nolook x c),fun x y c e=>absurd e (nolook x c),fun zz x q=>(MR ((ko x).symm.trans q)).2 rfl,fun zz x q=>absurd rfl (MR ((ko x).symm.trans q)).1,E.frames,E.handled,fun zz zz e=>e,sfr⟩
 ·refine ⟨by show env.scope.kind≠.module;rw [E.kind];decide,⟨env.locals,oL,E.frame,E.new,eL,nL2⟩,trivial⟩
 ·intro a ha
  rw [List.mem_singleton.mp ha]
  exact ⟨⟨oL,eL,nL1,nL2⟩,E.new,E.new⟩
 ·intro z d hd
  have hd':(match Ap (nm z) [115,111,117,114,99,101] with | true=>some D.src | false=>(match Ap (nm z) [115,99,114,105,112,116] with | true=>some (D.fn 9999) | false=>none))=some d:=hd
  cases q:Ap (nm z) [115,111,117,114,99,101] with
  | true=>
   rw [q] at hd';cases hd'
   have:z = "source":=Aj (by rw [AW.mp q];decide)
   subst this
   exact ⟨_,.inl ⟨(ko _).trans (by decide +kernel),m,n,m2⟩,.src⟩
  | false=>
   rw [q] at hd'
   cases q2:Ap (nm z) [115,99,114,105,112,116] with
   | true=>
    rw [q2] at hd';cases hd'
    have:z = "script":=Aj (by rw [AW.mp q2];decide)
    subst this
    refine ⟨.ref (B.fnA 9999),.inl ⟨(ko _).trans (by decide +kernel),m,n,?_⟩,.fn 9999⟩
    rw [E.scr];exact m1
   | false=>rw [q2] at hd';cases hd'
end
section
open PySem PySem.W
variable {B:Bs} {s s':Shared}
variable {ps0:Array Value} {T:Addr} {qual:Str}
open PyProof.Rows
theorem Np {h:Heap} {a:Addr} {m m':SV} (x:h.Ns a m) (y:h.Ns a m'):m=m':=by
 obtain ⟨o,es,ep,e,d,k,f⟩:=x
 obtain ⟨o',es',ep',e',d',k',f'⟩:=y
 rw [e] at e';cases e'
 rw [d] at d';cases d'
 funext z
 rw [←f z,←f' z]
theorem NQ {ρ:Rho} (h:IK ρ=true):Ay [115,111,117,114,99,101] ρ=some .src∧Ay [115,99,114,105,112,116] ρ=some (.fn 9999):=by
 unfold IK at h
 cases h1:WE (Ay [115,111,117,114,99,101] ρ) with
 | false=>rw [h1] at h;cases h
 | true=>
  rw [h1] at h
  replace h:WG (Ay [115,99,114,105,112,116] ρ)=true:=h
  refine ⟨?_,?_⟩
  ·cases q:Ay [115,111,117,114,99,101] ρ with
   | none=>rw [q] at h1;cases h1
   | some d=>rw [q] at h1;cases d<;>first | exact ffF h1 | rfl
  ·cases q:Ay [115,99,114,105,112,116] ρ with
   | none=>rw [q] at h;cases h
   | some d=>rw [q] at h;cases d<;>first | exact ffF h | rw [AI h]
theorem Iu {env:Env} {A:Around} {ax S:Addr} {s0 h:Heap} {W:Wd} {σ:St} (E:EL B env A ax) (h0L:s0.get? env.locals=none) (R:Ce ps0 T qual B env ax s0 S h) (G:Good (B.withS S) (B5 B env A) W σ s') (hr:IK σ.rho=true) (I:AV ps0 T Ab qual s'.heap) (k:Ci T (B5 B env A).own (B5 B env A).fr S h s'.heap) :
  Ce ps0 T qual B env ax s0 S s'.heap:=by
 have ko:∀ z,env.kindOf z=(AM 116).names.lookup z:=fun z=>by
  show env.scope.names.lookup z=_
  rw [E.names]
 obtain ⟨r1,r2⟩:=NQ hr
 have var:∀ (x:Str) (d:D),env.kindOf x=some .local→Ay (nm x) σ.rho=some d→∃ m v,s'.heap.Ns env.locals m∧m x=some v∧Rd (B.withS S) W s'.heap d v:=fun x d hk hl=>by
  obtain ⟨v,hv,rd⟩:=G.vars x d hl
  rcases hv with ⟨_,m,n,e⟩ | ⟨q,_⟩
  ·exact ⟨m,v,n,e,rd⟩
  ·rw [show (B5 B env A).env.kindOf x=env.kindOf x from rfl,hk] at q
   rcases q with q | q<;>cases q
 obtain ⟨m1,v1,n1,e1,rd1⟩:=var "source" .src ((ko _).trans (by decide +kernel)) (by rw [show nm "source" = [115,111,117,114,99,101] from by decide];exact r1)
 obtain ⟨m2,v2,n2,e2,rd2⟩:=var "script" (.fn 9999) ((ko _).trans (by decide +kernel)) (by rw [show nm "script" = [115,99,114,105,112,116] from by decide];exact r2)
 rw [Np n2 n1] at e2
 cases rd1
 cases rd2
 obtain ⟨⟨vs,pl,x,y,t,u,rfl,x0,y0,y1⟩,_⟩:=G.src
 refine ⟨G.stay0,⟨m1,n1,?_,e1⟩,I,fun c o e nT=>?_,⟨x,y,⟨t,u,pl⟩,x0,y0,y1⟩,R.new⟩
 ·rw [←E.scr];exact e2
 ·have nL:c≠env.locals:=fun q=>by rw [q,h0L] at e;cases e
  have nS:c≠S:=fun q=>by rw [q,R.new] at e;cases e
  refine (k c o (R.old c o e nT) (by simpa using nL) nS nT).1 fun hm=>?_
  have:c∈[env].filterMap (·.frame):=hm
  rw [List.filterMap_cons,E.frame] at this
  simp at this
  exact nL this
theorem Jr {env:Env} {A:Around} {S c:Addr} {o:Obj} {h h':Heap} (hf:env.frame=some env.locals) (k:Ci T (B5 B env A).own (B5 B env A).fr S h h') (e:h.get? c=some o) (n1:c≠env.locals) (n2:c≠S) (n3:c≠T):h'.get? c=some o:=by
 refine (k c o e (by simpa using n1) n2 n3).1 fun hm=>?_
 have:c∈[env].filterMap (·.frame):=hm
 rw [List.filterMap_cons,hf] at this
 simp at this
 exact n1 this
noncomputable def YJ (o:Option Stmt):List Stmt:=(o.bind fun st=>sC st (lop:=some)).getD []
noncomputable def XT (e:Option Expr):List Expr×Expr:=Option.getD (dflt:=([],noE)) (e.bind fun e=>eC e (cmp:=fun a es=>(Hi a).bind fun q=>(nth es 0).bind fun e=>some (q.2.1,e)))
noncomputable def Ky:List Stmt:=YJ (nth (YJ (nth (Am 116) 0)) 1)
noncomputable def Li:List Expr×Expr:=XT ((nth Ky 1).bind fun st=>sC st (ite:=some))
theorem Jc:AN G0 (AM 116).names Li.1=Et.1∧AJ G0 (AM 116).names Li.2=Et.2:=by constructor<;>kernel_rfl
noncomputable def V4:Stmt:=match Ky with | st::_=>st | _=>.Pass ⟨0,0,0,0⟩
theorem OX:Hg G0 (AM 116).names V4=WS:=by kernel_rfl
theorem Fo {s s':Shared} {h:Heap} {t:Nat} (h1:s'.gens=s.gens) (h2:s'.drawn=s.drawn) (h3:s'.os=s.os) (h4:s'.heap=h) (h5:s'.toks=t):s'={s with heap:=h,toks:=t}:=by
 cases s';cases s;simp_all
structure FQ (B:Bs) (ps0:Array Value) (T:Addr) (qual:Str):Prop where
 ctx:∀ S,B.h0.get? S=none→Ep (B.withS S) ps0 T qual
 stm:∀ S,B.h0.get? S=none→∀ F:Fv,F.isFn=true→∀ st,FZ (B.withS S) (.ref (B.fnA 4)) F st (DL RU (Hg (B.withS S).G F.env.scope.names st))
 gTold:B.mg "_law_told" = some (.ref (B.fnA 107))
 hG:B.G=G0
theorem Oe {l:List (Out Fl×St)} (h:KB l=true):∀ p∈l,Fc p=true:=List.all_eq_true.mp h
theorem S7 (L:FQ B ps0 T qual) {env:Env} {A:Around} {ax S:Addr} {s0 h:Heap} {t:Nat} (E:EL B env A ax) (h0s:B.h0.StaysIn s0) (h0L:s0.get? env.locals=none) (hrest:s.gens=B.g∧s.drawn=B.d∧s.os=B.os) (R:Ce ps0 T qual B env ax s0 S h) {outs:List (Out Fl×St)} (ho:BW=some outs) (hall:∀ p∈outs,Fc p=true) :
  Wx B A env Ky (fun f s'=>f=.next∧∃ h' t',s'={s with heap:=h',toks:=t'}∧Ce ps0 T qual B env ax s0 S h'∧Ci T (B5 B env A).own (B5 B env A).fr S h h') (fun zz zz=>False) {s with heap:=h,toks:=t}:=by
 have hSn:B.h0.get? S=none:=by
  cases e:B.h0.get? S with
  | none=>rfl
  | some o=>have:=h0s _ _ e;rw [R.new] at this;cases this
 have G:=Fy (s:=s) (t:=t) E h0s hrest R
 have C:=L.ctx S hSn
 refine Wx.cons ?_
 have st1:=L.stm S hSn (B5 B env A) rfl V4 W00 st0 _ G
 rw [show (B.withS S).G=G0 from L.hG,show (B5 B env A).env.scope.names=(AM 116).names from E.names,OX] at st1
 refine AH (st1 outs ho) (fun f s1 h1=>?_) (fun e s1 h1=>?_)
 rotate_left
 ·obtain ⟨σ1,hin,_⟩:=h1
  exact nomatch (show false=true from hall _ hin)
 obtain ⟨fl,W1,σ1,hin,G1,sp1,rf⟩:=h1
 have hok:=hall _ hin
 cases fl with
 | ret d=>exact nomatch (show false=true from hok)
 | next=>
 cases f with
 | next=>
  have hok':allB false (B1 .ne Et σ1)=true:=hok
  cases ho2:B1 .ne Et σ1 with
  | none=>rw [ho2] at hok';cases hok'
  | some outs2=>
   rw [ho2] at hok'
   have I1:=AV.step G sp1 R.tab
   have ko:∀ z,env.kindOf z=(AM 116).names.lookup z:=fun z=>by
    show env.scope.names.lookup z=_
    rw [E.names]
   refine Wx.cons (M4 ?_)
   refine Jf (oc:=.ne) C (F:=B5 B env A) rfl G1 (IT rfl sp1) I1 C.tab L.gTold ((ko _).trans (by decide +kernel)) rfl ⟨(fun q=>by cases q),(fun q=>by cases q)⟩ rfl (p:=Et) (by rw [show (B5 B env A).env.scope.names=(AM 116).names from E.names];exact Jc.1) (by rw [show (B5 B env A).env.scope.names=(AM 116).names from E.names];exact Jc.2) ho2 hok' fun s2 W2 σ2 hin2 G2 I2 k2=>?_
   rw [if_neg (by decide)]
   refine EM (Wx.nil ⟨rfl,s2.heap,s2.toks,?_,?_,sp1.keepT.trans k2⟩)
   ·exact Fo (G2.rest.1.trans hrest.1.symm) (G2.rest.2.1.trans hrest.2.1.symm) (G2.rest.2.2.trans hrest.2.2.symm) rfl rfl
   ·exact Iu E h0L R G2 ((FN hok').2 _ _ hin2).2 I2 (sp1.keepT.trans k2)
 | _=>exact rf.elim
end
section
open PySem PySem.W
variable {B:Bs} {s s':Shared}
variable {ps0:Array Value} {T:Addr} {qual:Str}
open PyProof.Rows
theorem LB {h h':Heap} {c':Addr} {a:Addr} (hn:DI h a∨∃ o,h.get? a=some o∧∀ vs,o.data≠.fields vs) (k:∀ c o,c≠a→h.get? c=some o→h'.get? c=some o) (r:h.CodeRec (.ref c') qual):h'.CodeRec (.ref c') qual:=by
 obtain ⟨c,o,vs,t,e1,e2,e3,e4⟩:=r
 refine ⟨c,o,vs,t,e1,k c o (fun q=>?_) e2,e3,e4⟩
 rcases hn with ⟨o',us,f1,f2,f3⟩ | ⟨o',f1,f2⟩
 ·rw [q,f1] at e2;cases e2;rw [f2] at e3;cases e3;exact f3 _ _ e4
 ·rw [q,f1] at e2;cases e2;exact f2 _ e3
theorem M8 {h h':Heap} {a:Addr} (hT:T≠a) (hn:DI h a∨∃ o,h.get? a=some o∧∀ vs,o.data≠.fields vs) (k:∀ c o,c≠a→h.get? c=some o→h'.get? c=some o) (I:AV ps0 T Ab qual h):AV ps0 T Ab qual h':=by
 obtain ⟨ps,e,t,m,r⟩:=I.at_
 refine ⟨ps,k _ _ hT e,t,m,?_⟩
 rcases r with r | ⟨c',r1,r2,r3⟩
 ·exact .inl r
 ·exact .inr ⟨c',r1,LB hn k r2,r3⟩
theorem V9 {h h':Heap} {L a:Addr} {m:SV} (hn:L≠a) (k:∀ c o,c≠a→h.get? c=some o→h'.get? c=some o) (n:h.Ns L m):h'.Ns L m:=by
 obtain ⟨o,es,ep,e,r⟩:=n
 exact ⟨o,es,ep,k _ _ hn e,r⟩
theorem Ks {h:Heap} {L a:Addr} {m:SV} (n:h.Ns L m) (hn:DI h a):L≠a:=fun q=>by
 obtain ⟨o,e,_,nf⟩:=BF n
 obtain ⟨o',us,f1,f2,_⟩:=hn
 rw [q,f1] at e;cases e;exact nf _ f2
theorem Raw.at {env:Env} {ax:Addr} {s0 h h':Heap} {a:Addr} (R:Raw ps0 T qual B env ax s0 h) (h1:B.h0.get? a=none) (h2:s0.get? a=none) (hT:T≠a) (hn:DI h a) (k:∀ c o,c≠a→h.get? c=some o→h'.get? c=some o):Raw ps0 T qual B env ax s0 h':=by
 obtain ⟨m,n,e⟩:=R.ns
 exact ⟨fun c o ec=>k c o (fun q=>by rw [q,h1] at ec;cases ec) (R.stay c o ec),⟨m,V9 (Ks n hn) k n,e⟩,M8 hT (.inl hn) k R.tab,fun c o ec nT=>k c o (fun q=>by rw [q,h2] at ec;cases ec) (R.old c o ec nT)⟩
theorem NL {h h':Heap} {S a:Addr} {x y:Int} (hS:S≠a) (k:∀ c o,c≠a→h.get? c=some o→h'.get? c=some o) (s:JI h S x y):JI h' S x y:=by
 obtain ⟨t,u,n,e⟩:=s
 exact ⟨t,u,n,k _ _ hS e⟩
theorem Ce.at {env:Env} {ax S:Addr} {s0 h h':Heap} {a:Addr} (R:Ce ps0 T qual B env ax s0 S h) (h1:B.h0.get? a=none) (h2:s0.get? a=none) (hT:T≠a) (hn:DI h a) (k:∀ c o,c≠a→h.get? c=some o→h'.get? c=some o):Ce ps0 T qual B env ax s0 S h':=by
 obtain ⟨m,n,e,e'⟩:=R.ns
 obtain ⟨x,y,sa,r⟩:=R.at_
 refine ⟨fun c o ec=>k c o (fun q=>by rw [q,h1] at ec;cases ec) (R.stay c o ec),⟨m,V9 (Ks n hn) k n,e,e'⟩,M8 hT (.inl hn) k R.tab,fun c o ec nT=>k c o (fun q=>by rw [q,h2] at ec;cases ec) (R.old c o ec nT),⟨x,y,NL (fun q=>?_) k sa,r⟩,R.new⟩
 obtain ⟨t,u,z,ez⟩:=sa
 obtain ⟨o',us,f1,f2,_⟩:=hn
 rw [q,f1] at ez;cases ez;cases f2
theorem Raw.grew {env:Env} {ax:Addr} {s0 h h':Heap} (R:Raw ps0 T qual B env ax s0 h) (k:AY h h'):Raw ps0 T qual B env ax s0 h':=by
 obtain ⟨m,n,e⟩:=R.ns
 exact ⟨fun c o ec=>k c o (R.stay c o ec),⟨m,n.keeps k,e⟩,R.tab.keep fun c o zz e=>k c o e,fun c o ec nT=>k c o (R.old c o ec nT)⟩
theorem Ce.grew {env:Env} {ax S:Addr} {s0 h h':Heap} (R:Ce ps0 T qual B env ax s0 S h) (k:AY h h'):Ce ps0 T qual B env ax s0 S h':=by
 obtain ⟨m,n,e,e'⟩:=R.ns
 obtain ⟨x,y,⟨t,u,z,ez⟩,r⟩:=R.at_
 exact ⟨fun c o ec=>k c o (R.stay c o ec),⟨m,n.keeps k,e,e'⟩,R.tab.keep fun c o zz e=>k c o e,fun c o ec nT=>k c o (R.old c o ec nT),⟨x,y,⟨t,u,z,k _ _ ez⟩,r⟩,R.new⟩
theorem Ce.raw {env:Env} {ax S:Addr} {s0 h:Heap} (R:Ce ps0 T qual B env ax s0 S h):Raw ps0 T qual B env ax s0 h:=by
 obtain ⟨m,n,e,_⟩:=R.ns
 exact ⟨R.stay,⟨m,n,e⟩,R.tab,R.old⟩
theorem Wh {h:Heap} {L:Addr} {m:SV} (I:AV ps0 T Ab qual h) (n:h.Ns L m):T≠L:=fun q=>by
 obtain ⟨ps,e,_⟩:=I.at_
 obtain ⟨o,e',_,nf⟩:=BF n
 rw [q,e'] at e;cases e;exact nf _ rfl
theorem Raw.store {env:Env} {ax:Addr} {s0 h h':Heap} (R:Raw ps0 T qual B env ax s0 h) (h1:B.h0.get? env.locals=none) (h2:s0.get? env.locals=none) {x:Str} {v:Value} {m:SV} (hm:h.Ns env.locals m) (hx:x≠"script") (hn:h'.Ns env.locals (fun y=>if y=x then some v else m y)) (sb:Heap.SameBut env.locals h h'):Raw ps0 T qual B env ax s0 h':=by
 obtain ⟨m',n,e⟩:=R.ns
 rw [Np n hm] at e
 have k:∀ c o,c≠env.locals→h.get? c=some o→h'.get? c=some o:=fun c o n e=>(sb.2 c n).trans e
 obtain ⟨o,eo,_,nf⟩:=BF n
 exact ⟨fun c o ec=>k c o (fun q=>by rw [q,h1] at ec;cases ec) (R.stay c o ec),⟨_,hn,(if_neg (Ne.symm hx)).trans e⟩,M8 (Wh R.tab n) (.inr ⟨o,eo,nf⟩) k R.tab,fun c o ec nT=>k c o (fun q=>by rw [q,h2] at ec;cases ec) (R.old c o ec nT)⟩
theorem Ce.store {env:Env} {ax S:Addr} {s0 h h':Heap} (R:Ce ps0 T qual B env ax s0 S h) (h1:B.h0.get? env.locals=none) (h2:s0.get? env.locals=none) {x:Str} {v:Value} {m:SV} (hm:h.Ns env.locals m) (hx:x≠"script"∧x≠"source") (hn:h'.Ns env.locals (fun y=>if y=x then some v else m y)) (sb:Heap.SameBut env.locals h h'):Ce ps0 T qual B env ax s0 S h':=by
 have R':=R.raw.store h1 h2 hm hx.1 hn sb
 obtain ⟨m',n,e,e'⟩:=R.ns
 rw [Np n hm] at e e'
 obtain ⟨x',y,sa,r⟩:=R.at_
 refine ⟨R'.stay,⟨_,hn,(if_neg (Ne.symm hx.1)).trans e,(if_neg (Ne.symm hx.2)).trans e'⟩,R'.tab,R'.old,⟨x',y,NL (fun q=>?_) (fun c o n e=>(sb.2 c n).trans e) sa,r⟩,R.new⟩
 obtain ⟨t,u,z,ez⟩:=sa
 obtain ⟨o,eo,nq,_⟩:=BF n
 rw [q,eo] at ez;cases ez;exact nq _ _ rfl
end
section
open PySem PySem.W
variable {B:Bs} {s s':Shared}
variable {ps0:Array Value} {T:Addr} {qual:Str}
open PyProof.Rows
noncomputable abbrev WY (L S T:Addr) (h h':Heap):Prop:=∀ c o,c≠L→c≠S→c≠T→h.get? c=some o→h'.get? c=some o
theorem Ce.fn1 {env:Env} {A:Around} {ax S:Addr} {s0 h:Heap} (E:EL B env A ax) (R:Ce ps0 T qual B env ax s0 S h):∃ m,Fn1 B env h m∧m "script" = some (.ref ax)∧m "source" = some (.ref S):=by
 obtain ⟨m,n,e,e'⟩:=R.ns
 exact ⟨m,⟨E.kind,E.glob,E.bltn,n,R.stay⟩,e,e'⟩
theorem Raw.fn1 {env:Env} {A:Around} {ax:Addr} {s0 h:Heap} (E:EL B env A ax) (R:Raw ps0 T qual B env ax s0 h):∃ m,Fn1 B env h m∧m "script" = some (.ref ax):=by
 obtain ⟨m,n,e⟩:=R.ns
 exact ⟨m,⟨E.kind,E.glob,E.bltn,n,R.stay⟩,e⟩
theorem Raw.fresh {env:Env} {ax:Addr} {s0 h:Heap} (R:Raw ps0 T qual B env ax s0 h) {I:Addr} (hI:h.get? I=none):B.h0.get? I=none∧s0.get? I=none∧T≠I:=by
 obtain ⟨ps,eT,_⟩:=R.tab.at_
 have hT:T≠I:=fun q=>by rw [q,hI] at eT;cases eT
 refine ⟨?_,?_,hT⟩
 ·cases e:B.h0.get? I with
  | none=>rfl
  | some o=>rw [R.stay _ _ e] at hI;cases hI
 ·cases e:s0.get? I with
  | none=>rfl
  | some o=>rw [R.old _ _ e (Ne.symm hT)] at hI;cases hI
structure H2 (B:Bs) (fdP:FuncData):Prop where
 range:B.mg "range" = none∧B.mb "range" = some (.type "range")
 pool:Ph B fdP
 gPool:B.mg "_law_pool" = some (.ref (B.fnA 99))
 min:B.mg "min" = none∧B.mb "min" = some (.builtin "min")
theorem Qp (L:FQ B ps0 T qual) {fdP:FuncData} (LF:H2 B fdP) (b:AK B) {env:Env} {A:Around} {ax S:Addr} {s0:Heap} (E:EL B env A ax) (h0s:B.h0.StaysIn s0) (h0L:s0.get? env.locals=none) (hrest:s.gens=B.g∧s.drawn=B.d∧s.os=B.os) (R:Ce ps0 T qual B env ax s0 S s.heap) {outs:List (Out Fl×St)} (ho:BW=some outs) (hall:∀ p∈outs,Fc p=true)
  {p p2 p3 pos pos2:Pos} {k:Nat} {Q:FP} {E':VP} (hQ:∀ h' tk,Ce ps0 T qual B env ax s0 S h'→WY env.locals S T s.heap h'→Q .next {s with heap:=h',toks:=tk}) :
  wpAny (mdl B) A (exec (.For (.Name "turn" p) (.Call (.Name "range" p2) [.Constant (.int 6) k p3] [] pos2) Ky [] pos) env) Q E' s:=by
 obtain ⟨m,X,_,_⟩:=R.fn1 E
 have ko:∀ z,env.kindOf z=(AM 116).names.lookup z:=fun z=>by
  show env.scope.names.lookup z=_
  rw [E.names]
 refine Jw (n:=6) (Inv:=fun i h=>Ce ps0 T qual B env ax s0 S h∧WY env.locals S T s.heap h) b E.handled X (by omega) trivial ((ko _).trans (by decide +kernel)) LF.range (Iv.g (n:=((6:Nat):Int)) Iv.const) (fun h g=>⟨R.grew g,fun c o zz zz zz e=>g c o e⟩)
  (fun I hI i h h' nc kb ⟨R1,K1⟩=>?_) (fun I hI i t h1 t1 hi ⟨R1,K1⟩ nc=>?_) fun h' tk ⟨R1,K1⟩=>hQ h' tk R1 K1
 ·obtain ⟨f1,f2,f3⟩:=R.raw.fresh hI
  refine ⟨R1.at f1 f2 f3 nc (fun c o n e=>kb c o (by simpa using n) e),fun c o n1 n2 n3 e=>kb c o ?_ (K1 c o n1 n2 n3 e)⟩
  simp only [List.mem_singleton]
  exact fun q=>by rw [q,hI] at e;cases e
 ·obtain ⟨f1,f2,f3⟩:=R.raw.fresh hI
  obtain ⟨m1,X1,e1,e2⟩:=R1.fn1 E
  refine wpAny_storeName_local (s:={s with heap:=h1,toks:=t1}) ((ko _).trans (by decide +kernel)) X1.ns (fun h2 hn2 sb=>?_) (by rw [E.kind];rfl)
  have R2:=R1.store E.new h0L X1.ns ⟨by decide,by decide⟩ hn2 sb
  refine ⟨AH (S7 (s:=s) (h:=h2) L E h0s h0L hrest R2 ho hall).go (fun f s3 hq=>?_) fun zz zz x=>x⟩
  obtain ⟨rfl,h3,t3,rfl,R3,K3⟩:=hq
  have hf:=E.frame
  have IL:I≠env.locals:=Ne.symm (Ks X1.ns nc)
  have IS:I≠S:=fun q=>by
   obtain ⟨x,y,⟨t',u,z,ez⟩,_⟩:=R1.at_
   obtain ⟨o',us,g1,g2,_⟩:=nc
   rw [←q,g1] at ez;cases ez;cases g2
  exact ⟨rfl,h3,t3,rfl,⟨R3,fun c o n1 n2 n3 e=>Jr (T:=T) hf K3 ((sb.2 c n1).trans (K1 c o n1 n2 n3 e)) n1 n2 n3⟩,fun o e=>Jr (T:=T) hf K3 ((sb.2 I IL).trans e) IL IS (Ne.symm f3)⟩
end
section
open PySem PySem.W
variable {B:Bs} {s s':Shared}
variable {ps0:Array Value} {T:Addr} {qual:Str}
open PyProof.Rows
noncomputable def Wr:List Stmt:=match Am 116 with
 | .For _ _ l _ _::_=>l
 | _=>[]
theorem Qo (L:FQ B ps0 T qual) {fdP:FuncData} (LF:H2 B fdP) (b:AK B) (hlim:B.h0.NoLimit) {env:Env} {A:Around} {ax:Addr} {s0:Heap} (E:EL B env A ax) (h0s:B.h0.StaysIn s0) (h0L:s0.get? env.locals=none) (hrest:s.gens=B.g∧s.drawn=B.d∧s.os=B.os) (R:Raw ps0 T qual B env ax s0 s.heap) {outs:List (Out Fl×St)} (ho:BW=some outs) (hall:∀ p∈outs,Fc p=true)
  (hTs:∃ ps,s0.get? T=some (tabObj ps)) {items:Array Value} (hl:s0.IsList ax items) (hi:Vu items) (hz:items.size≤2 ^ 24) {p p1 p2 p3 p4 p5 p6 p7 q1 q2 q3 pos:Pos} {k1 k2:Nat} {Q:FP} {E':VP} (hQ:∀ h' tk S,Ce ps0 T qual B env ax s0 S h'→Q .next {s with heap:=h',toks:=tk}) :
  wpAny (mdl B) A (exec (.For (.Name "k" p) (.Call (.Name "range" p1) [.Call (.Name "max" p2) [.Constant (.int 1) k1 p3,.Call (.Name "min" p4) [.Call (.Name "len" p5) [.Name "script" p6] [] q1,.Constant (.int 2) k2 p7] [] q2] [] q3] [] pos) Wr [] pos) env) Q E' s:=by
 obtain ⟨m,X,ms⟩:=R.fn1 E
 have ko:∀ z,env.kindOf z=(AM 116).names.lookup z:=fun z=>by
  show env.scope.names.lookup z=_
  rw [E.names]
 have axT:∀ {h:Heap},Raw ps0 T qual B env ax s0 h→h.IsList ax items:=fun {h} R=>by
  obtain ⟨o,e,c,r⟩:=hl
  refine ⟨o,R.old _ _ e (fun q=>?_),c,r⟩
  obtain ⟨ps,eT⟩:=hTs
  rw [q,eT] at e;cases e;cases c
 obtain ⟨n,hn⟩:∃ n:Nat,(n:Int)=max 1 (min (items.size:Int) 2):=⟨(max 1 (min (items.size:Int) 2)).toNat,by omega⟩
 have n1:1≤n∧n≤2:=by omega
 have kscr:env.kindOf "script" = some .local:=(ko _).trans (by decide +kernel)
 refine Jw (n:=n) (Inv:=fun i h=>Raw ps0 T qual B env ax s0 h∧(i≠0→∃ S,Ce ps0 T qual B env ax s0 S h)) b E.handled X (by omega) trivial ((ko _).trans (by decide +kernel)) LF.range (fun s1 Q1 hs1 hq1=>?_) (fun h g=>⟨R.grew g,fun q=>absurd rfl q⟩)
  (fun I hI i h h' nc kb ⟨R1,K1⟩=>?_) (fun I hI i t h1 t1 hin ⟨R1,K1⟩ nc=>?_) fun h' tk ⟨R1,K1⟩=>?_
 ·have X1:Fn1 B env s1.heap m:=by rw [hs1];exact X
  refine Rg (a:=1) (c:=min (items.size:Int) 2) b X1 E.handled (.inl rfl) (by trivial) (by trivial) ((ko _).trans (by decide +kernel)) (by decide) LF.pool.max Iv.const (fun s2 Q2 hs2 hq2=>?_) fun h' t tk g=>?_
  ·have X2:Fn1 B env s2.heap m:=by rw [hs2];exact X1
   refine Rg (a:=(items.size:Int)) (c:=2) b X2 E.handled (.inr rfl) (by trivial) (by trivial) ((ko _).trans (by decide +kernel)) (by decide) LF.min (Iv.len b X2 (by trivial) ((ko _).trans (by decide +kernel)) LF.pool.len (Vv.name X2 kscr ms (by decide)) (by rw [hs2,hs1];exact axT R) hz) (Iv.g Iv.const) fun h' t tk g=>?_
   have:=hq2 h' t tk (by rw [hs2] at g;exact g)
   rw [if_neg (by decide)]
   exact this
  ·have:=hq1 h' t tk (by rw [hs1] at g;exact g)
   rw [if_pos rfl,←hn]
   exact this
 ·obtain ⟨f1,f2,f3⟩:=R.fresh hI
  have kk:∀ c o,c≠I→h.get? c=some o→h'.get? c=some o:=fun c o n e=>kb c o (by simpa using n) e
  exact ⟨R1.at f1 f2 f3 nc kk,fun q=>let ⟨S,RS⟩:=K1 q;⟨S,RS.at f1 f2 f3 nc kk⟩⟩
 ·obtain ⟨f1,f2,f3⟩:=R.fresh hI
  obtain ⟨m1,X1,e1⟩:=R1.fn1 E
  refine wpAny_storeName_local (s:={s with heap:=h1,toks:=t1}) ((ko _).trans (by decide +kernel)) X1.ns (fun h2 hn2 sb=>?_) (by rw [E.kind];rfl)
  have R2:=R1.store E.new h0L X1.ns (by decide) hn2 sb
  have X2:Fn1 B env h2 (fun y=>if y = "k" then some (.int (i:Nat) t) else m1 y):=⟨E.kind,E.glob,E.bltn,hn2,R2.stay⟩
  have IL:I≠env.locals:=Ne.symm (Ks X1.ns nc)
  obtain ⟨oI,uI,eI,dI,nI⟩:=nc
  have eI2:=(sb.2 I IL).trans eI
  obtain ⟨oP,hoP,hdP,_⟩:=LF.pool.hf.obj
  refine Wx.cons (wpAny_Assign_Name (wpAny_Call_ofName (Vv.global b X2 ((ko _).trans (by decide +kernel)) (.inl LF.gPool) (by decide) _ _ _ rfl fun tk1=>?_)) rfl)
  refine Calls.callWith_function (o:=oP) (fd:=fdP) (Bg (Dr rfl) (Au trivial (Vv.name X2 kscr ((if_neg (by decide)).trans e1) (by decide) _ _ _ rfl fun tk2=>Au trivial (Vv.name X2 ((ko _).trans (by decide +kernel)) (if_pos rfl) (by decide) _ _ _ rfl fun tk3=>DM ⟨⟨X2.stay _ _ hoP,hdP⟩,?_⟩))))
  refine QJ (s:={s with heap:=h2,toks:=tk3}) b hlim LF.pool E.handled (by have:=E.depth;have:recursionLimit=1000:=rfl;omega) X2.stay (axT R2) hi hz (by omega) fun h3 tk4 S x y g3 hS sa x0 y0 y1=>?_
  have R3:=R2.grew g3
  refine wpAny_storeName_local (s:={s with heap:=h3,toks:=tk4}) ((ko _).trans (by decide +kernel)) (X2.ns.keeps g3) (fun h4 hn4 sb4=>?_) (by rw [E.kind];rfl)
  have R4:=R3.store E.new h0L (X2.ns.keeps g3) (by decide) hn4 sb4
  have SL:S≠env.locals:=fun q=>by
   obtain ⟨o,_,_,e,_⟩:=X2.ns
   rw [q,e] at hS;cases hS
  have RS4:Ce ps0 T qual B env ax s0 S h4:=by
   refine ⟨R4.stay,⟨_,hn4,?_,if_pos rfl⟩,R4.tab,R4.old,⟨x,y,NL SL (fun c o n e=>(sb4.2 c n).trans e) sa,x0,y0,y1⟩,(R2.fresh hS).2.1⟩
   rw [if_neg (by decide),if_neg (by decide)];exact e1
  refine Wx.cons (Qp (s:={s with heap:=h4,toks:=_}) L LF b E h0s h0L hrest RS4 ho hall fun h5 tk5 R5 K5=>Wx.nil ⟨rfl,h5,tk5,rfl,⟨R5.raw,fun zz=>⟨S,R5⟩⟩,fun o e=>?_⟩)
  have IS:I≠S:=fun q=>by rw [←q,eI2] at hS;cases hS
  exact K5 _ _ IL IS (Ne.symm f3) ((sb4.2 I IL).trans (g3 _ _ ((sb.2 I IL).trans e)))
 ·obtain ⟨S,RS⟩:=K1 (by omega)
  exact hQ h' tk S RS
end
section
open PySem PySem.W
variable {B:Bs} {s s':Shared}
variable {ps0:Array Value} {T:Addr} {qual:Str}
open PyProof.Rows
noncomputable def VW:List Stmt:=(Am 116).drop 1
noncomputable def PQ:Stmt:=match VW with | st::_=>st | _=>.Pass ⟨0,0,0,0⟩
noncomputable def Mi:List Expr×Expr:=XT ((nth VW 1).bind fun st=>sC st (ite:=some))
noncomputable def Mh:List Expr×Expr:=XT ((nth VW 2).bind SJ)
theorem J0:AN G0 (AM 116).names Mi.1=E9.1∧AJ G0 (AM 116).names Mi.2=E9.2:=by constructor<;>kernel_rfl
theorem Jz:AN G0 (AM 116).names Mh.1=Gf.1∧AJ G0 (AM 116).names Mh.2=Gf.2:=by constructor<;>kernel_rfl
theorem Ts:Hg G0 (AM 116).names PQ=Tt:=by kernel_rfl
theorem VL (L:FQ B ps0 T qual) {env:Env} {A:Around} {ax S:Addr} {s0:Heap} (E:EL B env A ax) (h0s:B.h0.StaysIn s0) (h0L:s0.get? env.locals=none) (hrest:s.gens=B.g∧s.drawn=B.d∧s.os=B.os) (R:Ce ps0 T qual B env ax s0 S s.heap) (h1:HE=true) (h2:HD=true) {Q:FP} {E':VP}
  (hQ:∀ h' t',Raw ps0 T qual B env ax s0 h'→Q (.ret (.bool true)) {s with heap:=h',toks:=t'}):Wx B A env VW Q E' s:=by
 have hSn:B.h0.get? S=none:=by
  cases e:B.h0.get? S with
  | none=>rfl
  | some o=>have:=h0s _ _ e;rw [R.new] at this;cases this
 have ko:∀ z,env.kindOf z=(AM 116).names.lookup z:=fun z=>by
  show env.scope.names.lookup z=_
  rw [E.names]
 have kt:env.kindOf "_law_told" = some .globalImplicit:=(ko _).trans (by decide +kernel)
 have nmE:(B5 B env A).env.scope.names=(AM 116).names:=E.names
 have G:=Fy (s:=s) (t:=s.toks) E h0s hrest R
 have C:=L.ctx S hSn
 unfold HE at h1
 cases ho:PR with
 | none=>rw [ho] at h1;cases h1
 | some outs=>
 rw [ho] at h1
 refine Wx.cons ?_
 have st1:=L.stm S hSn (B5 B env A) rfl PQ W00 st0 _ G
 rw [show (B.withS S).G=G0 from L.hG,nmE,Ts] at st1
 refine AH (st1 outs ho) (fun f s1 q1=>?_) (fun e s1 q1=>?_)
 rotate_left
 ·obtain ⟨σ1,hin,_⟩:=q1
  exact nomatch (show false=true from List.all_eq_true.mp h1 _ hin)
 obtain ⟨fl,W1,σ1,hin,G1,sp1,rf⟩:=q1
 have hok:=List.all_eq_true.mp h1 _ hin
 cases fl with
 | ret d=>exact nomatch (show false=true from hok)
 | next=>
 cases f with
 | next=>
  have hok':allB false (B1 .ne E9 σ1)=true:=hok
  cases ho2:B1 .ne E9 σ1 with
  | none=>rw [ho2] at hok';cases hok'
  | some outs2=>
   rw [ho2] at hok'
   have I1:=AV.step G sp1 R.tab
   refine Wx.cons (M4 ?_)
   refine Jf (oc:=.ne) C (F:=B5 B env A) rfl G1 (IT rfl sp1) I1 C.tab L.gTold kt rfl ⟨(fun q=>by cases q),(fun q=>by cases q)⟩ rfl (p:=E9) (by rw [nmE];exact J0.1) (by rw [nmE];exact J0.2) ho2 hok' fun s2 W2 σ2 hin2 G2 I2 k2=>?_
   rw [if_neg (by decide)]
   refine EM ?_
   have R2:=Iu E h0L R G2 ((FN hok').2 _ _ hin2).2 I2 (sp1.keepT.trans k2)
   have e2:s2={s with heap:=s2.heap,toks:=s2.toks}:=Fo (G2.rest.1.trans hrest.1.symm) (G2.rest.2.1.trans hrest.2.1.symm) (G2.rest.2.2.trans hrest.2.2.symm) rfl rfl
   have G3:=Fy (s:=s2) (t:=s2.toks) E h0s G2.rest R2
   unfold HD at h2
   cases ho3:B1 .eq Gf st0 with
   | none=>rw [ho3] at h2;cases h2
   | some outs3=>
    rw [ho3] at h2
    refine Wx.ret ?_
    refine M6 (oc:=.eq) C (F:=B5 B env A) rfl G3 rfl R2.tab C.tab L.gTold kt rfl ⟨(fun q=>by cases q),(fun q=>by cases q)⟩ rfl (p:=Gf) (by rw [nmE];exact Jz.1) (by rw [nmE];exact Jz.2) ho3 h2 fun s4 W4 σ4 hin4 G4 I4 k4=>?_
    have R4:=Iu E h0L R2 G4 ((FN h2).2 _ _ hin4).2 I4 k4
    have e4:s4={s with heap:=s4.heap,toks:=s4.toks}:=Fo (G4.rest.1.trans hrest.1.symm) (G4.rest.2.1.trans hrest.2.1.symm) (G4.rest.2.2.trans hrest.2.2.symm) rfl rfl
    rw [e4]
    exact hQ s4.heap s4.toks R4.raw
 | _=>exact rf.elim
structure UW (B:Bs) (f:Addr) (fd:FuncData):Prop where
 hand:H3 B f fd (Am 116) (AM 116)
 clo:fd.closure=[]
 bind:Al B fd ["script"] 1 []
theorem JT:Fp (AM 116) ["script"]=true:=by decide +kernel
theorem S9 (L:FQ B ps0 T qual) {fdP:FuncData} (LF:H2 B fdP) (b:AK B) (hlim:B.h0.NoLimit) {f:Addr} {fd:FuncData} (D:UW B f fd) {A:Around} {ax:Addr} (hA:A.frames=some []∧A.handled=none∧A.depth≤309∧A.units≤10) (hax:B.fnA 9999=ax) (h0s:B.h0.StaysIn s.heap) (hrest:s.gens=B.g∧s.drawn=B.d∧s.os=B.os) (I:AV ps0 T Ab qual s.heap)
  {items:Array Value} (hl:s.heap.IsList ax items) (hi:Vu items) (hz:items.size≤2 ^ 24) {outs:List (Out Fl×St)} (ho:BW=some outs) (hall:∀ p∈outs,Fc p=true) (h1:HE=true) (h2:HD=true) {Q:VP} {E:VP}
  (hQ:∀ h' t',AV ps0 T Ab qual h'→(∀ c o,s.heap.get? c=some o→c≠T→h'.get? c=some o)→Q (.bool true) {s with heap:=h',toks:=t'}):wpAny (mdl B) A (call (.ref f) [.ref ax]) Q E s:=by
 have hTs:∃ ps,s.heap.get? T=some (tabObj ps):=by obtain ⟨ps,e,_⟩:=I.at_;exact ⟨ps,e⟩
 refine Dj hlim D.hand JT (vs:=[.ref ax]) rfl (by have:recursionLimit=1000:=rfl;omega) h0s (D.bind _ [.ref ax] h0s rfl) fun h₀ tk env m A' E' F hm=>?_
 have hn:B.h0.get? env.locals=none:=by
  cases e:B.h0.get? env.locals with
  | none=>rfl
  | some o=>have:=h0s _ _ e;rw [F.new] at this;cases this
 have LE:EL B env A' ax:=⟨F.sc,F.fn.kind,F.fn.glob,F.fn.bltn,F.frame,F.cells.trans D.clo,by rw [F.frames,hA.1];rfl,F.handled hA.2.1,by have:=F.dep;omega,by have:=F.units;omega,hn,hax⟩
 have R:Raw ps0 T qual B env ax s.heap h₀:=⟨F.fn.stay,⟨m,F.fn.ns,(hm _).trans rfl⟩,I.keep fun c o zz e=>F.keep _ _ e,fun c o e zz=>F.keep c o e⟩
 refine Wx.cons (Qo (s:={s with heap:=h₀,toks:=tk}) L LF b hlim LE h0s F.new hrest R ho hall hTs hl hi hz fun h1' tk1 S RS=>?_)
 exact VL (s:={s with heap:=h1',toks:=tk1}) L LE h0s F.new hrest RS h1 h2 fun h' t' R'=>hQ h' t' R'.tab R'.old
end
section
open PySem PySem.W
noncomputable def LW (a:Arguments) (ns:List Str):Prop:=a.posonlyargs=[]∧a.args.map (·.arg)=ns∧a.vararg=none∧a.kwonlyargs=[]∧a.kwarg=none
noncomputable def Ht (slots:List (Str×Value)):List (Str×Value)→List (Str×Value)
 | []=>slots
 | (n,d)::r=>Ht (if (slots.lookup n).isNone then slots++[(n,d)] else slots) r
noncomputable def LN (ns:List Str) (vs ds:List Value):List (Str×Value) :=
 ns.filterMap fun n=>((Ht (ns.zip vs) ((ns.drop (ns.length - (ds.drop (ds.length - ns.length)).length)).zip (ds.drop (ds.length - ns.length)))).lookup n).map (n,·)
theorem Rf:∀ (l:List (Str×Value)) (slots:List (Str×Value)),(forIn l slots fun p r=>(do
   let (name,d):=p
   if (r.lookup name).isNone=true then pure (ForInStep.yield (r++[(name,d)])) else pure (ForInStep.yield r):Sem _))=pure (Ht slots l):=by
 intro l
 induction l with
 | nil=>
  intro slots
  exact rfl
 | cons zp r ih=>
  obtain ⟨n,d⟩:=zp
  intro slots
  rw [List.forIn_cons]
  show _=pure (Ht (if (slots.lookup n).isNone then slots++[(n,d)] else slots) r)
  by_cases h:(slots.lookup n).isNone=true
  ·rw [if_pos h];simp only [h,if_true,pure_bind];exact ih _
  ·rw [if_neg h];simp only [h,if_false,pure_bind];exact ih _
theorem KL {α:Type} {M:Model} {A:Around} {c:Prop} [Decidable c] {a b:Sem α} {Q:α→Shared→Prop} {E:VP} {s:Shared} (hc:¬ c) (h:wpAny M A b Q E s):wpAny M A (if c then a else b) Q E s:=by rw [if_neg hc];exact h
theorem Vi {fd:FuncData} {ns:List Str} (hp:LW fd.params ns) {vs:List Value} (hle:vs.length≤ns.length) {ds:List Value}
  (hmiss:((ns.take (ns.length - (ds.drop (ds.length - ns.length)).length)).filter fun n=>((ns.zip vs).lookup n).isNone)=[]) {s:Shared} {items:Option (Array Value)} (hi:(items.getD #[]).toList=ds)
  (hd:∀ (M:Model) (A:Around) (E:VP) (Q:Option (Array Value)→Shared→Prop),Q items s→wpAny M A (seqItems? fd.defaults) Q E s):BindsTo s fd ⟨vs,[]⟩ (LN ns vs ds):=fun M A E Q hq=>by
 obtain ⟨h1,h2,h3,h4,h5⟩:=hp
 obtain ⟨g1,g2,⟨po,ar,va,ko,kd,kw,df⟩,g4,g5,g6,g7,g8,g9,g10,g11,g12,g13,g14,g15⟩:=fd
 dsimp only at h1 h2 h3 h4 h5
 subst h1 h2 h3 h4 h5
 unfold bindArgs
 refine AA (m:=(pure _:Sem _)) (AD ?_)
 refine AA (m:=seqItems? _) (hd M A E _ ?_)
 refine KL ?_ ?_
 ·rw [Bool.and_eq_true,decide_eq_true_eq];exact fun h=>Nat.not_lt.mpr hle h.1
 refine KL ?_ ?_
 ·show ¬ (!List.isEmpty (((List.map (·.arg) ar).take ((List.map (·.arg) ar).length - ((items.getD #[]).toList.drop ((items.getD #[]).toList.length - (List.map (·.arg) ar).length)).length)).filter fun n=>(((List.map (·.arg) ar).zip vs).lookup n).isNone))=true
  rw [hi,hmiss];exact nofun
 show wpAny M A (forIn (((List.map (·.arg) ar).drop ((List.map (·.arg) ar).length - ((items.getD #[]).toList.drop ((items.getD #[]).toList.length - (List.map (·.arg) ar).length)).length)).zip ((items.getD #[]).toList.drop ((items.getD #[]).toList.length - (List.map (·.arg) ar).length))) ((List.map (·.arg) ar).zip vs) _>>=_) Q E s
 rw [hi,Rf]
 refine AA (AD ?_)
 refine AA (m:=(pure _:Sem _)) (AD ?_)
 refine KL nofun ?_
 refine AD ?_
 show Q (List.filterMap _ (List.map (·.arg) ar++[])) s
 rw [List.append_nil]
 exact hq
theorem US:∀ {l1 l2 slots:List (Str×Value)},Ht slots (l1++l2)=Ht (Ht slots l1) l2:=by
 intro l1
 induction l1 with
 | nil=>
  intro _ _
  exact rfl
 | cons zp r ih=>
  obtain ⟨n,d⟩:=zp
  intro l2 slots
  exact ih
theorem UQ:∀ {l slots:List (Str×Value)},(∀ p∈l,p.1∈slots.map (·.1))→Ht slots l=slots:=by
 intro l
 induction l with
 | nil=>
  intro _ _
  exact rfl
 | cons zp r ih=>
  obtain ⟨n,d⟩:=zp
  intro slots h
  obtain ⟨v,e⟩:=mem_lookup (h _ (.head _))
  have e':slots.lookup n=some v:=e
  show Ht (if (slots.lookup n).isNone then slots++[(n,d)] else slots) r=slots
  rw [e',if_neg nofun]
  exact ih fun p hp=>h p (.tail _ hp)
theorem HW {n:Str} {l:List (Str×Value)} (h:n∉l.map (·.1)):l.lookup n=none:=by
 cases e:l.lookup n with
 | none=>rfl
 | some v=>exact absurd (Ih e) h
theorem UR:∀ {l slots:List (Str×Value)},(slots.map (·.1)++l.map (·.1)).Nodup→Ht slots l=slots++l:=by
 intro l
 induction l with
 | nil=>
  intro _ _
  exact (List.append_nil _).symm
 | cons zp r ih=>
  obtain ⟨n,d⟩:=zp
  intro slots h
  have hn:n∉slots.map (·.1):=fun q=>(List.nodup_append.mp h).2.2 n q n (.head _) rfl
  show Ht (if (slots.lookup n).isNone then slots++[(n,d)] else slots) r=_
  rw [HW hn,if_pos (show (none:Option Value).isNone=true from rfl),ih (by simpa using h),List.append_assoc];rfl
theorem filter_all:∀ {l:List (Str×Value)} {pre:List (Str×Value)},((pre++l).map (·.1)).Nodup→(l.map (·.1)).filterMap (fun n=>((pre++l).lookup n).map (n,·))=l:=by
 intro l
 induction l with
 | nil=>
  intro _ _
  exact rfl
 | cons zp r ih=>
  obtain ⟨n,v⟩:=zp
  intro pre h
  have hn:n∉pre.map (·.1):=fun q=>by
   rw [List.map_append] at h
   exact (List.nodup_append.mp h).2.2 n q n (.head _) rfl
  have e:(pre++(n,v)::r).lookup n=some v:=by
   rw [List.lookup_append,HW hn,List.lookup_cons,beq_self_eq_true];rfl
  rw [List.map_cons,List.filterMap_cons,e]
  simp only [Option.map_some]
  have h2:=ih (pre:=pre++[(n,v)]) (by simpa using h)
  rw [List.append_assoc] at h2
  simp only [List.cons_append,List.nil_append] at h2
  rw [h2]
theorem DU:∀ {ns:List Str} {vs:List Value},vs.length≤ns.length→(ns.zip vs).map (·.1)=ns.take vs.length
 | _,[],_=>by simp
 | [],v::vs,h=>by simp at h
 | n::ns,v::vs,h=>by simp [DU (ns:=ns) (vs:=vs) (by simpa using h)]
theorem JX {a:List Str} {b:List Value} (k:Nat):a.zip b=(a.take k).zip (b.take k)++(a.drop k).zip (b.drop k):=by
 conv=>lhs;rw [←List.take_append_drop k (a.zip b)]
 simp only [List.zip,List.take_zipWith,List.drop_zipWith]
theorem Fd {ns:List Str} {a k m:Nat} (h:a + k≤m) {x:Str} (hx:x∈(ns.drop a).take k):x∈ns.take m:=by
 rw [List.take_drop] at hx
 have h2:=List.mem_of_mem_drop hx
 have:ns.take (a + k)=(ns.take m).take (a + k):=by rw [List.take_take,Nat.min_eq_left h]
 rw [this] at h2
 exact List.mem_of_mem_take h2
theorem Oa {ns:List Str} (hnd:ns.Nodup) {vs ds:List Value} (h1:vs.length≤ns.length) (h2:ns.length≤vs.length + ds.length) (h3:ds.length≤ns.length):LN ns vs ds=ns.zip (vs++ds.drop (ds.length - (ns.length - vs.length))):=by
 have h4:ns.length - ds.length≤vs.length:=Nat.sub_le_of_le_add h2
 unfold LN
 rw [Nat.sub_eq_zero_of_le h3,List.drop_zero]
 obtain ⟨k,hk⟩:∃ k,ns.length - ds.length + k=vs.length:=⟨_,Nat.add_sub_of_le h4⟩
 have hkd:k≤ds.length:=Nat.le_of_add_le_add_left (a:=ns.length - ds.length) (by rw [hk,Nat.sub_add_cancel h3];exact h1)
 have hnv:ns.length - vs.length=ds.length - k:=by rw [←hk,Nat.sub_add_eq,Nat.sub_sub_self h3]
 have hk2:ds.length - (ns.length - vs.length)=k:=by rw [hnv,Nat.sub_sub_self hkd]
 have lend:(ds.drop k).length=ns.length - vs.length:=by rw [List.length_drop,hnv]
 have lenk:(ds.drop k).length=(ns.drop vs.length).length:=by rw [lend,List.length_drop]
 rw [JX (a:=ns.drop (ns.length - ds.length)) k,List.drop_drop,hk,US]
 have old:Ht (ns.zip vs) (((ns.drop (ns.length - ds.length)).take k).zip (ds.take k))=ns.zip vs:=UQ fun p hp=>by
  rw [DU h1]
  exact Fd (Nat.le_of_eq hk) (List.of_mem_zip (a:=p.1) (b:=p.2) hp).1
 have e4:ns.zip vs++(ns.drop vs.length).zip (ds.drop k)=ns.zip (vs++ds.drop k):=by
  have z1:ns.zip vs=(ns.take vs.length).zip vs:=by
   rw [JX (a:=ns) (b:=vs) vs.length,List.take_length,List.drop_length,List.zip_nil_right,List.append_nil]
  rw [z1]
  conv=>rhs;rw [(List.take_append_drop vs.length ns).symm]
  rw [List.zip_append (List.length_take_of_le h1)]
 have nd:((ns.zip vs).map (·.1)++((ns.drop vs.length).zip (ds.drop k)).map (·.1)).Nodup:=by
  rw [DU h1,DU (Nat.le_of_eq lenk),lenk,List.take_length,List.take_append_drop]
  exact hnd
 rw [old,UR nd,e4,hk2]
 have lena:(vs++ds.drop k).length=ns.length:=by rw [List.length_append,lend,Nat.add_sub_of_le h1]
 have keys:(ns.zip (vs++ds.drop k)).map (·.1)=ns:=by
  rw [DU (Nat.le_of_eq lena),lena,List.take_length]
 have:=filter_all (l:=ns.zip (vs++ds.drop k)) (pre:=[]) (by rw [List.nil_append,keys];exact hnd)
 rw [keys] at this
 exact this
theorem Mw {fd:FuncData} {ns:List Str} (hp:LW fd.params ns) (hnd:ns.Nodup) {vs ds:List Value} (h1:vs.length≤ns.length) (h2:ns.length≤vs.length + ds.length) (h3:ds.length≤ns.length) {s:Shared} {items:Option (Array Value)} (hi:(items.getD #[]).toList=ds)
  (hd:∀ (M:Model) (A:Around) (E:VP) (Q:Option (Array Value)→Shared→Prop),Q items s→wpAny M A (seqItems? fd.defaults) Q E s):BindsTo s fd ⟨vs,[]⟩ (ns.zip (vs++ds.drop (ds.length - (ns.length - vs.length)))):=by
 rw [←Oa hnd h1 h2 h3]
 refine Vi hp h1 ?_ hi hd
 rw [List.filter_eq_nil_iff]
 intro n hn
 rw [Nat.sub_eq_zero_of_le h3,List.drop_zero] at hn
 have:n∈(ns.zip vs).map (·.1):=by
  rw [DU h1]
  exact Fd (a:=0) (k:=ns.length - ds.length) (Nat.le_trans (Nat.le_of_eq (Nat.zero_add _)) (Nat.sub_le_of_le_add h2)) hn
 obtain ⟨v,e⟩:=mem_lookup this
 rw [e];simp
end
section
open PySem PySem.W
open PyProof.Rows
theorem Bh {t:String} {v:Value} (h:FX t v=true):v=.type t:=by
 cases v<;>first | exact ffF h | rw [of_decide_eq_true h]
theorem Io {t:String} {v:Value} (h:MY t v=true):v=.builtin t:=by
 cases v<;>first | exact ffF h | rw [of_decide_eq_true h]
theorem GI {v:Value} {a:Addr} (h:NR v=some a):v=.ref a:=IsS.of (P:=fun a=>v=.ref a) h (by cases v<;>first | exact trivial | exact rfl)
theorem Ox {v:Value} {x:Str} (h:ND v=some x):∃ t,v=.str x t:=IsS.of (P:=fun x=>∃ t,v=.str x t) h (by cases v<;>first | exact trivial | exact ⟨_,rfl⟩)
theorem O1 {d:Data} {vs:Array Value} (h:Wn d=some vs):∃ n,d=.seq vs n:=IsS.of (P:=fun vs=>∃ n,d=.seq vs n) h (by cases d<;>first | exact trivial | exact ⟨_,rfl⟩)
theorem PN {d:Data} {vs:Array Value} (h:XM d=some vs):d=.fields vs:=IsS.of (P:=fun vs=>d=.fields vs) h (by cases d<;>first | exact trivial | exact rfl)
theorem VT {d:Data} {f:FuncData} (h:VU d=some f):d=.func f:=IsS.of (P:=fun f=>d=.func f) h (by cases d<;>first | exact trivial | exact rfl)
theorem PW {d:Data} {c:ClassData} (h:Vd d=some c):d=.cls c:=IsS.of (P:=fun c=>d=.cls c) h (by cases d<;>first | exact trivial | exact rfl)
theorem Ir {α:Type} {l:List α}:∀ i,(I7 l)[i]? = l[2 * i]?∧(MA l)[i]? = l[2 * i + 1]?:=by
 induction l with
 | nil=>exact fun i=>⟨rfl,rfl⟩
 | cons a r ih=>
  refine fun i=>⟨?_,(ih i).1⟩
  cases i with
  | zero=>rfl
  | succ i=>exact (ih i).2
theorem Ut {α:Type} (f:Nat):∀ (l:List α) (i:Nat),Lv f l i=l[i]?:=by
 induction f with
 | zero=>exact fun l i=>rfl
 | succ f ih=>
  intro l i
  show (match Nat.beq (i % 2) 0 with | true=>Lv f (I7 l) (i / 2) | false=>Lv f (MA l) (i / 2))=_
  cases q:Nat.beq (i % 2) 0 with
  | true=>
   have:=AI q
   show Lv f (I7 l) (i / 2)=_
   rw [ih,(Ir _).1,show 2 * (i / 2)=i by omega]
  | false=>
   have:=Nat.ne_of_beq_eq_false q
   show Lv f (MA l) (i / 2)=_
   rw [ih,(Ir _).2,show 2 * (i / 2) + 1=i by omega]
theorem BM:EB=Heap.get?:=by
 funext h a
 unfold EB Heap.get?
 rw [Ut,Array.getElem?_toList]
 cases h.objs[a]? with
 | none=>rfl
 | some o=>
  obtain ⟨c,d,dt,sl⟩:=o
  cases dt<;>rfl
noncomputable def Bq (h h':Heap):Prop:=∀ c o,(∀ vs,o.data≠.fields vs)→h.get? c=some o→h'.get? c=some o
theorem Ot {B:Bs} {h h':Heap} (k:Bq h h') {W:Wd} {n:Nat}:(∀ v d,toD n h v=some d→Rd B W h' d v)∧∀ vs ds,KQ n h vs=some ds→RdL B W h' ds vs:=by
 have nil:∀ {ds:List D},some []=some ds→RdL B W h' ds []:=fun e=>AB e▸.nil
 induction n with
 | zero=>exact ⟨fun v d e=>nsF e,fun vs ds e=>match vs,e with | [],e=>nil e | _::_,e=>nsF e⟩
 | succ n ih=>
  refine ⟨fun v d e=>?_,fun vs ds e=>?_⟩
  ·cases v with
   | none=>rw [←AB e];exact .non
   | bool b=>rw [←AB e];exact .boo b
   | int i t=>rw [←AB e];exact .int i t
   | str x t=>rw [←AB e];exact .str x t _ rfl
   | ref a=>
    refine AO (show toT (fun vs=>KQ n h vs) h a=some d from e) fun o ho e=>?_
    rw [BM] at ho
    obtain ⟨hc,e⟩:=Bi e
    refine AO e fun items hd e=>AO e fun ds hs e=>?_
    obtain ⟨m,hd⟩:=O1 hd
    rw [←AB e]
    exact .tup a items ds ⟨o,k _ _ (fun vs q=>by rw [hd] at q;cases q) ho,Bh hc,m,hd⟩ (ih.2 _ _ hs)
   | _=>exact nsF e
  ·cases vs with
   | nil=>exact nil e
   | cons v vs=>
    refine AO (show ((toD n h v).bind fun d=>(KQ n h vs).bind fun ds=>some (d::ds))=some ds from e) fun d h1 e=>AO e fun ds' h2 e=>?_
    rw [←AB e]
    exact .cons d v ds' vs (ih.1 _ _ h1) (ih.2 _ _ h2)
theorem Rv {h:Heap} {n:Nat}:∀ {vs:List Value} {ds:List D},KQ n h vs=some ds→vs.length=ds.length:=by
 induction n with
 | zero=>exact fun {vs ds} e=>match vs,e with | [],e=>AB e▸rfl | _::_,e=>nsF e
 | succ n ih=>
  intro vs ds e
  cases vs with
  | nil=>exact AB e▸rfl
  | cons v vs=>
   refine AO (show ((toD n h v).bind fun d=>(KQ n h vs).bind fun ds=>some (d::ds))=some ds from e) fun d h1 e=>AO e fun ds' h2 e=>?_
   rw [←AB e]
   exact congrArg (· + 1) (ih h2)
theorem Wg {B:Bs} {h h':Heap} (k:Bq h h') {W:Wd} {n:Nat} {v:Value} {d:D} (e:toD n h v=some d):Rd B W h' d v:=(Ot k).1 _ _ e
theorem Uj {B:Bs} {h h':Heap} (k:Bq h h') {W:Wd} {n:Nat} {vs:List Value} {ds:List D} (e:KQ n h vs=some ds):RdL B W h' ds vs:=(Ot k).2 _ _ e
theorem VZ {d:Data} {es:Array DictEntry} (h:Va d=some es):∃ p,d=.dict es p:=IsS.of (P:=fun es=>∃ p,d=.dict es p) h (by cases d<;>first | exact trivial | exact ⟨_,rfl⟩)
set_option tactic.hygienic true in
theorem Qv {v:Value} {x:Str}:v.isStr x=Bp (ND v) fun k=>Ap (nm k) (nm x):=by
 cases v<;>first | rfl | skip
 rename_i k t
 show (k == x)=Ap (nm k) (nm x)
 cases q:Ap (nm k) (nm x) with
 | true=>rw [Aj (AW.mp q)];exact BEq.rfl
 | false=>exact beq_eq_false_iff_ne.mpr fun e=>absurd (congrArg nm e) (Dv q)
theorem Wv {l:List DictEntry} {x:Str}:nsL l (nm x)=(l.find? fun e=>e.key.isStr x).map (·.val):=by
 induction l with
 | nil=>rfl
 | cons e r ih=>
  show (match Bp (ND e.key) (fun k=>Ap (nm k) (nm x)) with | true=>some e.val | false=>nsL r (nm x))=_
  rw [List.find?_cons,Qv,ih]
  cases Bp (ND e.key) fun k=>Ap (nm k) (nm x)<;>rfl
set_option tactic.hygienic true in
theorem VI:nsQ=Heap.nsMap:=by
 funext h a x
 unfold nsQ
 rw [BM]
 show (h.get? a).bind _=match h.get? a with | some o=>(match o.data with | .dict es _=>nsFind es x | _=>none) | none=>none
 cases h.get? a with
 | none=>rfl
 | some o=>
  show (Va o.data).bind _=match o.data with | .dict es _=>nsFind es x | _=>none
  cases o.data<;>first | rfl | skip
  rename_i es _
  obtain ⟨l⟩:=es
  show nsL l (nm x)=(Array.find? _ l.toArray).map _
  rw [List.find?_toArray]
  exact Wv
theorem IJ {h:Heap}:∀ {l:List FK},KZ h l=EA l→∀ k∈l,K6 (OK h (Av h k))=EE k:=by
 intro l
 induction l with
 | nil=>
  intro _ k hk
  cases hk
 | cons k' r ih=>
  intro e k hk
  injection e with e1 e2
  rcases List.mem_cons.mp hk with rfl | hk
  ·exact e1
  ·exact ih e2 k hk
theorem N6 {v:Value} (h:Hy v=true):v=.none:=by cases v<;>first | rfl | exact ffF h
structure Oh (h:Heap) (k:FK) (fd:FuncData):Prop where
 obj:∃ o,h.get? (A0 (Av h k))=some o∧o.data=.func fd∧o.cls=.type "function"
 val:Av h k=some (.ref (A0 (Av h k)))
 shape:some (fd.body,fd.scope,fd.params)=EE k
 clo:fd.closure=[]
 glob:fd.globals=mainGlobals
 bltn:fd.builtins=builtinsNs
 code:h.CodeRec fd.code fd.qualname
 dflt:T6 h (Ca k) fd.defaults=true
theorem RM {h:Heap} {fd:FuncData} (hc:WO h fd=true):h.CodeRec fd.code fd.qualname:=Ac hc fun q hq e=>AO hq fun c hc hq=>AO hq fun o ho hq=>AO hq fun vs hv hq=>AO hq fun x hx hq=>by
 obtain ⟨t,ex⟩:=Ox hq
 exact ⟨c,o,vs,t,GI hc,BM▸ho,PN hv,by rw [hx,ex,Aj (AW.mp e)]⟩
theorem PM {h:Heap} {k:FK} (hs:K6 (OK h (Av h k))=EE k) (hb:fkB h k=true):∃ fd,Oh h k fd:=by
 obtain ⟨hb1,hb2⟩:=BA hb
 refine Ac hb2 fun fd hf hb2=>⟨fd,?_⟩
 rw [hf] at hs
 refine AO hf fun v hv hf=>AO hf fun a ha hf=>AO hf fun o ho hf=>?_
 have ev:Av h k=some (.ref a):=by rw [hv,GI ha]
 have cls:FX "function" o.cls=true:=Ac hb1 fun o' e hc=>AO e fun v' hv' e=>AO e fun a' ha' e=>by
  rw [ev] at hv'
  rw [←AB hv'] at ha'
  rw [←AB ha',ho] at e
  rw [AB e];exact hc
 obtain ⟨c1,hb2⟩:=BA hb2
 obtain ⟨c2,hb2⟩:=BA hb2
 obtain ⟨c3,hb2⟩:=BA hb2
 obtain ⟨c4,c5⟩:=BA hb2
 exact ⟨⟨o,by rw [ev];exact BM▸ho,VT hf,Bh cls⟩,by rw [ev];rfl,hs,List.isEmpty_iff.mp c1,AI c2,AI c3,RM c4,c5⟩
end
section
open PySem PySem.W
open PyProof.Rows
theorem KC {h:Heap} {l:List FK} (e:UO h l=true) (k:FK) (hk:k∈l):fkB h k=true:=List.all_eq_true.mp e k hk
end
section
open PySem PySem.W
open PyProof.Rows
theorem Fx {a:Addr} {v:Value} (h:Hx a v=true):v=.ref a:=Ac h fun b hb e=>by rw [GI hb,AI e]
theorem Jo {h:Heap} {a:Addr} (e:h.isNs a=true):h.Ns a (nsQ h a):=by rw [VI];exact Heap.Ns.of_isNs e
theorem R9 {newId:String} {sl:Array (Option Value)} (h:SA newId sl.toList=true):∃ k0 k1 k2 k3 k5,sl=#[k0,k1,k2,k3,some (.builtin newId),k5]:=by
 obtain ⟨l⟩:=sl
 rcases l with _ | ⟨k0,_ | ⟨k1,_ | ⟨k2,_ | ⟨k3,_ | ⟨v,r⟩⟩⟩⟩⟩<;>first | exact ffF h | skip
 refine Ac h fun v hv h=>?_
 obtain ⟨h1,h2⟩:=BA h
 rcases r with _ | ⟨k5,_ | ⟨_,_⟩⟩<;>first | exact ffF h2 | exact ⟨k0,k1,k2,k3,k5,by rw [hv,Io h1]⟩
theorem Mq {h:Heap} {a:Addr} {newId:String} {mro:Addr→List Value→Bool} (hb:RP h a newId mro=true):∃ (o:Obj) (c:ClassData) (k0 k1 k2 k3 k5:Option Value),h.get? a=some {cls:=.type "type",dict:=o.dict,data:=.cls c,slots:=#[k0,k1,k2,k3,some (.builtin newId),k5]}∧
  c.hasDict=true∧c.hasDel=false∧mro a c.mro=true∧Bz h a=c.ns∧h.Ns c.ns (nsQ h c.ns):=Ac hb fun o ho hb=>by
 obtain ⟨b1,hb⟩:=BA hb
 obtain ⟨b2,b3⟩:=BA hb
 refine Ac b2 fun c hc b2=>?_
 obtain ⟨c1,b2⟩:=BA b2
 obtain ⟨c2,b2⟩:=BA b2
 obtain ⟨c3,c4⟩:=BA b2
 obtain ⟨k0,k1,k2,k3,k5,hsl⟩:=R9 b3
 have hd:=PW hc
 refine ⟨o,c,k0,k1,k2,k3,k5,?_,c1,Sr c2,c3,by unfold Bz;rw [ho];show (match o.data with | .cls c=>c.ns | _=>0)=_;rw [hd],Jo c4⟩
 rw [←BM,ho,←Bh b1,←hd,←hsl]
theorem XU {h:Heap} {a:Addr} (hb:RP h a "object.__new__" Sz=true) (ha:Ss h a=true):ClsAt h a (Bz h a) (nsQ h (Bz h a)):=by
 obtain ⟨o,c,k0,k1,k2,k3,k5,ho,c1,c2,c3,hns,n⟩:=Mq hb
 rw [hns]
 have hm:c.mro=[.ref a,.type "object"]:=by
  cases q:c.mro with
  | nil=>rw [q] at c3;cases c3
  | cons v r=>
   rw [q] at c3
   obtain ⟨d1,d2⟩:=BA c3
   exact Ac d2 fun x hx d2=>by rw [Fx d1,B3 hx,Bh d2]
 have ab:c.abstract=false:=Ac ha fun o' ho' ha=>Ac ha fun c' hc' ha=>by
  rw [BM,ho] at ho'
  rw [←AB ho'] at hc'
  rw [show c=c' from AB hc'];exact Sr ha
 refine ⟨⟨c.name,c.qualname,c.bases,c.slotNames,c.subclasses,c.collection,o.dict,k0,k1,k2,k3,k5,?_⟩,n⟩
 obtain ⟨q1,q2,q3,q4,q5,q6,q7,q8,q9,q10,q11⟩:=c
 dsimp only at hm c1 c2 ab
 subst hm c1 c2 ab
 exact ho
theorem Wc {h:Heap} {a p:Addr} (hb:RP h a "Exception.__new__" (Nt p)=true) (hp:Wq h p=true):BH h a (Bz h a) p (nsQ h (Bz h a)) (nsQ h (Bz h p)):=by
 obtain ⟨o,c,k0,k1,k2,k3,k5,ho,c1,c2,c3,hns,n⟩:=Mq hb
 have hm:c.mro=.ref a::.ref p::RD:=by
  rcases q:c.mro with _ | ⟨v,_ | ⟨w,_ | ⟨v1,_ | ⟨v2,r⟩⟩⟩⟩<;>rw [q] at c3<;>first | exact ffF c3 | skip
  obtain ⟨d1,c3⟩:=BA c3
  obtain ⟨d2,c3⟩:=BA c3
  obtain ⟨d3,c3⟩:=BA c3
  obtain ⟨d4,d5⟩:=BA c3
  exact Ac d5 fun x hx d5=>by rw [Fx d1,Fx d2,Bh d3,Bh d4,B3 hx,Bh d5]
 refine ⟨⟨c.name,c.qualname,c.bases,c.slotNames,c.subclasses,c.abstract,c.collection,o.dict,k0,k1,k2,k3,k5,?_⟩,by rw [hns];exact n,?_⟩
 ·rw [hns]
  obtain ⟨q1,q2,q3,q4,q5,q6,q7,q8,q9,q10,q11⟩:=c
  dsimp only at hm c1 c2
  subst hm c1 c2
  exact ho
 ·refine Ac hp fun op hq hp=>Ac hp fun cp hdp hp=>?_
  have hdp:=PW hdp
  have hnp:Bz h p=cp.ns:=by unfold Bz;rw [hq];show (match op.data with | .cls c=>c.ns | _=>0)=_;rw [hdp]
  exact ⟨op.cls,op.dict,cp,op.slots,by rw [←BM,hq,←hdp],by rw [hnp];exact Jo hp⟩
end
section
open PySem PySem.W
open PyProof.Rows
theorem Bq.trans {h h' h2:Heap} (k:Bq h h') (g:h'.StaysIn h2):Bq h h2:=fun c o n e=>g c o (k c o n e)
theorem HZ {h:Heap} {T:Addr} {vs:Array Value} {o:Obj} (hT:h.get? T=some o) (hd:o.data=.fields vs):Bq h (hideAll h [T]):=fun c o' n e=>hideAll_get _ e (by
 simp only [List.mem_singleton]
 intro q
 rw [q,hT] at e;cases e;exact n _ hd)
theorem Ns.nf {h h':Heap} {a:Addr} {m:SV} (k:Bq h h') (n:h.Ns a m):h'.Ns a m:=by
 obtain ⟨o,es,ep,e,d,r⟩:=n
 exact ⟨o,es,ep,k _ _ (fun vs q=>by rw [d] at q;cases q) e,d,r⟩
theorem ClsAt.nf {h h':Heap} {C N:Addr} {m:SV} (k:Bq h h') (X:ClsAt h C N m):ClsAt h' C N m:=by
 obtain ⟨⟨nm,q,bs,sn,sub,col,dd,k0,k1,k2,k3,k5,e⟩,n⟩:=X
 exact ⟨⟨nm,q,bs,sn,sub,col,dd,k0,k1,k2,k3,k5,k _ _ (fun vs q=>by cases q) e⟩,Ns.nf k n⟩
theorem BH.nf {h h':Heap} {C N H:Addr} {mN mH:SV} (k:Bq h h') (X:BH h C N H mN mH):BH h' C N H mN mH:=by
 obtain ⟨⟨nm,q,bs,sn,sub,ab,col,dd,k0,k1,k2,k3,k5,e⟩,n,⟨c0,d2,cd,sl,e2,n2⟩⟩:=X
 exact ⟨⟨nm,q,bs,sn,sub,ab,col,dd,k0,k1,k2,k3,k5,k _ _ (fun vs q=>by cases q) e⟩,Ns.nf k n,⟨c0,d2,cd,sl,k _ _ (fun vs q=>by cases q) e2,Ns.nf k n2⟩⟩
theorem UA {h:Heap} {T:Addr} {cd:Value} {q:Str} (hT:h.get? T=some (tabObj #[])) (r:h.CodeRec cd q):(hideAll h [T]).CodeRec cd q:=by
 obtain ⟨c,o,vs,t,e1,e2,e3,e4⟩:=r
 refine ⟨c,o,vs,t,e1,hideAll_get _ e2 ?_,e3,e4⟩
 simp only [List.mem_singleton]
 intro z
 rw [z,hT] at e2;cases e2;cases e3;simp at e4
structure EO (h0:Heap) (v:Option Value) (k:FK) (fd:FuncData):Prop where
 obj:∃ o,h0.get? (A0 v)=some o∧o.data=.func fd∧o.cls=.type "function"
 val:v=some (.ref (A0 v))
 shape:some (fd.body,fd.scope,fd.params)=EE k
 clo:fd.closure=[]
 glob:fd.globals=mainGlobals
 bltn:fd.builtins=builtinsNs
 code:h0.CodeRec fd.code fd.qualname
 dflt:∃ items,(fd.defaults=.none∧items=#[]∨∃ t o n,fd.defaults=.ref t∧h0.get? t=some o∧o.data=.seq items n)∧items.size=(Ca k).length∧∀ (B:Bs) W h',h0.StaysIn h'→RdL B W h' (Ca k) items.toList
theorem Oh.hid {h:Heap} {T:Addr} {k:FK} {fd:FuncData} (hT:h.get? T=some (tabObj #[])) (F:Oh h k fd):EO (hideAll h [T]) (Av h k) k fd:=by
 have kn:=HZ hT rfl
 obtain ⟨o,e,d,c⟩:=F.obj
 refine ⟨⟨o,kn _ _ (fun vs q=>by rw [d] at q;cases q) e,d,c⟩,F.val,F.shape,F.clo,F.glob,F.bltn,UA hT F.code,?_⟩
 have hd:=F.dflt
 unfold T6 at hd
 cases q:Hy fd.defaults with
 | true=>
  rw [q] at hd
  refine ⟨#[],.inl ⟨N6 q,rfl⟩,?_,fun B W h' zz=>?_⟩
  ·rw [List.isEmpty_iff.mp hd];rfl
  ·rw [List.isEmpty_iff.mp hd];exact .nil
 | false=>
  rw [q] at hd
  refine Ac hd fun l hl hd=>AO hl fun t ht hl=>AO hl fun ot ho hl=>AO hl fun items hs hl=>?_
  obtain ⟨n,hs⟩:=O1 hs
  rw [DZ hd] at hl
  exact ⟨items,.inr ⟨t,ot,n,GI ht,kn _ _ (fun vs z=>by rw [hs] at z;cases z) (BM▸ho),hs⟩,(Array.length_toList (xs:=items)).symm.trans (Rv hl),fun B W h' g=>Uj (kn.trans g) hl⟩
end
section
open PySem PySem.W
open PyProof.Rows
theorem HL {h:Heap} {l:List (Str×D)} (e:KD h l=true) (p:Str×D) (hp:p∈l):T8 h p=true:=List.all_eq_true.mp e p hp
theorem Kx {B:Bs} {h h':Heap} (k:Bq h h') {W:Wd} {d:D} {o:Option Value} (hd:isD h d o=true):∃ v,o=some v∧Rd B W h' d v:=by
 unfold isD at hd
 cases o with
 | none=>cases hd
 | some v=>
  simp only at hd
  cases ht:toD 20 h v with
  | none=>rw [ht] at hd;cases hd
  | some d'=>
   rw [ht] at hd
   have:=Dx hd
   subst this
   exact ⟨v,rfl,Wg k ht⟩
theorem Ql {x:Str} {d:D}:∀ {l:List (Str×D)},Dg (nm x) (l.map fun p=>(nm p.1,p.2))=some d→(x,d)∈l:=by
 intro l
 induction l with
 | nil=>
  intro h
  cases h
 | cons zp r ih=>
  obtain ⟨y,e⟩:=zp
  intro h
  have h':(match nm x == nm y with | true=>some e | false=>Dg (nm x) (r.map fun p=>(nm p.1,p.2)))=some d:=h
  cases q:nm x == nm y with
  | true=>
   rw [q] at h';cases h'
   rw [Aj (eq_of_beq q)];exact .head _
  | false=>rw [q] at h';exact .tail _ (ih h')
theorem Yb:G0=(BK++Cp P.main.body 0).map fun p=>(nm p.1,p.2):=by
 unfold G0 PT Te
 rw [List.map_append]
noncomputable def K4 (h:Heap) (ax:Addr) (i:Nat):Addr:=match Nat.beq i 9999 with
 | true=>ax
 | false=>A0 (Av h (B6 i))
theorem ED {h:Heap} {ax:Addr} {i:Nat} (hi:Nat.blt i 1000=true):K4 h ax i=A0 (gv h (nameAt i)):=by
 have h1:i < 1000:=by unfold Nat.blt at hi;exact AF hi
 have e1:Nat.beq i 9999=false:=by
  cases q:Nat.beq i 9999 with
  | false=>rfl
  | true=>have:=AI q;omega
 have e2:Nat.ble 1000 i=false:=by
  cases q:Nat.ble 1000 i with
  | false=>rfl
  | true=>have:=AF q;omega
 unfold K4 B6
 rw [e1,e2];rfl
set_option tactic.hygienic true in
theorem VR {B:Bs} {h:Heap} (k:Bq h B.h0) (hg:B.mg=nsQ h mainGlobals) (hb:B.mb=nsQ h builtinsNs) {ax:Addr} (hf:B.fnA=K4 h ax) (hd:B.dicA=Ei h) (hc:KD h (BK++Cp P.main.body 0)=true) :
  ∀ x d,Dg (nm x) G0=some d→∃ v,(B.mg x=some v∨(B.mg x=none∧B.mb x=some v))∧∀ W h',B.h0.StaysIn h'→Rd B W h' d v:=fun x d hl=>by
 rw [Yb] at hl
 have hb1:=HL hc _ (Ql hl)
 have plain:isD h d (gv h x)=true→∃ v,(B.mg x=some v∨(B.mg x=none∧B.mb x=some v))∧∀ W h',B.h0.StaysIn h'→Rd B W h' d v:=fun hd=>by
  obtain ⟨v,e,_⟩:=Kx (B:=B) (W:=⟨[],[]⟩) k hd
  refine ⟨v,.inl (by rw [hg];exact e),fun W h' g=>?_⟩
  obtain ⟨v',e',r⟩:=Kx (B:=B) (W:=W) (k.trans g) hd
  rw [e] at e';cases e';exact r
 cases d with
 | blt n=>
  have h1:((gv h x).isNone&&(match nsQ h builtinsNs x with | some v=>MY (DH n) v | none=>false))=true:=hb1
  simp only [Bool.and_eq_true,Option.isNone_iff_eq_none] at h1
  cases hv:nsQ h builtinsNs x with
  | none=>rw [hv] at h1;cases h1.2
  | some v=>
   rw [hv] at h1
   rw [Io h1.2] at hv
   exact ⟨_,.inr ⟨by rw [hg];exact h1.1,by rw [hb];exact hv⟩,fun W h' zz=>.blt n⟩
 | ty n=>
  have h1:((gv h x).isNone&&(match nsQ h builtinsNs x with | some v=>FX (Cv n) v | none=>false))=true:=hb1
  simp only [Bool.and_eq_true,Option.isNone_iff_eq_none] at h1
  cases hv:nsQ h builtinsNs x with
  | none=>rw [hv] at h1;cases h1.2
  | some v=>
   rw [hv] at h1
   rw [Bh h1.2] at hv
   exact ⟨_,.inr ⟨by rw [hg];exact h1.1,by rw [hb];exact hv⟩,fun W h' zz=>.ty n⟩
 | dic n=>
  have h1:(match gv h x with | some (.ref a)=>Nat.beq a (Ei h n) | _=>false)=true:=hb1
  split at h1
  ·rename_i a e
   rw [AI h1,←hd] at e
   exact ⟨_,.inl (by rw [hg];exact e),fun W h' zz=>.dic n⟩
  ·cases h1
 | fn i=>
  have h1:(Ap (nm x) (nm (nameAt i))&&(Nat.blt i 1000&&(match gv h x with | some (.ref _)=>true | _=>false)))=true:=hb1
  simp only [Bool.and_eq_true] at h1
  obtain ⟨c1,c2,c3⟩:=h1
  have ex:=Aj (AW.mp c1)
  split at c3
  ·rename_i a e
   refine ⟨.ref (B.fnA i),.inl ?_,fun W h' zz=>.fn i⟩
   rw [hg,hf,ED c2,←ex]
   show gv h x=_
   rw [e];rfl
  ·cases c3
 | non=>exact plain hb1
 | boo b=>exact plain hb1
 | int n=>exact plain hb1
 | str l=>exact plain hb1
 | byt l=>exact plain hb1
 | tup l=>exact plain hb1
 | lst l=>exact plain hb1
 | src=>exact plain hb1
 | chk=>exact plain hb1
 | wld=>exact plain hb1
 | pick k l=>exact plain hb1
theorem Xi {h:Heap} (hc:KD h (BK++Cp P.main.body 0)=true) {x:Str} {n:Nat} (hm:(x,D.ty n)∈BK):nsQ h mainGlobals x=none∧nsQ h builtinsNs x=some (.type (Cv n)):=by
 have hb1:=HL hc _ (List.mem_append_left _ hm)
 have h1:((gv h x).isNone&&(match nsQ h builtinsNs x with | some v=>FX (Cv n) v | none=>false))=true:=hb1
 simp only [Bool.and_eq_true,Option.isNone_iff_eq_none] at h1
 cases hv:nsQ h builtinsNs x with
 | none=>rw [hv] at h1;cases h1.2
 | some v=>rw [hv] at h1;exact ⟨h1.1,by rw [Bh h1.2]⟩
theorem XX {h:Heap} (hc:KD h (BK++Cp P.main.body 0)=true) {x:Str} {n:Nat} (hm:(x,D.blt n)∈BK):nsQ h mainGlobals x=none∧nsQ h builtinsNs x=some (.builtin (DH n)):=by
 have hb1:=HL hc _ (List.mem_append_left _ hm)
 have h1:((gv h x).isNone&&(match nsQ h builtinsNs x with | some v=>MY (DH n) v | none=>false))=true:=hb1
 simp only [Bool.and_eq_true,Option.isNone_iff_eq_none] at h1
 cases hv:nsQ h builtinsNs x with
 | none=>rw [hv] at h1;cases h1.2
 | some v=>rw [hv] at h1;exact ⟨h1.1,by rw [Io h1.2]⟩
end
section
open PySem PySem.W
open PyProof.Rows
theorem Kz {w:World} {p:Int×Str}:∀ {l:List Str},p∈Bd w l→p.1=hashStr w p.2:=by
 intro l
 induction l with
 | nil=>
  intro h
  cases h
 | cons x r ih=>
  intro h
  rcases List.mem_cons.mp h with rfl | h
  ·rfl
  ·exact ih h
theorem Jj {h:Heap} {e:DictEntry} {es:List DictEntry} {rows:List (Nm×D)} (hb:Jk h (e::es) rows=true):∃ k t q r,rows=q::r∧e.key=.str k t∧nm k=q.1∧isD h q.2 (some e.val)=true∧Jk h es r=true:=by
 cases rows with
 | nil=>exact ffF hb
 | cons q r=>
  obtain ⟨b1,hb⟩:=BA hb
  obtain ⟨b2,b3⟩:=BA hb
  refine Ac b1 fun k hk b1=>?_
  obtain ⟨t,hk⟩:=Ox hk
  exact ⟨k,t,q,r,rfl,hk,AW.mp b1,b2,b3⟩
theorem NB {x k:Str} {t:Tok} {v:Value} (e:v=.str k t):Value.isStrOf x v=(k == x):=by rw [e];rfl
theorem QF {h:Heap} {es:List DictEntry}:∀ {rows:List (Nm×D)},Jk h es rows=true→∀ {x:Str} {d:D},Ay (nm x) rows=some d→∃ e,es.find? (fun e=>Value.isStrOf x e.key)=some e∧isD h d (some e.val)=true:=by
 induction es with
 | nil=>
  intro rows hb x d hl
  cases rows with
  | nil=>exact nsF hl
  | cons _ _=>exact ffF hb
 | cons e es ih=>
  intro rows hb x d hl
  obtain ⟨k,t,⟨y,d'⟩,r,er,hk,ey,b2,b3⟩:=Jj hb
  rw [er] at hl
  replace ey:nm k=y:=ey
  change (match Ap (nm x) y with | true=>some d' | false=>Ay (nm x) r)=some d at hl
  cases q:Ap (nm x) y with
  | true=>
   rw [q] at hl
   rw [←AB hl]
   have q2:Value.isStrOf x e.key=true:=by rw [NB hk,Aj ((AW.mp q).trans ey.symm)];exact beq_self_eq_true k
   exact ⟨e,by rw [List.find?_cons,q2],b2⟩
  | false=>
   rw [q] at hl
   obtain ⟨e',h1,h2⟩:=ih b3 hl
   have q2:Value.isStrOf x e.key=false:=by
    rw [NB hk]
    exact beq_eq_false_iff_ne.mpr fun z=>Dv q (by rw [←z,ey])
   exact ⟨e',by rw [List.find?_cons,q2];exact h1,h2⟩
theorem QG {h:Heap} {es:List DictEntry}:∀ {rows:List (Nm×D)},Jk h es rows=true→∀ e∈es,∃ k t,e.key=.str k t:=by
 induction es with
 | nil=>exact fun {rows} _ e he=>by cases he
 | cons e' es ih=>
  intro rows hb e he
  obtain ⟨k,t,q,r,_,hk,_,_,b3⟩:=Jj hb
  rcases List.mem_cons.mp he with q | he
  ·exact ⟨k,t,q▸hk⟩
  ·exact ih b3 e he
theorem Tx {B:Bs} {h:Heap} (k:Bq h B.h0) {a:Addr} {rows:List (Nm×D)} (hb:Tw h a rows=true) {l:List Str} (hh:Gi h a=Bd B.w l) {x:Str} {d:D} (hl:Ay (nm x) rows=some d) :
  ∃ f,B.h0.MapOf (PySem.strKind P B.w) a f∧∃ v,f x=some v∧∀ W h',B.h0.StaysIn h'→Rd B W h' d v:=Ac hb fun o ho hb=>by
 obtain ⟨b1,b4⟩:=BA hb
 obtain ⟨b1,b2⟩:=BA b1
 obtain ⟨b2,b3⟩:=BA b2
 refine Ac b4 fun es hd b4=>?_
 obtain ⟨ep,hd⟩:=VZ hd
 have hh':es.toList.map (fun e=>(e.hash,Kt e.key))=Bd B.w l:=by
  rw [←hh];unfold Gi;rw [ho];show _=(match o.data with | .dict es _=>es.toList.map (fun (e:DictEntry)=>(e.hash,Kt e.key)) | _=>[]);rw [hd]
 obtain ⟨e,h1,h2⟩:=QF b4 hl
 have ex:o.ExactDict:=⟨Bh b1,Option.isNone_iff_eq_none.mp b2,by simpa using b3⟩
 refine ⟨fun y=>findBy (PySem.strKind P B.w).is es y,⟨o,es,ep,k _ _ (fun vs q=>by rw [hd] at q;cases q) (BM▸ho),ex,hd,fun e' he'=>?_,fun zz=>rfl⟩,e.val,?_,fun W h' g=>?_⟩
 ·have hm:(e'.hash,Kt e'.key)∈Bd B.w l:=by
   rw [←hh'];exact List.mem_map.mpr ⟨e',by simpa using he',rfl⟩
  obtain ⟨kk,t,ek⟩:=QG b4 e' (by simpa using he')
  have:=Kz hm
  rw [ek] at this
  exact ⟨kk,by show Value.isStrOf kk e'.key=true;rw [NB ek];exact beq_self_eq_true kk,this⟩
 ·show (es.find? fun e=>Value.isStrOf x e.key).map (·.val)=_
  rw [←Array.find?_toList,h1];rfl
 ·obtain ⟨v,e1,r⟩:=Kx (B:=B) (W:=W) (k.trans g) h2
  exact AB e1▸r
theorem Tz {B:Bs} {h:Heap} (k:Bq h B.h0) (hd:B.dicA=Ei h) (hb:PS h=true) (hh:JA h=(Bd B.w (FA 0),Bd B.w (FA 1))):JK B K8:=fun n x d hl=>by
 unfold PS at hb
 rw [Bool.and_eq_true] at hb
 injection hh with h1 h2
 rw [hd]
 cases n with
 | zero=>exact Tx k hb.1 h1 hl
 | succ n=>
  have e:Ei h (n + 1)=Ei h 1:=rfl
  rw [e]
  exact Tx k hb.2 h2 hl
end
section
open PySem PySem.W
open PyProof.Rows
noncomputable def DP (k:FK):List Stmt:=match (Eh k).bind K9 with | some q=>q.2.1 | none=>[]
noncomputable def A4 (k:FK):Scope:=match (Eh k).bind K9 with | some q=>q.2.2 | none=>P.main.scope
noncomputable def G9 (k:FK):Arguments:=match (Eh k).bind K9 with | some q=>q.1 | none=>default
theorem DX {k:FK} {fd:FuncData} (h:some (fd.body,fd.scope,fd.params)=EE k):fd.body=.stmts (DP k)∧fd.scope=A4 k∧fd.params=G9 k:=by
 unfold EE at h
 unfold DP A4 G9
 revert h
 cases (Eh k).bind K9 with
 | none=>exact fun h=>snF h
 | some q=>exact fun h=>⟨pI1 (AB h),pI1 (pI2 (AB h)),pI2 (pI2 (AB h))⟩
noncomputable def Kq:List Str→List Str→Bool
 | [],r=>(match r with | []=>true | _::_=>false)
 | x::a,r=>(match r with | y::b=>Ap (nm x) (nm y)&&Kq a b | []=>false)
theorem Nr {a:List Str}:∀ {b:List Str},Kq a b=true→a=b:=by
 induction a with
 | nil=>
  intro b h
  cases b with
  | nil=>rfl
  | cons _ _=>exact ffF h
 | cons x a ih=>
  intro b h
  cases b with
  | nil=>exact ffF h
  | cons y b=>
   obtain ⟨h1,h2⟩:=BA h
   rw [Aj (AW.mp h1),ih h2]
noncomputable def GC (a:Arguments) (ns:List Str):Bool:=(a.posonlyargs.isEmpty&&(a.vararg.isNone&&(a.kwonlyargs.isEmpty&&a.kwarg.isNone)))&&Kq (a.args.map (·.arg)) ns
theorem QB {a:Arguments} {ns:List Str} (h:GC a ns=true):LW a ns:=by
 unfold GC at h
 simp only [Bool.and_eq_true] at h
 obtain ⟨⟨h1,h2,h3,h4⟩,h5⟩:=h
 exact ⟨List.isEmpty_iff.mp h1,Nr h5,Option.isNone_iff_eq_none.mp h2,List.isEmpty_iff.mp h3,Option.isNone_iff_eq_none.mp h4⟩
noncomputable def Ic:List Str→Bool
 | []=>true
 | x::r=>!DB x r&&Ic r
theorem ME:∀ {l:List Str},Ic l=true→l.Nodup:=by
 intro l
 induction l with
 | nil=>
  intro _
  exact List.nodup_nil
 | cons x r ih=>
  intro h
  obtain ⟨h1,h2⟩:=BA h
  exact List.nodup_cons.mpr ⟨fun q=>(by rw [GQ q] at h1;cases h1),ih h2⟩
theorem RI {h0:Heap} {v:Value} {items:Array Value} {s:Shared} (hs:h0.StaysIn s.heap) (hd:v=.none∧items=#[]∨∃ t o n,v=.ref t∧h0.get? t=some o∧o.data=.seq items n) :
  ∃ it:Option (Array Value),it.getD #[]=items∧∀ (M:Model) (A:Around) (E:VP) (Q:Option (Array Value)→Shared→Prop),Q it s→wpAny M A (seqItems? v) Q E s:=by
 rcases hd with ⟨rfl,rfl⟩ | ⟨t,o,n,rfl,e,d⟩
 ·exact ⟨none,rfl,fun M A E Q hq=>AD hq⟩
 ·exact ⟨some items,rfl,fun M A E Q hq=>wpAny_seqItems (hs _ _ e) d hq⟩
theorem Ma {h0:Heap} {v:Option Value} {k:FK} {fd:FuncData} (F:EO h0 v k fd) {ns:List Str} (hs:GC (G9 k) ns=true) (hn:Ic ns=true) (hl:(Ca k).length≤ns.length) :
  ∃ items:Array Value,(∀ (B:Bs) W h',h0.StaysIn h'→RdL B W h' (Ca k) items.toList)∧items.size=(Ca k).length∧∀ (s:Shared) (vs:List Value),h0.StaysIn s.heap→vs.length≤ns.length→ns.length≤vs.length + (Ca k).length→BindsTo s fd ⟨vs,[]⟩ (ns.zip (vs++items.toList.drop ((Ca k).length - (ns.length - vs.length)))):=by
 obtain ⟨items,hi,hz,rd⟩:=F.dflt
 refine ⟨items,rd,hz,fun s vs st h1 h2=>?_⟩
 obtain ⟨it,e,hr⟩:=RI st hi
 have hz':items.toList.length=(Ca k).length:=by simpa using hz
 have hp:=QB hs
 rw [←(DX F.shape).2.2] at hp
 rw [←hz'] at h2 hl ⊢
 exact Mw hp (ME hn) h1 h2 hl (by rw [e]) hr
noncomputable def Wa:D→Option Value | .non=>some .none | .boo b=>some (.bool b) | _=>none
noncomputable def Ol:List D→Option (List Value)
 | []=>some []
 | d::r=>(Wa d).bind fun v=>(Ol r).bind fun vs=>some (v::vs)
theorem Ug {B:Bs} {W:Wd} {h:Heap} {d:D} {v u:Value} (x:Rd B W h d v) (e:Wa d=some u):v=u:=by
 have i:=x.inv
 clear x
 cases d<;>first | exact nsF e | (rw [←AB e];exact i)
theorem Rl {B:Bs} {W:Wd} {h:Heap} {ds:List D}:∀ {vs us:List Value},RdL B W h ds vs→Ol ds=some us→vs=us:=by
 induction ds with
 | nil=>exact fun r e=>AB e▸r.inv
 | cons d r ih=>
  intro vs us rr e
  obtain ⟨v,ws,ev,x,xs⟩:=rr.inv
  refine AO (show ((Wa d).bind fun v=>(Ol r).bind fun vs=>some (v::vs))=some us from e) fun u h1 e=>AO e fun us' h2 e=>?_
  rw [ev,←AB e,ih xs h2,Ug x h1]
noncomputable def bindB (k:FK) (ns:List Str) (n:Nat):Bool:=GC (G9 k) ns&&(Ic ns&&(Nat.ble (Ca k).length ns.length&&(Nat.ble n ns.length&&Nat.ble ns.length (n + (Ca k).length))))
theorem Ak {B:Bs} {v:Option Value} {k:FK} {fd:FuncData} (F:EO B.h0 v k fd) {ns:List Str} {n:Nat} (hb:bindB k ns n=true) {us:List Value} (hv:Ol ((Ca k).drop ((Ca k).length - (ns.length - n)))=some us):Al B fd ns n us:=fun s vs st hl=>by
 unfold bindB at hb
 simp only [Bool.and_eq_true] at hb
 obtain ⟨b1,b2,b3,b4,b5⟩:=hb
 obtain ⟨items,rd,hz,hbd⟩:=Ma F b1 b2 (AF b3)
 have:=hbd s vs st (by rw [hl];exact AF b4) (by rw [hl];exact AF b5)
 rw [hl] at this
 have rdd:∀ {ds:List D} {xs:List Value} (m:Nat),RdL B ⟨[],[]⟩ s.heap ds xs→RdL B ⟨[],[]⟩ s.heap (ds.drop m) (xs.drop m):=by
  intro ds xs m r
  induction m generalizing ds xs with
  | zero=>exact r
  | succ m ih=>
   cases r with
   | nil=>exact .nil
   | cons d v ds vs x xs=>exact ih xs
 rw [Rl (rdd _ (rd B ⟨[],[]⟩ s.heap st)) hv] at this
 exact this
set_option tactic.hygienic true in
theorem F3:∀ {xs:List Nm} {ds df:List D} {ρ:Rho},Em xs ds df=some ρ→ds.length≤xs.length∧xs.length≤ds.length + df.length∧ρ=xs.zip (ds++df.drop (df.length - (xs.length - ds.length)))
 | [],[],df,ρ,h=>by cases h;simp
 | x::xs,d::ds,df,ρ,h=>by
  have h':(match Em xs ds df with | some r=>some ((x,d)::r) | none=>none)=some ρ:=h
  cases hr:Em xs ds df with
  | none=>rw [hr] at h';cases h'
  | some r=>
   rw [hr] at h';cases h'
   obtain ⟨a,b,c⟩:=F3 hr
   refine ⟨by simpa using a,by simp;omega,?_⟩
   rw [c]
   simp
 | x::xs,[],df,ρ,h=>by
  have h':(if Nat.ble (x::xs).length df.length then some ((x::xs).zip (df.drop (df.length - (x::xs).length))) else none)=some ρ:=h
  split at h'
  ·rename_i q
   cases h'
   exact ⟨Nat.zero_le _,by have:=AF q;simpa using this,by simp⟩
  ·cases h'
 | [],d::ds,df,ρ,h=>by cases h
theorem Hk {B:Bs} {W:Wd} {h:Heap}:∀ {ns:List Str} {ds:List D} {vs:List Value},RdL B W h ds vs→FW B W h ((ns.map nm).zip ds) (ns.zip vs)
 | [],_,_,_=>trivial
 | _::_,_,_,.nil=>trivial
 | n::ns,_,_,.cons d v ds vs x xs=>⟨rfl,x,Hk xs⟩
end
section
open PySem PySem.W
open PyProof.Rows
noncomputable def nsK (k:FK):List Str:=(G9 k).args.map (·.arg)
noncomputable def Sy:List Str→List Nm→Bool
 | [],r=>(match r with | []=>true | _::_=>false)
 | x::a,r=>(match r with | y::b=>Ap (nm x) y&&Sy a b | []=>false)
theorem Sx {a:List Str}:∀ {b:List Nm},Sy a b=true→b=a.map nm:=by
 induction a with
 | nil=>
  intro b h
  cases b with
  | nil=>rfl
  | cons _ _=>exact ffF h
 | cons x a ih=>
  intro b h
  cases b with
  | nil=>exact ffF h
  | cons y b=>
   obtain ⟨h1,h2⟩:=BA h
   rw [←AW.mp h1,ih h2];rfl
noncomputable def scB (sc:Scope) (ns:List Str):Bool:=!sc.isCoroutine&&(!sc.isGenerator&&(MW sc.kind&&(sc.names.all (fun z=>!BG (some z.2) .free)&&ns.all (fun y=>BG (As (nm y) sc.names) .local || BG (As (nm y) sc.names) .cell))))
noncomputable def KW (k:FK) (fn:Fn):Bool:=(GC (G9 k) (nsK k)&&(Ic (nsK k)&&Nat.ble (Ca k).length (nsK k).length))&&(Sy (nsK k) fn.params&&(GH (Ca k) fn.defaults&&scB (A4 k) (nsK k)))
theorem Qg:∀ {l:List Str},l.Nodup→(l.map nm).Nodup:=by
 intro l
 induction l with
 | nil=>
  intro _
  exact List.nodup_nil
 | cons x r ih=>
  intro h
  rw [List.nodup_cons] at h
  refine List.nodup_cons.mpr ⟨fun q=>?_,ih h.2⟩
  obtain ⟨y,hy,e⟩:=List.mem_map.mp q
  rw [Aj e] at hy
  exact h.1 hy
theorem TH {p:NameKind→Bool}:∀ {l:LK} {x:Str} {k:NameKind},l.all (fun z=>p z.2)=true→l.lookup x=some k→p k=true:=by
 intro l
 induction l with
 | nil=>
  intro _ _ _ h
  cases h
 | cons zp r ih=>
  obtain ⟨y,k'⟩:=zp
  intro x k ha hl
  rw [List.lookup_cons] at hl
  simp only [List.all_cons,Bool.and_eq_true] at ha
  cases q:x == y with
  | true=>rw [q] at hl;cases hl;exact ha.1
  | false=>rw [q] at hl;exact ih ha.2 hl
theorem JY:∀ {ns:List Nm} {vs:List D},ns.length≤vs.length→(ns.zip vs).map (·.1)=ns
 | [],_,_=>rfl
 | n::ns,v::vs,h=>by simp [JY (ns:=ns) (vs:=vs) (by simpa using h)]
 | n::ns,[],h=>by simp at h
theorem Q9 {B:Bs} {i:Nat} {v:Option Value} {k:FK} {fn:Fn} {fd:FuncData} (F:EO B.h0 v k fd) (ha:B.fnA i=A0 v) (hG:B.G=G0) (hs:KW k fn=true) (hc:Ao G0 (A4 k).names (DP k)=fn.body):HN B i fn fd (DP k):=by
 unfold KW at hs
 simp only [Bool.and_eq_true] at hs
 obtain ⟨⟨s1,s2,s3⟩,s4,s5,s6⟩:=hs
 unfold scB at s6
 simp only [Bool.and_eq_true,Bool.not_eq_true'] at s6
 obtain ⟨c1,c2,c3,c4,c5⟩:=s6
 obtain ⟨e1,e2,e3⟩:=DX F.shape
 have hparams:=Sx s4
 have hdef:fn.defaults=Ca k:=(DZ s5).symm
 have hk:(A4 k).kind=.function:=by
  cases q:(A4 k).kind<;>first | rfl | (rw [q] at c3;cases c3)
 have names:∀ args ρ,Em fn.params args fn.defaults=some ρ→ρ.map (·.1)=fn.params:=fun args ρ h=>by
  obtain ⟨a1,a2,rfl⟩:=F3 h
  exact JY (by simp;omega)
 refine {obj:=by rw [ha];exact F.obj,body:=e1,clo:=F.clo,glob:=F.glob,bltn:=F.bltn,co:=by rw [e2];exact c1,gen:=by rw [e2];exact c2,kind:=by rw [e2];exact hk,code:=F.code,comp:=by rw [hG,e2];exact hc,nodup:=by rw [hparams];exact Qg (ME s2),nofree:=fun x q=>?_,kinds:=fun x hx=>?_,names:=names,binds:=fun args vs ρ W s h st ra=>?_}
 ·rw [e2] at q
  have:=TH (p:=fun z=>!BG (some z) .free) c4 q
  exact absurd this (by decide)
 ·rw [e2,←Ad]
  rw [hparams] at hx
  obtain ⟨y,hy,e⟩:=List.mem_map.mp hx
  have:=List.all_eq_true.mp c5 y hy
  rw [Aj e] at this
  simp only [Bool.or_eq_true] at this
  exact this.imp Bw Bw
 ·obtain ⟨items,rd,hz,hbd⟩:=Ma F s1 s2 (AF s3)
  obtain ⟨a1,a2,rfl⟩:=F3 h
  have hlv:args.length=vs.length:=(RdL.length ra).symm
  rw [hparams,List.length_map] at a1 a2
  rw [hdef] at a2
  refine ⟨_,hbd s vs st (by omega) (by omega),?_⟩
  rw [hparams,hdef,List.length_map,hlv]
  refine Hk ?_
  have rdd:∀ {ds:List D} {xs:List Value} (m:Nat),RdL B W s.heap ds xs→RdL B W s.heap (ds.drop m) (xs.drop m):=by
   intro ds xs m r
   induction m generalizing ds xs with
   | zero=>exact r
   | succ m ih=>
    cases r with
    | nil=>exact .nil
    | cons d v ds vs x xs=>exact ih xs
  exact RdL.append ra (rdd _ (rd B W s.heap st))
noncomputable def Oz (l:List (Nat×Fn)):Bool:=l.all fun p=>KW (B6 p.1) p.2&&!Nat.beq p.1 9999
noncomputable def PU (l:List (Nat×Fn)):List (List S):=l.map fun p=>Ao G0 (A4 (B6 p.1)).names (DP (B6 p.1))
noncomputable def PY (l:List (Nat×Fn)):List (List S):=l.map fun p=>p.2.body
theorem Lr {l:List (Nat×Fn)} (h:Oz l=true) (p:Nat×Fn) (hp:p∈l):KW (B6 p.1) p.2=true∧Nat.beq p.1 9999=false :=
 let ⟨a,b⟩:=BA (List.all_eq_true.mp h p hp)
 ⟨a,Sr b⟩
theorem Mp {l:List (Nat×Fn)} (h:PU l=PY l) (p:Nat×Fn) (hp:p∈l):Ao G0 (A4 (B6 p.1)).names (DP (B6 p.1))=p.2.body:=List.map_inj_left.mp h p hp
theorem HA {α:Type} {k:Nat} {a:α}:∀ {l:List (Nat×α)},Bt k l=some a→(k,a)∈l:=by
 intro l
 induction l with
 | nil=>
  intro h
  cases h
 | cons zp r ih=>
  obtain ⟨i,b⟩:=zp
  intro h
  have h':(match Nat.beq i k with | true=>some b | false=>Bt k r)=some a:=h
  cases q:Nat.beq i k with
  | true=>rw [q] at h';cases h';rw [AI q];exact .head _
  | false=>rw [q] at h';exact .tail _ (ih h')
noncomputable def M9:List (Nat×Fn):=(107,K7)::Td
theorem Ry:Oz M9=true:=by decide +kernel
theorem Rz:PU M9=PY M9:=by kernel_rfl
noncomputable def YE (k q:FK):Bool:=match k,q with | .fn a,.fn b=>Nat.beq a b | .me a b,.me c d=>Nat.beq a c&&Nat.beq b d | _,_=>false
theorem VM {k q:FK} (e:YE k q=true):k=q:=by
 cases k<;>cases q<;>first | exact ffF e | rw [AI e] | (obtain ⟨e1,e2⟩:=BA e;rw [AI e1,AI e2])
noncomputable def N2:List (Nat×Fn)→List FK→Bool
 | [],_=>true
 | p::r,l=>(l.any fun k=>YE k (B6 p.1))&&N2 r l
theorem Ft {l:List FK}:∀ {t:List (Nat×Fn)},N2 t l=true→∀ p∈t,B6 p.1∈l:=by
 intro t
 induction t with
 | nil=>
  intro _ p hp
  cases hp
 | cons q r ih=>
  intro h p hp
  obtain ⟨h1,h2⟩:=BA h
  rcases List.mem_cons.mp hp with e | hp
  ·obtain ⟨k,hk,e2⟩:=List.any_eq_true.mp h1
   rw [e,←VM e2];exact hk
  ·exact ih h2 p hp
theorem Lq:N2 M9 CA=true:=by decide +kernel
end
section
open PySem PySem.W
open PyProof.Rows
theorem Js {v:Value} (h:N8 v=true):∃ n t,v=.int n t:=by cases v<;>first | exact ffF h | exact ⟨_,_,rfl⟩
theorem Qw {v:Value} (h:TQ v=true):∃ n t,v=.str n t:=by cases v<;>first | exact ffF h | exact ⟨_,_,rfl⟩
theorem N9 {v:Value} (h:PH v=true):∃ n,v=.bool n:=by cases v<;>first | exact ffF h | exact ⟨_,rfl⟩
structure Aa (w:World) (h:Heap):Prop where
 sh:KZ h CA=EA CA
 fk:UO h CA=true
 cb:KD h (BK++Cp P.main.body 0)=true
 db:PS h=true
 dh:JA h=(Bd w (FA 0),Bd w (FA 1))
 rest:O3 h=true
theorem En {h:Heap} {c x:Str} {l:List Str} (e:FO h c l=true) (hx:x∈l):nsQ h (Bz h (A9 h c)) x=none:=Option.isNone_iff_eq_none.mp (List.all_eq_true.mp e x hx)
theorem Qy {o:Option Value} (h:Fw o=true):o=some (.ref (A0 o)):=by
 unfold Fw at h
 split at h
 ·rfl
 ·cases h
theorem Mj {h:Heap} {a:Addr} (e:Gg h a=true):h.get? a=some (tabObj #[]):=by
 unfold Gg at e
 rw [BM] at e
 cases ho:h.get? a with
 | none=>rw [ho] at e;cases e
 | some o=>
  rw [ho] at e
  simp only [Bool.and_eq_true] at e
  obtain ⟨⟨e1,e2,e3⟩,e4⟩:=e
  obtain ⟨oc,od,oda,os⟩:=o
  simp only at e1 e2 e3 e4
  cases oda with
  | fields vs=>
   simp only at e4
   have h1:oc=.none:=by cases oc<;>first | rfl | cases e1
   have h2:od=none:=by cases od<;>first | rfl | cases e2
   have h3:os=#[]:=by simpa using e3
   have h4:vs=#[]:=by simpa using e4
   subst h1 h2 h3 h4
   rfl
  | _=>cases e4
theorem J3 {h:Heap} {c T:Addr} (e:LC h c T=true):CodeHd (hideAll h [T]) c T:=by
 obtain ⟨e0,e1⟩:=BA e
 have hne:c≠T:=fun q=>by rw [q,Nat.beq_refl] at e0;cases e0
 refine Ac e1 fun o ho e1=>?_
 obtain ⟨e1,e2⟩:=BA e1
 refine Ac e2 fun vs hd e2=>?_
 obtain ⟨f1,e2⟩:=BA e2
 obtain ⟨f2,e2⟩:=BA e2
 obtain ⟨f3,e2⟩:=BA e2
 obtain ⟨f4,f5⟩:=BA e2
 refine Ac f1 fun P' h11 f1=>AO h11 fun v h11 hv=>?_
 have hP:=AI f1
 obtain ⟨f,tf,h18⟩:=Qw f2
 obtain ⟨fl,tg,h7⟩:=Js f3
 obtain ⟨b,h9⟩:=N9 f4
 obtain ⟨n,tt,h10⟩:=Js f5
 have e11:vs[11]? = some (.ref T):=by rw [h11,GI hv,hP]
 exact ⟨o,vs,f,tf,fl,tg,b,n,tt,hideAll_get _ (BM▸ho) (by simpa using hne),Bh e1,PN hd,e11,by rw [Array.getD_eq_getD_getElem?,e11];rfl,h18,h7,h9,h10,hne⟩
set_option tactic.hygienic true in
theorem Vh {h:Heap} {T:Addr} (e:PZ h T=true):(hideAll h [T]).BuiltinsAt (nsQ h mainGlobals) T:=by
 unfold PZ at e
 split at e
 ·rename_i bm hv
  simp only [Bool.and_eq_true,Bool.not_eq_true'] at e
  obtain ⟨⟨n1,n2,n3⟩,e1⟩:=e
  have ne:∀ {x:Addr},Nat.beq bm x=false→bm≠x:=fun z q=>by rw [q] at z;simp at z
  rw [BM] at e1
  cases ho:h.get? bm with
  | none=>rw [ho] at e1;cases e1
  | some o=>
   rw [ho] at e1
   simp only [Bool.and_eq_true] at e1
   obtain ⟨e1,e2,e3⟩:=e1
   refine ⟨bm,o,hv,ne n1,ne n2,ne n3,hideAll_get _ ho (by simpa using ne n3),Bh e1,?_,?_⟩
   ·cases hd:o.dict with
    | none=>rw [hd] at e2;cases e2
    | some d=>rw [hd] at e2;rw [AI e2]
   ·cases hd:o.data<;>rw [hd] at e3<;>first | rfl | cases e3
 ·cases e
end
section
open PySem PySem.W
open PyProof.Rows
noncomputable def mkB (w:World) (h:Heap) (s:Shared) (ax S:Addr):Bs where
 w:=w
 h0:=hideAll h [BV h]
 S:=S
 g:=s.gens
 d:=s.drawn
 os:=s.os
 fnA:=K4 h ax
 dicA:=Ei h
 ChkP:=CS w (nsQ h mainGlobals) (A9 h "Checker") (A9 h "World") (A9 h "NamedRow")
 WldP:=Cs w (nsQ h mainGlobals) (A9 h "World") (A9 h "NamedRow")
 G:=G0
 mg:=nsQ h mainGlobals
 mb:=nsQ h builtinsNs
structure YY (h:Heap):Prop where
 chk:Gx h "Checker" WR=true
 wld:Gx h "World" V0=true
 row:Gx h "NamedRow" V8=true
 sco:Gx h "Scope" V7=true
 srow:Gx h "ScopeRow" R8=true
 flt:(Fw (gv h "TypeFault")=true∧Fw (gv h "ChanError")=true)∧RP h (A9 h "TypeFault") "Exception.__new__" (Nt (A9 h "ChanError"))=true∧Wq h (A9 h "ChanError")=true∧FO h "TypeFault" Tg=true∧FO h "ChanError" OV=true
 hd:LC h (FC h) (BV h)=true
 tab:Gg h (BV h)=true
 blt:PZ h (BV h)=true
 sys:V5 (h.get? sysModules)=true∧Nat.beq sysModules (BV h)=false
 lim:h.isNs cStatics=true∧nsQ h cStatics "sys.recursionlimit" = none
 ns:h.isNs mainGlobals=true∧h.isNs builtinsNs=true
 bound:E8 (gv h "ERROR")=true∧E8 (gv h "PLAIN")=true∧E8 (gv h "_law_int")=true
 exc:gv h "Exception" = none∧(match nsQ h builtinsNs "Exception" with | some v=>FX "Exception" v | none=>false)=true
 kinds:isD h (.tup (Br.map IE)) (gv h "INT_KINDS")=true∧isD h (.tup (CM.map IE)) (gv h "BUILTINS")=true
theorem CV {h:Heap} (e:O3 h=true):YY h:=by
 unfold O3 WQ at e
 simp only [Bool.and_eq_true,Bool.not_eq_true',Option.isNone_iff_eq_none] at e
 obtain ⟨⟨a1,a2,a3,a4,a5,a6,a7,a8,a9,a10⟩,⟨b1,b2,b3⟩,c,⟨d1,d2⟩,e,f,g⟩:=e
 exact ⟨a1,a2,a3,a4,a5,⟨a6,a7,a8,a9,a10⟩,b1,b2,b3,c,d1,d2,e,f,g⟩
section
variable {w:World} {h:Heap} {s:Shared} {ax S:Addr}
theorem Aa.tab (X:Aa w h):h.get? (BV h)=some (tabObj #[]):=Mj (CV X.rest).tab
theorem Aa.nf (X:Aa w h):Bq h (hideAll h [BV h]):=HZ X.tab rfl
theorem Aa.fn (X:Aa w h) {k:FK} (hk:k∈CA):∃ fd,EO (hideAll h [BV h]) (Av h k) k fd:=by
 obtain ⟨fd,F⟩:=PM (IJ X.sh k hk) (KC X.fk k hk)
 exact ⟨fd,F.hid X.tab⟩
theorem Aa.bsOk (X:Aa w h):AK (mkB w h s ax S) where
 chk:=fun p q a hp x=>CS.mono hp x
 wld:=fun p q a hp x=>Cs.mono hp x
 hmg:=Ns.nf X.nf (Jo (CV X.rest).ns.1)
 hmb:=Ns.nf X.nf (Jo (CV X.rest).ns.2)
 glob:=VR (B:=mkB w h s ax S) X.nf rfl rfl rfl rfl X.cb
theorem Aa.lim (X:Aa w h):(hideAll h [BV h]).NoLimit:=⟨_,Ns.nf X.nf (Jo (CV X.rest).lim.1),(CV X.rest).lim.2⟩
theorem Aa.dic (X:Aa w h):JK (mkB w h s ax S) TB.dics:=Tz (B:=mkB w h s ax S) X.nf rfl X.db X.dh
theorem B4 (X:Aa w h) {c:Str} {ab:List Str} (e:Gx h c ab=true):ClsAt (hideAll h [BV h]) (A9 h c) (Bz h (A9 h c)) (nsQ h (Bz h (A9 h c)))∧nsQ h mainGlobals c=some (.ref (A9 h c))∧∀ x∈ab,nsQ h (Bz h (A9 h c)) x=none:=by
 unfold Gx at e
 simp only [Bool.and_eq_true] at e
 obtain ⟨e1,e2,e3,e4⟩:=e
 exact ⟨ClsAt.nf X.nf (XU e2 e3),Qy e1,fun x hx=>En e4 hx⟩
theorem Jp (i j:Nat):Aq i j=DP (.me i j)∧AR i j=A4 (.me i j):=⟨rfl,rfl⟩
theorem Mm (i:Nat):Am i=DP (.fn i)∧AM i=A4 (.fn i):=⟨rfl,rfl⟩
theorem EO.hand (i:Nat) (hi:Nat.blt i 1000=true) {fd:FuncData} (F:EO (hideAll h [BV h]) (Av h (.fn i)) (.fn i) fd):DT (mkB w h s ax S) i fd:=by
 obtain ⟨e1,e2,_⟩:=DX F.shape
 refine ⟨?_,e1.trans (by rw [(Mm i).1]),e2.trans (Mm i).2.symm,F.glob,F.bltn,F.code⟩
 rw [show (mkB w h s ax S).fnA i=A0 (Av h (.fn i)) from ED hi]
 exact F.obj
theorem EO.meth {i j:Nat} {fd:FuncData} (F:EO (hideAll h [BV h]) (Av h (.me i j)) (.me i j) fd):CD (mkB w h s ax S) i j (A0 (Av h (.me i j))) fd:=by
 obtain ⟨e1,e2,_⟩:=DX F.shape
 exact ⟨F.obj,e1.trans (by rw [(Jp i j).1]),e2.trans (Jp i j).2.symm,F.glob,F.bltn,F.code⟩
theorem Az {k:FK} (hk:k∈Ah):k∈CA:=List.mem_append_right _ hk
end
noncomputable def Dm:List Str:=BO++(BQ++(["outer","owner","rows","name","entry","spot","is_checked","is_used","value","coerce","takes_type","expr","declare"]:List Str))
theorem Tb:Dm.map (fastLookup "object")=Dm.map (fun zz=>some none):=by kernel_rfl
theorem PL {n:Str} (hn:n∈Dm):typeLookup (.type "object") n=pure none:=by
 rw [typeLookup_type,builtinLookup_eq_fast]
 have:∀ {l:List Str},l.map (fastLookup "object")=l.map (fun zz=>some none)→n∈l→fastLookup "object" n=some none:=by
  intro l
  induction l with
  | nil=>intro _ h;cases h
  | cons a r ih=>
   intro e h
   injection e with e1 e2
   rcases List.mem_cons.mp h with rfl | h
   ·exact e1
   ·exact ih e2 h
 rw [this Tb hn]
end
section
open PySem PySem.W
open PyProof.Rows
variable {w:World} {h:Heap} {s:Shared} {ax S:Addr}
noncomputable def Bv (i j:Nat):Str:=match Eh (.me i j) with | some s=>NJ s | none=>""
theorem XB:(nameAt 88,Bv 88 0)=(("Checker" : Str),("__init__" : Str)):=by kernel_rfl
theorem XA:(nameAt 88,Bv 88 1)=(("Checker" : Str),("expr" : Str)):=by kernel_rfl
theorem W9:(nameAt 88,Bv 88 2)=(("Checker" : Str),("value" : Str)):=by kernel_rfl
theorem W8:(nameAt 88,Bv 88 4)=(("Checker" : Str),("coerce" : Str)):=by kernel_rfl
theorem W7:(nameAt 88,Bv 88 5)=(("Checker" : Str),("takes_type" : Str)):=by kernel_rfl
theorem Wy:(nameAt 97,Bv 97 0)=(("World" : Str),("__init__" : Str)):=by kernel_rfl
theorem Ww:(nameAt 97,Bv 97 1)=(("World" : Str),("base_of" : Str)):=by kernel_rfl
theorem XD:(nameAt 85,Bv 85 0)=(("Scope" : Str),("__init__" : Str)):=by kernel_rfl
theorem XC:(nameAt 85,Bv 85 1)=(("Scope" : Str),("declare" : Str)):=by kernel_rfl
theorem XE:(nameAt 84,Bv 84 0)=(("ScopeRow" : Str),("__init__" : Str)):=by kernel_rfl
theorem Wz:(nameAt 94,Bv 94 0)=(("NamedRow" : Str),("__init__" : Str)):=by kernel_rfl
theorem X7:(nameAt 2,Bv 2 0)=(("ChanError" : Str),("__init__" : Str)):=by kernel_rfl
theorem n_4:nameAt 4=("TypeFault" : Str):=by kernel_rfl
theorem Yn:nameAt 95=("known_rows" : Str):=by kernel_rfl
theorem Ym:nameAt 96=("universe" : Str):=by kernel_rfl
theorem Yl:nameAt 99=("_law_pool" : Str):=by kernel_rfl
theorem YA:nameAt 106=("_law_checker" : Str):=by kernel_rfl
theorem X8:nameAt 116=("law" : Str):=by kernel_rfl
theorem X9:nameAt 107=("_law_told" : Str):=by kernel_rfl
theorem Gu {i j:Nat} {c x:Str} (e:(nameAt i,Bv i j)=(c,x)) {fd:FuncData} (F:EO (hideAll h [BV h]) (Av h (.me i j)) (.me i j) fd):nsQ h (Bz h (A9 h c)) x=some (.ref (A0 (Av h (.me i j)))):=by
 injection e with e1 e2
 have:=F.val
 rw [←this,←e1,←e2];rfl
theorem H7 {i:Nat} {x:Str} (e:nameAt i=x) (hi:Nat.blt i 1000=true) {fd:FuncData} (F:EO (hideAll h [BV h]) (Av h (.fn i)) (.fn i) fd):nsQ h mainGlobals x=some (.ref (K4 h ax i)):=by
 rw [ED hi,←e]
 exact F.val
theorem H0 {i:Nat} (hi:Nat.beq i 9999=false):K4 h ax i=A0 (Av h (B6 i)):=by
 unfold K4;rw [hi]
set_option tactic.hygienic true in
theorem Nv {x:Str} {i:Nat} (e:CJ (nm x)=some i):(x = "value"∧i=1001)∨(x = "coerce"∧i=1003)∨(x = "takes_type"∧i=1004)∨(x = "expr"∧i=1000):=by
 unfold CJ at e
 have g:∀ {y:Str},(nm x == nm y)=true→x=y:=fun h=>Aj (eq_of_beq h)
 split at e
 ·rename_i q;cases e;exact .inl ⟨g q,rfl⟩
 ·split at e
  ·rename_i q;cases e;exact .inr (.inl ⟨g q,rfl⟩)
  ·split at e
   ·rename_i q;cases e;exact .inr (.inr (.inl ⟨g q,rfl⟩))
   ·split at e
    ·rename_i q;cases e;exact .inr (.inr (.inr ⟨g q,rfl⟩))
    ·cases e
theorem KS {i:Nat} {fn:Fn} (hf:Bt i M9=some fn):B6 i∈CA:=Ft Lq (i,fn) (HA hf)
theorem Aa.meth (X:Aa w h) {i:Nat} (hk:B6 i∈CA) (hi:Nat.beq i 9999=false) {c x:Str} {a b:Nat} (e0:B6 i=.me a b) (e:(nameAt a,Bv a b)=(c,x)) (hx:x∈Dm) :
  nsQ h (Bz h (A9 h c)) x=some (.ref ((mkB w h s ax S).fnA i))∧(∃ o,(mkB w h s ax S).h0.get? ((mkB w h s ax S).fnA i)=some o∧o.cls=.type "function")∧typeLookup (.type "object") x=pure none:=by
 obtain ⟨fd,F⟩:=X.fn hk
 have hfa:(mkB w h s ax S).fnA i=A0 (Av h (B6 i)):=H0 hi
 rw [hfa]
 rw [e0] at F ⊢
 obtain ⟨o,q,_,c'⟩:=F.obj
 exact ⟨Gu e F,⟨o,q,c'⟩,PL hx⟩
theorem Aa.chkOk (X:Aa w h):KI (mkB w h s ax S) (A9 h "Checker") (Bz h (A9 h "Checker")) (nsQ h (Bz h (A9 h "Checker"))):=by
 obtain ⟨c1,c2,c3⟩:=B4 X (CV X.rest).chk
 refine ⟨c1,c3 _ (AP (by decide +kernel)),c3 _ (AP (by decide +kernel)),c3 _ (AP (by decide +kernel)),fun i x e=>?_,fun p a hx=>?_⟩
 ·rcases Nv e with ⟨rfl,rfl⟩ | ⟨rfl,rfl⟩ | ⟨rfl,rfl⟩ | ⟨rfl,rfl⟩
  ·exact X.meth (KS (fn:=WL) rfl) rfl rfl W9 (AP (by decide +kernel))
  ·exact X.meth (KS (fn:=WK) rfl) rfl rfl W8 (AP (by decide +kernel))
  ·exact X.meth (KS (fn:=WJ) rfl) rfl rfl W7 (AP (by decide +kernel))
  ·exact X.meth (i:=1000) (Az (by simp [Ah,B6])) rfl rfl XA (AP (by decide +kernel))
 ·exact XW (B:=mkB w h s ax S) hx
end
section
open PySem PySem.W
open PyProof.Rows
variable {w:World} {h:Heap} {s:Shared} {ax S:Addr}
theorem Tf:∃ p1 p2 p3 p4 p5 p6 q1 q2 q3 q4 r1 r2 r3 r4,DP (.me 2 0)=[.Expr (.Call (.Attribute (.Name "Exception" p1) "__init__" p2) [.Name "self" p3,.Name "message" p4] [] p5) p6,.Assign [.Attribute (.Name "self" q1) "message" q2] (.Name "message" q3) q4,.Assign [.Attribute (.Name "self" r1) "spot" r2] (.Name "spot" r3) r4]∧p2.endLine=p5.line :=
 ⟨_,_,_,_,_,_,_,_,_,_,_,_,_,_,rfl,rfl⟩
theorem RA:(A4 (.me 2 0)).isCoroutine=false∧(A4 (.me 2 0)).isGenerator=false∧(A4 (.me 2 0)).kind=.function∧(A4 (.me 2 0)).names.lookup ("self" : Str)=some NameKind.local∧
  (A4 (.me 2 0)).names.lookup ("message" : Str)=some NameKind.local∧(A4 (.me 2 0)).names.lookup ("spot" : Str)=some NameKind.local∧(A4 (.me 2 0)).names.lookup ("Exception" : Str)=some NameKind.globalImplicit:=⟨rfl,rfl,rfl,rfl,rfl,rfl,rfl⟩
theorem RB:(A4 (.me 2 0)).names.all (fun z=>!BG (some z.2) .cell)=true:=by decide +kernel
set_option tactic.hygienic true in
theorem Aa.flt (X:Aa w h):∃ fI fd,Er (mkB w h s ax S) ((mkB w h s ax S).fnA 4) (Bz h (A9 h "TypeFault")) (A9 h "ChanError") fI (nsQ h (Bz h (A9 h "TypeFault"))) (nsQ h (Bz h (A9 h "ChanError"))) fd:=by
 have R:=CV X.rest
 obtain ⟨⟨r1,r2⟩,f1,f2,f3,f4⟩:=R.flt
 obtain ⟨fd,F⟩:=X.fn (k:=.me 2 0) (Az (by simp [Ah]))
 obtain ⟨e1,e2,e3⟩:=DX F.shape
 obtain ⟨s1,s2,s3,s4,s5,s6,s7⟩:=RA
 have h4:(mkB w h s ax S).fnA 4=A9 h "TypeFault":=by
  show K4 h ax 4=_
  rw [ED (by rfl),n_4]
  try rfl
 refine ⟨A0 (Av h (.me 2 0)),fd,?_⟩
 rw [h4]
 have ab:=fun x (hx:x∈Tg)=>En f3 hx
 have ab2:=fun x (hx:x∈OV)=>En f4 hx
 refine {cls:=BH.nf X.nf (Wc f1 f2),ini:=?_,sa:=⟨ab _ (AP (by decide +kernel)),ab2 _ (AP (by decide +kernel))⟩,at1:=⟨ab _ (AP (by decide +kernel)),ab2 _ (AP (by decide +kernel))⟩,at2:=⟨ab _ (AP (by decide +kernel)),ab2 _ (AP (by decide +kernel))⟩,fn:=?_,body:=?_,glob:=F.glob,bltn:=F.bltn,co:=by rw [e2];exact s1,gen:=by rw [e2];exact s2,kind:=by rw [e2];exact s3,cells:=?_,lself:=by rw [e2];exact s4,lmsg:=by rw [e2];exact s5,lspot:=by rw [e2];exact s6,lexc:=by rw [e2];exact s7,binds:=Ak F (by decide +kernel) (by kernel_rfl),code:=F.code,gexc:=⟨R.exc.1,?_⟩}
 ·unfold two
  rw [ab _ (AP (by decide +kernel)),Gu X7 F]
 ·obtain ⟨o,q1,q2,q3⟩:=F.obj
  exact ⟨o,q1,q3,q2⟩
 ·rw [e1]
  obtain ⟨p1,p2,p3,p4,p5,p6,q1,q2,q3,q4,r1,r2,r3,r4,q,z⟩:=Tf
  exact ⟨p1,p2,p3,p4,p5,p6,q1,q2,q3,q4,r1,r2,r3,r4,by rw [q],z⟩
 ·rw [e2]
  intro x hx q
  have:=List.all_eq_true.mp RB x hx
  rw [q] at this;exact absurd this (by decide)
 ·have:=R.exc.2
  show nsQ h builtinsNs "Exception" = _
  split at this
  ·rename_i v e;rw [e,Bh this]
  ·cases this
theorem Aa.und (X:Aa w h):∃ fd fdB,Pe (mkB w h s ax S) (A9 h "World") (Bz h (A9 h "World")) (A9 h "NamedRow") (Bz h (A9 h "NamedRow")) (A0 (Av h (.me 97 1))) (nsQ h (Bz h (A9 h "World"))) (nsQ h (Bz h (A9 h "NamedRow"))) fd fdB:=by
 have R:=CV X.rest
 obtain ⟨fd,F⟩:=X.fn (k:=.fn 37) (Az (by simp [Ah]))
 obtain ⟨fdB,G⟩:=X.fn (k:=.me 97 1) (Az (by simp [Ah]))
 obtain ⟨c1,c2,c3⟩:=B4 X R.wld
 obtain ⟨d1,d2,d3⟩:=B4 X R.row
 have lk:Dg (nm "_law_int") G0=some (.tup [.str [105,110,116],.str [105,110,116]]):=by kernel_rfl
 refine ⟨fd,fdB,{fix:=⟨c1,d1,⟨c3 _ (AP (by decide +kernel)),c3 _ (AP (by decide +kernel)),c3 _ (AP (by decide +kernel))⟩,⟨d3 _ (AP (by decide +kernel)),d3 _ (AP (by decide +kernel))⟩⟩,hf:=F.hand 37 rfl,hb:=Ak F (by decide +kernel) (by kernel_rfl),mf:=G.meth,mb:=Ak G (by decide +kernel) (by kernel_rfl),bo:=Gu Ww G,inst:=fun p a hp=>?_}⟩
 obtain ⟨ua,na,ra,mW,mR,mp,z⟩:=Ue (B:=mkB w h s ax S) X.bsOk lk hp
 exact ⟨ua,na,ra,mW,mR,mp,z⟩
theorem Aa.expr (X:Aa w h):∃ fd,Oi (mkB w h s ax S) (A9 h "Checker") (Bz h (A9 h "Checker")) (nsQ h (Bz h (A9 h "Checker"))) fd:=by
 have R:=CV X.rest
 obtain ⟨fd,F⟩:=X.fn (k:=.me 88 1) (Az (by simp [Ah]))
 obtain ⟨c1,c2,c3⟩:=B4 X R.chk
 have b2:Al (mkB w h s ax S) fd ["self","node","wanted"] 2 [.none]:=Ak F (by decide +kernel) (by kernel_rfl)
 have b3:Al (mkB w h s ax S) fd ["self","node","wanted"] 3 []:=Ak F (by decide +kernel) (by kernel_rfl)
 have ea:(mkB w h s ax S).fnA 1000=A0 (Av h (.me 88 1)):=H0 (ax:=ax) (i:=1000) rfl
 exact ⟨fd,{cC:=c1,gC:=⟨c3 _ (AP (by decide +kernel)),c3 _ (AP (by decide +kernel))⟩,mf:=by rw [ea];exact F.meth,b2:=fun s' v1 v2 hs=>b2 s' [v1,v2] hs rfl,b3:=fun s' v1 v2 v3 hs=>b3 s' [v1,v2,v3] hs rfl,inst:=fun p a hp=>Ve (B:=mkB w h s ax S) hp}⟩
end
section
open PySem PySem.W
open PyProof.Rows
variable {w:World} {h:Heap} {s:Shared} {ax S:Addr}
theorem Ul {i:Nat} {fn:Fn} (e:Bt i Td=some fn):(i,fn)∈M9:=.tail _ (HA e)
theorem Aa.row_fn (X:Aa w h) {i:Nat} {fn:Fn} (hm:(i,fn)∈M9):∃ fd,HN (mkB w h s ax S) i fn fd (DP (B6 i))∧fd.scope=A4 (B6 i):=by
 obtain ⟨s1,s2⟩:=Lr Ry _ hm
 obtain ⟨fd,F⟩:=X.fn (Ft Lq _ hm)
 exact ⟨fd,Q9 (B:=mkB w h s ax S) F (H0 s2) rfl s1 (Mp Rz _ hm),(DX F.shape).2.1⟩
theorem Ip {i:Nat} {hk:List D→M D} (e:WH i=some hk):(i=37∧hk=Es)∨(i=1000∧hk=I5)∨(i=100∧hk=GB):=by
 have:=HA e
 unfold PJ at this
 simp only [List.mem_cons,List.not_mem_nil,or_false,Prod.mk.injEq] at this
 exact this
theorem Aa.take (X:Aa w h):∃ fd,DT (mkB w h s ax S) 100 fd∧Al (mkB w h s ax S) fd ["source","top"] 2 []:=by
 obtain ⟨fd,F⟩:=X.fn (k:=.fn 100) (Az (by simp [Ah]))
 exact ⟨fd,F.hand 100 rfl,Ak F (by decide +kernel) (by kernel_rfl)⟩
theorem Rn (X:Aa w h) {x:Str} {n:Nat} (hm:(x,D.ty n)∈BK):(mkB w h s ax S).mg x=none∧(mkB w h s ax S).mb x=some (.type (Cv n)):=Xi X.cb hm
theorem OZ (X:Aa w h) {x:Str} {n:Nat} (hm:(x,D.blt n)∈BK):(mkB w h s ax S).mg x=none∧(mkB w h s ax S).mb x=some (.builtin (DH n)):=XX X.cb hm
theorem WU:(("int" : Str),D.ty 0)∈BK:=.tail _ (.tail _ (.tail _ (.tail _ (.tail _ (.head _)))))
theorem Vf:(("range" : Str),D.ty 4)∈BK:=.tail _ (.tail _ (.tail _ (.tail _ (.tail _ (.tail _ (.tail _ (.tail _ (.tail _ (.head _)))))))))
theorem YS:(("len" : Str),D.blt 0)∈BK:=.head _
theorem YQ:(("min" : Str),D.blt 2)∈BK:=.tail _ (.tail _ (.head _))
theorem YR:(("max" : Str),D.blt 3)∈BK:=.tail _ (.tail _ (.tail _ (.head _)))
theorem Aa.tabOk (X:Aa w h):Pf (mkB w h s ax S) TB:=by
 obtain ⟨fdT,HT,bT⟩:=X.take (s:=s) (ax:=ax) (S:=S)
 obtain ⟨fdU,fdB,U⟩:=X.und (s:=s) (ax:=ax) (S:=S)
 obtain ⟨fdE,E⟩:=X.expr (s:=s) (ax:=ax) (S:=S)
 refine ⟨fun i fn zz hf=>?_,fun i hk e=>?_,fun i hk e F args vs W σ s' ra=>?_⟩
 ·obtain ⟨fd,FF,_⟩:=X.row_fn (s:=s) (ax:=ax) (S:=S) (Ul hf)
  exact ⟨fd,_,FF⟩
 ·rcases Ip e with ⟨rfl,rfl⟩ | ⟨rfl,rfl⟩ | ⟨rfl,rfl⟩
  ·obtain ⟨o,a,b,c⟩:=U.hf.obj;exact ⟨o,fdU,a,b,c⟩
  ·obtain ⟨o,a,b,c⟩:=E.mf.obj;exact ⟨o,fdE,a,b,c⟩
  ·obtain ⟨o,a,b,c⟩:=HT.obj;exact ⟨o,fdT,a,b,c⟩
 ·rcases Ip e with ⟨rfl,rfl⟩ | ⟨rfl,rfl⟩ | ⟨rfl,rfl⟩
  ·exact SR X.bsOk X.lim U ra
  ·exact U2 X.bsOk X.lim E ra
  ·exact Uy X.bsOk X.lim HT bT (Rn X WU) ra
theorem Aa.snd (X:Aa w h):AX (mkB w h s ax S) (.ref ((mkB w h s ax S).fnA 4)) RU:=by
 obtain ⟨fI,fd,K⟩:=X.flt (s:=s) (ax:=ax) (S:=S)
 exact Jh X.bsOk X.lim X.dic X.chkOk K X.tabOk 200
end
section
open PySem PySem.W
open PyProof.Rows
variable {w:World} {h:Heap} {s:Shared} {ax S:Addr}
theorem Aa.init (X:Aa w h) {i:Nat} {c:Str} {ab all:List Str} (hk:.me i 0∈Ah) (e:Gx h c ab=true) (hn:(nameAt i,Bv i 0)=(c,("__init__" : Str))) (ha:all.all (fun n=>DB n ab&&DB n Dm)=true) (hs:DB "__setattr__" ab=true) (hl:Nat.ble all.length 1000=true) :
  ∃ fd,InitOf (mkB w h s ax S) i (A9 h c) (Bz h (A9 h c)) (A0 (Av h (.me i 0))) (nsQ h (Bz h (A9 h c))) fd all∧EO (hideAll h [BV h]) (Av h (.me i 0)) (.me i 0) fd:=by
 obtain ⟨fd,F⟩:=X.fn (Az hk)
 obtain ⟨c1,c2,c3⟩:=B4 X e
 refine ⟨fd,⟨c1,Gu hn F,F.meth,fun n hm=>?_,AF hl⟩,F⟩
 have:=List.all_eq_true.mp ha n hm
 rw [Bool.and_eq_true] at this
 exact ⟨c3 _ (AP hs),c3 _ (AP this.1),PL (AP this.2)⟩
structure Y7 (B:Bs) (SC:Addr):Prop where
 ex:∃ SN fI fD RC RN fR mkS mkR fdI fdD fdR,CB B SC SN fI fD RC RN fR mkS mkR fdI fdD fdR
theorem Aa.sco (X:Aa w h):Y7 (mkB w h s ax S) (A9 h "Scope"):=by
 have R:=CV X.rest
 obtain ⟨fdI,I,FI⟩:=X.init (s:=s) (ax:=ax) (S:=S) (all:=["outer","owner","rows"]) (by simp [Ah]) R.sco XD (by decide +kernel) (by decide +kernel) (by decide +kernel)
 obtain ⟨fdR,J,FJ⟩:=X.init (s:=s) (ax:=ax) (S:=S) (all:=["name","entry","spot","owner","is_checked","is_used"]) (by simp [Ah]) R.srow XE (by decide +kernel) (by decide +kernel) (by decide +kernel)
 obtain ⟨fdD,FD⟩:=X.fn (k:=.me 85 1) (Az (by simp [Ah]))
 obtain ⟨c1,c2,c3⟩:=B4 X R.sco
 obtain ⟨d1,d2,d3⟩:=B4 X R.srow
 exact ⟨_,_,_,_,_,_,_,_,fdI,fdD,fdR,{sco:=I,row:=J,bI:=Ak FI (by decide +kernel) (by kernel_rfl),bR:=Ak FJ (by decide +kernel) (by kernel_rfl),mf:=FD.meth,bD:=Ak FD (by decide +kernel) (by kernel_rfl),dec:=Gu XC FD,ga:=⟨c3 _ (AP (by decide +kernel)),c3 _ (AP (by decide +kernel))⟩,gRow:=d2}⟩
theorem Xx {B:Bs} {W W':Wd} {h h':Heap} {l:List Str}:∀ {vs:List Value},RdL B W h (l.map IE) vs→RdL B W' h' (l.map IE) vs:=by
 induction l with
 | nil=>exact fun r=>by rw [show _=_ from r.inv];exact .nil
 | cons x l ih=>
  intro vs r
  obtain ⟨v,us,ev,x,r⟩:=r.inv
  obtain ⟨y,t,e2,e⟩:=x.str_inv
  rw [ev,e2];exact .cons _ _ _ _ (.str y t _ e) (ih r)
theorem Rq {B:Bs} {h:Heap} (k:Bq h B.h0) {o:Option Value} {l:List Str} (e:isD h (.tup (l.map IE)) o=true):∃ ax vs,o=some (.ref ax)∧B.h0.IsTuple ax vs∧∀ h,RdL B W00 h (l.map IE) vs.toList:=by
 obtain ⟨v,eo,r⟩:=Kx (B:=B) (W:=W00) k e
 obtain ⟨a,vs,ev,x,r⟩:=r.tup_inv
 exact ⟨a,vs,by rw [eo,ev],x,fun h=>Xx r⟩
theorem Aa.uni (X:Aa w h):∃ fd,LV (mkB w h s ax S) (A9 h "Scope") fd:=by
 have R:=CV X.rest
 obtain ⟨fd,F⟩:=X.fn (k:=.fn 96) (Az (by simp [Ah]))
 obtain ⟨c1,c2,c3⟩:=B4 X R.sco
 refine ⟨fd,{hf:=F.hand 96 rfl,hb:=Ak F (by decide +kernel) (by kernel_rfl),gS:=c2,gE:=Option.isSome_iff_exists.mp R.bound.1,gI:=Rq X.nf R.kinds.1,gB:=Rq X.nf R.kinds.2,sys:=?_}⟩
 have e:=R.sys.1
 cases ho:h.get? sysModules with
 | none=>rw [ho] at e;cases e
 | some o=>
  refine ⟨o,hideAll_get _ ho ?_⟩
  simp only [List.mem_singleton]
  intro q
  have:=R.sys.2
  rw [←q] at this;simp at this
structure Y6 (B:Bs) (WC NC:Addr) (mkW:SV):Prop where
 ex:∃ WN fI fdI RN fR mkR fd fdR,Gr B WC WN fI mkW fdI NC RN fR mkR fd fdR
theorem Aa.wld (X:Aa w h):Y6 (mkB w h s ax S) (A9 h "World") (A9 h "NamedRow") (nsQ h (Bz h (A9 h "World"))):=by
 have R:=CV X.rest
 obtain ⟨fdI,I,FI⟩:=X.init (s:=s) (ax:=ax) (S:=S) (all:=BQ) (by simp [Ah]) R.wld Wy (by decide +kernel) (by decide +kernel) (by decide +kernel)
 obtain ⟨fd,F⟩:=X.fn (k:=.fn 95) (Az (by simp [Ah]))
 obtain ⟨fdR,FR⟩:=X.fn (k:=.me 94 0) (Az (by simp [Ah]))
 obtain ⟨d1,d2,d3⟩:=B4 X R.row
 refine ⟨_,_,fdI,_,_,_,fd,fdR,{cls:=I,bI:=Ak FI (by decide +kernel) (by kernel_rfl),known:={row:={cls:=d1,ini:=Gu Wz FR,mf:=FR.meth,sa:=d3 _ (AP (by decide +kernel)),ats:=⟨d3 _ (AP (by decide +kernel)),d3 _ (AP (by decide +kernel)),d3 _ (AP (by decide +kernel)),d3 _ (AP (by decide +kernel))⟩,binds:=Ak FR (by decide +kernel) (by kernel_rfl)},hf:=F.hand 95 rfl,hb:=Ak F (by decide +kernel) (by kernel_rfl),gRow:=d2,gPlain:=Option.isSome_iff_exists.mp R.bound.2.1},gK:=H7 (ax:=ax) Yn rfl F}⟩
structure Y9 (B:Bs) (CC:Addr):Prop where
 ex:∃ CN fI mkC fdI,Gs B CC CN fI mkC fdI
theorem Aa.chk (X:Aa w h):Y9 (mkB w h s ax S) (A9 h "Checker"):=by
 have R:=CV X.rest
 obtain ⟨fdI,I,FI⟩:=X.init (s:=s) (ax:=ax) (S:=S) (all:=BO) (by simp [Ah]) R.chk XB (by decide +kernel) (by decide +kernel) (by decide +kernel)
 exact ⟨_,_,_,fdI,{cls:=I,bI:=Ak FI (by decide +kernel) (by kernel_rfl)}⟩
noncomputable def OJ (h:Heap):Str:=match OK h (Av h (.fn 106)) with | some fd=>fd.qualname | none=>""
noncomputable def GS (h:Heap):Str:=OJ h++".<locals>."++"<lambda>"
theorem Aa.law (X:Aa w h):∃ fd,LZ (mkB w h s ax S) (BV h) (FC h) fd∧fd.qualname=OJ h:=by
 have R:=CV X.rest
 obtain ⟨fd,F0⟩:=PM (IJ X.sh (.fn 106) (Az (by simp [Ah]))) (KC X.fk (.fn 106) (Az (by simp [Ah])))
 have F:=F0.hid X.tab
 obtain ⟨fdU,FU⟩:=X.fn (k:=.fn 96) (Az (by simp [Ah]))
 have hfd:OK h (Av h (.fn 106))=some fd:=by
  obtain ⟨o,e,d,c⟩:=F0.obj
  rw [F0.val]
  show ((EB h (A0 (Av h (.fn 106)))).bind fun o=>VU o.data)=_
  rw [BM]
  rw [e]
  show VU o.data=_
  rw [d];rfl
 have hcode:fd.code=.ref (FC h):=by
  obtain ⟨c,o,vs,t,q,_⟩:=F0.code
  unfold FC
  rw [hfd]
  simp only [q]
 refine ⟨fd,{hf:=F.hand 106 rfl,b0:=Ak F (by decide +kernel) (by kernel_rfl),code:=hcode,hd:=J3 R.hd,tab:=hideAll_none _ (.head _),blt:=Vh R.blt,gU:=H7 (ax:=ax) Ym rfl FU,gInt:=Option.isSome_iff_exists.mp R.bound.2.2},?_⟩
 unfold OJ
 rw [hfd]
theorem Aa.pool (X:Aa w h):∃ fd,H2 (mkB w h s ax S) fd:=by
 obtain ⟨fd,F⟩:=X.fn (k:=.fn 99) (Az (by simp [Ah]))
 exact ⟨fd,{range:=Rn X Vf,pool:={hf:=F.hand 99 rfl,hb:=Ak F (by decide +kernel) (by kernel_rfl),int:=Rn X WU,len:=OZ X YS,max:=OZ X YR},gPool:=H7 (ax:=ax) Yl rfl F,min:=OZ X YQ}⟩
end
section
open PySem PySem.W
open PyProof.Rows
variable {w:World} {h:Heap} {s:Shared} {ax S:Addr}
theorem Aa.ctx (X:Aa w h):Ep (mkB w h s ax S) #[] (BV h) (GS h):=by
 obtain ⟨fd,LF,eq⟩:=X.law (s:=s) (ax:=ax) (S:=S)
 obtain ⟨SN,fI,fD,RC,RN,fR,mkS,mkR,fdI,fdD,fdR,U⟩:=(X.sco (s:=s) (ax:=ax) (S:=S)).ex
 obtain ⟨fdU,V⟩:=X.uni (s:=s) (ax:=ax) (S:=S)
 obtain ⟨WN,fW,fdW,NN,fN,mkN,fdK,fdN,WF⟩:=(X.wld (s:=s) (ax:=ax) (S:=S)).ex
 obtain ⟨CN,fC,mkC,fdC,CF⟩:=(X.chk (s:=s) (ax:=ax) (S:=S)).ex
 have R:=CV X.rest
 obtain ⟨c1,c2,c3⟩:=B4 X R.wld
 obtain ⟨d1,d2,d3⟩:=B4 X R.chk
 obtain ⟨fdT,FT,eT⟩:=X.row_fn (s:=s) (ax:=ax) (S:=S) (i:=107) (fn:=K7) (.head _)
 obtain ⟨o,a,b,c⟩:=LF.hf.obj
 obtain ⟨fd6,F6⟩:=X.fn (k:=.fn 106) (Az (by simp [Ah]))
 have ql:fd.qualname++".<locals>."++"<lambda>" = GS h:=by unfold GS;rw [eq]
 refine {b:=X.bsOk,hG:=rfl,hlim:=X.lim,tab:=LF.tab,chk:=fun A s' E Q hh hroom h0s I hQ=>?_,snd:=X.snd,told:=⟨fdT,FT,eT⟩,gChk:=H7 (ax:=ax) YA rfl F6,obj:=⟨o,fd,a,b⟩}
 rw [←ql] at I
 refine LI X.bsOk X.lim U V WF CF LF c2 d2 (c3 _ (AP (by decide +kernel))) hh hroom h0s I fun h' tk ca pins k1 I1 p1 ck=>?_
 rw [ql] at I1
 exact hQ h' tk ca pins k1 I1 p1 ck
theorem Aa.turn (X:Aa w h):FQ (mkB w h s ax S) #[] (BV h) (GS h):=by
 refine ⟨fun S' zz=>X.ctx (s:=s) (ax:=ax) (S:=S'),fun S' zz F hF st=>?_,?_,rfl⟩
 ·obtain ⟨fI,fd,K⟩:=X.flt (s:=s) (ax:=ax) (S:=S')
  exact Jm X.bsOk X.lim K X.snd hF st
 ·obtain ⟨fd,F⟩:=X.fn (k:=.fn 107) (List.mem_append_left _ (Ft (t:=[(107,K7)]) (by decide +kernel) _ (.head _)))
  exact H7 (ax:=ax) X9 rfl F
theorem Aa.lawDef (X:Aa w h):∃ fd,UW (mkB w h s ax S) (A0 (Av h (.fn 116))) fd∧Av h (.fn 116)=some (.ref (A0 (Av h (.fn 116)))):=by
 obtain ⟨fd,F⟩:=X.fn (k:=.fn 116) (Az (by simp [Ah]))
 have H:=(F.hand (w:=w) (s:=s) (ax:=ax) (S:=S) 116 rfl).hand
 have e:(mkB w h s ax S).fnA 116=A0 (Av h (.fn 116)):=H0 (ax:=ax) (i:=116) rfl
 rw [e] at H
 exact ⟨fd,⟨H,F.clo,Ak F (by decide +kernel) (by kernel_rfl)⟩,F.val⟩
theorem S8 (X:Aa w h) (g:h.StaysIn s.heap) {A:Around} (hA:A.frames=some []∧A.handled=none∧A.depth≤309∧A.units≤10) {items:Array Value} (hl:s.heap.IsList ax items) (hi:Vu items) (hz:items.size≤2 ^ 24) {outs:List (Out Fl×St)} (ho:BW=some outs) (hall:∀ p∈outs,Fc p=true) (h1:HE=true) (h2:HD=true) {Q:VP} {E:VP}
  (hQ:∀ h' t',AV #[] (BV h) Ab (GS h) h'→(∀ c o,s.heap.get? c=some o→c≠BV h→h'.get? c=some o)→Q (.bool true) {s with heap:=h',toks:=t'}):wpAny (model P w) A (call (.ref (A0 (Av h (.fn 116)))) [.ref ax]) Q E s:=by
 obtain ⟨fd,D,_⟩:=X.lawDef (s:=s) (ax:=ax) (S:=0)
 obtain ⟨fdP,LP⟩:=X.pool (s:=s) (ax:=ax) (S:=0)
 have st:(hideAll h [BV h]).StaysIn s.heap:=fun c o e=>g c o (of_hideAll _ e)
 exact S9 (B:=mkB w h s ax 0) X.turn LP X.bsOk X.lim D hA (show K4 h ax 9999=ax from rfl) st ⟨rfl,rfl,rfl⟩ ⟨#[],g _ _ X.tab,trivial,⟨#[],rfl⟩,.inl rfl⟩ hl hi hz ho hall h1 h2 hQ
end
section
open PySem PySem.W
open PyProof.Rows
noncomputable abbrev R0:OpenRow:=PySem.Challenge.rw_on0049_01.row
theorem all_ints {R:WRecords}:∀ {xs:List WData},WShape.hasItems R xs .int=true→∀ x∈xs,∃ i,x=.int i:=by
 intro xs
 induction xs with
 | nil=>
  intro _ x h
  cases h
 | cons y r ih=>
  intro e x h
  simp only [WShape.hasItems,Bool.and_eq_true] at e
  rcases List.mem_cons.mp h with rfl | h
  ·exact hasW_int e.1
  ·exact ih e.2 x h
theorem SK {args:List WData} (h:R0.toRowW.claim.pre args=true):∃ xs,args=[.list xs]∧(∀ x∈xs,∃ i,x=.int i)∧xs.length≤63:=by
 obtain ⟨a,b⟩:=pre_splitW h
 obtain ⟨d,r,rfl,h1,h2⟩:=hasAllW_cons a
 have:=hasAllW_nil h2
 subst this
 obtain ⟨xs,rfl,hi⟩:=hasW_list h1
 refine ⟨xs,rfl,all_ints hi,?_⟩
 by_cases q:(63:Int) < (xs.length:Int)
 ·exfalso
  have b':WTm.holds [] (.and (.not (.lit (.bool (decide ((63:Int) < (xs.length:Int)))))) (.lit (.bool true))) {args:=[]}=true:=b
  rw [decide_eq_true q] at b'
  exact ffF b'
 ·omega
noncomputable def RXI (R:WRecords) (cl:Str→Option Addr) (h:Heap):List WData→List Value→Prop
 | [],vs=>vs=[]
 | d::ds,vs=>∃ v us as bs,vs=v::us∧ReadsW R cl h v d as∧ReadsAllW R cl h us ds bs
noncomputable def RWI (R:WRecords) (cl:Str→Option Addr) (h:Heap):WData→Value→Prop
 | .int i,v=>∃ t,v=.int i t
 | .list xs,v=>∃ a vs as,v=.ref a∧h.IsList a vs∧ReadsAllW R cl h vs.toList xs as
 | _,_=>True
theorem Dy {R:WRecords} {cl:Str→Option Addr} {h:Heap} {vs:List Value} {xs:List WData} {as:List Addr} (r:ReadsAllW R cl h vs xs as):RXI R cl h xs vs :=
 ReadsAllW.casesOn (motive_2:=fun vs xs zz zz=>RXI R cl h xs vs) r rfl fun r rs=>⟨_,_,_,_,rfl,r,rs⟩
theorem IM {R:WRecords} {cl:Str→Option Addr} {h:Heap} {v:Value} {x:WData} {as:List Addr} (r:ReadsW R cl h v x as):RWI R cl h x v:=by
 cases r<;>first | exact trivial | exact ⟨_,rfl⟩ | exact ⟨_,_,_,rfl,⟨_,by assumption,by assumption,_,by assumption⟩,by assumption⟩
theorem NS {R:WRecords} {cl:Str→Option Addr} {h:Heap} {xs:List WData}:∀ {vs:List Value} {as:List Addr},ReadsAllW R cl h vs xs as→(∀ x∈xs,∃ i,x=.int i)→vs.length=xs.length∧∀ v∈vs,∃ n t,v=.int n t:=by
 induction xs with
 | nil=>exact fun r zz=>by rw [show _=_ from Dy r];exact ⟨rfl,fun v hv=>by cases hv⟩
 | cons x xs ih=>
  intro vs as r hx
  obtain ⟨v,us,_,_,ev,r1,r2⟩:=Dy r
  obtain ⟨e,k⟩:=ih r2 fun x hx'=>hx x (.tail _ hx')
  obtain ⟨i,ei⟩:=hx _ (.head _)
  rw [ev]
  refine ⟨congrArg (· + 1) e,fun w hw=>?_⟩
  rcases List.mem_cons.mp hw with q | hw
  ·obtain ⟨t,et⟩:=IM (ei▸r1)
   exact ⟨i,t,q.trans et⟩
  ·exact k w hw
theorem Uw {h h':Heap} {T cd:Addr} {qual:Str} (hT:h.get? T=some (tabObj #[])) (hc:CodeHd h cd T) (I:AV #[] T Ab qual h') (k:∀ c o,h.get? c=some o→c≠T→h'.get? c=some o):OldK h h':=by
 obtain ⟨ps,e,t,⟨more,hm⟩,r⟩:=I.at_
 refine ⟨fun b o eb=>?_,fun b o eb=>?_⟩
 ·by_cases q:b=T
  ·subst q
   rw [hT] at eb;cases eb
   refine .inr (.inl ⟨(hc.tab hT).isCodeTable,rfl,#[],more,rfl,?_⟩)
   rw [e,hm]
  ·exact .inl (k b o eb q)
 ·by_cases q:b=T
  ·subst q;exact ⟨_,e⟩
  ·exact ⟨o,k b o eb q⟩
structure YP (w:World) (h:Heap):Prop where
 ex:∃ hT,Aa w hT∧hT.StaysIn h
theorem QI (xs:List WData):R0.toRowW.claim.post [.list xs] (.bool true) [.list xs]=true:=by kernel_rfl
theorem S6 {q:Program} {C0:List Str} {d:DefRec} (hd:d.name=("law" : Str)) (hno:kwd=[]) {outs:List (Out Fl×St)} (ho:BW=some outs) (hall:∀ p∈outs,Fc p=true) (h1:HE=true) (h2:HD=true) :
  WalkO q C0 (fun zz zz=>True) YP R0.toRowW d kwd fun f vs=>PySem.call f vs:=by
 intro w s₀ s₁ mg mb G Y a o pm cd doc dV kV h0 hdat hcode hdf hmg hgens args vals as hpre hlay hrd hwell hsys
 obtain ⟨hT,X,st⟩:=Y.ex
 obtain ⟨xs,rfl,hx,hz⟩:=SK hpre
 have nsM:s₁.heap.Ns mainGlobals (nsQ hT mainGlobals):=(Jo (CV X.rest).ns.1).keeps st
 have ea:a=A0 (Av hT (.fn 116)):=by
  obtain ⟨fd,D,hv⟩:=X.lawDef (s:=s₁) (ax:=0) (S:=0)
  have:=G.T.g.agree nsM d.name
  rw [hmg,hd] at this
  have e2:nsQ hT mainGlobals ("law" : Str)=Av hT (.fn 116):=by
   show _=gv hT (nameAt 116)
   rw [X8];rfl
  rw [e2,hv] at this
  rw [hv,←AB this];rfl
 rw [ea]
 obtain ⟨v,us,_,_,ev,r1,r2⟩:=Dy hrd
 obtain ⟨ax,vs,as',ea2,hl,hr⟩:=IM r1
 rw [ev,show us=_ from Dy r2,ea2]
 ··obtain ⟨hlen,hints⟩:=NS hr hx
   refine AH (S8 (h:=hT) (ax:=ax) (items:=vs) X st (A:=callerA) ⟨rfl,rfl,by decide,by decide⟩ hl (fun i hi=>?_) ?_ ho hall h1 h2 (Q:=fun v s'=>v=.bool true∧∃ h' t',s'={s₁ with heap:=h',toks:=t'}∧OldK s₁.heap h') (E:=fun zz zz=>False) (fun h' t' I k=>⟨rfl,h',t',rfl,?_⟩)) (fun v s' hq=>?_) (fun e s' hq=>hq.elim)
   ·obtain ⟨n',t,q⟩:=hints vs[i] (by simp)
    exact ⟨n',t,by rw [Array.getElem?_eq_getElem hi,q]⟩
   ·have:vs.size=xs.length:=by simpa using hlen
    omega
   ·exact Uw (st _ _ X.tab) (CodeHd.keeps (J3 (CV X.rest).hd) fun b o e=>st b o (of_hideAll _ e)) I k
   ·obtain ⟨rfl,h',t',rfl,K⟩:=hq
    exact ⟨.inl ⟨_,.bool true,[],rfl,fun cls=>rfl,.bool _,QI xs,fun zz=>⟨List.nodup_nil,fun a ha=>by cases ha⟩⟩,K,rfl,by rw [show ({s₁ with heap:=h',toks:=t'}:Shared).gens=s₁.gens from rfl,hgens];exact AllBare.empty⟩
end
section
open PySem PySem.W PyProof.Rows
theorem Wf {α:Type} {Y:Shared→α} {v:α} {w:World} {os:OsState}
  (h:(segRunT treeTable P w 11 HK 1 7000 (StT w os) (piecesOf Hj Mg c0 JQ BF0)).map (fun r=>(r.1,r.2.2.1,Ii Y w r))=some (.next,c0,some (true,openGood qv C0,v))) :
  ∃ s₁,topRun treeTable P w 11 HK 7016 (S0 w os) (topStub P)=some s₁∧(staticsOk (importedModules P.main.body) (boot_heap w.params) s₁.heap&&namesBound P s₁.heap&&gensDone s₁&&laidKept (boot_heap w.params) s₁.heap)=true∧
   openSeen qv C0 (importedModules P.main.body) (fun zz=>true) true s₁=openGood qv C0∧Y s₁=v:=by
 obtain ⟨⟨f,sT,c,p⟩,e1,e2⟩:=Option.map_eq_some_iff.mp h
 injection e2 with e2 e3
 injection e3 with e3 e4
 change f=.next at e2
 change c=c0 at e3
 subst e2 e3
 have hs:=segRun_of e1
 rw [Xb] at hs
 unfold Ii at e4
 obtain ⟨s₁,t1,t2⟩:=Option.map_eq_some_iff.mp e4
 injection t2 with t2 t3
 injection t3 with t3 t4
 have a1:=piece_app (rest:=[]) hs (piece_nil t1)
 rw [List.append_nil] at a1
 have a2:=piece_block (YT w os) a1
 have a3:=go_top (pre w os) a2
 exact ⟨s₁,a3,t2,t3,t4⟩
theorem O6 {α:Type} {Y:Shared→α} {v:α} {w:World}
  (h:∀ os,(segRunT treeTable P w 11 HK 1 7000 (StT w os) (piecesOf Hj Mg c0 JQ BF0)).map (fun r=>(r.1,r.2.2.1,Ii Y w r))=some (.next,c0,some (true,openGood qv C0,v))) :
  (openEnds treeTable P w 8000).map (fun s=>(openSeen qv C0 (importedModules P.main.body) (fun zz=>true) true s,Y s))=some (openGood qv C0,v):=by
 obtain ⟨⟨hh,gs,d,k,os⟩,e,e'⟩:=Option.map_eq_some_iff.mp (boot_open (N:=8000) op (by decide) YL w)
 obtain ⟨rfl,rfl,rfl,rfl⟩:hh=boot_heap w.params∧gs=Array.mk []∧d=boot_drawn∧k=boot_toks:=by simpa using e'
 obtain ⟨z1,z2,z3⟩:_∧_∧_:=by simpa only [Prod.mk.injEq] using Xv w
 obtain ⟨s₁,r,l1,l2,l3⟩:=Wf (h os)
 have r':=topRun_mono (8000 - 7016) _ _ _ _ r
 have t:topFrom treeTable P w 8000 ⟨boot_heap w.params,Array.mk [],boot_drawn,boot_toks,os⟩=some s₁:=by
  unfold topFrom
  dsimp only
  rw [z1,z2,z3]
  have r2:topRun treeTable P w 11 HK 8000 ⟨boot_heap w.params,Array.mk [],boot_drawn,boot_toks,os⟩ (topStub P)=some s₁:=r'
  rw [r2]
  show (match staticsOk (importedModules P.main.body) (boot_heap w.params) s₁.heap&&namesBound P s₁.heap&&gensDone s₁&&laidKept (boot_heap w.params) s₁.heap with | true=>_ | false=>_)=_
  rw [l1]
 unfold openEnds
 rw [e]
 show (topFrom treeTable P w 8000 _).map _=_
 rw [t]
 exact congrArg some (Prod.ext l2 l3)
theorem VK (hF:∀ (w:World) (os:OsState),(segRunT treeTable P (w.withFollow "special-get-raises" false) 11 HK 1 7000 (StT (w.withFollow "special-get-raises" false) os) (piecesOf Hj Mg c0 JQ BF0)).map (fun r=>(r.1,r.2.2.1,Ii Yf (w.withFollow "special-get-raises" false) r))=some (.next,c0,some (true,openGood qv C0,Ya (w.withFollow "special-get-raises" false))))
  (hT:∀ (w:World) (os:OsState),(segRunT treeTable P (w.withFollow "special-get-raises" true) 11 HK 1 7000 (StT (w.withFollow "special-get-raises" true) os) (piecesOf Hj Mg c0 JQ BF0)).map (fun r=>(r.1,r.2.2.1,Ii Yf (w.withFollow "special-get-raises" true) r))=some (.next,c0,some (true,openGood qv C0,Ya (w.withFollow "special-get-raises" true)))) :
  LeftO P qv C0 (fun zz=>true) Yf Ya 8000:=fun w=>by
 have e:=World.withFollow_self w "special-get-raises"
 cases hb:w.params.followText "special-get-raises" with
 | false=>
  rw [hb] at e
  have:=O6 (hF w)
  rw [e] at this
  exact this
 | true=>
  rw [hb] at e
  have:=O6 (hT w)
  rw [e] at this
  exact this
end
section
open PySem PySem.W
theorem RZ {a b:List (Out Fl×St)} (ha:KB a=true) (hb:KB b=true):KB (a++b)=true:=by
 unfold KB at *
 rw [List.all_append,ha,hb];rfl
theorem CG {lo n m k:Nat} (h1:B0 lo n=true) (h2:B0 m k=true) (e:m=lo + n):B0 lo (n + k)=true:=by
 subst e
 unfold B0 at h1 h2 ⊢
 cases q:BW with
 | none=>rw [q] at h1;cases h1
 | some l=>
  rw [q] at h1 h2
  simp only at h1 h2 ⊢
  rw [List.take_add,List.drop_drop]
  exact RZ h1 h2
theorem Rp {l:List (Out Fl×St)} (hl:BW=some l) (hn:Nat.ble l.length 320=true) (h:B0 0 320=true):∀ p∈l,Fc p=true:=by
 unfold B0 at h
 rw [hl] at h
 simp only [List.drop_zero] at h
 rw [List.take_of_length_le (AF hn)] at h
 exact Oe h
noncomputable def WA:Bool:=match BW with | some l=>Nat.ble l.length 320 | none=>false
theorem XF:WA=true:=by decide +kernel
theorem Xj:∃ outs,BW=some outs∧∀ p∈outs,Fc p=true:=by
 have h:=CG (CG (CG (CG (CG (CG (CG Xr Xq rfl) Xp rfl) Xo rfl) Xn rfl) Xm rfl) Xl rfl) Xk rfl
 have hl:=XF
 unfold WA at hl
 cases q:BW with
 | none=>rw [q] at hl;cases hl
 | some l=>
  rw [q] at hl
  exact ⟨l,rfl,Rp q hl h⟩
end
section
open PySem PySem.W PyProof.Rows
theorem Th {w:World} {s:Shared} (h:Yf s=Ya w):YP w s.heap:=by
 injection h with h1 h
 injection h with h2 h3
 simp only [Bool.and_eq_true] at h2
 exact ⟨s.heap,⟨h1,h2.1,h2.2.1,h2.2.2.1,h3,h2.2.2.2⟩,fun zz zz e=>e⟩
theorem UZ (w:World) (h h':Heap) (x:YP w h) (k:∀ b o,h.get? b=some o→h'.get? b=some o):YP w h':=by
 obtain ⟨hT,X,st⟩:=x.ex
 exact ⟨hT,X,fun b o e=>k b o (st b o e)⟩
theorem left:LeftO P qv C0 (fun zz=>true) Yf Ya 8000:=VK Yk Yj
theorem Vb:∃ d,defOf qv ("law" : Str)=some (d,[])∧d.name=("law" : Str)∧P.theDef ("law" : Str)=some (d.params,d.body,d.scope)∧kwWritten? d.params.kwonlyargs d.params.kw_defaults=some []:=⟨_,rfl,rfl,rfl,rfl⟩
theorem Wt:(chainsOk qv&&opensWell R0.prog&&(frees R0.toRowW&&R0.within.isEmpty))=true:=by kernel_rfl
theorem UI:R0.prog.bare:=⟨rfl,rfl,rfl,rfl,rfl,by kernel_rfl⟩
theorem Kf:R0.toRowW.promised:=⟨[.list []],by decide +kernel,by decide +kernel⟩
theorem fin:PySem.Challenge.rw_on0049_01.Holds:=by
 obtain ⟨d,e1,e2,e3,e4⟩:=Vb
 obtain ⟨outs,ho,hall⟩:=Xj
 exact ⟨Xw,holds_open (r:=R0) (XP:=fun zz zz=>True) (YP:=YP) left (fun w s h=>Th h) UZ (fun zz zz=>trivial) (fun zz zz zz zz zz=>trivial) e1 e3 e4 (fun s zz=>recFacts_nil rfl) rfl (row_said Xw) Wt UI Kf (S6 e2 rfl ho hall Y4 Y1)⟩
end
end Mine
theorem PySem.Challenge.cw_on0049_01_holds : PySem.Challenge.rw_on0049_01.Holds :=
 Mine.fin
