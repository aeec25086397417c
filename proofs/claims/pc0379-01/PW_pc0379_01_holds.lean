import PyProof.Rows.All
import Wide.All
import OpenK.AllK
import Wide.FinOn
import KE.KSortTup
import KE.KLam
import PyProof.ListRange
import PyProof.WalkInts
import KE.KDictSum
import PyProof.AttrMissHeap
import PyProof.FactsAll.enumerate
import KE.KDictOf
import Lean
import PySem.Challenge.RW_pc0379_01
set_option maxRecDepth 100000
set_option linter.all false
set_option genSizeOf false
set_option genInjectivity false
set_option bootstrap.genMatcherCode false
set_option maxHeartbeats 1000000
set_option Elab.async true
namespace Mine.Internal
open PySem
abbrev aa:=@List.getElem?_eq_some_iff
abbrev ad:=@List.getElem?_eq_getElem
abbrev ah:=@Heap.get?_push_of_some
abbrev ai:=@Option.map_eq_some_iff
abbrev aj:=@List.mem_append_right
abbrev ak:=@List.mem_append_left
abbrev am:=@Heap.get?_push_size
abbrev ao:=@List.mem_singleton
abbrev aq:=@List.length_append
abbrev au:=@Nat.lt_of_le_of_lt
abbrev av:=@Nat.lt_of_lt_of_le
abbrev aw:=@of_decide_eq_true
abbrev ax:=@List.append_assoc
abbrev ay:=@List.length_range
abbrev az:=@List.nodup_append
abbrev aA:=@List.not_mem_nil
abbrev aB:=@List.length_map
abbrev aC:=@List.map_append
abbrev aD:=@List.mem_append
abbrev aE:=@Option.some.inj
abbrev aF:=@decide_eq_true
abbrev aG:=@List.mem_cons
abbrev aH:=@wpAny_holding
abbrev aI:=@Nat.le_trans
abbrev aJ:=@List.mem_map
abbrev aK:=@List.map_map
abbrev aL:=@wpAny_bind
abbrev aM:=@wpAny_pure
abbrev aN:=@congrArg
abbrev aO:=@trivial
abbrev aP:=@if_neg
abbrev aQ:=@if_pos
end Mine.Internal
namespace Mine.Internal
section
variable {A B C D F H:Sort _} {G:Prop}
theorem xe {p:A->Prop} (h:∃ a,p a) (k:∀ a,p a->G):G:=by obtain ⟨a,l⟩:=h;exact k a l
theorem xa {p q:Prop} (h:p/\q) (k:p->q->G):G:=by obtain ⟨l,m⟩:=h;exact k l m
theorem xea {p q:A->Prop} (h:∃ a,p a/\q a) (k:∀ a,p a->q a->G):G:=by obtain ⟨a,l,m⟩:=h;exact k a l m
theorem xaa {p q r:Prop} (h:p/\q/\r) (k:p->q->r->G):G:=by obtain ⟨l,m,n⟩:=h;exact k l m n
theorem xee {p:A->B->Prop} (h:∃ a b,p a b) (k:∀ a b,p a b->G):G:=by obtain ⟨a,b,l⟩:=h;exact k a b l
theorem xeeaa {p q r:A->B->Prop} (h:∃ a b,p a b/\q a b/\r a b) (k:∀ a b,p a b->q a b->r a b->G):G:=by obtain ⟨a,b,l,m,n⟩:=h;exact k a b l m n
theorem xeea {p q:A->B->Prop} (h:∃ a b,p a b/\q a b) (k:∀ a b,p a b->q a b->G):G:=by obtain ⟨a,b,l,m⟩:=h;exact k a b l m
theorem xeaa {p q r:A->Prop} (h:∃ a,p a/\q a/\r a) (k:∀ a,p a->q a->r a->G):G:=by obtain ⟨a,l,m,n⟩:=h;exact k a l m n
theorem xeeeaaa {p q r s:A->B->C->Prop} (h:∃ a b c,p a b c/\q a b c/\r a b c/\s a b c) (k:∀ a b c,p a b c->q a b c->r a b c->s a b c->G):G:=by obtain ⟨a,b,c,l,m,n,o⟩:=h;exact k a b c l m n o
theorem xaaa {p q r s:Prop} (h:p/\q/\r/\s) (k:p->q->r->s->G):G:=by obtain ⟨l,m,n,o⟩:=h;exact k l m n o
theorem xeeeeaa {p q r:A->B->C->D->Prop} (h:∃ a b c d,p a b c d/\q a b c d/\r a b c d) (k:∀ a b c d,p a b c d->q a b c d->r a b c d->G):G:=by obtain ⟨a,b,c,d,l,m,n⟩:=h;exact k a b c d l m n
theorem xeeeaa {p q r:A->B->C->Prop} (h:∃ a b c,p a b c/\q a b c/\r a b c) (k:∀ a b c,p a b c->q a b c->r a b c->G):G:=by obtain ⟨a,b,c,l,m,n⟩:=h;exact k a b c l m n
theorem xeeea {p q:A->B->C->Prop} (h:∃ a b c,p a b c/\q a b c) (k:∀ a b c,p a b c->q a b c->G):G:=by obtain ⟨a,b,c,l,m⟩:=h;exact k a b c l m
theorem xeee {p:A->B->C->Prop} (h:∃ a b c,p a b c) (k:∀ a b c,p a b c->G):G:=by obtain ⟨a,b,c,l⟩:=h;exact k a b c l
theorem xeeaaaaa {p q r s t u:A->B->Prop} (h:∃ a b,p a b/\q a b/\r a b/\s a b/\t a b/\u a b) (k:∀ a b,p a b->q a b->r a b->s a b->t a b->u a b->G):G:=by obtain ⟨a,b,l,m,n,o,u,v⟩:=h;exact k a b l m n o u v
theorem xeeaaa {p q r s:A->B->Prop} (h:∃ a b,p a b/\q a b/\r a b/\s a b) (k:∀ a b,p a b->q a b->r a b->s a b->G):G:=by obtain ⟨a,b,l,m,n,o⟩:=h;exact k a b l m n o
theorem xeeeeaaaaaaa {p q r s t u v w:A->B->C->D->Prop} (h:∃ a b c d,p a b c d/\q a b c d/\r a b c d/\s a b c d/\t a b c d/\u a b c d/\v a b c d/\w a b c d) (k:∀ a b c d,p a b c d->q a b c d->r a b c d->s a b c d->t a b c d->u a b c d->v a b c d->w a b c d->G):G:=by obtain ⟨a,b,c,d,l,m,n,o,u,v,w,x⟩:=h;exact k a b c d l m n o u v w x
theorem xeeaaaaaaa {p q r s t u v w:A->B->Prop} (h:∃ a b,p a b/\q a b/\r a b/\s a b/\t a b/\u a b/\v a b/\w a b) (k:∀ a b,p a b->q a b->r a b->s a b->t a b->u a b->v a b->w a b->G):G:=by obtain ⟨a,b,l,m,n,o,u,v,w,x⟩:=h;exact k a b l m n o u v w x
theorem xeeaaaaaa {p q r s t u v:A->B->Prop} (h:∃ a b,p a b/\q a b/\r a b/\s a b/\t a b/\u a b/\v a b) (k:∀ a b,p a b->q a b->r a b->s a b->t a b->u a b->v a b->G):G:=by obtain ⟨a,b,l,m,n,o,u,v,w⟩:=h;exact k a b l m n o u v w
theorem xeeaaaa {p q r s t:A->B->Prop} (h:∃ a b,p a b/\q a b/\r a b/\s a b/\t a b) (k:∀ a b,p a b->q a b->r a b->s a b->t a b->G):G:=by obtain ⟨a,b,l,m,n,o,u⟩:=h;exact k a b l m n o u
theorem xeeeea {p q:A->B->C->D->Prop} (h:∃ a b c d,p a b c d/\q a b c d) (k:∀ a b c d,p a b c d->q a b c d->G):G:=by obtain ⟨a,b,c,d,l,m⟩:=h;exact k a b c d l m
theorem xeaae {p q:A->Prop} {r:A->B->Prop} (h:∃ a,p a/\q a/\∃ b,r a b) (k:∀ a,p a->q a->∀ b,r a b->G):G:=by obtain ⟨a,l,m,b,n⟩:=h;exact k a l m b n
theorem xeeaaea {p q:A->B->Prop} {r s:A->B->C->Prop} (h:∃ a b,p a b/\q a b/\∃ c,r a b c/\s a b c) (k:∀ a b,p a b->q a b->∀ c,r a b c->s a b c->G):G:=by obtain ⟨a,b,l,m,c,n,o⟩:=h;exact k a b l m c n o
end
theorem bC {α:Type _} {β:Type _} {o:Option α} {f:α->Option β} {r:β} {G:Prop} (h:o.bind f=some r) (k:∀ a,o=some a->f a=some r->G):G:=by
 cases o with
 | none=>cases h
 | some a=>exact k a rfl h
theorem noS {α:Type _} {x:α} {G:Prop} (h:none=some x):G:=nomatch h
theorem noR {α:Type _} {x:α} {G:Prop} (h:some x=none):G:=nomatch h
theorem r1 {α:Type _} {a x:α} {Q:α->Prop} (e:some a=some x) (h:Q a):Q x:=aE e▸h
end Mine.Internal
namespace Mine.Internal
open PySem
theorem bI {α β:Type} {o:Option α} {f:α->Option β} {r:Option β} {a:α} (h:o=some a) (k:f a=r):o.bind f=r:=by rw [h];exact k
inductive Key where
 | i (n:Int)
 | t (ns:List Int)
 deriving DecidableEq
set_option genCtorIdx false in
inductive D where
 | none
 | bool (b:Bool)
 | int (i:Int)
 | str (s:Str)
 | tup (xs:List D)
 | list (xs:List D)
 | dict (ks:List Key) (xs:List D)
 | range (n:Int)
 | iset (xs:List Int)
set_option genCtorIdx false in
inductive V where
 | d (x:D)
 | ref (j:Nat)
 | inst (c j:Nat)
 | clo (j:Nat)
inductive O where
 | list (xs:List V)
 | dict (ks:List Key) (xs:List V)
 | inst (c:Nat) (fs:List (Nat×V))
 | tab
 | tabD
 | cell (xs:List D)
 | dead
structure Hp where
 o:List O
 w:Nat
inductive BOp where
 | add | sub | mul | fdiv | mod | pow
inductive COp where
 | eq | ne | lt | le | gt | ge | isnt | isn | isin | notin
inductive BI where
 | range | len | sorted | min | max | list | set | dict | int
 deriving DecidableEq
inductive BM where
 | append | pop | get | index
set_option genCtorIdx false in
inductive Pat where
 | var (n:Nat)
 | tup (ps:List Pat)
set_option genCtorIdx false in
inductive X where
 | none
 | bool (b:Bool)
 | int (i:Int)
 | str (s:Str)
 | gstr (x:Str) (s:Str)
 | var (n:Nat)
 | tup (es:List X)
 | list (es:List X)
 | dict (kvs:List X)
 | bin (op:BOp) (a b:X)
 | neg (a:X)
 | not (a:X)
 | and (a b:X)
 | or (a b:X)
 | cmp (op:COp) (a b:X)
 | chain (op1 op2:COp) (a b c:X)
 | ite (c a b:X)
 | item (a i:X)
 | rev (a:X)
 | upto (a k:X)
 | attr (a:X) (f:Nat)
 | bcall (b:BI) (es:List X)
 | dictEnum (a:X)
 | sortSet (a:X)
 | fcall (f:Nat) (es:List X)
 | flam (f:Nat) (es:List X) (n:Nat)
 | ccall (c:Nat) (es:List X)
 | meth (a:X) (m:Nat) (es:List X)
 | bmeth (b:BM) (a:X) (es:List X)
 | setdef (a k:X)
 | vcall (n:Nat) (e:X)
 | comp (k:Nat) (elt:X) (p1:Pat) (en:Bool) (it1:X) (two:Bool) (p2:Pat) (it2:X) (hasC:Bool) (c:X)
 | dcomp (k:Nat) (ke elt:X) (p1:Pat) (it1:X)
inductive RM where
 | plain | thaw | freeze
set_option genCtorIdx false in
inductive C where
 | expr (e:X)
 | asg (n:Nat) (e:X)
 | asgN (n:Nat) (e:X)
 | par (ns:List Nat) (new:List Bool) (es:List X)
 | asgP (p:Pat) (e:X)
 | setI (a i e:X)
 | setI2 (a1 i1 a2 i2 e1 e2:X)
 | setA (a:X) (f:Nat) (e:X)
 | setAN (a:X) (f:Nat) (e:X)
 | ret (m:RM) (e:X)
 | ifs (c:X) (a b:List C)
 | whiles (c:X) (b:List C)
 | fors (fz:Bool) (p:Pat) (en:Bool) (it:X) (b:List C)
 | brk
 | cont
 | bad
abbrev Vars:=List (Option V)
set_option genCtorIdx false in
inductive Fl where
 | nx | brk | cont
 | ret (v:V)
inductive FId where
 | f (n:Nat)
 | m (c n:Nat)
 deriving DecidableEq
abbrev Fn:=List V->Hp->Option (V×Hp)
abbrev Fns:=FId->Option Fn
noncomputable def keyD:Key->D
 | .i n=>.int n
 | .t ns=>.tup (ns.map .int)
noncomputable def D.ii:D->Option Int
 | .int n=>some n
 | _=>Option.none
noncomputable def D.ll:D->Option (List D)
 | .list xs=>some xs
 | _=>Option.none
noncomputable def D.tt:D->Option (List D)
 | .tup xs=>some xs
 | _=>Option.none
noncomputable def D.dd:D->Option (List Key×List D)
 | .dict ks xs=>some (ks,xs)
 | _=>Option.none
noncomputable def D.ss:D->Option Str
 | .str s=>some s
 | _=>Option.none
noncomputable def D.nn:D->Option Unit
 | .none=>some ()
 | _=>Option.none
noncomputable def D.bb:D->Option Bool
 | .bool b=>some b
 | _=>Option.none
noncomputable def V.dt:V->Option D
 | .d x=>some x
 | _=>Option.none
noncomputable def V.rf:V->Option Nat
 | .ref j=>some j
 | _=>Option.none
noncomputable def V.ic:V->Option (Nat×Nat)
 | .inst c j=>some (c,j)
 | _=>Option.none
noncomputable def V.cl:V->Option Nat
 | .clo j=>some j
 | _=>Option.none
noncomputable def O.ls:O->Option (List V)
 | .list xs=>some xs
 | _=>Option.none
noncomputable def O.dc:O->Option (List Key×List V)
 | .dict ks xs=>some (ks,xs)
 | _=>Option.none
noncomputable def O.it:O->Option (Nat×List (Nat×V))
 | .inst c fs=>some (c,fs)
 | _=>Option.none
noncomputable def O.tb:O->Option Unit
 | .tab=>some ()
 | _=>Option.none
noncomputable def O.ce:O->Option (List D)
 | .cell xs=>some xs
 | _=>Option.none
noncomputable def V.ii (v:V):Option Int:=v.dt.bind D.ii
noncomputable def V.ll (v:V):Option (List D):=v.dt.bind D.ll
noncomputable def wh {α:Type} (b:Bool) (o:Option α):Option α:=bif b then o else Option.none
noncomputable def one {α:Type}:List α->Option α
 | [v]=>some v
 | _=>Option.none
noncomputable def two {α:Type}:List α->Option (α×α)
 | [v,w]=>some (v,w)
 | _=>Option.none
noncomputable def allM {α β:Type} (f:α->Option β):List α->Option (List β)
 | []=>some []
 | x::r=>(f x).bind λy=>(allM f r).map (y::·)
noncomputable def intsOf (xs:List D):Option (List Int):=allM D.ii xs
noncomputable def alls (xs:List V):Option (List D):=allM V.dt xs
noncomputable def textsOf (xs:List D):Option (List Str):=allM D.ss xs
noncomputable def tupsOf (xs:List D):Option (List (List Int)):=allM (λd=>d.tt.bind intsOf) xs
noncomputable def keyOf:D->Option Key
 | .int n=>some (.i n)
 | .tup xs=>(intsOf xs).map .t
 | _=>Option.none
noncomputable def Key.isI:Key->Bool
 | .i u1=>true
 | .t u1=>false
noncomputable def sameKind (a b:Key):Bool:=a.isI==b.isI
mutual
noncomputable def D.py:D->PyData
 | .none=>.none
 | .bool b=>.bool b
 | .int i=>.int i
 | .str s=>.str s
 | .tup xs=>.tuple (pys xs)
 | .list xs=>.list (pys xs)
 | .dict u1 u2=>.dict []
 | .range u1=>.dict []
 | .iset u1=>.dict []
noncomputable def pys:List D->List PyData
 | []=>[]
 | x::r=>x.py::pys r
end
noncomputable def shapedD (x:D):Bool:=x.py.canLay0&&decide (x.py.depth<=64)
noncomputable def eqD (a b:D):Option Bool:=wh (shapedD a&&shapedD b) (some (PyData.eqv a.py b.py))
noncomputable def ltDs (f:D->D->Option Bool):List D->List D->Option Bool
 | [],ys=>some (!ys.isEmpty)
 | x::xs,ys=>match ys with
  | []=>some false
  | y::ys=>(eqD x y).bind λb=>bif b then ltDs f xs ys else f x y
noncomputable def ltI2 (x y:D):Option Bool:=x.ii.bind λa=>y.ii.map λb=>decide (a < b)
noncomputable def ltD:Nat->D->D->Option Bool
 | 0,x,y=>ltI2 x y
 | n+1,x,y=>match x with
  | .tup xs=>y.tt.bind λys=>ltDs (ltD n) xs ys
  | x=>ltI2 x y
noncomputable def idxK (ks:List Key) (k:Key):Option Nat:=ks.findIdx? (λq=>decide (q=k))
noncomputable def getK {α:Type} (ks:List Key) (xs:List α) (k:Key):Option α:=(idxK ks k).bind λi=>xs[i]?
noncomputable def setK {α:Type} (ks:List Key) (xs:List α) (k:Key) (v:α):List Key×List α:=(idxK ks k).elim (ks++[k],xs++[v]) λi=>(ks,xs.set i v)
noncomputable def delK {α:Type} (ks:List Key) (xs:List α) (k:Key):List Key×List α:=(idxK ks k).elim (ks,xs) λi=>(ks.eraseIdx i,xs.eraseIdx i)
noncomputable def insOrd {α:Type} (lt:α->α->Bool) (x:α):List α->List α
 | []=>[x]
 | y::r=>if lt x y then x::y::r else y::insOrd lt x r
noncomputable def sortBy {α:Type} (lt:α->α->Bool):List α->List α
 | []=>[]
 | x::r=>insOrd lt x (sortBy lt r)
noncomputable def ltI (a b:Int):Bool:=decide (a < b)
noncomputable def ltT:List Int->List Int->Bool
 | [],q=>!q.isEmpty
 | a::r,q=>match q with
  | []=>false
  | b::q=>if a=b then ltT r q else decide (a < b)
noncomputable def dedup:List Int->List Int
 | []=>[]
 | x::r=>if r.contains x then dedup r else x::dedup r
noncomputable def small (n:Nat):Bool:=decide (n < 60)
noncomputable def smallI (n:Int):Bool:=decide (0<=n)&&decide (n < 60)
noncomputable def kasRun {α:Type} (lt:Nat->Nat->Bool):PySem.W.KasT α->α
 | .ret a=>a
 | .ask i j k=>kasRun lt (k (lt i j))
noncomputable def sortT (ts:List (List Int)):List (List Int):=
 if ts.length < 2 then ts else (kasRun (λi j=>ltT (ts.getD i []) (ts.getD j [])) (PySem.W.kas_sort ts.length)).toList.map λi=>ts.getD i []
noncomputable def sortD (xs:List D):Option (List D):=wh (small xs.length) ((intsOf xs).elim ((tupsOf xs).bind λts=>wh (ts.all λt=>t.length==2) (some ((sortT ts).map λns=>.tup (ns.map .int)))) λns=>some ((sortBy ltI ns).map .int))
noncomputable def rangeD (n:Int):List D:=(List.range n.toNat).map λ(i:Nat)=>.int (i:Int)
noncomputable def iterD:D->Option (List V×Bool)
 | .list xs=>some (xs.map .d,false)
 | .tup xs=>some (xs.map .d,false)
 | .dict ks u1=>some (ks.map λk=>.d (keyD k),false)
 | .range n=>wh (smallI n) (some ((rangeD n).map .d,false))
 | _=>Option.none
noncomputable def iterO:O->Option (List V×Bool)
 | .list xs=>some (xs,true)
 | .dict ks u1=>some (ks.map λk=>.d (keyD k),true)
 | _=>Option.none
noncomputable def iterV (v:V) (h:Hp):Option (List V×Bool):=match v with
 | .d x=>iterD x
 | .ref j=>(h.o[j]?).bind iterO
 | _=>Option.none
mutual
noncomputable def bindP:Pat->V->Vars->Option Vars
 | .var n,v,vs=>some (vs.set n (some v))
 | .tup ps,v,vs=>v.dt.bind λd=>d.tt.bind λxs=>wh (ps.length==xs.length) (bindPs ps xs vs)
noncomputable def bindPs:List Pat->List D->Vars->Option Vars
 | [],_,vs=>some vs
 | p::ps,xs,vs=>match xs with
  | []=>Option.none
  | x::xs=>(bindP p (.d x) vs).bind λvs=>bindPs ps xs vs
end
noncomputable def truthV (v:V):Option Bool:=v.dt.bind D.bb
noncomputable def lenD:D->Option Nat
 | .list xs=>some xs.length
 | .iset xs=>some xs.length
 | _=>Option.none
noncomputable def lenV (v:V) (h:Hp):Option Nat:=match v with
 | .d x=>(lenD x).bind λn=>wh (decide (n < 1000)) (some n)
 | .ref j=>(h.o[j]?).bind λo=>o.ls.bind λxs=>wh (decide (xs.length < 1000)) (some xs.length)
 | _=>Option.none
noncomputable def bitsOk (i:Int):Bool:=decide (-(2 ^ 64) < i)&&decide (i < 2 ^ 64)
noncomputable def arI {α:Type} (f:Int->Int->Option α) (x y:V):Option α:=x.ii.bind λa=>y.ii.bind λb=>f a b
noncomputable def binV (op:BOp) (x y:V):Option V:=match op with
 | .add=>x.ll.elim (arI (λa b=>some (.d (.int (a+b)))) x y) λa=>y.ll.bind λb=>wh (small a.length&&small b.length) (some (.d (.list (a++b))))
 | .sub=>arI (λa b=>some (.d (.int (a - b)))) x y
 | .mul=>arI (λa b=>wh (bitsOk a||bitsOk b) (some (.d (.int (a * b))))) x y
 | .fdiv=>arI (λa b=>wh (decide (0 < b)&&decide (b < 9223372036854775808)) (some (.d (.int (Int.fdiv a b))))) x y
 | .mod=>arI (λa b=>wh (b != 0) (some (.d (.int (Int.fmod a b))))) x y
 | .pow=>arI (λa b=>wh (a==10&&b==18) (some (.d (.int (10 ^ 18))))) x y
noncomputable def peekO:O->Option D
 | .list xs=>(alls xs).map .list
 | .dict ks xs=>(alls xs).map (.dict ks)
 | _=>Option.none
noncomputable def peek (v:V) (h:Hp):Option D:=match v with
 | .d x=>some x
 | .ref j=>(h.o[j]?).bind peekO
 | _=>Option.none
noncomputable def inL (x:D) (xs:List D):Option Bool:=wh (shapedD x&&xs.all shapedD) (some (xs.any λy=>PyData.eqv y.py x.py))
noncomputable def inK (x:D) (ks:List Key):Option Bool:=(keyOf x).bind λk=>wh (ks.all (sameKind k)) (some (ks.contains k))
noncomputable def inD (x:D):D->Option Bool
 | .list xs=>inL x xs
 | .dict ks u1=>inK x ks
 | _=>Option.none
noncomputable def inO (x:D):O->Option Bool
 | .list xs=>(alls xs).bind λl=>inL x l
 | .dict ks u1=>inK x ks
 | _=>Option.none
noncomputable def inV (x:V) (c:V) (h:Hp):Option Bool:=x.dt.bind λx=>match c with
 | .d y=>inD x y
 | .ref j=>(h.o[j]?).bind λo=>inO x o
 | _=>Option.none
noncomputable def eqDict (k1:List Key) (x1:List D) (k2:List Key) (x2:List D):Option Bool:=
 (textsOf x1).bind λa=>(textsOf x2).bind λb=>wh (k1.all (sameKind (.t []))&&k2.all (sameKind (.t []))) (some (k1.length==k2.length&&(k1.zip a).all λq=>(getK k2 b q.1).any λu=>q.2==u))
noncomputable def eqDD (x y:D):Option Bool:=match x with
 | .dict k1 x1=>y.dd.bind λq=>bif q.1.isEmpty&&q.2.isEmpty then some k1.isEmpty else eqDict k1 x1 q.1 q.2
 | x=>eqD x y
noncomputable def eqV (a b:V) (h:Hp):Option Bool:=(peek a h).bind λx=>(peek b h).bind λy=>eqDD x y
noncomputable def cmpI (f:Int->Int->Bool) (x y:V):Option Bool:=x.ii.bind λa=>y.ii.map λb=>f a b
noncomputable def isND:D->Option Bool
 | .none=>some true
 | .int u1=>some false
 | _=>Option.none
noncomputable def isN (x y:V):Option Bool:=x.dt.bind λa=>y.dt.bind λb=>b.nn.bind λu1=>isND a
noncomputable def cmpV (op:COp) (a b:V) (h:Hp):Option Bool:=match op with
 | .eq=>eqV a b h
 | .ne=>(eqV a b h).map (!·)
 | .lt=>a.dt.bind λa=>b.dt.bind λb=>ltD 6 a b
 | .le=>cmpI (λa b=>decide (a<=b)) a b
 | .gt=>cmpI (λa b=>decide (b < a)) a b
 | .ge=>cmpI (λa b=>decide (b<=a)) a b
 | .isn=>isN a b
 | .isnt=>(isN a b).map (!·)
 | .isin=>inV a b h
 | .notin=>(inV a b h).map (!·)
noncomputable def idxL {α:Type} (xs:List α) (k:D):Option α:=k.ii.bind λi=>wh (decide (0<=i)&&decide (i < 1000)) (xs[i.toNat]?)
noncomputable def getD {α:Type} (ks:List Key) (xs:List α) (k:D):Option α:=(keyOf k).bind λk=>wh (ks.all (sameKind k)) (getK ks xs k)
noncomputable def itemD (k:D):D->Option D
 | .list xs=>idxL xs k
 | .tup xs=>idxL xs k
 | .dict ks xs=>getD ks xs k
 | _=>Option.none
noncomputable def itemO (k:D):O->Option V
 | .list xs=>idxL xs k
 | .dict ks xs=>getD ks xs k
 | _=>Option.none
noncomputable def itemV (v k:V) (h:Hp):Option V:=k.dt.bind λk=>match v with
 | .d x=>(itemD k x).map .d
 | .ref j=>(h.o[j]?).bind λo=>itemO k o
 | _=>Option.none
noncomputable def Hp.put (h:Hp) (j:Nat) (o:O):Hp:=⟨h.o.set j o,h.w+1⟩
noncomputable def Hp.new (h:Hp) (o:O):Hp:=⟨h.o++[o],h.w⟩
noncomputable def setItemO (k:D) (v:V):O->Option O
 | .list xs=>k.ii.bind λi=>wh (decide (0<=i)&&decide (i < 1000)&&decide (i.toNat < xs.length)) (some (.list (xs.set i.toNat v)))
 | .dict ks xs=>(keyOf k).bind λk=>wh (ks.all (sameKind k)&&small ks.length) (some (.dict (setK ks xs k v).1 (setK ks xs k v).2))
 | _=>Option.none
noncomputable def setItemV (a i v:V) (h:Hp):Option Hp:=a.rf.bind λj=>i.dt.bind λk=>(h.o[j]?).bind λo=>(setItemO k v o).map λo=>h.put j o
noncomputable def okFld (c f:Nat):Bool:=(c==0&&decide (f < 5))||(c==1&&decide (5<=f/\f < 9))||(c==2&&decide (9<=f/\f < 13))
noncomputable def okMeth (c m:Nat):Bool:=(c==0&&decide (m < 7))||(c==1&&m==0)||(c==2&&(m==0||decide (7<=m/\m < 12)))
noncomputable def fldsAt (v:V) (h:Hp):Option (Nat×Nat×List (Nat×V)):=v.ic.bind λp=>(h.o[p.2]?).bind λo=>o.it.bind λq=>wh (q.1==p.1) (some (p.1,p.2,q.2))
noncomputable def attrV (v:V) (f:Nat) (h:Hp):Option V:=(fldsAt v h).bind λp=>wh (okFld p.1 f) (p.2.2.lookup f)
noncomputable def setF (fs:List (Nat×V)) (f:Nat) (v:V):List (Nat×V):=match fs with
 | []=>[(f,v)]
 | (g,x)::r=>if g=f then (g,v)::r else (g,x)::setF r f v
noncomputable def setAttrV (a:V) (f:Nat) (v:V) (h:Hp):Option Hp:=(fldsAt a h).bind λp=>wh (okFld p.1 f&&small p.2.2.length) (some (h.put p.2.1 (.inst p.1 (setF p.2.2 f v))))
noncomputable def minL (m:D):List D->Option D
 | []=>some m
 | x::r=>(ltD 6 x m).bind λb=>bif b then minL x r else minL m r
termination_by structural r=>r
noncomputable def dictPairs:List D->Option (List Key×List D)
 | []=>some ([],[])
 | d::r=>d.tt.bind λp=>(two p).bind λp=>(keyOf p.1).bind λq=>(dictPairs r).bind λs=>wh (s.1.all (sameKind q)&&!s.1.contains q) (some (q::s.1,p.2::s.2))
noncomputable def sortSrcD:D->Option (List D)
 | .list xs=>some xs
 | .range n=>wh (smallI n) (some (rangeD n))
 | .dict ks u1=>some (ks.map keyD)
 | _=>Option.none
noncomputable def sortSrc (v:V) (h:Hp):Option (List D):=match v with
 | .d x=>sortSrcD x
 | .ref j=>(h.o[j]?).bind λo=>o.dc.map λp=>p.1.map keyD
 | _=>Option.none
noncomputable def listSrc:D->Option (List D)
 | .range n=>wh (smallI n) (some (rangeD n))
 | .dict ks u1=>wh (small ks.length) (some (ks.map keyD))
 | _=>Option.none
noncomputable def intOf:D->Option Int
 | .int n=>some n
 | .bool b=>some (if b then 1 else 0)
 | _=>Option.none
noncomputable def minOf:List D->Option D
 | []=>Option.none
 | x::r=>wh (small r.length) (minL x r)
noncomputable def min2 (xs:List V):Option Int:=(two xs).bind λp=>arI (λa b=>some (if b < a then b else a)) p.1 p.2
noncomputable def max2 (xs:List V):Option Int:=(two xs).bind λp=>arI (λa b=>some (if a < b then b else a)) p.1 p.2
noncomputable def bcallV (f:BI) (xs:List V) (h:Hp):Option V:=match f with
 | .range=>(one xs).bind λv=>v.ii.bind λn=>wh (smallI n) (some (.d (.range n)))
 | .len=>(one xs).bind λv=>(lenV v h).map λ(n:Nat)=>.d (.int (n:Int))
 | .sorted=>(one xs).bind λv=>(sortSrc v h).bind λl=>(sortD l).map λr=>.d (.list r)
 | .min=>(one xs).elim ((min2 xs).map λn=>.d (.int n)) λv=>v.ll.bind λl=>(minOf l).map .d
 | .max=>(max2 xs).map λn=>.d (.int n)
 | .list=>(one xs).bind λv=>v.dt.bind λx=>(listSrc x).map λl=>.d (.list l)
 | .set=>(one xs).bind λv=>v.ll.bind λl=>(intsOf l).bind λns=>wh (small ns.length) (some (.d (.iset (dedup ns))))
 | .dict=>(one xs).bind λv=>v.ll.bind λl=>wh (small l.length) ((dictPairs l).map λp=>.d (.dict p.1 p.2))
 | .int=>(one xs).bind λv=>v.dt.bind λx=>(intOf x).map λn=>.d (.int n)
noncomputable def lsAt (v:V) (h:Hp):Option (Nat×List V):=v.rf.bind λj=>(h.o[j]?).bind λo=>o.ls.map λxs=>(j,xs)
noncomputable def dcAt (v:V) (h:Hp):Option (Nat×List Key×List V):=v.rf.bind λj=>(h.o[j]?).bind λo=>o.dc.map λp=>(j,p)
noncomputable def dcV (v:V) (h:Hp):Option (List Key×List V):=match v with
 | .d x=>x.dd.map λp=>(p.1,p.2.map .d)
 | .ref j=>(h.o[j]?).bind O.dc
 | _=>Option.none
noncomputable def bmethV (m:BM) (v:V) (xs:List V) (h:Hp):Option (V×Hp):=match m with
 | .append=>(one xs).bind λw=>(lsAt v h).bind λp=>wh (small p.2.length) (some (.d .none,h.put p.1 (.list (p.2++[w]))))
 | .pop=>match xs with
  | []=>(lsAt v h).bind λp=>wh (small p.2.length) ((p.2.getLast?).map λw=>(w,h.put p.1 (.list p.2.dropLast)))
  | xs=>(one xs).bind λk=>k.ii.bind λk=>(dcAt v h).bind λp=>wh (p.2.1.all (sameKind (.i k))&&small p.2.1.length) ((getK p.2.1 p.2.2 (.i k)).map λw=>(w,h.put p.1 (.dict (delK p.2.1 p.2.2 (.i k)).1 (delK p.2.1 p.2.2 (.i k)).2)))
 | .get=>(two xs).bind λp=>p.1.dt.bind λk=>(dcV v h).bind λq=>(keyOf k).bind λk=>wh (q.1.all (sameKind k)) (some ((getK q.1 q.2 k).getD p.2,h))
 | .index=>(one xs).bind λx=>x.ii.bind λx=>v.ll.bind λl=>(intsOf l).bind λns=>wh (small l.length) ((ns.findIdx? (·==x)).map λ(i:Nat)=>(.d (.int (i:Int)),h))
noncomputable def freeze1 (v:V) (h:Hp):Option (D×Hp):=match v with
 | .d x=>some (x,h)
 | .ref j=>(h.o[j]?).bind λo=>o.ls.bind λxs=>(alls xs).map λl=>(.list l,⟨h.o.set j .dead,h.w+1⟩)
 | _=>Option.none
noncomputable def freezes:List V->Hp->Option (List D×Hp)
 | [],h=>some ([],h)
 | v::r,h=>(freeze1 v h).bind λp=>(freezes r p.2).map λq=>(p.1::q.1,q.2)
noncomputable def freezeO (h:Hp):O->Option (D×Hp)
 | .list xs=>(freezes xs h).map λp=>(.list p.1,p.2)
 | .dict ks xs=>(freezes xs h).map λp=>(.dict ks p.1,p.2)
 | _=>Option.none
noncomputable def freeze (v:V) (h:Hp):Option (D×Hp):=match v with
 | .d x=>some (x,h)
 | .ref j=>(h.o[j]?).bind λo=>freezeO ⟨h.o.set j .dead,h.w+1⟩ o
 | _=>Option.none
noncomputable def kindD:D->Option Bool
 | .list u1=>some false
 | .dict u1 u2=>some true
 | _=>Option.none
noncomputable def kindO:O->Option Bool
 | .list u1=>some false
 | .dict u1 u2=>some true
 | _=>Option.none
noncomputable def kindV (v:V) (h:Hp):Option Bool:=match v with
 | .d x=>kindD x
 | .ref j=>(h.o[j]?).bind kindO
 | _=>Option.none
noncomputable def okBm:BM->Bool->Bool
 | .append,d=>!d
 | .index,d=>!d
 | .get,d=>d
 | .pop,_=>true
noncomputable def instV (v:V) (m:Nat) (h:Hp):Option Nat:=(fldsAt v h).bind λp=>wh (okMeth p.1 m&&(m != 10||(p.2.2.lookup 8).isNone)) (some p.1)
noncomputable def callF (Φ:Fns) (f:FId) (vs:List V) (h:Hp):Option (V×Hp):=(Φ f).bind λF=>F vs h
noncomputable def compLoop (lock:Bool) (body:V->Hp->Option (List D×Hp)):List V->Hp->Option (List D×Hp)
 | [],h=>some ([],h)
 | v::r,h=>(body v h).bind λp=>wh (!lock||p.2.w==h.w) ((compLoop lock body r p.2).map λq=>(p.1++q.1,q.2))
noncomputable def Pat.isTup:Pat->Bool
 | .tup u1=>true
 | _=>false
noncomputable def itemsOf (en:Bool) (p:Pat) (v:V) (h:Hp):Option (List V×Bool):=
 bif en then v.ll.bind λxs=>wh (p.isTup&&small xs.length) (some (xs.zipIdx.map λq=>.d (.tup [.int (q.2:Int),q.1]),false))
 else iterV v h
abbrev Ev:=Vars->Hp->Option (V×Hp)
noncomputable def compCond (hasC:Bool) (fc:Ev) (vs:Vars) (h:Hp):Option (Bool×Hp):=
 bif hasC then (fc vs h).bind λp=>(truthV p.1).map λb=>(b,p.2) else some (true,h)
noncomputable def compLeaf (hasC:Bool) (fc felt:Ev) (vs:Vars) (h:Hp):Option (List D×Hp):=
 (compCond hasC fc vs h).bind λp=>bif p.1 then (felt vs p.2).bind λq=>q.1.dt.map λy=>([y],q.2) else some ([],p.2)
noncomputable def compAfter (two:Bool) (p2:Pat) (hasC:Bool) (felt fit2 fc:Ev) (vs:Vars) (h:Hp):Option (List D×Hp):=
 bif two then (fit2 vs h).bind λq=>(itemsOf false p2 q.1 q.2).bind λi=>
  wh (small i.1.length) (compLoop i.2 (λv h=>(bindP p2 v vs).bind λvs=>compLeaf hasC fc felt vs h) i.1 q.2)
 else compLeaf hasC fc felt vs h
noncomputable def dcompAfter (fk felt:Ev) (vs:Vars) (h:Hp):Option (List D×Hp):=
 (fk vs h).bind λq=>(felt vs q.2).bind λy=>q.1.dt.bind λk=>y.1.dt.map λd=>([.tup [k,d]],y.2)
noncomputable def compRun (k:Nat) (p1:Pat) (en:Bool) (fit1:Ev) (after:Vars->Hp->Option (List D×Hp)) (vs:Vars) (h:Hp):Option (List D×Hp):=
 (fit1 vs h).bind λq=>(itemsOf en p1 q.1 q.2).bind λi=>wh (small i.1.length)
  ((compLoop i.2 (λv h=>(bindP p1 v (vs++List.replicate k Option.none)).bind λvs=>after vs h) i.1 q.2).bind λo=>wh (small o.1.length) (some o))
noncomputable def compEv (k:Nat) (p1:Pat) (en two:Bool) (p2:Pat) (hasC:Bool) (fit1 felt fit2 fc:Ev) (vs:Vars) (h:Hp):Option (List D×Hp):=
 compRun k p1 en fit1 (compAfter two p2 hasC felt fit2 fc) vs h
noncomputable def dcompEv (k:Nat) (p1:Pat) (fit1 fk felt:Ev) (vs:Vars) (h:Hp):Option (V×Hp):=
 (compRun k p1 false fit1 (dcompAfter fk felt) vs h).bind λo=>(dictPairs o.1).map λp=>(.d (.dict p.1 p.2),o.2)
noncomputable def dictEnumV (v:V):Option D:=v.ll.bind λxs=>wh (small xs.length) (some (.dict ((List.range xs.length).map λ(i:Nat)=>.i (i:Int)) xs))
noncomputable def sortSetV (v:V):Option D:=v.ll.bind λxs=>(intsOf xs).bind λns=>wh (small ns.length&&ns.all λn=>decide (0<=n)&&decide (n < 6)) (some (.list ((sortBy ltI (dedup ns)).map .int)))
noncomputable def revV (v:V) (h:Hp):Option D:=(peek v h).bind λd=>d.ll.bind λxs=>wh (small xs.length) (some (.list xs.reverse))
noncomputable def uptoV (v k:V) (h:Hp):Option D:=(peek v h).bind λd=>d.ll.bind λxs=>k.ii.bind λk=>wh (small xs.length&&decide (0<=k)&&decide (k.toNat<=xs.length)) (some (.list (xs.take k.toNat)))
noncomputable def setdefV (v k:V) (h:Hp):Option (V×Hp):=(dcAt v h).bind λs=>k.dt.bind λk=>(keyOf k).bind λk=>wh (s.2.1.all (sameKind k)&&small s.2.1.length) (some ((getK s.2.1 s.2.2 k).elim (.ref h.o.length,⟨(h.o.set s.1 (.dict (s.2.1++[k]) (s.2.2++[.ref h.o.length])))++[.list []],h.w+1⟩) λv=>(v,h)))
noncomputable def vcallV (f x:V) (h:Hp):Option V:=f.cl.bind λj=>x.dt.bind λx=>(h.o[j]?).bind λo=>o.ce.bind λys=>(inL x ys).map λb=>.d (.bool (!b))
noncomputable def flamV (Φ:Fns) (f:Nat) (xs:List V) (y:V) (h:Hp):Option (V×Hp):=y.ll.bind λys=>(h.o[0]?).bind λo=>o.tb.bind λu1=>
 (callF Φ (.f f) (xs++[.clo h.o.length]) ⟨h.o.set 0 .tabD++[.cell ys],h.w+1⟩).bind λq=>q.1.dt.bind λx=>(q.2.o[h.o.length]?).bind λo=>o.ce.bind λu1=>
  wh (q.2.w==h.w+1) (some (.d x,⟨q.2.o.set h.o.length .dead,q.2.w⟩))
noncomputable def ccallV (Φ:Fns) (c:Nat) (xs:List V) (h:Hp):Option (V×Hp):=
 wh (decide (c < 3)) ((callF Φ (.m c 0) (.inst c h.o.length::xs) (h.new (.inst c []))).bind λq=>q.1.dt.bind λd=>d.nn.map λu1=>(.inst c h.o.length,q.2))
mutual
noncomputable def evalX (Φ:Fns):X->Vars->Hp->Option (V×Hp)
 | .none,_,h=>some (.d .none,h)
 | .bool b,_,h=>some (.d (.bool b),h)
 | .int i,_,h=>some (.d (.int i),h)
 | .str s,_,h=>some (.d (.str s),h)
 | .gstr u1 s,_,h=>some (.d (.str s),h)
 | .var n,vs,h=>((vs[n]?).join).map λx=>(x,h)
 | .tup es,vs,h=>(evalXs Φ es vs h).bind λp=>(alls p.1).map λl=>(.d (.tup l),p.2)
 | .list es,vs,h=>(evalXs Φ es vs h).bind λp=>(alls p.1).map λl=>(.d (.list l),p.2)
 | .dict es,vs,h=>(evalKV Φ es vs h).bind λp=>(alls p.2.1).map λl=>(.d (.dict p.1 l),p.2.2)
 | .bin op a b,vs,h=>(evalX Φ a vs h).bind λp=>(evalX Φ b vs p.2).bind λq=>(binV op p.1 q.1).map λz=>(z,q.2)
 | .neg a,vs,h=>(evalX Φ a vs h).bind λp=>p.1.ii.map λi=>(.d (.int (-i)),p.2)
 | .not a,vs,h=>(evalX Φ a vs h).bind λp=>(truthV p.1).map λb=>(.d (.bool (!b)),p.2)
 | .and a b,vs,h=>(evalX Φ a vs h).bind λp=>(truthV p.1).bind λc=>bif c then evalX Φ b vs p.2 else some p
 | .or a b,vs,h=>(evalX Φ a vs h).bind λp=>(truthV p.1).bind λc=>bif c then some p else evalX Φ b vs p.2
 | .cmp op a b,vs,h=>(evalX Φ a vs h).bind λp=>(evalX Φ b vs p.2).bind λq=>(cmpV op p.1 q.1 q.2).map λz=>(.d (.bool z),q.2)
 | .chain o1 o2 a b c,vs,h=>(evalX Φ a vs h).bind λp=>(evalX Φ b vs p.2).bind λq=>(cmpV o1 p.1 q.1 q.2).bind λz=>
  bif z then (evalX Φ c vs q.2).bind λr=>(cmpV o2 q.1 r.1 r.2).map λz=>(.d (.bool z),r.2) else some (.d (.bool false),q.2)
 | .ite c a b,vs,h=>(evalX Φ c vs h).bind λp=>(truthV p.1).bind λz=>bif z then evalX Φ a vs p.2 else evalX Φ b vs p.2
 | .item a i,vs,h=>(evalX Φ a vs h).bind λp=>(evalX Φ i vs p.2).bind λq=>(itemV p.1 q.1 q.2).map λz=>(z,q.2)
 | .rev a,vs,h=>(evalX Φ a vs h).bind λp=>(revV p.1 p.2).map λd=>(.d d,p.2)
 | .upto a k,vs,h=>(evalX Φ a vs h).bind λp=>(evalX Φ k vs p.2).bind λq=>(uptoV p.1 q.1 q.2).map λd=>(.d d,q.2)
 | .attr a f,vs,h=>(evalX Φ a vs h).bind λp=>(attrV p.1 f p.2).map λz=>(z,p.2)
 | .bcall b es,vs,h=>(evalXs Φ es vs h).bind λp=>(bcallV b p.1 p.2).map λz=>(z,p.2)
 | .dictEnum a,vs,h=>(evalX Φ a vs h).bind λp=>(dictEnumV p.1).map λd=>(.d d,p.2)
 | .sortSet a,vs,h=>(evalX Φ a vs h).bind λp=>(sortSetV p.1).map λd=>(.d d,p.2)
 | .fcall f es,vs,h=>(evalXs Φ es vs h).bind λp=>callF Φ (.f f) p.1 p.2
 | .flam f es n,vs,h=>(evalXs Φ es vs h).bind λp=>((vs[n]?).join).bind λy=>flamV Φ f p.1 y p.2
 | .ccall c es,vs,h=>(evalXs Φ es vs h).bind λp=>ccallV Φ c p.1 p.2
 | .meth a m es,vs,h=>(evalX Φ a vs h).bind λp=>(instV p.1 m p.2).bind λc=>(evalXs Φ es vs p.2).bind λq=>callF Φ (.m c m) (p.1::q.1) q.2
 | .bmeth b a es,vs,h=>(evalX Φ a vs h).bind λp=>(kindV p.1 p.2).bind λd=>(evalXs Φ es vs p.2).bind λq=>(kindV p.1 q.2).bind λd2=>wh (okBm b d&&d2==d) (bmethV b p.1 q.1 q.2)
 | .setdef a k,vs,h=>(evalX Φ a vs h).bind λp=>(kindV p.1 p.2).bind λd=>(evalX Φ k vs p.2).bind λq=>wh d (setdefV p.1 q.1 q.2)
 | .vcall n e,vs,h=>(evalX Φ e vs h).bind λp=>((vs[n]?).join).bind λf=>(vcallV f p.1 p.2).map λz=>(z,p.2)
 | .comp k elt p1 en it1 two p2 it2 hasC c,vs,h=>(compEv k p1 en two p2 hasC (evalX Φ it1) (evalX Φ elt) (evalX Φ it2) (evalX Φ c) vs h).map λp=>(.d (.list p.1),p.2)
 | .dcomp k ke elt p1 it1,vs,h=>dcompEv k p1 (evalX Φ it1) (evalX Φ ke) (evalX Φ elt) vs h
noncomputable def evalXs (Φ:Fns):List X->Vars->Hp->Option (List V×Hp)
 | [],_,h=>some ([],h)
 | e::es,vs,h=>(evalX Φ e vs h).bind λp=>(evalXs Φ es vs p.2).map λq=>(p.1::q.1,q.2)
noncomputable def evalKV (Φ:Fns):List X->Vars->Hp->Option (List Key×List V×Hp)
 | [],_,h=>some ([],[],h)
 | [u1],_,_=>Option.none
 | k::e::es,vs,h=>(evalX Φ k vs h).bind λp=>(evalX Φ e vs p.2).bind λv=>p.1.dt.bind λx=>(keyOf x).bind λq=>(evalKV Φ es vs v.2).bind λs=>
  wh (s.1.all (sameKind q)&&!s.1.contains q&&small s.1.length) (some (q::s.1,v.1::s.2.1,s.2.2))
end
noncomputable def newMul:BOp->X->Option X
 | .mul,.list [a]=>some a
 | _,_=>Option.none
noncomputable def newLR:BI->List X->Option X
 | .list,[a]=>some a
 | _,_=>Option.none
noncomputable def D.rg:D->Option Int
 | .range n=>some n
 | _=>Option.none
noncomputable def evalNew (Φ:Fns) (x:X) (vs:Vars) (h:Hp):Option (O×Hp):=match x with
 | .list es=>(evalXs Φ es vs h).map λp=>(.list p.1,p.2)
 | .dict es=>(evalKV Φ es vs h).map λp=>(.dict p.1 p.2.1,p.2.2)
 | .bin op l n=>(newMul op l).bind λa=>(evalX Φ a vs h).bind λp=>(evalX Φ n vs p.2).bind λq=>q.1.ii.bind λn=>wh (smallI n) (some (.list (List.replicate n.toNat p.1),q.2))
 | .bcall b es=>(newLR b es).bind λa=>(evalX Φ a vs h).bind λp=>p.1.dt.bind λd=>d.rg.bind λn=>wh (smallI n) (some (.list ((rangeD n).map .d),p.2))
 | .comp k elt p1 en it1 two p2 it2 hasC c=>(compEv k p1 en two p2 hasC (evalX Φ it1) (evalX Φ elt) (evalX Φ it2) (evalX Φ c) vs h).map λp=>(.list (p.1.map .d),p.2)
 | _=>Option.none
noncomputable def parOne (b:Bool) (fn:Vars->Hp->Option (O×Hp)) (f:Ev) (vs:Vars) (h:Hp):Option (V×Hp):=
 bif b then (fn vs h).map λp=>(V.ref p.2.o.length,p.2.new p.1) else f vs h
noncomputable def forSrc (fz:Bool) (it:X) (f:Ev) (vs:Vars) (h:Hp):Option (V×Vars×Hp):=
 bif fz then match it with
  | .var n=>((vs[n]?).join).bind λv=>(freeze v h).map λp=>(V.d p.1,vs.set n (some (.d p.1)),p.2)
  | _=>Option.none
 else (f vs h).map λp=>(p.1,vs,p.2)
noncomputable def evalPar (Φ:Fns):List Bool->List X->Vars->Hp->Option (List V×Hp)
 | [],es,_,h=>match es with
  | []=>some ([],h)
  | _=>Option.none
 | b::bs,es,vs,h=>match es with
  | []=>Option.none
  | e::es=>(parOne b (evalNew Φ e) (evalX Φ e) vs h).bind λp=>(evalPar Φ bs es vs p.2).map λq=>(p.1::q.1,q.2)
noncomputable def setAll:List Nat->List V->Vars->Vars
 | [],_,r=>r
 | n::ns,vs,r=>match vs with
  | []=>r
  | v::vs=>setAll ns vs (r.set n (some v))
abbrev St:=Fl×Vars×Hp
noncomputable def afterB (k:Vars->Hp->Option St) (o:St):Option St:=match o.1 with
 | .ret x=>some (.ret x,o.2)
 | .brk=>some (.nx,o.2)
 | _=>k o.2.1 o.2.2
noncomputable def loopC (lock:Bool) (body:V->Vars->Hp->Option St):List V->Vars->Hp->Option St
 | [],vs,h=>some (.nx,vs,h)
 | v::r,vs,h=>(body v vs h).bind (afterB λvs1 h1=>wh (!lock||h1.w==h.w) (loopC lock body r vs1 h1))
noncomputable def whileC (test:Vars->Hp->Option (Bool×Hp)) (body:Vars->Hp->Option St):Nat->Vars->Hp->Option St
 | 0,_,_=>Option.none
 | n+1,vs,h=>(test vs h).bind λp=>bif p.1 then (body vs p.2).bind (afterB (whileC test body n)) else some (.nx,vs,p.2)
noncomputable def thenC (k:Vars->Hp->Option St) (o:St):Option St:=match o.1 with
 | .nx=>k o.2.1 o.2.2
 | f=>some (f,o.2)
noncomputable def exprOk:D->Option Unit
 | .none=>some ()
 | .int u1=>some ()
 | _=>Option.none
mutual
noncomputable def execC (Φ:Fns):C->Vars->Hp->Option St
 | .expr e,vs,h=>(evalX Φ e vs h).bind λp=>p.1.dt.bind λd=>(exprOk d).map λu1=>(.nx,vs,p.2)
 | .asg n e,vs,h=>(evalX Φ e vs h).map λp=>(.nx,vs.set n (some p.1),p.2)
 | .asgN n e,vs,h=>(evalNew Φ e vs h).map λp=>(.nx,vs.set n (some (.ref p.2.o.length)),p.2.new p.1)
 | .par ns new es,vs,h=>(evalPar Φ new es vs h).map λp=>(.nx,setAll ns p.1 vs,p.2)
 | .asgP p e,vs,h=>(evalX Φ e vs h).bind λq=>(bindP p q.1 vs).map λvs=>(.nx,vs,q.2)
 | .setI a i e,vs,h=>(evalX Φ e vs h).bind λv=>(evalX Φ a vs v.2).bind λx=>(evalX Φ i vs x.2).bind λy=>(setItemV x.1 y.1 v.1 y.2).map λh=>(.nx,vs,h)
 | .setI2 a1 i1 a2 i2 e1 e2,vs,h=>(evalX Φ e1 vs h).bind λv1=>(evalX Φ e2 vs v1.2).bind λv2=>(evalX Φ a1 vs v2.2).bind λx=>(evalX Φ i1 vs x.2).bind λy=>(setItemV x.1 y.1 v1.1 y.2).bind λh=>
  (evalX Φ a2 vs h).bind λx=>(evalX Φ i2 vs x.2).bind λy=>(setItemV x.1 y.1 v2.1 y.2).map λh=>(.nx,vs,h)
 | .setA a f e,vs,h=>(evalX Φ e vs h).bind λv=>(evalX Φ a vs v.2).bind λx=>(setAttrV x.1 f v.1 x.2).map λh=>(.nx,vs,h)
 | .setAN a f e,vs,h=>(evalNew Φ e vs h).bind λo=>(evalX Φ a vs (o.2.new o.1)).bind λx=>(setAttrV x.1 f (.ref o.2.o.length) x.2).map λh=>(.nx,vs,h)
 | .ret .plain e,vs,h=>(evalX Φ e vs h).map λp=>(.ret p.1,vs,p.2)
 | .ret .thaw e,vs,h=>(evalNew Φ e vs h).map λp=>(.ret (.ref p.2.o.length),vs,p.2.new p.1)
 | .ret .freeze e,vs,h=>(evalX Φ e vs h).bind λp=>(freeze p.1 p.2).map λd=>(.ret (.d d.1),vs,d.2)
 | .ifs c a b,vs,h=>(evalX Φ c vs h).bind λp=>(truthV p.1).bind λz=>bif z then execCs Φ a vs p.2 else execCs Φ b vs p.2
 | .whiles c b,vs,h=>whileC (λvs h=>(evalX Φ c vs h).bind λp=>(truthV p.1).map λz=>(z,p.2)) (λvs h=>execCs Φ b vs h) 100 vs h
 | .fors fz p en it b,vs,h=>(forSrc fz it (evalX Φ it) vs h).bind λs=>(itemsOf en p s.1 s.2.2).bind λi=>wh (small i.1.length) (loopC i.2 (λv vs h=>(bindP p v vs).bind λvs=>execCs Φ b vs h) i.1 s.2.1 s.2.2)
 | .brk,vs,h=>some (.brk,vs,h)
 | .cont,vs,h=>some (.cont,vs,h)
 | .bad,_,_=>Option.none
noncomputable def execCs (Φ:Fns):List C->Vars->Hp->Option St
 | [],vs,h=>some (.nx,vs,h)
 | c::cs,vs,h=>(execC Φ c vs h).bind (thenC λvs h=>execCs Φ cs vs h)
end
noncomputable def retV:Fl->Option V
 | .ret v=>some v
 | .nx=>some (.d .none)
 | _=>Option.none
noncomputable def runFn (Φ:Fns) (k:Nat) (body:List C):Fn:=λargs h=>
 (execCs Φ body (args.map some++List.replicate (k - args.length) Option.none) h).bind λo=>(retV o.1).map λv=>(v,o.2.2)
noncomputable def allD:List V->Bool
 | []=>true
 | .d u1::r=>allD r
 | u1::_=>false
noncomputable def pureFn (F:Fn):Fn:=λargs h=>wh (allD args) ((F args ⟨[],0⟩).bind λp=>p.1.dt.map λx=>(.d x,h))
noncomputable def fnOf (Φ:Fns) (ng:Nat) (dfl:List Int) (k:Nat) (body:List C):Fn:=λargs h=>
 wh (args.length==ng) (runFn Φ k body (args++dfl.map λi=>.d (.int i)) h)
noncomputable def idxOf (l:List Str) (x:Str):Option Nat:=l.findIdx? (·==x)
noncomputable def fnNames:List Str:=["web_of_wires","web_let_through","sides_of","reached_switches","parts_of_web","circle_in_web","circle_from","rows_back","circle_closed","is_forest","is_tree","spans_web",
 "_law_pool","_law_take","_law_web","_law_marks","_law_is_circle","_law_web_right","_law_costs","_law_roles","_law_roles_right","_law_small_right","law"]
noncomputable def clsNames:List Str:=["PlainTree","Wire","Wires"]
noncomputable def methNames:List Str:=["__init__","settle","told_at","way_by","root_port","role","roles","join","wire","ends","is_whole","cut"]
noncomputable def fldNames:List Str:=["bridges","ports","across","roots","costs","one","other","delay","is_whole","rows","numbers","flying","sent"]
noncomputable def biNames:List Str:=["range","len","sorted","min","max","list","set","dict","int"]
noncomputable def biAt:List BI:=[.range,.len,.sorted,.min,.max,.list,.set,.dict,.int]
noncomputable def bmNames:List Str:=["append","pop","get","index"]
noncomputable def bmAt:List BM:=[.append,.pop,.get,.index]
noncomputable def gConsts:List (Str×Str):=[("ROOT","root"),("DESIGNATED","designated"),("ALTERNATE","alternate"),("BACKUP","backup")]
structure CE where
 sc:Scope
 nm:List (Str×Nat)
 base:Nat
 code:Option Addr:=Option.none
noncomputable def varK (k:NameKind):Bool:=k==.local||k==.cell
noncomputable def slot (ce:CE) (x:Str):Option Nat:=
 if x==("__debug__":Str)||x==("__classdict__":Str) then Option.none else
 (ce.sc.names.lookup x).bind λk=>bif varK k||k==.free then ce.nm.lookup x else Option.none
noncomputable def glob (ce:CE) (x:Str):Bool:=ce.sc.names.lookup x==some .globalImplicit&&x != ("__debug__":Str)
noncomputable def compNm (ce:CE) (names:List (Str×NameKind)):List (Str×Nat):=
 (names.zipIdx).filterMap λp=>bif varK p.1.2 then some (p.1.1,ce.base+p.2) else bif p.1.2==.free then (slot ce p.1.1).map (p.1.1,·) else Option.none
noncomputable def CE.inner (ce:CE) (sc:Scope):CE:={ sc:=sc,nm:=compNm ce sc.names,base:=ce.base+sc.names.length,code:=ce.code }
noncomputable def okScope (ce:CE) (sc:Scope):Bool:=
 sc.kind==.function&&decide ((sc.names.map (·.1)).Nodup)&&sc.names.all λp=>p.2 != .free||((slot ce p.1).isSome&&ce.sc.names.lookup p.1 != some .local)
noncomputable def okLam (ce:CE) (sc:Scope):Bool:=
 ce.code==some 403&&sc.kind==.function&&!sc.isGenerator&&!sc.isCoroutine&&ce.sc.names.lookup ("shut":Str) != some .local
mutual
noncomputable def Pat.vars:Pat->List Nat
 | .var n=>[n]
 | .tup ps=>patsVars ps
noncomputable def patsVars:List Pat->List Nat
 | []=>[]
 | p::ps=>p.vars++patsVars ps
end
mutual
noncomputable def Pat.ge (lo:Nat):Pat->Bool
 | .var n=>decide (lo<=n)
 | .tup ps=>patsGe lo ps
noncomputable def patsGe (lo:Nat):List Pat->Bool
 | []=>true
 | p::ps=>p.ge lo&&patsGe lo ps
end
noncomputable def patOf:Nat->CE->Expr->Option Pat
 | 0,_,_=>Option.none
 | n+1,ce,e=>match e with
  | .Name x u1=>(slot ce x).map .var
  | .Tuple es u1 u2=>(es.mapM (patOf n ce)).map .tup
  | _=>Option.none
noncomputable def isNew:X->Bool
 | .list u1=>true
 | .dict u1=>true
 | .bin .mul (.list [u1]) u2=>true
 | .bcall .list [u1]=>true
 | .comp ..=>true
 | _=>false
noncomputable def isComp (e:Expr):Bool:=Nat.ble 8 e.ctorIdx&&Nat.ble e.ctorIdx 10
noncomputable def isDComp (e:Expr):Bool:=Nat.ble 9 e.ctorIdx&&Nat.ble e.ctorIdx 10
noncomputable def isTuple (e:Expr):Bool:=Nat.beq e.ctorIdx 25
structure SE extends CE where
 mu:List Str
 fz:List Str
 rm:RM
noncomputable def nameOf:Expr->Option Str
 | .Name x u1=>some x
 | _=>Option.none
noncomputable def newHere (se:SE) (x:Str) (e:X):Bool:=se.mu.contains x&&isNew e
noncomputable def defAt (p:List Stmt) (x:Str):Option (Arguments×List Stmt×Scope):=p.findSome? λ
 | .FunctionDef n a b u1 u2 u3 sc u4 u5 u6=>if n==x then some (a,b,sc) else Option.none
 | _=>Option.none
noncomputable def clsAt (p:List Stmt) (x:Str):Option (List Stmt):=p.findSome? λ
 | .ClassDef n u1 u2 b u3 u4 u5 u6 u7 u8 u9=>if n==x then some b else Option.none
 | _=>Option.none
noncomputable def topOf:List Stmt:=PySem.Challenge.pw_pc0379_01.main.body
noncomputable def textOf:FId->Option (Arguments×List Stmt×Scope)
 | .f n=>do defAt topOf (← fnNames[n]?)
 | .m c n=>do defAt (← clsAt topOf (← clsNames[c]?)) (← methNames[n]?)
structure Cut where
 mu:List Str:=[]
 fz:List Str:=[]
 rm:RM:=.plain
noncomputable def ceOf (sc:Scope) (code:Option Addr):CE:={ sc:=sc,nm:=sc.names.zipIdx.map λ(p,i)=>(p.1,i),base:=sc.names.length,code:=code }
noncomputable def codeOf:FId->Option Addr
 | .f 22=>some 403
 | _=>Option.none
noncomputable def cutOf:FId->Cut
 | .f 2=>{ mu:=["found"],rm:=.freeze }
 | .f 3=>{ mu:=["found","left"] }
 | .f 4=>{ mu:=["found","met"],rm:=.freeze }
 | .f 5=>{ mu:=["met"] }
 | .f 6=>{ mu:=["came","left"] }
 | .f 7=>{ mu:=["found"],rm:=.freeze }
 | .f 8=>{ mu:=["ahead"] }
 | .f 12=>{ rm:=.thaw }
 | .f 14=>{ mu:=["web","ports","ends"],rm:=.freeze }
 | .f 15=>{ mu:=["marks"],rm:=.freeze }
 | .f 18=>{ mu:=["costs"],rm:=.freeze }
 | .f 19=>{ mu:=["found","ways"],fz:=["ways"],rm:=.freeze }
 | .f 20=>{ mu:=["ports"] }
 | .m 0 1=>{ mu:=["waiting"] }
 | _=>{}
end Mine.Internal
namespace Mine.Internal
open PySem PySem.W PySem.Calls PyProof.Rows
theorem wif_p {α:Type} {M:Model} {A:Around} {E:Value->Shared->Prop} {s:Shared} {c:Prop} [Decidable c] {a b:Sem α} {Q:α->Shared->Prop} (hc:c) (h:wpAny M A a Q E s):wpAny M A (if c then a else b) Q E s:=by rw [aQ hc];exact h
theorem wif_n {α:Type} {M:Model} {A:Around} {E:Value->Shared->Prop} {s:Shared} {c:Prop} [Decidable c] {a b:Sem α} {Q:α->Shared->Prop} (hc:¬ c) (h:wpAny M A b Q E s):wpAny M A (if c then a else b) Q E s:=by rw [aP hc];exact h
noncomputable def Ow {α:Type} (o:Option α) (Q:α->Prop):Prop:=Option.rec True (λa=>Q a) o
section
variable {α β:Type} {o p:Option α} {Q:α->Prop} {c:Bool} {G:Prop}
theorem Ow.of (h:∀ a,o=some a->Q a):Ow o Q:=by
 cases o with
 | none=>exact aO
 | some a=>exact h a rfl
theorem Ow.use {a:α} (h:Ow o Q) (e:o=some a):Q a:=by rw [e] at h;exact h
theorem Ow.mono {P:α->Prop} (k:∀ a,P a->Q a) (h:Ow o P):Ow o Q:=.of λa e=>k a (h.use e)
theorem Ow.b {f:α->Option β} {Q:β->Prop} (h:Ow o λa=>Ow (f a) Q):Ow (o.bind f) Q:=by
 cases o with
 | none=>exact aO
 | some a=>exact h
theorem Ow.m {f:α->β} {Q:β->Prop} (h:Ow o λa=>Q (f a)):Ow (o.map f) Q:=by
 cases o with
 | none=>exact aO
 | some a=>exact h
theorem Ow.be {f:α->Option β} {Q:β->Prop} (h:∀ a,o=some a->Ow (f a) Q):Ow (o.bind f) Q:=.b (.of h)
theorem Ow.me {f:α->β} {Q:β->Prop} (h:∀ a,o=some a->Q (f a)):Ow (o.map f) Q:=.m (.of h)
theorem Ow.w (h:c=true->Ow o Q):Ow (wh c o) Q:=by
 cases c with
 | true=>exact h rfl
 | false=>exact aO
theorem Ow.i (h:c=true->Ow o Q) (k:c=false->Ow p Q):Ow (bif c then o else p) Q:=by
 cases c with
 | true=>exact h rfl
 | false=>exact k rfl
theorem Ow.el {f:α->Option β} {g:Option β} {Q:β->Prop} (h:Ow o λa=>Ow (f a) Q) (k:o=none->Ow g Q):Ow (o.elim g f) Q:=by
 cases o with
 | none=>exact k rfl
 | some a=>exact h
theorem b1 {a b:Bool} (h:(a&&b)=true):a=true:=(Bool.and_eq_true_iff.mp h).1
theorem b2 {a b:Bool} (h:(a&&b)=true):b=true:=(Bool.and_eq_true_iff.mp h).2
theorem ba {a b:Bool} (h:a=true) (k:b=true):(a&&b)=true:=Bool.and_eq_true_iff.mpr ⟨h,k⟩
end
noncomputable def All2 {α β:Type} (R:α->β->Prop):List α->List β->Prop
 | as,[]=>as=[]
 | as,b::bs=>∃ a cs,as=a::cs/\R a b/\All2 R cs bs
namespace All2
variable {α β:Type} {R R':α->β->Prop} {a:α} {b:β} {as cs:List α} {bs ds:List β}
theorem nil:All2 R [] []:=rfl
theorem cons (x:R a b) (r:All2 R as bs):All2 R (a::as) (b::bs):=⟨a,as,rfl,x,r⟩
@[elab_as_elim] theorem ind {P:List α->List β->Prop} (q:All2 R as bs) (n:P [] []) (c:∀ a b as bs,R a b->All2 R as bs->P as bs->P (a::as) (b::bs)):P as bs:=by
 induction bs generalizing as with
 | nil=>cases (q:as=[]);exact n
 | cons b bs ih=>obtain ⟨a,cs,rfl,x,r⟩:=q;exact c _ _ _ _ x r (ih r)
@[elab_as_elim] theorem consE {P:List α->Prop} (q:All2 R as (b::bs)) (k:∀ a cs,R a b->All2 R cs bs->P (a::cs)):P as:=by
 obtain ⟨a,cs,rfl,x,r⟩:=q;exact k _ _ x r
theorem mono (h:∀ a b,R a b->R' a b) (q:All2 R as bs):All2 R' as bs:=ind q nil λu1 u2 u3 u4 x u5 i=>cons (h _ _ x) i
theorem length (q:All2 R as bs):as.length=bs.length:=ind q rfl λu1 u2 u3 u4 u5 u6 i=>aN (·+1) i
theorem append (q:All2 R as bs) (k:All2 R cs ds):All2 R (as++cs) (bs++ds):=ind q k λu1 u2 u3 u4 x u5 i=>cons x i
theorem one (h:R a b):All2 R [a] [b]:=cons h nil
theorem gets (q:All2 R as bs):∀ i:Nat,(∀ b,bs[i]?=some b->∃ a,as[i]?=some a/\R a b)/\∀ a,as[i]?=some a->∃ b,bs[i]?=some b/\R a b:=
 ind q (λu1=>⟨λu1=>nofun,λu1=>nofun⟩) λa b u1 u2 x u3 ih i=>match i with
  | 0=>⟨λu1 h=>⟨a,rfl,aE h▸x⟩,λu1 h=>⟨b,rfl,aE h▸x⟩⟩
  | i+1=>ih i
theorem get (q:All2 R as bs) {i:Nat} (h:bs[i]?=some b):∃ a,as[i]?=some a/\R a b:=(q.gets i).1 b h
theorem get' (q:All2 R as bs) {i:Nat} (h:as[i]?=some a):∃ b,bs[i]?=some b/\R a b:=(q.gets i).2 a h
theorem set (q:All2 R as bs) (h:R a b):∀ i:Nat,All2 R (as.set i a) (bs.set i b):=
 ind q (λu1=>nil) λu1 u2 u3 u4 x r ih=>λi=>match i with
  | 0=>cons h r
  | i+1=>cons x (ih i)
theorem take (q:All2 R as bs):∀ i:Nat,All2 R (as.take i) (bs.take i):=
 ind q (λi=>match i with | 0=>nil | _+1=>nil) λu1 u2 u3 u4 x u5 ih=>λi=>match i with
  | 0=>nil
  | i+1=>cons x (ih i)
theorem eraseIdx (q:All2 R as bs):∀ i:Nat,All2 R (as.eraseIdx i) (bs.eraseIdx i):=
 ind q (λu1=>nil) λu1 u2 u3 u4 x r ih=>λi=>match i with
  | 0=>r
  | i+1=>cons x (ih i)
theorem modify (q:All2 R as bs) {f:α->α} (h:∀ a b,R a b->R (f a) b):∀ i:Nat,All2 R (as.modify i f) bs:=
 ind q (λi=>match i with | 0=>nil | _+1=>nil) λu1 u2 u3 u4 x r ih=>λi=>match i with
  | 0=>cons (h _ _ x) r
  | i+1=>cons x (ih i)
theorem modset (q:All2 R as bs) {f:α->α} (h:∀ a,R (f a) b):∀ i:Nat,All2 R (as.modify i f) (bs.set i b):=
 ind q (λi=>match i with | 0=>nil | _+1=>nil) λu1 u2 u3 u4 x r ih=>λi=>match i with
  | 0=>cons (h _) r
  | i+1=>cons x (ih i)
theorem findIdx? (q:All2 R as bs) {p:α->Bool} {p':β->Bool} (h:∀ a b,R a b->p a=p' b):as.findIdx? p=bs.findIdx? p':=
 ind q rfl λu1 u2 u3 u4 x u5 ih=>by rw [List.findIdx?_cons,List.findIdx?_cons,h _ _ x,ih]
theorem mem (q:All2 R as bs) (m:a∈as):∃ b,R a b:=ind (P:=λas u1=>a∈as->∃ b,R a b) q nofun (λu1 b u2 u3 x u4 ih m=>(aG.mp m).elim (λe=>⟨b,e▸x⟩) ih) m
theorem reverse (q:All2 R as bs):All2 R as.reverse bs.reverse:=
 ind q nil λa b as bs x u1 ih=>List.reverse_cons (a:=a) (as:=as)▸List.reverse_cons (a:=b) (as:=bs)▸append ih (one x)
theorem dropLast (q:All2 R as bs):All2 R as.dropLast bs.dropLast:=by
 rw [List.dropLast_eq_take,List.dropLast_eq_take,q.length];exact q.take _
theorem getLast? (q:All2 R as bs) (h:bs.getLast?=some b):∃ a,as.getLast?=some a/\R a b:=by
 rw [List.getLast?_eq_getElem?] at h ⊢;rw [q.length];exact q.get h
theorem map_right {γ:Type} {S:α->γ->Prop} (f:β->γ) (h:∀ a b,R a b->S a (f b)) (q:All2 R as bs):All2 S as (bs.map f):=ind q nil λu1 u2 u3 u4 x u5 i=>cons (h _ _ x) i
theorem of_map_right {γ:Type} {S:α->γ->Prop} (f:β->γ) (h:∀ a b,S a (f b)->R a b):∀ {bs:List β} {as:List α},All2 S as (bs.map f)->All2 R as bs
 | [],_,q=>q
 | u1::_,_,q=>consE q λu1 u2 x r=>cons (h _ _ x) (of_map_right f h r)
theorem map_left {γ:Type} {S:γ->β->Prop} (f:α->γ) (h:∀ a b,R a b->S (f a) b) (q:All2 R as bs):All2 S (as.map f) bs:=ind q nil λu1 u2 u3 u4 x u5 i=>cons (h _ _ x) i
end All2
structure Wd where
 prog:Program
 w:World
 base:Heap
 ca:Nat->Addr
 fa:FId->Addr
 K:Frag
noncomputable abbrev Wd.m (W:Wd):Model:=model W.prog W.w
noncomputable def hashK:Key->Int
 | .i n=>hashInt n
 | .t ns=>reduceHash (Builtin.Tuple.tupleHashOf (ns.map hashInt))
noncomputable abbrev tupO (vs:Array Value) (n:Nat):Obj:={ cls:=.type "tuple",dict:=none,data:=.seq vs n,slots:=#[] }
noncomputable abbrev lstO (vs:Array Value) (n:Nat):Obj:={ cls:=.type "list",dict:=none,data:=.seq vs n,slots:=#[] }
noncomputable abbrev dctO (es:Array DictEntry) (n:Nat):Obj:={ cls:=.type "dict",dict:=none,data:=.dict es n,slots:=#[] }
noncomputable def IntV (v:Value) (n:Int):Prop:=∃ t,v=.int n t
noncomputable def KV (h:Heap) (ban:Addr->Prop) (v:Value):Key->Prop
 | .i n=>IntV v n
 | .t ns=>∃ a us m,v=.ref a/\h.get? a=some (tupO (List.toArray us) m)/\¬ ban a/\All2 IntV us ns
noncomputable def EntR (h:Heap) (ban:Addr->Prop) (e:DictEntry) (k:Key):Prop:=e.hash=hashK k/\KV h ban e.key k
structure DR (h:Heap) (ban:Addr->Prop) (a:Addr) (ks:List Key) (es:List DictEntry) (n:Nat):Prop where
 at_:h.get? a=some (dctO es.toArray n)
 sm:(a==sysModules)=false
 nodup:ks.Nodup
 ents:All2 (EntR h ban) es ks
mutual
noncomputable def VD (h:Heap) (ban:Addr->Prop):Value->D->Prop
 | v,.none=>v=.none
 | v,.bool b=>v=.bool b
 | v,.int i=>IntV v i
 | v,.str x=>∃ t,v=.str x t
 | v,.tup xs=>∃ a us n,v=.ref a/\h.get? a=some (tupO (List.toArray us) n)/\¬ ban a/\VDs h ban us xs
 | v,.list xs=>∃ a us n,v=.ref a/\h.get? a=some (lstO (List.toArray us) n)/\¬ ban a/\VDs h ban us xs
 | v,.dict ks xs=>∃ a es n,v=.ref a/\DR h ban a ks es n/\¬ ban a/\VDs h ban (es.map (·.val)) xs
 | v,.range n=>∃ a t u w,v=.ref a/\IsRange h a 0 n 1 t u w/\¬ ban a
 | v,.iset xs=>∃ a es n t,v=.ref a/\h.get? a=some { cls:=.type "set",dict:=none,data:=.set es n t,slots:=#[] }/\¬ ban a/\es.size=xs.length/\t.fits es.size=true
noncomputable def VDs (h:Heap) (ban:Addr->Prop):List Value->List D->Prop
 | us,[]=>us=[]
 | us,x::xs=>∃ u vs,us=u::vs/\VD h ban u x/\VDs h ban vs xs
end
structure Ex (h:Heap) (ban:Addr->Prop) (h':Heap) (ban':Addr->Prop):Prop where
 k:∀ {a o},¬ ban a->h.get? a=some o->h'.get? a=some o
 b:∀ {a},ban' a->ban a\/h.get? a=none
section
variable {h h':Heap} {ban ban':Addr->Prop} {v:Value} {us:List Value} {xs:List D} {x:D} {a:Addr} {o:Obj}
theorem absurdS {α:Type} {o:Option α} {x:α} {G:Prop} (e:o=some x) (n:o=none):G:=noS (n.symm.trans e)
theorem Ex.nb (X:Ex h ban h' ban') (nb:¬ ban a) (e:h.get? a=some o):¬ ban' a:=λq=>(X.b q).elim nb (absurdS e)
theorem Ex.grow (k:∀ {a o},h.get? a=some o->h'.get? a=some o):Ex h ban h' ban:=⟨λu1=>k,.inl⟩
theorem Ex.push (h:Heap) (o:Obj):Ex h ban (h.push o) ban:=.grow λe=>ah _ e
theorem Ex.weak:Ex h ban h λu1=>False:=⟨λu1 e=>e,False.elim⟩
theorem VDs.all2:∀ {xs:List D} {us:List Value},VDs h ban us xs->All2 (VD h ban) us xs
 | [],_,q=>q
 | u1::_,_,q=>xeeaa q λu vs e x r=>⟨u,vs,e,x,r.all2⟩
theorem VDs.of:∀ {xs:List D} {us:List Value},All2 (VD h ban) us xs->VDs h ban us xs
 | [],_,q=>q
 | u1::_,_,q=>xeeaa q λu vs e x r=>⟨u,vs,e,x,VDs.of r⟩
theorem VDs.length (r:VDs h ban us xs):us.length=xs.length:=r.all2.length
theorem KV.step (X:Ex h ban h' ban') {k:Key} (q:KV h ban v k):KV h' ban' v k:=match k,q with
 | .i u1,q=>q
 | .t u1,q=>xeeeaaa q λa us m e g nb q=>⟨a,us,m,e,X.k nb g,X.nb nb g,q⟩
theorem DR.step (X:Ex h ban h' ban') {ks:List Key} {es:List DictEntry} {n:Nat} (g:h'.get? a=some (dctO es.toArray n)) (D:DR h ban a ks es n):DR h' ban' a ks es n:=⟨g,D.sm,D.nodup,D.ents.mono λu1 u2 z=>⟨z.1,KV.step X z.2⟩⟩
theorem VD.step (X:Ex h ban h' ban') (q:VD h ban v x):VD h' ban' v x:=
 D.rec (motive_1:=λx=>∀ v,VD h ban v x->VD h' ban' v x) (motive_2:=λxs=>∀ us,VDs h ban us xs->VDs h' ban' us xs) (λu1 q=>q) (λu1 u2 q=>q) (λu1 u2 q=>q) (λu1 u2 q=>q)
  (λu1 j u2 q=>xeeeaaa q λa us n e g nb q=>⟨a,us,n,e,X.k nb g,X.nb nb g,j _ q⟩) (λu1 j u2 q=>xeeeaaa q λa us n e g nb q=>⟨a,us,n,e,X.k nb g,X.nb nb g,j _ q⟩)
  (λu1 u2 j u3 q=>xeeeaaa q λa es n e D nb q=>⟨a,es,n,e,D.step X (X.k nb D.at_),X.nb nb D.at_,j _ q⟩) (λu1 u2 q=>by obtain ⟨a,t,u,w,e,g,nb⟩:=q;exact ⟨a,t,u,w,e,X.k nb g,X.nb nb g⟩) (λu1 u2 q=>by obtain ⟨a,es,n,t,e,g,nb,z⟩:=q;exact ⟨a,es,n,t,e,X.k nb g,X.nb nb g,z⟩)
  (λu1 q=>q) (λu1 u2 i j us q=>xeeaa q λu vs e x r=>⟨u,vs,e,i _ x,j _ r⟩) x v q
theorem VDs.step (X:Ex h ban h' ban') (q:VDs h ban us xs):VDs h' ban' us xs:=VDs.of (q.all2.mono λu1 u2=>VD.step X)
end
abbrev Rho:=List (Option Addr)
noncomputable def Rho.le (r r':Rho):Prop:=∀ (j:Nat) (x:Option Addr),r[j]?=some x->r'[j]?=some x\/r'[j]?=some none
theorem Rho.le.refl (r:Rho):r.le r:=λu1 u2 e=>.inl e
theorem Rho.le.trans {r r' r'':Rho} (a:r.le r') (b:r'.le r''):r.le r'':=λj x e=>(a j x e).elim (b j x) λe=>.inr ((b j _ e).elim id id)
theorem getA {α:Type} {l:List α} {j:Nat} {x:α} (k:List α) (e:l[j]?=some x):(l++k)[j]?=some x:=(List.getElem?_append_left (aa.mp e).1).trans e
theorem Rho.le.push (r:Rho) (a:Option Addr):r.le (r++[a]):=λu1 u2 e=>.inl (getA _ e)
noncomputable def Live (r:Rho) (a:Addr):Prop:=∃ j:Nat,r[j]?=some (some a)
theorem Rho.le.at_ {r r':Rho} (l:r.le r') {j:Nat} {P P':Addr->Prop} (k:∀ a,P a->P' a) (q:r[j]?=some none\/∃ a,r[j]?=some (some a)/\P a):r'[j]?=some none\/∃ a,r'[j]?=some (some a)/\P' a:=
 q.elim (λe=>.inl ((l j _ e).elim id id)) λ⟨a,e,p⟩=>(l j _ e).elim (λe=>.inr ⟨a,e,k a p⟩) .inl
noncomputable abbrev lamQ:Str:="end"
noncomputable abbrev lamY:Str:="shut"
inductive CloFn (h:Heap) (ban:Addr->Prop) (a c:Addr):Prop
 | mk (name qual:Str) (pr:Arg) (p1 p2 p3:Pos) (sc:Scope) (pm ctv:Value) (c':Addr) (oc:Obj) (vs:Array Value) (tq:Tok)
  (g:h.get? a=some (kla_obj name qual ⟨[],[pr],none,[],[],none,[]⟩ (.Compare (.Name lamQ p1) [.NotIn] [.Name lamY p2] p3) sc [(lamY,c)] pm c' ctv)) (nb:¬ ban a)
  (g2:h.get? c'=some oc) (nb2:¬ ban c') (h1:oc.data=.fields vs) (h2:vs[1]?=some (.str qual tq)) (h3:pr.arg=lamQ) (h4:sc.names=[(lamQ,.local),(lamY,.free)]) (h5:sc.kind=.function) (h6:sc.isGenerator=false) (h7:sc.isCoroutine=false)
section
variable {W:Wd} {h h':Heap} {ban ban':Addr->Prop} {r r':Rho} {v:Value} {us:List Value} {x:V} {xs:List V} {a c:Addr}
theorem CloFn.step (X:Ex h ban h' ban') (q:CloFn h ban a c):CloFn h' ban' a c:=by
 cases q with
 | mk name qual pr p1 p2 p3 sc pm ctv c' oc vs tq g nb g2 nb2 h1 h2 h3 h4 h5 h6 h7=>exact ⟨name,qual,pr,p1,p2,p3,sc,pm,ctv,c',oc,vs,tq,X.k nb g,X.nb nb g,X.k nb2 g2,X.nb nb2 g2,h1,h2,h3,h4,h5,h6,h7⟩
noncomputable def VV (W:Wd) (h:Heap) (ban:Addr->Prop) (r:Rho) (v:Value):V->Prop
 | .d x=>VD h ban v x
 | .ref j=>∃ a,v=.ref a/\(r[j]?=some none\/r[j]?=some (some a))
 | .inst c j=>∃ a,v=.ref a/\(r[j]?=some none\/∃ dx,r[j]?=some (some dx)/\h.get? a=some (instObj (W.ca c) dx)/\¬ ban a)
 | .clo j=>∃ a,v=.ref a/\(r[j]?=some none\/∃ c,r[j]?=some (some c)/\CloFn h ban a c)
theorem VV.step (X:Ex h ban h' ban') (l:r.le r') (q:VV W h ban r v x):VV W h' ban' r' v x:=match x,q with
 | .d u1,q=>VD.step X q
 | .ref j,q=>xea q λa e q=>⟨a,e,q.elim (λe=>.inl ((l j _ e).elim id id)) λe=>(l j _ e).elim .inr .inl⟩
 | .inst u1 u2,q=>xea q λa e q=>⟨a,e,l.at_ (λu1 p=>⟨X.k p.2 p.1,X.nb p.2 p.1⟩) q⟩
 | .clo u1,q=>xea q λa e q=>⟨a,e,l.at_ (λu1 p=>p.step X) q⟩
abbrev VVs (W:Wd) (h:Heap) (ban:Addr->Prop) (r:Rho):List Value->List V->Prop:=All2 (VV W h ban r)
theorem VVs.step (X:Ex h ban h' ban') (l:r.le r') (q:VVs W h ban r us xs):VVs W h' ban' r' us xs:=q.mono λu1 u2 z=>VV.step X l z
noncomputable def fldStr (f:Nat):Str:=match f with
 | 0=>"bridges" | 1=>"ports" | 2=>"across" | 3=>"roots" | 4=>"costs" | 5=>"one" | 6=>"other" | 7=>"delay" | 8=>"is_whole" | 9=>"rows" | 10=>"numbers" | 11=>"flying" | _=>"sent"
noncomputable def FldR (W:Wd) (h:Heap) (ban:Addr->Prop) (r:Rho) (e:DictEntry) (p:Nat×V):Prop:=(∃ t,e.key=.str (fldStr p.1) t)/\VV W h ban r e.val p.2
noncomputable def OO (W:Wd) (h:Heap) (ban:Addr->Prop) (r:Rho) (a:Addr):O->Prop
 | .list xs=>∃ us n,h.get? a=some (lstO (List.toArray us) n)/\VVs W h ban r us xs
 | .dict ks xs=>∃ es n,DR h ban a ks es n/\VVs W h ban r (es.map (·.val)) xs
 | .inst c fs=>∃ es n,h.get? a=some (dctO (List.toArray es) n)/\(fs.map (·.1)).Nodup/\(∀ p∈fs,okFld c p.1=true)/\All2 (FldR W h ban r) es fs
 | .tab=>a=401/\h.get? a=some (tabObj #[])
 | .tabD=>∃ ps,h.get? a=some (tabObj ps)
 | .cell xs=>∃ (o:Obj) (v:Value),h.get? a=some o/\o.data=.cell (some v)/\VD h ban v (.list xs)
 | .dead=>True
theorem OO.step (X:Ex h ban h' ban') (l:r.le r') (ha:∀ {o},h.get? a=some o->h'.get? a=some o) {x:O} (q:OO W h ban r a x):OO W h' ban' r' a x:=match x,q with
 | .list u1,q=>xeea q λus n e q=>⟨us,n,ha e,VVs.step X l q⟩
 | .dict u1 u2,q=>xeea q λes n D q=>⟨es,n,D.step X (ha D.at_),VVs.step X l q⟩
 | .inst u1 u2,q=>xeeaaa q λes n e nd o q=>⟨es,n,ha e,nd,o,q.mono λu1 u2 z=>⟨z.1,VV.step X l z.2⟩⟩
 | .tab,q=>⟨q.1,ha q.2⟩
 | .tabD,q=>xe q λps q=>⟨ps,ha q⟩
 | .cell u1,q=>xeeaa q λo v e d q=>⟨o,v,ha e,d,VD.step X q⟩
 | .dead,_=>aO
end
structure Room (n:Nat) (A:Around):Prop where
 hd:A.handled=none
 dep:A.depth+n < recursionLimit
 un:A.units+100 * n+100 < cLine
section
variable {n m:Nat} {A:Around}
theorem Room.room (h:Room n A) {k:Nat} (l:k<=100):A.units+k < cLine:=au (Nat.add_le_add (Nat.le_add_right _ _) l) h.un
theorem Room.units (h:Room n A):A.units < cLine:=h.room (k:=0) (Nat.zero_le _)
theorem Room.depth (h:Room n A):A.depth < recursionLimit:=au (Nat.le_add_right _ _) h.dep
theorem Room.le (h:Room n A) (l:m<=n):Room m A:=⟨h.hd,au (Nat.add_le_add_left l _) h.dep,au (Nat.add_le_add_right (Nat.add_le_add_left (Nat.mul_le_mul_left _ l) _) _) h.un⟩
theorem Room.deeper (h:Room (n+1) A) (env:Env):Room n (A.deeper env):=⟨h.hd,by show A.depth+1+n < _;rw [Nat.add_assoc,Nat.add_comm 1 n];exact h.dep,au (Nat.add_le_add_right (by show A.units+3+100 * n<=_;rw [Nat.add_assoc,Nat.mul_succ,Nat.add_comm 3];exact Nat.add_le_add_left (Nat.add_le_add_left (by decide) _) _) _) h.un⟩
end
structure EnvOK (env:Env) (ce:CE):Prop where
 kind:env.scope.kind=.function
 glo:env.globals=mainGlobals
 bui:env.builtins=builtinsNs
 var:∀ x n,slot ce x=some n->env.kindOf x=some .local\/((env.kindOf x=some .cell\/env.kindOf x=some .free)/\∃ c,env.cells.lookup x=some c)
 glob:∀ x,Internal.glob ce x=true->env.kindOf x=some .globalImplicit
 inj:∀ x y n,slot ce x=some n->slot ce y=some n->x=y
 cinj:∀ x y m n c,slot ce x=some m->slot ce y=some n->env.kindOf x≠some .local->env.kindOf y≠some .local->env.cells.lookup x=some c->env.cells.lookup y=some c->x=y
 bnd:∀ x n,slot ce x=some n->n < ce.base
 loc:∀ x n,slot ce x=some n->env.kindOf x=some .local->ce.sc.names.lookup x=some .local
 code:∀ c,ce.code=some c->env.code=.ref c
noncomputable def Reads (env:Env) (h:Heap) (x:Str) (v:Value):Prop:=
 (env.kindOf x=some .local/\∃ m,h.Ns env.locals m/\m x=some v) \/
 ((env.kindOf x=some .cell\/env.kindOf x=some .free)/\∃ c,env.cells.lookup x=some c/\h.IsCell c (some v))
noncomputable def methStr (m:Nat):Str:=match m with
 | 0=>"__init__" | 1=>"settle" | 2=>"told_at" | 3=>"way_by" | 4=>"root_port" | 5=>"role" | 6=>"roles" | 7=>"join" | 8=>"wire" | 9=>"ends" | 10=>"is_whole" | _=>"cut"
noncomputable def biVal:BI->Value
 | .range=>.type "range" | .len=>.builtin "len" | .sorted=>.builtin "sorted" | .min=>.builtin "min" | .max=>.builtin "max" | .list=>.type "list" | .set=>.type "set" | .dict=>.type "dict" | .int=>.type "int"
structure ClsOK (W:Wd) (c:Nat):Prop where
 get:plainGet W.K (W.ca c) ""=true
 hasd:hasDictIn W.K (W.ca c)=true
 set:findIn W.K (.ref (W.ca c)) "__setattr__"=some (some (.builtin "object.__setattr__"))
 over:plainOver W.K (W.ca c)=true
 makes:makesIn W.K (W.ca c)=true
 keep:keepIn W.K (.ref (W.ca c))=true
 init:findIn W.K (.ref (W.ca c)) "__init__"=some (some (.ref (W.fa (.m c 0))))
 initF:typeIn W.K (.ref (W.fa (.m c 0)))=some (.type "function")
 fld:∀ f,okFld c f=true->findIn W.K (.ref (W.ca c)) (fldStr f)=some none
 mth:∀ m,okMeth c m=true->findIn W.K (.ref (W.ca c)) (methStr m)=some (some (.ref (W.fa (.m c m))))/\isFn W.K (.ref (W.fa (.m c m)))=true/\keepIn W.K (.ref (W.fa (.m c m)))=true
structure WdOK (W:Wd):Prop where
 g:∃ mg mb,W.base.Ns mainGlobals mg/\W.base.Ns builtinsNs mb /\
  (∀ x s,gConsts.lookup x=some s->∃ t,mg x=some (.str s t)) /\
  (∀ (k:Nat) x,fnNames[k]?=some x->mg x=some (.ref (W.fa (.f k)))/\keepIn W.K (.ref (W.fa (.f k)))=true) /\
  (∀ (c:Nat) x,clsNames[c]?=some x->mg x=some (.ref (W.ca c))) /\
  (∀ (i:Nat) x b,biNames[i]?=some x->biAt[i]?=some b->mg x=none/\mb x=some (biVal b)) /\
  mg "enumerate"=none/\mb "enumerate"=some (.type "enumerate")
 big:∃ a o,1<=a/\W.base.get? a=some o
 lim:W.base.NoLimit
 kin:W.K.In W.base
 cls:∀ c,c < 3->ClsOK W c
 lam:∃ mg,W.base.Ns mainGlobals mg/\W.base.BuiltinsAt mg 401/\CodeHd W.base 403 401
abbrev no:Addr->Prop:=λu1=>False
abbrev NoE:Value->Shared->Prop:=λu1 u2=>False
structure Sg where
 ban:Addr->Prop
 r:Rho
 H:Hp
 s:Shared
structure HS (W:Wd) (σ:Sg):Prop where
 len:σ.r.length=σ.H.o.length
 gone:∀ {j:Nat},σ.r[j]?=some none->σ.H.o[j]?=some .dead
 nodup:∀ {i j:Nat} {a:Addr},σ.r[i]?=some (some a)->σ.r[j]?=some (some a)->i=j
 at_:∀ {j:Nat} {a:Addr} {o:O},σ.r[j]?=some (some a)->σ.H.o[j]?=some o->OO W σ.s.heap σ.ban σ.r a o
 bans:∀ {j:Nat} {a:Addr},σ.r[j]?=some (some a)->σ.ban a
 keep:∀ {a o},W.base.get? a=some o->σ.s.heap.get? a=some o
 lo:∀ {a},σ.ban a->W.base.get? a=none
 hi:∀ {a},σ.ban a->∃ o,σ.s.heap.get? a=some o
noncomputable abbrev Sg.at (σ:Sg) (s:Shared):Sg:=⟨σ.ban,σ.r,σ.H,s⟩
noncomputable abbrev Sg.to (σ:Sg) (h:Heap) (tk:Nat):Sg:=⟨σ.ban,σ.r,σ.H,{ σ.s with heap:=h,toks:=tk }⟩
structure Go (W:Wd) (fr:Addr->Prop) (σ τ:Sg):Prop where
 rest:∃ h tk,τ.s={ σ.s with heap:=h,toks:=tk }
 keep:∀ {a o},¬ Live σ.r a->¬ fr a->σ.s.heap.get? a=some o->τ.s.heap.get? a=some o
 bnew:∀ {a},τ.ban a->σ.ban a\/σ.s.heap.get? a=none
 bst:∀ {a o},σ.ban a->¬ Live σ.r a->σ.s.heap.get? a=some o->τ.ban a
 rho:σ.r.le τ.r
 new:∀ {a},Live τ.r a->Live σ.r a\/σ.s.heap.get? a=none
 ex:∀ {a o},σ.s.heap.get? a=some o->∃ o',τ.s.heap.get? a=some o'
 hs:HS W τ
 wle:σ.H.w<=τ.H.w
 nw:τ.H.w=σ.H.w->∀ {a o},Live σ.r a->σ.s.heap.get? a=some o->τ.s.heap.get? a=some o
 live:τ.H.w=σ.H.w->∀ {a},Live σ.r a->Live τ.r a
abbrev Gn (W:Wd) (σ τ:Sg):Prop:=Go W no σ τ
abbrev Vv (W:Wd) (σ:Sg) (v:Value) (x:V):Prop:=VV W σ.s.heap σ.ban σ.r v x
abbrev Vs (W:Wd) (σ:Sg) (us:List Value) (xs:List V):Prop:=VVs W σ.s.heap σ.ban σ.r us xs
theorem none_size (h:Heap):h.get? h.objs.size=none:=by
 cases e:h.get? h.objs.size with
 | none=>rfl
 | some o=>exact absurd (Heap.lt_size e) (Nat.lt_irrefl _)
section
variable {W:Wd} {fr fr':Addr->Prop} {σ τ υ:Sg} {a:Addr} {o:Obj} {h:Heap} {tk:Nat} {v:Value} {x:V} {us:List Value} {xs:List V} {d:D} {ds:List D}
theorem HS.liveB (S:HS W σ) (l:Live σ.r a):σ.ban a:=xe l λu1 e=>S.bans e
theorem HS.ab {G:Prop} (S:HS W σ) (b:σ.ban a) (e:σ.s.heap.get? a=none):G:=xe (S.hi b) λu1 g=>absurdS g e
theorem HS.fresh (S:HS W σ):¬ σ.ban σ.s.heap.objs.size:=λq=>S.ab q (none_size _)
theorem HS.grow (S:HS W σ) (k:∀ {a o},σ.s.heap.get? a=some o->h.get? a=some o):HS W (σ.to h tk) where
 len:=S.len
 gone:=S.gone
 nodup:=S.nodup
 at_ e f:=(S.at_ e f).step (.grow k) (.refl _) k
 bans:=S.bans
 keep e:=k (S.keep e)
 lo:=S.lo
 hi q:=xe (S.hi q) λo e=>⟨o,k e⟩
theorem Go.refl (S:HS W σ):Go W fr σ σ:=⟨⟨_,_,rfl⟩,λu1 u2 e=>e,.inl,λe u1 u2=>e,.refl _,.inl,λe=>⟨_,e⟩,S,Nat.le_refl _,λu1 u2 u3 u4 e=>e,λu1 u2 l=>l⟩
theorem Go.fresh (g:Go W fr σ τ) (e:τ.s.heap.get? a=none):σ.s.heap.get? a=none:=by
 cases q:σ.s.heap.get? a with
 | none=>rfl
 | some o=>exact xe (g.ex q) λu1 e'=>absurdS e' e
theorem Go.nlive (g:Go W fr σ τ) (n:¬ Live σ.r a) (e:σ.s.heap.get? a=some o):¬ Live τ.r a:=λl=>(g.new l).elim n (absurdS e)
theorem Go.trans' (g:Go W fr σ τ) (k:Go W fr' τ υ) (hf:∀ {x},fr' x->fr x\/σ.s.heap.get? x=none) (hl:∀ {x},fr x->¬ Live σ.r x):Go W fr σ υ where
 rest:=xee g.rest λh t e=>xee k.rest λh' t' e'=>⟨h',t',e'.trans (e▸rfl)⟩
 keep n f e:=k.keep (g.nlive n e) (λq=>(hf q).elim f (absurdS e)) (g.keep n f e)
 bnew q:=(k.bnew q).elim g.bnew λl=>.inr (g.fresh l)
 bst q n e:=xe (g.ex e) λu1 e'=>k.bst (g.bst q n e) (g.nlive n e) e'
 rho:=g.rho.trans k.rho
 new q:=(k.new q).elim g.new λl=>.inr (g.fresh l)
 ex e:=xe (g.ex e) λu1 e'=>k.ex e'
 hs:=k.hs
 wle:=aI g.wle k.wle
 nw e {a o} l q:=have w:=Nat.le_antisymm (e▸k.wle:τ.H.w<=σ.H.w) g.wle;(Classical.em (Live τ.r a)).elim (λz=>k.nw (e.trans w.symm) z (g.nw w l q)) λz=>k.keep z (λf=>(hf f).elim (λf=>hl f l) (absurdS q)) (g.nw w l q)
 live e _ l:=have w:=Nat.le_antisymm (e▸k.wle:τ.H.w<=σ.H.w) g.wle;k.live (e.trans w.symm) (g.live w l)
theorem Go.tr (g:Gn W σ τ) (k:Gn W τ υ):Gn W σ υ:=g.trans' k (λq=>q.elim) λq=>q.elim
theorem Go.mono (g:Go W fr σ τ) (h:∀ {x},fr x->fr' x):Go W fr' σ τ:={ g with keep:=λn f=>g.keep n λq=>f (h q) }
theorem Go.up (g:Gn W σ τ):Go W fr σ τ:=g.mono λz=>z.elim
theorem Go.exF (g:Go W fr σ τ) (S:HS W σ) (hb:∀ {x},fr x->σ.ban x):Ex σ.s.heap σ.ban τ.s.heap τ.ban:=⟨λn=>g.keep (λl=>n (S.liveB l)) λf=>n (hb f),g.bnew⟩
theorem Go.exn (g:Gn W σ τ) (S:HS W σ):Ex σ.s.heap σ.ban τ.s.heap τ.ban:=g.exF S λz=>z.elim
theorem Go.vvF (g:Go W fr σ τ) (S:HS W σ) (hb:∀ {x},fr x->σ.ban x) (q:Vv W σ v x):Vv W τ v x:=q.step (g.exF S hb) g.rho
theorem Go.vv (g:Gn W σ τ) (S:HS W σ) (q:Vv W σ v x):Vv W τ v x:=q.step (g.exn S) g.rho
theorem Go.vvs (g:Gn W σ τ) (S:HS W σ) (q:Vs W σ us xs):Vs W τ us xs:=VVs.step (g.exn S) g.rho q
theorem Go.grow (S:HS W σ) (k:∀ {a o},σ.s.heap.get? a=some o->h.get? a=some o):Go W fr σ (σ.to h tk):=
 ⟨⟨_,_,rfl⟩,λu1 u2=>k,.inl,λe u1 u2=>e,.refl _,.inl,λe=>⟨_,k e⟩,S.grow k,Nat.le_refl _,λu1 u2 u3 u4=>k,λu1 u2 l=>l⟩
theorem Go.toks (S:HS W σ):Go W fr σ (σ.to σ.s.heap tk):=Go.grow S id
theorem Reads.step {env:Env} {h h':Heap} {x:Str} {v:Value} (q:Reads env h x v) (hl:∀ {o},h.get? env.locals=some o->h'.get? env.locals=some o)
  (hc:∀ {c o},env.cells.lookup x=some c->env.kindOf x≠some .local->h.get? c=some o->h'.get? c=some o):Reads env h' x v:=
 q.imp (xa · λk q=>xea q λm n e=>⟨k,m,n.at' λu1=>hl,e⟩) (xa · λk q=>xea q λc e q=>xea q λo g d=>⟨k,c,e,o,hc e (λz=>k.elim (λk=>nomatch z.symm.trans k) λk=>nomatch z.symm.trans k) g,d⟩)
end
inductive EP (W:Wd) (σ:Sg) (o:V×Hp) (v:Value) (s:Shared):Prop
 | mk (ban:Addr->Prop) (r:Rho) (g:Gn W σ ⟨ban,r,o.2,s⟩) (q:Vv W ⟨ban,r,o.2,s⟩ v o.1)
noncomputable def CallOK (W:Wd) (n:Nat) (f:FId) (F:Fn):Prop:=∀ args σ A us,Room n A->HS W σ->Vs W σ us args->Ow (F args σ.H) λo=>
 ∀ R:Result->Shared->Prop,(∀ v s,EP W σ o v s->R (.ok (.ret v)) s)->codeAny W.m A (.call (.ref (W.fa f)) ⟨us,[]⟩) R σ.s
noncomputable def FnsOK (W:Wd) (n:Nat) (Φ:Fns):Prop:=∀ f F,Φ f=some F->CallOK W (n - 1) f F
structure Cx (ce:CE) where
 W:Wd
 n:Nat
 env:Env
 Φ:Fns
 hn:1<=n
 O:WdOK W
 F:FnsOK W n Φ
 N:EnvOK env ce
structure VS {ce:CE} (κ:Cx ce) (lo:Nat) (fr:Addr->Prop) (σ:Sg) (vs:Vars):Prop where
 len:vs.length=ce.base
 vars:∀ {x n X},slot ce x=some n->vs[n]?=some (some X)->∃ v,Reads κ.env σ.s.heap x v/\Vv κ.W σ v X
 loc:∃ m,σ.s.heap.Ns κ.env.locals m
 cell:∀ {x n c},slot ce x=some n->κ.env.kindOf x≠some .local->κ.env.cells.lookup x=some c->(∃ v,σ.s.heap.IsCell c v)/\c≠κ.env.locals/\σ.ban c/\¬ Live σ.r c
 locB:σ.ban κ.env.locals/\¬ Live σ.r κ.env.locals
 frL:fr κ.env.locals
 frB:∀ {a},fr a->σ.ban a/\¬ Live σ.r a
 frC:∀ {x n c},slot ce x=some n->lo<=n->κ.env.kindOf x≠some .local->κ.env.cells.lookup x=some c->fr c/\κ.env.kindOf x=some .cell
section
variable {ce:CE} {κ:Cx ce} {lo:Nat} {fr fr':Addr->Prop} {σ τ υ:Sg} {vs:Vars}
theorem Ns.get {h:Heap} {a:Addr} {m:Str->Option Value} (n:h.Ns a m):∃ o,h.get? a=some o:=let ⟨o,_,_,e,_⟩:=n;⟨o,e⟩
theorem VS.frx (T:VS κ lo fr σ vs) (S:HS κ.W σ) {x:Addr} (f:fr x):∃ o,σ.s.heap.get? x=some o:=S.hi (T.frB f).1
theorem VS.goFr (T:VS κ lo fr σ vs) (S:HS κ.W σ) (g:Go κ.W fr' σ τ) (hl:¬ fr' κ.env.locals) (hc:∀ {x n c},slot ce x=some n->κ.env.kindOf x≠some .local->κ.env.cells.lookup x=some c->¬ fr' c) (hb:∀ {a},fr' a->σ.ban a):VS κ lo fr τ vs:=
 xe T.loc λm n=>xe (Ns.get n) λoL gL=>⟨T.len,λe f=>xea (T.vars e f) λv q z=>⟨v,q.step (g.keep T.locB.2 hl) (λh k=>g.keep (T.cell e k h).2.2.2 (hc e k h)),g.vvF S hb z⟩,⟨m,n.at' λu1=>g.keep T.locB.2 hl⟩,
  λe k f=>xaaa (T.cell e k f) λc d b l=>xe c λv c=>xea c λo h1 h2=>⟨⟨v,o,g.keep l (hc e k f) h1,h2⟩,d,g.bst b l h1,g.nlive l h1⟩,
  ⟨g.bst T.locB.1 T.locB.2 gL,g.nlive T.locB.2 gL⟩,T.frL,λf=>xa (T.frB f) λb l=>xe (S.hi b) λo e=>⟨g.bst b l e,g.nlive l e⟩,T.frC⟩
theorem VS.go (T:VS κ lo fr σ vs) (S:HS κ.W σ) (g:Gn κ.W σ τ):VS κ lo fr τ vs:=T.goFr S g id (λu1 u2 u3=>id) λz=>z.elim
theorem Go.trf (g:Go κ.W fr σ τ) (k:Go κ.W fr τ υ) (T:VS κ lo fr σ vs):Go κ.W fr σ υ:=g.trans' k .inl λf=>(T.frB f).2
theorem Go.bf (g:Go κ.W fr σ τ) (S:HS κ.W σ) (T:VS κ lo fr σ vs) {v:Value} {x:V} (q:Vv κ.W σ v x):Vv κ.W τ v x:=g.vvF S (λf=>(T.frB f).1) q
structure Pt (κ:Cx ce) (lo:Nat) (σ:Sg) where
 A:Around
 fr:Addr->Prop
 vs:Vars
 R:Room κ.n A
 S:HS κ.W σ
 T:VS κ lo fr σ vs
noncomputable def Pt.go (P:Pt κ lo σ) (g:Gn κ.W σ τ):Pt κ lo τ:=⟨P.A,P.fr,P.vs,P.R,g.hs,P.T.go P.S g⟩
end
theorem post {α:Type} {M:Model} {A:Around} {t:Sem α} {P Q:α->Shared->Prop} {s:Shared} (h:wpAny M A t P NoE s) (k:∀ v s',P v s'->Q v s'):wpAny M A t Q NoE s:=
 wpAny_mono h k λu1 u2 e=>e
section
variable {W:Wd} {A:Around} {σ τ:Sg} {o:V×Hp} {v u:Value} {x y:V} {d:D} {us:List Value} {xs ys:List V} {ds:List D} {tk:Nat} {s:Shared} {h:Heap} {ban:Addr->Prop} {r:Rho}
theorem EP.here (S:HS W σ) (q:Vv W σ v x):EP W σ (x,σ.H) v σ.s:=⟨_,_,.refl S,q⟩
theorem EP.tok (S:HS W σ) (q:Vv W σ v x):EP W σ (x,σ.H) v { σ.s with toks:=tk }:=⟨_,_,.toks S,q⟩
theorem EP.from (g:Gn W σ τ) (q:EP W τ o v s):EP W σ o v s:=let ⟨b,r,k,q⟩:=q;⟨b,r,g.tr k,q⟩
theorem EP.grow (S:HS W σ) (k:∀ {a o},σ.s.heap.get? a=some o->h.get? a=some o) (q:VV W h σ.ban σ.r v x):EP W σ (x,σ.H) v { σ.s with heap:=h,toks:=tk }:=⟨_,_,.grow S k,q⟩
theorem EP.push {ob:Obj} (S:HS W σ) (q:VV W (σ.s.heap.push ob) σ.ban σ.r (.ref σ.s.heap.objs.size) x):EP W σ (x,σ.H) (.ref σ.s.heap.objs.size) { σ.s with heap:=σ.s.heap.push ob,toks:=tk }:=.grow S (λe=>ah _ e) q
theorem HS.newTup (S:HS W σ) (q:VDs σ.s.heap σ.ban us ds):VD (σ.s.heap.push { cls:=.type "tuple",data:=.seq us.toArray }) σ.ban (.ref σ.s.heap.objs.size) (.tup ds):=⟨_,us,0,rfl,am _ rfl,S.fresh,q.step (.push ..)⟩
theorem HS.newList (S:HS W σ) (q:VDs σ.s.heap σ.ban us ds):VD (σ.s.heap.push { cls:=.type "list",data:=.seq us.toArray }) σ.ban (.ref σ.s.heap.objs.size) (.list ds):=⟨_,us,0,rfl,am _ rfl,S.fresh,q.step (.push ..)⟩
section
variable {α:Type}
theorem Ow.vm {β:Type} {o:Option α} {f:α->β} {R:Value->Prop} {Q:Value->β->Prop} (h:∀ v,R v->Ow o λa=>Q v (f a)):∀ v,R v->Ow (o.map f) (Q v):=λv q=>.m (h v q)
theorem ow_dt {f:D->Option α} {Q:Value->α->Prop} (k:∀ d v,VD h ban v d->Ow (f d) (Q v)):∀ v,VV W h ban r v x->Ow (x.dt.bind f) (Q v):=λv q=>by
 cases x with
 | d d=>exact k d v q
 | _=>exact aO
theorem ow_di {f:Int->Option α} {Q:Value->α->Prop} (k:∀ i t,Ow (f i) (Q (.int i t))):∀ v,VD h ban v d->Ow (d.ii.bind f) (Q v):=λv q=>by
 cases d with
 | int i=>obtain ⟨t,rfl⟩:=q;exact k i t
 | _=>exact aO
theorem ow_dl {f:List D->Option α} {Q:Value->α->Prop} (k:∀ l a us m,h.get? a=some (lstO (List.toArray us) m)->¬ ban a->VDs h ban us l->Ow (f l) (Q (.ref a))):∀ v,VD h ban v d->Ow (d.ll.bind f) (Q v):=λv q=>by
 cases d with
 | list l=>refine xeeeaaa q λa us m e=>?_;subst e;exact k l a us m
 | _=>exact aO
theorem ow_ii {f:Int->Option α} {Q:Value->α->Prop} (k:∀ i t,Ow (f i) (Q (.int i t))):∀ v,VV W h ban r v x->Ow (x.ii.bind f) (Q v):=λv q=>by
 cases x with
 | d d=>exact ow_di k v q
 | _=>exact aO
theorem ow_ll {f:List D->Option α} {Q:Value->α->Prop} (k:∀ l a us m,h.get? a=some (lstO (List.toArray us) m)->¬ ban a->VDs h ban us l->Ow (f l) (Q (.ref a))):∀ v,VV W h ban r v x->Ow (x.ll.bind f) (Q v):=λv q=>by
 cases x with
 | d d=>exact ow_dl k v q
 | _=>exact aO
theorem ow_lle {f:List D->Option α} {g:Option α} {Q:Value->α->Prop} (k:∀ l a us m,h.get? a=some (lstO (List.toArray us) m)->¬ ban a->VDs h ban us l->Ow (f l) (Q (.ref a))) (n:∀ v,VV W h ban r v x->Ow g (Q v)):∀ v,VV W h ban r v x->Ow (x.ll.elim g f) (Q v):=λv q=>by
 cases x with
 | d d=>cases d with
  | list l=>exact ow_dl k v q
  | _=>exact n v q
 | _=>exact n v q
theorem ow_arI {f:Int->Int->Option α} {Q:Value->Value->α->Prop} (k:∀ i t j t',Ow (f i j) (Q (.int i t) (.int j t'))):∀ v,VV W h ban r v x->∀ u,VV W h ban r u y->Ow (arI f x y) (Q v u):=λv qa u qb=>by
 revert v
 refine ow_ii λi t=>?_
 revert u
 exact ow_ii λj t'=>k i t j t'
theorem ow_bb {f:Bool->Option α} {Q:Value->α->Prop} (k:∀ b,VV W h ban r (.bool b) x->Ow (f b) (Q (.bool b))):∀ v,VV W h ban r v x->Ow ((truthV x).bind f) (Q v):=λv q=>by
 cases x with
 | d d=>cases d with
  | bool b=>cases (q:v=.bool b);exact k b rfl
  | _=>exact aO
 | _=>exact aO
theorem ow_one {f:V->Option α} {Q:List Value->α->Prop} (k:∀ x u,VV W h ban r u x->Ow (f x) (Q [u])):∀ us,VVs W h ban r us xs->Ow ((one xs).bind f) (Q us):=λus q=>by
 cases xs with
 | nil=>exact aO
 | cons x xs=>cases xs with
  | nil=>exact q.consE λu u1 q e=>(e:_=[])▸k x u q
  | cons u1 u2=>exact aO
theorem ow_two {f:V×V->Option α} {Q:List Value->α->Prop} (k:∀ x y u,VV W h ban r u x->∀ w,VV W h ban r w y->Ow (f (x,y)) (Q [u,w])):∀ us,VVs W h ban r us xs->Ow ((two xs).bind f) (Q us):=λus q=>by
 cases xs with
 | nil=>exact aO
 | cons x xs=>cases xs with
  | nil=>exact aO
  | cons y xs=>cases xs with
   | nil=>obtain ⟨u,u1,rfl,q,w,u2,rfl,q',rfl⟩:=q;exact k x y u q w q'
   | cons u1 u2=>exact aO
end
theorem allM_some {α β:Type} {f:α->Option β} {g:β->α} (k:∀ x y,f x=some y->x=g y):∀ {xs:List α} {ys:List β},allM f xs=some ys->xs=ys.map g
 | [],_,e=>by cases e;rfl
 | u1::_,_,e=>bC e λy e1 e=>xea (ai.mp e) λys e2 e3=>by rw [k _ _ e1,allM_some k e2,← e3];rfl
theorem allM_all2 {α β:Type} {f:α->Option β} {R:Value->α->Prop} {R':Value->β->Prop} (k:∀ v x y,R v x->f x=some y->R' v y):∀ {xs:List α} {ys:List β} {us:List Value},All2 R us xs->allM f xs=some ys->All2 R' us ys
 | [],_,_,q,e=>by cases e;exact q
 | u1::_,_,_,q,e=>bC e λy e1 e=>xea (ai.mp e) λys e2 e3=>by subst e3;exact q.consE λu cs x r=>All2.cons (k _ _ _ x e1) (allM_all2 k r e2)
theorem dt_some {x:V} {d:D} (e:x.dt=some d):x=.d d:=by cases x <;> cases e;rfl
theorem ii_some {d:D} {n:Int} (e:d.ii=some n):d=.int n:=by cases d <;> cases e;rfl
theorem ss_some {d:D} {s:Str} (e:d.ss=some s):d=.str s:=by cases d <;> cases e;rfl
theorem ow_alls (q:VVs W h ban r us xs):Ow (alls xs) λl=>VDs h ban us l:=.of λu1 e=>.of (allM_all2 (λu1 u2 u3 q e=>by cases dt_some e;exact q) q e)
theorem ow_ints (q:VDs h ban us ds):Ow (intsOf ds) λl=>All2 IntV us l:=.of λu1 e=>allM_all2 (λu1 u2 u3 q e=>by cases ii_some e;exact q) q.all2 e
theorem ow_strs (q:VDs h ban us ds):Ow (textsOf ds) λl=>All2 (λv s=>∃ t,v=.str s t) us l:=.of λu1 e=>allM_all2 (λu1 u2 u3 q e=>by cases ss_some e;exact q) q.all2 e
theorem VDs.vvs (q:VDs h ban us ds):VVs W h ban r us (ds.map .d):=q.all2.map_right _ λu1 u2 z=>z
theorem All2.toD (q:VVs W h ban r us (ds.map .d)):VDs h ban us ds:=.of (q.of_map_right _ λu1 u2 z=>z)
theorem ow_key (q:VD h ban v d):Ow (keyOf d) λk=>KV h ban v k:=by
 cases d with
 | int n=>exact q
 | tup xs=>exact .m (xeeeaaa q λa us m e g nb q=>Ow.mono (λl z=>⟨a,us,m,e,g,nb,z⟩) (ow_ints q))
 | _=>exact aO
theorem KV.vd {k:Key} (q:KV h ban v k):VD h ban v (keyD k):=match k,q with
 | .i u1,q=>q
 | .t u1,q=>xeeeaaa q λa us m e g nb q=>⟨a,us,m,e,g,nb,.of (q.map_right D.int λu1 u2 z=>z)⟩
theorem KVs.vds {ks:List Key} (q:All2 (KV h ban) us ks):VDs h ban us (ks.map keyD):=.of (q.map_right keyD λu1 u2 z=>z.vd)
theorem small_lt {n:Nat} (h:small n=true):n < 60:=aw h
theorem lt_line {n:Nat} (h:n<=200000):n<=sizeLine:=by rw [sizeLine_eq];exact aI h (by decide)
theorem small_line {n:Nat} (h:small n=true) {k:Nat} (l:k<=100000):n+k<=sizeLine:=lt_line (Nat.add_le_add (aI (Nat.le_of_lt (small_lt h)) (by decide:60<=100000)) l)
theorem intBits_of {a:Int} (h:bitsOk a=true):Builtin.Int.intBits a<=64:=PySem.intBits_le_64 (aw (b1 h)) (aw (b2 h))
noncomputable def opOf:BOp->Operator
 | .add=>.Add | .sub=>.Sub | .mul=>.Mult | .fdiv=>.FloorDiv | .mod=>.Mod | .pow=>.Pow
theorem EP.int (S:HS W σ) {n:Int} {t:Tok}:EP W σ (.d (.int n),σ.H) (.int n t) { σ.s with toks:=tk }:=.tok S ⟨t,rfl⟩
theorem EP.bool (S:HS W σ) {b:Bool}:EP W σ (.d (.bool b),σ.H) (.bool b) { σ.s with toks:=tk }:=.tok S rfl
theorem fdiv_ok {a b:Int} {t u:Tok} (h0:0 < b) (h1:b < 9223372036854775808) (S:HS W σ):wpAny W.m A (binaryOp .FloorDiv (.int a t) (.int b u)) (EP W σ (.d (.int (a.fdiv b)),σ.H)) NoE σ.s:=by
 refine AutoIntOps.floordiv_1 (λh=>Int.ne_of_gt h0 (eq_of_beq h)) (λh=>?_) (.int S)
 have hl:b.natAbs.log2 < 63:=(Nat.log2_lt (Int.natAbs_ne_zero.mpr (Int.ne_of_gt h0))).mpr (Int.natAbs_lt_natAbs_of_nonneg_of_lt (Int.le_of_lt h0) h1)
 refine Nat.not_lt.mpr ?_ (aw (b1 h))
 show (if (b==0)=true then 0 else b.natAbs.log2 / 30+1)<=300
 split
 ·exact Nat.zero_le _
 ·exact au (Nat.div_le_self ..) (Nat.lt_trans hl (by decide))
theorem bin_ok {op:BOp} (S:HS W σ):∀ v,Vv W σ v x->∀ u,Vv W σ u y->Ow (binV op x y) λz=>wpAny W.m A (binaryOp (opOf op) v u) (EP W σ (z,σ.H)) NoE σ.s:=by
 cases op with
 | add=>
  intro v qa u qb
  revert v
  refine ow_lle (λl a us m g nb z=>?_) λv qa=>ow_arI (f:=λa b=>some (.d (.int (a+b)))) (Q:=λv u z=>wpAny W.m A (binaryOp .Add v u) (EP W σ (z,σ.H)) NoE σ.s) (λi u1 j u2=>AutoIntOps.add_0 (Q:=EP W σ (.d (.int (i+j)),σ.H)) (EP.int S)) v qa u qb
  revert u
  refine ow_ll λk b ws m' g' nb' z'=>Ow.w λh=>?_
  refine PySem.P.add_list g g' ?_ (by rw [List.size_toArray,List.size_toArray,z.length,z'.length];exact small_line (b1 h) (aI (Nat.le_of_lt (small_lt (b2 h))) (by decide)))
  exact EP.push S (x:=.d (.list (l++k))) ⟨_,us++ws,0,rfl,by rw [am _ rfl,List.append_toArray],S.fresh,VDs.step (.push ..) (.of (z.all2.append z'.all2))⟩
 | sub=>exact ow_arI λu1 u2 u3 u4=>AutoIntOps.sub_0 (.int S)
 | mul=>exact ow_arI λu1 u2 u3 u4=>Ow.w λh=>AutoIntOps.mul_0 (EP.int S) ((Bool.or_eq_true_iff.mp h).elim (λh=>.of_left (intBits_of h)) λh=>.of_right (intBits_of h))
 | fdiv=>exact ow_arI λu1 u2 u3 u4=>Ow.w λh=>fdiv_ok (aw (b1 h)) (aw (b2 h)) S
 | mod=>exact ow_arI λu1 u2 u3 u4=>Ow.w λh=>AutoIntOps.mod_1 (λz=>bne_iff_ne.mp h (eq_of_beq z)) (EP.int S)
 | pow=>
  refine ow_arI λa u1 b u2=>Ow.w λh=>?_
  cases eq_of_beq (b1 h);cases eq_of_beq (b2 h)
  exact AutoIntOps.pow_4 (by decide) (by decide) (by decide) (by decide) (by decide) (EP.int S)
end
theorem idxK_some {ks:List Key} {k:Key} {i:Nat} (h:idxK ks k=some i):ks[i]?=some k:=
 xea (List.findIdx?_eq_some_iff_getElem.mp h) λl e u1=>(ad l).trans (aN some (aw e))
theorem idxK_lt {ks:List Key} {k:Key} {i:Nat} (h:idxK ks k=some i):i < ks.length:=(aa.mp (idxK_some h)).1
theorem idxK_none {ks:List Key} {k:Key} (h:idxK ks k=none):k∉ks:=λm=>Bool.noConfusion ((List.findIdx?_eq_none_iff.mp h k m).symm.trans (aF rfl))
theorem idxK_contains {ks:List Key} {k:Key}:ks.contains k=(idxK ks k).isSome:=by
 cases e:idxK ks k with
 | none=>exact Bool.eq_false_iff.mpr λh=>idxK_none e (List.contains_iff_mem.mp h)
 | some i=>exact List.contains_iff_mem.mpr (List.mem_of_getElem? (idxK_some e))
theorem idx_of_get {ks:List Key} (nd:ks.Nodup) {k:Key} {j:Nat} (h:ks[j]?=some k):idxK ks k=some j:=by
 cases e:idxK ks k with
 | none=>exact absurd (List.mem_of_getElem? h) (idxK_none e)
 | some i=>rw [(List.getElem?_inj (idxK_lt e) nd).mp ((idxK_some e).trans h.symm)]
section
variable {W:Wd} {A:Around} {E:Value->Shared->Prop} {σ:Sg} {s:Shared} {h:Heap} {ban:Addr->Prop} {r:Rho} {a:Addr} {ks:List Key} {es:List DictEntry} {n:Nat} {prog:Program} {w:World} {v key:Value} {k:Key} {xs:List V}
theorem DR.length (D:DR h ban a ks es n):es.length=ks.length:=D.ents.length
theorem DR.sizeLe (D:DR h ban a ks es n) (hz:small ks.length=true):es.toArray.size+1<=sizeLine:=by rw [List.size_toArray,D.length];exact small_line hz (by decide)
theorem isI {v:Value} {n:Int} (q:IntV v n):(intKind prog w).is n v=true:=by obtain ⟨t,rfl⟩:=q;exact beq_self_eq_true n
theorem isI_eq {v:Value} {n m:Int} (q:IntV v n):(intKind prog w).is m v=decide (Key.i n=Key.i m):=by
 obtain ⟨t,rfl⟩:=q
 show decide (n=m)=_
 exact decide_eq_decide.mpr ⟨aN _,λe=>by cases e;rfl⟩
theorem isT {v:Value} {ns:List Int} (q:KV h ban v (.t ns)):∃ b,v=.ref b/\IsTupleKey (intKind prog w) h ns b:=
 xeeeaaa q λa us m e g u1 z=>⟨a,e,_,_,m,g,rfl,rfl,All2.ind (P:=λus ns=>ItemsAre (intKind prog w) ns us) z .nil λu1 u2 u3 u4 x u5 i=>.cons (isI x) i⟩
theorem allI {m:Int}:∀ {ks:List Key},ks.all (sameKind (.i m))=true->∃ ns:List Int,ks=ns.map Key.i
 | [],_=>⟨[],rfl⟩
 | .i m::_,h=>xe (allI (b2 h)) λns e=>⟨m::ns,by rw [e];rfl⟩
 | .t u1::_,h=>Bool.noConfusion (b1 h)
theorem allT {m:List Int}:∀ {ks:List Key},ks.all (sameKind (.t m))=true->∃ ns:List (List Int),ks=ns.map Key.t
 | [],_=>⟨[],rfl⟩
 | .t m::_,h=>xe (allT (b2 h)) λns e=>⟨m::ns,by rw [e];rfl⟩
 | .i u1::_,h=>Bool.noConfusion (b1 h)
theorem ents_tups {es:List DictEntry} {ns:List (List Int)} (q:All2 (λe n=>EntR h ban e (.t n)) es ns) :
  ∃ xs:List (List Int×Addr×Value),es=xs.map (entryOfKey (tupleKind (intKind prog w)))/\xs.map (·.1)=ns/\∀ x∈xs,(tupleKind (intKind prog w)).is h x.1 x.2.1:=
 q.ind ⟨[],rfl,rfl,nofun⟩ λe n u1 u2 x u3 i=>xeaa i λxs h1 h2 h3=>xea (isT (prog:=prog) (w:=w) x.2) λb eb ib=>
  ⟨(n,b,e.val)::xs,by rw [List.map_cons,← h1];exact aN (·::_) (show DictEntry.mk e.hash e.key e.val=_ by rw [x.1,eb];rfl),by rw [List.map_cons,h2],λy m=>(aG.mp m).elim (λe=>e▸ib) (h3 y)⟩
theorem dictFind_ok {Q:Option Nat->Shared->Prop} (hu:A.units < cLine) (D:DR s.heap ban a ks es n) (hk:ks.all (sameKind k)=true) (q:KV s.heap ban key k) (h:Q (idxK ks k) s):wpAny W.m A (dictFind a key (hashK k)) Q E s:=by
 cases k with
 | i m=>
  refine xe (allI hk) λns e=>?_
  subst e
  have en:=D.ents.of_map_right (R:=λe n=>EntR s.heap ban e (.i n)) _ λu1 u2 z=>z
  refine wpAny_dictFind_of (knd:=intKind W.prog W.w) (isI q) D.at_ rfl (λe he=>xe (en.mem (List.mem_toArray.mp he)) λn z=>⟨n,isI z.2,z.1⟩) ?_
  rw [List.findIdx?_toArray,en.findIdx? (p':=λn=>decide (Key.i n=Key.i m)) λu1 u2 z=>isI_eq z.2]
  rw [idxK,List.findIdx?_map] at h
  exact h
 | t m=>
  refine xe (allT hk) λns e=>?_
  subst e
  refine xeaa (ents_tups (prog:=W.prog) (w:=W.w) (D.ents.of_map_right (R:=λe n=>EntR s.heap ban e (.t n)) _ λu1 u2 z=>z)) λxs h1 h2 h3=>?_
  refine xea (isT (prog:=W.prog) (w:=W.w) q) λb e ib=>?_
  subst e
  have at_:∀ {i:Nat} {x},xs[i]?=some x->(ns.map Key.t)[i]?=some (.t x.1):=λe=>by rw [← h2,List.getElem?_map,List.getElem?_map,e];rfl
  refine wpAny_dictFind_heap (knd:=tupleKind (intKind W.prog W.w)) (k:=m) hu ib D.at_ rfl h1 h3 (h2▸(List.pairwise_map.mp D.nodup).imp λh e=>h (aN _ e)) (λhno=>?_) λj p hj=>?_
  ·cases e:idxK (ns.map Key.t) (.t m) with
   | none=>exact e▸h
   | some i=>
    have l:i < xs.length:=by have:=idxK_lt e;rwa [aB,← h2,aB] at this
    have g:=ad l
    have z:=(at_ g).symm.trans (idxK_some e)
    cases z
    exact absurd g (hno i _)
  ·exact (idx_of_get D.nodup (at_ hj))▸h
theorem pyHash_ok {Q:Int->Shared->Prop} (hu:A.units < cLine) (q:KV s.heap ban key k) (h:∀ tk,Q (hashK k) { s with toks:=tk }):wpAny W.m A (pyHash key) Q E s:=by
 cases k with
 | i m=>exact (intKind W.prog W.w).pyHash (isI q) (h _)
 | t m=>
  refine xea (isT (prog:=W.prog) (w:=W.w) q) λb e ib=>?_
  subst e
  exact (tupleKind (intKind W.prog W.w)).pyHash hu ib (h _)
theorem dictGet_ok {Q:Option Value->Shared->Prop} (hu:A.units < cLine) (D:DR s.heap ban a ks es n) (hk:ks.all (sameKind k)=true) (q:KV s.heap ban key k)
  (h:∀ tk,Q (getK ks (es.map (·.val)) k) { s with toks:=tk }):wpAny W.m A (dictGet a key) Q E s:=by
 unfold dictGet
 refine aH (aL (pyHash_ok hu q λtk=>aL (dictFind_ok (s:={ s with toks:=tk }) hu D hk q ?_)))
 have h:=h tk
 unfold getK at h
 cases e:idxK ks k with
 | none=>rw [e] at h;exact aM h
 | some i=>
  rw [e] at h
  refine aL (wpAny_dictEntries (s:={ s with toks:=tk }) D.at_ rfl (aM ?_))
  rw [List.getElem?_toArray]
  exact (List.getElem?_map (f:=(·.val)) (l:=es) (i:=i))▸h
theorem DR.val {α:Type} {R:Value->α->Prop} {xs:List α} (D:DR h ban a ks es n) (q:All2 R (es.map (·.val)) xs):(∀ z,getK ks xs k=some z->∃ v,getK ks (es.map (·.val)) k=some v/\R v z)/\(getK ks xs k=none->getK ks (es.map (·.val)) k=none):=by
 unfold getK
 cases e:idxK ks k with
 | none=>exact ⟨nofun,λu1=>rfl⟩
 | some i=>
  have l:i < xs.length:=by rw [← q.length,aB,D.length];exact idxK_lt e
  exact ⟨λz=>q.get,λz=>noR ((ad l).symm.trans z)⟩
theorem dctO_mod (es:List DictEntry) (n:Nat) (i:Nat) (v:Value):Obj.mapDict (·.modify i λe=>{ e with val:=v }) (dctO es.toArray n)=dctO (es.modify i λe=>{ e with val:=v }).toArray n:=by
 show dctO (es.toArray.modify i λe=>{ e with val:=v }) n=_
 rw [List.modify_toArray]
theorem dctO_push (es:List DictEntry) (n:Nat) (e:DictEntry):Obj.mapDictKeys (·.push e) (dctO es.toArray n)=dctO (es++[e]).toArray (n+1):=by
 show dctO (es.toArray.push e) (n+1)=_
 rw [List.push_toArray]
theorem er_toArray {α:Type} {l:List α} {i:Nat} (h:i < l.length):l.toArray.eraseIdxIfInBounds i=(l.eraseIdx i).toArray:=by
 unfold Array.eraseIdxIfInBounds
 rw [dif_pos (show i < l.toArray.size from h),List.eraseIdx_toArray]
theorem dctO_erase (es:List DictEntry) (n:Nat) {i:Nat} (h:i < es.length):Obj.mapDictKeys (·.eraseIdxIfInBounds i) (dctO es.toArray n)=dctO (es.eraseIdx i).toArray (n+1):=by
 show dctO (es.toArray.eraseIdxIfInBounds i) (n+1)=_
 rw [er_toArray h]
theorem upd_const {h:Heap} {a:Addr} {o o':Obj} {f:Obj->Obj} (g:h.get? a=some o) (e:f o=o'):h.update a f=h.update a λu1=>o':=by
 have g:=(Heap.get?_some_iff.mp g).1
 obtain ⟨objs,life⟩:=h
 refine aN (Heap.mk · life) (Array.ext_getElem? λi=>?_)
 rw [Array.getElem?_modify,Array.getElem?_modify]
 split
 ·rename_i e';subst e';exact g▸aN some e
 ·rfl
noncomputable def storeE (es:List DictEntry) (ks:List Key) (k:Key) (key v:Value):List DictEntry:=(idxK ks k).elim (es++[⟨hashK k,key,v⟩]) λi=>es.modify i λe=>{ e with val:=v }
theorem dictSetHashed_ok {Q:Unit->Shared->Prop} (hu:A.units < cLine) (D:DR s.heap ban a ks es n) (hk:ks.all (sameKind k)=true) (q:KV s.heap ban key k) (hz:small ks.length=true)
  (h:∀ m,Q () { s with heap:=s.heap.update a λu1=>dctO (storeE es ks k key v).toArray m }):wpAny W.m A (dictSetHashed a key (hashK k) v) Q E s:=by
 unfold dictSetHashed
 refine aH (aL (dictFind_ok hu D hk q ?_))
 unfold storeE at h
 cases e:idxK ks k with
 | some i=>
  rw [e] at h
  refine aL (wpAny_rule (aL (wpAny_updateDict D.at_ rfl (wpAny_point ?_) (by simp))))
  rw [upd_const D.at_ (dctO_mod es n i v)]
  exact h n
 | none=>
  rw [e] at h
  refine aL (wpAny_rule (wpAny_updateDictKeys D.at_ rfl ?_ (Nat.le_of_succ_le (D.sizeLe hz))))
  rw [upd_const D.at_ (dctO_push es n _)]
  exact h (n+1)
theorem store_ents (D:DR h ban a ks es n) (q:KV h ban key k):All2 (EntR h ban) (storeE es ks k key v) (setK ks xs k y).1/\((setK ks xs k y).1).Nodup:=by
 unfold storeE setK
 cases e:idxK ks k with
 | some i=>exact ⟨D.ents.modify (f:=λe=>{ e with val:=v }) (λu1 u2 z=>z) i,D.nodup⟩
 | none=>exact ⟨D.ents.append (.one ⟨rfl,q⟩),az.mpr ⟨D.nodup,List.pairwise_singleton _ _,λx m y m' e'=>idxK_none e ((ao.mp m')▸e'▸m)⟩⟩
end
section
variable {W:Wd} {A:Around} {E:Value->Shared->Prop} {σ:Sg} {a:Addr} {fr:Addr->Prop} {j:Nat} {o:Obj} {x:O} {tk:Nat} {v:Value} {y:V}
theorem Go.put {ob:Obj} (S:HS W σ) (hj:σ.r[j]?=some (some a)) (ho:∃ o,σ.s.heap.get? a=some o) (hf:ob.isFreed=false)
  (q:OO W (σ.s.heap.update a λu1=>ob) σ.ban σ.r a x):Gn W σ ⟨σ.ban,σ.r,σ.H.put j x,{ σ.s with heap:=σ.s.heap.update a λu1=>ob,toks:=tk }⟩:=by
 have same:∀ {b o},b≠a->σ.s.heap.get? b=some o->(σ.s.heap.update a λu1=>ob).get? b=some o:=λe z=>(Heap.get?_update_other _ _ (Ne.symm e)).trans z
 have nl:∀ {b},¬ Live σ.r b->b≠a:=λn e=>n ⟨j,e▸hj⟩
 have nb:∀ {b},¬ σ.ban b->b≠a:=λn e=>n (e▸S.bans hj)
 have ex:∀ {b o},σ.s.heap.get? b=some o->∃ o',(σ.s.heap.update a λu1=>ob).get? b=some o':=λ{b o} e=>(Classical.em (b=a)).elim (λz=>by subst z;exact ⟨_,Heap.get?_update_self _ e hf⟩) λz=>⟨o,same z e⟩
 have X:Ex σ.s.heap σ.ban (σ.s.heap.update a λu1=>ob) σ.ban:=⟨λn e=>same (nb n) e,.inl⟩
 exact ⟨⟨_,_,rfl⟩,λn u1 e=>same (nl n) e,.inl,λe u1 u2=>e,.refl _,.inl,ex,
  ⟨by rw [S.len];exact (List.length_set ..).symm,λ{i} e=>(List.getElem?_set_ne λz=>by rw [← z,hj] at e;cases e).trans (S.gone e),S.nodup,λ{i b o'} e f=>by
   have f:(σ.H.o.set j x)[i]?=some o':=f
   by_cases z:j=i
   ·subst z
    rw [List.getElem?_set_self (by rw [← S.len];exact (aa.mp hj).1)] at f
    cases f;cases hj.symm.trans e;exact q
   ·rw [List.getElem?_set_ne z] at f
    exact (S.at_ e f).step X (.refl _) (same λw=>z (S.nodup hj (w▸e))),S.bans,λe=>same (λz=>absurdS e (z▸S.lo (S.bans hj))) (S.keep e),S.lo,λb=>xe (S.hi b) λu1 e=>ex e⟩,
  Nat.le_succ _,λe=>absurd e (Nat.succ_ne_self _),λe=>absurd e (Nat.succ_ne_self _)⟩
theorem pushed {α:Type} {l:List α} {y x:α} {i:Nat} (e:(l++[y])[i]?=some x):l[i]?=some x\/i=l.length/\x=y:=by
 rcases Nat.lt_or_ge i l.length with h | h
 ·exact .inl ((List.getElem?_append_left h).symm.trans e)
 ·rw [List.getElem?_append_right h] at e
  refine .inr ?_
  cases hk:i - l.length with
  | zero=>rw [hk] at e;exact ⟨Nat.le_antisymm (Nat.sub_eq_zero_iff_le.mp hk) h,(aE e).symm⟩
  | succ=>rw [hk] at e;cases e
theorem push_at {α:Type} (l:List α) (y:α):(l++[y])[l.length]?=some y:=by rw [List.getElem?_append_right (Nat.le_refl _),Nat.sub_self];rfl
theorem HS.adopt {τ:Sg} (S:HS W τ) (ha:τ.ban a) (hl:¬ Live τ.r a) (q:OO W τ.s.heap τ.ban τ.r a x):HS W ⟨τ.ban,τ.r++[some a],τ.H.new x,τ.s⟩:=by
 have l:=Rho.le.push τ.r (some a)
 have up:∀ {o b},OO W τ.s.heap τ.ban τ.r b o->OO W τ.s.heap τ.ban (τ.r++[some a]) b o:=λq=>q.step (.grow id) l id
 refine { len:=?_,gone:=λe=>(pushed e).elim (λe=>getA _ (S.gone e)) λe=>(nomatch e.2),nodup:=λ{i j b} e f=>?_,at_:=λ{i b o} e f=>?_,bans:=λ{i b} e=>(pushed e).elim S.bans λe=>by cases e.2;exact ha,keep:=S.keep,lo:=S.lo,hi:=S.hi }
 ·show (τ.r++[some a]).length=(τ.H.o++[x]).length
  rw [aq,aq,S.len];rfl
 ·rcases pushed e with e | ⟨e1,e⟩ <;> rcases pushed f with f | ⟨f1,f⟩
  ·exact S.nodup e f
  ·cases f;exact absurd ⟨_,e⟩ hl
  ·cases e;exact absurd ⟨_,f⟩ hl
  ·exact e1.trans f1.symm
 ·rcases pushed e with e | ⟨e1,e⟩ <;> rcases pushed (l:=τ.H.o) f with f | ⟨f1,f⟩
  ·exact up (S.at_ e f)
  ·have:=(aa.mp e).1;rw [f1,← S.len] at this;exact absurd this (Nat.lt_irrefl _)
  ·have:=(aa.mp f).1;rw [e1,S.len] at this;exact absurd this (Nat.lt_irrefl _)
  ·cases e;subst f;exact up q
theorem Go.adopt {τ:Sg} {H':Hp} (g:Gn W σ τ) (fa:σ.s.heap.get? a=none) (ha:τ.ban a) (hl:¬ Live τ.r a) (q:OO W τ.s.heap τ.ban τ.r a x) (hH:H'=τ.H.new x):Gn W σ ⟨τ.ban,τ.r++[some a],H',τ.s⟩/\Vv W ⟨τ.ban,τ.r++[some a],H',τ.s⟩ (.ref a) (.ref τ.H.o.length):=by
 subst hH
 exact ⟨⟨g.rest,g.keep,g.bnew,g.bst,g.rho.trans (Rho.le.push τ.r (some a)),λ⟨i,e⟩=>(pushed e).elim (λe=>g.new ⟨i,e⟩) λe=>.inr (by cases e.2;exact fa),g.ex,g.hs.adopt ha hl q,g.wle,g.nw,λe u1 l=>xe (g.live e l) λi e=>⟨i,getA _ e⟩⟩,a,rfl,.inr (g.hs.len▸push_at ..)⟩
theorem Go.moreP {P:Addr->Prop} {h1:Heap} (S:HS W σ) (k:∀ {a o},σ.s.heap.get? a=some o->h1.get? a=some o) (hw:∀ {b},P b->σ.s.heap.get? b=none/\∃ o,h1.get? b=some o):Gn W σ ⟨λa=>σ.ban a\/P a,σ.r,σ.H,{ σ.s with heap:=h1,toks:=tk }⟩:=
 have X:Ex σ.s.heap σ.ban h1 λa=>σ.ban a\/P a:=⟨λu1=>k,λe=>e.imp id λm=>(hw m).1⟩
 ⟨⟨_,_,rfl⟩,λu1 u2=>k,X.b,λe u1 u2=>.inl e,.refl _,.inl,λe=>⟨_,k e⟩,
  ⟨S.len,S.gone,S.nodup,λe f=>(S.at_ e f).step X (.refl _) k,λe=>.inl (S.bans e),λe=>k (S.keep e),λe=>e.elim S.lo λm=>by
   cases q:W.base.get? _ with
   | none=>rfl
   | some o=>exact absurdS (S.keep q) (hw m).1,λe=>e.elim (λe=>xe (S.hi e) λo g=>⟨o,k g⟩) λm=>(hw m).2⟩,Nat.le_refl _,λu1 u2 u3 u4=>k,λu1 u2 l=>l⟩
theorem Go.more {wr:List Addr} {h1:Heap} (S:HS W σ) (k:∀ {a o},σ.s.heap.get? a=some o->h1.get? a=some o) (hw:∀ b∈wr,σ.s.heap.get? b=none/\∃ o,h1.get? b=some o):Gn W σ ⟨λa=>σ.ban a\/a∈wr,σ.r,σ.H,{ σ.s with heap:=h1,toks:=tk }⟩:=Go.moreP S k λm=>hw _ m
theorem Go.close {τ:Sg} {wr:List Addr} {h':Heap} (g:Go W fr σ τ) (hn:∀ {b},b∈wr->σ.s.heap.get? b=none) (hl:∀ {b},b∈wr->¬ Live τ.r b) (hb:∀ {b},b∈wr->τ.ban b)
  (k:∀ {b o},b∉wr->τ.s.heap.get? b=some o->h'.get? b=some o):Go W fr σ ⟨λa=>τ.ban a/\a∉wr,τ.r,τ.H,{ τ.s with heap:=h',toks:=tk }⟩:=
 have S:=g.hs
 have no_:∀ {b o},σ.s.heap.get? b=some o->b∉wr:=λe m=>absurdS e (hn m)
 have X:Ex τ.s.heap τ.ban h' λa=>τ.ban a/\a∉wr:=⟨λn=>k λm=>n (hb m),λe=>.inl e.1⟩
 have lw:∀ {b},Live τ.r b->b∉wr:=λl m=>hl m l
 ⟨xee g.rest λu1 u2 e=>⟨_,_,by rw [e]⟩,λn f e=>k (no_ e) (g.keep n f e),λe=>g.bnew e.1,λq n e=>⟨g.bst q n e,no_ e⟩,g.rho,g.new,λe=>xe (g.ex e) λo e'=>⟨o,k (no_ e) e'⟩,
  ⟨S.len,S.gone,S.nodup,λe f=>(S.at_ e f).step X (.refl _) (k (lw ⟨_,e⟩)),λe=>⟨S.bans e,lw ⟨_,e⟩⟩,λe=>k (λm=>absurdS e (S.lo (hb m))) (S.keep e),λe=>S.lo e.1,λe=>xe (S.hi e.1) λo q=>⟨o,k e.2 q⟩⟩,
  g.wle,λe u1 u2 l q=>k (no_ q) (g.nw e l q),g.live⟩
theorem HS.obj {G:Value->Prop} (S:HS W σ) (h:σ.H.o[j]?=some x) (hd:x≠.dead) (q:Vv W σ v (.ref j)) (k:∀ a,σ.r[j]?=some (some a)->OO W σ.s.heap σ.ban σ.r a x->G (.ref a)):G v:=by
 refine xea q λa e z=>?_
 subst e
 exact z.elim (λe=>absurd (aE (h.symm.trans (S.gone e))) hd) λe=>k a e (S.at_ e h)
theorem IsL.list {h:Heap} {a:Addr} {vs:Array Value} {n:Nat} (e:h.get? a=some (lstO vs n)):h.IsList a vs:=⟨_,e,rfl,n,rfl⟩
section
variable {α:Type}
theorem ow_lsAt {f:Nat×List V->Option α} {Q:Value->α->Prop} (S:HS W σ) (k:∀ (j:Nat) xs a us m,σ.r[j]?=some (some a)->σ.s.heap.get? a=some (lstO (List.toArray us) m)->Vs W σ us xs->Ow (f (j,xs)) (Q (.ref a))):∀ v,Vv W σ v y->Ow ((lsAt y σ.H).bind f) (Q v):=λv q=>by
 cases y with
 | ref j=>
  unfold lsAt
  show Ow (((σ.H.o[j]?).bind _).bind f) _
  cases e:σ.H.o[j]? with
  | none=>exact aO
  | some o=>cases o with
   | list xs=>exact S.obj (G:=λv=>Ow (f (j,xs)) (Q v)) e nofun q λa r z=>xeea z λus m g z=>k j xs a us m r g z
   | _=>exact aO
 | _=>exact aO
theorem ow_dcAt {f:Nat×List Key×List V->Option α} {Q:Value->α->Prop} (S:HS W σ) (k:∀ (j:Nat) ks xs a es m,σ.r[j]?=some (some a)->DR σ.s.heap σ.ban a ks es m->Vs W σ (es.map (·.val)) xs->Ow (f (j,ks,xs)) (Q (.ref a))):∀ v,Vv W σ v y->Ow ((dcAt y σ.H).bind f) (Q v):=λv q=>by
 cases y with
 | ref j=>
  unfold dcAt
  show Ow (((σ.H.o[j]?).bind _).bind f) _
  cases e:σ.H.o[j]? with
  | none=>exact aO
  | some o=>cases o with
   | dict ks xs=>exact S.obj (G:=λv=>Ow (f (j,ks,xs)) (Q v)) e nofun q λa r z=>xeea z λus m g z=>k j ks xs a us m r g z
   | _=>exact aO
 | _=>exact aO
theorem ow_see {o:Option α} {f:D->Option α} {g:O->Option α} {Q:Value->α->Prop} (S:HS W σ) (ho:o=match y with | .d x=>f x | .ref j=>(σ.H.o[j]?).bind g | _=>none)
  (kd:∀ x v,VD σ.s.heap σ.ban v x->Ow (f x) (Q v)) (ko:∀ (j:Nat) x a,x≠.dead->σ.r[j]?=some (some a)->OO W σ.s.heap σ.ban σ.r a x->Ow (g x) (Q (.ref a))) (hg:g .dead=none):∀ v,Vv W σ v y->Ow o (Q v):=λv q=>by
 subst ho
 cases y with
 | d x=>exact kd x v q
 | ref j=>
  refine Ow.be λx e=>?_
  by_cases hd:x=.dead
  ·subst hd;rw [hg];exact aO
  ·exact S.obj (G:=λv=>Ow (g x) (Q v)) e hd q λa r z=>ko j x a hd r z
 | _=>exact aO
end
section
variable {α:Type} {R:Value->α->Prop} {T:α->V} {xs:List α} {k:D} {n:Nat}
theorem dictItem_ok {ks:List Key} {es:List DictEntry} (hu:A.units+1 < cLine) (S:HS W σ) (D:DR σ.s.heap σ.ban a ks es n) (qv:All2 R (es.map (·.val)) xs) (hR:∀ {v x},R v x->Vv W σ v (T x)) {u:Value} (qk:VD σ.s.heap σ.ban u k) :
  Ow (getD ks xs k) λz=>wpAny W.m A (getItem (.ref a) u) (EP W σ (T z,σ.H)) NoE σ.s:=by
 refine Ow.b (Ow.mono (λk qk=>Ow.w λhk=>Ow.of λz hz=>?_) (ow_key qk))
 have ht:σ.s.TypeIs (.ref a) "dict":=⟨_,D.at_,rfl⟩
 unfold getItem
 refine aH (aL (wpAny_sequenceKey ht (by decide) (aL (wpAny_callSpecial?_slot (name:=Str.ofString "__getitem__") ht slot_dict_getitem (wpAny_call_entry slot_dict_getitem ht entry_dict_getitem ?_ (args_dict_getitem _ _))))))
 show wpAny _ _ (dictGet a u>>=_) _ _ _
 refine aL (dictGet_ok hu D hk qk λtk=>?_)
 refine xea ((D.val qv).1 z hz) λv e q=>?_
 rw [e]
 exact aM ⟨v,rfl,aM (.tok S (hR q))⟩
theorem listItem_ok {us:List Value} (S:HS W σ) (g:σ.s.heap.get? a=some (lstO (List.toArray us) n)) (qv:All2 R us xs) (hR:∀ {v x},R v x->Vv W σ v (T x)):∀ u,VD σ.s.heap σ.ban u k->Ow (idxL xs k) λz=>wpAny W.m A (getItem (.ref a) u) (EP W σ (T z,σ.H)) NoE σ.s:=
 ow_di (Q:=λu z=>wpAny W.m A (getItem (.ref a) u) (EP W σ (T z,σ.H)) NoE σ.s) λi t=>Ow.w λh=>Ow.of λz e=>xea (qv.get e) λv e2 q=>
  wpAny_getItem_list (IsL.list g) (aw (b1 h)) (Int.lt_trans (aw (b2 h)) (by decide)) (List.getElem?_toArray.trans e2) (.here S (hR q))
theorem seqIdx {i:Int} {m:Nat} (h:0<=i) (l:i.toNat < m):seqIndex? i m=some i.toNat:=by
 unfold seqIndex?
 rw [aP (Int.not_lt.mpr h)]
 exact aQ (ba (aF h) (aF (by lia)))
theorem tupItem_ok {us:List Value} (S:HS W σ) (g:σ.s.heap.get? a=some (tupO (List.toArray us) n)) (qv:All2 R us xs) (hR:∀ {v x},R v x->Vv W σ v (T x)):∀ u,VD σ.s.heap σ.ban u k->Ow (idxL xs k) λz=>wpAny W.m A (getItem (.ref a) u) (EP W σ (T z,σ.H)) NoE σ.s:=
 ow_di (Q:=λu z=>wpAny W.m A (getItem (.ref a) u) (EP W σ (T z,σ.H)) NoE σ.s) λi t=>Ow.w λh=>Ow.of λz e=>xea (qv.get e) λv e2 q=>
  P.getItem_tuple g (Int.le_trans (by decide) (aw (b1 h))) (Int.lt_trans (aw (b2 h)) (by decide)) (seqIdx (aw (b1 h)) (by rw [List.size_toArray];exact (aa.mp e2).1)) (List.getElem?_toArray.trans e2) (.here S (hR q))
end
theorem item_ok {x':V} (hu:A.units+1 < cLine) (S:HS W σ):∀ v,Vv W σ v x'->∀ u,Vv W σ u y->Ow (itemV x' y σ.H) λz=>wpAny W.m A (getItem v u) (EP W σ (z,σ.H)) NoE σ.s:=by
 intro v q u
 revert u
 refine ow_dt λk u qu=>?_
 revert v
 refine ow_see (f:=λx=>(itemD k x).map .d) (g:=λo=>itemO k o) S rfl (λx=>?_) (λj x a hd r z=>?_) rfl
 ·cases x with
  | list xs=>exact λv q=>xeeeaaa q λa us m e g nb z=>by subst e;exact Ow.m (listItem_ok (T:=.d) S g z.all2 id _ qu)
  | tup xs=>exact λv q=>xeeeaaa q λa us m e g nb z=>by subst e;exact Ow.m (tupItem_ok (T:=.d) S g z.all2 id _ qu)
  | dict ks xs=>exact λv q=>xeeeaaa q λa es m e D nb z=>by subst e;exact Ow.m (dictItem_ok (T:=.d) hu S D z.all2 id qu)
  | _=>exact λu1 u2=>aO
 ·cases x with
  | list xs=>exact xeea z λus m g z=>listItem_ok (T:=id) S g z id _ qu
  | dict ks xs=>exact xeea z λes m D z=>dictItem_ok (T:=id) hu S D z id qu
  | _=>exact aO
end
section
variable {W:Wd} {A:Around} {E:Value->Shared->Prop} {s:Shared} {h:Heap} {ban ban':Addr->Prop} {v u:Value} {x y:D}
theorem VD.reads (q:VD h ban v x):x.py.canLay0=true->∃ as,PySem.Reads h v x.py as:=
 D.rec (motive_1:=λx=>∀ v,VD h ban v x->x.py.canLay0=true->∃ as,PySem.Reads h v x.py as) (motive_2:=λxs=>∀ vs,VDs h ban vs xs->PyData.canLayAll0 (pys xs)=true->∃ as,ReadsAll h vs (pys xs) as)
  (λu1 q u2=>by subst q;exact ⟨_,.none⟩) (λb u1 q u2=>by subst q;exact ⟨_,.bool b⟩) (λi u1 q u2=>xe q λt e=>by subst e;exact ⟨_,.int i t⟩) (λx u1 q u2=>xe q λt e=>by subst e;exact ⟨_,.str x t⟩)
  (λxs i v q c=>xeeeaaa q λa us n e g u1 z=>by subst e;exact xe (i us z c) λas z=>⟨as,.tuple g rfl rfl z⟩) (λxs i v q c=>xeeeaaa q λa us n e g u1 z=>by subst e;exact xe (i us z c) λas z=>⟨_,.list g rfl rfl z⟩)
  (λu1 u2 u3 u4 u5=>nofun) (λu1 u2 u3=>nofun) (λu1 u2 u3=>nofun) (λu1 q u2=>by subst q;exact ⟨_,.nil⟩)
  (λu1 u2 i j us q c=>xeeaa q λu vs e z r=>by subst e;exact xe (i u z (b1 c)) λas z=>xe (j vs r (b2 c)) λbs y=>⟨_,.cons z y⟩) x v q
theorem eqD_with {Q:Bool->Prop} (qv:VD s.heap ban v x) (qu:VD s.heap ban' u y) (k:∀ as bs,PySem.Reads s.heap v x.py as->PySem.Reads s.heap u y.py bs->SeqAt.shaped x.py=true->SeqAt.shaped y.py=true->Q (PyData.eqv x.py y.py)):Ow (eqD x y) Q:=
 .w λc=>have h1:SeqAt.shaped x.py=true:=b1 c;have h2:SeqAt.shaped y.py=true:=b2 c
  xe (qv.reads (SeqAt.canLay_of_shaped h1)) λas ra=>xe (qu.reads (SeqAt.canLay_of_shaped h2)) λbs rb=>k as bs ra rb h1 h2
theorem eqBool_ok (hu:A.units+64 < cLine) (qv:VD s.heap ban v x) (qu:VD s.heap ban' u y):Ow (eqD x y) λb=>∀ {Q:Bool->Shared->Prop},Q b s->wpAny W.m A (eqBool v u) Q E s:=
 eqD_with qv qu λas bs ra rb h1 h2 u1 h=>SeqAt.eqAt_reads _ _ A s v u as bs ra rb (SeqAt.canLay_of_shaped h1) (SeqAt.canLay_of_shaped h2) (SeqAt.room_of_shaped h1 hu) W.prog W.w E _ h
theorem lt_sub {a b l m:Nat} {k:Int} (h1:(a:Int) - b=k) (h2:k=l - m):l < m↔a < b:=by
 have e:∀ {x y:Nat},x < y↔(x:Int) - y < 0:=⟨λh=>Int.sub_neg_of_lt (Int.ofNat_lt.mpr h),λh=>Int.ofNat_lt.mp (Int.lt_of_sub_neg h)⟩
 rw [e,e,h1,h2]
inductive LtI (h:Heap) (ban ban':Addr->Prop) (n:Nat) (b:Bool) (k:Int) (rest:List (Value×Value)):Prop
 | mk (xs ys:List D) (vs us:List Value) (hr:rest=List.zip vs us) (q:VDs h ban vs xs) (q':VDs h ban' us ys) (e:ltDs (ltD n) xs ys=some b) (l:(vs.length:Int) - us.length=k)
theorem LtI.fin {n:Nat} {b:Bool} {k:Int} (I:LtI h ban ban' n b k []) {l m:Nat} (hk:k=l - m):Builtin.Tuple.tupleCompareSizes .Lt l m=.bool b:=by
 cases I with
 | mk xs ys vs us hr q q' e hl=>
  have:decide (vs.length < us.length)=b:=by
   cases xs with
   | nil=>
    cases (q:vs=[]);cases e
    rw [q'.length]
    cases ys <;> rfl
   | cons x xs=>
    refine xeeaa q λv vs' ev u1 u2=>?_
    subst ev
    cases ys with
    | nil=>cases (q':us=[]);cases e;rfl
    | cons y ys=>refine xeeaa q' λu us' eu u1 u2=>?_;subst eu;cases hr
  rw [← this]
  exact aN Value.bool (decide_eq_decide.mpr (lt_sub hl hk))
theorem LtI.turn {n:Nat} {b:Bool} {p q:Value} {k:Int} {rest:List (Value×Value)} (I:LtI h ban ban' n b k ((p,q)::rest)):∃ x y,VD h ban p x/\VD h ban' q y/\∃ eb,eqD x y=some eb/\if eb then LtI h ban ban' n b k rest else ltD n x y=some b:=by
 cases I with
 | mk xs ys vs us hr z z' e hl=>
  cases xs with
  | nil=>cases (z:vs=[]);cases hr
  | cons x xs=>
   refine xeeaa z λv vs' ev qx r=>?_
   subst ev
   cases ys with
   | nil=>cases (z':us=[]);cases hr
   | cons y ys=>
    refine xeeaa z' λu us' eu qy r'=>?_
    subst eu
    cases hr
    refine bC e λeb e1 e2=>⟨x,y,qx,qy,eb,e1,?_⟩
    cases eb with
    | true=>exact ⟨xs,ys,vs',us',rfl,r,r',e2,by rw [← hl];simp only [List.length_cons];lia⟩
    | false=>exact e2
theorem ltI2_ok {Q:Value->Shared->Prop} {b:Bool} (e:ltI2 x y=some b) (qv:VD s.heap ban v x) (qu:VD s.heap ban' u y) (h:Q (.bool b) s):wpAny W.m A (richCompare .Lt v u) Q E s:=by
 refine bC e λi e1 e=>xea (ai.mp e) λj e2 e3=>?_
 cases ii_some e1;cases ii_some e2
 refine xe qv λt ev=>xe qu λt' eu=>?_
 subst ev;subst eu;subst e3
 exact wpAny_lt_int h
theorem lt_ok:∀ (n:Nat) {A:Around} {v u:Value} {x y:D} {b:Bool} {Q:Value->Shared->Prop},ltD n x y=some b->A.units+n+64 < cLine->VD s.heap ban v x->VD s.heap ban' u y->Q (.bool b) s->wpAny W.m A (richCompare .Lt v u) Q E s:=by
 intro n
 induction n with
 | zero=>exact λe u1=>ltI2_ok e
 | succ n ih=>
  intro A v u x y b Q e hu qv qu h
  cases x with
  | tup xs=>
   refine bC (o:=y.tt) e λys e1 e=>?_
   cases y with
   | tup ys'=>
    cases e1
    refine xeeeaaa qv λa1 vs1 n1 ev g1 u1 q1=>xeeeaaa qu λa2 vs2 n2 eu g2 u1 q2=>?_
    subst ev;subst eu
    have t1:s.TypeIs (.ref a1) "tuple":=⟨_,g1,rfl⟩
    have hu':A.units+1+n+64 < cLine:=by rw [Nat.add_right_comm A.units 1 n];exact hu
    refine wpAny_richCompare_same_room (op:=.Lt) t1 ⟨_,g2,rfl⟩ PySem.F.slot_tuple_lt (wpAny_call_entry PySem.F.slot_tuple_lt t1 PySem.F.entry_tuple_lt ?_ (PySem.F.args_tuple_lt_2 _ _)) (by lia)
    show wpAny _ _ (isInstance (.ref a2) (.type "tuple")>>=_) _ _ s
    refine aL (wpAny_isInstance ⟨_,g2,rfl⟩ isSubtype_tuple_tuple (aL (wpAny_tupleItemsOf g1 rfl (aL (wpAny_tupleItemsOf g2 rfl (aL ?_))))))
    refine wpAny_forIn_list _ (λrest q s'=>q.1=none/\s=s'/\LtI s.heap ban ban' n b (vs1.length - vs2.length) rest) _ ?_ ?_ _ _ ⟨rfl,rfl,xs,ys,vs1,vs2,by simp,q1,q2,e,rfl⟩
    ·rintro ⟨p,q⟩ rest z s' ⟨hz,rfl,I⟩
     refine xeeaaea I.turn λx y a1' a2' eb e1 e2=>?_
     refine aL ((eqBool_ok (by show A.units+1+64 < cLine;lia) a1' a2').use e1 ?_)
     cases eb with
     | true=>exact aM ⟨rfl,rfl,e2⟩
     | false=>exact aL (wpAny_rule (aL (ih e2 hu' a1' a2' (aL (aM (aM (aM ⟨_,rfl,(λx=>nomatch x),h⟩)))))))
    ·rintro ⟨z1,z2⟩ s' ⟨hz,rfl,I⟩
     cases hz
     refine aM ⟨_,rfl,(λx=>nomatch x),?_⟩
     rw [I.fin (l:=vs1.toArray.size) (m:=vs2.toArray.size) (by rw [List.size_toArray,List.size_toArray])]
     exact h
   | _=>cases e1
  | _=>exact ltI2_ok e qv qu h
end
section
variable {W:Wd} {A:Around} {E:Value->Shared->Prop} {σ:Sg} {s:Shared} {h:Heap} {ban ban1 ban2:Addr->Prop} {r:Rho} {v u:Value}
noncomputable def PairsRes (A:Around) (s:Shared) (es2:List DictEntry) (k2:List Key):List DictEntry->List Key->Bool->Prop
 | [],_,x=>x=true
 | e::es,ks,x=>match ks with
  | []=>False
  | k::ks=>idxK k2 k=none/\x=false\/∃ j f b c,idxK k2 k=some j/\es2[j]?=some f/\SeqAt.EqAt A s e.val f.val b/\PairsRes A s es2 k2 es ks c/\x=(b&&c)
noncomputable def SpI (A:Around) (s:Shared) (es1 es2:List DictEntry) (k1 k2:List Key) (x:Bool) (rest:List Nat) (q:Option Bool×Unit) (s':Shared):Prop:=
 s=s'/\q=(none,())/\∃ i,rest=List.range' i (es1.length - i)/\PairsRes A s es2 k2 (es1.drop i) (k1.drop i) x
inductive SpC (A:Around) (s:Shared) (es1 es2:List DictEntry) (k1 k2:List Key) (x:Bool) (rest:List Nat) (e:DictEntry) (k:Key):Prop
 | no (h:idxK k2 k=none) (hx:x=false)
 | ne (j:Nat) (f:DictEntry) (h:idxK k2 k=some j) (hf:es2.toArray[j]?=some f) (hx:x=false) (hq:SeqAt.EqAt A s e.val f.val false)
 | eq (j:Nat) (f:DictEntry) (h:idxK k2 k=some j) (hf:es2.toArray[j]?=some f) (I:SpI A s es1 es2 k1 k2 x rest (none,()) s) (hq:SeqAt.EqAt A s e.val f.val true)
section
variable {es1 es2:List DictEntry} {k1 k2:List Key} {x:Bool} {rest:List Nat} {q:Option Bool×Unit} {s':Shared} {P:Option Bool×Unit->Shared->Prop} {y:Nat}
theorem SpI.turn (hk:All2 (EntR h ban) es1 k1) (k:∀ e k',es1.toArray[y]?=some e->EntR h ban e k'->k'∈k1->SpC A s es1 es2 k1 k2 x rest e k'->P (none,()) s) {q s'} (I:SpI A s es1 es2 k1 k2 x (y::rest) q s'):P q s':=by
 obtain ⟨rfl,rfl,i,hr,hp⟩:=I
 cases hm:es1.length - i with
 | zero=>rw [hm] at hr;cases hr
 | succ m=>
  rw [hm] at hr
  cases hr
  have l:y < es1.length:=Nat.lt_of_sub_ne_zero (hm▸Nat.succ_ne_zero m)
  have l':y < k1.length:=hk.length▸l
  rw [List.drop_eq_getElem_cons l,List.drop_eq_getElem_cons l'] at hp
  refine xea (hk.get (ad l')) λe he z=>k e k1[y] (List.getElem?_toArray.trans he) z (List.getElem_mem _) ?_
  cases (ad l).symm.trans he
  have nx:∀ {c},PairsRes A s es2 k2 (es1.drop (y+1)) (k1.drop (y+1)) c->SpI A s es1 es2 k1 k2 c (List.range' (y+1) m) (none,()) s:=λz=>⟨rfl,rfl,y+1,by rw [Nat.sub_add_eq,hm];rfl,z⟩
  rcases hp with ⟨hn,hx⟩ | ⟨j,f,b,c,hj,hf,hq,hr',hx⟩
  ·exact .no hn hx
  ·cases b with
   | false=>exact .ne j f hj (List.getElem?_toArray.trans hf) hx hq
   | true=>exact .eq j f hj (List.getElem?_toArray.trans hf) ((show x=c from hx)▸nx hr') hq
theorem SpI.fin (I:SpI A s es1 es2 k1 k2 x [] q s'):s=s'/\q=(none,())/\x=true:=by
 obtain ⟨rfl,rfl,i,hr,hp⟩:=I
 cases hm:es1.length - i with
 | zero=>
  rw [List.drop_of_length_le (Nat.sub_eq_zero_iff_le.mp hm)] at hp
  exact ⟨rfl,rfl,hp⟩
 | succ m=>rw [hm] at hr;cases hr
end
theorem samePairs_ok {nm:String} {a b:Addr} {k1 k2:List Key} {es1 es2:List DictEntry} {n1 n2:Nat} {x:Bool} {Q:Bool->Shared->Prop} (hu:A.units < cLine) (R1:DR s.heap ban1 a k1 es1 n1) (R2:DR s.heap ban2 b k2 es2 n2)
  (hk:∀ k∈k1,k2.all (sameKind k)=true) (hits:es1.length=es2.length->PairsRes A s es2 k2 es1 k1 x) (h:Q (es1.length==es2.length&&x) s):wpAny W.m A (Builtin.Dict.samePairs nm a b) Q E s:=by
 unfold Builtin.Dict.samePairs Builtin.Dict.showsAll
 rw [aP (show ¬ (a==sysModules)=true by rw [R1.sm];exact Bool.false_ne_true),aP (show ¬ (b==sysModules)=true by rw [R2.sm];exact Bool.false_ne_true)]
 refine aL (aM (aL (aM (aL (wpAny_dictEntries R1.at_ rfl (aL (wpAny_dictEntries R2.at_ rfl ?_)))))))
 by_cases hsz:es1.length=es2.length
 case neg=>
  refine wif_p (show (es1.toArray.size != es2.toArray.size)=true by rw [List.size_toArray,List.size_toArray];exact bne_iff_ne.mpr hsz) ?_
  rw [beq_false_of_ne hsz] at h
  exact aL (wpAny_rule (aM h))
 case pos=>
  have h':Q x s:=by rw [hsz,beq_self_eq_true] at h;exact h
  refine wif_n (show ¬ (es1.toArray.size != es2.toArray.size)=true by rw [List.size_toArray,List.size_toArray,hsz,bne_self_eq_false];exact Bool.false_ne_true) ?_
  refine aL (wpAny_dictEpoch R1.at_ rfl (aL ?_))
  rw [Std.Legacy.Range.forIn_eq_forIn_range']
  refine wpAny_forIn_list _ (SpI A s es1 es2 k1 k2 x) _ ?_ ?_ _ _ ⟨rfl,rfl,0,by simp [Std.Legacy.Range.size],hits hsz⟩
  ·intro y rest q s' I
   revert I
   refine SpI.turn (P:=λq s'=>wpAny W.m A _ _ E s') R1.ents ?_
   refine λe k he z hm C=>?_
   refine aL (wpAny_dictEntries R1.at_ rfl ?_)
   rw [he]
   show wpAny _ _ (holding [e.key,e.val] _>>=_) _ _ _
   rw [z.1]
   refine aL (aH (aL (dictFind_ok (ban:=λu1=>False) hu (R2.step .weak R2.at_) (hk _ hm) (z.2.step .weak) ?_)))
   cases C with
   | no hn hx=>
    rw [hn]
    exact aM (wif_p (c:=(!false)=true) rfl (aM (aM (hx▸h'))))
   | ne j f hj hf hx hq=>
    rw [hj]
    refine aL (wpAny_dictEntries R2.at_ rfl ?_)
    rw [hf]
    exact aH (hq W.prog W.w _ _ (wif_p (c:=(!false)=true) rfl (aM (aM (hx▸h')))))
   | eq j f hj hf I hq=>
    rw [hj]
    refine aL (wpAny_dictEntries R2.at_ rfl ?_)
    rw [hf]
    exact aH (hq W.prog W.w _ _ (wif_n (c:=(!true)=true) Bool.false_ne_true (aL (wpAny_dictEpoch R1.at_ rfl (wif_n (by rw [bne_self_eq_false];exact Bool.false_ne_true) (aM I))))))
  ·intro q s' I
   obtain ⟨rfl,rfl,hx⟩:=I.fin
   exact aM (hx▸h')
theorem dictEq_ok {a b:Addr} {k1 k2:List Key} {es1 es2:List DictEntry} {n1 n2:Nat} {x:Bool} {Q:Value->Shared->Prop} (hu:A.units+64 < cLine) (R1:DR s.heap ban1 a k1 es1 n1) (R2:DR s.heap ban2 b k2 es2 n2)
  (hk:∀ k∈k1,k2.all (sameKind k)=true) (hits:es1.length=es2.length->PairsRes A.in1 s es2 k2 es1 k1 x) :
  (Q (.bool (es1.length==es2.length&&x)) s->wpAny W.m A (compareOp .Eq (.ref a) (.ref b)) Q E s)/\(Q (.bool (!(es1.length==es2.length&&x))) s->wpAny W.m A (compareOp .NotEq (.ref a) (.ref b)) Q E s):=by
 have t1:s.TypeIs (.ref a) "dict":=⟨_,R1.at_,rfl⟩
 have t2:s.TypeIs (.ref b) "dict":=⟨_,R2.at_,rfl⟩
 have hu1:A.units+1 < cLine:=au (Nat.add_le_add_left (by decide) _) hu
 have args:∀ {nm} {Q:Value×Value->Shared->Prop} {E},Q (.ref a,.ref b) s->wpAny W.m A.in1 (Builtin.Dict.dictSlotArgs nm ⟨[.ref a,.ref b],[]⟩) Q E s:=λh=>by
  unfold Builtin.Dict.dictSlotArgs
  refine aL (wpAny_notOrdered_dict t1 ?_)
  exact aM h
 refine ⟨λh=>wpAny_richCompare_same_room (op:=.Eq) t1 t2 PySem.F.slot_dict_eq (wpAny_call_entry PySem.F.slot_dict_eq t1 PySem.F.entry_dict_eq (aL (args ?_)) (PySem.F.args_dict_eq_2 _ _)) (au (Nat.le_add_right _ _) hu),
  λh=>wpAny_richCompare_same_room (op:=.NotEq) t1 t2 PySem.F.slot_dict_ne (wpAny_call_entry PySem.F.slot_dict_ne t1 PySem.F.entry_dict_ne (aL (args ?_)) (PySem.F.args_dict_ne_2 _ _)) (au (Nat.le_add_right _ _) hu)⟩
 ·refine aL (wpAny_isInstance (T:="dict") t2 PySem.F.sub_dict_dict (aL (aM (aL (aM (aL (samePairs_ok hu1 R1 R2 hk hits ?_)))))))
  exact aM ⟨_,rfl,(λx=>nomatch x),by rw [beq_true];exact h⟩
 ·refine aL (wpAny_isInstance (T:="dict") t2 PySem.F.sub_dict_dict (aL (aM (aL (aM (aL (samePairs_ok hu1 R1 R2 hk hits ?_)))))))
  exact aM ⟨_,rfl,(λx=>nomatch x),by rw [beq_false];exact h⟩
end
section
variable {W:Wd} {A:Around} {E:Value->Shared->Prop} {σ:Sg} {s:Shared} {h:Heap} {ban ban1 ban2:Addr->Prop} {r:Rho} {v u:Value} {x y:V}
theorem ow_peek {α:Type} {f:D->Option α} {Q:Value->α->Prop} (S:HS W σ) (k:∀ d v,VD σ.s.heap no v d->Ow (f d) (Q v)):∀ v,Vv W σ v x->Ow ((peek x σ.H).bind f) (Q v):=
 λv q=>Ow.b (ow_see (Q:=λv d=>Ow (f d) (Q v)) (f:=some) (g:=peekO) S rfl (λd v q=>k d v (q.step .weak)) (λj x a hd r z=>match x,z with
  | .list xs,z=>xeea z λus m g z=>.m (Ow.mono (λl z=>k _ _ ⟨a,us,m,rfl,g,id,z.step .weak⟩) (ow_alls z))
  | .dict ks xs,z=>xeea z λes m D z=>.m (Ow.mono (λl z=>k _ _ ⟨a,es,m,rfl,D.step .weak D.at_,id,z.step .weak⟩) (ow_alls z))
  | .inst ..,_=>aO | .tab,_=>aO | .tabD,_=>aO | .cell _,_=>aO | .dead,_=>aO) rfl v q)
theorem pairsStrs {es2:List DictEntry} {k2:List Key} {b:List Str} (hl:k2.length=b.length) (v2:All2 (λv s=>∃ t,v=.str s t) (es2.map (·.val)) b) :
  ∀ {k1:List Key} {es1:List DictEntry} {a:List Str},k1.length=a.length->All2 (λv s=>∃ t,v=.str s t) (es1.map (·.val)) a->PairsRes A s es2 k2 es1 k1 ((k1.zip a).all λq=>(getK k2 b q.1).any λu=>q.2==u)
 | [],es1,a,hl,q=>by
  cases a with
  | nil=>cases List.map_eq_nil_iff.mp q;rfl
  | cons=>cases hl
 | k::k1,es1,a,hl1,q=>by
  cases a with
  | nil=>cases hl1
  | cons x a=>
   refine xeeaa q λv vs ev qx q=>?_
   cases es1 with
   | nil=>cases ev
   | cons e es1=>
    cases ev
    have ih:=pairsStrs hl v2 (Nat.succ.inj hl1) q
    rw [List.zip_cons_cons,List.all_cons]
    unfold getK
    cases hj:idxK k2 k with
    | none=>exact .inl ⟨hj,rfl⟩
    | some j=>
     have l:j < b.length:=hl▸idxK_lt hj
     refine xea (v2.get (ad l)) λw hw qw=>?_
     rw [List.getElem?_map] at hw
     refine xea (ai.mp hw) λf hf ef=>?_
     refine .inr ⟨j,f,x==b[j],_,hj,hf,?_,ih,by rw [Option.bind_some,ad l];rfl⟩
     refine xe qx λt1 e1=>xe qw λt2 e2=>?_
     rw [show e.val=_ from e1,ef,e2]
     exact SeqAt.EqAt.str_str _ _ _ _
theorem all_sameT {ks:List Key} (h:ks.all (sameKind (.t []))=true) {k:Key} (hk:sameKind (.t []) k=true):ks.all (sameKind k)=true:=
 List.all_eq_true.mpr λq hq=>have h:=eq_of_beq (List.all_eq_true.mp h q hq);beq_iff_eq.mpr ((eq_of_beq hk).symm.trans h)
theorem eqV_ok {Q:Bool->Value->Shared->Prop} (hu:A.units+64 < cLine) (S:HS W σ):∀ v,Vv W σ v x->∀ u,Vv W σ u y->Ow (eqV x y σ.H) λb=>(Q b (.bool b) σ.s->wpAny W.m A (compareOp .Eq v u) (Q b) E σ.s)/\(Q b (.bool (!b)) σ.s->wpAny W.m A (compareOp .NotEq v u) (Q b) E σ.s):=by
 intro v qa u qb
 revert v
 refine ow_peek S λdx v qa=>?_
 revert u
 refine ow_peek S λdy u qb=>?_
 have pl:Ow (eqD dx dy) λb=>(Q b (.bool b) σ.s->wpAny W.m A (compareOp .Eq v u) (Q b) E σ.s)/\(Q b (.bool (!b)) σ.s->wpAny W.m A (compareOp .NotEq v u) (Q b) E σ.s):=
  eqD_with qa qb λas bs ra rb h1 h2=>⟨SeqAt.compareEq_shaped ra rb h1 h2 hu,SeqAt.compareNe_shaped ra rb h1 h2 hu⟩
 cases dx with
 | dict k1 x1=>
  cases dy with
  | dict k2 x2=>
   refine xeeeaaa qa λa es1 n1 e R1 u1 q1=>xeeeaaa qb λb es2 n2 e' R2 u1 q2=>?_
   subst e;subst e'
   refine Ow.i (λh=>?_) λu1=>Ow.b (Ow.mono (λl1 z1=>Ow.b (Ow.mono (λl2 z2=>Ow.w λh=>?_) (ow_strs q2))) (ow_strs q1))
   ·cases List.isEmpty_iff.mp (b1 h)
    have l2:es2.length=0:=R2.length
    have e:(es1.length==es2.length&&true)=k1.isEmpty:=by rw [Bool.and_true,R1.length,l2];cases k1 <;> rfl
    show _/\_
    rw [← e]
    exact dictEq_ok hu R1 R2 (λu1 u2=>rfl) λz=>by cases List.length_eq_zero_iff.mp (z.trans l2);rfl
   ·have m1:=R1.length.symm.trans ((aB ..).symm.trans z1.length)
    have m2:=R2.length.symm.trans ((aB ..).symm.trans z2.length)
    show _/\_
    rw [← R1.length,← R2.length]
    exact dictEq_ok hu R1 R2 (λk m=>all_sameT (b2 h) (List.all_eq_true.mp (b1 h) k m)) λu1=>pairsStrs (A:=A.in1) (s:=σ.s) m2 z2 m1 z1
  | _=>exact aO
 | _=>exact pl
theorem inK_ok {Q:Bool->Value->Shared->Prop} {a:Addr} {ks:List Key} {es:List DictEntry} {n:Nat} {x:D} (hu:A.units+64 < cLine) (D:DR s.heap ban a ks es n) (q:VD s.heap ban v x):Ow (inK x ks) λb=>((∀ tk,Q b (.bool b) { s with toks:=tk })->wpAny W.m A (compareOp .In v (.ref a)) (Q b) E s)/\((∀ tk,Q b (.bool (!b)) { s with toks:=tk })->wpAny W.m A (compareOp .NotIn v (.ref a)) (Q b) E s):=by
 refine Ow.b (Ow.mono (λk q=>Ow.w λhk=>?_) (ow_key q))
 have ht:s.TypeIs (.ref a) "dict":=⟨_,D.at_,rfl⟩
 have core:∀ {P:Bool->Shared->Prop},(∀ tk,P (ks.contains k) { s with toks:=tk })->wpAny W.m A (contains (.ref a) v) P E s:=λ{P} h=>by
  unfold contains
  refine aH (aL (wpAny_specialOf ht slot_dict_contains.lookup ?_))
  show wpAny _ _ (if (some (Value.builtin "dict.__contains__")==some Value.none)=true then _ else _) _ E s
  rw [aP (by rw [beq_builtin_none];exact Bool.false_ne_true)]
  refine aL (wpAny_callSpecialUnlessNone?_slot (name:=Str.ofString "__contains__") ht slot_dict_contains (wpAny_call_entry slot_dict_contains ht entry_dict_contains ?_ (args_dict_contains _ _)))
  show wpAny _ _ (dictGet a v>>=_) _ _ s
  refine aL (dictGet_ok (au (Nat.add_le_add_left (by decide:1<=64) _) hu) D hk q λtk=>?_)
  have h:=h tk
  rw [idxK_contains] at h
  unfold getK
  cases e:idxK ks k with
  | some i=>
   rw [e] at h
   rw [Option.bind_some,List.getElem?_map,ad (D.length▸idxK_lt e)]
   exact aM ⟨_,rfl,wpAny_truthy_bool h⟩
  | none=>
   rw [e] at h
   exact aL (wpAny_pendingKey_other D.sm (aM ⟨_,rfl,wpAny_truthy_bool h⟩))
 exact ⟨λh=>aL (core λtk=>aM (h tk)),λh=>aL (core λtk=>aM (h tk))⟩
theorem inL_ok {Q:Bool->Value->Shared->Prop} {x:D} {xs:List D} (hu:A.units+66 < cLine) (qa:VD s.heap ban v x) (qc:VD s.heap ban1 u (.list xs)):Ow (inL x xs) λb=>((∀ tk,Q b (.bool b) { s with toks:=tk })->wpAny W.m A (compareOp .In v u) (Q b) E s)/\((∀ tk,Q b (.bool (!b)) { s with toks:=tk })->wpAny W.m A (compareOp .NotIn v u) (Q b) E s):=by
 refine Ow.w λh=>?_
 have hx:SeqAt.shaped x.py=true:=b1 h
 have h2:=b2 h
 have:PyData.canLayAll0 (pys xs)=true/\((pys xs).any λy=>PyData.eqv y x.py)=xs.any λy=>PyData.eqv y.py x.py:=by
  clear h qc
  induction xs with
  | nil=>exact ⟨rfl,rfl⟩
  | cons y r ih=>exact xa (ih (b2 h2)) λi j=>⟨ba (SeqAt.canLay_of_shaped (d:=y.py) (b1 h2)) i,aN (PyData.eqv y.py x.py||·) j⟩
 have hd:=SeqAt.depth_of_shaped hx
 have hm:=aI (Nat.min_le_right (PyData.depthAll (pys xs)) x.py.depth) hd
 refine xa this λhc hany=>xe (qa.reads (SeqAt.canLay_of_shaped hx)) λas ra=>xe (VD.reads qc hc) λbs rb=>?_
 rw [← hany]
 exact ⟨λh=>SeqAt.in_list_reads rb ra hc (SeqAt.canLay_of_shaped hx) (by lia) (h s.toks),λh=>SeqAt.notIn_list_reads rb ra hc (SeqAt.canLay_of_shaped hx) (by lia) (h s.toks)⟩
theorem inV_ok {Q:Bool->Value->Shared->Prop} (hu:A.units+66 < cLine) (S:HS W σ):∀ v,Vv W σ v x->∀ u,Vv W σ u y->Ow (inV x y σ.H) λb=>((∀ tk,Q b (.bool b) { σ.s with toks:=tk })->wpAny W.m A (compareOp .In v u) (Q b) E σ.s)/\((∀ tk,Q b (.bool (!b)) { σ.s with toks:=tk })->wpAny W.m A (compareOp .NotIn v u) (Q b) E σ.s):=by
 have hu':A.units+64 < cLine:=au (Nat.add_le_add_left (by decide) _) hu
 intro v qa u qb
 revert v
 refine ow_dt λdx v qa=>?_
 revert u
 refine ow_see (f:=inD dx) (g:=inO dx) S rfl (λd=>?_) (λj x a hd r z=>?_) rfl
 ·cases d with
  | list xs=>exact λu qb=>inL_ok hu qa qb
  | dict ks xs=>exact λu qb=>xeeeaaa qb λa es n e D u1 u2=>by subst e;exact inK_ok hu' D qa
  | _=>exact λu1 u2=>aO
 ·cases x with
  | list xs=>exact xeea z λus m g z=>Ow.b (Ow.mono (λl z=>inL_ok (ban1:=no) hu qa ⟨a,us,m,rfl,g,id,z.step .weak⟩) (ow_alls z))
  | dict ks xs=>exact xeea z λes m D z=>inK_ok hu' D qa
  | _=>exact aO
noncomputable def copTo:COp->CmpOp
 | .eq=>.Eq | .ne=>.NotEq | .lt=>.Lt | .le=>.LtE | .gt=>.Gt | .ge=>.GtE | .isn=>.Is | .isnt=>.IsNot | .isin=>.In | .notin=>.NotIn
theorem ow_cmpI {f:Int->Int->Bool} {Q:Value->Value->Bool->Prop} (k:∀ i t j t',Q (.int i t) (.int j t') (f i j)):∀ v,VV W h ban r v x->∀ u,VV W h ban r u y->Ow (cmpI f x y) (Q v u):=λv qa u qb=>by
 revert v
 refine ow_ii λi t=>?_
 revert u
 exact Ow.vm λu qb=>by
  cases y with
  | d d=>cases d with
   | int j=>obtain ⟨t',rfl⟩:=qb;exact k i t j t'
   | _=>exact aO
  | _=>exact aO
theorem isN_ok:∀ v,VV W h ban r v x->∀ u,VV W h ban r u y->Ow (isN x y) λb=>isSame v u=pure b:=λv qa u qb=>by
 revert v
 refine ow_dt λa v qa=>?_
 revert u
 refine ow_dt λb u qb=>?_
 cases b with
 | none=>
  cases (qb:u=.none)
  cases a with
  | none=>cases (qa:v=.none);rfl
  | int i=>obtain ⟨t,rfl⟩:=qa;rfl
  | _=>exact aO
 | _=>exact aO
theorem cmp_ok {op:COp} {Q:Bool->Value->Shared->Prop} (hu:A.units+80 < cLine) (S:HS W σ):∀ v,Vv W σ v x->∀ u,Vv W σ u y->Ow (cmpV op x y σ.H) λb=>(∀ tk,Q b (.bool b) { σ.s with toks:=tk })->wpAny W.m A (compareOp (copTo op) v u) (Q b) E σ.s:=λv qa u qb=>by
 have hh:∀ {k},k<=80->A.units+k < cLine:=λl=>au (Nat.add_le_add_left l _) hu
 cases op with
 | eq=>exact Ow.mono (λb z h=>z.1 (h _)) (eqV_ok (hh (by decide)) S v qa u qb)
 | ne=>exact .m (Ow.mono (λb z h=>z.2 (h _)) (eqV_ok (Q:=λb=>Q (!b)) (hh (by decide)) S v qa u qb))
 | lt=>
  revert v
  refine ow_dt λa v qa=>?_
  revert u
  exact ow_dt λb u qb=>.of λc e h=>lt_ok 6 e (hh (by decide:70<=80)) qa qb (h σ.s.toks)
 | le=>exact ow_cmpI (Q:=λv u b=>(∀ tk,Q b (.bool b) { σ.s with toks:=tk })->wpAny W.m A (compareOp .LtE v u) (Q b) E σ.s) (λu1 u2 u3 u4 h=>P.le_int (h σ.s.toks)) v qa u qb
 | gt=>exact ow_cmpI (Q:=λv u b=>(∀ tk,Q b (.bool b) { σ.s with toks:=tk })->wpAny W.m A (compareOp .Gt v u) (Q b) E σ.s) (λu1 u2 u3 u4 h=>P.gt_int (h σ.s.toks)) v qa u qb
 | ge=>exact ow_cmpI (Q:=λv u b=>(∀ tk,Q b (.bool b) { σ.s with toks:=tk })->wpAny W.m A (compareOp .GtE v u) (Q b) E σ.s) (λu1 u2 u3 u4 h=>P.ge_int (h σ.s.toks)) v qa u qb
 | isn=>exact Ow.mono (λb z h=>aL (wpAny_of_eq z (aM (h σ.s.toks)))) (isN_ok v qa u qb)
 | isnt=>exact .m (Ow.mono (λb z h=>aL (wpAny_of_eq z (aM (h σ.s.toks)))) (isN_ok v qa u qb))
 | isin=>exact Ow.mono (λb z=>z.1) (inV_ok (hh (by decide)) S v qa u qb)
 | notin=>exact .m (Ow.mono (λb z=>z.2) (inV_ok (Q:=λb=>Q (!b)) (hh (by decide)) S v qa u qb))
end
section
variable {W:Wd} {A:Around} {E:Value->Shared->Prop} {σ τ:Sg} {s:Shared} {h:Heap} {v:Value} {x:V}
theorem iter_dict {d:Addr} {es:List DictEntry} {ep:Nat} {Q:Value->Shared->Prop} (hd:(d==sysModules)=false) (ho:s.heap.get? d=some (dctO es.toArray ep))
  (hQ:Q (.ref s.heap.objs.size) { s with heap:=s.heap.push { cls:=.type "dict_keyiterator",data:=.fields #[.ref d,.int 0 0,.int es.length 0,.int ep 0] } }) :
  wpAny W.m A (pyIter (.ref d)) Q E s:=by
 have hT:s.TypeIs (.ref d) "dict":=⟨_,ho,rfl⟩
 refine wpAny_pyIter_slot hT PySem.F.slot_dict_iter (wpAny_call_entry PySem.F.slot_dict_iter hT PySem.F.entry_dict_iter ?_ (PySem.F.args_dict_iter_1 _))
 unfold Builtin.«dict.__iter__»
 refine aL ?_
 unfold Builtin.Dict.dictSlotNone
 refine aL (wpAny_notOrdered_dict hT ?_)
 show wpAny _ _ (pure (Value.ref d)) _ _ s
 refine aM ?_
 show wpAny _ _ (Builtin.Dict.showsAll d>>=_) _ _ s
 unfold Builtin.Dict.showsAll
 rw [aP (by rw [hd];exact Bool.false_ne_true)]
 refine aL (aM ?_)
 refine aL (wpAny_dictEntries ho rfl ?_)
 refine aL (wpAny_dictEpoch ho rfl ?_)
 refine aL (wpAny_newObj_type (aM ⟨_,rfl,"dict_keyiterator",_,⟨_,am _ rfl,rfl⟩,PySem.F.slot_dict_keyiterator_next.lookup,?_⟩))
 simpa [rawInt] using hQ
theorem isInN {i:Nat} {α:Type} {es:List α} {o:Option α} (h:es[i]?=o):(if ((i:Nat):Int) < 0 then none else es.toArray[((i:Nat):Int).toNat]?)=o:=by
 rw [aP (Int.not_lt.mpr (Int.natCast_nonneg i)),Int.toNat_natCast,List.getElem?_toArray,h]
theorem turn_dict {it d:Addr} {i ep:Nat} {es:List DictEntry} {Q:Option Value->Shared->Prop} (hh:A.handled=none) (hit:s.heap.IsKeyIter it d i es.length ep) (hm:s.heap.get? d=some (dctO es.toArray ep))
  (hS:∀ e,es[i]?=some e->∀ h',h'.IsKeyIter it d (i+1) es.length ep->Heap.SameBut it s.heap h'->Q (some e.key) { s with heap:=h' }) (hN:es[i]?=none->∀ h',Heap.ExtBut it s.heap h'->Q none { s with heap:=h' }):wpAny W.m A (pyNext (.ref it)) Q E s:=by
 refine xeaa (id hit) λo ho hc hd=>?_
 unfold pyNext
 refine aL (wpAny_attempt (wpAny_callSpecial?_slot (name:=Str.ofString "__next__") hit.typeIs PySem.F.slot_dict_keyiterator_next
  (wpAny_call_entry PySem.F.slot_dict_keyiterator_next hit.typeIs PySem.F.entry_dict_keyiterator_next ?_ (PySem.F.args_dict_keyiterator_next_1 _))))
 refine aL (aM (aL (aL ?_)))
 refine aL (wpAny_typeNameOfWhole_keyiter hit.typeIs (aM (aL (wpAny_fieldsOf ho hd ?_))))
 show wpAny _ _ (if (Value.ref d==Value.none)=true then _ else _) _ _ s
 refine wif_n (show ¬ ((Value.ref d==Value.none)=true) from Bool.false_ne_true) ?_
 refine aL (aM (aL (wpAny_dictEntries hm rfl ?_)))
 refine wif_n (by simp) ?_
 refine aL (aM (aL (wpAny_dictEpoch hm rfl ?_)))
 refine wif_n (by simp) ?_
 refine aM ?_
 dsimp only
 cases hx:es[i]? with
 | some e=>
  rw [isInN hx]
  refine aL (aL (wpAny_typeNameOfWhole_keyiter hit.typeIs (aM (aL (wpAny_isOneOf_keyiter hit.typeIs ?_)))))
  show wpAny _ _ (setField (.ref it) 1 (rawInt ((i:Int)+1))>>=_) _ _ s
  refine aL (wpAny_setField ho hd (by simp) ?_)
  have hit':(s.heap.update it (Obj.mapFields (·.setIfInBounds 1 (rawInt ((i:Int)+1))))).IsKeyIter it d (i+1) es.length ep:=
   ⟨_,Heap.get?_update_self _ ho (Obj.isFreed_of_fields (Obj.data_mapFields hd _)),(Obj.cls_mapFields ..).trans hc,by rw [Obj.data_mapFields hd];simp [rawInt]⟩
  refine aL (aH (aL (wpAny_isOneOf_keyiter (s:={ s with heap:=s.heap.update it (Obj.mapFields (·.setIfInBounds 1 (rawInt ((i:Int)+1)))) }) hit'.typeIs ?_)))
  show wpAny _ _ (pure e.key) _ _ _
  exact aM (aM ⟨_,rfl,aM (hS e hx _ hit' (Heap.SameBut.update ..))⟩)
 | none=>
  rw [isInN hx]
  refine aL (aL (wpAny_typeNameOfWhole_keyiter hit.typeIs (aM ?_)))
  show wpAny _ _ (setField (.ref it) 0 .none>>=_) _ _ s
  refine aL (wpAny_setField ho hd (by simp) ?_)
  show wpAny _ _ (newExc (.type "StopIteration") []>>=_) _ _ _
  refine aL ?_
  unfold newExc newTuple
  refine aL (wpAny_newObj_type ?_ (by size_fits))
  refine aL (m:=firstArgMember _ _) (wpAny_of_eq (a:=Value.none) rfl ?_)
  refine wpAny_newObj_type ?_ (by size_fits)
  unfold raiseNew
  refine aL (wpAny_handled ?_)
  rw [show A.in1.handled=none from hh]
  refine aL (aM (wpAny_throw ?_))
  refine (aL (wpAny_isInstance (T:="StopIteration") (b:=true) ⟨_,am _ rfl,rfl⟩ isSubtype_stop ?_))
  exact aM (hN hx _ (((Heap.SameBut.update ..).extBut.push _).push _))
theorem walksDict (hh:A.handled=none) (I d:Addr) (hne:d≠I) (es:List DictEntry) (ep:Nat) :
  Walks W.prog W.w A I [I,d] [I] es.length (λi v=>∃ e,es[i]?=some e/\v=e.key) (λi h=>h.IsKeyIter I d i es.length ep/\h.get? d=some (dctO es.toArray ep)) where
 sub:=λb hb=>by simp at hb;simp [hb]
 frame:=λu1 u2 u3 st hk=>⟨st.1.at λo e=>hk I (by simp) o e,hk d (by simp) _ st.2⟩
 item:=λi s Q E hi st hQ=>by
  exact turn_dict hh st.1 st.2 (λe hx h' hit' hs'=>hQ e.key h' s.toks ⟨e,hx,rfl⟩ ⟨hit',hs'.extBut d _ hne st.2⟩ λb o hb e=>hs'.extBut b o (λh=>hb (ao.mpr h)) e) λn=>noR ((ad hi).symm.trans n)
 done:=λs Q E st hQ=>turn_dict hh st.1 st.2 (λe hx=>noS ((List.getElem?_eq_none (Nat.le_refl _)).symm.trans hx)) λu1 h' he'=>hQ h' s.toks λb o hb e=>he' b o (λh=>hb (ao.mpr h)) e
 self:=λu1 u2 u3 u4 st hQ=>wpAny_pyIter_keyiter st.1 hQ
noncomputable def Plain (I:Addr) (h:Heap):Prop:=∃ o n,h.get? I=some o/\o.cls=.type n/\["enumerate","zip","dict_itemiterator","dict_reverseitemiterator","odict_iterator","itertools.zip_longest","itertools.pairwise"].contains n=false
theorem Plain.go {I:Addr} (p:Plain I s.heap) {tgt:PySem.Expr} {v:Value} {Q:Unit->Shared->Prop} (h:Q () s):wpAny W.m A (letOwnedTupleGo tgt (.ref I) v) Q E s:=by
 refine xeeaa p λo n g c k=>?_
 have core:∀ (b:Addr) (es:List PySem.Expr) (j:Nat) (p:Pos),wpAny W.m A (letOwnedTupleGo (.Tuple es j p) (.ref I) (.ref b)) Q E s:=λb es j p=>by
  refine aL (wpAny_load g ?_)
  rw [c]
  cases o.data with
  | fields vs=>
   show wpAny _ _ (if (List.contains _ n&&_)=true then _ else pure ()) _ _ _
   rw [k]
   exact aM h
  | _=>exact aM h
 cases tgt with
 | Tuple es j p=>cases v with
  | ref b=>exact core b es j p
  | _=>exact aM h
 | List es p=>cases v with
  | ref b=>exact core b es 0 p
  | _=>exact aM h
 | _=>exact aM h
structure Wk (W:Wd) (A:Around) (I:Addr) (fp wr:List Addr) (n:Nat) (tp:Bool) (P:Nat->Value->Prop) (Pt:Nat->Array Value->Prop) (St:Nat->Heap->Prop):Prop where
 frame:∀ {i h h'},St i h->(∀ b∈fp,∀ o,h.get? b=some o->h'.get? b=some o)->St i h'
 ex:∀ {i h},St i h->∀ b∈wr,∃ o,h.get? b=some o
 turn:∀ {i} {s:Shared} {tgt:PySem.Expr} {Q:Value->Shared->Prop},i < n->St i s.heap->(tp=true->∃ es k p,tgt=.Tuple es k p) ->
  (∀ v h tk,P i v\/(tp=true/\∃ T us,v=.ref T/\h.IsTuple T us/\Pt i us)->St (i+1) h->(∀ {b o},b∉wr->s.heap.get? b=some o->h.get? b=some o)->Q v { s with heap:=h,toks:=tk }) ->
  wpAny W.m A (pyNext (.ref I)) (λrv s1=>∃ v,rv=some v/\wpAny W.m A (letOwnedTupleGo tgt (.ref I) v) (λu1 s2=>Q v s2) NoE s1) NoE s
 done:∀ {s:Shared} {Q:Option Value->Shared->Prop},St n s.heap->(∀ h tk,(∀ {b o},b∉wr->s.heap.get? b=some o->h.get? b=some o)->Q none { s with heap:=h,toks:=tk })->wpAny W.m A (pyNext (.ref I)) Q NoE s
 self:∀ {i} {s:Shared} {Q:Value->Shared->Prop},St i s.heap->Q (.ref I) s->wpAny W.m A (pyIter (.ref I)) Q NoE s
theorem Wk.plain {I:Addr} {fp wr:List Addr} {n:Nat} {P:Nat->Value->Prop} {St:Nat->Heap->Prop} (w:Walks W.prog W.w A I fp wr n P St) (p:∀ {i h},St i h->Plain I h) (e:wr=[I]):Wk W A I fp wr n false P (λu1 u2=>False) St:=
 ⟨λst k=>w.frame _ _ _ st k,λst b m=>xeea (p st) λo u1 g u2=>⟨o,ao.mp (e▸m:b∈[I])▸g⟩,
  λhi st u1 k=>w.item _ _ _ _ hi st λv h tk hP hst hk=>⟨v,rfl,(p hst).go (k v h tk (.inl hP) hst λm=>hk _ _ m)⟩,
  λst k=>w.done _ _ _ st λh tk hk=>k h tk λm=>hk _ _ m,λst h=>w.self _ _ _ _ st h⟩
theorem Wk.enum {I:Addr} {fp wr:List Addr} {n:Nat} {Pt:Nat->Array Value->Prop} {St:Nat->Heap->Prop} {Mid:Nat->Addr->Heap->Prop} (w:WalksT W.prog W.w A I fp wr n Pt St Mid) (p:∀ {i h},St i h->∀ b∈wr,∃ o,h.get? b=some o):Wk W A I fp wr n true (λu1 u2=>False) Pt St:=
 ⟨λst k=>w.frame _ _ _ st k,p,
  λhi st ht k=>xeee (ht rfl) λes j q e=>by
   subst e
   exact w.item _ _ _ _ hi st λT us h tk hP u1 ht hm hk=>⟨_,rfl,w.go es j q _ T _ _ _ hm λh2 hst hk2=>k _ h2 tk (.inr ⟨rfl,T,us,rfl,let ⟨o,g,z⟩:=ht;⟨o,hk2 _ _ (w.apart _ _ _ hm) g,z⟩,hP⟩) hst λn e=>hk2 _ _ n (hk _ _ n e)⟩,
  λst k=>w.done _ _ _ st λh tk hk=>k h tk λm=>hk _ _ m,λst h=>w.self _ _ _ _ st h⟩
inductive ItAt (W:Wd) (A:Around) (items:List V) (lock tp:Bool) (wr:List Addr) (i:Nat) (it:Value) (σ:Sg):Prop
 | mk (I:Addr) (fp:List Addr) (P:Nat->Value->Prop) (Pt:Nat->Array Value->Prop) (St:Nat->Heap->Prop) (e:it=.ref I) (w:Wk W A I fp wr items.length tp P Pt St) (st:St i σ.s.heap)
  (hwr:∀ b∈wr,σ.ban b/\¬ Live σ.r b) (hfp:∀ b∈fp,b∈wr\/(∃ o,σ.s.heap.get? b=some o)/\(¬ σ.ban b\/lock=true/\Live σ.r b))
  (hit:∀ {k:Nat} {v x},P k v->items[k]?=some x->Vv W σ v x) (hitT:∀ {k:Nat} {us x},Pt k us->items[k]?=some x->∃ ds,x=.d (.tup ds)/\VDs σ.s.heap σ.ban us.toList ds)
theorem ItAt.go {fr:Addr->Prop} {items:List V} {lock tp:Bool} {wr:List Addr} {i:Nat} {it:Value} (I:ItAt W A items lock tp wr i it σ) (S:HS W σ) (g:Go W fr σ τ) (hw:∀ {b},b∈wr->¬ fr b) (hf:∀ {a},fr a->σ.ban a/\¬ Live σ.r a) (hl:lock=true->τ.H.w=σ.H.w):ItAt W A items lock tp wr i it τ:=by
 cases I with
 | mk I fp P Pt St e w st hwr hfp hit hitT=>
  have X:=g.exF S λf=>(hf f).1
  refine ⟨I,fp,P,Pt,St,e,w,w.frame st λb m o e=>?_,λb m=>xa (hwr b m) λb1 b2=>xe (w.ex st b m) λo e=>⟨g.bst b1 b2 e,g.nlive b2 e⟩,λb m=>(hfp b m).imp id λ⟨⟨o,e⟩,z⟩=>⟨g.ex e,z.imp (λn=>X.nb n e) λz=>⟨z.1,g.live (hl z.1) z.2⟩⟩,
   λp e=>(hit p e).step X g.rho,λp e=>xea (hitT p e) λds e q=>⟨ds,e,q.step X⟩⟩
  exact (hfp b m).elim (λm=>g.keep (hwr b m).2 (hw m) e) λ⟨u1,z⟩=>z.elim (λn=>X.k n e) λz=>g.nw (hl z.1) z.2 e
inductive ItP (W:Wd) (A:Around) (σ:Sg) (items:List V) (lock tp:Bool) (it:Value) (s:Shared):Prop
 | mk (wr:List Addr) (ban:Addr->Prop) (g:Gn W σ ⟨ban,σ.r,σ.H,s⟩) (new:∀ {b},b∈wr->σ.s.heap.get? b=none) (I:ItAt W A items lock tp wr 0 it ⟨ban,σ.r,σ.H,s⟩)
theorem ItP.of {items:List V} {lock tp:Bool} {I:Addr} {fp wr:List Addr} {P:Nat->Value->Prop} {Pt:Nat->Array Value->Prop} {St:Nat->Heap->Prop} {h1:Heap} {tk:Nat} (S:HS W σ) (w:Wk W A I fp wr items.length tp P Pt St) (k:∀ {a o},σ.s.heap.get? a=some o->h1.get? a=some o) (st:St 0 h1) (new:∀ b∈wr,σ.s.heap.get? b=none)
  (hfp:∀ b∈fp,b∈wr\/(∃ o,σ.s.heap.get? b=some o)/\(¬ σ.ban b\/lock=true/\Live σ.r b)) (hit:∀ {k:Nat} {v x},P k v->items[k]?=some x->(∃ n,x=.d (.int n)/\IntV v n)\/Vv W σ v x)
  (hitT:∀ {k:Nat} {us x},Pt k us->items[k]?=some x->∃ ds,x=.d (.tup ds)/\VDs σ.s.heap σ.ban us.toList ds):ItP W A σ items lock tp (.ref I) { σ.s with heap:=h1,toks:=tk }:=
 have g:=Go.more (tk:=tk) S k λb m=>⟨new b m,w.ex st b m⟩
 have nw:∀ {b o},σ.s.heap.get? b=some o->b∉wr:=λe m=>absurdS e (new _ m)
 ⟨wr,_,g,new _,I,fp,P,Pt,St,rfl,w,st,λb m=>⟨.inr m,λl=>S.ab (S.liveB l) (new b m)⟩,λb m=>(hfp b m).imp id λ⟨⟨o,e⟩,z⟩=>⟨⟨o,k e⟩,z.imp (λn z=>z.elim n (nw e)) id⟩,
  λp e=>(hit p e).elim (λ⟨n,e,z⟩=>by subst e;exact z) (g.vv S),λp e=>xea (hitT p e) λds e q=>⟨ds,e,q.step (g.exn S)⟩⟩
section
variable {items:List V} {lock:Bool} {a:Addr} {us:List Value} {n:Nat}
theorem seqHit (q:Vs W σ us items) {k:Nat} {v x} (e:(us.toArray)[k]?=some v) (e':items[k]?=some x):(∃ n,x=.d (.int n)/\IntV v n)\/Vv W σ v x:=
 .inr (xea (q.get e') λw e1 z=>by rw [List.getElem?_toArray,e1] at e;cases e;exact z)
theorem fpTwo {I a:Addr} (e:∃ o,σ.s.heap.get? a=some o) (hb:¬ σ.ban a\/lock=true/\Live σ.r a):∀ b∈[I,a],b∈[I]\/(∃ o,σ.s.heap.get? b=some o)/\(¬ σ.ban b\/lock=true/\Live σ.r b):=
 λb m=>(aG.mp m).imp (λe=>ao.mpr e) λm=>by rw [ao.mp m];exact ⟨e,hb⟩
theorem newOne {h:Heap}:∀ b∈[h.objs.size],h.get? b=none:=λb m=>by rw [ao.mp m];exact none_size h
theorem szA (us:List Value):us.toArray.size=us.length:=rfl
theorem iterList (S:HS W σ) (hh:A.handled=none) (g:σ.s.heap.get? a=some (lstO us.toArray n)) (q:Vs W σ us items) (hb:¬ σ.ban a\/lock=true/\Live σ.r a):wpAny W.m A (pyIter (.ref a)) (ItP W A σ items lock false) E σ.s:=
 wpAny_pyIter_list (IsL.list g) (.of (tk:=σ.s.toks) S (.plain (St:=λi h=>h.IsListIter σ.s.heap.objs.size a i/\h.IsList a us.toArray) (P:=λi v=>us.toArray[i]?=some v) (q.length▸szA us▸Walks.list (prog:=W.prog) (w:=W.w) hh _ a (Nat.ne_of_lt (Heap.lt_size g)) us.toArray) (λst=>let ⟨o,g,c,_⟩:=st.1;⟨o,_,g,c,by decide⟩) rfl)
  (λe=>ah _ e) ⟨⟨_,am _ rfl,rfl,rfl⟩,(IsL.list g).push _⟩ newOne (fpTwo ⟨_,g⟩ hb) (seqHit q) λz=>z.elim)
theorem iterTup (S:HS W σ) (hh:A.handled=none) (g:σ.s.heap.get? a=some (tupO us.toArray n)) (q:Vs W σ us items) (hb:¬ σ.ban a\/lock=true/\Live σ.r a):wpAny W.m A (pyIter (.ref a)) (ItP W A σ items lock false) E σ.s:=
 have ht:σ.s.heap.IsTuple a us.toArray:=⟨_,g,rfl,n,rfl⟩
 wpAny_pyIter_tuple ht (.of (tk:=σ.s.toks) S (.plain (St:=λi h=>h.IsTupleIter σ.s.heap.objs.size a i/\h.IsTuple a us.toArray) (P:=λi v=>us.toArray[i]?=some v) (q.length▸szA us▸Walks.tuple (prog:=W.prog) (w:=W.w) hh _ a (Nat.ne_of_lt (Heap.lt_size g)) us.toArray) (λst=>let ⟨o,g,c,_⟩:=st.1;⟨o,_,g,c,by decide⟩) rfl)
  (λe=>ah _ e) ⟨⟨_,am _ rfl,rfl,rfl⟩,ht.push _⟩ newOne (fpTwo ⟨_,g⟩ hb) (seqHit q) λz=>z.elim)
theorem iterDict {ks:List Key} {es:List DictEntry} (S:HS W σ) (hh:A.handled=none) (D:DR σ.s.heap σ.ban a ks es n) (hb:¬ σ.ban a\/lock=true/\Live σ.r a):wpAny W.m A (pyIter (.ref a)) (ItP W A σ (ks.map λk=>.d (keyD k)) lock false) E σ.s:=
 iter_dict D.sm D.at_ (.of (tk:=σ.s.toks) S (.plain (St:=λi h=>h.IsKeyIter σ.s.heap.objs.size a i es.length n/\h.get? a=some (dctO es.toArray n)) (P:=λi v=>∃ e,es[i]?=some e/\v=e.key) (by rw [aB,← D.length];exact walksDict (W:=W) hh _ a (Nat.ne_of_lt (Heap.lt_size D.at_)) es n) (λst=>let ⟨o,g,c,_⟩:=st.1;⟨o,_,g,c,by decide⟩) rfl)
  (λe=>ah _ e) ⟨⟨_,am _ rfl,rfl,rfl⟩,ah _ D.at_⟩ newOne (fpTwo ⟨_,D.at_⟩ hb) (λ{k v x} p e=>xea p λen e1 e2=>by
   rw [List.getElem?_map] at e
   refine xea (ai.mp e) λq h1 h2=>xea (D.ents.get h1) λen' h3 z=>?_
   cases e1.symm.trans h3;subst h2;subst e2
   exact .inr z.2.vd) λz=>z.elim)
theorem iterRange {m:Int} {t u w:Tok} (S:HS W σ) (hh:A.handled=none) (g:IsRange σ.s.heap a 0 m 1 t u w) (hm:smallI m=true):wpAny W.m A (pyIter (.ref a)) (ItP W A σ ((rangeD m).map .d) lock false) E σ.s:=by
 obtain ⟨k,rfl⟩:=Int.eq_ofNat_of_zero_le (aw (b1 hm))
 have hk:k < 60:=Int.ofNat_lt.mp (aw (b2 hm))
 have hs:Builtin.Range.rangeSize 0 (k:Int) 1=k:=by
  unfold Builtin.Range.rangeSize
  rw [aQ (by decide),Int.ediv_one]
  split <;> lia
 refine wpAny_pyIter_range g (by unfold Builtin.Range.small;rw [hs];simp [Builtin.Range.rangeFitsLong];lia) ?_
 refine .of (tk:=σ.s.toks) S (.plain (St:=λi h=>IsRangeIter h σ.s.heap.objs.size (0+(i:Nat) * 1) ((k:Int) - (i:Nat)) 1) (P:=λi v=>∃ t,v=.int (0+i * 1) t) ?_ (λst=>⟨_,_,st,rfl,by decide⟩) rfl) (λe=>ah _ e) ?_ newOne (λb m=>.inl m) (λ{j v x} p e=>?_) λz=>z.elim
 ·rw [aB,rangeD,aB,ay]
  exact Walks.range (prog:=W.prog) (w:=W.w) hh σ.s.heap.objs.size 0 1 k
 ·show IsRangeIter _ _ _ _ _
  unfold IsRangeIter
  rw [am _ rfl,hs]
  simp
 ·unfold rangeD at e
  rw [aK,List.getElem?_map] at e
  refine xea (ai.mp e) λi h1 h2=>?_
  rw [List.getElem?_range (by have:=(aa.mp h1).1;simpa using this)] at h1
  cases h1;subst h2
  exact .inl ⟨_,rfl,xe p λt e=>⟨t,e.trans (by simp)⟩⟩
end
theorem iterV_ok (hh:A.handled=none) (S:HS W σ):∀ v,Vv W σ v x->Ow (iterV x σ.H) λp=>wpAny W.m A (pyIter v) (ItP W A σ p.1 p.2 false) E σ.s:=
 ow_see (Q:=λv p=>wpAny W.m A (pyIter v) (ItP W A σ p.1 p.2 false) E σ.s) (f:=iterD) (g:=iterO) S rfl (λd v q=>match d,q with
  | .list u1,q=>xeeeaaa q λa us m e g nb z=>e▸iterList S hh g z.vvs (.inl nb)
  | .tup u1,q=>xeeeaaa q λa us m e g nb z=>e▸iterTup S hh g z.vvs (.inl nb)
  | .dict ..,q=>xeeeaaa q λa es m e D nb u1=>e▸iterDict S hh D (.inl nb)
  | .range u1,q=>.w λh=>by obtain ⟨a,t,u,w,rfl,g,nb⟩:=q;exact iterRange S hh g h
  | .none,_=>aO | .bool _,_=>aO | .int _,_=>aO | .str _,_=>aO | .iset _,_=>aO)
  (λj x a hd r z=>match x,z with
  | .list u1,z=>xeea z λus m g z=>iterList S hh g z (.inr ⟨rfl,_,r⟩)
  | .dict ..,z=>xeea z λes m D z=>iterDict S hh D (.inr ⟨rfl,_,r⟩)
  | .inst ..,_=>aO | .tab,_=>aO | .tabD,_=>aO | .cell _,_=>aO | .dead,_=>aO) rfl
end
section
variable {W:Wd} {A:Around} {E:Value->Shared->Prop} {σ τ:Sg} {ce:CE} {κ:Cx ce} {lo:Nat} {fr:Addr->Prop} {vs:Vars} {v:Value} {X:V} {tk:Nat} {h':Heap}
theorem Go.frames {wr:Addr->Prop} (S:HS W σ) (hb:∀ {a},wr a->σ.ban a) (hl:∀ {a},wr a->¬ Live σ.r a) (hs:∀ {a o},¬ wr a->σ.s.heap.get? a=some o->h'.get? a=some o) (he:∀ {a},wr a->∃ o,h'.get? a=some o):Go W wr σ (σ.at { σ.s with heap:=h',toks:=tk }):=
 have ex:∀ {b o},σ.s.heap.get? b=some o->∃ o',h'.get? b=some o':=λ{b o} e=>(Classical.em (wr b)).elim he λn=>⟨o,hs n e⟩
 have X:Ex σ.s.heap σ.ban h' σ.ban:=⟨λn=>hs λq=>n (hb q),.inl⟩
 ⟨⟨_,_,rfl⟩,λu1 nf=>hs nf,.inl,λe u1 u2=>e,.refl _,.inl,ex,
  ⟨S.len,S.gone,S.nodup,λe f=>(S.at_ e f).step X (.refl _) (hs λq=>hl q ⟨_,e⟩),S.bans,λe=>hs (λq=>absurdS e (S.lo (hb q))) (S.keep e),S.lo,λb=>xe (S.hi b) λu1 e=>ex e⟩,Nat.le_refl _,λu1 u2 u3 l=>hs λq=>hl q l,λu1 u2 l=>l⟩
noncomputable def SetTo (κ:Cx ce) (lo:Nat) (fr:Addr->Prop) (σ:Sg) (vs:Vars) (s:Shared):Prop:=Go κ.W fr σ (σ.at s)/\VS κ lo fr (σ.at s) vs
theorem set_get {n m:Nat} {X Y:V} (h:(vs.set n (some X))[m]?=some (some Y)):m=n/\Y=X\/m≠n/\vs[m]?=some (some Y):=by
 by_cases e:n=m
 ·subst e
  by_cases l:n < vs.length
  ·rw [List.getElem?_set_self l] at h;cases h;exact .inl ⟨rfl,rfl⟩
  ·rw [List.getElem?_eq_none (by rw [List.length_set];exact Nat.le_of_not_lt l)] at h;cases h
 ·rw [List.getElem?_set_ne e] at h;exact .inr ⟨Ne.symm e,h⟩
theorem VS.store {x:Str} {n:Nat} (S:HS κ.W σ) (T:VS κ lo fr σ vs) (hx:slot ce x=some n) (q:Vv κ.W σ v X) (g:Go κ.W fr σ (σ.at { σ.s with heap:=h',toks:=tk })) (hx':Reads κ.env h' x v) (hr:∀ {y w},y≠x->Reads κ.env σ.s.heap y w->(∃ i,slot ce y=some i)->Reads κ.env h' y w)
  (hl:∃ m,h'.Ns κ.env.locals m) (hc:∀ {c},(∃ v,σ.s.heap.IsCell c v)->c≠κ.env.locals->∃ v,h'.IsCell c v):SetTo κ lo fr σ (vs.set n (some X)) { σ.s with heap:=h',toks:=tk }:=
 ⟨g,(List.length_set ..).trans T.len,λ{y i Y} e f=>(set_get f).elim (λ⟨h1,h2⟩=>by subst h1;subst h2;cases κ.N.inj _ _ _ hx e;exact ⟨v,hx',g.bf S T q⟩) λ⟨ne,f⟩=>xea (T.vars e f) λu qu zu=>⟨u,hr (λz=>by subst z;cases hx.symm.trans e;exact ne rfl) qu ⟨_,e⟩,g.bf S T zu⟩,
  hl,λe f k=>xaaa (T.cell e f k) λc ne b l=>⟨hc c ne,ne,b,l⟩,T.locB,T.frL,T.frB,T.frC⟩
theorem store_ok {x:Str} {n:Nat} {Q:Unit->Shared->Prop} (S:HS κ.W σ) (T:VS κ lo fr σ vs) (hx:slot ce x=some n) (hn:lo<=n) (q:Vv κ.W σ v X) (h:∀ s,SetTo κ lo fr σ (vs.set n (some X)) s->Q () s):wpAny κ.W.m A (storeName κ.env x v) Q E σ.s:=by
 refine xe T.loc λm hm=>?_
 have hp:(κ.env.scope.kind==.class||(κ.env.scope.kind==.module&&κ.env.locals != κ.env.globals))=false:=by rw [κ.N.kind];rfl
 have fr1:∀ {a h' tk},fr a->σ.ban a->¬ Live σ.r a->Heap.SameBut a σ.s.heap h'->(∃ o,h'.get? a=some o)->Go κ.W fr σ (σ.at { σ.s with heap:=h',toks:=tk }):=λ{a h' tk} f b l hs he=>
  (Go.frames (wr:=(·=a)) S (λe=>e▸b) (λe=>e▸l) (λn e=>(hs.2 _ n).trans e) λe=>e▸he).mono λe=>e▸f
 rcases κ.N.var x n hx with k | ⟨k,c,hc⟩
 ·refine wpAny_storeName_local k hm (λh' hm' hs=>h _ ?_) hp
  refine T.store S hx q (tk:=σ.s.toks+1) (fr1 T.frL T.locB.1 T.locB.2 hs (Ns.get hm')) (.inl ⟨k,_,hm',aQ rfl⟩) (λ{y w} ne qy ⟨i,ey⟩=>?_) ⟨_,hm'⟩ λ⟨u,o,g,d⟩ ne=>⟨u,o,(hs.2 _ ne).trans g,d⟩
  rcases qy with ⟨ky,m2,n2,e2⟩ | ⟨ky,c,ec,o,go,d⟩
  ·refine .inl ⟨ky,_,hm',(aP ne).trans ?_⟩
   obtain ⟨o1,es1,ep1,g1,d1,u1,f1⟩:=hm
   obtain ⟨o2,es2,ep2,g2,d2,u1,f2⟩:=n2
   cases g1.symm.trans g2
   cases d1.symm.trans d2
   rw [← f1 y,f2 y,e2]
  ·exact .inr ⟨ky,c,ec,o,(hs.2 c (T.cell ey (λz=>by rcases ky with ky | ky <;> cases z.symm.trans ky) ec).2.1).trans go,d⟩
 ·have kl:κ.env.kindOf x≠some .local:=λz=>by rcases k with k | k <;> cases z.symm.trans k
  refine xaaa (T.cell hx kl hc) λhv ne b l=>xe hv λv0 hv=>xa (T.frC hx hn kl hc) λfc kc=>?_
  refine wpAny_storeName_cell κ.N.kind kc hc hv λh' hv' hs=>h _ ?_
  have hL:∀ {o},σ.s.heap.get? κ.env.locals=some o->h'.get? κ.env.locals=some o:=λe=>(hs.2 _ (Ne.symm ne)).trans e
  refine T.store S hx q (tk:=σ.s.toks) (fr1 fc b l hs (let ⟨o,e,_⟩:=hv';⟨o,e⟩)) (.inr ⟨k,c,hc,hv'⟩) (λ{y w} ney qy ⟨i,ey⟩=>qy.step hL λ{d o} ed kd go=>(hs.2 d λz=>ney ?_).trans go) ⟨m,hm.at' λu1=>hL⟩ λ{d} hd u1=>?_
  ·subst z;exact κ.N.cinj y x i n d ey hx kd kl ed hc
  ·by_cases z:d=c
   ·exact z▸⟨_,hv'⟩
   ·obtain ⟨u,o,g,e⟩:=hd;exact ⟨u,o,(hs.2 d z).trans g,e⟩
theorem mapM_cons_some {α β:Type} {f:α->Option β} {a:α} {l:List α} {bs:List β} (h:(a::l).mapM f=some bs):∃ b r,f a=some b/\l.mapM f=some r/\bs=b::r:=by
 rw [List.mapM_cons] at h
 exact bC h λb h1 h=>bC h λr h2 h=>⟨b,r,h1,h2,(aE h).symm⟩
theorem mapM_length {α β:Type} {f:α->Option β}:∀ {l:List α} {bs:List β},l.mapM f=some bs->l.length=bs.length
 | [],_,h=>by cases h;rfl
 | u1::_,_,h=>xeeaa (mapM_cons_some h) λu1 u2 u3 h2 e=>by subst e;exact aN (·+1) (mapM_length h2)
noncomputable def PatR (ce:CE) (e:Expr):Pat->Prop
 | .var i=>∃ x pos,e=.Name x pos/\slot ce x=some i
 | .tup ps=>∃ m es k pos,e=.Tuple es k pos/\es.mapM (patOf m ce)=some ps
theorem pat_inv {n:Nat} {e:Expr} {p:Pat} (h:patOf n ce e=some p):PatR ce e p:=by
 cases n with
 | zero=>exact noS h
 | succ n=>cases e with
  | Name x pos=>exact xea (ai.mp h) λk h1 h2=>by subst h2;exact ⟨x,pos,rfl,h1⟩
  | Tuple es k pos=>exact xea (ai.mp h) λps h1 h2=>by subst h2;exact ⟨n,es,k,pos,rfl,h1⟩
  | _=>exact noS h
theorem pat_plain {n:Nat} {e:Expr} {p:Pat} (h:patOf n ce e=some p) {env:Env} {r:List Expr}:assignEach (e::r) env=(false,assign e env)::assignEach r env:=match p,pat_inv h with
 | .var u1,h=>xeea h λu1 u2 e u3=>by subst e;rfl
 | .tup u1,h=>xeeeea h λu1 u2 u3 u4 e u5=>by subst e;rfl
theorem assign_star {n:Nat}:∀ {es:List Expr} {ps:List Pat},es.mapM (patOf n ce)=some ps->assignEach es κ.env=es.map λe=>(false,assign e κ.env)
 | [],_,_=>rfl
 | e::es,_,h=>xeeaa (mapM_cons_some h) λp q h1 h2 u1=>(pat_plain h1).trans (aN _ (assign_star h2))
noncomputable def AsgV (W:Wd) (σ:Sg) (v:Value) (x:V):Prop:=Vv W σ v x\/∃ T us ds,v=.ref T/\x=.d (.tup ds)/\σ.s.heap.IsTuple T us/\VDs σ.s.heap σ.ban us.toList ds
theorem AsgV.tup {ds:List D} (q:AsgV W σ v (.d (.tup ds))):∃ T us,v=.ref T/\σ.s.heap.IsTuple T (List.toArray us)/\VDs σ.s.heap σ.ban us ds:=q.elim (λq=>xeeeaaa q λa us n e g u1 z=>⟨a,us,e,⟨_,g,rfl,n,rfl⟩,z⟩) λ⟨T,us,ds',e,e',t,z⟩=>by cases e';exact ⟨T,us.toList,e,t,z⟩
noncomputable def AsgPs (κ:Cx ce) (A:Around) (lo:Nat) (fr:Addr->Prop) (ps:List Pat):Prop:=∀ {n:Nat} {es:List Expr} {us:List Value} {xs:List D} {σ:Sg} {vs:Vars},es.mapM (patOf n ce)=some ps->patsGe lo ps=true->us.length=ps.length->HS κ.W σ->VS κ lo fr σ vs->VDs σ.s.heap σ.ban us xs ->
 Ow (bindPs ps xs vs) λvs'=>wpAny κ.W.m A (assignInOrder (es.map λe=>assign e κ.env) us) (λu1 s=>SetTo κ lo fr σ vs' s) NoE σ.s
theorem assignT_ok {ps:List Pat} (P:AsgPs κ A lo fr ps) (hh:A.handled=none) {n:Nat} {e:Expr} {ds:List D} (h:patOf n ce e=some (.tup ps)) (hge:(Pat.tup ps).ge lo=true) (S:HS κ.W σ) (T:VS κ lo fr σ vs) (q:AsgV κ.W σ v (.d (.tup ds))):Ow (bindP (.tup ps) (.d (.tup ds)) vs) λvs'=>wpAny κ.W.m A (assign e κ.env v) (λu1 s=>SetTo κ lo fr σ vs' s) NoE σ.s:=by
 refine xeeeea (pat_inv h) λm es k pos e h1=>xeeaa q.tup λa us ev ht z=>?_
 subst e
 subst ev
 refine Ow.w (c:=ps.length==ds.length) λhl=>?_
 have hl:=eq_of_beq hl
 have st:=assign_star (κ:=κ) h1
 have hf:((es.map λe=>(false,assign e κ.env)).findIdx? (·.1))=none:=List.findIdx?_eq_none_iff.mpr λx m=>by obtain ⟨e,u1,rfl⟩:=aJ.mp m;rfl
 have kp:∀ {h':Heap},(∀ d o,d≠σ.s.heap.objs.size->σ.s.heap.get? d=some o->h'.get? d=some o)->∀ {b o},σ.s.heap.get? b=some o->h'.get? b=some o:=λhe b o e=>he b o (λz=>by rw [z] at e;exact absurdS e (none_size _)) e
 refine Ow.of λvs' hb=>wpAny_assign_Tuple hh ht (by rw [st,aB,mapM_length h1,hl,szA,z.length]) (by rw [st];exact hf) λh' he=>?_
 have g0:Gn κ.W σ (σ.at { σ.s with heap:=h' }):=Go.grow (tk:=σ.s.toks) S (kp he)
 rw [st,aK]
 exact post ((P h1 hge (by rw [hl,z.length]) g0.hs (T.go S g0) (z.step (g0.exn S))).use hb) λu1 s ⟨g1,T1⟩=>⟨g0.up.trf g1 T,T1⟩
mutual
theorem assign_ok (hh:A.handled=none):∀ (p:Pat) {n:Nat} {e:Expr} {σ:Sg} {vs:Vars} {v:Value} {x:V},patOf n ce e=some p->p.ge lo=true->HS κ.W σ->VS κ lo fr σ vs->Vv κ.W σ v x->Ow (bindP p x vs) λvs'=>wpAny κ.W.m A (assign e κ.env v) (λu1 s=>SetTo κ lo fr σ vs' s) NoE σ.s
 | .var i,n,e,σ,vs,v,x,h,hge,S,T,q=>xeea (pat_inv h) λy pos e h1=>by
  subst e
  exact wpAny_assign_Name (store_ok S T h1 (aw hge) q λu1 z=>z)
 | .tup ps,n,e,σ,vs,v,x,h,hge,S,T,q=>by
  cases x with
  | d d=>cases d with
   | tup xs=>exact assignT_ok (assigns_ok hh ps) hh h hge S T (.inl q)
   | _=>exact aO
  | _=>exact aO
theorem assigns_ok (hh:A.handled=none):∀ ps:List Pat,AsgPs κ A lo fr ps
 | [],n,es,us,xs,σ,vs,h,_,_,S,T,_=>by
  cases es with
  | nil=>cases us <;> exact aM ⟨.refl S,T⟩
  | cons e es=>exact xeeaa (mapM_cons_some h) λu1 u2 u3 u4 e=>nomatch e
 | p::ps,n,es,us,xs,σ,vs,h,hge,hl,S,T,z=>by
  cases es with
  | nil=>cases h
  | cons e es=>
   refine xeeaa (mapM_cons_some h) λp' q h1 h2 e'=>?_
   cases e'
   cases xs with
   | nil=>exact aO
   | cons x xs=>
    refine xeeaa z λu us' eu zx zr=>?_
    subst eu
    refine Ow.b (Ow.of λvs1 hb=>Ow.of λvs2 hb2=>?_)
    show wpAny _ _ (holding us' (assign e κ.env u)>>=λu1=>assignInOrder (es.map λe=>assign e κ.env) us') _ _ _
    refine aL (aH (post ((assign_ok (x:=.d x) hh p h1 (b1 hge) S T zx).use hb) λu1 s2 ⟨g2,T2⟩=>?_))
    exact post ((assigns_ok hh ps h2 (b2 hge) (Nat.succ.inj hl) g2.hs T2 (zr.step (g2.exF S λf=>(T.frB f).1))).use hb2) λu1 s3 ⟨g3,T3⟩=>⟨g2.trf g3 T,T3⟩
end
noncomputable def Apart (κ:Cx ce) (fr:Addr->Prop) (wr:List Addr):Prop:=∀ {b},b∈wr->¬ fr b/\b≠κ.env.locals/\∀ {x n c},slot ce x=some n->κ.env.kindOf x≠some .local->κ.env.cells.lookup x=some c->b≠c
theorem wpAny_trueE {α:Type} {M:Model} {A:Around} {t:Sem α} {Q:α->Shared->Prop} {E:Value->Shared->Prop} {s:Shared} (h:wpAny M A t Q NoE s):wpAny M A t Q E s:=wpAny_mono h (λu1 u2 q=>q) λu1 u2 e=>e.elim
theorem ItAt.turn {items:List V} {lock tp:Bool} {wr:List Addr} {i m:Nat} {it:Value} {tgt:Expr} {p:Pat} {x:V} {vs':Vars} (I:ItAt κ.W A items lock tp wr i it σ) (htp:tp=true->p.isTup=true) (hx:items[i]?=some x) (hp:patOf m ce tgt=some p) (hge:p.ge lo=true) (hh:A.handled=none)
  (S:HS κ.W σ) (T:VS κ lo fr σ vs) (ap:Apart κ fr wr) (hb:bindP p x vs=some vs') :
  wpAny κ.W.m A (pyNext it) (λrv s'=>∃ v,rv=some v/\wpAny κ.W.m A (letOwnedTupleGo tgt it v) (λu1 s2=>wpAny κ.W.m A (assign tgt κ.env v)
   (λu1 s3=>Go κ.W (λa=>fr a\/a∈wr) σ (σ.at s3)/\VS κ lo fr (σ.at s3) vs'/\ItAt κ.W A items lock tp wr (i+1) it (σ.at s3)) NoE s2) NoE s') NoE σ.s:=by
 cases I with
 | mk I fp P Pt St e w st hwr hfp hit hitT=>
  subst e
  have tgt':tp=true->∃ es k p,tgt=.Tuple es k p:=λz=>match p,pat_inv hp,htp z with
   | .tup u1,h,_=>xeeeea h λu1 es k p e u2=>⟨es,k,p,e⟩
  refine w.turn (aa.mp hx).1 st tgt' λv h tk hP hst hk=>?_
  have g:Go κ.W (·∈wr) σ (σ.at { σ.s with heap:=h,toks:=tk }):=Go.frames S (λm=>(hwr _ m).1) (λm=>(hwr _ m).2) hk λm=>w.ex hst _ m
  have X:=g.exF S λm=>(hwr _ m).1
  have T1:=T.goFr S g (λm=>(ap m).2.1 rfl) (λe k f m=>(ap m).2.2 e k f rfl) λm=>(hwr _ m).1
  have I1:ItAt κ.W A items lock tp wr (i+1) (.ref I) (σ.at { σ.s with heap:=h,toks:=tk }):=⟨I,fp,P,Pt,St,rfl,w,hst,hwr,λb m=>(hfp b m).imp id λ⟨⟨o,e⟩,z⟩=>⟨g.ex e,z⟩,λp e=>(hit p e).step X (.refl _),λp e=>xea (hitT p e) λds e q=>⟨ds,e,q.step X⟩⟩
  have fin:∀ s3,SetTo κ lo fr (σ.at { σ.s with heap:=h,toks:=tk }) vs' s3->Go κ.W (λa=>fr a\/a∈wr) σ (σ.at s3)/\VS κ lo fr (σ.at s3) vs'/\ItAt κ.W A items lock tp wr (i+1) (.ref I) (σ.at s3):=λs3 ⟨g3,T3⟩=>
   ⟨(g.mono .inr).trans' (g3.mono .inl) .inl λq=>q.elim (λf=>(T.frB f).2) λm=>(hwr _ m).2,T3,I1.go g.hs g3 (λm=>(ap m).1) T1.frB λu1=>rfl⟩
  rcases hP with hP | ⟨tt,T',us,rfl,ht,hP⟩
  ·exact post ((assign_ok hh p hp hge g.hs T1 ((hit hP hx).step X (.refl _))).use hb) λu1=>fin
  ·refine xea (hitT hP hx) λds e q=>?_
   subst e
   cases p with
   | var j=>cases htp tt
   | tup ps=>exact post ((assignT_ok (assigns_ok hh ps) hh hp hge g.hs T1 (.inr ⟨T',us,ds,rfl,rfl,ht,q.step X⟩)).use hb) λu1=>fin
end
theorem Ow.seq {α β γ:Type} {M:Model} {A:Around} {s:Shared} {o:Option α} {g:α->Option γ} {t:Sem β} {R:α->β->Shared->Prop} {K:γ->β->Shared->Prop} (h:Ow o λa=>wpAny M A t (R a) NoE s) (k:∀ a v s',R a v s'->Ow (g a) λc=>K c v s'):Ow (o.bind g) λc=>wpAny M A t (K c) NoE s:=
 .be λa e=>.of λc ec=>post (h.use e) λv s' r=>(k a v s' r).use ec
theorem Ow.seqm {α β γ:Type} {M:Model} {A:Around} {s:Shared} {o:Option α} {g:α->γ} {t:Sem β} {R:α->β->Shared->Prop} {K:γ->β->Shared->Prop} (h:Ow o λa=>wpAny M A t (R a) NoE s) (k:∀ a v s',R a v s'->K (g a) v s'):Ow (o.map g) λc=>wpAny M A t (K c) NoE s:=
 .me λa e=>post (h.use e) (k a)
theorem Ow.bs {α β:Type} {o:Option α} {g:α->β} {Q:β->Prop} (h:Ow (o.bind λa=>some (g a)) Q):Ow (o.map g) Q:=by
 cases o with
 | none=>exact aO
 | some a=>exact h
section
variable {ce:CE} {κ:Cx ce} {lo:Nat} {σ τ:Sg} {f:Ev} {t:Sem Value} {γ:Type}
noncomputable def EOK (κ:Cx ce) (t:Sem Value) (f:Ev):Prop:=∀ {lo σ} (P:Pt κ lo σ),Ow (f P.vs σ.H) λo=>wpAny κ.W.m P.A t (EP κ.W σ o) NoE σ.s
abbrev XE (κ:Cx ce) (e:Expr) (x:X):Prop:=EOK κ (eval e κ.env) (evalX κ.Φ x)
theorem EOK.seq {g:V×Hp->Option γ} {K:γ->Value->Shared->Prop} (h:EOK κ t f) (P:Pt κ lo σ) (k:∀ x τ,Gn κ.W σ τ->∀ v,Vv κ.W τ v x->Ow (g (x,τ.H)) λo=>K o v τ.s):Ow ((f P.vs σ.H).bind g) λo=>wpAny κ.W.m P.A t (K o) NoE σ.s:=
 Ow.seq (h P) λa u1 s' q=>match q with | ⟨_,_,g,q⟩=>k a.1 _ g _ q
theorem EOK.seqm {g:V×Hp->γ} {K:γ->Value->Shared->Prop} (h:EOK κ t f) (P:Pt κ lo σ) (k:∀ x τ,Gn κ.W σ τ->∀ v,Vv κ.W τ v x->K (g (x,τ.H)) v τ.s):Ow ((f P.vs σ.H).map g) λo=>wpAny κ.W.m P.A t (K o) NoE σ.s:=
 Ow.seqm (h P) λa u1 s' q=>match q with | ⟨_,_,g,q⟩=>k a.1 _ g _ q
inductive TP (W:Wd) (σ:Sg) (o:Bool×Hp) (c:Bool) (s:Shared):Prop
 | mk (e:c=o.1) (ban:Addr->Prop) (r:Rho) (g:Gn W σ ⟨ban,r,o.2,s⟩)
noncomputable def TOK (κ:Cx ce) (t:Sem Bool) (f:Ev):Prop:=∀ {lo σ} (P:Pt κ lo σ),Ow ((f P.vs σ.H).bind λp=>(truthV p.1).map λb=>(b,p.2)) λo=>wpAny κ.W.m P.A t (TP κ.W σ o) NoE σ.s
abbrev XT (κ:Cx ce) (e:Expr) (x:X):Prop:=TOK κ (isTrue e κ.env (eval e κ.env)) (evalX κ.Φ x)
theorem truth_eq {x:V} {b:Bool} (e:truthV x=some b):x=.d (.bool b):=by
 cases x with
 | d d=>cases d with
  | bool c=>cases e;rfl
  | _=>exact noS e
 | _=>exact noS e
theorem TOK.seq {t:Sem Bool} {g:V×Hp->Bool->Option γ} {K:γ->Bool->Shared->Prop} (h:TOK κ t f) (P:Pt κ lo σ) (k:∀ b τ,Gn κ.W σ τ->Ow (g (.d (.bool b),τ.H) b) λo=>K o b τ.s):Ow ((f P.vs σ.H).bind λp=>(truthV p.1).bind (g p)) λo=>wpAny κ.W.m P.A t (K o) NoE σ.s:=
 Ow.be λa e=>Ow.be λb eb=>Ow.of λc ec=>by
  refine post ((h P).use (a:=(b,a.2)) (by rw [e];show (truthV a.1).map _=_;rw [eb];rfl)) λv s' q=>?_
  cases q with
  | mk e ban r g=>
   have z:=k b _ g
   rw [← truth_eq eb] at z
   exact (e:v=b)▸z.use ec
theorem TP.from {o:Bool×Hp} {c:Bool} {s:Shared} (g:Gn κ.W σ τ) (q:TP κ.W τ o c s):TP κ.W σ o c s:=match q with | ⟨e,b,r,k⟩=>⟨e,b,r,g.tr k⟩
theorem EOK.fin (h:EOK κ t f) (P:Pt κ lo σ) (g:Gn κ.W σ τ) {H:Hp} (e:H=τ.H):Ow (f P.vs H) λo=>wpAny κ.W.m P.A t (EP κ.W σ o) NoE τ.s:=by
 subst e;exact Ow.mono (λo z=>post z λu1 u2 q=>q.from g) (h (P.go g))
theorem Room.c80 {n:Nat} {A:Around} (R:Room n A):A.units+80 < cLine:=R.room (by decide)
theorem ok_none {k:Nat} {p:Pos}:XE κ (.Constant .none k p) .none:=λP=>wpAny_Constant_none (.here P.S rfl)
theorem ok_bool {b:Bool} {k:Nat} {p:Pos}:XE κ (.Constant (.bool b) k p) (.bool b):=λP=>wpAny_Constant_bool (.here P.S rfl)
theorem ok_int {i:Int} {k:Nat} {p:Pos}:XE κ (.Constant (.int i) k p) (.int i):=λP=>wpAny_Constant_int (.int P.S)
theorem ok_str {x:Str} {k:Nat} {p:Pos}:XE κ (.Constant (.str x) k p) (.str x):=λP=>wpAny_Constant_str (.tok P.S ⟨_,rfl⟩)
theorem slot_name {x:Str} {i:Nat} (hx:slot ce x=some i):(x==("__debug__":Str))=false/\(x==("__classdict__":Str))=false:=by
 unfold slot at hx
 by_cases h:(x==("__debug__":Str)||x==("__classdict__":Str))=true
 ·rw [aQ h] at hx;exact noS hx
 ·exact ⟨Bool.eq_false_iff.mpr λz=>h (Bool.or_eq_true_iff.mpr (.inl z)),Bool.eq_false_iff.mpr λz=>h (Bool.or_eq_true_iff.mpr (.inr z))⟩
theorem load_ok {A:Around} {E:Value->Shared->Prop} {fr:Addr->Prop} {vs:Vars} {x:Str} {i:Nat} {p:Pos} {Q:V->Value->Shared->Prop} (T:VS κ lo fr σ vs) (hx:slot ce x=some i) (h:∀ X v,Vv κ.W σ v X->Q X v σ.s):Ow (vs[i]?).join λX=>wpAny κ.W.m A (eval (.Name x p) κ.env) (Q X) E σ.s:=.of λX hi=>by
 have hi:vs[i]?=some (some X):=by
  cases e:vs[i]? with
  | none=>rw [e] at hi;exact noS hi
  | some o=>rw [e] at hi;exact aN some hi
 refine xa (slot_name hx) λhd hc=>xea (T.vars hx hi) λv q z=>wpAny_Name ?_ hd
 rcases q with ⟨k,m,nm,e⟩ | ⟨k,c,ec,ic⟩
 ·exact wpAny_loadName_local κ.N.kind k nm e (h X v z)
 ·rcases k with k | k
  ·exact wpAny_loadName_cell κ.N.kind k ec ic (h X v z)
  ·exact wpAny_loadName_free κ.N.kind k ec ic (h X v z) hc
theorem ok_var {x:Str} {i:Nat} {p:Pos} (hx:slot ce x=some i):XE κ (.Name x p) (.var i):=λP=>.m (load_ok (Q:=λX v s=>EP κ.W _ (X,_) v s) P.T hx λu1 u2 z=>.here P.S z)
theorem ok_gstr {x s0:Str} {p:Pos} (hg:glob ce x=true) (hc:gConsts.lookup x=some s0):XE κ (.Name x p) (.gstr x s0):=λP=>by
 obtain ⟨mg,mb,n1,n2,n3,u1⟩:=κ.O.g
 refine xe (n3 x s0 hc) λt e=>?_
 exact Name_function_global κ.N.kind (κ.N.glob x hg) (loadGlobal_global (by rw [κ.N.glo];exact n1.at' λu1=>P.S.keep) e (.here P.S ⟨_,rfl⟩)) (Bool.eq_false_iff.mpr λz=>bne_iff_ne.mp (b2 hg) (eq_of_beq z))
theorem ok_bin {a b:Expr} {op:BOp} {p:Pos} {xa xb:X} (ha:XE κ a xa) (hb:XE κ b xb):XE κ (.BinOp a (opOf op) b p) (.bin op xa xb):=λP=>by
 refine Ow.mono (λo h=>wpAny_BinOp h) (ha.seq P λx τ1 g1 va q1=>hb.seq (P.go g1) λy τ2 g2 vb q2=>?_)
 exact Ow.m (Ow.mono (λz h=>post h λu1 u2 q=>q.from (Go.tr g1 g2)) (bin_ok g2.hs va (Go.vv g2 g1.hs q1) vb q2))
theorem ok_neg {a:Expr} {p:Pos} {xa:X} (ha:XE κ a xa):XE κ (.UnaryOp .USub a p) (.neg xa):=λP=>by
 refine Ow.mono (λo h=>wpAny_UnaryOp h) (ha.seq P λx τ1 g1=>?_)
 refine Ow.vm λv q=>?_
 revert v
 refine λv q=>Ow.of λi e=>?_
 cases x with
 | d d=>cases d with
  | int j=>cases e;exact xe q λt e=>by subst e;exact PyProof.Rows.neg_int ((EP.int g1.hs).from g1)
  | _=>exact noS e
 | _=>exact noS e
theorem not_bool {A:Around} {v:Value} {x:V} {b:Bool} {Q:Bool->Shared->Prop} {E:Value->Shared->Prop} (e:truthV x=some b) (q:Vv κ.W σ v x) (h:Q b σ.s):wpAny κ.W.m A (truthy v) Q E σ.s:=by
 cases truth_eq e;cases (q:v=.bool b);exact wpAny_of_eq (rfl:truthy (.bool _)=pure _) h
theorem ok_not {a:Expr} {p:Pos} {xa:X} (ha:XE κ a xa):XE κ (.UnaryOp .Not a p) (.not xa):=λP=>
 Ow.mono (λo h=>wpAny_UnaryOp h) (ha.seq P λx τ1 g1 v q=>.me λb e=>not_value (not_bool e q ((EP.here (x:=.d (.bool (!b))) g1.hs rfl).from g1)))
theorem tst_value {e:Expr} {f:Ev} (ha:EOK κ (eval e κ.env) f) (he:isTrue e κ.env (eval e κ.env)=(do let v ← eval e κ.env;standAt e.pos;holding [v] (truthy v))):TOK κ (isTrue e κ.env (eval e κ.env)) f:=λP=>
 Ow.mono (λo h=>wpAny_isTrue_value h he) (ha.seq P λx τ1 g1 v q=>.me λb e=>not_bool e q ⟨rfl,_,_,g1⟩)
theorem tst_not {a:Expr} {p:Pos} {xa:X} (ha:XT κ a xa):XT κ (.UnaryOp .Not a p) (.not xa):=λP=>.of λo eo=>by
 refine bC eo λp e1 e2=>bC e1 λq e3 e4=>xea (ai.mp e4) λb e5 e6=>?_
 subst e6
 cases e2
 refine wpAny_isTrue_Not (post ((ha P).use (a:=(b,q.2)) (by rw [e3];show (truthV q.1).map _=_;rw [e5];rfl)) λc s z=>?_)
 cases z with | mk e ban r g=>subst e;exact ⟨rfl,ban,r,g⟩
theorem ok_and {a b:Expr} {p:Pos} {xa xb:X} (ha:XE κ a xa) (hb:XE κ b xb):XE κ (.BoolOp .And [a,b] p) (.and xa xb):=λP=>
 Ow.mono (λo h=>wpAny_And2 h) (ha.seq P λx τ1 g1=>ow_bb λc q=>match c with
  | true=>Ow.mono (λo z=>wpAny_of_eq (rfl:truthy (.bool _)=pure _) z) (hb.fin P g1 rfl)
  | false=>wpAny_of_eq (rfl:truthy (.bool _)=pure _) ((EP.here g1.hs q).from g1))
theorem ok_or {a b:Expr} {p:Pos} {xa xb:X} (ha:XE κ a xa) (hb:XE κ b xb):XE κ (.BoolOp .Or [a,b] p) (.or xa xb):=λP=>
 Ow.mono (λo h=>wpAny_Or2 h) (ha.seq P λx τ1 g1=>ow_bb λc q=>match c with
  | false=>Ow.mono (λo z=>wpAny_of_eq (rfl:truthy (.bool _)=pure _) z) (hb.fin P g1 rfl)
  | true=>wpAny_of_eq (rfl:truthy (.bool _)=pure _) ((EP.here g1.hs q).from g1))
end
section
variable {ce:CE} {κ:Cx ce} {lo:Nat} {σ τ:Sg} {f:Ev} {γ:Type}
theorem and3_eq {a b c:Expr} {p:Pos} {env:Env}:eval (.BoolOp .And [a,b,c] p) env=(do
  let v ← eval a env
  standAt p
  let t ← holding [v] (truthy v)
  match BoolOp.And,t with
  | .And,false | .Or,true=>pure v
  | _,_=>eval (.BoolOp .And [b,c] p) env):=rfl
theorem or3_eq {a b c:Expr} {p:Pos} {env:Env}:eval (.BoolOp .Or [a,b,c] p) env=(do
  let v ← eval a env
  standAt p
  let t ← holding [v] (truthy v)
  match BoolOp.Or,t with
  | .And,false | .Or,true=>pure v
  | _,_=>eval (.BoolOp .Or [b,c] p) env):=rfl
theorem ok_and3 {a b c:Expr} {p:Pos} {xa xb:X} (ha:XE κ a xa) (hb:XE κ (.BoolOp .And [b,c] p) xb):XE κ (.BoolOp .And [a,b,c] p) (.and xa xb):=λP=>by
 rw [and3_eq]
 exact Ow.mono (λo h=>aL h) (ha.seq P λx τ1 g1=>ow_bb λc q=>match c with
  | true=>Ow.mono (λo z=>aL (wpAny_standAt (aL (aH (wpAny_of_eq (rfl:truthy (.bool _)=pure _) z))))) (hb.fin P g1 rfl)
  | false=>aL (wpAny_standAt (aL (aH (wpAny_of_eq (rfl:truthy (.bool _)=pure _) (aM ((EP.here g1.hs q).from g1)))))))
theorem ok_or3 {a b c:Expr} {p:Pos} {xa xb:X} (ha:XE κ a xa) (hb:XE κ (.BoolOp .Or [b,c] p) xb):XE κ (.BoolOp .Or [a,b,c] p) (.or xa xb):=λP=>by
 rw [or3_eq]
 exact Ow.mono (λo h=>aL h) (ha.seq P λx τ1 g1=>ow_bb λc q=>match c with
  | false=>Ow.mono (λo z=>aL (wpAny_standAt (aL (aH (wpAny_of_eq (rfl:truthy (.bool _)=pure _) z))))) (hb.fin P g1 rfl)
  | true=>aL (wpAny_standAt (aL (aH (wpAny_of_eq (rfl:truthy (.bool _)=pure _) (aM ((EP.here g1.hs q).from g1)))))))
theorem TOK.fin {t:Sem Bool} (h:TOK κ t f) (P:Pt κ lo σ) (g:Gn κ.W σ τ) {H:Hp} (e:H=τ.H):Ow ((f P.vs H).bind λp=>(truthV p.1).map λb=>(b,p.2)) λo=>wpAny κ.W.m P.A t (TP κ.W σ o) NoE τ.s:=by
 subst e;exact Ow.mono (λo z=>post z λu1 u2 q=>q.from g) (h (P.go g))
theorem all_and_last {b:Expr} (hb:TOK κ (isTrue b κ.env (eval b κ.env)) f):TOK κ (allTrue .And [b] κ.env) f:=λP=>
 Ow.mono (λo h=>wpAny_allTrue_And_cons (post h λc s q=>match c,q with
  | true,q=>wpAny_allTrue_And_nil q
  | false,q=>q)) (hb P)
theorem all_or_last {b:Expr} (hb:TOK κ (isTrue b κ.env (eval b κ.env)) f):TOK κ (allTrue .Or [b] κ.env) f:=λP=>
 Ow.mono (λo h=>wpAny_allTrue_Or_cons (post h λc s q=>match c,q with
  | false,q=>wpAny_allTrue_Or_nil q
  | true,q=>q)) (hb P)
theorem Ow.assoc {α β γ δ:Type} {o:Option α} {t:α->Option β} {f:α->β->Option γ} {g:γ->Option δ} {Q:δ->Prop} (h:Ow (o.bind λa=>(t a).bind λb=>(f a b).bind g) Q):Ow ((o.bind λa=>(t a).bind (f a)).bind g) Q:=by
 cases o with
 | none=>exact aO
 | some a=>
  show Ow (((t a).bind (f a)).bind g) Q
  revert h
  show Ow ((t a).bind _) Q->_
  cases t a with
  | none=>exact id
  | some b=>exact id
theorem all_and {a:Expr} {l:List Expr} {xa xb:X} (ha:XT κ a xa) (hb:TOK κ (allTrue .And l κ.env) (evalX κ.Φ xb)):TOK κ (allTrue .And (a::l) κ.env) (evalX κ.Φ (.and xa xb)):=λP=>by
 refine Ow.mono (λo h=>wpAny_allTrue_And_cons h) (Ow.assoc (ha.seq P λc τ g=>?_))
 cases c with
 | true=>exact hb.fin P g rfl
 | false=>exact ⟨rfl,_,_,g⟩
theorem all_or {a:Expr} {l:List Expr} {xa xb:X} (ha:XT κ a xa) (hb:TOK κ (allTrue .Or l κ.env) (evalX κ.Φ xb)):TOK κ (allTrue .Or (a::l) κ.env) (evalX κ.Φ (.or xa xb)):=λP=>by
 refine Ow.mono (λo h=>wpAny_allTrue_Or_cons h) (Ow.assoc (ha.seq P λc τ g=>?_))
 cases c with
 | false=>exact hb.fin P g rfl
 | true=>exact ⟨rfl,_,_,g⟩
theorem tst_bool {op:BoolOp} {l:List Expr} {p:Pos} (h:TOK κ (allTrue op l κ.env) f):TOK κ (isTrue (.BoolOp op l p) κ.env (eval (.BoolOp op l p) κ.env)) f:=λP=>Ow.mono (λo h=>wpAny_isTrue_BoolOp h) (h P)
theorem ok_cmp {a b:Expr} {op:COp} {p:Pos} {xa xb:X} (ha:XE κ a xa) (hb:XE κ b xb) (hm:behindInMarks (copTo op) b=false):XE κ (.Compare a [copTo op] [b] p) (.cmp op xa xb):=λP=>by
 refine Ow.mono (λo h=>wpAny_Compare1 h hm) (ha.seq P λx τ1 g1 va q1=>hb.seq (P.go g1) λy τ2 g2 vb q2=>?_)
 exact Ow.m (Ow.mono (λz h=>h λtk=>(EP.bool g2.hs).from (Go.tr g1 g2)) (cmp_ok P.R.c80 g2.hs va (Go.vv g2 g1.hs q1) vb q2))
theorem Ow.as {α β γ:Type} {o:Option α} {f:α->Option β} {g:β->Option γ} {Q:γ->Prop} (h:Ow (o.bind λa=>(f a).bind g) Q):Ow ((o.bind f).bind g) Q:=by
 cases o with
 | none=>exact aO
 | some a=>exact h
theorem tst_cmp {a b:Expr} {op:COp} {p:Pos} {xa xb:X} (ha:XE κ a xa) (hb:XE κ b xb) (hm:behindInMarks (copTo op) b=false):XT κ (.Compare a [copTo op] [b] p) (.cmp op xa xb):=λ{lo σ} P=>by
 refine Ow.mono (λo h=>wpAny_isTrue_Compare1 h hm) (Ow.as (ha.seq P λx τ1 g1 va q1=>Ow.as (hb.seq (P.go g1) λy τ2 g2 vb q2=>Ow.b (Ow.m (Ow.mono (λz h=>?_) (cmp_ok (E:=NoE) (Q:=λb v s=>wpAny κ.W.m P.A (truthy v) (TP κ.W σ (b,τ2.H)) NoE s) P.R.c80 g2.hs va (Go.vv g2 g1.hs q1) vb q2))))))
 exact h λtk=>wpAny_of_eq (rfl:truthy (.bool _)=pure _) ⟨rfl,_,_,Go.tr (Go.tr g1 g2) (Go.toks g2.hs)⟩
theorem ok_ite {c a b:Expr} {p:Pos} {xc xa xb:X} (hc:XT κ c xc) (ha:XE κ a xa) (hb:XE κ b xb):XE κ (.IfExp c a b p) (.ite xc xa xb):=λP=>by
 refine Ow.mono (λo h=>wpAny_IfExp h) (hc.seq P λb τ g=>?_)
 cases b with
 | true=>exact ha.fin P g rfl
 | false=>exact hb.fin P g rfl
theorem fresh_sm {W:Wd} (O:WdOK W) (S:HS W σ):(σ.s.heap.objs.size==sysModules)=false:=by
 refine xeea O.big λa o h1 h2=>beq_eq_false_iff_ne.mpr λ(e:σ.s.heap.objs.size=1)=>?_
 have:=Heap.lt_size (S.keep h2)
 rw [e] at this
 exact absurd (au h1 this) (Nat.lt_irrefl _)
inductive NP (W:Wd) (σ:Sg) (o:O×Hp) (v:Value) (s:Shared):Prop
 | mk (a:Addr) (ban:Addr->Prop) (r:Rho) (e:v=.ref a) (g:Gn W σ ⟨ban,r,o.2,s⟩) (f:σ.s.heap.get? a=none) (b:ban a) (l:¬ Live r a) (q:OO W s.heap ban r a o.1)
section
variable {W:Wd} {o:O×Hp} {v:Value} {s:Shared}
theorem NP.from (g:Gn W σ τ) (q:NP W τ o v s):NP W σ o v s:=match q with | ⟨a,b,r,e,g',fa,h1,h2,h3⟩=>⟨a,b,r,e,g.tr g',g.fresh fa,h1,h2,h3⟩
theorem pushX (S:HS W σ) (ob:Obj):Ex σ.s.heap σ.ban (σ.s.heap.push ob) λa=>σ.ban a\/a∈[σ.s.heap.objs.size]:=⟨λu1 e=>ah _ e,λe=>e.imp id λm=>by rw [ao.mp m];exact none_size _⟩
theorem Go.pushed {ob:Obj} {tk:Nat} (S:HS W σ) (hf:ob.isFreed=false):Gn W σ ⟨λa=>σ.ban a\/a∈[σ.s.heap.objs.size],σ.r,σ.H,{ σ.s with heap:=σ.s.heap.push ob,toks:=tk }⟩:=
 Go.more S (λe=>ah _ e) λb m=>by rw [ao.mp m];exact ⟨none_size _,_,am _ hf⟩
theorem NP.push {x:O} {ob:Obj} {tk:Nat} (S:HS W σ) (hf:ob.isFreed=false) (q:OO W (σ.s.heap.push ob) (λa=>σ.ban a\/a∈[σ.s.heap.objs.size]) σ.r σ.s.heap.objs.size x):NP W σ (x,σ.H) (.ref σ.s.heap.objs.size) { σ.s with heap:=σ.s.heap.push ob,toks:=tk }:=
 ⟨_,_,σ.r,rfl,Go.pushed S hf,none_size _,.inr (.head _),λl=>S.fresh (S.liveB l),q⟩
theorem NP.close {a:Addr} {x:V} {ban:Addr->Prop} {r:Rho} {H:Hp} (g:Gn W σ ⟨ban,r,H,s⟩) (fa:σ.s.heap.get? a=none) (ha:ban a) (hl:¬ Live r a) (q:VV W s.heap (λb=>ban b/\b∉[a]) r (.ref a) x):EP W σ (x,H) (.ref a) s:=
 ⟨_,r,Go.close (wr:=[a]) (h':=s.heap) (tk:=s.toks) g (λm=>(ao.mp m)▸fa) (λm=>(ao.mp m)▸hl) (λm=>(ao.mp m)▸ha) λu1 e=>e,q⟩
theorem notIn1 {a:Addr} {P:Addr->Prop}:¬ (P a/\a∉[a]):=λz=>z.2 (.head _)
theorem NP.list {ds:List D} {H:Hp} (q:NP W σ (.list (ds.map .d),H) v s):EP W σ (.d (.list ds),H) v s:=by
 obtain ⟨a,ban,r,rfl,g,fa,ha,hl,us,m,e,q⟩:=q
 exact NP.close g fa ha hl ⟨a,us,m,rfl,e,notIn1,q.toD.step ⟨λu1 e=>e,λe=>.inl e.1⟩⟩
theorem NP.dict {ks:List Key} {ds:List D} {H:Hp} (q:NP W σ (.dict ks (ds.map .d),H) v s):EP W σ (.d (.dict ks ds),H) v s:=by
 obtain ⟨a,ban,r,rfl,g,fa,ha,hl,es,m,D,q⟩:=q
 exact NP.close g fa ha hl ⟨a,es,m,rfl,D.step ⟨λu1 e=>e,λe=>.inl e.1⟩ D.at_,notIn1,q.toD.step ⟨λu1 e=>e,λe=>.inl e.1⟩⟩
theorem NP.adopt (q:NP W σ o v s):EP W σ (.ref o.2.o.length,o.2.new o.1) v s:=by
 obtain ⟨a,ban,r,rfl,g,fa,ha,hl,q⟩:=q
 exact xa (Go.adopt g fa ha hl q rfl) λg q=>⟨_,_,g,q⟩
end
noncomputable def NOK (κ:Cx ce) (t:Sem Value) (f:Vars->Hp->Option (O×Hp)):Prop:=∀ {lo σ} (P:Pt κ lo σ),Ow (f P.vs σ.H) λo=>wpAny κ.W.m P.A t (NP κ.W σ o) NoE σ.s
abbrev XN (κ:Cx ce) (e:Expr) (x:X):Prop:=NOK κ (eval e κ.env) (evalNew κ.Φ x)
noncomputable def IOK (κ:Cx ce) (es:List Expr) (xs:List X):Prop:=All2 (λe x=>XE κ e x/\∀ e0 p,e≠.Starred e0 p) es xs
theorem starEach_cons {e:Expr} {rest:List Expr} {env:Env} (h:∀ e0 p,e≠.Starred e0 p):starEach (e::rest) env=(false,eval e env)::starEach rest env:=by
 cases e with
 | Starred=>exact absurd rfl (h _ _)
 | _=>rfl
inductive IP (W:Wd) (σ:Sg) (o:List V×Hp) (us:List Value) (s:Shared):Prop
 | mk (ban:Addr->Prop) (r:Rho) (g:Gn W σ ⟨ban,r,o.2,s⟩) (q:VVs W s.heap ban r us o.1)
theorem items_ok:∀ {xs:List X} {es:List Expr} {lo:Nat} {σ:Sg} {pos:Pos},IOK κ es xs->∀ P:Pt κ lo σ,Ow (evalXs κ.Φ xs P.vs σ.H) λo=>wpAny κ.W.m P.A (spliced (backTo pos (starEach es κ.env))) (IP κ.W σ o) NoE σ.s
 | [],_,_,_,_,I,P=>by cases (I:_=[]);exact wpAny_items_nil ⟨_,_,.refl P.S,.nil⟩
 | x::xs,_,lo,σ,pos,I,P=>by
  refine All2.consE (P:=λes=>Ow _ λo=>wpAny κ.W.m P.A (spliced (backTo pos (starEach es κ.env))) (IP κ.W σ o) NoE σ.s) I λe es he I=>?_
  refine Ow.mono (λo h=>wpAny_items_cons h (starEach_cons he.2)) (EOK.seq he.1 P λy τ1 g1 v q1=>Ow.m (Ow.mono (λo h=>post h λus s q=>?_) (items_ok I (P.go g1))))
  cases q with | mk ban r g2 q=>exact ⟨ban,r,Go.tr g1 g2,.cons (Go.vv g2 g1.hs q1) q⟩
theorem IOK.seq {xs:List X} {es:List Expr} {pos:Pos} {g:List V×Hp->Option γ} {K:γ->List Value->Shared->Prop} (I:IOK κ es xs) (P:Pt κ lo σ) (k:∀ ys τ,Gn κ.W σ τ->ys.length=es.length->∀ us,Vs κ.W τ us ys->Ow (g (ys,τ.H)) λo=>K o us τ.s) :
  Ow ((evalXs κ.Φ xs P.vs σ.H).bind g) λo=>wpAny κ.W.m P.A (spliced (backTo pos (starEach es κ.env))) (K o) NoE σ.s:=
 have len:∀ {xs:List X} {vs:Vars} {H:Hp} {o},evalXs κ.Φ xs vs H=some o->o.1.length=xs.length:=λ{xs}=>by
  induction xs with
  | nil=>intro vs H o e;cases e;rfl
  | cons x xs ih=>exact λe=>bC e λp u1 e=>xea (ai.mp e) λq e2 e3=>by subst e3;exact aN (·+1) (ih e2)
 .be λa e=>.of λc ec=>post ((items_ok I P).use e) λus s' q=>match q with | ⟨_,_,g,q⟩=>(k a.1 _ g ((len e).trans (All2.length I).symm) _ q).use ec
theorem IOK.seqm {xs:List X} {es:List Expr} {pos:Pos} {g:List V×Hp->γ} {K:γ->List Value->Shared->Prop} (I:IOK κ es xs) (P:Pt κ lo σ) (k:∀ ys τ,Gn κ.W σ τ->ys.length=es.length->∀ us,Vs κ.W τ us ys->K (g (ys,τ.H)) us τ.s) :
  Ow ((evalXs κ.Φ xs P.vs σ.H).map g) λo=>wpAny κ.W.m P.A (spliced (backTo pos (starEach es κ.env))) (K o) NoE σ.s:=.bs (I.seq P k)
theorem IOK.small {es:List Expr} {us:List Value} {ys:List V} (q:Vs κ.W τ us ys) (l:ys.length=es.length) (hl:es.length<=20):us.length<=sizeLine:=by
 rw [All2.length q,l];exact lt_line (aI hl (by decide))
theorem ok_tup {es:List Expr} {k:Nat} {p:Pos} {xs:List X} (I:IOK κ es xs) (hl:es.length<=20):XE κ (.Tuple es k p) (.tup xs):=λP=>by
 refine Ow.mono (λo h=>wpAny_Tuple h) (I.seq P λys τ g l us q=>.m (Ow.mono (λds q'=>⟨IOK.small q l hl,?_⟩) (ow_alls q)))
 exact (EP.push (x:=.d (.tup ds)) (tk:=τ.s.toks) g.hs (HS.newTup g.hs q')).from g
theorem new_list {es:List Expr} {p:Pos} {xs:List X} (I:IOK κ es xs) (hl:es.length<=20):XN κ (.List es p) (.list xs):=λP=>
 Ow.mono (λo h=>wpAny_List h) (I.seqm P λys τ g l us q=>⟨IOK.small q l hl,(NP.push (x:=.list ys) (tk:=τ.s.toks) g.hs rfl ⟨us,0,am _ rfl,VVs.step (pushX g.hs _) (.refl _) q⟩).from g⟩)
theorem ok_list {es:List Expr} {p:Pos} {xs:List X} (I:IOK κ es xs) (hl:es.length<=20):XE κ (.List es p) (.list xs):=λP=>
 .be λa e=>.me λl el=>post ((new_list I hl P).use (a:=(.list a.1,a.2)) (by show (evalXs _ _ _ _).map _=_;rw [e];rfl)) λv s q=>NP.list (by
  rw [allM_some (λx y e=>dt_some e) el] at q;exact q)
end
theorem bn {b:Bool} (h:(!b)=true):b=false:=by
 cases b with
 | true=>cases h
 | false=>rfl
noncomputable def Kin (ks:List Key):Prop:=ks.Nodup/\∀ a∈ks,∀ b∈ks,sameKind a b=true
theorem Kin.nil:Kin []:=⟨.nil,nofun⟩
theorem Kin.cons {q:Key} {qs:List Key} (k:Kin qs) (h:qs.all (sameKind q)=true) (n:qs.contains q=false):Kin (q::qs):=
 have h:=List.all_eq_true.mp h
 ⟨List.nodup_cons.mpr ⟨λm=>Bool.noConfusion (n.symm.trans (List.contains_iff_mem.mpr m)),k.1⟩,λa ha b hb=>(aG.mp ha).elim (λe1=>(aG.mp hb).elim (λe2=>by rw [e1,e2];exact beq_self_eq_true _) λhb=>e1▸h b hb) λha=>(aG.mp hb).elim (λe2=>e2▸beq_iff_eq.mpr (eq_of_beq (h a ha)).symm) λhb=>k.2 a ha b hb⟩
theorem Kin.split {pre:List Key} {k:Key} {post:List Key} (h:Kin (pre++k::post)):pre.all (sameKind k)=true/\k∉pre/\Kin ((pre++[k])++post):=
 ⟨List.all_eq_true.mpr λa ha=>h.2 k (aj _ (.head _)) a (ak _ ha),λhm=>(az.mp h.1).2.2 k hm k (.head _) rfl,by rw [ax];exact h⟩
theorem idxK_of_not {ks:List Key} {k:Key} (h:k∉ks):idxK ks k=none:=by
 cases e:idxK ks k with
 | none=>rfl
 | some i=>exact absurd (List.mem_of_getElem? (idxK_some e)) h
section
variable {W:Wd} {A:Around} {ce:CE} {κ:Cx ce} {lo:Nat} {σ τ:Sg} {a:Addr} {ks:List Key} {es:List DictEntry} {m:Nat} {xs:List V} {ys:List V}
noncomputable def Fill (W:Wd) (σ:Sg) (a:Addr) (ks:List Key) (xs:List V):Prop:=∃ es m,DR σ.s.heap σ.ban a ks es m/\Vs W σ (es.map (·.val)) xs
theorem dictPush_ok {key v:Value} {k:Key} {y:V} (hu:A.units < cLine) (F:Fill W σ a ks xs) (hk:ks.all (sameKind k)=true) (hz:small ks.length=true) (hn:k∉ks) (S:HS W σ) (ha:σ.ban a) (hl:¬ Live σ.r a) (qk:KV σ.s.heap σ.ban key k) (qv:Vv W σ v y) :
  wpAny W.m A (dictSet a key v) (λu1 s=>Go W (·=a) σ (σ.at s)/\Fill W (σ.at s) a (ks++[k]) (xs++[y])) NoE σ.s:=by
 obtain ⟨es,m,D,qs⟩:=F
 unfold dictSet
 refine aH (aL (pyHash_ok hu qk λtk=>dictSetHashed_ok (s:={ σ.s with toks:=tk }) hu D hk qk hz λm'=>?_))
 have es':storeE es ks k key v=es++[(⟨hashK k,key,v⟩:DictEntry)]:=by unfold storeE;rw [idxK_of_not hn];rfl
 rw [es']
 have ho:=Heap.get?_update_self (λu1=>dctO (es++[(⟨hashK k,key,v⟩:DictEntry)]).toArray m') D.at_ rfl
 have g:Go W (·=a) σ (σ.at { σ.s with heap:=σ.s.heap.update a λu1=>dctO (es++[(⟨hashK k,key,v⟩:DictEntry)]).toArray m',toks:=tk }):=Go.frames S (λe=>e▸ha) (λe=>e▸hl) (λn e=>(Heap.get?_update_other _ _ (Ne.symm n)).trans e) λ{b} e=>by cases (e:b=a);exact ⟨_,ho⟩
 have X:=g.exF S λe=>e▸ha
 refine ⟨g,es++[(⟨hashK k,key,v⟩:DictEntry)],m',⟨ho,D.sm,az.mpr ⟨D.nodup,List.pairwise_singleton _ _,λx m y m' e=>hn ((ao.mp m')▸e▸m)⟩,(D.ents.append (.one ⟨rfl,qk⟩)).mono λu1 u2 z=>⟨z.1,z.2.step X⟩⟩,?_⟩
 rw [aC]
 exact VVs.step X (.refl _) (qs.append (.one qv))
theorem storeAll_ok (hu:A.units < cLine):∀ {qs:List Key} {kvs:List (Value×Value)} {ys:List V} {ks:List Key} {xs:List V} {σ:Sg},Fill W σ a ks xs->Kin (ks++qs)->(ks++qs).length<=60->HS W σ->σ.ban a->¬ Live σ.r a->All2 (KV σ.s.heap σ.ban) (kvs.map (·.1)) qs->Vs W σ (kvs.map (·.2)) ys ->
  wpAny W.m A (storeAll a kvs) (λu1 s=>Go W (·=a) σ (σ.at s)/\Fill W (σ.at s) a (ks++qs) (xs++ys)) NoE σ.s
 | [],kvs,ys,ks,xs,σ,F,_,_,S,_,_,q1,q2=>by
  cases List.map_eq_nil_iff.mp q1
  cases ys with
  | cons u1 u2=>cases All2.length q2
  | nil=>
   unfold storeAll
   rw [List.forIn_nil,List.append_nil,List.append_nil]
   exact aM ⟨.refl S,F⟩
 | k::qs,kvs,ys,ks,xs,σ,F,K,hz,S,ha,hl,q1,q2=>by
  cases kvs with
  | nil=>exact xeeaa q1 λu1 u2 e u3 u4=>nomatch e
  | cons kv kvs=>
   cases ys with
   | nil=>exact nomatch q2
   | cons y ys=>
    refine xeeaa q1 λu1 u2 e z1 q1=>xeeaa q2 λu1 u2 e' z2 q2=>xaa K.split λh1 h2 h3=>?_
    cases e;cases e'
    unfold storeAll
    rw [List.forIn_cons]
    have hz':ks.length < 60:=av (by rw [aq];exact Nat.lt_add_of_pos_right (Nat.succ_pos _)) hz
    refine aL (aL (post (dictPush_ok hu F h1 (aF hz') h2 S ha hl z1 z2) λu1 s1 ⟨g1,F1⟩=>aM ?_))
    have X:=g1.exF S λe=>e▸ha
    refine post (storeAll_ok (ks:=ks++[k]) (xs:=xs++[y]) hu F1 h3 (by rw [ax];exact hz) g1.hs ha hl (q1.mono λu1 u2=>KV.step X) (VVs.step X (.refl _) q2)) λu1 s2 ⟨g2,F2⟩=>?_
    rw [ax,ax] at F2
    exact ⟨g1.trans' g2 .inl λe=>e▸hl,F2⟩
noncomputable def POK (κ:Cx ce):List (Option Expr)->List Expr->List X->Prop
 | ks,vs,[]=>ks=[]/\vs=[]
 | _,_,[u1]=>False
 | ks,vs,xk::xv::xs=>∃ k v ks' vs',ks=some k::ks'/\vs=v::vs'/\XE κ k xk/\XE κ v xv/\POK κ ks' vs' xs
inductive PP (W:Wd) (σ:Sg) (o:List Key×List V×Hp) (l:Nat) (kvs:List (Value×Value)) (s:Shared):Prop
 | mk (ban:Addr->Prop) (r:Rho) (g:Gn W σ ⟨ban,r,o.2.2,s⟩) (q:All2 (KV s.heap ban) (kvs.map (·.1)) o.1) (z:VVs W s.heap ban r (kvs.map (·.2)) o.2.1) (k:Kin o.1) (l:o.1.length=l)
theorem pairs_ok:∀ {xs:List X} {kes:List (Option Expr)} {ves:List Expr} {lo:Nat} {σ:Sg} {pos:Pos},POK κ kes ves xs->∀ P:Pt κ lo σ,Ow (evalKV κ.Φ xs P.vs σ.H) λo=>wpAny κ.W.m P.A (evalPairs (pairTrees kes ves κ.env pos)) (PP κ.W σ o kes.length) NoE σ.s
 | [],_,_,_,_,_,I,P=>by obtain ⟨rfl,rfl⟩:=I;exact aM ⟨_,_,.refl P.S,.nil,.nil,.nil,rfl⟩
 | [u1],_,_,_,_,_,I,P=>I.elim
 | xk::xv::xs,kes,ves,lo,σ,pos,I,P=>by
  obtain ⟨k,v,ks',vs',rfl,rfl,hk,hv,I⟩:=I
  show Ow _ λo=>wpAny κ.W.m P.A (evalPairs (_::_)) _ NoE σ.s
  unfold evalPairs
  refine Ow.mono (λo h=>aL h) (hk.seq P λx τ1 g1 vk q1=>Ow.mono (λo h=>aL (aH (aL h))) (hv.seq (P.go g1) λy τ2 g2 vv q2=>?_))
  have q1':=Go.vv g2 g1.hs q1
  clear q1
  revert vk
  refine ow_dt λd vk q1=>Ow.b (Ow.mono (λq qk=>?_) (ow_key q1))
  refine Ow.mono (λo h=>aL (wpAny_standAt (aM (aL (aH h))))) (Ow.seq (pairs_ok I ((P.go g1).go g2)) λo kvs s z=>?_)
  cases z with
  | mk ban r g3 z1 z2 K l=>
   refine Ow.w λh=>aM ⟨ban,r,Go.tr (Go.tr g1 g2) g3,.cons (qk.step (Go.exn g3 g2.hs)) z1,.cons (Go.vv g3 g2.hs q2) z2,K.cons (b1 (b1 h)) (bn (b2 (b1 h))),aN (·+1) l⟩
theorem POK.keys:∀ {xs:List X} {kes:List (Option Expr)} {ves:List Expr},POK κ kes ves xs->kes.all (·.isSome)=true/\kes.length=ves.length
 | [],_,_,I=>by obtain ⟨rfl,rfl⟩:=I;exact ⟨rfl,rfl⟩
 | [u1],_,_,I=>I.elim
 | u1::_::_,_,_,I=>by obtain ⟨k,v,ks',vs',rfl,rfl,u1,u2,I⟩:=I;exact xa I.keys λh1 h2=>⟨h1,aN (·+1) h2⟩
theorem new_dict {kes:List (Option Expr)} {ves:List Expr} {p:Pos} {xs:List X} (I:POK κ kes ves xs) (hl:kes.length<=15):XN κ (.Dict kes ves p) (.dict xs):=λ{lo σ} P=>by
 have S:=P.S
 refine Ow.m (Ow.of λo eo=>?_)
 cases kes with
 | nil=>
  have e:xs=[]:=by
   match xs,I with
   | [],_=>rfl
   | [u1],I=>exact I.elim
   | u1::_::_,I=>obtain ⟨k,v,ks',vs',e,u1⟩:=I;cases e
  subst e
  obtain ⟨u1,rfl⟩:=I
  cases eo
  exact wpAny_Dict_empty (NP.push (x:=.dict [] []) (tk:=σ.s.toks) S rfl ⟨[],0,⟨am _ rfl,fresh_sm κ.O S,.nil,.nil⟩,.nil⟩)
 | cons k0 kr=>
  refine wpAny_Dict_any I.keys.1 I.keys.2 (λz=>nomatch z) hl ?_
  have g0:=Go.pushed (ob:={ cls:=.type "dict",data:=.dict #[] }) (tk:=σ.s.toks) S rfl
  have hb0:¬ Live σ.r σ.s.heap.objs.size:=λl=>S.fresh (S.liveB l)
  have ho0:(σ.s.heap.push { cls:=.type "dict",data:=.dict #[] }).get? σ.s.heap.objs.size=some (dctO #[] 0):=am _ rfl
  refine post ((pairs_ok I (P.go g0)).use eo) λkvs s1 z=>?_
  cases z with
  | mk ban1 r1 g1 q1 q2 K l=>
   have hl1:=g1.nlive hb0 ho0
   have hbn:ban1 σ.s.heap.objs.size:=g1.bst (.inr (.head _)) hb0 ho0
   refine post (storeAll_ok (xs:=[]) P.R.units ⟨[],0,⟨g1.keep hb0 id ho0,fresh_sm κ.O S,.nil,.nil⟩,.nil⟩ K (aI (Nat.le_of_eq l) (aI hl (by decide))) g1.hs hbn hl1 q1 q2) λu1 s2 ⟨g2,es,m,D,q⟩=>?_
   exact ⟨_,ban1,r1,rfl,(Go.tr g0 g1).trans' g2 (λe=>.inr (e▸none_size _)) λz=>z.elim,none_size _,hbn,hl1,es,m,D,q⟩
theorem ok_dict {kes:List (Option Expr)} {ves:List Expr} {p:Pos} {xs:List X} (I:POK κ kes ves xs) (hl:kes.length<=15):XE κ (.Dict kes ves p) (.dict xs):=λP=>
 .be λa e=>.me λl el=>post ((new_dict I hl P).use (a:=(.dict a.1 a.2.1,a.2.2)) (by show (evalKV _ _ _ _).map _=_;rw [e];rfl)) λv s q=>NP.dict (by
  rw [allM_some (λx y e=>dt_some e) el] at q;exact q)
theorem subTail {E:Value->Shared->Prop} {s:Shared} {value slice:Expr} {o i:Value} {T id:String} {Q:Value->Shared->Prop} (hT:s.TypeIs o T) (hl:typeLookup (.type T) "__getitem__"=pure (some (.builtin id))) (h:wpAny W.m A (getItem o i) Q E s):wpAny W.m A (subscriptTail value slice o i) Q E s:=by
 unfold subscriptTail
 rw [getitemInPython_of_ne hT.not_modules]
 have hs:∃ ops,subscripted slice false o i=operate ops (getItem o i):=by
  cases slice with
  | Slice a b c p=>cases c <;> exact ⟨_,rfl⟩
  | _=>exact ⟨_,rfl⟩
 have fin:wpAny W.m A (subscripted slice false o i) (λr s₃=>wpAny W.m A (letTemporaryGo value o r>>=λu1=>pure r) Q E s₃) E s:=xe hs λops hs=>by
  rw [hs]
  exact wpAny_operating (wpAny_mono h (λr s₃ h₃=>aL (wpAny_letTemporaryGo (aM h₃))) λu1 u2 x=>x)
 exact aL (aL (wpAny_specialOf hT hl (aM (aL fin))))
noncomputable def Sub (s:Shared) (v:Value):Prop:=∃ T id,s.TypeIs v T/\typeLookup (.type T) "__getitem__"=pure (some (.builtin id))
theorem Sub.list {s:Shared} {us:Array Value} (e:s.heap.get? a=some (lstO us m)):Sub s (.ref a):=⟨"list",_,⟨_,e,rfl⟩,slot_list_getitem.lookup⟩
theorem Sub.dict {s:Shared} {es:Array DictEntry} (e:s.heap.get? a=some (dctO es m)):Sub s (.ref a):=⟨"dict",_,⟨_,e,rfl⟩,slot_dict_getitem.lookup⟩
theorem item_type {x y:V} (S:HS W σ):∀ v,Vv W σ v x->Ow (itemV x y σ.H) λu1=>Sub σ.s v:=by
 intro v q
 cases y with
 | d k=>
  revert v
  refine ow_see (Q:=λv u1=>Sub σ.s v) (f:=λx=>(itemD k x).map .d) (g:=λo=>itemO k o) S rfl (λd v q=>match d,q with
   | .list u1,q=>.of λu1 u2=>xeeeaaa q λa us m e g u1 u2=>e▸.list g
   | .tup u1,q=>.of λu1 u2=>xeeeaaa q λa us m e g u1 u2=>e▸⟨"tuple",_,⟨_,g,rfl⟩,slot_tuple_getitem.lookup⟩
   | .dict ..,q=>.of λu1 u2=>xeeeaaa q λa us m e D u1 u2=>e▸.dict D.at_
   | .none,_=>aO | .bool _,_=>aO | .int _,_=>aO | .str _,_=>aO | .range _,_=>aO | .iset _,_=>aO) (λj x a hd r z=>match x,z with
   | .list u1,z=>.of λu1 u2=>xeea z λus m g u1=>.list g
   | .dict ..,z=>.of λu1 u2=>xeea z λes m D u1=>.dict D.at_
   | .inst ..,_=>aO | .tab,_=>aO | .tabD,_=>aO | .cell _,_=>aO | .dead,_=>aO) rfl
 | _=>exact aO
theorem ok_item {a b:Expr} {p:Pos} {xa xb:X} (ha:XE κ a xa) (hb:XE κ b xb):XE κ (.Subscript a b p) (.item xa xb):=λP=>by
 refine Ow.mono (λo h=>Subscript_ h) (ha.seq P λx τ1 g1 va q1=>hb.seq (P.go g1) λy τ2 g2 vb q2=>.me λz ez=>?_)
 have q1:=Go.vv g2 g1.hs q1
 refine xeea ((item_type g2.hs va q1).use ez) λT id hT hl=>?_
 exact subTail hT hl (post ((item_ok (P.R.room (by decide)) g2.hs va q1 vb q2).use ez) λu1 u2 q=>q.from (Go.tr g1 g2))
theorem ow_peekl {α:Type} {x:V} {f:List D->Option α} {Q:Value->α->Prop} (S:HS W σ) (k:∀ l a us m,σ.s.heap.get? a=some (lstO (List.toArray us) m)->VDs σ.s.heap σ.ban us l->Ow (f l) (Q (.ref a))):∀ v,Vv W σ v x->Ow ((peek x σ.H).bind λd=>d.ll.bind f) (Q v):=λv q=>by
 revert v
 intro v q
 cases x with
 | d d=>cases d with
  | list l=>exact xeeeaaa q λa us m e g u1 z=>by subst e;exact k l a us m g z
  | _=>exact aO
 | ref j=>
  show Ow (((σ.H.o[j]?).bind peekO).bind _) _
  cases ho:σ.H.o[j]? with
  | none=>exact aO
  | some o=>cases o with
   | list xs=>exact S.obj (G:=λv=>Ow (((alls xs).map D.list).bind λd=>d.ll.bind f) (Q v)) ho nofun q λa r z=>xeea z λus m g z=>(by
    cases el:alls xs with
    | none=>exact aO
    | some l=>exact k l a us m g ((ow_alls z).use el))
   | dict ks xs=>exact .of λa e=>bC e λd e1 e2=>xea (ai.mp e1) λl u1 e3=>by subst e3;exact noS e2
   | _=>exact aO
 | _=>exact aO
theorem slice_new {value:Expr} {us ws:List Value} {l u st:Value} {lo' hi' st':Option Int} {slice:Expr} {ds:List D} (S:HS W σ) (g:σ.s.heap.get? a=some (lstO us.toArray m)) (hz:us.length<=100)
  (p1:IsPart l lo') (p2:IsPart u hi') (p3:IsPart st st') (h0:st'≠some 0) (hw:slicePick us.toArray lo' hi' st'=ws.toArray) (q:VDs σ.s.heap σ.ban ws ds) :
  wpAny W.m A (subscriptTail value slice (.ref a) (.ref σ.s.heap.objs.size)) (EP W σ (.d (.list ds),σ.H)) NoE { σ.s with heap:=σ.s.heap.push { cls:=.type "slice",data:=.fields #[l,u,st] } }:=by
 have k0:∀ {b o},σ.s.heap.get? b=some o->(σ.s.heap.push { cls:=.type "slice",data:=.fields #[l,u,st] }).get? b=some o:=λe=>ah _ e
 have g0:Gn W σ (σ.to (σ.s.heap.push { cls:=.type "slice",data:=.fields #[l,u,st] }) σ.s.toks):=Go.grow S k0
 refine subTail (T:="list") ⟨_,k0 g,rfl⟩ slot_list_getitem.lookup (wpAny_getItem_list_slice (IsL.list (k0 g)) (Heap.IsSliceOf.new ..) p1 p2 p3 h0 ?_ (by rw [szA];exact lt_line (aI hz (by decide))))
 rw [hw]
 exact (EP.push (x:=.d (.list ds)) (tk:=σ.s.toks) g0.hs (HS.newList g0.hs (q.step (g0.exn S)))).from g0
theorem ok_rev {a:Expr} {p p1 p2 p3:Pos} {k:Nat} {xa:X} (ha:XE κ a xa):XE κ (.Subscript a (.Slice none none (some (.UnaryOp .USub (.Constant (.int 1) k p3) p2)) p1) p) (.rev xa):=λP=>by
 refine Ow.mono (λo h=>Subscript_ h) (ha.seq P λx τ1 g1=>Ow.vm λv q=>?_)
 refine Ow.mono (λo h=>wpAny_Slice (aM (aM (show wpAny _ _ (eval (.UnaryOp .USub (.Constant (.int 1) k p3) p2) κ.env) _ _ τ1.s from wpAny_UnaryOp (wpAny_Constant_int (PyProof.Rows.neg_int h)))))) ?_
 revert v
 refine ow_peekl g1.hs λl a us m g z=>Ow.w λh=>?_
 have gt:Gn κ.W τ1 (τ1.to τ1.s.heap (τ1.s.toks+1+1)):=Go.toks g1.hs
 refine post (slice_new (m:=m) (ws:=us.reverse) (ds:=l.reverse) gt.hs g (by rw [z.length];exact aI (Nat.le_of_lt (small_lt h)) (by decide)) .none .none (.int (-1) _) (by decide) (by rw [krv_pick]) (.of z.all2.reverse)) λv s q=>q.from (Go.tr g1 gt)
theorem ok_upto {a b:Expr} {p p1:Pos} {xa xb:X} (ha:XE κ a xa) (hb:XE κ b xb):XE κ (.Subscript a (.Slice none (some b) none p1) p) (.upto xa xb):=λP=>by
 refine Ow.mono (λo h=>Subscript_ h) (ha.seq P λx τ1 g1 v q1=>Ow.mono (λo h=>wpAny_Slice (aM (show wpAny _ _ (eval b κ.env) _ _ _ from h))) (hb.seq (P.go g1) λy τ2 g2 u q2=>?_))
 refine Ow.m (Ow.mono (λd h=>aM h) ?_)
 have q1':=Go.vv g2 g1.hs q1
 clear q1
 revert v
 refine ow_peekl g2.hs λl a us m g z=>?_
 revert u
 refine ow_ii λi t=>Ow.w λh=>?_
 have h0:=aw (b2 (b1 h))
 have hl:i.toNat<=us.toArray.size:=by rw [szA,z.length];exact aw (b2 h)
 refine post (slice_new (ws:=us.take i.toNat) (ds:=l.take i.toNat) g2.hs g (by rw [z.length];exact aI (Nat.le_of_lt (small_lt (b1 (b1 h)))) (by decide)) .none (.int i t) .none (by decide) ?_ (.of (z.all2.take _))) λv s q=>q.from (Go.tr g1 g2)
 have e:=slicePick_upto us.toArray i.toNat hl
 rw [Int.toNat_of_nonneg h0] at e
 rw [e]
theorem Ow.all {α ι:Type} {o:Option α} {Q:ι->α->Prop} (h:∀ i,Ow o (Q i)):Ow o λa=>∀ i,Q i a:=.of λa e i=>(h i).use e
theorem ok_chain {a b c:Expr} {o1 o2:COp} {p:Pos} {xa xb xc:X} (ha:XE κ a xa) (hb:XE κ b xb) (hc:XE κ c xc) (hm:behindInMarks (copTo o2) c=false):XE κ (.Compare a [copTo o1,copTo o2] [b,c] p) (.chain o1 o2 xa xb xc):=λP=>by
 have e0:eval (.Compare a [copTo o1,copTo o2] [b,c] p) κ.env=(do
   let left ← eval a κ.env
   let rv ← holding [left] (eval b κ.env)
   standAt p
   let c1 ← holding [left,rv] (compareOp (copTo o1) left rv)
   release [left,rv] [c1]
   if ← holding [c1,rv] (truthy c1) then (do
    let rv2 ← holding [rv] (markedBehindIn (copTo o2) c (eval c κ.env))
    standAt p
    operate [rv,rv2] (compareOp (copTo o2) rv rv2)) else pure c1):=rfl
 rw [e0]
 refine Ow.mono (λo h=>aL h) (ha.seq P λx τ1 g1 va q1=>Ow.mono (λo h=>aL (aH h)) (hb.seq (P.go g1) λy τ2 g2 vb q2=>Ow.be λt et=>?_))
 refine Ow.mono (λo h=>aL (wpAny_standAt (aL (aH ((cmp_ok (Q:=λu1=>_) P.R.c80 g2.hs va (Go.vv g2 g1.hs q1) vb q2).use et h))))) (Ow.all λtk=>?_)
 have gt:Gn κ.W τ2 (τ2.to τ2.s.heap tk):=Go.toks g2.hs
 refine Ow.mono (λo h=>aL (wpAny_release (aL (aH (wpAny_of_eq (rfl:truthy (.bool _)=pure _) h))))) ?_
 cases t with
 | false=>exact aM ((EP.here (x:=.d (.bool false)) gt.hs rfl).from (Go.tr (Go.tr g1 g2) gt))
 | true=>
  rw [aQ rfl,markedBehindIn_of_false hm]
  refine Ow.mono (λo h=>aL (aH h)) (hc.seq (((P.go g1).go g2).go gt) λz τ3 g3 vc q3=>Ow.me λb eb=>?_)
  exact aL (wpAny_standAt (wpAny_operating ((cmp_ok (Q:=λu1=>_) P.R.c80 g3.hs vb (Go.vv g3 gt.hs (Go.vv gt g2.hs q2)) vc q3).use eb λtk=>(EP.bool g3.hs).from (Go.tr (Go.tr (Go.tr g1 g2) gt) g3))))
end
section
variable {W:Wd} {A:Around} {ce:CE} {κ:Cx ce} {lo:Nat} {σ τ:Sg} {E:Value->Shared->Prop} {γ:Type}
theorem IOK.plain {pos:Pos}:∀ {xs:List X} {es:List Expr},IOK κ es xs->(backTo pos (starEach es κ.env)).any (·.1)=false
 | [],_,I=>by cases (I:_=[]);rfl
 | u1::_,_,I=>xeeaa I λe es h1 he J=>by
  subst h1
  rw [starEach_cons he.2]
  exact IOK.plain J
theorem evalArgs_any {s:Shared} {f:Value} {args:List (Bool×Sem Value)} {M:Model} {Q:Args->Shared->Prop} (hp:args.any (·.1)=false) (h:wpAny M A (spliced args) (λus s'=>Q ⟨us,[]⟩ s') E s):wpAny M A (evalArgs f true args []) Q E s:=by
 cases args with
 | nil=>
  unfold evalArgs
  show wpAny M A (spliced []>>=_) Q E s
  exact aL (wpAny_mono h (λus s' h'=>aL (aM (aH (aL (aM (aL (aM (aM h')))))))) λu1 u2 x=>x)
 | cons a rest=>
  obtain ⟨b,t⟩:=a
  cases b with
  | true=>cases hp
  | false=>exact evalArgs_plain h
theorem IOK.args {xs:List X} {es:List Expr} {pos:Pos} {f:Value} {g:List V×Hp->Option γ} {K:γ->Args->Shared->Prop} (I:IOK κ es xs) (P:Pt κ lo σ) (k:∀ ys τ,Gn κ.W σ τ->∀ us,Vs κ.W τ us ys->Ow (g (ys,τ.H)) λo=>K o ⟨us,[]⟩ τ.s) :
  Ow ((evalXs κ.Φ xs P.vs σ.H).bind g) λo=>wpAny κ.W.m P.A (evalArgs f true (backTo pos (starEach es κ.env)) []) (K o) NoE σ.s:=
 Ow.mono (λo h=>evalArgs_any I.plain h) (I.seq P λys τ g u1 us q=>k ys τ g us q)
theorem HS.kin (O:WdOK W) (S:HS W σ):W.K.In σ.s.heap:=O.kin.keeps λu1 u2=>S.keep
theorem glob_name {x:Str} (hg:glob ce x=true):(x==("__debug__":Str))=false:=Bool.eq_false_iff.mpr λz=>bne_iff_ne.mp (b2 hg) (eq_of_beq z)
theorem glob_ok {x:Str} {p:Pos} {v:Value} {mg:Str->Option Value} {Q:Value->Shared->Prop} (S:HS κ.W σ) (hg:glob ce x=true) (ng:κ.W.base.Ns mainGlobals mg) (e:mg x=some v) (h:Q v σ.s):wpAny κ.W.m A (eval (.Name x p) κ.env) Q E σ.s:=
 Name_function_global κ.N.kind (κ.N.glob x hg) (loadGlobal_global (by rw [κ.N.glo];exact ng.at' λu1=>S.keep) e h) (glob_name hg)
theorem bui_ok {x:Str} {p:Pos} {v:Value} {mg mb:Str->Option Value} {Q:Value->Shared->Prop} (S:HS κ.W σ) (hg:glob ce x=true) (ng:κ.W.base.Ns mainGlobals mg) (nb:κ.W.base.Ns builtinsNs mb) (e0:mg x=none) (e:mb x=some v) (h:Q v σ.s):wpAny κ.W.m A (eval (.Name x p) κ.env) Q E σ.s:=
 Name_function_global κ.N.kind (κ.N.glob x hg) (loadGlobal_builtin (by rw [κ.N.glo];exact ng.at' λu1=>S.keep) e0 (by rw [κ.N.bui];exact nb.at' λu1=>S.keep) e h) (glob_name hg)
section
variable {xs:List X} {es:List Expr} {pos:Pos} {f:Value} {g:List V×Hp->Option γ} {K:γ->Value->Shared->Prop}
theorem IOK.bi (hf:(∃ id,f=.builtin id)\/∃ T,f=.type T) (I:IOK κ es xs) (P:Pt κ lo σ) (k:∀ ys τ,Gn κ.W σ τ->∀ us,Vs κ.W τ us ys->Ow (g (ys,τ.H)) λo=>wpAny κ.W.m P.A (call f us) (K o) NoE τ.s) :
  Ow ((evalXs κ.Φ xs P.vs σ.H).bind g) λo=>wpAny κ.W.m P.A (callWith pos f [] (backTo pos (starEach es κ.env)) []) (K o) NoE σ.s:=by
 rcases hf with ⟨id,rfl⟩ | ⟨Ty,rfl⟩
 ·exact Ow.mono (λo h=>Calls.callWith_builtin I.plain h) (I.args P k)
 ·exact Ow.mono (λo h=>PySem.callWith_type I.plain h) (I.args P k)
theorem IOK.fn {first:List Value} (hk:keepIn κ.W.K f=true) (I:IOK κ es xs) (P:Pt κ lo σ) (k:∀ ys τ,Gn κ.W σ τ->∀ us,Vs κ.W τ us ys->Ow (g (ys,τ.H)) λo=>wpAny κ.W.m P.A (call f (first++us)) (K o) NoE τ.s) :
  Ow ((evalXs κ.Φ xs P.vs σ.H).bind g) λo=>wpAny κ.W.m P.A (callWith pos f first (backTo pos (starEach es κ.env)) []) (K o) NoE σ.s:=
 Ow.mono (λo h=>callWith_of (P:=κ.W.K.In) (by rw [I.plain];rfl) (keeps_K hk) h) (I.args P λys τ g us q=>Ow.mono (λu1 h=>⟨g.hs.kin κ.O,h⟩) (k ys τ g us q))
end
theorem biVal_kind (b:BI):(∃ id,biVal b=.builtin id)\/∃ T,biVal b=.type T:=by cases b <;> first | exact .inl ⟨_,rfl⟩ | exact .inr ⟨_,rfl⟩
noncomputable def BiOK (W:Wd) (n:Nat):Prop:=∀ {b ys A σ},Room n A->HS W σ->∀ us,Vs W σ us ys->Ow (bcallV b ys σ.H) λz=>wpAny W.m A (call (biVal b) us) (EP W σ (z,σ.H)) NoE σ.s
theorem ok_bcall {x:Str} {i:Nat} {b:BI} {es:List Expr} {xs:List X} {p pos:Pos} (B:BiOK κ.W κ.n) (hg:glob ce x=true) (h1:biNames[i]?=some x) (h2:biAt[i]?=some b) (I:IOK κ es xs):XE κ (.Call (.Name x p) es [] pos) (.bcall b xs):=λP=>
 xeeaaaaaa κ.O.g λmg mb n1 n2 u1 u2 u3 n3 u4=>xa (n3 i x b h1 h2) λe3 e4=>
  Ow.mono (λo h=>wpAny_Call_NameR (bui_ok P.S hg n1 n2 e3 e4 h)) (I.bi (biVal_kind b) P λys τ g us q=>.m (Ow.mono (λz h=>post h λu1 u2 q=>q.from g) (B P.R g.hs us q)))
theorem CallOK.run {n:Nat} {f:FId} {F:Fn} {args:List V} {us:List Value} (C:CallOK W n f F) (R:Room n A) (S:HS W σ) (q:Vs W σ us args):Ow (F args σ.H) λo=>wpAny W.m A (call (.ref (W.fa f)) us) (EP W σ o) E σ.s:=
 Ow.mono (λo h=>wpAny_call (h _ λu1 u2 q=>q)) (C args σ A us R S q)
theorem ow_callF {Φ:Fns} {n:Nat} {f:FId} {args:List V} {us:List Value} (F:FnsOK W n Φ) (R:Room n A) (S:HS W σ) (q:Vs W σ us args):Ow (callF Φ f args σ.H) λo=>wpAny W.m A (call (.ref (W.fa f)) us) (EP W σ o) E σ.s:=
 .be λG e=>(F f G e).run (R.le (Nat.sub_le _ _)) S q
theorem ok_fcall {x:Str} {i:Nat} {es:List Expr} {xs:List X} {p pos:Pos} (hg:glob ce x=true) (h1:fnNames[i]?=some x) (I:IOK κ es xs):XE κ (.Call (.Name x p) es [] pos) (.fcall i xs):=λP=>
 xeeaaaa κ.O.g λmg mb n1 n2 u1 n3 u2=>xa (n3 i x h1) λe5 e6=>
  Ow.mono (λo h=>wpAny_Call_NameR (glob_ok P.S hg n1 e5 h)) (I.fn (first:=[]) e6 P λys τ g us q=>Ow.mono (λo h=>post h λu1 u2 q=>q.from g) (ow_callF κ.F P.R g.hs q))
section
variable {h:Heap} {ban:Addr->Prop} {r:Rho} {v:Value} {x:V} {α:Type}
theorem ow_flds {f:Nat×Nat×List (Nat×V)->Option α} {Q:Value->α->Prop} (S:HS W σ) (k:∀ c j fs a dx es m,σ.r[j]?=some (some dx)->σ.s.heap.get? a=some (instObj (W.ca c) dx)->σ.s.heap.get? dx=some (dctO (List.toArray es) m)->(fs.map (·.1)).Nodup->(∀ p∈fs,okFld c p.1=true)->All2 (FldR W σ.s.heap σ.ban σ.r) es fs->Vv W σ (.ref a) x->Ow (f (c,j,fs)) (Q (.ref a))) :
  ∀ v,Vv W σ v x->Ow ((fldsAt x σ.H).bind f) (Q v):=λv q=>by
 cases x with
 | inst c j=>
  show Ow (((σ.H.o[j]?).bind _).bind f) _
  cases ho:σ.H.o[j]? with
  | none=>exact aO
  | some o=>cases o with
   | inst c' fs=>
    show Ow ((wh (c'==c) _).bind f) _
    cases hc:c'==c with
    | false=>exact aO
    | true=>
     cases eq_of_beq hc
     refine xea q λa e z=>?_
     subst e
     rcases z with z | ⟨dx,e,g,nb⟩
     ·cases ho.symm.trans (S.gone z)
     ·exact xeeaaa (S.at_ e ho) λes m g2 nd l q=>k _ j fs a dx es m e g g2 nd l q ⟨a,rfl,.inr ⟨dx,e,g,nb⟩⟩
   | _=>exact aO
 | _=>exact aO
theorem instAt {a dx:Addr} {c:Nat} {es:Array DictEntry} {m:Nat} (g:h.get? a=some (instObj (W.ca c) dx)) (g2:h.get? dx=some (dctO es m)):InstAt h a (instObj (W.ca c) dx) (W.ca c) (some (dctO es m)):=⟨g,rfl,rfl,g2⟩
theorem isStr_str {x y:Str} {t:Tok}:(Value.str y t).isStr x=decide (y=x):=by
 simp only [Value.isStr]
 by_cases e:y=x <;> simp [e]
theorem okFld_lt {c f:Nat} (h:okFld c f=true):c < 3/\f < 13:=
 (Bool.or_eq_true_iff.mp h).elim (λh=>(Bool.or_eq_true_iff.mp h).elim (λh=>⟨by rw [eq_of_beq (b1 h)];decide,av (aw (b2 h)) (by decide)⟩) λh=>⟨by rw [eq_of_beq (b1 h)];decide,av (aw (b2 h)).2 (by decide)⟩) λh=>⟨by rw [eq_of_beq (b1 h)];decide,(aw (b2 h)).2⟩
theorem fldStr_inj {f g:Nat} (hf:f < 13) (hg:g < 13) (e:fldStr f=fldStr g):f=g:=
 have this:∀ f:Fin 13,∀ g:Fin 13,fldStr f=fldStr g->f=g:=by decide +kernel
 aN Fin.val (this ⟨f,hf⟩ ⟨g,hg⟩ e)
theorem fld_is {e:DictEntry} {p:Nat×V} {f:Nat} (hf:f < 13) (hp:p.1 < 13) (z:FldR W h ban r e p):e.key.isStr (fldStr f)=decide (p.1=f)/\e.refKey=false:=xe z.1 λt hk=>
 ⟨by rw [hk,isStr_str];exact decide_eq_decide.mpr ⟨λe=>fldStr_inj hp hf e,λe=>e▸rfl⟩,by unfold DictEntry.refKey;rw [hk]⟩
theorem fld_find {f:Nat} (hf:f < 13) {es:List DictEntry} {fs:List (Nat×V)} (hl:∀ p∈fs,p.1 < 13) (q:All2 (FldR W h ban r) es fs):(∀ x,fs.lookup f=some x->∃ e,es.find? (·.key.isStr (fldStr f))=some e/\VV W h ban r e.val x)/\es.any (·.refKey)=false:=
 All2.ind (P:=λes fs=>(∀ p∈fs,p.1 < 13)->(∀ x,fs.lookup f=some x->∃ e,es.find? (·.key.isStr (fldStr f))=some e/\VV W h ban r e.val x)/\es.any (·.refKey)=false) q (λu1=>⟨λu1 h=>(nomatch h),rfl⟩) (λe p es fs z u1 ih hl=>xa (ih λp m=>hl p (.tail _ m)) λi1 i2=>xa (fld_is hf (hl p (.head _)) z) λk1 k2=>by
  refine ⟨λx h=>?_,by rw [List.any_cons,k2,i2];rfl⟩
  obtain ⟨g,w⟩:=p
  rw [List.lookup_cons] at h
  rw [List.find?_cons,k1]
  by_cases c:g=f
  ·rw [show (f==g)=true from beq_iff_eq.mpr c.symm] at h
   cases h
   rw [aF c]
   exact ⟨e,rfl,z.2⟩
  ·rw [show (f==g)=false from beq_false_of_ne (Ne.symm c)] at h
   rw [decide_eq_false c]
   exact i1 x h) hl
theorem VD.handed {d:D} (q:VD h ban v d):handedIn v=true:=match d,q with
 | .none,q=>by cases (q:v=_);rfl
 | .bool u1,q=>by cases (q:v=_);rfl
 | .int u1,q=>xe q λu1 e=>by cases e;rfl
 | .str u1,q=>xe q λu1 e=>by cases e;rfl
 | .tup u1,q=>by obtain ⟨a,us,n,rfl,u1⟩:=q;rfl
 | .list u1,q=>by obtain ⟨a,us,n,rfl,u1⟩:=q;rfl
 | .dict ..,q=>by obtain ⟨a,us,n,rfl,u1⟩:=q;rfl
 | .range u1,q=>by obtain ⟨a,t,u,w,rfl,u1⟩:=q;rfl
 | .iset u1,q=>by obtain ⟨a,es,n,t,rfl,u1⟩:=q;rfl
theorem VV.handed (q:VV W h ban r v x):handedIn v=true:=match x,q with
 | .d u1,q=>VD.handed q
 | .ref u1,q=>xea q λu1 e u2=>by subst e;rfl
 | .inst ..,q=>xea q λu1 e u2=>by subst e;rfl
 | .clo u1,q=>xea q λu1 e u2=>by subst e;rfl
end
theorem attr_ok {x:V} {f:Nat} (O:WdOK W) (S:HS W σ):∀ v,Vv W σ v x->Ow (attrV x f σ.H) λz=>wpAny W.m A (getAttr v (fldStr f) true) (EP W σ (z,σ.H)) E σ.s:=by
 refine ow_flds S λc j fs a dx es m u1 g g2 nd l q u2=>Ow.w λhok=>Ow.of λz e=>?_
 have C:=O.cls c (okFld_lt hok).1
 refine xea ((fld_find (okFld_lt hok).2 (λp hp=>(okFld_lt (l p hp)).2) q).1 z e) λen e1 e2=>xea (any_some C.hasd) λcd hcd hdd=>?_
 have hl:lookIn (fldStr f) (dctO es.toArray m)=some (some en.val):=by
  show (match es.find? (·.key.isStr (fldStr f)) with | some e=>some (some e.val) | none=>if es.any (·.refKey) then none else some none)=_
  rw [e1]
 have hf:findObj W.K (W.ca c) (some (dctO es.toArray m)) (fldStr f)=some (.value en.val):=by
  unfold findObj
  rw [hcd,Option.bind_some,C.fld f hok,Option.bind_some]
  show (PySem.W.ownOf cd (some (dctO es.toArray m)) (fldStr f)).bind _=_
  rw [show PySem.W.ownOf cd (some (dctO es.toArray m)) (fldStr f)=some (some en.val) from (aQ hdd).trans hl];rfl
 exact get_value (S.kin O) (instAt g g2) (plainGet_of C.get).1 hf e2.handed (.tok S e2)
theorem ok_attr {a:Expr} {f:Nat} {p:Pos} {xa:X} (ha:XE κ a xa) (hb:attributeBase a (fldStr f) κ.env (eval a κ.env)=eval a κ.env):XE κ (.Attribute a (fldStr f) p) (.attr xa f):=λP=>by
 have e0:eval (.Attribute a (fldStr f) p) κ.env=(do
  let o ← attributeBase a (fldStr f) κ.env (eval a κ.env)
  standAt p.atName
  let r ← holding [o] (getAttr o (fldStr f) true)
  letTemporaryGo a o r
  pure r):=rfl
 rw [e0,hb]
 exact Ow.mono (λo h=>aL h) (ha.seq P λx τ g v q=>.m (Ow.mono (λz h=>aL (wpAny_standAt (aL (aH (post h λu1 u2 q=>aL (wpAny_letTemporaryGo (aM (q.from g)))))))) (attr_ok κ.O g.hs v q)))
end
section
variable {W:Wd} {A:Around} {ce:CE} {κ:Cx ce} {lo:Nat} {σ τ:Sg} {E:Value->Shared->Prop} {h:Heap} {ban:Addr->Prop} {r:Rho}
noncomputable def putL (x:Str) (en:DictEntry) (es:List DictEntry):List DictEntry:=(es.findIdx? (·.key.isStr x)).elim (es++[en]) λi=>es.modify i λe=>{ e with val:=en.val }
theorem put_obj (x:Str) (k:Int) (key v:Value) (es:List DictEntry) (m:Nat):∃ m',Obj.putName x k key v (dctO es.toArray m)=dctO (putL x ⟨k,key,v⟩ es).toArray m':=by
 rw [Obj.putName_eq]
 unfold Obj.putNameByArray putL
 simp only [List.findIdx?_toArray]
 cases es.findIdx? (·.key.isStr x) with
 | some i=>exact ⟨m,by simp⟩
 | none=>exact ⟨m+1,by simp⟩
theorem putL_cons {x:Str} {en e:DictEntry} {es:List DictEntry} (h:e.key.isStr x=false):putL x en (e::es)=e::putL x en es:=by
 unfold putL
 rw [List.findIdx?_cons,h]
 cases es.findIdx? (·.key.isStr x) <;> rfl
theorem put_fld {f:Nat} {en:DictEntry} {t:Tok} {v:V} (hf:f < 13) (hk:en.key=.str (fldStr f) t) (hv:VV W h ban r en.val v) {es:List DictEntry} {fs:List (Nat×V)} (hl:∀ p∈fs,p.1 < 13) (q:All2 (FldR W h ban r) es fs):All2 (FldR W h ban r) (putL (fldStr f) en es) (setF fs f v):=
 All2.ind (P:=λes fs=>(∀ p∈fs,p.1 < 13)->All2 (FldR W h ban r) (putL (fldStr f) en es) (setF fs f v)) q (λu1=>.one ⟨⟨t,hk⟩,hv⟩) (λe p es fs z q ih hl=>by
  have k1:=(fld_is hf (hl p (.head _)) z).1
  obtain ⟨g,w⟩:=p
  show All2 _ _ (if g=f then _ else _)
  by_cases c:g=f
  ·rw [aQ c]
   have e1:putL (fldStr f) en (e::es)={ e with val:=en.val }::es:=by
    unfold putL
    rw [List.findIdx?_cons,k1,aF c];rfl
   rw [e1]
   exact .cons ⟨z.1,hv⟩ q
  ·rw [aP c,putL_cons (k1.trans (decide_eq_false c))]
   exact .cons z (ih λp m=>hl p (.tail _ m))) hl
theorem setF_keys {f:Nat} {v:V}:∀ fs:List (Nat×V),(setF fs f v).map (·.1)=if f∈fs.map (·.1) then fs.map (·.1) else fs.map (·.1)++[f]
 | []=>rfl
 | (g,w)::fs=>by
  show ((if g=f then _ else _:List (Nat×V)).map (·.1))=_
  by_cases c:g=f
  ·subst c;rw [aQ rfl,aQ (show g∈((g,w)::fs).map (·.1) from .head _)];rfl
  ·rw [aP c,List.map_cons,setF_keys fs,List.map_cons]
   have e:(f∈g::fs.map (·.1))=(f∈fs.map (·.1)):=propext ⟨λm=>(aG.mp m).resolve_left (Ne.symm c),List.mem_cons_of_mem _⟩
   by_cases m:f∈fs.map (·.1)
   ·rw [aQ m,aQ (e▸m)]
   ·rw [aP m,aP λz=>m (e▸z)];rfl
theorem setF_ok {f c:Nat} {v:V} {fs:List (Nat×V)} (nd:(fs.map (·.1)).Nodup) (l:∀ p∈fs,okFld c p.1=true) (hf:okFld c f=true):((setF fs f v).map (·.1)).Nodup/\(∀ p∈setF fs f v,okFld c p.1=true)/\(setF fs f v).length<=fs.length+1:=by
 have k:=setF_keys (f:=f) (v:=v) fs
 have m:∀ p∈setF fs f v,p.1∈(setF fs f v).map (·.1):=λp=>List.mem_map_of_mem
 have ln:=aN List.length k
 rw [aB] at ln
 rw [k] at m ⊢
 by_cases q:f∈fs.map (·.1)
 ·rw [aQ q] at m ln ⊢
  exact ⟨nd,λp hp=>xea (aJ.mp (m p hp)) λp' h1 h2=>h2▸l p' h1,by rw [ln,aB];exact Nat.le_succ _⟩
 ·rw [aP q] at m ln ⊢
  refine ⟨az.mpr ⟨nd,List.pairwise_singleton _ _,λa ha b hb e=>q ((ao.mp hb)▸e▸ha)⟩,λp hp=>(aD.mp (m p hp)).elim (λh=>xea (aJ.mp h) λp' h1 h2=>h2▸l p' h1) λh=>(ao.mp h)▸hf,by rw [ln,aq,aB];exact Nat.le_refl _⟩
theorem setattr_ok {x v0:V} {f:Nat} {u:Value} (O:WdOK W) (S:HS W σ) (qv:Vv W σ u v0):∀ v,Vv W σ v x->Ow (setAttrV x f v0 σ.H) λH=>wpAny W.m A (setAttr v (fldStr f) u) (λu1 s=>Gn W σ ⟨σ.ban,σ.r,H,s⟩) E σ.s:=by
 refine ow_flds S λc j fs a dx es m er g g2 nd l q2 u1=>Ow.w λh=>?_
 have hok:=b1 h
 have hsm:=b2 h
 have lt:=okFld_lt hok
 have C:=O.cls c lt.1
 have K:=S.kin O
 refine xea (any_some C.hasd) λcd hcd hdd=>?_
 have ht:takerIn W.K (W.ca c) (fldStr f)=some none:=by unfold takerIn;rw [C.fld f hok];rfl
 have hl13:∀ p∈fs,p.1 < 13:=λp hp=>(okFld_lt (l p hp)).2
 refine set_plain K (instAt g g2) C.set (osa_open (s:={ σ.s with toks:=σ.s.toks+1 }) K (instAt g g2) C.over ht λb=>?_)
 refine aL (aM (aL (aL (wpAny_loadPart g (aL (looks_clsIn K hcd _ _ _ _ (λu1 u2 e=>e) ?_))))))
 rw [hdd]
 refine aM (a:=some dx) (aL (aM (aL ?_)))
 unfold nsSet
 refine aL (aL (wpAny_askSetting (aM (aL (wpAny_mkText (aL (wpAny_loadPart g2 ?_)))))))
 dsimp only
 have hc:(!es.toArray.any (·.key.isStr (fldStr f))&&es.toArray.any (·.refKey))=false:=by
  rw [← Array.any_toList,← Array.any_toList];exact (aN _ (fld_find lt.2 hl13 q2).2).trans (Bool.and_false _)
 rw [aRefKeyMayBeTheName_at,hc]
 refine xe (put_obj (fldStr f) (PyData.keyHash W.w.params (fldStr f)) (.str (fldStr f) (σ.s.toks+1)) u es m) λm' hm'=>?_
 generalize hes:putL (fldStr f) ⟨PyData.keyHash W.w.params (fldStr f),.str (fldStr f) (σ.s.toks+1),u⟩ es=es' at hm'
 have qn:All2 (FldR W σ.s.heap σ.ban σ.r) es' (setF fs f v0):=hes▸put_fld lt.2 rfl qv hl13 q2
 have ec:=upd_const g2 hm'
 have D':(σ.s.heap.update dx λu1=>dctO es'.toArray m').get? dx=some (dctO es'.toArray m'):=Heap.get?_update_self _ g2 rfl
 refine xaa (setF_ok (v:=v0) nd l hok) λn1 n2 n3=>?_
 refine wpAny_updatePart g2 (aL (wpAny_lookBehind (ec▸D') (pastItsLine_dict (by rw [List.size_toArray,sizeLine_eq,qn.length];exact aI n3 (aI (Nat.succ_le_of_lt (small_lt hsm)) (by decide)))) (aM ?_)))
 show Gn W σ ⟨σ.ban,σ.r,σ.H.put j (.inst c (setF fs f v0)),{ σ.s with heap:=σ.s.heap.update dx (Obj.putName (fldStr f) (PyData.keyHash W.w.params (fldStr f)) (.str (fldStr f) (σ.s.toks+1)) u),toks:=σ.s.toks+1+1 }⟩
 rw [ec]
 exact Go.put S er ⟨_,g2⟩ rfl ⟨es',m',D',n1,n2,qn.mono λen p z=>⟨z.1,z.2.step ⟨λn e=>(Heap.get?_update_other _ _ λz=>n (z▸S.bans er)).trans e,.inl⟩ (.refl _)⟩⟩
end
section
variable {W:Wd} {A:Around} {ce:CE} {κ:Cx ce} {lo:Nat} {σ τ:Sg} {E:Value->Shared->Prop} {a:Addr} {j m:Nat} {us ws:List Value} {xs:List V} {γ:Type}
theorem lst_upd {f:Array Value->Array Value} (g:σ.s.heap.get? a=some (lstO us.toArray m)) (hf:f us.toArray=ws.toArray):∃ m',σ.s.heap.update a (Obj.mapSeq f)=σ.s.heap.update a λu1=>lstO ws.toArray m':=
 have h:∃ m',Obj.mapSeq f (lstO us.toArray m)=lstO ws.toArray m':=⟨_,by simp only [Obj.mapSeq,hf];rfl⟩
 xe h λm' e=>⟨m',upd_const g e⟩
theorem mapErase {α β:Type} (f:α->β):∀ (l:List α) (i:Nat),(l.eraseIdx i).map f=(l.map f).eraseIdx i
 | [],_=>rfl
 | u1::_,0=>rfl
 | u1::r,i+1=>aN (_::·) (mapErase f r i)
theorem notMe {o:Obj} (S:HS W σ) (e:σ.r[j]?=some (some a)):Ex σ.s.heap σ.ban (σ.s.heap.update a λu1=>o) σ.ban:=⟨λn e'=>(Heap.get?_update_other _ _ λz=>n (by rw [← z];exact S.bans e)).trans e',.inl⟩
theorem Go.putList {ys:List V} {f:Array Value->Array Value} {tk:Nat} (S:HS W σ) (e:σ.r[j]?=some (some a)) (g:σ.s.heap.get? a=some (lstO us.toArray m)) (hf:f us.toArray=ws.toArray) (q:Vs W σ ws ys):Gn W σ ⟨σ.ban,σ.r,σ.H.put j (.list ys),{ σ.s with heap:=σ.s.heap.update a (Obj.mapSeq f),toks:=tk }⟩:=
 xe (lst_upd g hf) λm' h=>by rw [h];exact Go.put S e ⟨_,g⟩ rfl ⟨ws,m',Heap.get?_update_self _ g rfl,VVs.step (notMe S e) (.refl _) q⟩
theorem append_ok {x y:V} {u:Value} (S:HS W σ) (qu:Vv W σ u y):∀ v,Vv W σ v x->Ow ((lsAt x σ.H).bind λp=>wh (small p.2.length) (some (V.d .none,σ.H.put p.1 (.list (p.2++[y]))))) λo=>wpAny W.m A (call (.builtin "list.append") [v,u]) (EP W σ o) E σ.s:=by
 refine ow_lsAt S λj xs a us m r g q=>Ow.w λh=>?_
 refine call_meets PySem.F.slot_list_append ⟨_,g,rfl⟩ PySem.F.entry_list_append (PySem.F.args_list_append_2 _ _) (PySem.list_append a us.toArray m u (by rw [List.size_toArray,q.length];exact small_line (k:=0) h (by decide))) ⟨g,?_⟩
 exact ⟨_,_,Go.putList (ws:=us++[u]) (tk:=σ.s.toks) S r g (by rw [List.push_toArray]) (q.append (.one qu)),rfl⟩
theorem pop_ok {x:V} (S:HS W σ):∀ v,Vv W σ v x->Ow ((lsAt x σ.H).bind λp=>wh (small p.2.length) ((p.2.getLast?).map λw=>(w,σ.H.put p.1 (.list p.2.dropLast)))) λo=>wpAny W.m A (call (.builtin "list.pop") [v]) (EP W σ o) E σ.s:=by
 refine ow_lsAt S λj xs a us m r g q=>Ow.w λh=>Ow.me λy hy=>?_
 refine xea (q.getLast? hy) λv hv qv=>?_
 have ne:us≠[]:=λz=>by rw [z] at hv;exact noS hv
 have hp:us.length - 1 < us.length:=Nat.sub_lt (List.length_pos_iff.mpr ne) (Nat.succ_pos _)
 refine call_meets PySem.F.slot_list_pop ⟨_,g,rfl⟩ PySem.F.entry_list_pop (PySem.F.args_list_pop_1 _) (PySem.MeetsSeq.list_pop_last a us.toArray m v (by rw [List.getElem?_toArray,List.size_toArray,← List.getLast?_eq_getElem?];exact hv) (by rw [List.size_toArray,q.length];exact small_line (k:=0) h (by decide))) ⟨g,?_⟩
 have gp:=Go.putList (ws:=us.dropLast) (tk:=σ.s.toks) (f:=λx=>x.eraseIdxIfInBounds (us.toArray.size - 1)) S r g (by
  rw [List.size_toArray,er_toArray hp,List.eraseIdx_length_sub_one]) q.dropLast
 exact ⟨_,_,gp,Go.vv gp S qv⟩
theorem dget_ok {x y:V} {d:D} {u w:Value} (hu:A.units+1 < cLine) (S:HS W σ) (qw:Vv W σ w y) (qu:VD σ.s.heap σ.ban u d):∀ v,Vv W σ v x->Ow ((dcV x σ.H).bind λq=>(keyOf d).bind λk=>wh (q.1.all (sameKind k)) (some ((getK q.1 q.2 k).getD y,σ.H))) λo=>wpAny W.m A (call (.builtin "dict.get") [v,u,w]) (EP W σ o) E σ.s:=by
 have core:∀ {ks:List Key} {xs:List V} {a es m},DR σ.s.heap σ.ban a ks es m->Vs W σ (es.map (·.val)) xs->Ow ((keyOf d).bind λk=>wh (ks.all (sameKind k)) (some ((getK ks xs k).getD y,σ.H))) λo=>wpAny W.m A (call (.builtin "dict.get") [.ref a,u,w]) (EP W σ o) E σ.s:=λ{ks xs a es m} D q=>by
  refine Ow.b (Ow.mono (λk qk=>Ow.w λhk=>?_) (ow_key qu))
  refine wpAny_call_entry PySem.F.slot_dict_get ⟨_,D.at_,rfl⟩ PySem.F.entry_dict_get ?_ (PySem.F.args_dict_get_3 _ _ _)
  unfold Builtin.«dict.get»
  refine aL ?_
  unfold Builtin.Dict.keyAndDefault
  refine aL (wpAny_notOrdered_dict ⟨_,D.at_,rfl⟩ (aM (a:=(a,u,some w)) (aL (dictGet_ok hu D hk qk λtk=>?_))))
  refine xa (D.val (k:=k) q) λh1 h2=>?_
  cases e:getK ks xs k with
  | some x=>exact xea (h1 x e) λv h3 h4=>by rw [h3];exact aM ⟨v,rfl,.tok S h4⟩
  | none=>rw [h2 e];exact aL (wpAny_missed_other D.sm (aM ⟨w,rfl,.tok S qw⟩))
 intro v q
 cases x with
 | d x=>cases x with
  | dict ks l=>exact xeeeaaa q λa es m e D u1 z=>by subst e;exact core D z.vvs
  | _=>exact aO
 | ref j=>
  show Ow (((σ.H.o[j]?).bind O.dc).bind _) _
  cases ho:σ.H.o[j]? with
  | none=>exact aO
  | some o=>cases o with
   | dict ks xs=>exact S.obj (G:=λv=>Ow ((keyOf d).bind λk=>wh (ks.all (sameKind k)) (some ((getK ks xs k).getD y,σ.H))) λo=>wpAny W.m A (call (.builtin "dict.get") [v,u,w]) (EP W σ o) E σ.s) ho nofun q λa r z=>xeea z λes m D z=>core D z
   | _=>exact aO
 | _=>exact aO
theorem dpop_ok {x:V} {k:Int} {t:Tok} (hu:A.units+1 < cLine) (S:HS W σ):∀ v,Vv W σ v x->Ow ((dcAt x σ.H).bind λp=>wh (p.2.1.all (sameKind (.i k))&&small p.2.1.length) ((getK p.2.1 p.2.2 (.i k)).map λw=>(w,σ.H.put p.1 (.dict (delK p.2.1 p.2.2 (.i k)).1 (delK p.2.1 p.2.2 (.i k)).2)))) λo=>wpAny W.m A (call (.builtin "dict.pop") [v,.int k t]) (EP W σ o) E σ.s:=by
 refine ow_dcAt S λj ks xs a es m r D q=>Ow.w λh=>Ow.me λy hy=>?_
 have hk:=b1 h
 refine wpAny_call_entry PySem.F.slot_dict_pop ⟨_,D.at_,rfl⟩ PySem.F.entry_dict_pop ?_ (PySem.F.args_dict_pop_2 _ _)
 unfold Builtin.«dict.pop»
 refine aL ?_
 unfold Builtin.Dict.keyAndDefault
 refine aL (wpAny_notOrdered_dict ⟨_,D.at_,rfl⟩ (aM (a:=(a,Value.int k t,none)) (aL (aM ?_))))
 refine aL ?_
 unfold Builtin.Dict.takeOut
 have qk:KV σ.s.heap σ.ban (.int k t) (.i k):=⟨t,rfl⟩
 refine aH (aL (pyHash_ok hu qk λtk=>aL (dictFind_ok (s:={ σ.s with toks:=tk }) hu D hk qk ?_)))
 unfold getK at hy
 cases ei:idxK ks (.i k) with
 | none=>rw [ei] at hy;exact noS hy
 | some p=>
  rw [ei] at hy
  have l:p < es.length:=by rw [D.length];exact idxK_lt ei
  refine xea (q.get hy) λv hv qv=>?_
  rw [List.getElem?_map,ad l] at hv
  cases hv
  refine aL (wpAny_dictEntries (s:={ σ.s with toks:=tk }) D.at_ rfl ?_)
  rw [List.getElem?_toArray,ad l]
  refine aL (wpAny_updateDictKeys (s:={ σ.s with toks:=tk }) D.at_ rfl ?_ (Nat.le_of_succ_le (D.sizeLe (b2 h))) (by
   rw [er_toArray l,List.size_toArray,List.size_toArray];exact Nat.le_succ_of_le (List.length_eraseIdx_le ..)))
  rw [show ({ σ.s with toks:=tk }:Shared).heap.update a (Obj.mapDictKeys λx=>x.eraseIdxIfInBounds p)=σ.s.heap.update a λu1=>dctO (es.eraseIdx p).toArray (m+1) from upd_const D.at_ (dctO_erase es m l)]
  refine aM (aL (wpAny_letGo (aM ⟨es[p].val,rfl,?_⟩)))
  have hd:delK ks xs (.i k)=(ks.eraseIdx p,xs.eraseIdx p):=by unfold delK;rw [ei];rfl
  rw [hd]
  have X:=notMe (o:=dctO (es.eraseIdx p).toArray (m+1)) S r
  have gp:Gn W σ ⟨σ.ban,σ.r,σ.H.put j (.dict (ks.eraseIdx p) (xs.eraseIdx p)),{ σ.s with heap:=σ.s.heap.update a λu1=>dctO (es.eraseIdx p).toArray (m+1),toks:=tk }⟩:=
   Go.put S r ⟨_,D.at_⟩ rfl ⟨es.eraseIdx p,m+1,⟨Heap.get?_update_self _ D.at_ rfl,D.sm,D.nodup.eraseIdx _,(D.ents.eraseIdx p).mono λu1 u2 z=>⟨z.1,z.2.step X⟩⟩,by rw [mapErase];exact VVs.step X (.refl _) (q.eraseIdx p)⟩
  exact ⟨_,_,gp,Go.vv gp S qv⟩
theorem index_ok {x:V} {i:Int} {t:Tok} (S:HS W σ):∀ v,Vv W σ v x->Ow (x.ll.bind λl=>(intsOf l).bind λns=>wh (small l.length) ((ns.findIdx? (·==i)).map λ(k:Nat)=>(V.d (.int (k:Int)),σ.H))) λo=>wpAny W.m A (call (.builtin "list.index") [v,.int i t]) (EP W σ o) E σ.s:=by
 refine ow_ll λl a us m g nb z=>Ow.b (Ow.mono (λns q=>Ow.w λh=>Ow.me λk hk=>?_) (ow_ints z))
 have is:∀ {y n},IntV y n->(match y with | .int n _=>n==i | _=>false)=(n==i):=λe=>xe e λt e=>by rw [e]
 have hk':us.findIdx? (λv=>match v with | .int n _=>n==i | _=>false)=some k:=(q.findIdx? λu1 u2 z=>is z).trans hk
 refine xea (List.findIdx?_eq_some_iff_getElem.mp hk') λh1 h2 h3=>?_
 refine call_meets PySem.F.slot_list_index ⟨_,g,rfl⟩ PySem.F.entry_list_index (PySem.F.args_list_index_2 _ _)
  (PySem.MeetsSeq.list_index a us.toArray m (.int i t) (λv=>match v with | .int n _=>n==i | _=>false) (λy hy=>xe (q.mem (List.mem_toArray.mp hy)) λn e=>xe e λt' e=>e▸MeetsSeq.EqGives.int _ _ _ _) k h1 (Int.ofNat_lt.mpr (Nat.lt_trans (z.length▸h1:k < l.length) (Nat.lt_trans (small_lt h) (by decide:60 < 9223372036854775807)))) h2 λj hj hji=>?_) ⟨g,.int S⟩
 exact Bool.eq_false_iff.mpr (h3 j hji)
end
noncomputable def PB (o:Expr):Prop:=∀ x env,attributeBase o x env (eval o env)=eval o env
noncomputable def bmId (b:BM) (d:Bool):String:=match b,d with
 | .append,_=>"list.append" | .pop,false=>"list.pop" | .pop,true=>"dict.pop" | .get,_=>"dict.get" | .index,_=>"list.index"
noncomputable def bmStr:BM->Str
 | .append=>"append" | .pop=>"pop" | .get=>"get" | .index=>"index"
section
variable {W:Wd} {A:Around} {ce:CE} {κ:Cx ce} {lo:Nat} {σ τ:Sg} {E:Value->Shared->Prop} {γ:Type}
theorem call_meth {s:Shared} {o:Expr} {x:Str} {apos pos:Pos} {es:List Expr} {xs:List X} {Q:Value->Shared->Prop} (hb:PB o) (hl:es.length<=20) (hline:(apos.endLine==pos.line)=true) (I:IOK κ es xs)
  (h:wpAny κ.W.m A (eval o κ.env) (λov s1=>∀ pl,wpAny κ.W.m A (getMethod ov x pl) (λp s2=>wpAny κ.W.m A (callWith pos p.1 p.2 (backTo pos (starEach es κ.env)) []) Q E s2) E s1) E s) :
  wpAny κ.W.m A (eval (.Call (.Attribute o x apos) es [] pos) κ.env) Q E s:=by
 rw [arm_eval_Call,hb _ _]
 refine aL (wpAny_mono h (λov s₁ h₁=>aL (wpAny_standAt ?_)) λu1 u2 e=>e)
 have hform:methodCallForm (es.length+([]:List Keyword).length) (backTo pos (starEach es κ.env)) (backToKw pos (keywordEach [] κ.env))=true:=by
  have h1:(backTo pos (starEach es κ.env)).all (λx=>!x.1)=true:=by
   rw [List.all_eq_not_any_not]
   simpa using I.plain (pos:=pos)
  unfold methodCallForm
  rw [h1]
  simp [backToKw,show keywordEach ([]:List Keyword) κ.env=[] from rfl]
  lia
 unfold methodCall
 rw [hform]
 exact aL (aH (wpAny_mono (h₁ _) (λp s2 h2=>aL (wpAny_of_eq (show methodCallPos true o κ.env apos pos=pure pos by unfold methodCallPos;simp [hline]) h2)) λu1 u2 e=>e))
noncomputable def KindR (s:Shared) (v:Value):Bool->Prop
 | false=>∃ a us m,v=.ref a/\s.heap.get? a=some (lstO us m)
 | true=>∃ a es m,v=.ref a/\s.heap.get? a=some (dctO es m)
theorem kind_obj {x:V} (S:HS W σ):∀ v,Vv W σ v x->Ow (kindV x σ.H) λd=>KindR σ.s v d:=
 ow_see (Q:=λv d=>KindR σ.s v d) (f:=kindD) (g:=kindO) S rfl (λd v q=>match d,q with
  | .list u1,q=>xeeeaaa q λa us m e g u1 u2=>⟨a,_,m,e,g⟩
  | .dict ..,q=>xeeeaaa q λa es m e D u1 u2=>⟨a,_,m,e,D.at_⟩
  | .tup u1,_=>aO | .none,_=>aO | .bool _,_=>aO | .int _,_=>aO | .str _,_=>aO | .range _,_=>aO | .iset _,_=>aO) (λj x a hd r z=>match x,z with
  | .list u1,z=>xeea z λus m g u1=>⟨a,_,m,rfl,g⟩
  | .dict ..,z=>xeea z λes m D u1=>⟨a,_,m,rfl,D.at_⟩
  | .inst ..,_=>aO | .tab,_=>aO | .tabD,_=>aO | .cell _,_=>aO | .dead,_=>aO) rfl
theorem bm_get {b:BM} {d:Bool} {s:Shared} {v:Value} {pl:Sem Bool} {Q:Value×List Value->Shared->Prop} (hd:okBm b d=true) (q:KindR s v d) (h:Q (.builtin (bmId b d),[v]) s):wpAny W.m A (getMethod v (bmStr b) pl) Q E s:=by
 have hno:∀ {a ob},s.heap.get? a=some ob->ob.dict=none->∀ c,Value.ref a=.ref c->∃ ob,s.heap.get? c=some ob/\ob.dict=none:=λg z c e=>by cases e;exact ⟨_,g,z⟩
 cases d with
 | false=>
  refine xeeea q λa us m e g=>?_
  subst e
  cases b with
  | append=>exact getMethod_builtin ⟨_,g,rfl⟩ PySem.F.plainAttrs_list PySem.F.slot_list_append PySem.F.type_list_append (hno g rfl) h
  | pop=>exact getMethod_builtin ⟨_,g,rfl⟩ PySem.F.plainAttrs_list PySem.F.slot_list_pop PySem.F.type_list_pop (hno g rfl) h
  | get=>cases hd
  | index=>exact getMethod_builtin ⟨_,g,rfl⟩ PySem.F.plainAttrs_list PySem.F.slot_list_index PySem.F.type_list_index (hno g rfl) h
 | true=>
  refine xeeea q λa us m e g=>?_
  subst e
  cases b with
  | append=>cases hd
  | pop=>exact getMethod_builtin ⟨_,g,rfl⟩ PySem.F.plainAttrs_dict PySem.F.slot_dict_pop PySem.F.type_dict_pop (hno g rfl) h
  | get=>exact getMethod_builtin ⟨_,g,rfl⟩ PySem.F.plainAttrs_dict PySem.F.slot_dict_get PySem.F.type_dict_get (hno g rfl) h
  | index=>cases hd
theorem kind_not {x:V} {H:Hp} {d:Bool} (e:kindV x H=some d):if d then lsAt x H=none else dcAt x H=none:=by
 cases x with
 | ref j=>
  have e:(H.o[j]?).bind kindO=some d:=e
  unfold lsAt dcAt
  show if d then (H.o[j]?).bind _=none else (H.o[j]?).bind _=none
  cases ho:H.o[j]? with
  | none=>cases d <;> rfl
  | some o=>
   rw [ho] at e
   cases o with
   | list xs=>cases e;rfl
   | dict ks xs=>cases e;rfl
   | _=>exact noS e
 | _=>cases d <;> rfl
theorem bm_run {b:BM} {d:Bool} {x:V} {ys:List V} {v:Value} (hd:okBm b d=true) (ek:kindV x σ.H=some d) (hu:A.units+1 < cLine) (S:HS W σ) (qv:Vv W σ v x):∀ us,Vs W σ us ys->Ow (bmethV b x ys σ.H) λo=>wpAny W.m A (call (.builtin (bmId b d)) (v::us)) (EP W σ o) NoE σ.s:=by
 cases b with
 | append=>exact ow_one λw u qu=>append_ok S qu v qv
 | pop=>
  have kn:=kind_not ek
  cases ys with
  | nil=>
   intro us qu
   cases (qu:us=[])
   cases d with
   | false=>exact pop_ok S v qv
   | true=>show Ow ((lsAt x σ.H).bind _) _;rw [show lsAt x σ.H=none from kn];exact aO
  | cons y ys=>
   refine ow_one (xs:=y::ys) λw u qu=>?_
   revert u
   refine ow_ii λk t=>?_
   cases d with
   | true=>exact dpop_ok hu S v qv
   | false=>show Ow ((dcAt x σ.H).bind _) _;rw [show dcAt x σ.H=none from kn];exact aO
 | get=>
  refine ow_two λk y u qk w qw=>?_
  revert u
  exact ow_dt λk u qk=>dget_ok hu S qw qk v qv
 | index=>
  refine ow_one λw u qu=>?_
  revert u
  exact ow_ii λi t=>index_ok S v qv
theorem ok_bmeth {b:BM} {o:Expr} {apos pos:Pos} {es:List Expr} {xs:List X} {xo:X} (hb:PB o) (hl:es.length<=20) (hline:(apos.endLine==pos.line)=true) (ho:XE κ o xo) (I:IOK κ es xs):XE κ (.Call (.Attribute o (bmStr b) apos) es [] pos) (.bmeth b xo xs):=λ{lo σ} P=>by
 refine Ow.mono (λo h=>call_meth hb hl hline I h) (ho.seq P λx τ1 g1 v q1=>Ow.be λd ed=>.of λo eo=>?_)
 have hk:okBm b d=true:=bC eo λq u1 eo=>bC eo λd2 u1 eo=>by
  cases hd:okBm b d&&d2==d with
  | true=>exact b1 hd
  | false=>rw [hd] at eo;exact noS eo
 refine λpl=>bm_get hk ((kind_obj g1.hs v q1).use ed) (Calls.callWith_builtin I.plain ((I.args (P.go g1) (g:=λq=>(kindV x q.2).bind λd2=>wh (okBm b d&&d2==d) (bmethV b x q.1 q.2)) (K:=λo a s=>wpAny κ.W.m P.A (call (.builtin (bmId b d)) ([v]++a.pos) a.kw) (EP κ.W σ o) NoE s) λys τ2 g2 us q2=>?_).use eo))
 exact Ow.be λd2 e2=>Ow.w λh=>Ow.mono (λo h=>post h λu1 u2 q=>q.from (Go.tr g1 g2)) (bm_run hk (e2.trans (aN some (eq_of_beq (b2 h)))) (P.R.room (by decide)) g2.hs (Go.vv g2 g1.hs q1) us q2)
theorem no_find {h:Heap} {ban:Addr->Prop} {r:Rho} {x:Str} {es:List DictEntry} {fs:List (Nat×V)} (hl:∀ p∈fs,fldStr p.1≠x) (q:All2 (FldR W h ban r) es fs):es.find? (·.key.isStr x)=none/\es.any (·.refKey)=false:=
 All2.ind (P:=λ(es:List DictEntry) (fs:List (Nat×V))=>(∀ p∈fs,fldStr p.1≠x)->es.find? (·.key.isStr x)=none/\es.any (·.refKey)=false) q (λu1=>⟨rfl,rfl⟩) (λe p es fs z u1 ih hl=>xa (ih λp m=>hl p (.tail _ m)) λi1 i2=>xe z.1 λt hk=>by
  rw [List.find?_cons,List.any_cons,i2,show e.key.isStr x=false by rw [hk,isStr_str];exact decide_eq_false (hl p (.head _)),show e.refKey=false by unfold DictEntry.refKey;rw [hk]]
  exact ⟨i1,rfl⟩) hl
theorem okMeth_lt {c m:Nat} (h:okMeth c m=true):c < 3/\m < 12:=
 (Bool.or_eq_true_iff.mp h).elim (λh=>(Bool.or_eq_true_iff.mp h).elim (λh=>⟨by rw [eq_of_beq (b1 h)];decide,av (aw (b2 h)) (by decide)⟩) λh=>⟨by rw [eq_of_beq (b1 h)];decide,by rw [eq_of_beq (b2 h)];decide⟩) λh=>⟨by rw [eq_of_beq (b1 h)];decide,(Bool.or_eq_true_iff.mp (b2 h)).elim (λh=>by rw [eq_of_beq h];decide) λh=>(aw h).2⟩
theorem fld_meth {f m:Nat} (hf:f < 13) (hm:m < 12) (e:fldStr f=methStr m):f=8/\m=10:=
 have this:∀ f:Fin 13,∀ m:Fin 12,fldStr f=methStr m->f.val=8/\m.val=10:=by decide +kernel
 this ⟨f,hf⟩ ⟨m,hm⟩ e
theorem lookup_none {f:Nat}:∀ {fs:List (Nat×V)},fs.lookup f=none->∀ p∈fs,p.1≠f
 | q::fs,h,p,hp,e=>by
  rw [List.lookup_cons] at h
  cases hq:f==q.1 with
  | true=>rw [hq] at h;cases h
  | false=>
   rw [hq] at h
   exact (aG.mp hp).elim (λz=>by subst z;exact Bool.noConfusion (hq.symm.trans (beq_iff_eq.mpr e.symm))) λhp=>lookup_none h p hp e
theorem Ow.wb {α β:Type} {c:Bool} {o:Option α} {f:α->Option β} {Q:β->Prop} (h:c=true->Ow (o.bind f) Q):Ow ((wh c o).bind f) Q:=by
 cases c with
 | true=>exact h rfl
 | false=>exact aO
theorem ok_meth {o:Expr} {m:Nat} {apos pos:Pos} {es:List Expr} {xs:List X} {xo:X} (hb:PB o) (hl:es.length<=20) (hline:(apos.endLine==pos.line)=true) (ho:XE κ o xo) (I:IOK κ es xs):XE κ (.Call (.Attribute o (methStr m) apos) es [] pos) (.meth xo m xs):=λ{lo σ} P=>by
 refine Ow.mono (λo h=>call_meth hb hl hline I h) (ho.seq P λx τ1 g1 v q1=>Ow.all λpl=>?_)
 have S1:=g1.hs
 refine Ow.as ?_
 revert v
 refine ow_flds S1 λc j fs a dx es m' er g g2 nd l q2 qs=>Ow.wb λh=>?_
 have hok:=b1 h
 refine xa (okMeth_lt hok) λhc3 hm=>?_
 have C:=κ.O.cls _ hc3
 refine xaa (C.mth m hok) λhf ht hk=>?_
 have hno:∀ p∈fs,fldStr p.1≠methStr m:=λp hp z=>xa (fld_meth (okFld_lt (l p hp)).2 hm z) λz1 z2=>by
  subst z2
  refine lookup_none ?_ p hp z1
  have:=(Bool.or_eq_true_iff.mp (b2 h)).resolve_left (by decide)
  cases hl:fs.lookup 8 with
  | none=>rfl
  | some u1=>rw [hl] at this;cases this
 refine xa (no_find hno q2) λi1 i2=>?_
 have hs:shadowIn (some (dctO es.toArray m')) (methStr m)=some false:=by
  unfold shadowIn lookIn
  simp only [i1,i2,Bool.false_eq_true,if_false,Option.map_some,Option.isSome_none]
 refine Ow.mono (λo h=>method_fn (S1.kin κ.O) (instAt g g2) (plainGet_of C.get).1 (plainGet_of C.get).2 hf (beq_iff_eq.mp ht) hs h) ?_
 refine I.fn (first:=[.ref a]) hk (P.go g1) λys τ2 g3 us q3=>?_
 exact Ow.mono (λo h=>post h λu1 u2 q=>q.from (Go.tr g1 g3)) (ow_callF κ.F P.R g3.hs (us:=.ref a::us) (.cons (Go.vv g3 S1 qs) q3))
theorem under_tc {n:Nat} {C:Addr} {us:List Value} (R:Room n A) (hn:1<=n):Room (n - 1) (A.under (.builtin "type.__call__" ⟨.ref C::us,[]⟩)):=by
 cases n with
 | zero=>cases hn
 | succ n=>
  have h1:Code.weight (.builtin "type.__call__" ⟨.ref C::us,[]⟩)=1:=by kernel_rfl
  have h2:Code.cUnits (.builtin "type.__call__" ⟨.ref C::us,[]⟩)=1:=by kernel_rfl
  refine ⟨R.hd,?_,?_⟩
  ·have:=R.dep
   show A.depth+Code.weight (.builtin "type.__call__" ⟨.ref C::us,[]⟩)+n < _
   rw [h1];omega
  ·have:=R.un
   show A.units+Code.cUnits (.builtin "type.__call__" ⟨.ref C::us,[]⟩)+100 * n+100 < _
   rw [h2];omega
theorem Go.alloc {ob:Obj} {x:O} {tk:Nat} (S:HS W σ) (hf:ob.isFreed=false) (q:OO W (σ.s.heap.push ob) (λa=>σ.ban a\/a∈[σ.s.heap.objs.size]) σ.r σ.s.heap.objs.size x) :
  Gn W σ ⟨λa=>σ.ban a\/a∈[σ.s.heap.objs.size],σ.r++[some σ.s.heap.objs.size],σ.H.new x,{ σ.s with heap:=σ.s.heap.push ob,toks:=tk }⟩/\Vv W ⟨λa=>σ.ban a\/a∈[σ.s.heap.objs.size],σ.r++[some σ.s.heap.objs.size],σ.H.new x,{ σ.s with heap:=σ.s.heap.push ob,toks:=tk }⟩ (.ref σ.s.heap.objs.size) (.ref σ.H.o.length):=
 Go.adopt (Go.pushed (tk:=tk) S hf) (none_size _) (.inr (.head _)) (λl=>S.fresh (S.liveB l)) q rfl
theorem ok_ccall {x:Str} {c:Nat} {es:List Expr} {xs:List X} {p pos:Pos} (hg:glob ce x=true) (h1:clsNames[c]?=some x) (I:IOK κ es xs):XE κ (.Call (.Name x p) es [] pos) (.ccall c xs):=λ{lo σ} P=>by
 refine xeeaaaaa κ.O.g λmg mb n1 n2 u1 u2 n3 u3=>?_
 by_cases hc3:c < 3
 case neg=>exact .of λo eo=>bC eo λq u1 eo=>noS ((aN (λb=>wh b _) (decide_eq_false hc3).symm:(none:Option (V×Hp))=_).trans eo)
 have C:=κ.O.cls c hc3
 refine Ow.mono (λo h=>wpAny_Call_NameR (glob_ok P.S hg n1 (n3 c x h1) h)) (I.fn (first:=[]) C.keep P λys τ g1 us q1=>Ow.w λu1=>Ow.as (Ow.be λG e5=>Ow.be λq eq=>Ow.be λd ed=>Ow.me λu1 en=>?_))
 have S1:=g1.hs
 obtain ⟨ban1,r1,H1,hh,gg,dd,tt,oo⟩:=τ
 have X1:κ.W.K.In hh:=S1.kin κ.O
 refine wpAny_call (make_core (makes_of X1 C.makes) (looks_findIn X1 C.init) (λself=>bind_fn X1 self C.initF) (.inl rfl) ?_)
 refine xa (Go.alloc (ob:=emptyDict) (x:=.inst c []) (tk:=tt) S1 rfl ⟨[],0,am _ rfl,.nil,nofun,.nil⟩) λga u1=>?_
 have gb:=Go.grow (fr:=no) (h:=(hh.push emptyDict).push (instObj (κ.W.ca c) hh.objs.size)) (tk:=tt) ga.hs λe=>ah _ e
 have g2:=Go.tr ga gb
 have sz:(hh.push emptyDict).objs.size=hh.objs.size+1:=Heap.size_push ..
 have qi:VV κ.W ((hh.push emptyDict).push (instObj (κ.W.ca c) hh.objs.size)) (λb=>ban1 b\/b∈[hh.objs.size]) (r1++[some hh.objs.size]) (.ref (hh.objs.size+1)) (.inst c H1.o.length):=
  ⟨_,rfl,.inr ⟨hh.objs.size,S1.len▸push_at ..,sz▸am (hh.push emptyDict) rfl,λz=>z.elim (λz=>xe (S1.hi z) λo e=>absurd (Heap.lt_size e) (Nat.not_lt.mpr (Nat.le_succ _))) λz=>absurd (ao.mp z) (Nat.succ_ne_self _)⟩⟩
 refine (κ.F _ _ e5 _ _ _ _ (under_tc P.R κ.hn) g2.hs (.cons qi (Go.vvs g2 S1 q1))).use eq _ λv s3 q3=>?_
 cases q3 with
 | mk ban3 r3 g3 q3=>
  have hv:v=.none:=by
   have q3:VV κ.W s3.heap ban3 r3 v q.1:=q3
   rw [dt_some ed] at q3
   cases d with
   | none=>exact q3
   | _=>exact noS en
  exact ⟨hv,ban3,r3,Go.tr (Go.tr g1 g2) g3,Go.vv g3 g2.hs qi⟩
end
section
variable {env:Env} {ce:CE} {sc:Scope} {A:Around} {E:Value->Shared->Prop} {s:Shared} {α:Type} {x:Str} {p:Str×α} {l:List (Str×α)} {names:List (Str×NameKind)}
theorem lk_self {a:α}:((x,a)::l).lookup x=some a:=by rw [List.lookup_cons,beq_self_eq_true]
theorem lk_ne (h:x≠p.1):(p::l).lookup x=l.lookup x:=by
 cases p;rw [List.lookup_cons,beq_false_of_ne h]
theorem lookup_of_mem {a:α} (nd:(l.map (·.1)).Nodup) (m:(x,a)∈l):l.lookup x=some a:=by
 induction l with
 | nil=>cases m
 | cons p l ih=>
  have nd:=List.nodup_cons.mp nd
  exact (aG.mp m).elim (λe=>e▸lk_self) λm=>(lk_ne λe=>nd.1 (aJ.mpr ⟨_,m,e⟩)).trans (ih nd.2 m)
theorem okScope_of (h:okScope ce sc=true):sc.kind=.function/\(sc.names.map (·.1)).Nodup/\∀ {x},(x,NameKind.free)∈sc.names->∃ m,slot ce x=some m/\ce.sc.names.lookup x≠some .local:=
 ⟨eq_of_beq (b1 (b1 h)),aw (b2 (b1 h)),λm=>(Bool.or_eq_true_iff.mp (List.all_eq_true.mp (b2 h) _ m)).elim (λz=>absurd rfl (bne_iff_ne.mp z)) λz=>xe (Option.isSome_iff_exists.mp (b1 z)) λm e=>⟨m,e,bne_iff_ne.mp (b2 z)⟩⟩
theorem varK_of {k:NameKind} (h:varK k=true):k=.local\/k=.cell:=(Bool.or_eq_true_iff.mp h).imp eq_of_beq eq_of_beq
inductive InSlot (ce:CE) (sc:Scope) (x:Str) (m:Nat):Prop
 | own (i:Nat) (k:NameKind) (hi:sc.names[i]?=some (x,k)) (hk:k=.local\/k=.cell) (e:m=ce.base+i)
 | out (h:(x,NameKind.free)∈sc.names) (e:slot ce x=some m)
theorem slot_inner {m:Nat} (h:slot (ce.inner sc) x=some m):InSlot ce sc x m:=by
 have hl:(compNm ce sc.names).lookup x=some m:=by
  unfold slot at h
  split at h
  ·exact noS h
  ·refine bC h λk u1 h=>?_
   cases hk:varK k||k==.free with
   | false=>rw [hk] at h;exact noS h
   | true=>rw [hk] at h;exact h
 refine xea (List.mem_filterMap.mp (mem_of_lookup hl)) λq hz hf=>?_
 obtain ⟨⟨y,k⟩,i⟩:=q
 have hi:sc.names[i]?=some (y,k):=List.mem_zipIdx_iff_getElem?.mp hz
 cases hk:varK k with
 | true=>
  replace hf:(bif varK k then some (y,ce.base+i) else _)=some (x,m):=hf
  rw [hk] at hf
  cases hf
  exact .own i k hi (varK_of hk) rfl
 | false=>
  replace hf:(bif varK k then _ else bif k==.free then (slot ce y).map (y,·) else none)=some (x,m):=hf
  rw [hk] at hf
  cases hf2:k==.free with
  | false=>rw [hf2] at hf;exact noS hf
  | true=>
   rw [hf2] at hf
   refine xea (ai.mp hf) λa h4 h5=>?_
   cases h5
   exact .out (eq_of_beq hf2▸List.mem_of_getElem? hi) h4
theorem cells_cons {k:Nat} {p:Str×NameKind} {acc:List (Str×Addr)}:cellsFrom k (p::names) acc=if p.2==.cell then cellsFrom (k+1) names ((p.1,k)::acc) else cellsFrom k names acc:=rfl
theorem cells_out (hx:(x,NameKind.cell)∉names):∀ {k acc},(cellsFrom k names acc).lookup x=acc.lookup x:=by
 induction names with
 | nil=>exact rfl
 | cons p l ih=>
  intro k acc
  have ih:=λk acc=>@ih (λz=>hx (.tail _ z)) k acc
  rw [cells_cons]
  split
  case isTrue h=>exact (ih _ _).trans (lk_ne λe=>hx (by rw [e,← eq_of_beq h];exact .head _))
  case isFalse=>exact ih _ _
theorem cells_in:(x,NameKind.cell)∈names->∀ k,∃ c,∀ acc,(cellsFrom k names acc).lookup x=some c:=by
 induction names with
 | nil=>exact λh=>nomatch h
 | cons p l ih=>
  intro hx k
  by_cases m:(x,NameKind.cell)∈l
  ·by_cases h:(p.2==NameKind.cell)=true
   ·exact xe (ih m (k+1)) λc z=>⟨c,λacc=>by rw [cells_cons,aQ h];exact z _⟩
   ·exact xe (ih m k) λc z=>⟨c,λacc=>by rw [cells_cons,aP h];exact z _⟩
  ·have e:=(aG.mp hx).resolve_right m
   subst e
   exact ⟨k,λacc=>by rw [cells_cons,aQ (by rfl),cells_out m,lk_self]⟩
noncomputable def caught (env:Env):List (Str×NameKind)->List (Str×Addr)->List (Str×Addr)
 | [],acc=>acc
 | p::l,acc=>caught env l (if p.2==.free then (p.1,(env.cells.lookup p.1).getD 0)::acc else acc)
theorem closure_eq (hf:∀ x,(x,NameKind.free)∈sc.names->∃ c,env.cells.lookup x=some c):closureFor sc env=pure (caught env sc.names []):=by
 have:∀ (l:List (Str×NameKind)) (acc:List (Str×Addr)),(∀ x,(x,NameKind.free)∈l->∃ c,env.cells.lookup x=some c) ->
   (forIn l acc λ(p:Str×NameKind) cs=>do
    if p.2==.free then (do let a ← cellOf env p.1;pure (ForInStep.yield ((p.1,a)::cs))) else pure (ForInStep.yield cs):Sem _)=pure (caught env l acc):=λl=>by
  induction l with
  | nil=>exact λacc u1=>List.forIn_nil
  | cons p l ih=>
   intro acc hl
   have ih:=λacc=>ih acc λx h=>hl x (.tail _ h)
   rw [List.forIn_cons]
   unfold caught
   by_cases hk:(p.2==NameKind.free)=true
   ·rw [aQ hk,aQ hk]
    refine xe (hl p.1 (eq_of_beq hk▸.head _)) λc hc=>?_
    have:cellOf env p.1=pure c:=by unfold cellOf;rw [hc]
    rw [this,hc]
    exact ih _
   ·rw [aP hk,aP hk]
    exact ih _
 have e:=this sc.names [] hf
 unfold closureFor
 first
  | exact e
  | (simp only [bind_pure];exact e)
  | (rw [show (forIn sc.names [] _:Sem _)=_ from e];rfl)
theorem caught_lookup {c:Addr} (hc:(env.cells.lookup x).getD 0=c):∀ {acc:List (Str×Addr)},(x,NameKind.free)∈names\/acc.lookup x=some c->(caught env names acc).lookup x=some c:=by
 induction names with
 | nil=>exact λh=>h.resolve_left nofun
 | cons p l ih=>
  intro acc h
  refine ih ?_
  by_cases e:x=p.1
  ·by_cases hk:(p.2==NameKind.free)=true
   ·rw [aQ hk];exact .inr (by rw [← e,hc];exact lk_self)
   ·rw [aP hk];exact h.imp (λm=>(aG.mp m).resolve_left λe=>hk (by rw [← e];rfl)) id
  ·refine h.imp (λm=>(aG.mp m).resolve_left λz=>e (aN (·.1) z)) λq=>?_
   by_cases hk:(p.2==NameKind.free)=true
   ·rw [aQ hk,lk_ne (by exact e)];exact q
   ·rw [aP hk];exact q
theorem newCompEnv {scope:Scope} {globals:Addr} {cl:List (Str×Addr)} {qual:Str} {outer:Env} {M:Model} {Q:Env->Shared->Prop}
  (hQ:Q (newEnv scope s.heap.objs.size globals (cellsFrom (s.heap.objs.size+1) scope.names cl) qual none .none (some outer) builtinsNs) { s with heap:=pushCells (s.heap.push { cls:=.type "dict",data:=.dict #[] }) scope.names }) :
  wpAny M A (newFunctionEnv scope globals cl [] qual none .none (some outer)) Q E s:=by
 simp only [newFunctionEnv,Option.isSome_some,if_true]
 refine aL (wpAny_alloc (aL (wpAny_layCells _ (λname kind cells=>by by_cases h:(kind==NameKind.cell)=true <;> simp only [h,if_true,if_false] <;> rfl) _ _ _ _ ?_)))
 rw [show ({ s with heap:=s.heap.push { cls:=.type "dict",data:=.dict #[] } }:Shared).heap.objs.size=s.heap.objs.size+1 from Heap.size_push ..]
 refine aL ?_
 rw [List.forIn_nil]
 exact aM (aM hQ)
end
noncomputable def cEnv (env:Env) (sc:Scope) (k:Nat):Env:={ newEnv sc k env.globals (cellsFrom (k+1) sc.names (caught env sc.names [])) env.qual none .none (some env) builtinsNs with scope:=relabel sc env }
noncomputable def cFr (env:Env) (sc:Scope) (k:Nat) (a:Addr):Prop:=a=k\/∃ x,(x,NameKind.cell)∈sc.names/\(cEnv env sc k).cells.lookup x=some a
section
variable {ce:CE} {κ:Cx ce} {sc:Scope} {lo k:Nat} {σ:Sg} {fr:Addr->Prop} {vs:Vars} {h:Heap} {x:Str} {kd:NameKind} {env:Env}
theorem nd_kind {k':NameKind} (nd:(sc.names.map (·.1)).Nodup) (m:(x,kd)∈sc.names) (m':(x,k')∈sc.names):kd=k':=aE ((lookup_of_mem nd m).symm.trans (lookup_of_mem nd m'))
theorem kind_in (nd:(sc.names.map (·.1)).Nodup) (m:(x,kd)∈sc.names):(cEnv env sc k).kindOf x=some kd\/kd=.free/\(cEnv env sc k).kindOf x=some .cell:=by
 have e:∀ {k'},(x,k')∈(relabel sc env).names->(cEnv env sc k).kindOf x=some k':=lookup_of_mem (l:=(relabel sc env).names) (by
  refine (aN List.Nodup ?_).mpr nd
  exact (aK ..).trans (List.map_congr_left λp u1=>by dsimp only [Function.comp];split <;> rfl))
 by_cases c:(kd==NameKind.free&&env.scope.kind==.function&&env.kindOf x==some .cell)=true
 ·exact .inr ⟨eq_of_beq (b1 (b1 c)),e (aJ.mpr ⟨_,m,aQ c⟩)⟩
 ·exact .inl (e (aJ.mpr ⟨_,m,aP c⟩))
theorem kind_own (nd:(sc.names.map (·.1)).Nodup) (m:(x,kd)∈sc.names) (hk:kd≠.free):(cEnv env sc k).kindOf x=some kd:=(kind_in nd m).elim id λz=>absurd z.1 hk
structure InF (κ:Cx ce) (sc:Scope) (lo:Nat) (fr:Addr->Prop) (σ:Sg) (vs:Vars) (h:Heap):Prop where
 hs:okScope ce sc=true
 nd:(sc.names.map (·.1)).Nodup
 T:VS κ lo fr σ vs
 own:∀ {x},(x,NameKind.cell)∈sc.names->∃ c,(cEnv κ.env sc σ.s.heap.objs.size).cells.lookup x=some c/\σ.s.heap.objs.size+1<=c/\h.IsCell c none
 apart:∀ {x y c},(x,NameKind.cell)∈sc.names->(y,NameKind.cell)∈sc.names->(cEnv κ.env sc σ.s.heap.objs.size).cells.lookup x=some c->(cEnv κ.env sc σ.s.heap.objs.size).cells.lookup y=some c->x=y
 out:∀ {x},(x,NameKind.free)∈sc.names->∃ c,(cEnv κ.env sc σ.s.heap.objs.size).cells.lookup x=some c/\κ.env.cells.lookup x=some c/\κ.env.kindOf x≠some .local
 keep:∀ {a o},σ.s.heap.get? a=some o->h.get? a=some o
 loc:h.Ns σ.s.heap.objs.size λu1=>none
theorem free_cell (hs:okScope ce sc=true) (m:(x,NameKind.free)∈sc.names):∃ c,κ.env.cells.lookup x=some c/\κ.env.kindOf x≠some .local:=
 xea ((okScope_of hs).2.2 m) λi h4 h5=>(κ.N.var x i h4).elim (λk=>absurd (κ.N.loc x i h4 k) h5) λ⟨k,c,hc⟩=>⟨c,hc,λz=>k.elim (λk=>nomatch z.symm.trans k) λk=>nomatch z.symm.trans k⟩
theorem inF (hs:okScope ce sc=true) (T:VS κ lo fr σ vs):InF κ sc lo fr σ vs (pushCells (σ.s.heap.push { cls:=.type "dict",data:=.dict #[] }) sc.names):=by
 have ok:=cellsFrom_ok sc.names (σ.s.heap.push { cls:=.type "dict",data:=.dict #[] }) (σ.s.heap.objs.size+1) [] ⟨λu1 u2 hm=>(nomatch hm),List.Pairwise.nil⟩ (by rw [Heap.size_push];exact Nat.le_refl _)
 rw [Heap.size_push] at ok
 have own:∀ {x},(x,NameKind.cell)∈sc.names->∃ c,(x,c)∈cellsFrom (σ.s.heap.objs.size+1) sc.names []/\(cEnv κ.env sc σ.s.heap.objs.size).cells.lookup x=some c:=λm=>xe (cells_in m _) λc z=>⟨c,mem_of_lookup (z []),z _⟩
 have nd:=(okScope_of hs).2.1
 refine ⟨hs,nd,T,λm=>xea (own m) λc z1 z2=>⟨c,z2,(ok.empty _ c z1).2,(ok.empty _ c z1).1⟩,λmx my h1 h2=>?_,λm=>?_,λe=>pushCells_keeps _ _ _ _ (ah _ e),(Heap.Ns.new σ.s.heap (.type "dict")).keeps (pushCells_keeps _ _)⟩
 ·refine xea (own mx) λc1 h3 h4=>xea (own my) λc2 h5 h6=>?_
  cases h1.symm.trans h4
  cases h2.symm.trans h6
  exact name_of_addr ok.apart h3 h5
 ·refine xea (free_cell (κ:=κ) hs m) λc hc hk=>⟨c,(cells_out λz=>?_).trans (caught_lookup (by rw [hc];rfl) (.inl m)),hc,hk⟩
  cases nd_kind nd m z
inductive InCell (κ:Cx ce) (sc:Scope) (k:Nat) (h:Heap) (x:Str) (m:Nat) (c:Addr):Prop
 | own (mem:(x,NameKind.cell)∈sc.names) (l:k+1<=c) (ic:h.IsCell c none) (hm:ce.base<=m)
 | out (hx:slot ce x=some m) (hc:κ.env.cells.lookup x=some c) (hk:κ.env.kindOf x≠some .local)
theorem InF.cell {m:Nat} {c:Addr} (F:InF κ sc lo fr σ vs h) (hx:slot (ce.inner sc) x=some m) (hk:(cEnv κ.env sc σ.s.heap.objs.size).kindOf x≠some .local) (hc:(cEnv κ.env sc σ.s.heap.objs.size).cells.lookup x=some c):InCell κ sc σ.s.heap.objs.size h x m c:=by
 cases slot_inner hx with
 | own i kd hi hk1 e=>
  have mem:=List.mem_of_getElem? hi
  rcases hk1 with rfl | rfl
  ·exact absurd (kind_own F.nd mem nofun) hk
  ·refine xeaa (F.own mem) λc1 z1 z2 z3=>?_
   cases hc.symm.trans z1
   exact .own mem z2 z3 (e▸Nat.le_add_right ..)
 | out mem ho=>exact xeaa (F.out mem) λc1 z1 z2 z3=>by cases hc.symm.trans z1;exact .out ho z2 z3
theorem InF.lt {c:Addr} {m:Nat} {G:Prop} (F:InF κ sc lo fr σ vs h) (hx:slot ce x=some m) (hc:κ.env.cells.lookup x=some c) (hk:κ.env.kindOf x≠some .local) (l:σ.s.heap.objs.size+1<=c):G:=
 xe (F.T.cell hx hk hc).1 λv ⟨o,e,u1⟩=>absurd (Heap.lt_size e) (Nat.not_lt.mpr (Nat.le_of_succ_le l))
theorem InF.envk (F:InF κ sc lo fr σ vs h):EnvOK (cEnv κ.env sc σ.s.heap.objs.size) (ce.inner sc) where
 kind:=(okScope_of F.hs).1
 glo:=κ.N.glo
 bui:=κ.N.bui
 var x m hx:=by
  cases slot_inner hx with
  | own i kd hi hk e=>
   have mem:=List.mem_of_getElem? hi
   rcases hk with rfl | rfl
   ·exact .inl (kind_own F.nd mem nofun)
   ·exact .inr ⟨.inl (kind_own F.nd mem nofun),xea (F.own mem) λc z u1=>⟨c,z⟩⟩
  | out mem ho=>exact .inr ⟨(kind_in F.nd mem).elim .inr λz=>.inl z.2,xea (F.out mem) λc z u1=>⟨c,z⟩⟩
 glob x hg:=kind_own F.nd (mem_of_lookup (eq_of_beq (b1 hg))) nofun
 inj x y m hx hy:=by
  cases slot_inner hx with
  | own i kd hi hk e=>cases slot_inner hy with
   | own j kd' hj hk' e'=>
    have:i=j:=Nat.add_left_cancel (e.symm.trans e')
    subst this
    cases hi.symm.trans hj
    rfl
   | out mem ho=>subst e;exact absurd (κ.N.bnd _ _ ho) (Nat.not_lt.mpr (Nat.le_add_right ..))
  | out mem ho=>cases slot_inner hy with
   | own j kd' hj hk' e'=>subst e';exact absurd (κ.N.bnd _ _ ho) (Nat.not_lt.mpr (Nat.le_add_right ..))
   | out mem' ho'=>exact κ.N.inj _ _ _ ho ho'
 cinj x y m n c hx hy kx ky cx cy:=by
  cases F.cell hx kx cx with
  | own mem l ic hm=>cases F.cell hy ky cy with
   | own mem'=>exact F.apart mem mem' cx cy
   | out hx' hc' hk'=>exact F.lt hx' hc' hk' l
  | out hx1 hc1 hk1=>cases F.cell hy ky cy with
   | own mem' l'=>exact F.lt hx1 hc1 hk1 l'
   | out hx' hc' hk'=>exact κ.N.cinj x y m n c hx1 hx' hk1 hk' hc1 hc'
 bnd x m hx:=by
  cases slot_inner hx with
  | own i kd hi hk e=>subst e;exact Nat.add_lt_add_left (aa.mp hi).1 _
  | out mem ho=>exact av (κ.N.bnd _ _ ho) (Nat.le_add_right ..)
 loc x m hx hk:=by
  have nk:∀ {kd},(x,kd)∈sc.names->kd≠.local->False:=λmem ne=>(kind_in F.nd mem).elim (λz=>ne (aE (z.symm.trans hk))) λz=>nomatch z.2.symm.trans hk
  cases slot_inner hx with
  | own i kd hi hk e=>
   have mem:=List.mem_of_getElem? hi
   rcases hk with rfl | rfl
   ·exact lookup_of_mem F.nd mem
   ·exact (nk mem nofun).elim
  | out mem ho=>exact (nk mem nofun).elim
 code c hc:=κ.N.code c hc
noncomputable def InF.cx (F:InF κ sc lo fr σ vs h):Cx (ce.inner sc):=⟨κ.W,κ.n,_,κ.Φ,κ.hn,κ.O,κ.F,F.envk⟩
noncomputable abbrev inS (κ:Cx ce) (sc:Scope) (σ:Sg) (h:Heap):Sg:=⟨λa=>σ.ban a\/cFr κ.env sc σ.s.heap.objs.size a,σ.r,σ.H,{ σ.s with heap:=h,toks:=σ.s.toks }⟩
theorem InF.new {a:Addr} (F:InF κ sc lo fr σ vs h) (f:cFr κ.env sc σ.s.heap.objs.size a):σ.s.heap.get? a=none/\∃ o,h.get? a=some o:=by
 rcases f with rfl | ⟨x,hx,hc⟩
 ·exact ⟨none_size _,Ns.get F.loc⟩
 ·refine xeaa (F.own hx) λc z1 z2 ⟨o,z3,u1⟩=>?_
  cases hc.symm.trans z1
  exact ⟨Heap.get?_none_of_le (Nat.le_of_succ_le z2),o,z3⟩
theorem InF.go (F:InF κ sc lo fr σ vs h) (S:HS κ.W σ):Gn κ.W σ (inS κ sc σ h):=Go.moreP S F.keep F.new
theorem InF.vrs (F:InF κ sc lo fr σ vs h) (S:HS κ.W σ):VS F.cx ce.base (cFr κ.env sc σ.s.heap.objs.size) (inS κ sc σ h) (vs++List.replicate sc.names.length none):=by
 have nl:∀ {a},cFr κ.env sc σ.s.heap.objs.size a->¬ Live σ.r a:=λf l=>S.ab (S.liveB l) (F.new f).1
 have G:=F.go S
 refine ⟨?_,λ{x m X} hx hv=>?_,⟨_,F.loc⟩,λ{x m c} hx hk hc=>?_,⟨.inr (.inl rfl),nl (.inl rfl)⟩,.inl rfl,λf=>⟨.inr f,nl f⟩,λ{x m c} hx hm hk hc=>?_⟩
 ·rw [aq,List.length_replicate,F.T.len];rfl
 ·cases slot_inner hx with
  | own i kd hi hk e=>
   subst e
   rw [List.getElem?_append_right (by rw [F.T.len];exact Nat.le_add_right ..),List.getElem?_replicate] at hv
   split at hv <;> cases hv
  | out mem ho=>
   rw [List.getElem?_append_left (by rw [F.T.len];exact κ.N.bnd _ _ ho)] at hv
   refine xea (F.T.vars ho hv) λv q z=>xeaa (F.out mem) λc c1 c2 c3=>⟨v,.inr ⟨(kind_in F.nd mem).elim .inr λz=>.inl z.2,c,c1,?_⟩,G.vv S z⟩
   rcases q with ⟨k,_⟩ | ⟨_,c',e,o,g,d⟩
   ·exact absurd k c3
   ·cases c2.symm.trans e
    exact ⟨o,F.keep g,d⟩
 ·cases F.cell hx hk hc with
  | own mem l ic hm=>exact ⟨⟨_,ic⟩,λe=>absurd l (by rw [show c=σ.s.heap.objs.size from e];exact Nat.not_succ_le_self _),.inr (.inr ⟨x,mem,hc⟩),nl (.inr ⟨x,mem,hc⟩)⟩
  | out hx' hc' hk'=>exact xaaa (F.T.cell hx' hk' hc') λ⟨v,o,g,d⟩ ne b l=>⟨⟨v,o,F.keep g,d⟩,Nat.ne_of_lt (Heap.lt_size g),.inl b,l⟩
 ·cases F.cell hx hk hc with
  | own mem l ic hm'=>exact ⟨.inr ⟨x,mem,hc⟩,kind_own F.nd mem nofun⟩
  | out hx' hc' hk'=>exact absurd (κ.N.bnd _ _ hx') (Nat.not_lt.mpr hm)
end
mutual
theorem bindP_get:∀ (p:Pat) {v:V} {vs:Vars},Ow (bindP p v vs) λvs'=>vs'.length=vs.length/\∀ {m},m∉p.vars->vs'[m]?=vs[m]?
 | .var k,v,vs=>⟨List.length_set ..,λh=>List.getElem?_set_ne λe=>h (ao.mpr e.symm)⟩
 | .tup ps,v,vs=>.be λd u1=>.be λxs u1=>.w λu1=>bindPs_get ps
theorem bindPs_get:∀ (ps:List Pat) {xs:List D} {vs:Vars},Ow (bindPs ps xs vs) λvs'=>vs'.length=vs.length/\∀ {m},m∉patsVars ps->vs'[m]?=vs[m]?
 | [],_,_=>⟨rfl,λu1=>rfl⟩
 | p::ps,[],_=>aO
 | p::ps,x::xs,vs=>.b (Ow.mono (λvs1 a=>Ow.mono (λu1 b=>⟨b.1.trans a.1,λh=>(b.2 λz=>h (aD.mpr (.inr z))).trans (a.2 λz=>h (aD.mpr (.inl z)))⟩) (bindPs_get ps)) (bindP_get p))
end
mutual
theorem vars_ge {lo m:Nat}:∀ {p:Pat},p.ge lo=true->m∈p.vars->lo<=m
 | .var k,h,hm=>ao.mp hm▸aw h
 | .tup ps,h,hm=>patsVars_ge h hm
theorem patsVars_ge {lo m:Nat}:∀ {ps:List Pat},patsGe lo ps=true->m∈patsVars ps->lo<=m
 | p::ps,h,hm=>(aD.mp hm).elim (vars_ge (b1 h)) (patsVars_ge (b2 h))
end
section
variable {ce:CE} {κ:Cx ce} {lo:Nat} {σ τ:Sg} {fr:Addr->Prop} {vs vs':Vars} {wr:List Addr} {tk:Nat} {h':Heap}
theorem VS.forget {vs2:Vars} (T:VS κ lo fr σ vs) (hl:vs2.length=vs.length) (hv:∀ {m:Nat} {X:V},vs2[m]?=some (some X)->vs[m]?=some (some X)):VS κ lo fr σ vs2:=
 {T with len:=hl.trans T.len,vars:=λhx e=>T.vars hx (hv e) }
theorem VS.close (T:VS κ lo fr σ vs) (ap:Apart κ fr wr) (hb:∀ {b},b∈wr->σ.ban b) (k:∀ {b o},b∉wr->σ.s.heap.get? b=some o->h'.get? b=some o):VS κ lo fr ⟨λa=>σ.ban a/\a∉wr,σ.r,σ.H,{ σ.s with heap:=h',toks:=tk }⟩ vs:=
 have nL:κ.env.locals∉wr:=λq=>(ap q).2.1 rfl
 have X:Ex σ.s.heap σ.ban h' (λa=>σ.ban a/\a∉wr):=⟨λn=>k λm=>n (hb m),λe=>.inl e.1⟩
 xe T.loc λm n=>⟨T.len,λe f=>xea (T.vars e f) λv q z=>⟨v,q.step (k nL) (λh kd=>k λq=>(ap q).2.2 e kd h rfl),z.step X (.refl _)⟩,⟨m,n.at' λu1=>k nL⟩,
  λe kd f=>xaaa (T.cell e kd f) λ⟨v,o,h1,h2⟩ d b l=>have nc:=λq=>(ap q).2.2 e kd f rfl;⟨⟨v,o,k nc h1,h2⟩,d,⟨b,nc⟩,l⟩,⟨⟨T.locB.1,nL⟩,T.locB.2⟩,T.frL,λf=>⟨⟨(T.frB f).1,λq=>(ap q).1 f⟩,(T.frB f).2⟩,T.frC⟩
structure LC (κ:Cx ce) (lo:Nat) where
 A:Around
 fr:Addr->Prop
 wr:List Addr
 items:List V
 lock:Bool
 tp:Bool
 it:Value
 σ0:Sg
 ga:Addr->Prop
 J:List D->Sg->Prop
 R:Room κ.n A
 ap:Apart κ fr wr
 new:∀ {b},b∈wr->σ0.s.heap.get? b=none
 nl:∀ {a},fr a\/ga a->¬ Live σ0.r a
 na:∀ {a},ga a->¬ fr a/\a∉wr
 st:∀ {d σ τ},J d σ->(∀ {a o},ga a->σ.s.heap.get? a=some o->τ.s.heap.get? a=some o)->Ex σ.s.heap σ.ban τ.s.heap τ.ban->J d τ
section
variable {L:LC κ lo} {i:Nat} {d d':List D}
structure LP (L:LC κ lo) (i:Nat) (vs:Vars) (d:List D) (σ:Sg):Prop where
 g:Go κ.W (λa=>L.fr a\/L.ga a) L.σ0 σ
 T:VS κ lo L.fr σ vs
 b:∀ {a},L.ga a->σ.ban a/\¬ Live σ.r a
 j:L.J d σ
 I:ItAt κ.W L.A L.items L.lock L.tp L.wr i L.it σ
inductive LE (L:LC κ lo) (vs:Vars) (d:List D) (H:Hp) (s:Shared):Prop
 | mk (ban:Addr->Prop) (r:Rho) (g:Go κ.W (λa=>L.fr a\/L.ga a) L.σ0 ⟨ban,r,H,s⟩) (T:VS κ lo L.fr ⟨ban,r,H,s⟩ vs) (b:∀ {a},L.ga a->ban a/\¬ Live r a) (j:L.J d ⟨ban,r,H,s⟩)
inductive BE (L:LC κ lo) (σ:Sg) (vs:Vars) (d:List D) (H:Hp) (s:Shared):Prop
 | mk (ban:Addr->Prop) (r:Rho) (g:Go κ.W (λa=>L.fr a\/L.ga a) σ ⟨ban,r,H,s⟩) (T:VS κ lo L.fr ⟨ban,r,H,s⟩ vs) (j:L.J d ⟨ban,r,H,s⟩)
theorem ItAt.wrB {A:Around} {items:List V} {lock tp:Bool} {it:Value} {W:Wd} (I:ItAt W A items lock tp wr i it σ) {b:Addr} (m:b∈wr):σ.ban b/\¬ Live σ.r b:=by
 cases I with | mk I fp P Pt St e w st hwr=>exact hwr b m
theorem LP.turn {m:Nat} {tgt:Expr} {p:Pat} {x:V} (P:LP L i vs d σ) (htp:L.tp=true->p.isTup=true) (hx:L.items[i]?=some x) (hp:patOf m ce tgt=some p) (hge:p.ge lo=true) (hb:bindP p x vs=some vs') :
  wpAny κ.W.m L.A (pyNext L.it) (λrv s'=>∃ v,rv=some v/\wpAny κ.W.m L.A (letOwnedTupleGo tgt L.it v) (λu1 s2=>wpAny κ.W.m L.A (assign tgt κ.env v) (λu1 s3=>LP L (i+1) vs' d (σ.at s3)) NoE s2) NoE s') NoE σ.s:=
 post (P.I.turn htp hx hp hge L.R.hd P.g.hs P.T L.ap hb) λrv s1 ⟨v,e,h⟩=>⟨v,e,post h λu1 s2 h=>post h λu1 s3 ⟨g,T,I⟩=>
  have fb:∀ {a},L.fr a\/a∈L.wr->σ.ban a:=λq=>q.elim (λf=>(P.T.frB f).1) λm=>(P.I.wrB m).1
  ⟨P.g.trans' g (λq=>q.elim (λf=>.inl (.inl f)) λm=>.inr (L.new m)) L.nl,T,P.b,L.st P.j (λq e=>g.keep (P.b q).2 (λz=>z.elim (L.na q).1 (L.na q).2) e) (g.exF P.g.hs fb),I⟩⟩
theorem LP.body (P:LP L i vs d σ) (g:Go κ.W (λa=>L.fr a\/L.ga a) σ τ) (T:VS κ lo L.fr τ vs') (j:L.J d' τ) (hl:L.lock=true->τ.H.w=σ.H.w):LP L i vs' d' τ:=
 ⟨P.g.trans' g .inl L.nl,T,λq=>xa (P.b q) λb l=>xe (P.g.hs.hi b) λo e=>⟨g.bst b l e,g.nlive l e⟩,j,P.I.go P.g.hs g (λm q=>q.elim (L.ap m).1 λq=>(L.na q).2 m) (λq=>q.elim P.T.frB P.b) hl⟩
theorem LP.fin {Q:Option Value->Shared->Prop} (P:LP L L.items.length vs d σ) (h:∀ s',LE L vs d σ.H s'->Q none s'):wpAny κ.W.m L.A (pyNext L.it) Q NoE σ.s:=by
 have hb:∀ {b},b∈L.wr->σ.ban b/\¬ Live σ.r b:=P.I.wrB
 cases P.I with
 | mk I fp Pv Pt St e w st hwr=>
  rw [e]
  exact w.done st λh' tk k=>h _ ⟨_,_,P.g.close (tk:=tk) L.new (λm=>(hb m).2) (λm=>(hb m).1) k,P.T.close L.ap (λm=>(hb m).1) k,λq=>⟨⟨(P.b q).1,(L.na q).2⟩,(P.b q).2⟩,
   L.st P.j (λq=>k (L.na q).2) ⟨λn=>k λm=>n (hb m).1,λe=>.inl e.1⟩⟩
theorem LP.self {Q:Value->Shared->Prop} (P:LP L i vs d σ) (h:Q L.it σ.s):wpAny κ.W.m L.A (pyIter L.it) Q NoE σ.s:=by
 cases P.I with
 | mk I fp Pv Pt St e w st hwr=>rw [e] at h ⊢;exact w.self st h
abbrev Mono (RW:(Shared->Prop)->Shared->Prop):Prop:=∀ {P P':Shared->Prop} {s},(∀ s,P s->P' s)->RW P s->RW P' s
theorem comp_loop {c:Code} {tgt:Expr} {RW:(Shared->Prop)->Shared->Prop} {pt:Pat} {m:Nat} {vs0:Vars} {after:Vars->Hp->Option (List D×Hp)} {B:List D->Prop} (hpre:∀ {a b},B (a++b)->B a) (hm:Mono RW)
  (hturn:∀ {Q:Result->Shared->Prop} {s:Shared},wpAny κ.W.m L.A (pyNext L.it) (λrv s1=>rv.elim (Q (.ok .next) s1) λv=>wpAny κ.W.m L.A (letOwnedTupleGo tgt L.it v) (λu1 s2=>wpAny κ.W.m L.A (assign tgt κ.env v) (λu1 s3=>RW (codeAny κ.W.m L.A c Q) s3) NoE s2) NoE s1) NoE s->codeAny κ.W.m L.A c Q s)
  (hp:patOf m ce tgt=some pt) (hge:pt.ge lo=true) (htp:L.tp=true->pt.isTup=true) (hfree:∀ {m},m∈pt.vars->∀ {X:V},vs0[m]?≠some (some X))
  (step:∀ {vs1 i d σ},(∃ v,bindP pt v vs0=some vs1)->LP L i vs1 d σ->Ow (after vs1 σ.H) λo=>B (d++o.1)->RW (BE L σ vs1 (d++o.1) o.2) σ.s) {Q:Result->Shared->Prop} (l:List V) :
  ∀ {i d σ},L.items.drop i=l->i<=L.items.length->LP L i vs0 d σ->Ow (compLoop L.lock (λv h=>(bindP pt v vs0).bind λvs=>after vs h) l σ.H) λo=>B (d++o.1)->(∀ s,LE L vs0 (d++o.1) o.2 s->Q (.ok .next) s)->codeAny κ.W.m L.A c Q σ.s:=by
 induction l with
 | nil=>
  intro i d σ hd hi P _ k
  have e:=Nat.le_antisymm hi (List.drop_eq_nil_iff.mp hd)
  subst e
  rw [List.append_nil] at k
  exact hturn (P.fin (Q:=λrv s1=>rv.elim (Q (.ok .next) s1) _) k)
 | cons v l ih=>
  intro i d σ hd hi P
  have hx:L.items[i]?=some v:=by
   have z:=List.getElem?_drop (xs:=L.items) (i:=i) (j:=0)
   rw [hd] at z
   exact z.symm
  have hd':L.items.drop (i+1)=l:=by rw [← List.drop_drop,hd];rfl
  refine Ow.b (Ow.be λvs1 hb=>Ow.of λx ex=>Ow.w λhl=>Ow.m (Ow.of λys ey hB k=>?_))
  rw [← ax] at hB k
  refine hturn (post (P.turn htp hx hp hge hb) λrv s1 ⟨v,e,h1⟩=>?_)
  subst e
  refine post h1 λu1 s2 h2=>post h2 λu1 s3 P3=>hm (λs4 z=>?_) ((step ⟨_,hb⟩ P3).use ex (hpre hB))
  cases z with | mk ban r g T j=>?_
  refine (ih hd' (aa.mp hx).1 (P3.body g (T.forget ((bindP_get pt).use hb).1.symm λ{m X} e=>(((bindP_get pt).use hb).2 λq=>hfree q e).trans e) j λh=>?_)).use ey hB k
  rw [h] at hl;exact eq_of_beq hl
end
end
section
variable {W:Wd} {A:Around} {env:Env} {sc:Scope} {s:Shared} {elt kx vx t it t2 it2:Expr} {ifs:List Expr} {pos:Pos} {itv acc:Value} {Q:Result->Shared->Prop} {c:Code} {d:Nat} {e:Expr}
noncomputable def tests (env:Env) (ifs:List Expr):Sem Bool:=forIn ifs true λc r=>if r=true then do let ok ← isTrue c env (eval c env);pure (ForInStep.yield ok) else pure (ForInStep.yield r)
noncomputable def Guarded (W:Wd) (A:Around) (env:Env) (ifs:List Expr) (RW:(Shared->Prop)->Shared->Prop) (Q:Shared->Prop) (s:Shared):Prop:=
 wpAny W.m A (tests env ifs) (λok s1=>bif ok then RW Q s1 else Q s1) NoE s
noncomputable def EmitL (W:Wd) (A:Around) (env:Env) (elt:Expr) (acc:Value) (Q:Shared->Prop) (s:Shared):Prop:=
 wpAny W.m A (eval elt env) (λx s1=>wpAny W.m A (call (.builtin "list.append") [acc,x]) (λu1 s2=>Q s2) NoE s1) NoE s
noncomputable def EmitD (W:Wd) (A:Around) (env:Env) (ke ve:Expr) (d:Addr) (Q:Shared->Prop) (s:Shared):Prop:=
 wpAny W.m A (eval ke env) (λx s1=>wpAny W.m A (eval ve env) (λy s2=>wpAny W.m A (dictSet d x y) (λu1 s3=>Q s3) NoE s2) NoE s1) NoE s
noncomputable def Inner (W:Wd) (A:Around) (env:Env) (e it2:Expr) (acc:Value) (Q:Shared->Prop) (s:Shared):Prop:=
 wpAny W.m A (eval it2 env) (λx s1=>wpAny W.m A (pyIter x) (λitv s2=>codeAny W.m A (.compStart e 1 itv acc env) (λrs s3=>rs=.ok .next/\Q s3) s2) NoE s1) NoE s
theorem emitL_mono:Mono (EmitL W A env elt acc):=λk h=>post h λx s1 h=>post h λu1 s2=>k _
theorem emitD_mono {d:Addr}:Mono (EmitD W A env kx vx d):=λk h=>post h λx s1 h=>post h λy s2 h=>post h λu1 s3=>k _
theorem inner_mono:Mono (Inner W A env e it2 acc):=λk h=>post h λx s1 h=>post h λitv s2 h=>codeAny_mono h λrs s3 h=>⟨h.1,k _ h.2⟩
theorem guarded_mono {RW:(Shared->Prop)->Shared->Prop} (hm:Mono RW):Mono (Guarded W A env ifs RW):=λk h=>post h λok s1 h1=>match ok,h1 with
 | false,h1=>k _ h1
 | true,h1=>hm k h1
theorem guardedL_mono:Mono (Guarded W A env ifs (EmitL W A env elt acc)):=guarded_mono (RW:=EmitL W A env elt acc) emitL_mono
inductive FP (W:Wd) (A:Around) (c:Code) (Q:Result->Shared->Prop):Fin->Shared->Prop
 | done {s:Shared} (h:Q (.ok .next) s):FP W A c Q (.done .next) s
 | again {s:Shared} (h:codeAny W.m A c Q s):FP W A c Q (.again c) s
theorem loop_tree (hun:A.under (.compLoop e d itv acc env)=A) (hd:W.m.den (.compLoop e d itv acc env)=(compTurn e d itv acc env).onRaise (λx=>do noteFrame x env;theTreesLotGoes x)) (hq:(Code.compLoop e d itv acc env).quiet=true) (h:wpAny W.m A (compTurn e d itv acc env) (FP W A (.compLoop e d itv acc env) Q) NoE s):codeAny W.m A (.compLoop e d itv acc env) Q s:=by
 refine codeAny_of_tree ?_
 rw [hun,hd]
 exact wpAny_noted (wpAny_trueE (post h λf s q=>match f,q with
  | _,.done h=>h
  | _,.again h=>⟨hq,h⟩))
noncomputable def Turn (W:Wd) (A:Around) (env:Env) (c:Code) (t:Expr) (itv:Value) (RW:(Shared->Prop)->Shared->Prop) (Q:Result->Shared->Prop) (s:Shared):Prop:=
 wpAny W.m A (pyNext itv) (λrv s1=>rv.elim (Q (.ok .next) s1) λv=>wpAny W.m A (letOwnedTupleGo t itv v) (λu1 s2=>wpAny W.m A (assign t env v) (λu1 s3=>RW (codeAny W.m A c Q) s3) NoE s2) NoE s1) NoE s
theorem Turn.tree {RW:(Shared->Prop)->Shared->Prop} {T:Sem Fin} (p:Pos) (h:Turn W A env c t itv RW Q s) (k:∀ {s},RW (codeAny W.m A c Q) s->wpAny W.m A T (FP W A c Q) NoE s) :
  wpAny W.m A (standAt p>>=λu1=>pyNext itv>>=λr=>match r with
   | none=>pure (.done .next)
   | some v=>letOwnedTupleGo t itv v>>=λu1=>assign t env v>>=λu1=>T) (FP W A c Q) NoE s:=
 aL (wpAny_standAt (aL (post h λrv s1 h1=>match rv,h1 with
  | none,h1=>aM (.done h1)
  | some u1,h1=>aL (post h1 λu1 s2 h2=>aL (post h2 λu1 s3 h3=>k h3)))))
noncomputable abbrev lc1 (elt t it:Expr) (ifs:List Expr) (sc:Scope) (pos:Pos):Expr:=.ListComp elt [⟨t,it,ifs,0⟩] sc pos
noncomputable abbrev lc2 (elt t it t2 it2:Expr) (ifs:List Expr) (sc:Scope) (pos:Pos):Expr:=.ListComp elt [⟨t,it,[],0⟩,⟨t2,it2,ifs,0⟩] sc pos
noncomputable def tailL (env:Env) (elt:Expr) (ifs:List Expr) (acc:Value) (c:Code):Sem Fin:=do
 let ok ← tests env ifs
 if ok then
  (do let _ ← call (.builtin "list.append") [acc,← eval elt env])
 again c
theorem tailL_ok (h:Guarded W A env ifs (EmitL W A env elt acc) (codeAny W.m A c Q) s):wpAny W.m A (tailL env elt ifs acc c) (FP W A c Q) NoE s:=
 aL (post h λok s4 h4=>match ok,h4 with
  | false,h4=>aM (.again h4)
  | true,h4=>aL (aL (post h4 λx s5 h5=>aL (post h5 λu1 s6 h6=>aM (aM (.again h6))))))
theorem wp_rfl {α:Type} {t t2:Sem α} {P:α->Shared->Prop} (e:t=t2) (h:wpAny W.m A t2 P NoE s):wpAny W.m A t P NoE s:=by rw [e];exact h
theorem turnL (h:Turn W A env (.compLoop (lc1 elt t it ifs sc pos) 0 itv acc env) t itv (Guarded W A env ifs (EmitL W A env elt acc)) Q s):codeAny W.m A (.compLoop (lc1 elt t it ifs sc pos) 0 itv acc env) Q s:=
 loop_tree (Around.under_of_weight rfl rfl) rfl rfl (wp_rfl (by rfl) (h.tree (T:=tailL env elt ifs acc (.compLoop (lc1 elt t it ifs sc pos) 0 itv acc env)) it.pos tailL_ok))
theorem turn2b (h:Turn W A env (.compLoop (lc2 elt t it t2 it2 ifs sc pos) 1 itv acc env) t2 itv (Guarded W A env ifs (EmitL W A env elt acc)) Q s):codeAny W.m A (.compLoop (lc2 elt t it t2 it2 ifs sc pos) 1 itv acc env) Q s:=
 loop_tree (Around.under_of_weight rfl rfl) rfl rfl (wp_rfl (by rfl) (h.tree (T:=tailL env elt ifs acc (.compLoop (lc2 elt t it t2 it2 ifs sc pos) 1 itv acc env)) it2.pos tailL_ok))
noncomputable abbrev dc1 (kx vx t it:Expr) (sc:Scope) (pos:Pos):Expr:=.DictComp kx vx [⟨t,it,[],0⟩] sc pos
noncomputable def tailD (env:Env) (kx vx:Expr) (d:Addr) (c:Code):Sem Fin:=do
 let ok ← tests env []
 if ok then
  (do
   let kv ← eval kx env
   let vv ← holding [kv] (eval vx env)
   standAt { kx.pos with endLine:=vx.pos.endLine,endCol:=vx.pos.endCol }
   holding [kv,vv] (dictSet d kv vv))
 again c
theorem tailD_ok {d:Addr} (h:EmitD W A env kx vx d (codeAny W.m A c Q) s):wpAny W.m A (tailD env kx vx d c) (FP W A c Q) NoE s:=
 aL (wpAny_of_eq (List.forIn_nil ..) (aL (aL (post h λx s5 h5=>aL (aH (post h5 λy s6 h6=>aL (wpAny_standAt (aH (post h6 λu1 s7 h7=>aM (.again h7))))))))))
theorem turnD {d:Addr} (h:Turn W A env (.compLoop (dc1 kx vx t it sc pos) 0 itv (.ref d) env) t itv (EmitD W A env kx vx d) Q s):codeAny W.m A (.compLoop (dc1 kx vx t it sc pos) 0 itv (.ref d) env) Q s:=
 loop_tree (Around.under_of_weight rfl rfl) rfl rfl (wp_rfl (by rfl) (h.tree (T:=tailD env kx vx d (.compLoop (dc1 kx vx t it sc pos) 0 itv (.ref d) env)) it.pos tailD_ok))
theorem noSet (h:∀ es k p,e≠.Set es k p):(∀ op,behindInMarks op e=false)/\∀ env x,foldedSetIterable e env x=pure x:=by
 cases e with
 | Set=>exact absurd rfl (h _ _ _)
 | _=>exact ⟨λu1=>rfl,λu1 u2=>rfl⟩
theorem folded_pure {x:Value} (h:∀ es k p,e≠.Set es k p):foldedSetIterable e env x=pure x:=(noSet h).2 env x
theorem behind {op:CmpOp} (h:∀ es k p,e≠.Set es k p):behindInMarks op e=false:=(noSet h).1 op
noncomputable def tail2 (env:Env) (e it2:Expr) (itv acc:Value):Sem Fin:=
 eval it2 env>>=λx=>standAt it2.pos>>=λu1=>foldedSetIterable it2 env x>>=λx=>holding [x] (pyIter x)>>=λiv=>runOwn (.compStart e 1 iv acc env) env>>=λu1=>again (.compLoop e 0 itv acc env)
theorem tail2_ok (hs:∀ es k p,it2≠.Set es k p) (h:Inner W A env e it2 acc (codeAny W.m A (.compLoop e 0 itv acc env) Q) s):wpAny W.m A (tail2 env e it2 itv acc) (FP W A (.compLoop e 0 itv acc env) Q) NoE s:=
 aL (post h λx s4 h4=>aL (wpAny_standAt (aL (wpAny_of_eq (folded_pure hs) (aL (aH (post h4 λiv s5 h5=>aL (wpAny_runOwn (codeAny_mono h5 λrs s6 h6=>by
  obtain ⟨rfl,h6⟩:=h6
  exact aM (.again h6))))))))))
theorem turn2a (hs:∀ es k p,it2≠.Set es k p) (h:Turn W A env (.compLoop (lc2 elt t it t2 it2 ifs sc pos) 0 itv acc env) t itv (Inner W A env (lc2 elt t it t2 it2 ifs sc pos) it2 acc) Q s):codeAny W.m A (.compLoop (lc2 elt t it t2 it2 ifs sc pos) 0 itv acc env) Q s:=
 loop_tree (Around.under_of_weight rfl rfl) rfl rfl (wp_rfl (by rfl) (h.tree (T:=tail2 env (lc2 elt t it t2 it2 ifs sc pos) it2 itv acc) it.pos (tail2_ok hs)))
end
section
variable {ce:CE} {κ:Cx ce} {W:Wd} {A:Around} {lo i:Nat} {σ τ:Sg} {vs:Vars} {ifs:List Expr} {hasC:Bool} {fc felt fk:Ev} {elt kx vx:Expr} {acc:Addr} {d:List D} {v:Value} {y:D} {L:LC κ lo} {E:Value->Shared->Prop}
noncomputable def CondOK (κ:Cx ce) (ifs:List Expr) (hasC:Bool) (fc:Ev):Prop:=(hasC=false/\ifs=[])\/(hasC=true/\∃ c,ifs=[c]/\TOK κ (isTrue c κ.env (eval c κ.env)) fc)
theorem tests_ok (C:CondOK κ ifs hasC fc) (P:Pt κ lo σ):Ow (compCond hasC fc P.vs σ.H) λo=>wpAny κ.W.m P.A (tests κ.env ifs) (TP κ.W σ o) NoE σ.s:=by
 rcases C with ⟨rfl,rfl⟩ | ⟨rfl,c,rfl,hc⟩
 ·exact wpAny_of_eq (List.forIn_nil ..) ⟨rfl,_,_,.refl P.S⟩
 ·refine Ow.mono (λo h=>?_) (hc P)
  unfold tests
  rw [List.forIn_cons,aQ rfl]
  exact aL (aL (post h λb s1 q=>aM (wpAny_of_eq (List.forIn_nil ..) q)))
noncomputable def Gath (acc:Addr) (d:List D) (σ:Sg):Prop:=∃ us m,σ.s.heap.get? acc=some (lstO (List.toArray us) m)/\VDs σ.s.heap σ.ban us d
noncomputable def GathD (acc:Addr) (d:List D) (σ:Sg):Prop:=∃ p,dictPairs d=some p/\∃ es m,DR σ.s.heap σ.ban acc p.1 es m/\VDs σ.s.heap σ.ban (es.map (·.val)) p.2
theorem Gath.st (j:Gath acc d σ) (k:∀ {o},σ.s.heap.get? acc=some o->τ.s.heap.get? acc=some o) (X:Ex σ.s.heap σ.ban τ.s.heap τ.ban):Gath acc d τ:=xeea j λus m e q=>⟨us,m,k e,q.step X⟩
theorem GathD.st (j:GathD acc d σ) (k:∀ {o},σ.s.heap.get? acc=some o->τ.s.heap.get? acc=some o) (X:Ex σ.s.heap σ.ban τ.s.heap τ.ban):GathD acc d τ:=xea j λp e j=>xeea j λes m R q=>⟨p,e,es,m,R.step X (k R.at_),q.step X⟩
theorem gath_push (S:HS W σ) (j:Gath acc d σ) (b:σ.ban acc/\¬ Live σ.r acc) (hz:d.length<=100000) (q:VD σ.s.heap σ.ban v y):wpAny W.m A (call (.builtin "list.append") [.ref acc,v]) (λu1 s=>Go W (·=acc) σ (σ.at s)/\Gath acc (d++[y]) (σ.at s)) E σ.s:=by
 refine xeea j λus m g z=>xe (lst_upd (σ:=σ) (ws:=us++[v]) (f:=λx=>x.push v) g (by rw [List.push_toArray])) λm' e'=>?_
 refine call_meets PySem.F.slot_list_append ⟨_,g,rfl⟩ PySem.F.entry_list_append (PySem.F.args_list_append_2 _ _) (PySem.list_append acc us.toArray m v (by rw [szA,z.length];exact lt_line (aI hz (by decide)))) ⟨g,?_⟩
 rw [e']
 have ho:=Heap.get?_update_self (λu1=>lstO (us++[v]).toArray m') g rfl
 have G:Go W (·=acc) σ (σ.at { σ.s with heap:=σ.s.heap.update acc λu1=>lstO (us++[v]).toArray m',toks:=σ.s.toks }):=Go.frames S (λe=>e▸b.1) (λe=>e▸b.2) (λn e=>(Heap.get?_update_other _ _ (Ne.symm n)).trans e) λ{b} e=>by cases (e:b=acc);exact ⟨_,ho⟩
 exact ⟨G,us++[v],m',ho,VDs.step (G.exF S λe=>e▸b.1) (.of (z.all2.append (.one q)))⟩
structure GL (L:LC κ lo) (acc:Addr) (G:List D->Sg->Prop):Prop where
 ga:∀ {a},L.ga a↔a=acc
 j:∀ {d σ},L.J d σ↔G d σ
 nl:acc≠κ.env.locals
 nc:∀ {x n c},slot ce x=some n->κ.env.kindOf x≠some .local->κ.env.cells.lookup x=some c->c≠acc
noncomputable def LP.pt (P:LP L i vs d σ):Pt κ lo σ:=⟨L.A,L.fr,vs,L.R,P.g.hs,P.T⟩
theorem LP.end_ {G:List D->Sg->Prop} {d':List D} {s:Shared} (P:LP L i vs d σ) (Γ:GL L acc G) (g:Gn κ.W σ τ) (g3:Go κ.W (·=acc) τ (τ.at s)) (j:G d' (τ.at s)):BE L σ vs d' τ.H s:=
 have T:=P.T.go P.g.hs g
 have b:=P.b (Γ.ga.mpr rfl)
 have ob:τ.ban acc:=xe (P.g.hs.hi b.1) λo e=>g.bst b.1 b.2 e
 ⟨_,_,g.up.trans' (g3.mono λe=>.inr (Γ.ga.mpr e)) .inl λq=>q.elim (λf=>(P.T.frB f).2) λq=>(P.b q).2,T.goFr g.hs g3 (λe=>Γ.nl e.symm) (λe k f=>Γ.nc e k f) λe=>e▸ob,Γ.j.mpr j⟩
theorem LP.accB {G:List D->Sg->Prop} (P:LP L i vs d σ) (Γ:GL L acc G) (g:Gn κ.W σ τ):τ.ban acc/\¬ Live τ.r acc:=
 have b:=P.b (Γ.ga.mpr rfl)
 xe (P.g.hs.hi b.1) λo e=>⟨g.bst b.1 b.2 e,g.nlive b.2 e⟩
theorem leaf_ok (C:CondOK κ ifs hasC fc) (he:EOK κ (eval elt κ.env) felt) (Γ:GL L acc (Gath acc)) (P:LP L i vs d σ):Ow (compLeaf hasC fc felt vs σ.H) λo=>(d++o.1).length<=100000->Guarded κ.W L.A κ.env ifs (EmitL κ.W L.A κ.env elt (.ref acc)) (BE L σ vs (d++o.1) o.2) σ.s:=by
 have b:=P.b (Γ.ga.mpr rfl)
 refine Ow.mono (λo h hz=>post h λu1 u2 z=>z hz) (Ow.seq (K:=λo ok s1=>(d++o.1).length<=100000->bif ok then EmitL κ.W L.A κ.env elt (.ref acc) (BE L σ vs (d++o.1) o.2) s1 else BE L σ vs (d++o.1) o.2 s1) (tests_ok C P.pt) λa v s' q=>?_)
 obtain ⟨c,H1⟩:=a
 cases q with
 | mk e ban r g=>
  cases (e:v=c)
  have j1:=(Γ.j.mp P.j).st (λe=>g.keep b.2 id e) (g.exn P.g.hs)
  cases c with
  | false=>exact λu1=>⟨ban,r,g.up,P.T.go P.g.hs g,Γ.j.mpr (by rw [List.append_nil];exact j1)⟩
  | true=>
   refine Ow.mono (λo h hz=>post h λu1 u2 z=>z hz) (he.seq (K:=λo x s1=>(d++o.1).length<=100000->wpAny κ.W.m L.A (call (.builtin "list.append") [.ref acc,x]) (λu1 s2=>BE L σ vs (d++o.1) o.2 s2) NoE s1) (P.pt.go g) λx τ g2 u q=>Ow.me λy ey hz=>?_)
   cases dt_some ey
   have G:=Go.tr g g2
   have bτ:=P.accB Γ G
   exact post (gath_push g2.hs ((Γ.j.mp P.j).st (λe=>G.keep b.2 id e) (G.exn P.g.hs)) bτ (aI (by rw [aq];exact Nat.le_add_right _ _) hz) q) λu1 s ⟨g3,j3⟩=>P.end_ Γ G g3 j3
theorem dictPairs_app:∀ (a:List D) {b:List D},Ow (dictPairs (a++b)) λp=>∃ s t,dictPairs a=some s/\dictPairs b=some t/\p=(s.1++t.1,s.2++t.2)
 | [],b=>.of λp e=>⟨([],[]),p,rfl,e,rfl⟩
 | d::r,b=>.be λx e1=>.be λy e2=>.be λq e3=>.b (Ow.mono (λs ⟨s1,t1,h1,h2,e⟩=>Ow.w λhc=>⟨(q::s1.1,y.2::s1.2),t1,by
   subst e
   have z:(s1.1.all (sameKind q)&&!s1.1.contains q)=true:=Bool.and_eq_true_iff.mpr ⟨List.all_eq_true.mpr λk m=>List.all_eq_true.mp (b1 hc) k (ak _ m),by
    have:=b2 hc
    rw [Bool.not_eq_true'] at this ⊢
    exact Bool.eq_false_iff.mpr λz=>Bool.noConfusion (this.symm.trans (List.contains_iff_mem.mpr (ak _ (List.contains_iff_mem.mp z))))⟩
   unfold dictPairs
   rw [e1];show (two x).bind _=_
   rw [e2];show (keyOf y.1).bind _=_
   rw [e3];show (dictPairs r).bind _=_
   rw [h1];show wh _ _=_
   rw [z];rfl,h2,by rw [e];rfl⟩) (dictPairs_app r))
theorem dictPairs_kin:∀ (l:List D),Ow (dictPairs l) λp=>Kin p.1/\p.1.length=p.2.length
 | []=>⟨.nil,rfl⟩
 | d::r=>.be λu1 u2=>.be λu1 u2=>.be λu1 u2=>.b (Ow.mono (λs h=>Ow.w λhc=>⟨h.1.cons (b1 hc) (by have:=b2 hc;rwa [Bool.not_eq_true'] at this),aN (·+1) h.2⟩) (dictPairs_kin r))
end
section
variable {ce:CE} {κ:Cx ce} {W:Wd} {A:Around} {lo i:Nat} {σ τ:Sg} {vs:Vars} {f felt fk:Ev} {kx vx itE:Expr} {acc:Addr} {d:List D} {v:Value} {y:D} {L:LC κ lo} {E:Value->Shared->Prop}
theorem dictPairs_len:∀ (l:List D),Ow (dictPairs l) λp=>p.1.length=l.length
 | []=>rfl
 | d::r=>.be λu1 u2=>.be λu1 u2=>.be λu1 u2=>.b (Ow.mono (λs h=>Ow.w λu1=>aN (·+1) h) (dictPairs_len r))
noncomputable def pairsB (l:List D):Prop:=small l.length=true/\∃ p,dictPairs l=some p
theorem small_pre {a b:List D} (h:small (a++b).length=true):small a.length=true:=aF (au (by rw [aq];exact Nat.le_add_right _ _) (small_lt h))
theorem pairs_pre {a b:List D} (h:pairsB (a++b)):pairsB a:=⟨small_pre h.1,xe h.2 λp e=>xeea ((dictPairs_app a).use e) λs t e u1=>⟨s,e⟩⟩
theorem leafD_ok (hk:EOK κ (eval kx κ.env) fk) (he:EOK κ (eval vx κ.env) felt) (Γ:GL L acc (GathD acc)) (P:LP L i vs d σ):Ow (dcompAfter fk felt vs σ.H) λo=>pairsB (d++o.1)->EmitD κ.W L.A κ.env kx vx acc (BE L σ vs (d++o.1) o.2) σ.s:=by
 refine Ow.mono (λo h hz=>post h λu1 u2 z=>z hz) (hk.seq (K:=λo x s1=>pairsB (d++o.1)->wpAny κ.W.m L.A (eval vx κ.env) (λy s2=>wpAny κ.W.m L.A (dictSet acc x y) (λu1 s3=>BE L σ vs (d++o.1) o.2 s3) NoE s2) NoE s1) P.pt λk τ g1 vk q1=>?_)
 refine Ow.mono (λo h hz=>post h λu1 u2 z=>z hz) (he.seq (K:=λo y s2=>pairsB (d++o.1)->wpAny κ.W.m L.A (dictSet acc vk y) (λu1 s3=>BE L σ vs (d++o.1) o.2 s3) NoE s2) (P.pt.go g1) λy τ2 g2 vv q2=>?_)
 refine Ow.be λkd ek=>Ow.me λyd ey hz=>?_
 cases dt_some ek
 cases dt_some ey
 have G:=Go.tr g1 g2
 have b:=P.accB Γ G
 have j:=GathD.st (Γ.j.mp P.j) (λe=>G.keep (P.b (Γ.ga.mpr rfl)).2 id e) (G.exn P.g.hs)
 refine xea j λp ep j=>xeea j λes m R z=>xe hz.2 λpp epp=>xeeaa ((dictPairs_app d).use epp) λs t e1 e2 e3=>?_
 cases ep.symm.trans e1
 refine bC (show (keyOf kd).bind (λq=>some ([q],[yd]))=some t from e2) λq eq e2=>?_
 cases e2
 subst e3
 have K:=((dictPairs_kin _).use epp).1.split (post:=[])
 have z1:small p.1.length=true:=by rw [(dictPairs_len d).use ep];exact small_pre hz.1
 refine post (dictPush_ok (xs:=p.2.map .d) (y:=.d yd) P.pt.R.units ⟨es,m,R,z.vvs⟩ K.1 z1 K.2.1 g2.hs b.1 b.2 ((ow_key (Go.vv g2 g1.hs q1:Vv κ.W τ2 vk (.d kd))).use eq) q2) λu1 s ⟨g3,es',m',R',z'⟩=>P.end_ Γ G g3 ⟨_,epp,es',m',R',?_⟩
 refine All2.toD (W:=κ.W) (r:=τ2.r) ?_
 rw [aC]
 exact z'
noncomputable def SrcOK (κ:Cx ce) (itE:Expr) (en:Bool) (f:Ev):Prop:=
 (en=false/\EOK κ (eval itE κ.env) f/\∀ es k p,itE≠.Set es k p)\/(en=true/\∃ p a pos xa,itE=.Call (.Name "enumerate" p) [a] [] pos/\glob ce "enumerate"=true/\(∀ e0 p,a≠.Starred e0 p)/\XE κ a xa/\f=evalX κ.Φ xa)
theorem SrcOK.noSet {en:Bool} (h:SrcOK κ itE en f):∀ es k p,itE≠.Set es k p:=by
 rcases h with ⟨_,_,h⟩ | ⟨_,_,_,_,_,rfl,_⟩
 ·exact h
 ·exact nofun
theorem enum_ok {l:Addr} {us:List Value} {xs:List D} {m:Nat} (S:HS W σ) (hh:A.handled=none) (g:σ.s.heap.get? l=some (lstO us.toArray m)) (nb:¬ σ.ban l) (z:VDs σ.s.heap σ.ban us xs) :
  wpAny W.m A (call (.type "enumerate") [.ref l]) (λx s1=>wpAny W.m A (pyIter x) (ItP W A σ (xs.zipIdx.map λq=>.d (.tup [.int (q.2:Int),q.1])) false true) NoE s1) NoE σ.s:=by
 refine call_enumerate_1 g λh' he hi hsz hk=>wpAny_pyIter_enum he ?_
 have hll:=Heap.lt_size g
 have w:=WalksT.enumerate (prog:=W.prog) (w:=W.w) hh (σ.s.heap.objs.size+1) σ.s.heap.objs.size l (Nat.succ_ne_self _) (Nat.ne_of_lt (Nat.lt_succ_of_lt hll)) (Nat.ne_of_lt hll) us.toArray
 rw [szA,(z.length.trans ((aB ..).trans (List.length_zipIdx ..)).symm:us.length=(xs.zipIdx.map λq=>V.d (.tup [.int (q.2:Int),q.1])).length)] at w
 have two:∀ {b} {P:Addr->Prop},P (σ.s.heap.objs.size+1)->P σ.s.heap.objs.size->b∈[σ.s.heap.objs.size+1,σ.s.heap.objs.size]->P b:=λh1 h2 m=>(aG.mp m).elim (λe=>e▸h1) λm=>ao.mp m▸h2
 refine ItP.of (tk:=σ.s.toks) S (Wk.enum w λ{i h} st b m=>two (P:=λb=>∃ o,h.get? b=some o) (xe st.1 λu1 e=>⟨_,e⟩) (xea st.2.1 λo e u1=>⟨o,e⟩) m) (λe=>hk _ _ e) ⟨⟨_,he⟩,hi,(IsL.list g).at λo e=>hk _ _ e⟩
  (λb m=>two (P:=λb=>σ.s.heap.get? b=none) (Heap.get?_none_of_le (Nat.le_succ _)) (none_size _) m) (λb m=>(aG.mp m).elim (λe=>.inl (e▸.head _)) λm=>(aG.mp m).elim (λe=>.inl (e▸.tail _ (.head _))) λm=>by rw [ao.mp m];exact .inr ⟨⟨_,g⟩,.inl nb⟩) (λz=>z.elim) λ{k us0 x0} hP hx=>?_
 refine xeea hP λt v hv e=>?_
 subst e
 rw [List.getElem?_map,List.getElem?_zipIdx] at hx
 refine xea (ai.mp hx) λq hx e2=>xea (ai.mp hx) λy hy e3=>?_
 subst e2;subst e3
 refine xea (z.all2.get hy) λv' e1 e2=>?_
 rw [List.getElem?_toArray,e1] at hv
 cases hv
 exact ⟨_,rfl,_,_,rfl,⟨t,by rw [Nat.zero_add]⟩,_,_,rfl,e2,rfl⟩
theorem src_ok {γ:Type} {en:Bool} {p:Pat} {g:Hp->List V×Bool->Option γ} {K:γ->Value->Shared->Prop} (hs:SrcOK κ itE en f) (P:Pt κ lo σ)
  (k:∀ i τ,Gn κ.W σ τ->(en=true->p.isTup=true)->∀ it wr,(∀ {b},b∈wr->σ.s.heap.get? b=none)->ItAt κ.W P.A i.1 i.2 en wr 0 it τ->Ow (g τ.H i) λo=>K o it τ.s) :
  Ow ((f P.vs σ.H).bind λq=>(itemsOf en p q.1 q.2).bind (g q.2)) λo=>wpAny κ.W.m P.A (eval itE κ.env) (λxv s1=>wpAny κ.W.m P.A (pyIter xv) (K o) NoE s1) NoE σ.s:=by
 rcases hs with ⟨rfl,ho,_⟩ | ⟨rfl,pn,a,pos,xa,rfl,hg,hst,ho,rfl⟩
 ·refine ho.seq P λx τ g1 v q=>?_
  refine Ow.seq (iterV_ok P.R.hd g1.hs v q) λi it s' I=>?_
  cases I with | mk wr ban g2 new I=>exact k i _ (Go.tr g1 g2) nofun it wr (λm=>g1.fresh (new m)) I
 ·refine xeeaaaaaa κ.O.g λmg mb n1 n2 u1 u2 u3 u4 n3=>?_
  refine Ow.be λq eq=>?_
  have I:IOK κ [a] [xa]:=.cons ⟨ho,hst⟩ .nil
  have e':evalXs κ.Φ [xa] P.vs σ.H=some ([q.1],q.2):=by show (evalX ..).bind _=_;rw [eq];rfl
  have z:=I.bi (pos:=pos) (f:=.type "enumerate") (g:=λa=>(one a.1).bind λx=>(itemsOf true p x a.2).bind (g a.2)) (K:=λo x s1=>wpAny κ.W.m P.A (pyIter x) (K o) NoE s1) (.inr ⟨_,rfl⟩) P λys τ g1 us qs=>?_
  ·rw [e'] at z
   exact Ow.mono (λo h=>wpAny_Call_NameR (bui_ok P.S hg n1 n2 n3.1 n3.2 h)) z
  ·revert us
   refine ow_one λx u q=>?_
   refine Ow.b ?_
   revert u
   refine ow_ll λxs l us m e nb z=>Ow.w λhz=>?_
   change Ow (g τ.H (xs.zipIdx.map (λq=>V.d (.tup [.int (q.2:Int),q.1])),false)) _
   refine Ow.mono (P:=λo=>∀ it s',ItP κ.W P.A τ (xs.zipIdx.map λq=>.d (.tup [.int (q.2:Int),q.1])) false true it s'->K o it s') (λo h=>post (enum_ok g1.hs P.R.hd e nb z) λu1 u2 z=>post z λu1 u2 z=>h _ _ z) (.of λo eo it s' I=>?_)
   cases I with | mk wr ban g2 new I=>exact (k (_,false) _ (Go.tr g1 g2) (λu1=>b1 hz) it wr (λm=>g1.fresh (new m)) I).use eo
end
theorem Go.less {W:Wd} {fr:Addr->Prop} {σ τ:Sg} (g:Go W fr σ τ) (hf:∀ {x},fr x->σ.s.heap.get? x=none):Gn W σ τ:={ g with keep:=λl u1 e=>g.keep l (λq=>absurdS e (hf q)) e }
section
variable {ce:CE} {κ:Cx ce} {W:Wd} {A:Around} {lo i:Nat} {σ τ:Sg} {vs:Vars} {f felt fit2 fc fk:Ev} {e elt kx vx t itE t2 it2:Expr} {ifs:List Expr} {hasC en:Bool} {acc:Addr} {d:List D} {sc:Scope} {pos:Pos} {m m2:Nat} {p1 p2:Pat}
theorem compStart_self {dd:Nat} {it acc:Value} {g:Comprehension} {env:Env} {s:Shared} {Q:Result->Shared->Prop} (hcl:(clausesOf e)[dd]?=some g) (ha:g.is_async=0)
  (hun:A.under (.compStart e dd it acc env)=A) (hden:W.m.den (.compStart e dd it acc env)=(compStart e dd it acc env).onRaise (λx=>do noteFrame x env;standAt theWindowsPlace)) (hqt:(Code.compLoop e dd it acc env).quiet=true)
  (I:∀ {Q:Value->Shared->Prop},Q it s->wpAny W.m A (pyIter it) Q NoE s) (h:codeAny W.m A (.compLoop e dd it acc env) Q s):codeAny W.m A (.compStart e dd it acc env) Q s:=by
 refine codeAny_of_tree ?_
 rw [hun,hden]
 refine wpAny_notedAt (wpAny_trueE ?_)
 unfold compStart
 rw [hcl]
 simp only [Option.elim_some,ha,bne_self_eq_false,Bool.false_eq_true,if_false]
 refine aL (wpAny_askSetting ?_)
 split
 ·exact aL (aM (aM ⟨hqt,h⟩))
 ·exact aL (wpAny_rule (aL (wpAny_standAt (aL (I (aM ⟨hqt,h⟩))))))
noncomputable def LoopOK (ce:CE) (sc:Scope) (Φ:Fns) (e:Expr) (p1:Pat) (after:Vars->Hp->Option (List D×Hp)) (G:Addr->List D->Sg->Prop) (B:List D->Prop):Prop:=
 ∀ (κ:Cx (ce.inner sc)),κ.Φ=Φ->∀ (L:LC κ ce.base) {acc:Addr} {vs:Vars} {σ:Sg},GL L acc (G acc)->(L.tp=true->p1.isTup=true)->(∀ {m},ce.base<=m->∀ {X:V},vs[m]?≠some (some X))->LP L 0 vs [] σ ->
  Ow (compLoop L.lock (λv h=>(bindP p1 v vs).bind λvs=>after vs h) L.items σ.H) λo=>B o.1->∀ {Q:Result->Shared->Prop},(∀ s,LE L vs o.1 o.2 s->Q (.ok .next) s)->codeAny κ.W.m L.A (.compLoop e 0 L.it (.ref acc) κ.env) Q σ.s
noncomputable abbrev shortL (l:List D):Prop:=l.length<=100000
theorem short_pre {a b:List D} (h:shortL (a++b)):shortL a:=aI (by rw [aq];exact Nat.le_add_right _ _) h
theorem loop1 {Φ:Fns} (hp:patOf m (ce.inner sc) t=some p1) (hge:p1.ge ce.base=true) (hC:∀ κ:Cx (ce.inner sc),κ.Φ=Φ->CondOK κ ifs hasC fc) (he:∀ κ:Cx (ce.inner sc),κ.Φ=Φ->EOK κ (eval elt κ.env) felt) :
  LoopOK ce sc Φ (lc1 elt t itE ifs sc pos) p1 (compAfter false p2 hasC felt fit2 fc) Gath shortL:=λκ hΦ L acc vs σ Γ htp hf P=>.of λo eo hB Q k=>
 (comp_loop (L:=L) (c:=.compLoop (lc1 elt t itE ifs sc pos) 0 L.it (.ref acc) κ.env) (RW:=Guarded κ.W L.A κ.env ifs (EmitL κ.W L.A κ.env elt (.ref acc))) (after:=compAfter false p2 hasC felt fit2 fc) short_pre guardedL_mono turnL hp hge htp (λh=>hf (vars_ge hge h)) (λu1 P=>leaf_ok (hC κ hΦ) (he κ hΦ) Γ P) L.items rfl (Nat.zero_le _) P).use eo hB k
theorem loopD {Φ:Fns} (hp:patOf m (ce.inner sc) t=some p1) (hge:p1.ge ce.base=true) (hk:∀ κ:Cx (ce.inner sc),κ.Φ=Φ->EOK κ (eval kx κ.env) fk) (he:∀ κ:Cx (ce.inner sc),κ.Φ=Φ->EOK κ (eval vx κ.env) felt) :
  LoopOK ce sc Φ (dc1 kx vx t itE sc pos) p1 (dcompAfter fk felt) GathD pairsB:=λκ hΦ L acc vs σ Γ htp hf P=>.of λo eo hB Q k=>
 (comp_loop (L:=L) (c:=.compLoop (dc1 kx vx t itE sc pos) 0 L.it (.ref acc) κ.env) (RW:=EmitD κ.W L.A κ.env kx vx acc) (after:=dcompAfter fk felt) pairs_pre emitD_mono turnD hp hge htp (λh=>hf (vars_ge hge h)) (λu1 P=>leafD_ok (hk κ hΦ) (he κ hΦ) Γ P) L.items rfl (Nat.zero_le _) P).use eo hB k
theorem loop2 {Φ:Fns} (hp:patOf m (ce.inner sc) t=some p1) (hge:p1.ge ce.base=true) (hp2:patOf m2 (ce.inner sc) t2=some p2) (hge2:p2.ge ce.base=true) (hdis:∀ m∈p2.vars,m∉p1.vars) (hs:∀ es k p,it2≠.Set es k p)
  (hi:∀ κ:Cx (ce.inner sc),κ.Φ=Φ->EOK κ (eval it2 κ.env) fit2) (hC:∀ κ:Cx (ce.inner sc),κ.Φ=Φ->CondOK κ ifs hasC fc) (he:∀ κ:Cx (ce.inner sc),κ.Φ=Φ->EOK κ (eval elt κ.env) felt) :
  LoopOK ce sc Φ (lc2 elt t itE t2 it2 ifs sc pos) p1 (compAfter true p2 hasC felt fit2 fc) Gath shortL:=λκ hΦ L acc vs σ Γ htp hf P=>.of λo eo hB Q k=>
 (comp_loop (L:=L) (c:=.compLoop (lc2 elt t itE t2 it2 ifs sc pos) 0 L.it (.ref acc) κ.env) (RW:=Inner κ.W L.A κ.env (lc2 elt t itE t2 it2 ifs sc pos) it2 (.ref acc)) (after:=compAfter true p2 hasC felt fit2 fc) short_pre inner_mono (turn2a hs) hp hge htp (λh=>hf (vars_ge hge h)) (λ{vs1 i d σ} ⟨v0,hb0⟩ P=>by
  have b:=P.b (Γ.ga.mpr rfl)
  let K:List D×Hp->Value->Shared->Prop:=λo it s=>shortL (d++o.1)->codeAny κ.W.m L.A (.compStart (lc2 elt t itE t2 it2 ifs sc pos) 1 it (.ref acc) κ.env) (λrs s3=>rs=.ok .next/\BE L σ vs1 (d++o.1) o.2 s3) s
  refine Ow.mono (P:=λo=>wpAny κ.W.m L.A (eval it2 κ.env) (λx s1=>wpAny κ.W.m L.A (pyIter x) (K o) NoE s1) NoE σ.s) (λo h hz=>post h λu1 u2 z=>post z λu1 u2 z=>z hz) ?_
  change Ow ((fit2 vs1 σ.H).bind λq=>(itemsOf false p2 q.1 q.2).bind λi=>wh (small i.1.length) (compLoop i.2 (λv h=>(bindP p2 v vs1).bind λvs=>compLeaf hasC fc felt vs h) i.1 q.2)) _
  refine src_ok (g:=λH i=>wh (small i.1.length) (compLoop i.2 (λv h=>(bindP p2 v vs1).bind λvs=>compLeaf hasC fc felt vs h) i.1 H)) (p:=p2) (K:=K) (.inl ⟨rfl,hi κ hΦ,hs⟩) P.pt λi τ g u1 it wr new I=>Ow.w λu1=>?_
  have fz:∀ {b o},b∈wr->σ.s.heap.get? b≠some o:=λm e=>absurdS e (new m)
  have ap:Apart κ L.fr wr:=λm=>⟨λf=>xe (P.T.frx P.g.hs f) λo e=>fz m e,λe=>xe P.T.loc λu1 n=>xe (Ns.get n) λo q=>fz m (e▸q),λhx hk hc e=>xe (P.T.cell hx hk hc).1 λv ⟨o,q,u1⟩=>fz m (e▸q)⟩
  let L2:LC κ ce.base:=⟨L.A,L.fr,wr,i.1,i.2,false,it,σ,L.ga,L.J,L.R,ap,new,λq=>q.elim (λf=>(P.T.frB f).2) λq=>(P.b q).2,λq=>⟨(L.na q).1,λm=>xe (P.g.hs.hi (P.b q).1) λo e=>fz m e⟩,L.st⟩
  have P2:LP L2 0 vs1 d τ:=⟨g.up,P.T.go P.g.hs g,λq=>by cases Γ.ga.mp q;exact P.accB Γ g,L.st P.j (λq e=>g.keep (P.b q).2 id e) (g.exn P.g.hs),I⟩
  refine .of λo eo hz=>compStart_self (g:=⟨t2,it2,ifs,0⟩) rfl rfl (Around.under_of_weight rfl rfl) rfl rfl P2.self ?_
  exact (comp_loop (L:=L2) (c:=.compLoop (lc2 elt t itE t2 it2 ifs sc pos) 1 it (.ref acc) κ.env) (RW:=Guarded κ.W L.A κ.env ifs (EmitL κ.W L.A κ.env elt (.ref acc))) (after:=compLeaf hasC fc felt) short_pre guardedL_mono turn2b hp2 hge2 nofun (λ{m} h X=>by
   rw [((bindP_get p1).use hb0).2 (hdis m h)];exact hf (vars_ge hge2 h)) (λu1 P=>leaf_ok (L:=L2) (hC κ hΦ) (he κ hΦ) ⟨Γ.ga,Γ.j,Γ.nl,Γ.nc⟩ P) i.1 rfl (Nat.zero_le _) P2).use eo hz λs z=>by cases z with | mk ban r g T b j=>exact ⟨rfl,ban,r,g,T,j⟩) L.items rfl (Nat.zero_le _) P).use eo hB k
end
section
variable {ce:CE} {κ:Cx ce} {A:Around} {lo:Nat} {σ τ:Sg} {vs:Vars} {fr:Addr->Prop} {f felt fit2 fc fk:Ev} {e elt kx vx t itE t2 it2:Expr} {ifs:List Expr} {gs:List Comprehension} {hasC en:Bool} {acc:Addr} {d:List D} {sc:Scope} {pos:Pos} {m m2:Nat} {p1 p2:Pat} {h:Heap}
theorem InF.apart_in {b:Addr} (F:InF κ sc lo fr τ vs h) (T:VS κ lo fr σ vs) (h1:σ.s.heap.get? b=none) (h2:∃ o,τ.s.heap.get? b=some o):¬ cFr κ.env sc τ.s.heap.objs.size b/\b≠F.cx.env.locals/\∀ {x n c},slot (ce.inner sc) x=some n->F.cx.env.kindOf x≠some .local->F.cx.env.cells.lookup x=some c->b≠c:=
 have nf:¬ cFr κ.env sc τ.s.heap.objs.size b:=λf=>xe h2 λo e=>absurdS e (F.new f).1
 ⟨nf,λe=>nf (.inl e),λ{x n c} hx hk hc e=>by
  subst e
  cases F.cell hx hk hc with
  | own mem=>exact nf (.inr ⟨x,mem,hc⟩)
  | out hx' hc' hk'=>exact xe (T.cell hx' hk' hc').1 λv ⟨o,q,u1⟩=>absurdS q h1⟩
inductive CEnd (W:Wd) (σ:Sg) (H:Hp) (j:Sg->Prop) (acc C:Addr) (s:Shared):Prop
 | mk (ban:Addr->Prop) (r:Rho) (g:Gn W σ ⟨ban,r,H,s⟩) (f:σ.s.heap.get? acc=none) (j:j ⟨ban,r,H,s⟩) (b:ban acc/\¬ Live r acc) (bC:ban C/\¬ Live r C) (n:C≠acc) (f2:σ.s.heap.get? C=none) (z:∃ m,s.heap.Ns C m)
noncomputable def Ran (κ:Cx ce) (sc:Scope) (A:Around) (e itE:Expr) (newAcc:Sem Value) (s:Shared) (R:Addr->Addr->Shared->Prop):Prop:=
 wpAny κ.W.m A (eval itE κ.env) (λx s1=>wpAny κ.W.m A (pyIter x) (λit s2=>wpAny κ.W.m A newAcc (λacc s3=>wpAny κ.W.m A (newFunctionEnv sc κ.env.globals (caught κ.env sc.names []) [] κ.env.qual none .none (some κ.env)) (λcenv s4=>
   codeAny κ.W.m A (.compStart e 0 it acc { cenv with scope:=relabel sc κ.env }) (λrs s'=>rs=.ok .next/\∃ a,acc=.ref a/\R a cenv.locals s') s4) NoE s3) NoE s2) NoE s1) NoE s
theorem rep_none {k:Nat} (hl:vs.length<=m) {X:V}:(vs++List.replicate k (none:Option V))[m]?≠some (some X):=by
 rw [List.getElem?_append_right hl,List.getElem?_replicate]
 split <;> exact nofun
theorem comp_run {newAcc:Sem Value} {accO:Obj} {G:Addr->List D->Sg->Prop} {B:List D->Prop} {after:Vars->Hp->Option (List D×Hp)} (hok:okScope ce sc=true) (hcl:clausesOf e=⟨t,itE,ifs,0⟩::gs) (hs:SrcOK κ itE en f)
  (hnew:∀ {A:Around} {Q:Value->Shared->Prop} {s:Shared},Q (.ref s.heap.objs.size) { s with heap:=s.heap.push accO }->wpAny κ.W.m A newAcc Q NoE s) (hfree:accO.isFreed=false)
  (h0:∀ {a τ},τ.s.heap.get? a=some accO->(a==sysModules)=false->G a [] τ) (hst:∀ {a d σ τ},G a d σ->(∀ {o},σ.s.heap.get? a=some o->τ.s.heap.get? a=some o)->Ex σ.s.heap σ.ban τ.s.heap τ.ban->G a d τ) (hloop:LoopOK ce sc κ.Φ e p1 after G B)
  (P:Pt κ lo σ) (hun:∀ it acc cenv,P.A.under (.compStart e 0 it acc cenv)=P.A) (hden:∀ it acc cenv,κ.W.m.den (.compStart e 0 it acc cenv)=(compStart e 0 it acc cenv).onRaise (λx=>do noteFrame x cenv;standAt theWindowsPlace)) (hqt:∀ it acc cenv,(Code.compLoop e 0 it acc cenv).quiet=true) :
  Ow (compRun sc.names.length p1 en f after P.vs σ.H) λo=>B o.1->Ran κ sc P.A e itE newAcc σ.s (λa=>CEnd κ.W σ o.2 (G a o.1) a):=by
 let K:List D×Hp->Value->Shared->Prop:=λo it s=>B o.1->wpAny κ.W.m P.A newAcc (λacc s3=>wpAny κ.W.m P.A (newFunctionEnv sc κ.env.globals (caught κ.env sc.names []) [] κ.env.qual none .none (some κ.env)) (λcenv s4=>
   codeAny κ.W.m P.A (.compStart e 0 it acc { cenv with scope:=relabel sc κ.env }) (λrs s'=>rs=.ok .next/\∃ a,acc=.ref a/\CEnd κ.W σ o.2 (G a o.1) a cenv.locals s') s4) NoE s3) NoE s
 refine Ow.mono (P:=λo=>wpAny κ.W.m P.A (eval itE κ.env) (λx s1=>wpAny κ.W.m P.A (pyIter x) (K o) NoE s1) NoE σ.s) (λo h hz=>post h λu1 u2 z=>post z λu1 u2 z=>z hz) ?_
 refine src_ok (g:=λH i=>wh (small i.1.length) ((compLoop i.2 (λv h=>(bindP p1 v (P.vs++List.replicate sc.names.length Option.none)).bind λvs=>after vs h) i.1 H).bind λo=>wh (small o.1.length) (some o))) (p:=p1) (K:=K) hs P λi τ g htp it wr new I=>Ow.w λu1=>Ow.b (Ow.of λo eo=>Ow.w λu1 hB=>hnew (newCompEnv ?_))
 have g2:Gn κ.W τ ⟨λa=>τ.ban a\/a∈[τ.s.heap.objs.size],τ.r,τ.H,{ τ.s with heap:=τ.s.heap.push accO,toks:=τ.s.toks }⟩:=Go.pushed g.hs hfree
 have G2:=Go.tr g g2
 have F:=inF (κ:=κ) hok (P.T.go P.S G2)
 have g3:=F.go G2.hs
 have G3:=Go.tr G2 g3
 have accE:(τ.s.heap.push accO).get? τ.s.heap.objs.size=some accO:=am _ hfree
 have acc0:σ.s.heap.get? τ.s.heap.objs.size=none:=g.fresh (none_size _)
 have fr0:∀ {a},cFr κ.env sc (τ.s.heap.push accO).objs.size a->σ.s.heap.get? a=none:=λq=>G2.fresh (F.new q).1
 have nl:∀ {a},cFr κ.env sc (τ.s.heap.push accO).objs.size a\/a=τ.s.heap.objs.size->σ.s.heap.get? a=none:=λq=>q.elim fr0 λe=>e▸acc0
 have apa:=F.apart_in P.T acc0 ⟨_,accE⟩
 have I2:=I.go g.hs g2 (λu1 z=>z) (λz=>z.elim) λu1=>rfl
 have I3:=I2.go g2.hs g3 (λu1 z=>z) (λz=>z.elim) λu1=>rfl
 let L:LC F.cx ce.base:=⟨P.A,cFr κ.env sc (τ.s.heap.push accO).objs.size,wr,i.1,i.2,en,it,σ,(·=τ.s.heap.objs.size),G τ.s.heap.objs.size,P.R,λm=>F.apart_in P.T (new m) (g2.hs.hi (I2.wrB m).1),new,λq l=>P.S.ab (P.S.liveB l) (nl q),
  λe=>e▸⟨apa.1,λm=>xe (g.hs.hi (I.wrB m).1) λo e=>absurdS e (none_size _)⟩,λj k X=>hst j (λe=>k rfl e) X⟩
 have P0:LP L 0 (P.vs++List.replicate sc.names.length none) [] (inS κ sc _ _):=⟨G3.up,F.vrs G2.hs,λ{a} e=>by
  cases (e:a=τ.s.heap.objs.size);exact ⟨.inl (.inr (.head _)),λl=>g.hs.fresh (g.hs.liveB l)⟩,h0 (F.keep accE) (fresh_sm κ.O g.hs),I3⟩
 refine compStart_self (g:=⟨t,itE,ifs,0⟩) (by rw [hcl];rfl) rfl (hun ..) (hden ..) (hqt ..) P0.self ?_
 refine (hloop F.cx rfl L ⟨Iff.rfl,Iff.rfl,apa.2.1,λa b c e=>apa.2.2 a b c e.symm⟩ htp (λh=>rep_none (by rw [P.T.len];exact h)) P0).use eo hB λs z=>?_
 cases z with | mk ban r g T b j=>exact ⟨rfl,_,rfl,ban,r,g.less nl,acc0,j,b rfl,T.locB,λe=>apa.1 (.inl e.symm),fr0 (.inl rfl),T.loc⟩
end
section
variable {ce:CE} {κ:Cx ce} {A:Around} {lo:Nat} {σ τ:Sg} {vs:Vars} {fr:Addr->Prop} {f felt fit1 fit2 fc fk:Ev} {e elt kx vx t itE t2 it2:Expr} {ifs:List Expr} {gs:List Comprehension} {hasC en:Bool} {a C:Addr} {d:List D} {sc:Scope} {pos:Pos} {m m2:Nat} {p1 p2:Pat} {h':Heap} {H:Hp} {s:Shared} {newAcc:Sem Value} {o:O} {j:Addr->Sg->Prop}
theorem wp_comp {use:Option (Value->Sem Unit)} {Q:Value->Shared->Prop} {R:Addr->Addr->Shared->Prop} (hok:okScope ce sc=true) (hcl:clausesOf e=⟨t,itE,ifs,0⟩::gs) (hns:∀ es k p,itE≠.Set es k p) (h:Ran κ sc A e itE newAcc s R)
  (k:∀ {a C s},R a C s->compPost κ.W.m A NoE use Q (.ref a) C (.ok .next) s):wpAny κ.W.m A (comprehension e sc κ.env pos newAcc false (eval itE κ.env) use) Q NoE s:=
 xaa (okScope_of hok) λh1 h2 h3=>wpAny_comprehension_free (use:=use) hcl (λx=>folded_pure hns) (closure_eq λx hx=>xea (free_cell (κ:=κ) hok hx) λc hc u1=>⟨c,hc⟩) h1 (λx hx hl=>lookup_of_mem h2 (hl▸hx))
  (post h λx s1 h1=>post h1 λit s2 h2=>post h2 λacc s3 h3=>post h3 λcenv s4 h4=>codeAny_mono h4 λrs s5 ⟨e1,a,e2,z⟩=>by subst e1;subst e2;exact k z)
theorem ran_value (hok:okScope ce sc=true) (hcl:clausesOf e=⟨t,itE,ifs,0⟩::gs) (hns:∀ es k p,itE≠.Set es k p) (hst:∀ {a σ τ},j a σ->(∀ {o},σ.s.heap.get? a=some o->τ.s.heap.get? a=some o)->Ex σ.s.heap σ.ban τ.s.heap τ.ban->j a τ) (hj:∀ {a τ},j a τ->OO κ.W τ.s.heap τ.ban τ.r a o)
  (h:Ran κ sc A e itE newAcc σ.s (λa=>CEnd κ.W σ H (j a) a)):wpAny κ.W.m A (comprehension e sc κ.env pos newAcc false (eval itE κ.env)) (NP κ.W σ (o,H)) NoE σ.s:=
 wp_comp (use:=none) hok hcl hns h λ{a C s} q=>by
  cases q with
  | mk ban r g f j b bC n f2 z=>
   refine xe z λm z=>⟨m,z,λh' hs=>?_⟩
   have hk:∀ {b o},b∉[C]->s.heap.get? b=some o->h'.get? b=some o:=λnb e=>(hs.2 _ λq=>nb (q▸.head _)).trans e
   have na:a∉[C]:=λm=>n (ao.mp m).symm
   exact ⟨a,_,r,rfl,g.close (wr:=[C]) (tk:=s.toks) (λm=>ao.mp m▸f2) (λm=>ao.mp m▸bC.2) (λm=>ao.mp m▸bC.1) hk,f,⟨b.1,na⟩,b.2,hj (hst (σ:=⟨ban,r,H,s⟩) (τ:=⟨λb=>ban b/\b∉[C],r,H,{ s with heap:=h',toks:=s.toks }⟩) j (hk na) ⟨λn=>hk λm=>n (by rw [ao.mp m];exact bC.1),λe=>.inl e.1⟩)⟩
theorem newList_ok {Q:Value->Shared->Prop} {s:Shared} (h:Q (.ref s.heap.objs.size) { s with heap:=s.heap.push (lstO #[] 0) }):wpAny κ.W.m A (newList []) Q NoE s:=wpAny_newObj_type h
theorem newDict_ok {Q:Value->Shared->Prop} {s:Shared} (h:Q (.ref s.heap.objs.size) { s with heap:=s.heap.push (dctO #[] 0) }):wpAny κ.W.m A newDict Q NoE s:=by
 unfold newDict newObj
 exact aL (wpAny_alloc (aM h))
theorem Gath.oo {W:Wd} (j:Gath a d τ):OO W τ.s.heap τ.ban τ.r a (.list (d.map .d)):=xeea j λus m e q=>⟨us,m,e,q.vvs⟩
theorem small_short {l:List D} (h:small l.length=true):shortL l:=aI (Nat.le_of_lt (small_lt h)) (by decide)
theorem compRun_small {k:Nat} {after:Vars->Hp->Option (List D×Hp)} {H:Hp}:Ow (compRun k p1 en f after vs H) λo=>small o.1.length=true:=.be λu1 u2=>.be λu1 u2=>.w λu1=>.be λu1 u2=>.w λh=>h
abbrev LRan (κ:Cx ce) (sc:Scope) (A:Around) (e itE:Expr) (σ:Sg) (o:List D×Hp):Prop:=Ran κ sc A e itE (newList []) σ.s (λa=>CEnd κ.W σ o.2 (Gath a o.1) a)
theorem ran1 (hok:okScope ce sc=true) (hs:SrcOK κ itE en fit1) (hp:patOf m (ce.inner sc) t=some p1) (hge:p1.ge ce.base=true) (hC:∀ κ':Cx (ce.inner sc),κ'.Φ=κ.Φ->CondOK κ' ifs hasC fc) (he:∀ κ':Cx (ce.inner sc),κ'.Φ=κ.Φ->EOK κ' (eval elt κ'.env) felt) (P:Pt κ lo σ) :
  Ow (compEv sc.names.length p1 en false p2 hasC fit1 felt fit2 fc P.vs σ.H) λo=>LRan κ sc P.A (lc1 elt t itE ifs sc pos) itE σ o:=.of λo eo=>
 (comp_run (G:=Gath) (accO:=lstO #[] 0) hok rfl hs newList_ok rfl (λe u1=>⟨[],0,e,rfl⟩) Gath.st (loop1 hp hge hC he) P (λu1 u2 u3=>Around.under_of_weight rfl rfl) (λu1 u2 u3=>rfl) λu1 u2 u3=>rfl).use eo (small_short (compRun_small.use eo))
theorem ran2 (hok:okScope ce sc=true) (hs:SrcOK κ itE en fit1) (hp:patOf m (ce.inner sc) t=some p1) (hge:p1.ge ce.base=true) (hp2:patOf m2 (ce.inner sc) t2=some p2) (hge2:p2.ge ce.base=true) (hdis:∀ m∈p2.vars,m∉p1.vars) (hns:∀ es k p,it2≠.Set es k p)
  (hi:∀ κ':Cx (ce.inner sc),κ'.Φ=κ.Φ->EOK κ' (eval it2 κ'.env) fit2) (hC:∀ κ':Cx (ce.inner sc),κ'.Φ=κ.Φ->CondOK κ' ifs hasC fc) (he:∀ κ':Cx (ce.inner sc),κ'.Φ=κ.Φ->EOK κ' (eval elt κ'.env) felt) (P:Pt κ lo σ) :
  Ow (compEv sc.names.length p1 en true p2 hasC fit1 felt fit2 fc P.vs σ.H) λo=>LRan κ sc P.A (lc2 elt t itE t2 it2 ifs sc pos) itE σ o:=.of λo eo=>
 (comp_run (G:=Gath) (accO:=lstO #[] 0) hok rfl hs newList_ok rfl (λe u1=>⟨[],0,e,rfl⟩) Gath.st (loop2 hp hge hp2 hge2 hdis hns hi hC he) P (λu1 u2 u3=>Around.under_of_weight rfl rfl) (λu1 u2 u3=>rfl) λu1 u2 u3=>rfl).use eo (small_short (compRun_small.use eo))
inductive LcOK (κ:Cx ce) (e:Expr) (f:Vars->Hp->Option (List D×Hp)):Prop
 | mk (sc:Scope) (itE t:Expr) (ifs:List Expr) (gs:List Comprehension) (pos:Pos) (hok:okScope ce sc=true) (hcl:clausesOf e=⟨t,itE,ifs,0⟩::gs) (hns:∀ es k p,itE≠.Set es k p)
  (hev:eval e κ.env=comprehension e sc κ.env pos (newList []) false (eval itE κ.env)) (hu:∀ u,evalThenUse e κ.env u=(do let _ ← comprehension e sc κ.env pos (newList []) false (eval itE κ.env) (some u)))
  (h:∀ {lo σ} (P:Pt κ lo σ),Ow (f P.vs σ.H) (LRan κ sc P.A e itE σ))
theorem LcOK.new {f:Vars->Hp->Option (List D×Hp)} (L:LcOK κ e f):NOK κ (eval e κ.env) λvs H=>(f vs H).map λo=>(.list (o.1.map .d),o.2):=λP=>by
 cases L with | mk sc itE t ifs gs pos hok hcl hns hev u1 h=>exact .m (Ow.mono (λo h=>hev▸ran_value (j:=λa=>Gath a o.1) hok hcl hns Gath.st Gath.oo h) (h P))
theorem LcOK.ev {f:Vars->Hp->Option (List D×Hp)} (L:LcOK κ e f):EOK κ (eval e κ.env) λvs H=>(f vs H).map λo=>(.d (.list o.1),o.2):=λP=>
 .me λo eo=>post ((L.new P).use (a:=(.list (o.1.map .d),o.2)) (by show (f _ _).map _=_;rw [eo];rfl)) λv s q=>q.list
theorem ok_dcomp {xk xe xi:X} (hok:okScope ce sc=true) (hi:XE κ itE xi) (hns:∀ es k p,itE≠.Set es k p) (hp:patOf m (ce.inner sc) t=some p1) (hge:p1.ge ce.base=true) (hk:∀ κ':Cx (ce.inner sc),κ'.Φ=κ.Φ->XE κ' kx xk) (he:∀ κ':Cx (ce.inner sc),κ'.Φ=κ.Φ->XE κ' vx xe) :
  XE κ (dc1 kx vx t itE sc pos) (.dcomp sc.names.length xk xe p1 xi):=λP=>.be λo eo=>.me λp ep=>by
 have h:=(comp_run (e:=dc1 kx vx t itE sc pos) (B:=pairsB) (G:=GathD) (accO:=dctO #[] 0) (newAcc:=newDict) hok rfl (.inl ⟨rfl,hi,hns⟩) newDict_ok rfl (λe sm=>⟨([],[]),rfl,[],0,⟨e,sm,.nil,.nil⟩,rfl⟩) GathD.st (loopD hp hge (λκ' z=>z▸hk κ' z) (λκ' z=>z▸he κ' z)) P (λu1 u2 u3=>Around.under_of_weight rfl rfl) (λu1 u2 u3=>rfl) λu1 u2 u3=>rfl).use eo ⟨compRun_small.use eo,p,ep⟩
 refine post (ran_value (pos:=firstIterPos [⟨t,itE,[],0⟩] pos) (j:=λa=>GathD a o.1) (o:=.dict p.1 (p.2.map .d)) hok rfl hns GathD.st (λj=>xea j λp' e' j=>?_) h) λv s q=>q.dict
 cases ep.symm.trans e'
 exact xeea j λes m R q=>⟨es,m,R,q.vvs⟩
end
section
variable {W:Wd} {A:Around} {ce:CE} {κ:Cx ce} {lo:Nat} {σ τ:Sg} {E:Value->Shared->Prop} {s:Shared} {ban:Addr->Prop} {a:Addr} {ks:List Key} {es:List DictEntry} {m:Nat} {q:Key} {key dv v u:Value} {x y z:V}
theorem setdef_call {Q:Value->Shared->Prop} (hu:A.units+1 < cLine) (D:DR s.heap ban a ks es m) (hk:ks.all (sameKind q)=true) (hz:small ks.length=true) (qk:KV s.heap ban key q) (h1:∀ {i en tk},idxK ks q=some i->es[i]?=some en->Q en.val { s with toks:=tk })
  (h2:idxK ks q=none->∀ tk,Q dv { s with heap:=s.heap.update a λu1=>dctO (es++[(⟨hashK q,key,dv⟩:DictEntry)]).toArray (m+1),toks:=tk }):wpAny W.m A (call (.builtin "dict.setdefault") [.ref a,key,dv]) Q E s:=by
 refine wpAny_call_entry PySem.F.slot_dict_setdefault ⟨_,D.at_,rfl⟩ PySem.F.entry_dict_setdefault ?_ (PySem.F.args_dict_setdefault_3 _ _ _)
 unfold Builtin.«dict.setdefault»
 refine aL ?_
 unfold Builtin.Dict.keyAndDefault
 refine aL (wpAny_notOrdered_dict ⟨_,D.at_,rfl⟩ ?_)
 show wpAny _ _ (pure (a,key,some dv)) _ _ s
 refine aM ?_
 show wpAny _ _ (if (a==sysModules)=true then _ else (dictSetDefault a key dv>>=_)) _ _ s
 refine wif_n (by rw [D.sm];exact Bool.false_ne_true) ?_
 refine aL ?_
 unfold dictSetDefault
 refine aH (aL (pyHash_ok hu qk λtk=>aL (dictFind_ok (s:={ s with toks:=tk }) hu D hk qk ?_)))
 cases ei:idxK ks q with
 | some i=>
  have hl:i < es.length:=by rw [D.length];exact (aa.mp (idxK_some ei)).1
  refine aL (wpAny_dictEntries (s:={ s with toks:=tk }) D.at_ rfl ?_)
  rw [List.getElem?_toArray,ad hl]
  exact aL (wpAny_rule (aM (aM ⟨_,rfl,h1 ei (ad hl)⟩)))
 | none=>
  refine aL (wpAny_rule (aL (wpAny_updateDictKeys (s:={ s with toks:=tk }) D.at_ rfl ?_ (by rw [List.size_toArray,D.length];exact small_line (k:=0) hz (by decide)))))
  rw [show ({ s with toks:=tk }:Shared).heap.update a (Obj.mapDictKeys λx=>x.push ⟨hashK q,key,dv⟩)=s.heap.update a λu1=>dctO (es++[(⟨hashK q,key,dv⟩:DictEntry)]).toArray (m+1) from upd_const D.at_ (dctO_push es m _)]
  exact aM (aM ⟨dv,rfl,h2 ei tk⟩)
theorem setdef_ok (hu:A.units+1 < cLine) (S:HS W σ) (qu:Vv W σ u y):∀ v,Vv W σ v x->Ow (setdefV x y σ.H) λo=>wpAny W.m A (call (.builtin "dict.setdefault") [v,u,.ref σ.s.heap.objs.size]) (EP W σ o) NoE { σ.s with heap:=σ.s.heap.push (lstO #[] 0) }:=by
 refine ow_dcAt S λj ks xs a es m r D q=>Ow.be λd ed=>?_
 cases dt_some ed
 refine Ow.b (Ow.mono (λk qk=>Ow.w λh=>?_) (ow_key qu))
 have gg:Gn W σ (σ.at { σ.s with heap:=σ.s.heap.push (lstO #[] 0) }):=Go.grow (tk:=σ.s.toks) S λe=>ah _ e
 have D1:=D.step (Ex.push _ (lstO #[] 0)) (ah _ D.at_)
 refine setdef_call hu D1 (b1 h) (b2 h) (qk.step (Ex.push ..)) (λ{i en tk} ei he=>?_) (λei tk=>?_)
 ·have e1:getK ks (es.map (·.val)) k=some en.val:=by unfold getK;rw [ei];show (es.map _)[i]?=_;rw [List.getElem?_map,he];rfl
  cases eg:getK ks xs k with
  | none=>exact absurdS e1 ((D.val q).2 eg)
  | some z=>exact xea ((D.val q).1 z eg) λw e2 qw=>by cases e1.symm.trans e2;exact (EP.tok (tk:=tk) gg.hs (Go.vv gg S qw)).from gg
 ·have eg:getK ks xs k=none:=by unfold getK;rw [ei];rfl
  rw [eg]
  have hj:j < σ.H.o.length:=by rw [← S.len];exact (aa.mp r).1
  refine xa (Go.alloc (x:=.list []) (ob:=lstO #[] 0) (tk:=σ.s.toks) S rfl ⟨[],0,am _ rfl,.nil⟩) λgl ql=>?_
  have r':(σ.r++[some σ.s.heap.objs.size])[j]?=some (some a):=by rw [List.getElem?_append_left (aa.mp r).1];exact r
  have X:=gl.exn S
  have D2:=D.step X (ah _ D.at_)
  have ho:=Heap.get?_update_self (λu1=>dctO (es++[(⟨hashK k,u,.ref σ.s.heap.objs.size⟩:DictEntry)]).toArray (m+1)) D1.at_ rfl
  have st:=notMe (o:=dctO (es++[(⟨hashK k,u,.ref σ.s.heap.objs.size⟩:DictEntry)]).toArray (m+1)) gl.hs r'
  have gp:=Go.put (tk:=tk) (x:=.dict (ks++[k]) (xs++[.ref σ.H.o.length])) gl.hs r' ⟨_,D1.at_⟩ rfl ⟨es++[⟨hashK k,u,.ref σ.s.heap.objs.size⟩],m+1,⟨ho,D.sm,az.mpr ⟨D.nodup,List.pairwise_singleton _ _,λx m y m' e=>idxK_none ei ((ao.mp m')▸e▸m)⟩,(D2.ents.append (.one ⟨rfl,qk.step X⟩)).mono λu1 u2 z=>⟨z.1,z.2.step st⟩⟩,by
   rw [aC];exact VVs.step st (.refl _) ((Go.vvs gl S q).append (.one ql))⟩
  have eH:((σ.H.new (.list [])).put j (.dict (ks++[k]) (xs++[.ref σ.H.o.length])):Hp)=⟨σ.H.o.set j (.dict (ks++[k]) (xs++[.ref σ.H.o.length]))++[.list []],σ.H.w+1⟩:=by
   unfold Hp.new Hp.put
   rw [List.set_append_left _ _ hj]
  rw [← eH]
  exact ⟨_,_,Go.tr gl gp,Go.vv gp gl.hs ql⟩
theorem ok_setdef {o ke:Expr} {apos pos lp:Pos} {xo xk:X} (hb:PB o) (hline:(apos.endLine==pos.line)=true) (hks:∀ e0 p,ke≠.Starred e0 p) (ho:XE κ o xo) (hk:XE κ ke xk):XE κ (.Call (.Attribute o "setdefault" apos) [ke,.List [] lp] [] pos) (.setdef xo xk):=λ{lo σ} P=>by
 have I:IOK κ [ke,.List [] lp] [xk,.list []]:=.cons ⟨hk,hks⟩ (.cons ⟨ok_list .nil (by decide),nofun⟩ .nil)
 refine Ow.mono (λo h=>call_meth hb (show 2<=20 by decide) hline I h) (ho.seq P λx τ1 g1 v q1=>Ow.be λd ed=>.of λo eo pl=>?_)
 have hd:d=true:=bC eo λq u1 eo=>by
  cases d with
  | true=>rfl
  | false=>exact noS eo
 subst hd
 refine xeeea ((kind_obj g1.hs v q1).use ed) λa es0 m0 e ga=>?_
 subst e
 refine getMethod_builtin ⟨_,ga,rfl⟩ PySem.F.plainAttrs_dict PySem.F.slot_dict_setdefault PySem.F.type_dict_setdefault (λc e=>by cases e;exact ⟨_,ga,rfl⟩) (Calls.callWith_builtin I.plain (evalArgs_any I.plain (wpAny_items_cons ?_ (starEach_cons hks))))
 refine (hk.seq (K:=λo w s=>wpAny κ.W.m P.A (spliced (backTo pos (starEach [.List [] lp] κ.env))) (λvs s=>wpAny κ.W.m P.A (call (.builtin "dict.setdefault") ([.ref a]++(w::vs))) (EP κ.W σ o) NoE s) NoE s) (P.go g1) λy τ2 g2 w q2=>Ow.w λu1=>Ow.mono (λo h=>?_) (setdef_ok (P.R.room (by decide)) g2.hs q2 _ (Go.vv g2 g1.hs q1))).use eo
 exact wpAny_items_cons (wpAny_List (wpAny_items_nil ⟨Nat.zero_le _,wpAny_items_nil (post h λu1 u2 q=>q.from (Go.tr g1 g2))⟩)) (starEach_cons nofun)
end
section
variable {W:Wd} {A:Around} {σ:Sg} {E:Value->Shared->Prop} {a:Addr} {j:Nat} {ks:List Key} {xs:List V} {es:List DictEntry} {m:Nat} {k:Key} {key vv vi:Value} {x y z:V} {α:Type} {R:Value->α->Prop} {v:Value} {w:α} {ws:List α}
theorem modSet:∀ (es:List DictEntry) (i:Nat),(es.modify i λe=>{ e with val:=v }).map (·.val)=(es.map (·.val)).set i v
 | [],i=>by cases i <;> rfl
 | u1::_,0=>rfl
 | e::es,i+1=>aN (e.val::·) (modSet es i)
theorem store_vals (q:All2 R (es.map (·.val)) ws) (h:R v w):All2 R ((storeE es ks k key v).map (·.val)) (setK ks ws k w).2:=by
 unfold storeE setK
 cases idxK ks k with
 | some i=>show All2 R ((es.modify i _).map _) (ws.set i w);rw [modSet];exact q.set h i
 | none=>show All2 R ((es++[_]).map _) (ws++[w]);rw [aC];exact q.append (.one h)
theorem dput_ok (hu:A.units < cLine) (S:HS W σ) (er:σ.r[j]?=some (some a)) (D:DR σ.s.heap σ.ban a ks es m) (q:Vs W σ (es.map (·.val)) xs) (hk:ks.all (sameKind k)=true) (hz:small ks.length=true) (qk:KV σ.s.heap σ.ban key k) (qv:Vv W σ vv z) :
  wpAny W.m A (dictSet a key vv) (λu1 s=>Gn W σ ⟨σ.ban,σ.r,σ.H.put j (.dict (setK ks xs k z).1 (setK ks xs k z).2),s⟩) E σ.s:=by
 unfold dictSet
 refine aH (aL (pyHash_ok hu qk λtk=>dictSetHashed_ok (s:={ σ.s with toks:=tk }) hu D hk qk hz λm'=>?_))
 have st:=notMe (o:=dctO (storeE es ks k key vv).toArray m') S er
 have en:=store_ents (xs:=xs) (y:=z) (v:=vv) D qk
 exact Go.put (tk:=tk) S er ⟨_,D.at_⟩ rfl ⟨_,m',⟨Heap.get?_update_self (λu1=>dctO (storeE es ks k key vv).toArray m') D.at_ rfl,D.sm,en.2,en.1.mono λu1 u2 z=>⟨z.1,z.2.step st⟩⟩,VVs.step st (.refl _) (store_vals q qv)⟩
theorem setitem_ok (hu:A.units+1 < cLine) (S:HS W σ) (qi:Vv W σ vi y) (qv:Vv W σ vv z):∀ va,Vv W σ va x->Ow (setItemV x y z σ.H) λH=>wpAny W.m A (setItem va vi vv) (λu1 s=>Gn W σ ⟨σ.ban,σ.r,H,s⟩) E σ.s:=λva q=>by
 cases x with
 | ref j=>
  show Ow (y.dt.bind λk=>(σ.H.o[j]?).bind λo=>(setItemO k z o).map λo=>σ.H.put j o) _
  refine Ow.be λk ek=>Ow.be λo eo=>Ow.m ?_
  cases dt_some ek
  cases o with
  | list xs=>
   refine S.obj (G:=λva=>Ow (setItemO k z (.list xs)) λo=>wpAny W.m A (setItem va vi vv) (λu1 s=>Gn W σ ⟨σ.ban,σ.r,σ.H.put j o,s⟩) E σ.s) eo nofun q λa r z'=>xeea z' λus m g zq=>?_
   revert vi
   refine λ{vi} qi=>(ow_di (Q:=λvi o=>wpAny W.m A (setItem (.ref a) vi vv) (λu1 s=>Gn W σ ⟨σ.ban,σ.r,σ.H.put j o,s⟩) E σ.s) (f:=λi=>wh (decide (0<=i)&&decide (i < 1000)&&decide (i.toNat < xs.length)) (some (O.list (xs.set i.toNat z)))) (λi t=>Ow.w λhc=>?_) vi qi)
   have ht:σ.s.TypeIs (.ref a) "list":=⟨_,g,rfl⟩
   have h0:0<=i:=aw (b1 (b1 hc))
   have h1:i < 1000:=aw (b2 (b1 hc))
   change wpAny W.m A (setItem (.ref a) _ vv) _ E σ.s
   unfold setItem
   try with_reducible refine aH ?_
   refine aL (wpAny_sequenceKey ht (by decide) ?_)
   refine aL (wpAny_callSpecial?_slot (name:=Str.ofString "__setitem__") ht slot_list_setitem (wpAny_call_entry slot_list_setitem ht entry_list_setitem ?_ (args_list_setitem _ _ _)))
   show wpAny _ _ (Builtin.List.listSubscript? (.int i t)>>=_) _ _ σ.s
   refine aL (wpAny_listSubscript_int (fitsIndex_of h0 (by omega)) ?_)
   refine xe (Int.eq_ofNat_of_zero_le h0) λj0 e=>?_
   subst e
   have hj:j0 < us.toArray.size:=by rw [szA,zq.length];exact aw (b2 hc)
   show wpAny _ _ ((seqItemAt a j0>>=λr=>pure (r.map (j0,·)))>>=_) _ _ σ.s
   refine aL (aL (wpAny_seqItemAt g rfl (aM ?_)))
   rw [Array.getElem?_eq_getElem hj]
   show wpAny _ _ (setSeqItemAt a j0 vv>>=_) _ _ σ.s
   refine aL (wpAny_setSeqItemAt g rfl ?_)
   have gp:=Go.putList (W:=W) (ws:=us.set j0 vv) (ys:=xs.set j0 z) (f:=λx=>x.setIfInBounds j0 vv) (tk:=σ.s.toks) S r g (by rw [List.setIfInBounds_toArray]) (zq.set qv j0)
   first
    | exact aL (aM (aM ⟨.none,rfl,aM gp⟩))
    | exact aM ⟨.none,rfl,aM gp⟩
  | dict ks xs=>
   refine S.obj (G:=λva=>Ow (setItemO k z (.dict ks xs)) λo=>wpAny W.m A (setItem va vi vv) (λu1 s=>Gn W σ ⟨σ.ban,σ.r,σ.H.put j o,s⟩) E σ.s) eo nofun q λa r z'=>xeea z' λes m D zq=>?_
   refine Ow.b (Ow.mono (λk qk=>Ow.w λh=>?_) (ow_key qi))
   have ht:σ.s.TypeIs (.ref a) "dict":=⟨_,D.at_,rfl⟩
   change wpAny W.m A (setItem (.ref a) _ vv) _ E σ.s
   unfold setItem
   try with_reducible refine aH ?_
   refine aL (wpAny_sequenceKey ht (by decide) ?_)
   refine aL (wpAny_callSpecial?_slot (name:=Str.ofString "__setitem__") ht slot_dict_setitem (wpAny_call_entry slot_dict_setitem ht entry_dict_setitem ?_ (args_dict_setitem _ _ _)))
   show wpAny _ _ (Builtin.Dict.notOrdered "__setitem__" ⟨[.ref a,vi,vv],[]⟩>>=_) _ _ σ.s
   refine aL (wpAny_notOrdered_dict ht ?_)
   show wpAny _ _ (dictSet a vi vv>>=_) _ _ σ.s
   exact aL (wpAny_mono (dput_ok hu S r D zq (b1 h) (b2 h) qk qv) (λu1 s g=>aM ⟨.none,rfl,aM g⟩) λu1 u2 e=>e)
  | _=>exact aO
 | _=>exact aO
end
inductive FlR (W:Wd) (σ:Sg):Flow->Fl->Prop
 | nx:FlR W σ .next .nx
 | brk:FlR W σ .brk .brk
 | cont:FlR W σ .cont .cont
 | ret {v:Value} {x:V} (q:Vv W σ v x):FlR W σ (.ret v) (.ret x)
mutual
theorem ge_zero:∀ (p:Pat),p.ge 0=true
 | .var n=>(aF (Nat.zero_le n):decide (0<=n)=true)
 | .tup ps=>patsGe_zero ps
theorem patsGe_zero:∀ (ps:List Pat),patsGe 0 ps=true
 | []=>rfl
 | p::ps=>Bool.and_eq_true_iff.mpr ⟨ge_zero p,patsGe_zero ps⟩
end
section
variable {ce:CE} {κ:Cx ce} {σ τ:Sg} {vs':Vars} {s:Shared} {e o i:Expr} {p pos:Pos} {x:Str} {n m:Nat} {ye yo yi:X} {ban:Addr->Prop} {r:Rho} {H:Hp}
inductive SP (κ:Cx ce) (fr:Addr->Prop) (σ:Sg) (o:St) (F:Flow) (s:Shared):Prop
 | mk (ban:Addr->Prop) (r:Rho) (g:Go κ.W fr σ ⟨ban,r,o.2.2,s⟩) (T:VS κ 0 fr ⟨ban,r,o.2.2,s⟩ o.2.1) (q:FlR κ.W ⟨ban,r,o.2.2,s⟩ F o.1)
noncomputable def SOK (κ:Cx ce) (t:Sem Flow) (f:Vars->Hp->Option St):Prop:=∀ {σ} (P:Pt κ 0 σ),Ow (f P.vs σ.H) λo=>wpAny κ.W.m P.A t (SP κ P.fr σ o) NoE σ.s
abbrev SX (κ:Cx ce) (st:Stmt) (c:C):Prop:=SOK κ (exec st κ.env) (execC κ.Φ c)
theorem SP.set (P:Pt κ 0 σ) (g:Gn κ.W σ τ) (h:SetTo κ 0 P.fr τ vs' s):SP κ P.fr σ (.nx,vs',τ.H) .next s:=⟨_,_,g.up.trf h.1 P.T,h.2,.nx⟩
theorem SP.gn (P:Pt κ 0 σ) (g:Gn κ.W σ ⟨ban,r,H,s⟩):SP κ P.fr σ (.nx,P.vs,H) .next s:=⟨_,_,g.up,P.T.go P.S g,.nx⟩
theorem SP.from {fr:Addr->Prop} {vs:Vars} {o:St} {F:Flow} (T:VS κ 0 fr σ vs) (g:Go κ.W fr σ τ) (q:SP κ fr τ o F s):SP κ fr σ o F s:=match q with | ⟨b,r,g',T',f⟩=>⟨b,r,g.trf g' T,T',f⟩
theorem swaps_no {env:Env} {t:Option Expr} {l:Nat} (h:isComp e=false):swapsWith e t l env=pure false:=by
 cases e <;> first | rfl | cases h
theorem assign_arm {A:Around} {E:Value->Shared->Prop} {env:Env} {M:Model} {t:Expr} {Q:Flow->Shared->Prop} (hsw:swapsWith e (some t) pos.line env=pure false) (hss:swappedStores [t] e env=pure none) (hst:(assignEach [t] env).map (·.2)=[assign t env])
  (h:wpAny M A (eval e env) (λv s1=>wpAny M A (assign t env v) (λu1=>Q .next) E s1) E s):wpAny M A (exec (.Assign [t] e pos) env) Q E s:=by
 refine wpAny_Assign_stores (wpAny_mono h (λv s1 h1=>?_) λu1 u2 x=>x) hsw hss
 rw [hst]
 exact h1
theorem st_expr (he:XE κ e ye) (hc:isComp e=false):SX κ (.Expr e pos) (.expr ye):=λP=>by
 have hi:interactive κ.env=false:=by unfold interactive;rw [κ.N.kind];rfl
 refine Ow.mono (λo h=>wpAny_Expr h hi (swaps_no hc)) (he.seq P λx τ g=>ow_dt λd v q=>?_)
 cases d with
 | none=>cases (q:v=.none);exact SP.gn P g
 | int n=>exact xe q λt e=>by subst e;exact SP.gn P g
 | _=>exact aO
theorem swaps_tup {env:Env} {ts:List Expr} {k l:Nat}:swapsWith e (some (.Tuple ts k p)) l env=pure false:=by cases e <;> rfl
theorem swaps_sub {env:Env} {l:Nat} {o i:Expr}:swapsWith e (some (.Subscript o i p)) l env=pure false:=by cases e <;> rfl
theorem swapped_no {env:Env} {ts:List Expr} {k:Nat} (hnt:∀ es k p,e≠.Tuple es k p):swappedStores [.Tuple ts k p] e env=pure none:=by
 cases e with
 | Tuple=>exact absurd rfl (hnt _ _ _)
 | _=>rfl
theorem st_asgP {ts:List Expr} {k mf:Nat} {pt:Pat} (he:XE κ e ye) (hp:patOf mf ce (.Tuple ts k p)=some pt) (hnt:∀ es k p,e≠.Tuple es k p):SX κ (.Assign [.Tuple ts k p] e pos) (.asgP pt ye):=λP=>
 Ow.mono (λo h=>assign_arm swaps_tup (swapped_no hnt) rfl h) (he.seq P λx τ g v q=>Ow.m (Ow.mono (λvs' h=>post h λu1 s z=>SP.set P g z) (assign_ok P.R.hd pt hp (ge_zero _) g.hs (P.T.go P.S g) q)))
theorem st_asgN (he:XN κ e ye) (hc:swapsWith e (some (.Name x p)) pos.line κ.env=pure false) (hx:slot ce x=some n):SX κ (.Assign [.Name x p] e pos) (.asgN n ye):=λP=>
 Ow.mono (λo h=>wpAny_Assign_Name h hc) (Ow.seqm (he P) λo v s' q=>match q.adopt with | ⟨ban,r,g,q⟩=>store_ok g.hs (P.T.go P.S g) hx (Nat.zero_le _) q λs z=>SP.set P g z)
theorem st_setI (he:XE κ e ye) (ho:XE κ o yo) (hi:XE κ i yi):SX κ (.Assign [.Subscript o i p] e pos) (.setI yo yi ye):=λP=>
 Ow.mono (λo h=>wpAny_Assign_Subscript h swaps_sub) (he.seq P λy τ1 g1 vv q1=>ho.seq (P.go g1) λz τ2 g2 vo q2=>hi.seq ((P.go g1).go g2) λw τ3 g3 vi q3=>
  Ow.m (Ow.mono (λH h=>post h λu1 s g=>SP.gn P (((g1.tr g2).tr g3).tr g)) (setitem_ok (P.R.room (by decide)) g3.hs q3 ((g2.tr g3).vv g1.hs q1) vo (Go.vv g3 g2.hs q2))))
theorem st_ret (he:XE κ e ye):SX κ (.Return (some e) pos) (.ret .plain ye):=λP=>by
 rw [exec_Return_some]
 exact Ow.mono (λo h=>aL (wpAny_standAt (aL h))) (he.seqm P λy τ g v q=>aM ⟨_,_,g.up,P.T.go P.S g,.ret q⟩)
theorem st_retN (he:XN κ e ye):SX κ (.Return (some e) pos) (.ret .thaw ye):=λP=>by
 rw [exec_Return_some]
 exact Ow.mono (λo h=>aL (wpAny_standAt (aL h))) (Ow.seqm (he P) λo v s' q=>match q.adopt with | ⟨ban,r,g,q⟩=>aM ⟨_,_,g.up,P.T.go P.S g,.ret q⟩)
theorem st_brk:SX κ (.Break pos) .brk:=λP=>wpAny_Break ⟨_,_,.refl P.S,P.T,.brk⟩
theorem st_cont:SX κ (.Continue pos) .cont:=λP=>wpAny_Continue ⟨_,_,.refl P.S,P.T,.cont⟩
noncomputable def BlkOK (κ:Cx ce) (l:List Stmt) (cs:List C):Prop:=All2 (SX κ) l cs
theorem blk_ok {l:List Stmt} {cs:List C} (B:BlkOK κ l cs):SOK κ (execs l κ.env) (execCs κ.Φ cs):=by
 refine All2.ind (P:=λl cs=>SOK κ (execs l κ.env) (execCs κ.Φ cs)) B (λP=>wpAny_execs_nil ⟨_,_,.refl P.S,P.T,.nx⟩) (λst c l cs h u1 ih {σ} P=>?_)
 refine Ow.be λo1 e1=>.of λo2 e2=>wpAny_execs_cons (post ((h P).use e1) λF s1 q=>?_)
 cases q with
 | mk ban r g T k=>
  obtain ⟨f,vs1,H1⟩:=o1
  cases k with
  | nx=>exact post ((ih ⟨P.A,P.fr,vs1,P.R,g.hs,T⟩).use e2) λF s2 q=>q.from P.T g
  | brk=>cases e2;exact ⟨ban,r,g,T,.brk⟩
  | cont=>cases e2;exact ⟨ban,r,g,T,.cont⟩
  | ret q=>cases e2;exact ⟨ban,r,g,T,.ret q⟩
theorem st_if {t:Expr} {b o:List Stmt} {xt:X} {cb co:List C} (ht:XT κ t xt) (hb:BlkOK κ b cb) (ho:BlkOK κ o co):SX κ (.If t b o pos) (.ifs xt cb co):=λP=>
 Ow.mono (λo h=>wpAny_If h) (ht.seq P λc τ g=>match c with
  | true=>Ow.mono (λo h=>post h λF s q=>q.from P.T g.up) (blk_ok hb (P.go g))
  | false=>Ow.mono (λo h=>post h λF s q=>q.from P.T g.up) (blk_ok ho (P.go g)))
end
section
variable {ce:CE} {κ:Cx ce} {σ τ:Sg} {vs:Vars} {s:Shared} {e o t itE:Expr} {b:List Stmt} {p pos:Pos} {x:Str} {f mf:Nat} {ye yo yt yi:X} {cb:List C} {en:Bool} {pt:Pat}
theorem swaps_attr {env:Env} {l:Nat} {o:Expr}:swapsWith e (some (.Attribute o x p)) l env=pure false:=by cases e <;> rfl
theorem swapped_attr {env:Env} {o:Expr}:swappedStores [.Attribute o x p] e env=pure none:=by cases e <;> rfl
theorem st_setA (he:XE κ e ye) (ho:XE κ o yo) (hf:x=fldStr f):SX κ (.Assign [.Attribute o x p] e pos) (.setA yo f ye):=λP=>by
 subst hf
 refine Ow.mono (λo h=>assign_arm swaps_attr swapped_attr rfl h) (he.seq P λy τ1 g1 vv q1=>?_)
 refine Ow.mono (λo h=>?_) (ho.seq (K:=λo vo s=>wpAny κ.W.m P.A (setAttr vo (fldStr f) vv) (λu1 s=>SP κ P.fr _ o .next s) NoE s) (P.go g1) λz τ2 g2 vo q2=>Ow.m (Ow.mono (λH h=>post h λu1 s g=>SP.gn P ((g1.tr g2).tr g)) (setattr_ok κ.O g2.hs (Go.vv g2 g1.hs q1) vo q2)))
 rw [assign_Attribute]
 exact aL (aH (post h λvo s2 h=>aL (wpAny_standAt (aL (aH (post h λu1 s3 h=>wpAny_release h))))))
theorem st_setAN (he:XN κ e ye) (ho:XE κ o yo) (hf:x=fldStr f):SX κ (.Assign [.Attribute o x p] e pos) (.setAN yo f ye):=λP=>by
 subst hf
 refine Ow.mono (λo h=>assign_arm swaps_attr swapped_attr rfl h) (Ow.seq (he P) λob vv s' q=>?_)
 refine match q.adopt with | ⟨ban,r,g1,q1⟩=>?_
 refine Ow.mono (λo h=>?_) (ho.seq (K:=λo vo s=>wpAny κ.W.m P.A (setAttr vo (fldStr f) vv) (λu1 s=>SP κ P.fr _ o .next s) NoE s) (P.go g1) λz τ2 g2 vo q2=>Ow.m (Ow.mono (λH h=>post h λu1 s g=>SP.gn P ((g1.tr g2).tr g)) (setattr_ok κ.O g2.hs (Go.vv g2 g1.hs q1) vo q2)))
 rw [assign_Attribute]
 exact aL (aH (post h λvo s2 h=>aL (wpAny_standAt (aL (aH (post h λu1 s3 h=>wpAny_release h))))))
noncomputable def Nxt (I:Nat->Shared->Prop) (Q:Flow->Shared->Prop) (k:Nat) (f:Flow) (s:Shared):Prop:=match f with
 | .next=>∃ m,m < k/\I m s
 | .cont=>∃ m,m < k/\I m s
 | .brk=>Q .next s
 | .ret v=>Q (.ret v) s
section
variable {M:Model} {A:Around} {env:Env} {it:Value} {R:Result->Shared->Prop} {Q:Flow->Shared->Prop} {W:Wd} {I:Nat->Shared->Prop} {k:Nat}
theorem while_rule (I:Nat->Shared->Prop) (turn:∀ {k s},I k s->wpAny W.m A (isTrue t env (eval t env)) (λc s2=>bif c then wpAny W.m A (execs b env) (Nxt I Q k) NoE s2 else Q .next s2) NoE s) {m:Nat} (h:I m s):wpAny W.m A (exec (.While t b [] pos) env) Q NoE s:=
 wpAny_While (codeAny_whileLoop I (λk s w=>wpAny_trueE (post (turn w) λc s2 h=>match c,h with
  | true,h=>wpAny_trueE (post h λf s3 h=>match f,h with | .next,h=>h | .cont,h=>h | .brk,h=>h | .ret _,h=>h)
  | false,h=>wpAny_execs_nil h)) m h)
theorem for_rule (I:Nat->Shared->Prop) (turn:∀ {k s},I k s->wpAny W.m A (pyNext it) (λrv s1=>rv.elim (R (.ok .next) s1) λv=>wpAny W.m A (letOwnedTupleGo t it v) (λu1 s2=>wpAny W.m A (assign t env v) (λu1 s3=>wpAny W.m A (execs b env) (Nxt I (λf=>R (.ok f)) k) NoE s3) NoE s2) NoE s1) NoE s) {m:Nat} (h:I m s):codeAny W.m A (.forLoop t it b [] env) R s:=
 codeAny_forLoop_any I (λk s w=>wpAny_trueE (post (turn w) λrv s1 h=>match rv,h with
  | none,h=>wpAny_execs_nil h
  | some v,h=>wpAny_trueE (post h λu1 s2 h=>wpAny_trueE (post h λu1 s3 h=>wpAny_trueE (post h λf s4 h=>match f,h with | .next,h=>h | .cont,h=>h | .brk,h=>h | .ret _,h=>h))))) m h
end
theorem body_end {I:Nat->Shared->Prop} {k:Nat} {fr:Addr->Prop} {o o1:St} {F:Flow} {K:Vars->Hp->Option St} (q:afterB K o1=some o) (z:SP κ fr τ o1 F s) (T:VS κ 0 fr σ vs) (g:Go κ.W fr σ τ) (nx:∀ {ban r},Go κ.W fr τ ⟨ban,r,o1.2.2,s⟩->VS κ 0 fr ⟨ban,r,o1.2.2,s⟩ o1.2.1->K o1.2.1 o1.2.2=some o->∃ m,m < k/\I m s):Nxt I (SP κ fr σ o) k F s:=by
 obtain ⟨fl,vs3,H3⟩:=o1
 cases z with
 | mk ban r g3 T3 kf=>
  cases kf with
  | nx=>exact nx g3 T3 q
  | cont=>exact nx g3 T3 q
  | brk=>cases q;exact ⟨ban,r,g.trf g3 T,T3,.nx⟩
  | ret z=>cases q;exact ⟨ban,r,g.trf g3 T,T3,.ret z⟩
inductive WhI (κ:Cx ce) (fr:Addr->Prop) (σ:Sg) (w:Nat->Vars->Hp->Option St) (o:St) (k:Nat) (s:Shared):Prop
 | mk (ban:Addr->Prop) (r:Rho) (H:Hp) (vs:Vars) (g:Go κ.W fr σ ⟨ban,r,H,s⟩) (T:VS κ 0 fr ⟨ban,r,H,s⟩ vs) (q:w k vs H=some o)
theorem while_ok {tf:Vars->Hp->Option (Bool×Hp)} {bf:Vars->Hp->Option St} {m:Nat} (ht:∀ {σ} (P:Pt κ 0 σ),Ow (tf P.vs σ.H) λo=>wpAny κ.W.m P.A (isTrue t κ.env (eval t κ.env)) (TP κ.W σ o) NoE σ.s) (hb:SOK κ (execs b κ.env) bf) (P:Pt κ 0 σ):Ow (whileC tf bf m P.vs σ.H) λo=>wpAny κ.W.m P.A (exec (.While t b [] pos) κ.env) (SP κ P.fr σ o) NoE σ.s:=.of λo eo=>
 while_rule (WhI κ P.fr σ (whileC tf bf) o) (λ{k s} ⟨ban,r,H,vs,g,T,q⟩=>match k,q with
  | 0,q=>noS q
  | k+1,q=>bC q λa ea q=>post ((ht ⟨P.A,P.fr,vs,P.R,g.hs,T⟩).use ea) λc s2 ⟨e,ban2,r2,g2⟩=>by
   subst e
   have G:=g.trf g2.up P.T
   have T2:=T.go g.hs g2
   revert q
   cases a.1 with
   | false=>exact λq=>by cases q;exact ⟨ban2,r2,G,T2,.nx⟩
   | true=>exact λq=>bC q λo1 e1 q=>post ((hb ⟨P.A,P.fr,vs,P.R,g2.hs,T2⟩).use e1) λF s3 z=>body_end q z P.T G λ{ban r} g3 T3 q=>⟨k,Nat.lt_succ_self _,ban,r,_,_,G.trf g3 P.T,T3,q⟩) ⟨_,_,_,_,.refl P.S,P.T,eo⟩
theorem st_while (ht:XT κ t yt) (hb:BlkOK κ b cb):SX κ (.While t b [] pos) (.whiles yt cb):=λP=>while_ok (tf:=λvs h=>(evalX κ.Φ yt vs h).bind λp=>(truthV p.1).map λz=>(z,p.2)) (bf:=λvs h=>execCs κ.Φ cb vs h) ht (blk_ok hb) P
inductive ForI (L:LC κ 0) (body:V->Vars->Hp->Option St) (o:St) (k:Nat) (s:Shared):Prop
 | mk (i:Nat) (ban:Addr->Prop) (r:Rho) (H:Hp) (vs:Vars) (e:k=L.items.length - i+1) (l:i<=L.items.length) (P:LP L i vs [] ⟨ban,r,H,s⟩) (q:loopC L.lock body (L.items.drop i) vs H=some o)
theorem for_loop {bf:Vars->Hp->Option St} {body:V->Vars->Hp->Option St} (hB:∀ {v vs h o},body v vs h=some o->∃ vs1,bindP pt v vs=some vs1/\bf vs1 h=some o) (L:LC κ 0) (hga:∀ {a},¬ L.ga a) (hJ:∀ {τ},L.J [] τ) (hp:patOf mf ce t=some pt) (htp:L.tp=true->pt.isTup=true) (hb:SOK κ (execs b κ.env) bf) {vs0:Vars} (T0:VS κ 0 L.fr L.σ0 vs0) (P:LP L 0 vs [] τ) {o:St} (eo:loopC L.lock body L.items vs τ.H=some o) {R:Result->Shared->Prop} (hR:∀ {F s},SP κ L.fr L.σ0 o F s->R (.ok F) s) :
  codeAny κ.W.m L.A (.forLoop t L.it b [] κ.env) R τ.s:=by
 have gm:∀ {τ υ:Sg},Go κ.W (λa=>L.fr a\/L.ga a) τ υ->Go κ.W L.fr τ υ:=λg=>g.mono λz=>z.elim id λz=>(hga z).elim
 refine for_rule (ForI L body o) (λ{k s} ⟨i,ban,r,H,vs,e,l,P,q⟩=>?_) ⟨0,_,_,_,_,rfl,Nat.zero_le _,P,eo⟩
 cases el:L.items.drop i with
 | nil=>
  rw [el] at q
  cases q
  have hi:=Nat.le_antisymm l (List.drop_eq_nil_iff.mp el)
  subst hi
  exact P.fin λs' z=>match z with | ⟨ban,r,g,T,_,_⟩=>hR ⟨ban,r,gm g,T,.nx⟩
 | cons v l'=>
  rw [el] at q
  have hx:L.items[i]?=some v:=by
   have z:=List.getElem?_drop (xs:=L.items) (i:=i) (j:=0)
   rw [el] at z
   exact z.symm
  have hl:=(aa.mp hx).1
  have el':L.items.drop (i+1)=l':=by rw [← List.drop_drop,el];rfl
  refine bC q λo1 e1 q=>xea (hB e1) λvs1 e0 e1=>post (P.turn htp hx hp (ge_zero _) e0) λrv s1 ⟨v,ev,h1⟩=>?_
  subst ev
  refine post h1 λu1 s2 h2=>post h2 λu1 s3 P3=>post ((hb ⟨L.A,L.fr,vs1,L.R,P3.g.hs,P3.T⟩).use e1) λF s4 z=>?_
  have fin:Nxt (ForI L body o) (SP κ L.fr L.σ0 o) k F s4:=body_end q z T0 (gm P3.g) λ{ban4 r4} g4 T4 q=>by
   cases hw:(!L.lock||o1.2.2.w==H.w) with
   | false=>rw [hw] at q;exact noS q
   | true=>
    rw [hw] at q
    exact ⟨_,by rw [e];exact Nat.succ_lt_succ (Nat.sub_lt_sub_left hl (Nat.lt_succ_self _)),i+1,ban4,r4,_,_,rfl,hl,P3.body (g4.mono .inl) T4 hJ λh=>by rw [h] at hw;exact eq_of_beq hw,el'▸q⟩
  exact match F,fin with
   | .next,h=>h
   | .cont,h=>h
   | .brk,h=>hR h
   | .ret u1,h=>hR h
theorem st_for (hs:SrcOK κ itE en (evalX κ.Φ yi)) (hp:patOf mf ce t=some pt) (hb:BlkOK κ b cb):SX κ (.For t itE b [] pos) (.fors false pt en yi cb):=λ{σ} P=>by
 refine Ow.of λo eo=>wpAny_For ?_ (λx=>folded_pure hs.noSet)
 refine bC eo λs0 e0 eo=>xea (ai.mp (e0:(evalX κ.Φ yi P.vs σ.H).map _=some s0)) λq eq e'=>?_
 subst e'
 refine (src_ok (g:=λH i=>wh (small i.1.length) (loopC i.2 (λv vs h=>(bindP pt v vs).bind λvs=>execCs κ.Φ cb vs h) i.1 P.vs H)) (p:=pt) (K:=λo it s=>codeAny κ.W.m P.A (.forLoop t it b [] κ.env) (λr s'=>match r with | .ok f=>SP κ P.fr σ o f s' | .error e=>cameBackBy κ.W.m P.A κ.env NoE e s') s) hs P λi τ g htp it wr new I=>Ow.w λu1=>.of λo eo=>?_).use (a:=o) (by rw [eq];exact eo)
 have fz:∀ {b o},b∈wr->σ.s.heap.get? b≠some o:=λm e=>absurdS e (new m)
 let L:LC κ 0:=⟨P.A,P.fr,wr,i.1,i.2,en,it,σ,λu1=>False,λu1 u2=>True,P.R,λm=>⟨λf=>xe (P.T.frx P.S f) λo e=>fz m e,λe=>xe P.T.loc λu1 n=>xe (Ns.get n) λo q=>fz m (e▸q),λhx hk hc e=>xe (P.T.cell hx hk hc).1 λv ⟨o,q,u1⟩=>fz m (e▸q)⟩,new,λq=>q.elim (λf=>(P.T.frB f).2) False.elim,False.elim,λu1 u2 u3=>aO⟩
 exact for_loop (bf:=execCs κ.Φ cb) (λe=>bC e λvs1 e0 e1=>⟨vs1,e0,e1⟩) L id aO hp htp (blk_ok hb) P.T ⟨g.up,P.T.go P.S g,False.elim,aO,I⟩ eo id
end
section
variable {ce:CE} {κ:Cx ce} {σ τ:Sg} {vs:Vars} {s:Shared} {e:Expr} {pos spos py:Pos} {y:Str} {i:Nat} {f:Vars->Hp->Option (List D×Hp)} {d:List D} {a:Addr} {H:Hp}
noncomputable def Takes (W:Wd) (d:List D) (t:Hp->V×Hp):Prop:=∀ {σ a ban r H s},Gn W σ ⟨ban,r,H,s⟩->σ.s.heap.get? a=none->Gath a d ⟨ban,r,H,s⟩->ban a/\¬ Live r a->∃ ban2 r2,Gn W σ ⟨ban2,r2,(t H).2,s⟩/\Vv W ⟨ban2,r2,(t H).2,s⟩ (.ref a) (t H).1/\∀ C,ban C/\¬ Live r C->C≠a->ban2 C/\¬ Live r2 C
theorem takes_data {W:Wd}:Takes W d λH=>(.d (.list d),H):=λ{σ a ban r H s} g fa j b=>xeea j λus m e q=>
 ⟨_,r,g.close (wr:=[a]) (h':=s.heap) (tk:=s.toks) (λm=>ao.mp m▸fa) (λm=>ao.mp m▸b.2) (λm=>ao.mp m▸b.1) (λu1 e=>e),⟨a,us,m,rfl,e,notIn1,q.step ⟨λu1 e=>e,λe=>.inl e.1⟩⟩,λC h n=>⟨⟨h.1,λm=>n (ao.mp m)⟩,h.2⟩⟩
theorem takes_new {W:Wd}:Takes W d λH=>(.ref H.o.length,H.new (.list (d.map .d))):=λ{σ a ban r H s} g fa j b=>
 xa (Go.adopt g fa b.1 b.2 (j.oo (W:=W)) rfl) λg2 q2=>⟨_,_,g2,q2,λC h n=>⟨h.1,λ⟨i,e⟩=>(pushed e).elim (λe=>h.2 ⟨i,e⟩) λz=>n (aE z.2)⟩⟩
theorem asgC {t:List D->Hp->V×Hp} (L:LcOK κ e f) (hsw:swapsWith e (some (.Name y py)) spos.line κ.env=pure true) (hx:slot ce y=some i) (P:Pt κ 0 σ) (tk:∀ d,Takes κ.W d (t d)):Ow (f P.vs σ.H) λo=>wpAny κ.W.m P.A (exec (.Assign [.Name y py] e spos) κ.env) (SP κ P.fr σ (.nx,P.vs.set i (some (t o.1 o.2).1),(t o.1 o.2).2)) NoE σ.s:=by
 cases L with
 | mk sc itE t0 ifs gs pos hok hcl hns hev hu h=>
  refine Ow.mono (λo h=>?_) (h P)
  rw [exec_Assign_Name_used _ _ _ _ hsw]
  refine aL (wpAny_standAt (aL ?_))
  rw [hu]
  refine aL (post (wp_comp (Q:=λu1 s'=>SP κ P.fr σ (.nx,P.vs.set i (some (t o.1 o.2).1),(t o.1 o.2).2) .next s') hok hcl hns h λ{a C s1} q=>?_) λu1 s2 q=>aM (aM q))
  cases q with
  | mk ban r g fa j b bC n f2 z=>
   refine xeeaa (tk o.1 g fa j b) λban2 r2 g2 q hC=>xe z λm z=>?_
   have dC:=hC C bC n
   have fz:∀ {o},σ.s.heap.get? C≠some o:=λe=>absurdS e f2
   have hf:¬ P.fr C:=λf=>xe (P.T.frx P.S f) λo e=>fz e
   have one:∀ {b} {Z:Addr->Prop},Z C->b∈[C]->Z b:=λh m=>by rw [ao.mp m];exact h
   have ap:Apart κ P.fr [C]:=λm=>one (Z:=λb=>¬ P.fr b/\b≠κ.env.locals/\∀ {x n c},slot ce x=some n->κ.env.kindOf x≠some .local->κ.env.cells.lookup x=some c->b≠c) ⟨hf,λe=>xe P.T.loc λu1 n=>xe (Ns.get n) λo q=>fz (e▸q),λhx hk hc e=>xe (P.T.cell hx hk hc).1 λv ⟨o,q,u1⟩=>fz (e▸q)⟩ m
   refine wpAny_assign_Name (store_ok g2.hs (P.T.go P.S g2) hx (Nat.zero_le _) q λs3 ⟨g3,T3⟩=>⟨m,z.at' λu1 e=>g3.keep dC.2 hf e,λh' hs=>?_⟩)
   have hk:∀ {b o},b∉[C]->s3.heap.get? b=some o->h'.get? b=some o:=λnb e=>(hs.2 _ λq=>nb (q▸.head _)).trans e
   exact ⟨_,_,(g2.up.trf g3 P.T).close (wr:=[C]) (tk:=s3.toks) (one (Z:=λb=>σ.s.heap.get? b=none) f2) (one (Z:=λb=>¬ Live r2 b) dC.2) (one (Z:=ban2) dC.1) hk,T3.close ap (one (Z:=ban2) dC.1) hk,.nx⟩
theorem st_asg_lc {k:Nat} {elt it1 it2 c:X} {p1 p2:Pat} {en two hasC:Bool} (L:LcOK κ e (compEv k p1 en two p2 hasC (evalX κ.Φ it1) (evalX κ.Φ elt) (evalX κ.Φ it2) (evalX κ.Φ c))) (hsw:swapsWith e (some (.Name y py)) spos.line κ.env=pure true) (hx:slot ce y=some i):SX κ (.Assign [.Name y py] e spos) (.asg i (.comp k elt p1 en it1 two p2 it2 hasC c)):=λP=>
 .m (.m (asgC (t:=λd H=>(.d (.list d),H)) L hsw hx P λd=>takes_data))
theorem st_asgN_lc {k:Nat} {elt it1 it2 c:X} {p1 p2:Pat} {en two hasC:Bool} (L:LcOK κ e (compEv k p1 en two p2 hasC (evalX κ.Φ it1) (evalX κ.Φ elt) (evalX κ.Φ it2) (evalX κ.Φ c))) (hsw:swapsWith e (some (.Name y py)) spos.line κ.env=pure true) (hx:slot ce y=some i):SX κ (.Assign [.Name y py] e spos) (.asgN i (.comp k elt p1 en it1 two p2 it2 hasC c)):=λP=>
 .m (.m (asgC (t:=λd H=>(.ref H.o.length,H.new (.list (d.map .d)))) L hsw hx P λd=>takes_new))
theorem swaps_bool {x:Str} {p:Pos} {l:Nat} {env:Env}:∃ b,swapsWith e (some (.Name x p)) l env=pure b:=by
 cases e <;> exact ⟨_,rfl⟩
end
section
variable {W:Wd} {A:Around} {ce:CE} {κ:Cx ce} {σ τ:Sg} {E:Value->Shared->Prop} {v:Value} {x:V} {h:Heap} {ban:Addr->Prop} {r:Rho} {a b:Expr} {p p2 pos:Pos} {ya yb:X}
theorem flat_rep {α:Type} (v:α):∀ k:Nat,(List.replicate k [v]).flatten=List.replicate k v
 | 0=>rfl
 | k+1=>by rw [List.replicate_succ,List.flatten_cons,flat_rep v k];rfl
theorem VVs.rep (q:VV W h ban r v x):∀ k:Nat,VVs W h ban r (List.replicate k v) (List.replicate k x)
 | 0=>.nil
 | k+1=>.cons q (VVs.rep q k)
theorem mul_list_ok {l:Addr} {m:Nat} {k:Int} {u:Tok} (ho:σ.s.heap.get? l=some (lstO [v].toArray m)) (hk:smallI k=true) (S:HS W σ) (q:Vv W σ v x):wpAny W.m A (binaryOp .Mult (.ref l) (.int k u)) (NP W σ (.list (List.replicate k.toNat x),σ.H)) E σ.s:=by
 have hk:0<=k/\k < 60:=by simpa [smallI] using hk
 refine wpAny_binaryOp_repeat_ref (T:="list") (U:="int") (by decide) ⟨_,ho,rfl⟩ (λs'=>typeIs_int s' k u) noFill_list_mul F.fills_int_mul F.slot_int_rmul repeat_list F.slot_int_index.lookup
  (call_meets F.slot_int_rmul (typeIs_int σ.s k u) F.entry_int_rmul (F.args_int_rmul_2 _ _) (lm_int_rmul_list_any k u l [v].toArray m none #[])
   ⟨ho,rfl,⟨_,ho,rfl⟩,call_meets F.slot_list_mul ⟨_,ho,rfl⟩ F.entry_list_mul (F.args_list_mul_2 _ _)
    (lm_list_mul_any l [v].toArray m none #[] k u (by simp [Builtin.List.listFitsIndex];lia) (by simp;lia) (by simp [Builtin.List.listTooLong,sizeLine];lia))
    ⟨ho,?_⟩⟩)
 rw [listMul_foldl_if]
 simp only [flat_rep]
 exact NP.push (x:=.list (List.replicate k.toNat x)) (tk:=σ.s.toks) S rfl ⟨List.replicate k.toNat v,0,am _ rfl,VVs.step (pushX S _) (.refl _) (VVs.rep q _)⟩
theorem new_mul (ha:XE κ a ya) (hst:∀ e0 p,a≠.Starred e0 p) (hb:XE κ b yb):XN κ (.BinOp (.List [a] p) .Mult b p2) (.bin .mul (.list [ya]) yb):=λ{lo σ} P=>by
 have I:IOK κ [a] [ya]:=.cons ⟨ha,hst⟩ .nil
 refine Ow.mono (λo h=>wpAny_BinOp h) (Ow.seq (o:=evalX κ.Φ ya P.vs σ.H) (R:=λp=>NP κ.W σ (.list [p.1],p.2)) (.of λq e=>(new_list I (show 1<=20 by decide) P).use (a:=(.list [q.1],q.2)) (by show ((evalX ..).bind _).map _=_;rw [e];rfl)) λq v s' z=>?_)
 cases z with
 | mk l ban r e g fa hba hl z=>
  subst e
  refine xeea z λus m ho z=>xea (z.consE (P:=λus=>∃ u,us=[u]/\VV κ.W s'.heap ban r u q.1) λu us' qu e=>⟨u,by rw [(e:us'=[])],qu⟩) λu e qu=>?_
  subst e
  refine hb.seq (P.go g) λy τ2 g2 vb q2=>?_
  have ho2:=g2.keep hl id ho
  have q':=Go.vv g2 g.hs qu
  revert vb
  exact ow_ii λk t=>Ow.w λhk=>post (mul_list_ok ho2 hk g2.hs q') λv s3 z=>z.from (Go.tr g g2)
theorem All2.of_get {α β:Type} {R:α->β->Prop}:∀ {as:List α} {bs:List β},as.length=bs.length->(∀ (i:Nat) a b,as[i]?=some a->bs[i]?=some b->R a b)->All2 R as bs
 | [],[],_,_=>.nil
 | a::as,b::bs,l,h=>.cons (h 0 a b rfl rfl) (All2.of_get (Nat.succ.inj l) λi=>h (i+1))
theorem range_all:∀ n:Nat,n < 60->Builtin.Range.rangeSize 0 (n:Int) 1=(n:Int)/\Builtin.Range.small 0 (n:Int) 1=true:=by decide +kernel
theorem range_size {k:Int} (hk:smallI k=true):Builtin.Range.rangeSize 0 k 1=k.toNat/\Builtin.Range.small 0 k 1=true/\k.toNat < 60:=by
 obtain ⟨n,rfl⟩:=Int.eq_ofNat_of_zero_le (aw (b1 hk))
 have l:n < 60:=Int.ofNat_lt.mp (aw (b2 hk))
 rw [Int.toNat_natCast]
 exact ⟨(range_all n l).1,(range_all n l).2,l⟩
theorem items_range {k:Int} {acc:Array Value} (hi:ItemsOf (λi v=>∃ t,v=.int (0+i * 1) t) acc k.toNat):All2 IntV acc.toList ((List.range k.toNat).map λ(i:Nat)=>(i:Int)):=by
 refine All2.of_get (by rw [Array.length_toList,hi.1,aB,ay]) λi v x hv hx=>?_
 rw [Array.getElem?_toList] at hv
 refine xe (hi.2 i v hv) λt e=>?_
 have hl:i < k.toNat:=hi.1▸(Array.getElem?_eq_some_iff.mp hv).1
 rw [List.getElem?_map,List.getElem?_range hl] at hx
 cases hx
 exact ⟨t,by rw [e,Int.mul_one,Int.zero_add]⟩
theorem list_range_ok {l:Addr} {k:Int} {t u w:Tok} (hh:A.handled=none) (g:IsRange σ.s.heap l 0 k 1 t u w) (hk:smallI k=true) (S:HS W σ):wpAny W.m A (call (.type "list") [.ref l]) (NP W σ (.list ((rangeD k).map .d),σ.H)) E σ.s:=by
 refine xaa (range_size hk) λhs hz hl=>call_list_range (n:=k.toNat) hh g hz hs (by lia) λh' tk acc c hk' ha hi=>?_
 refine ⟨_,_,σ.r,rfl,Go.more (wr:=[σ.s.heap.objs.size]) S (λe=>hk' _ _ e) (λb m=>by rw [ao.mp m];exact ⟨none_size _,_,ha⟩),none_size _,.inr (.head _),λlv=>S.fresh (S.liveB lv),⟨acc.toList,c,ha,?_⟩⟩
 have z:=(items_range hi).map_right (S:=VV W h' (λa=>σ.ban a\/a∈[σ.s.heap.objs.size]) σ.r) (λi=>V.d (.int i)) λu1 u2 z=>z
 rw [aK] at z
 unfold rangeD
 rw [aK]
 exact z
theorem new_lrange {y:Str} {i:Nat} (hg:glob ce y=true) (h1:biNames[i]?=some y) (h2:biAt[i]?=some .list) (ha:XE κ a ya) (hst:∀ e0 p,a≠.Starred e0 p):XN κ (.Call (.Name y p) [a] [] pos) (.bcall .list [ya]):=λ{lo σ} P=>by
 refine xeeaaaaaa κ.O.g λmg mb n1 n2 u1 u2 u3 n3 u4=>xa (n3 i y .list h1 h2) λe3 e4=>Ow.mono (λo h=>wpAny_Call_NameR (bui_ok P.S hg n1 n2 e3 e4 h)) ?_
 have I:IOK κ [a] [ya]:=.cons ⟨ha,hst⟩ .nil
 refine Ow.be λq eq=>?_
 have e':evalXs κ.Φ [ya] P.vs σ.H=some ([q.1],q.2):=by show (evalX ..).bind _=_;rw [eq];rfl
 have z:=I.bi (pos:=pos) (g:=λs=>(one s.1).bind λx=>x.dt.bind λd=>d.rg.bind λn=>wh (smallI n) (some (O.list ((rangeD n).map .d),s.2))) (K:=NP κ.W σ) (biVal_kind .list) P λys τ g us qs=>?_
 ·rw [e'] at z;exact z
 ·revert us
  refine ow_one λx u q=>?_
  revert u
  refine ow_dt λd u q=>?_
  cases d with
  | range n=>exact Ow.w λhk=>xeeeeaa q λl t u' w e g0 nb=>by subst e;exact post (list_range_ok P.R.hd g0 hk g.hs) λv s z=>z.from g
  | _=>exact aO
end
section
variable {ce:CE} {κ:Cx ce} {σ τ:Sg} {o i o1 i1 o2 i2 e1 e2:Expr} {p p1 p2 p3 p4 pos:Pos} {k1 k2:Nat} {yo yi a1 j1 a2 j2 x1 x2:X} {v:Value} {Y:V}
theorem asgSub_ok (ho:XE κ o yo) (hi:XE κ i yi) (P:Pt κ 0 σ) (q:Vv κ.W σ v Y):Ow ((evalX κ.Φ yo P.vs σ.H).bind λx=>(evalX κ.Φ yi P.vs x.2).bind λy=>setItemV x.1 y.1 Y y.2) λH=>wpAny κ.W.m P.A (assign (.Subscript o i p) κ.env v) (λu1 s=>∃ ban r,Gn κ.W σ ⟨ban,r,H,s⟩) NoE σ.s:=by
 rw [assign_Subscript]
 exact Ow.mono (λo h=>aL (aH h)) (ho.seq P λx τ1 g1 vo q1=>Ow.mono (λo h=>aL (aH h)) (hi.seq (P.go g1) λy τ2 g2 vi q2=>
  Ow.mono (λH h=>aL (wpAny_standAt (aL (aH (post h λu1 s g=>wpAny_release ⟨_,_,Go.tr (Go.tr g1 g2) g⟩))))) (setitem_ok (P.R.room (by decide)) g2.hs q2 (Go.vv (Go.tr g1 g2) P.S q) vo (Go.vv g2 g1.hs q1))))
theorem two_vals {W:Wd} {h:Heap} {ban:Addr->Prop} {r:Rho} {us:List Value} {x y:V} (q:VVs W h ban r us [x,y]):∃ u w,us=[u,w]/\VV W h ban r u x/\VV W h ban r w y:=by
 obtain ⟨u,u1,rfl,q,w,u2,rfl,q',rfl⟩:=q
 exact ⟨u,w,rfl,q,q'⟩
theorem ite_none {c:Prop} [Decidable c] {α:Type} {t:Sem (Option α)} (h:t=pure none):(if c then pure none else t)=pure none:=by
 by_cases z:c
 ·exact aQ z
 ·exact (aP z).trans h
theorem swapped_sub {env:Env}:swappedStores [.Tuple [.Subscript o1 i1 p1,.Subscript o2 i2 p2] k1 p3] (.Tuple [e1,e2] k2 p4) env=pure none:=ite_none (ite_none (aQ rfl))
theorem st_setI2 (hs1:∀ e0 p,e1≠.Starred e0 p) (hs2:∀ e0 p,e2≠.Starred e0 p) (he1:XE κ e1 x1) (he2:XE κ e2 x2) (ho1:XE κ o1 a1) (hi1:XE κ i1 j1) (ho2:XE κ o2 a2) (hi2:XE κ i2 j2) :
  SX κ (.Assign [.Tuple [.Subscript o1 i1 p1,.Subscript o2 i2 p2] k1 p3] (.Tuple [e1,e2] k2 p4) pos) (.setI2 a1 j1 a2 j2 x1 x2):=λ{σ} P=>.of λo eo=>by
 refine bC eo λv1 c1 eo=>bC eo λv2 c2 eo=>bC eo λy1 c3 eo=>bC eo λz1 c4 eo=>bC eo λh5 c5 eo=>bC eo λy2 c6 eo=>bC eo λz2 c7 eo=>xea (ai.mp eo) λh8 c8 eo=>?_
 subst eo
 have I:IOK κ [e1,e2] [x1,x2]:=.cons ⟨he1,hs1⟩ (.cons ⟨he2,hs2⟩ .nil)
 have e':evalXs κ.Φ [x1,x2] P.vs σ.H=some ([v1.1,v2.1],v2.2):=by
  show (evalX ..).bind _=_;rw [c1];show ((evalX κ.Φ x2 P.vs v1.2).bind _).map _=_;rw [c2];rfl
 have d1:((evalX κ.Φ a1 P.vs v2.2).bind λx=>(evalX κ.Φ j1 P.vs x.2).bind λy=>setItemV x.1 y.1 v1.1 y.2)=some h5:=by rw [c3];show (evalX κ.Φ j1 P.vs y1.2).bind _=_;rw [c4];exact c5
 have d2:((evalX κ.Φ a2 P.vs h5).bind λx=>(evalX κ.Φ j2 P.vs x.2).bind λy=>setItemV x.1 y.1 v2.1 y.2)=some h8:=by rw [c6];show (evalX κ.Φ j2 P.vs y2.2).bind _=_;rw [c7];exact c8
 refine assign_arm rfl swapped_sub rfl (wpAny_Tuple (post ((items_ok I P).use e') λus s1 q=>?_))
 obtain ⟨ban1,r1,g1,q1⟩:=q
 refine ⟨by rw [All2.length q1];exact lt_line (show 2<=200000 by decide),?_⟩
 refine xeeaa (two_vals q1) λu1 u2 e w1 w2=>?_
 subst e
 refine wpAny_assign_Tuple P.R.hd ⟨_,am _ rfl,rfl,0,rfl⟩ rfl rfl λh' he=>?_
 have g3:Gn κ.W ⟨ban1,r1,v2.2,s1⟩ ⟨ban1,r1,v2.2,{ s1 with heap:=h',toks:=s1.toks }⟩:=Go.grow (tk:=s1.toks) g1.hs λe=>he _ _ (λq=>by have l:=Heap.lt_size e;rw [q] at l;dsimp only at l;rw [Heap.size_push] at l;exact absurd l (Nat.not_lt.mpr (Nat.le_succ _))) (ah _ e)
 show wpAny _ _ (holding [u2] (assign (.Subscript o1 i1 p1) κ.env u1)>>=λu1=>holding [] (assign (.Subscript o2 i2 p2) κ.env u2)>>=λu1=>pure ()) _ _ _
 refine aL (aH (post ((asgSub_ok ho1 hi1 ((P.go g1).go g3) (Go.vv g3 g1.hs w1)).use d1) λu1 s4 ⟨ban4,r4,g4⟩=>?_))
 refine aL (aH (post ((asgSub_ok ho2 hi2 (((P.go g1).go g3).go g4) (Go.vv (Go.tr g3 g4) g1.hs w2)).use d2) λu1 s5 ⟨ban5,r5,g5⟩=>aM ?_))
 exact SP.gn P (((g1.tr g3).tr g4).tr g5)
end
section
variable {W:Wd} {σ τ:Sg} {j i:Nat} {a:Addr} {v:Value} {x:V} {ce:CE} {κ:Cx ce}
theorem set_at {r:Rho} {x:Option Addr} (e:(r.set j none)[i]?=some x):(i=j/\x=none)\/(i≠j/\r[i]?=some x):=by
 by_cases q:j=i
 ·subst q
  have hl:=(aa.mp e).1
  rw [List.length_set] at hl
  rw [List.getElem?_set_self hl] at e
  exact .inl ⟨rfl,(aE e).symm⟩
 ·rw [List.getElem?_set_ne q] at e
  exact .inr ⟨λz=>q z.symm,e⟩
theorem set_live {r:Rho} {b:Addr} (e:(r.set j none)[i]?=some (some b)):i≠j/\r[i]?=some (some b):=(set_at e).elim (λz=>nomatch z.2) id
noncomputable abbrev Sg.retire (σ:Sg) (j:Nat) (a:Addr):Sg:=⟨λb=>σ.ban b/\b≠a,σ.r.set j none,⟨σ.H.o.set j .dead,σ.H.w+1⟩,σ.s⟩
theorem Go.retire (S:HS W σ) (e:σ.r[j]?=some (some a)):Gn W σ (σ.retire j a):=
 have le:σ.r.le (σ.r.set j none):=λi x f=>by
  by_cases q:j=i
  ·subst q;exact .inr (List.getElem?_set_self (aa.mp f).1)
  ·exact .inl ((List.getElem?_set_ne q).trans f)
 have oe:∀ {i},i≠j->(σ.H.o.set j .dead)[i]?=σ.H.o[i]?:=λn=>List.getElem?_set_ne (Ne.symm n)
 have X:Ex σ.s.heap σ.ban σ.s.heap λb=>σ.ban b/\b≠a:=⟨λu1 e=>e,λq=>.inl q.1⟩
 ⟨⟨_,_,rfl⟩,λu1 u2 e=>e,λq=>.inl q.1,λhb hl u1=>⟨hb,λq=>hl ⟨j,q▸e⟩⟩,le,λl=>xe l λi f=>.inl ⟨i,(set_live f).2⟩,λe=>⟨_,e⟩,
  ⟨by rw [List.length_set,List.length_set];exact S.len,λf=>(set_at f).elim (λz=>by rw [z.1];exact List.getElem?_set_self (by rw [← S.len];exact (aa.mp e).1)) λz=>(oe z.1).trans (S.gone z.2),λf g=>S.nodup (set_live f).2 (set_live g).2,
   λf g=>(S.at_ (set_live f).2 ((oe (set_live f).1).symm.trans g)).step X le λe=>e,λf=>⟨S.bans (set_live f).2,λz=>(set_live f).1 (S.nodup (set_live f).2 (z▸e))⟩,S.keep,λq=>S.lo q.1,λq=>S.hi q.1⟩,
  Nat.le_succ _,λq=>absurd q (Nat.succ_ne_self _),λq=>absurd q (Nat.succ_ne_self _)⟩
inductive FzP (W:Wd) (σ:Sg) (o:D×Hp) (v:Value):Prop
 | mk (ban:Addr->Prop) (r:Rho) (g:Gn W σ ⟨ban,r,o.2,σ.s⟩) (q:VD σ.s.heap ban v o.1)
inductive FzsP (W:Wd) (σ:Sg) (o:List D×Hp) (us:List Value):Prop
 | mk (ban:Addr->Prop) (r:Rho) (g:Gn W σ ⟨ban,r,o.2,σ.s⟩) (q:VDs σ.s.heap ban us o.1)
theorem freeze1_ok (S:HS W σ):∀ v,Vv W σ v x->Ow (freeze1 x σ.H) λo=>FzP W σ o v:=λv q=>by
 cases x with
 | d d=>exact ⟨_,_,.refl S,q⟩
 | ref j=>
  show Ow ((σ.H.o[j]?).bind λo=>o.ls.bind λxs=>(alls xs).map λl=>(D.list l,(⟨σ.H.o.set j .dead,σ.H.w+1⟩:Hp))) _
  refine Ow.be λo eo=>?_
  cases o with
  | list xs=>exact S.obj (G:=λv=>Ow ((alls xs).map λl=>(D.list l,(⟨σ.H.o.set j .dead,σ.H.w+1⟩:Hp))) λo=>FzP W σ o v) eo nofun q λa r z=>xeea z λus m g z=>Ow.m (Ow.mono (λds z=>⟨_,_,Go.retire S r,a,us,m,rfl,g,λq=>q.2 rfl,z.step ⟨λu1 e=>e,λq=>.inl q.1⟩⟩) (ow_alls z))
  | _=>exact aO
 | _=>exact aO
theorem freezes_ok:∀ {xs:List V} {us:List Value} {σ:Sg},HS W σ->Vs W σ us xs->Ow (freezes xs σ.H) λo=>FzsP W σ o us
 | [],us,σ,S,q=>⟨_,_,.refl S,q⟩
 | x::xs,us,σ,S,q=>q.consE λu us q1 q2=>Ow.b (Ow.mono (λd ⟨ban1,r1,g1,z1⟩=>Ow.m (Ow.mono (λds ⟨ban2,r2,g2,z2⟩=>⟨ban2,r2,Go.tr g1 g2,u,us,rfl,z1.step (g2.exn g1.hs),z2⟩) (freezes_ok g1.hs (Go.vvs g1 S q2)))) (freeze1_ok S u q1))
theorem freeze_ok (S:HS W σ):∀ v,Vv W σ v x->Ow (freeze x σ.H) λo=>FzP W σ o v:=λv q=>by
 cases x with
 | d d=>exact ⟨_,_,.refl S,q⟩
 | ref j=>
  show Ow ((σ.H.o[j]?).bind λo=>freezeO ⟨σ.H.o.set j .dead,σ.H.w+1⟩ o) _
  refine Ow.be λo eo=>?_
  cases o with
  | list xs=>
   refine S.obj (G:=λv=>Ow (freezeO ⟨σ.H.o.set j .dead,σ.H.w+1⟩ (.list xs)) λo=>FzP W σ o v) eo nofun q λa r z=>xeea z λus m g z=>Ow.m (Ow.mono (λds w=>?_) (freezes_ok (Go.retire S r).hs (Go.vvs (Go.retire S r) S z)))
   cases w with | mk ban2 r2 g2 z2=>exact ⟨ban2,r2,Go.tr (Go.retire S r) g2,a,us,m,rfl,g,λq=>(g2.bnew q).elim (λq=>q.2 rfl) (absurdS g),z2⟩
  | dict ks xs=>
   refine S.obj (G:=λv=>Ow (freezeO ⟨σ.H.o.set j .dead,σ.H.w+1⟩ (.dict ks xs)) λo=>FzP W σ o v) eo nofun q λa r z=>xeea z λes m D z=>Ow.m (Ow.mono (λds w=>?_) (freezes_ok (Go.retire S r).hs (Go.vvs (Go.retire S r) S z)))
   cases w with | mk ban2 r2 g2 z2=>exact ⟨ban2,r2,Go.tr (Go.retire S r) g2,a,es,m,rfl,D.step ((Go.tr (Go.retire S r) g2).exn S) D.at_,λq=>(g2.bnew q).elim (λq=>q.2 rfl) (absurdS D.at_),z2⟩
  | _=>exact aO
 | _=>exact aO
theorem st_retF {e:Expr} {pos:Pos} {y:X} (he:XE κ e y):SX κ (.Return (some e) pos) (.ret .freeze y):=λP=>by
 rw [exec_Return_some]
 exact Ow.mono (λo h=>aL (wpAny_standAt (aL h))) (he.seq P λx τ g v q=>Ow.m (Ow.mono (λd ⟨ban,r,g2,z⟩=>aM ⟨ban,r,(Go.tr g g2).up,P.T.go P.S (Go.tr g g2),.ret z⟩) (freeze_ok g.hs v q)))
end
section
variable {ce:CE} {κ:Cx ce} {x:Str} {pn pos:Pos} {t:Expr} {b:List Stmt} {pt:Pat} {mf i:Nat} {en:Bool} {cb:List C}
theorem join_some {α:Type} {o:Option (Option α)} {a:α} (h:o.join=some a):o=some (some a):=by
 cases o with
 | none=>exact noS h
 | some o=>exact aN some h
theorem st_forF (hs:SrcOK κ (.Name x pn) en (evalX κ.Φ (.var i))) (hx:slot ce x=some i) (hp:patOf mf ce t=some pt) (hb:BlkOK κ b cb):SX κ (.For t (.Name x pn) b [] pos) (.fors true pt en (.var i) cb):=λ{σ} P=>.of λo eo=>by
 refine bC eo λs0 e0 eo=>bC (e0:((P.vs[i]?).join).bind _=some s0) λX e1 e0=>xea (ai.mp e0) λd ed es=>?_
 subst es
 have hX:=join_some e1
 refine xea (P.T.vars hx hX) λu q1 q2=>?_
 cases (freeze_ok P.S u q2).use ed with
 | mk ban1 r1 g z=>
  have T0:=P.T.go P.S g
  have T1:VS κ 0 P.fr ⟨ban1,r1,d.2,σ.s⟩ (P.vs.set i (some (.d d.1))):={ T0 with
   len:=(List.length_set ..).trans T0.len
   vars:=λ{y k Y} e f=>(set_get f).elim (λ⟨h1,h2⟩=>by subst h1;subst h2;cases κ.N.inj _ _ _ hx e;exact ⟨u,q1,z⟩) λz=>T0.vars e z.2 }
  have e5:execC κ.Φ (.fors false pt en (.var i) cb) (P.vs.set i (some (.d d.1))) d.2=some o:=by
   show (forSrc false (.var i) (evalX κ.Φ (.var i)) (P.vs.set i (some (.d d.1))) d.2).bind _=_
   rw [show forSrc false (.var i) (evalX κ.Φ (.var i)) (P.vs.set i (some (.d d.1))) d.2=some (.d d.1,P.vs.set i (some (.d d.1)),d.2) from by
    show Option.map _ (Option.map _ ((P.vs.set i (some (.d d.1)))[i]?).join)=_
    rw [List.getElem?_set_self (aa.mp hX).1];rfl]
   exact eo
  exact post ((st_for hs hp hb ⟨P.A,P.fr,P.vs.set i (some (.d d.1)),P.R,g.hs,T1⟩).use e5) λF s q=>q.from P.T g.up
end
section
variable {ce:CE} {κ:Cx ce} {A:Around} {fr:Addr->Prop} {lo:Nat} {σ:Sg} {vs:Vars}
theorem new_ev {t:Sem Value} {f:Vars->Hp->Option (O×Hp)} (h:NOK κ t f):EOK κ t (λvs h=>(f vs h).map λp=>(V.ref p.2.o.length,p.2.new p.1)):=λP=>.m (Ow.mono (λo h=>post h λv s q=>q.adopt) (h P))
inductive ParsOK (κ:Cx ce):List Expr->List Bool->List X->Prop
 | nil:ParsOK κ [] [] []
 | cons {e:Expr} {b:Bool} {x:X} {es:List Expr} {bs:List Bool} {xs:List X} (h:EOK κ (eval e κ.env) (parOne b (evalNew κ.Φ x) (evalX κ.Φ x))) (hs:∀ e0 p,e≠.Starred e0 p) (r:ParsOK κ es bs xs):ParsOK κ (e::es) (b::bs) (x::xs)
theorem parOne_ok {e:Expr} {b:Bool} {x:X} (ho:b=false->XE κ e x) (hn:b=true->XN κ e x):EOK κ (eval e κ.env) (parOne b (evalNew κ.Φ x) (evalX κ.Φ x)):=match b,ho,hn with
 | false,ho,_=>ho rfl
 | true,_,hn=>new_ev (hn rfl)
inductive PsP (W:Wd) (σ:Sg) (n:Nat) (o:List V×Hp) (us:List Value) (s:Shared):Prop
 | mk (ban:Addr->Prop) (r:Rho) (g:Gn W σ ⟨ban,r,o.2,s⟩) (q:VVs W s.heap ban r us o.1) (l:us.length=n)
theorem pars_ok {es:List Expr} {bs:List Bool} {xs:List X} {pos:Pos} (I:ParsOK κ es bs xs):∀ {σ} (P:Pt κ lo σ),Ow (evalPar κ.Φ bs xs P.vs σ.H) λo=>wpAny κ.W.m P.A (spliced (backTo pos (starEach es κ.env))) (PsP κ.W σ es.length o) NoE σ.s:=by
 induction I with
 | nil=>exact λP=>wpAny_items_nil ⟨_,_,.refl P.S,.nil,rfl⟩
 | cons h hs r ih=>
  exact λP=>Ow.mono (λo h=>wpAny_items_cons h (starEach_cons hs)) (h.seq P λy τ g v q=>Ow.m (Ow.mono (λo h=>post h λus s ⟨ban,r,g2,q2,l⟩=>⟨ban,r,Go.tr g g2,.cons (Go.vv g2 g.hs q) q2,aN (·+1) l⟩) (ih (P.go g))))
noncomputable def ActOK (κ:Cx ce) (f:Value->Sem Unit) (k:Nat):Prop:=∀ {A:Around} {fr:Addr->Prop} {σ:Sg} {vs:Vars} {v:Value} {X:V},HS κ.W σ->VS κ 0 fr σ vs->Vv κ.W σ v X->wpAny κ.W.m A (f v) (λu1 s=>SetTo κ 0 fr σ (vs.set k (some X)) s) NoE σ.s
theorem acts_ok {fs:List (Value->Sem Unit)} {ks:List Nat} (a:All2 (ActOK κ) fs ks):∀ {us:List Value} {ys:List V} {σ:Sg} {vs:Vars},us.length=fs.length->HS κ.W σ->VS κ 0 fr σ vs->Vs κ.W σ us ys->wpAny κ.W.m A (assignInOrder fs us) (λu1 s=>SetTo κ 0 fr σ (setAll ks ys vs) s) NoE σ.s:=by
 refine All2.ind (P:=λfs ks=>∀ {us:List Value} {ys:List V} {σ:Sg} {vs:Vars},us.length=fs.length->HS κ.W σ->VS κ 0 fr σ vs->Vs κ.W σ us ys->wpAny κ.W.m A (assignInOrder fs us) (λu1 s=>SetTo κ 0 fr σ (setAll ks ys vs) s) NoE σ.s) a (λ{us ys σ vs} l S T q=>?_) (λf k fs ks a1 u1 ih {us ys σ vs} l S T q=>?_)
 ·cases us with
  | nil=>exact aM ⟨.refl S,T⟩
  | cons=>cases l
 ·cases us with
  | nil=>cases l
  | cons u us=>cases ys with
   | nil=>cases (q:u::us=[])
   | cons y ys=>
    obtain ⟨u1,u2,e,q1,q2⟩:=q
    cases e
    show wpAny _ _ (holding us (f u)>>=λu1=>assignInOrder fs us) _ _ _
    exact aL (aH (post (a1 S T q1) λu1 s2 ⟨g2,T2⟩=>post (ih (Nat.succ.inj l) g2.hs T2 (VVs.step (g2.exF S λf=>(T.frB f).1) (.refl _) q2)) λu1 s3 ⟨g3,T3⟩=>⟨g2.trf g3 T,T3⟩))
theorem binds_act:∀ {xs:List Str} {ks:List Nat},xs.mapM (slot ce)=some ks->All2 (ActOK κ) (xs.map λn=>bindName κ.env n) ks
 | [],_,h=>by cases h;exact .nil
 | x::xs,_,h=>xeeaa (mapM_cons_some h) λk ks h1 h2 e=>by
  subst e
  exact .cons (λS T q=>wpAny_bindName (store_ok S T h1 (Nat.zero_le _) q λu1 z=>z)) (binds_act h2)
theorem nameOf_some {e:Expr} {x:Str} (h:nameOf e=some x):∃ p,e=.Name x p:=by
 cases e <;> first | exact noS h | (cases h;exact ⟨_,rfl⟩)
theorem names_act:∀ {ts:List Expr} {xs:List Str} {ks:List Nat},ts.mapM nameOf=some xs->xs.mapM (slot ce)=some ks->All2 (ActOK κ) ((assignEach ts κ.env).map (·.2)) ks/\(assignEach ts κ.env).length=ts.length/\(assignEach ts κ.env).findIdx? (·.1)=none
 | [],_,_,h,h'=>by cases h;cases h';exact ⟨.nil,rfl,rfl⟩
 | t::ts,_,_,h,h'=>xeeaa (mapM_cons_some h) λx xs h1 h2 e=>by
  subst e
  refine xeeaa (mapM_cons_some h') λk ks h3 h4 e=>xe (nameOf_some h1) λp e'=>?_
  subst e;subst e'
  refine xaa (names_act h2 h4) λi1 i2 i3=>⟨.cons (λS T q=>assign_Name (store_ok S T h3 (Nat.zero_le _) q λu1 z=>z)) i1,aN (·+1) i2,?_⟩
  show ((false,_)::assignEach ts κ.env).findIdx? _=none
  rw [List.findIdx?_cons,i3];rfl
end
section
variable {ce:CE} {κ:Cx ce} {ts es:List Expr} {k k2:Nat} {tp p pos:Pos} {names xs:List Str} {ks:List Nat} {bs:List Bool} {ys:List X} {env:Env}
theorem grown {W:Wd} {σ:Sg} {ob:Obj} {h':Heap} (S:HS W σ) (he:∀ (b:Addr) (o:Obj),b≠(σ.s.heap.push ob).objs.size->(σ.s.heap.push ob).get? b=some o->h'.get? b=some o):Gn W σ (σ.to h' σ.s.toks):=
 Go.grow S λe=>he _ _ (λq=>by have l:=Heap.lt_size e;rw [q,Heap.size_push] at l;exact absurd l (Nat.not_lt.mpr (Nat.le_succ _))) (ah _ e)
theorem par_swapped (hw:swappedStores [.Tuple ts k tp] (.Tuple es k2 p) κ.env=pure (some names)) (hl:es.length<=20) (hn:es.length=names.length) (hk:names.reverse.mapM (slot ce)=some ks.reverse) (hlk:ks.length=names.length)
  (hset:∀ (ys:List V) (vs:Vars),ys.length=ks.length->setAll ks.reverse ys.reverse vs=setAll ks ys vs) (I:ParsOK κ es bs ys):SX κ (.Assign [.Tuple ts k tp] (.Tuple es k2 p) pos) (.par ks bs ys):=λP=>by
 refine .m (Ow.mono (λo h=>Assign_Tuple_swapped (names:=names) (wpAny_Tuple (post h λus s1 z=>?_)) rfl hw) (pars_ok I P))
 cases z with
 | mk ban r g q l=>
  refine ⟨by rw [l];exact lt_line (aI hl (by decide)),?_⟩
  rw [show names.length=us.toArray.size by rw [szA,l,hn]]
  refine wpAny_unpackItems_tuple P.R.hd ⟨_,am _ rfl,rfl,0,rfl⟩ λh' he=>?_
  have g3:=grown g.hs he
  refine post (acts_ok (binds_act hk) (us:=us.toArray.toList.reverse) (ys:=o.1.reverse) (by rw [aB,List.length_reverse,List.length_reverse,l,hn]) g3.hs (P.T.go P.S (Go.tr g g3)) (All2.reverse (Go.vvs g3 g.hs q))) λu1 s4 z=>?_
  rw [hset o.1 P.vs (by rw [← All2.length q,l,hn,hlk])] at z
  exact SP.set P (Go.tr g g3) z
theorem par_plain (hw:swappedStores [.Tuple ts k tp] (.Tuple es k2 p) κ.env=pure none) (hl:es.length<=20) (hn:es.length=ts.length) (hx:ts.mapM nameOf=some xs) (hk:xs.mapM (slot ce)=some ks) (I:ParsOK κ es bs ys):SX κ (.Assign [.Tuple ts k tp] (.Tuple es k2 p) pos) (.par ks bs ys):=λP=>by
 refine .m (Ow.mono (λo h=>Assign_Tuple (wpAny_Tuple (post h λus s1 z=>?_)) rfl hw) (pars_ok I P))
 cases z with
 | mk ban r g q l=>
  refine ⟨by rw [l];exact lt_line (aI hl (by decide)),?_⟩
  refine xaa (names_act (κ:=κ) hx hk) λa1 a2 a3=>?_
  refine wpAny_assign_Tuple P.R.hd ⟨_,am _ rfl,rfl,0,rfl⟩ (by rw [a2,szA,l,hn]) a3 λh' he=>?_
  have g3:=grown g.hs he
  exact post (acts_ok a1 (us:=us.toArray.toList) (by rw [aB,a2];exact l.trans hn) g3.hs (P.T.go P.S (Go.tr g g3)) (Go.vvs g3 g.hs q)) λu1 s4 z=>SP.set P (Go.tr g g3) z
theorem names_filter {f:Expr->Option Str} (hf:∀ {e x},f e=some x->nameOf e=some x):∀ {ts:List Expr} {xs:List Str},ts.mapM nameOf=some xs->(ts.filterMap f).length=ts.length->ts.filterMap f=xs
 | [],_,h,_=>by cases h;rfl
 | t::ts,_,h,hl=>xeeaa (mapM_cons_some h) λx r h1 h2 e=>by
  subst e
  rw [List.filterMap_cons] at hl ⊢
  cases q:f t with
  | none=>
   rw [q] at hl
   exact absurd (Nat.le_of_eq hl.symm) (Nat.not_le.mpr (Nat.lt_succ_of_le (List.length_filterMap_le f ts)))
  | some y=>
   rw [q] at hl
   cases h1.symm.trans (hf q)
   exact aN (x::·) (names_filter hf h2 (Nat.succ.inj hl))
theorem sw_cases (h:ts.mapM nameOf=some xs) (hc:es.all (constantsAlone 8)=false):swappedStores [.Tuple ts k tp] (.Tuple es k2 p) env=pure none\/swappedStores [.Tuple ts k tp] (.Tuple es k2 p) env=pure (some xs):=by
 unfold swappedStores
 dsimp only
 split
 ·exact .inl rfl
 split
 ·exact .inl rfl
 split
 ·exact .inl rfl
 rename_i hn
 split
 ·exact .inl rfl
 rw [hc]
 simp only [Bool.false_eq_true,if_false]
 refine .inr ?_
 rw [names_filter ?_ h]
 ·simp only [Bool.or_eq_true,not_or,bne_iff_ne,ne_eq,Decidable.not_not] at hn
  exact hn.1
 ·intro e x he
  split at he
  ·split at he
   ·cases he;rfl
   ·exact noS he
  ·exact noS he
theorem setAll2 {a b:Nat} {x y:V} {vs:Vars} (h:a≠b):setAll [b,a] [y,x] vs=setAll [a,b] [x,y] vs:=List.set_comm _ _ (Ne.symm h)
theorem setAll3 {a b c:Nat} {x y z:V} {vs:Vars} (h1:a≠b) (h2:a≠c) (h3:b≠c):setAll [c,b,a] [z,y,x] vs=setAll [a,b,c] [x,y,z] vs:=by
 show ((vs.set c _).set b _).set a _=((vs.set a _).set b _).set c _
 rw [List.set_comm _ _ (Ne.symm h3),List.set_comm _ _ (Ne.symm h2),List.set_comm _ _ (Ne.symm h1)]
theorem len2 {α:Type} {l:List α} (h:l.length=2):∃ a b,l=[a,b]:=by
 cases l with
 | nil=>cases h
 | cons a l=>cases l with
  | nil=>cases h
  | cons b l=>cases l with
   | nil=>exact ⟨a,b,rfl⟩
   | cons=>cases h
theorem len3 {α:Type} {l:List α} (h:l.length=3):∃ a b c,l=[a,b,c]:=by
 cases l with
 | nil=>cases h
 | cons a l=>exact xee (len2 (Nat.succ.inj h)) λb c e=>⟨a,b,c,by rw [e]⟩
theorem rev_slots (hl:xs.length=2\/xs.length=3) (hk:xs.mapM (slot ce)=some ks):xs.reverse.mapM (slot ce)=some ks.reverse:=by
 rcases hl with hl | hl
 ·refine xee (len2 hl) λa b e=>?_
  subst e
  refine xeeaa (mapM_cons_some hk) λx r h1 h2 e=>?_
  subst e
  refine xeeaa (mapM_cons_some h2) λy r h3 h4 e=>?_
  subst e;cases h4;simp [h1,h3]
 ·refine xeee (len3 hl) λa b c e=>?_
  subst e
  refine xeeaa (mapM_cons_some hk) λx r h1 h2 e=>?_
  subst e
  refine xeeaa (mapM_cons_some h2) λy r h3 h4 e=>?_
  subst e
  refine xeeaa (mapM_cons_some h4) λz r h5 h6 e=>?_
  subst e;cases h6;simp [h1,h3,h5]
theorem rev_set (hl:ks.length=2\/ks.length=3) (nd:ks.Nodup) (ys:List V) (vs:Vars) (hy:ys.length=ks.length):setAll ks.reverse ys.reverse vs=setAll ks ys vs:=by
 rcases hl with hl | hl
 ·refine xee (len2 hl) λa b e=>xee (len2 (hy.trans hl)) λx y e'=>?_
  subst e;subst e'
  simp only [List.nodup_cons,aG,aA,or_false] at nd
  exact setAll2 nd.1
 ·refine xeee (len3 hl) λa b c e=>xeee (len3 (hy.trans hl)) λx y z e'=>?_
  subst e;subst e'
  simp only [List.nodup_cons,aG,aA,or_false,not_or] at nd
  exact setAll3 nd.1.1 nd.1.2 nd.2.1
theorem par_ok (hl:ts.length=2\/ts.length=3) (hn:es.length=ts.length) (hc:es.all (constantsAlone 8)=false) (hx:ts.mapM nameOf=some xs) (hk:xs.mapM (slot ce)=some ks) (nd:ks.Nodup) (I:ParsOK κ es bs ys):SX κ (.Assign [.Tuple ts k tp] (.Tuple es k2 p) pos) (.par ks bs ys):=by
 have hle:es.length<=20:=by rw [hn];exact hl.elim (λe=>by rw [e];decide) λe=>by rw [e];decide
 rcases sw_cases (env:=κ.env) (k:=k) (k2:=k2) (tp:=tp) (p:=p) hx hc with hw | hw
 ·exact λ{σ} P=>par_plain hw hle hn hx hk I P
 ·have l1:=mapM_length hx
  have l2:=mapM_length hk
  rw [l1] at hl
  exact λ{σ} P=>par_swapped (names:=xs) hw hle (hn.trans l1) (rev_slots hl hk) l2.symm (rev_set (l2▸hl) nd) I P
end
section
variable {ce:CE} {κ:Cx ce} {a b c:Expr} {p:Pos} {xa xb xc:X} {o1 o2:COp}
theorem tst_ite (hc:XT κ c xc) (ha:XT κ a xa) (hb:XT κ b xb):XT κ (.IfExp c a b p) (.ite xc xa xb):=λP=>by
 have e0:isTrue (.IfExp c a b p) κ.env (eval (.IfExp c a b p) κ.env)=(do if ← isTrue c κ.env (eval c κ.env) then isTrue a κ.env (eval a κ.env) else isTrue b κ.env (eval b κ.env)):=rfl
 rw [e0]
 refine Ow.mono (λo h=>aL h) (Ow.assoc (hc.seq P λb τ g=>?_))
 cases b with
 | true=>exact Ow.mono (λo h=>post h λu1 u2 q=>q.from g) (ha (P.go g))
 | false=>exact Ow.mono (λo h=>post h λu1 u2 q=>q.from g) (hb (P.go g))
theorem tst_chain (ha:XE κ a xa) (hb:XE κ b xb) (hc:XE κ c xc) (hm:behindInMarks (copTo o2) c=false):XT κ (.Compare a [copTo o1,copTo o2] [b,c] p) (.chain o1 o2 xa xb xc):=λP=>by
 have e0:isTrue (.Compare a [copTo o1,copTo o2] [b,c] p) κ.env (eval (.Compare a [copTo o1,copTo o2] [b,c] p) κ.env)=(do
   let left ← eval a κ.env
   let rv ← holding [left] (eval b κ.env)
   standAt p
   let c1 ← holding [left,rv] (compareOp (copTo o1) left rv)
   release [left,rv] [c1]
   if ← holding [c1,rv] (truthy c1) then (do
    let rv2 ← holding [rv] (markedBehindIn (copTo o2) c (eval c κ.env))
    standAt p
    let c2 ← operate [rv,rv2] (compareOp (copTo o2) rv rv2)
    holding [c2] (truthy c2)) else pure false):=rfl
 rw [e0]
 refine Ow.mono (λo h=>aL h) (Ow.as (ha.seq P λx τ1 g1 va q1=>Ow.as (Ow.mono (λo h=>aL (aH h)) (hb.seq (P.go g1) λy τ2 g2 vb q2=>Ow.as (Ow.be λt et=>?_)))))
 refine Ow.mono (λo h=>aL (wpAny_standAt (aL (aH ((cmp_ok (Q:=λu1=>_) P.R.c80 g2.hs va (Go.vv g2 g1.hs q1) vb q2).use et h))))) (Ow.all λtk=>?_)
 have gt:Gn κ.W τ2 (τ2.to τ2.s.heap tk):=Go.toks g2.hs
 refine Ow.mono (λo h=>aL (wpAny_release (aL (aH (wpAny_of_eq (rfl:truthy (.bool _)=pure _) h))))) ?_
 cases t with
 | false=>exact aM ⟨rfl,_,_,Go.tr (Go.tr g1 g2) gt⟩
 | true=>
  rw [aQ rfl,markedBehindIn_of_false hm]
  refine Ow.mono (λo h=>aL (aH h)) (Ow.as (hc.seq (((P.go g1).go g2).go gt) λz τ3 g3 vc q3=>Ow.b (Ow.me λb eb=>?_)))
  exact aL (wpAny_standAt (aL (wpAny_operating ((cmp_ok (Q:=λu1=>_) P.R.c80 g3.hs vb (Go.vv g3 gt.hs (Go.vv gt g2.hs q2)) vc q3).use eb λtk=>aH (wpAny_of_eq (rfl:truthy (.bool _)=pure _) ⟨rfl,_,_,Go.tr (Go.tr (Go.tr (Go.tr g1 g2) gt) g3) (Go.toks g3.hs)⟩)))))
end
theorem idxOf_some {l:List Str} {x:Str} {i:Nat} (h:idxOf l x=some i):l[i]?=some x:=by
 unfold idxOf at h
 exact xea (List.findIdx?_eq_some_iff_getElem.mp h) λl e u1=>(ad l).trans (aN some (eq_of_beq e))
theorem fld_name {f:Nat} {x:Str} (h:fldNames[f]?=some x):x=fldStr f:=
 have this:∀ f:Fin 13,fldNames[f.val]?=some (fldStr f.val):=by decide +kernel
 aE (h.symm.trans (this ⟨f,(aa.mp h).1⟩))
theorem meth_name {m:Nat} {x:Str} (h:methNames[m]?=some x):x=methStr m:=
 have this:∀ f:Fin 12,methNames[f.val]?=some (methStr f.val):=by decide +kernel
 aE (h.symm.trans (this ⟨m,(aa.mp h).1⟩))
theorem bm_name {i:Nat} {x:Str} {b:BM} (h:bmNames[i]?=some x) (h2:bmAt[i]?=some b):x=bmStr b:=by
 match i,(aa.mp h).1 with
 | 0,_=>cases h;cases h2;rfl
 | 1,_=>cases h;cases h2;rfl
 | 2,_=>cases h;cases h2;rfl
 | 3,_=>cases h;cases h2;rfl
section
variable {W:Wd} {A:Around} {E:Value->Shared->Prop} {σ:Sg} {s:Shared} {us:List Value} {ys:List V} {x:V} {b:BI}
noncomputable def BO (W:Wd) (b:BI):Prop:=∀ {n ys A σ},Room n A->HS W σ->∀ us,Vs W σ us ys->Ow (bcallV b ys σ.H) λz=>wpAny W.m A (call (biVal b) us) (EP W σ (z,σ.H)) NoE σ.s
theorem range_new {h:Heap} {i:Int} {t u w:Tok}:IsRange (h.push { cls:=.type "range",data:=.fields #[.int 0 u,.int i t,.int 1 w] }) h.objs.size 0 i 1 u t w:=am _ rfl
theorem bo_range:BO W .range:=λR S=>ow_one λx u q=>by
 revert u
 exact ow_ii λi t=>Ow.w λu1=>call_range_1 (EP.push (x:=.d (.range i)) S ⟨_,_,_,_,rfl,range_new,S.fresh⟩)
theorem bo_int:BO W .int:=λR S=>ow_one λx u q=>by
 revert u
 refine ow_dt λd u q=>?_
 cases d with
 | int i=>exact xe q λt e=>e▸call_int_int (EP.here (x:=.d (.int i)) S ⟨t,rfl⟩)
 | bool b=>cases (q:u=_);exact call_int_bool (EP.int S)
 | _=>exact aO
theorem lt_1000 {n:Nat} (h:decide (n < 1000)=true):n < 1000:=aw h
theorem lt_big {n:Nat} (h:n < 1000):(n:Int) < 2 ^ 63:=by lia
theorem len_at {a:Addr} {us:List Value} {m k:Nat} (S:HS W σ) (g:σ.s.heap.get? a=some (lstO us.toArray m)) (e:us.length=k) (h:decide (k < 1000)=true):wpAny W.m A (call (.builtin "len") [.ref a]) (EP W σ (.d (.int (k:Int)),σ.H)) NoE σ.s:=by
 subst e
 exact call_len_list (IsL.list g) (lt_big (lt_1000 h)) (EP.int S)
theorem bo_len:BO W .len:=λ{n ys A σ} R S=>ow_one λx u q=>.m (by
 revert u
 refine ow_see (f:=λd=>(lenD d).bind λn=>wh (decide (n < 1000)) (some n)) (g:=λo=>o.ls.bind λxs=>wh (decide (xs.length < 1000)) (some xs.length)) (Q:=λv n=>wpAny W.m A (call (.builtin "len") [v]) (EP W σ (.d (.int (n:Int)),σ.H)) NoE σ.s) S (by cases x <;> rfl) (λd v q=>?_) (λj o a hd hr z=>?_) rfl
 ·cases d with
  | list l=>exact xeeeaaa q λa us m e g u1 z=>Ow.w λh=>e▸len_at S g z.length h
  | iset l=>
   obtain ⟨a,es,ep,t,rfl,g,nb,e,f⟩:=q
   exact Ow.w λh=>call_len_set g ⟨rfl,rfl,rfl⟩ rfl f (lt_big (e▸lt_1000 h)) (e▸EP.int S)
  | _=>exact aO
 ·cases o with
  | list l=>exact xeea z λus m g z=>Ow.w λh=>len_at S g z.length h
  | _=>exact aO)
noncomputable def val2 (a b:Int):Nat->Int
 | 0=>a
 | _=>b
theorem at2 {a b:Int} {t u:Tok}:∀ (i:Nat) (v:Value),#[Value.int a t,.int b u][i]?=some v->∃ t,v=.int (val2 a b i) t
 | 0,_,h=>⟨t,(aE h).symm⟩
 | 1,_,h=>⟨u,(aE h).symm⟩
 | u1+2,_,h=>noS h
theorem ite_dec {α:Type} (c:Prop) [Decidable c] {a b:α}:(if c then a else b)=if decide c=true then a else b:=by by_cases h:c <;> simp [h]
theorem two_walk {op:CmpOp} {bt:Nat->Nat->Bool} {a b:Int} {t u:Tok} {r:Int} (S:HS W σ) (hh:A.handled=none) (hc:CmpOf W.prog W.w A.in1 op (λi v=>#[Value.int a t,.int b u][i]?=some v) bt) (hr:r=if bt 1 0 then b else a) :
  wpAny W.m A.in1 (pyIter (.ref σ.s.heap.objs.size)) (λit s₂=>∃ I fp wr n P St bt,it=.ref I/\Walks W.prog W.w A.in1 I fp wr n P St/\St 0 s₂.heap/\(∀ b∈fp,b < s₂.heap.objs.size)/\0 < n/\CmpOf W.prog W.w A.in1 op P bt /\
   ∀ v h' tk,P (argBest bt (n - 1)) v->(∀ b o,b∉wr->s₂.heap.get? b=some o->h'.get? b=some o)->EP W σ (.d (.int r),σ.H) v { s₂ with heap:=h',toks:=tk }) E
   {σ.s with heap:=σ.s.heap.push { cls:=.type "tuple",data:=.seq #[.int a t,.int b u] } }:=by
 have hT:(σ.s.heap.push { cls:=.type "tuple",data:=.seq #[.int a t,.int b u] }).IsTuple σ.s.heap.objs.size #[.int a t,.int b u]:=⟨_,am _ rfl,rfl,0,rfl⟩
 have hsz:(σ.s.heap.push { cls:=.type "tuple",data:=.seq #[.int a t,.int b u] }).objs.size=σ.s.heap.objs.size+1:=Heap.size_push ..
 refine wpAny_pyIter_tuple hT ⟨_,_,_,2,_,_,bt,rfl,Walks.tuple (A:=A.in1) hh _ σ.s.heap.objs.size (by rw [hsz];exact Nat.ne_of_lt (Nat.lt_succ_self _)) #[.int a t,.int b u],⟨⟨_,am _ rfl,rfl,rfl⟩,hT.push _⟩,λd hd=>?_,Nat.zero_lt_succ 1,hc,λv h' tk hP hk=>?_⟩
 ·show d < ((σ.s.heap.push _).push _).objs.size
  rw [Heap.size_push]
  exact (aG.mp hd).elim (λe=>e▸Nat.lt_succ_self _) λhd=>(ao.mp hd)▸Nat.lt_succ_of_lt (hsz▸Nat.lt_succ_self _)
 ·have hv:IntV v r:=by
   subst hr
   revert hP
   show #[Value.int a t,.int b u][if bt 1 0 then 1 else 0]?=some v->_
   cases bt 1 0 with
   | true=>exact λe=>⟨u,(aE e).symm⟩
   | false=>exact λe=>⟨t,(aE e).symm⟩
  exact EP.grow (x:=.d (.int r)) S (λ{d o} e=>hk d o (λhm=>absurd (Heap.lt_size e) (by rw [ao.mp hm,hsz];exact Nat.not_lt.mpr (Nat.le_succ _))) (ah _ (ah _ e))) hv
theorem max_two {i j:Int} {t u:Tok} (S:HS W σ) (hh:A.handled=none):wpAny W.m A (call (.builtin "max") [.int i t,.int j u]) (EP W σ (.d (.int (if i < j then j else i)),σ.H)) E σ.s:=
 call_max_two (two_walk S hh (CmpOf.ints_gt (val2 i j) at2) (ite_dec _))
theorem min_two {i j:Int} {t u:Tok} (S:HS W σ) (hh:A.handled=none):wpAny W.m A (call (.builtin "min") [.int i t,.int j u]) (EP W σ (.d (.int (if j < i then j else i)),σ.H)) E σ.s:=
 call_min_two (two_walk S hh (CmpOf.ints_lt (val2 i j) at2) (ite_dec _))
theorem bo_max:BO W .max:=λ{n ys A σ} R S us q=>.m (by
 revert us
 refine ow_two λx y u qu w qw=>?_
 exact ow_arI (f:=λa b=>some (if a < b then b else a)) (Q:=λu w r=>wpAny W.m A (call (.builtin "max") [u,w]) (EP W σ (.d (.int r),σ.H)) NoE σ.s) (λi t j t'=>max_two S R.hd) u qu w qw)
structure New2 (h:Heap) (o1 o2:Obj) (a b:Addr) (h2:Heap):Prop where
 ga:h2.get? a=some o1
 gb:h2.get? b=some o2
 k:∀ {c o},h.get? c=some o->h2.get? c=some o
 na:h.get? a=none
 nb:h.get? b=none
 ne:b≠a
theorem new2 {h:Heap} {o1 o2:Obj} (f1:o1.isFreed=false) (f2:o2.isFreed=false):New2 h o1 o2 h.objs.size (h.push o1).objs.size ((h.push o1).push o2):=
 ⟨ah _ (am _ f1),am _ f2,λe=>ah _ (ah _ e),none_size h,Heap.get?_none_of_le (by rw [Heap.size_push];exact Nat.le_succ _),by rw [Heap.size_push];exact Nat.succ_ne_self _⟩
noncomputable def mFail {α:Type} (S:Addr) (l:List Value) (m:Sem α):Sem α:=m.tryCatch λe=>do
 updateSeq S λu1=>#[]
 letGo l [e]
 throw e
noncomputable abbrev mCode (I S:Addr):Code:=.builtin "min.loop" ⟨[.ref I,.none,.ref S],[]⟩
noncomputable def mCmp (v vb:Value):Sem Bool:=do
 let answer ← richCompare .Lt v vb
 let yes ← holding [answer] (truthy answer)
 letGo [answer]
 pure yes
noncomputable def mItem (I S:Addr) (old:List Value):Option Value->Sem Fin
 | none=>match old,([]:List (Str×Value)) with
  | [a,b],_=>do updateSeq S λu1=>#[];letGo [b] [a];ret a
  | _,(u1,d)::_=>do rule (toString "min"++toString ".default");ret d
  | _,[]=>do rule (toString "min"++toString ".empty");raiseError "ValueError" (toString "min"++toString "() iterable argument is empty")
 | some v=>do
  let v' ← pure v
  match old with
  | [a,b]=>do
   let better ← mFail S ([v',v]++old.reverse) (holding [v,v'] (mCmp v' b))
   if better then do
    updateSeq S λu1=>#[v,v']
    letGo [b,a]
    again (mCode I S)
   else do
    letGo [v,v']
    again (mCode I S)
  | _=>do
   updateSeq S λu1=>#[v,v']
   again (mCode I S)
noncomputable def mK (I S:Addr) (o:Option (Array Value)):Sem Fin:=mFail S (o.getD #[]).toList.reverse (pyNext (.ref I))>>=mItem I S (o.getD #[]).toList
section
variable {I S:Addr} {v vb:Value} {c:Nat} {Q:PySem.Fin->Shared->Prop} {us:List Value}
theorem mRun (hS:s.heap.get? S=some (lstO us.toArray c)) (h:wpAny W.m A (mFail S us.reverse (pyNext (.ref I))) (λo s=>wpAny W.m A (mItem I S us o) Q E s) E s):wpAny W.m A (Builtin.«min.loop» ⟨[.ref I,.none,.ref S],[]⟩) Q E s:=by
 show wpAny W.m A (seqItems? (.ref S)>>=mK I S) Q E s
 exact aL (wpAny_seqItems hS rfl (aL h))
theorem mEnd (hS:s.heap.get? S=some (lstO #[vb,vb] c)) (h:Q (.done (.ret vb)) { s with heap:=s.heap.update S (Obj.mapSeq λu1=>#[]) }):wpAny W.m A (mItem I S [vb,vb] none) Q E s:=
 aL (wpAny_updateSeq hS rfl (aL (wpAny_letGo (aM h))))
noncomputable def mLast (I S:Addr) (v vb:Value) (b:Bool):Sem Fin:=if b then (do
  updateSeq S λu1=>#[v,v]
  letGo [vb,vb]
  again (mCode I S)) else (do
  letGo [v,v]
  again (mCode I S))
theorem mStep {b:Bool} (hS:s.heap.get? S=some (lstO #[vb,vb] c)) (hc:∀ {Q:Value->Shared->Prop} {E:Value->Shared->Prop},Q (.bool b) s->wpAny W.m A (richCompare .Lt v vb) Q E s)
  (h:Q (.again (mCode I S)) (bif b then { s with heap:=s.heap.update S (Obj.mapSeq λu1=>#[v,v]) } else s)):wpAny W.m A (mItem I S [vb,vb] (some v)) Q E s:=by
 show wpAny W.m A (pure v>>=λv'=>mFail S ([v',v]++[vb,vb]) (holding [v,v'] (mCmp v' vb))>>=mLast I S v' vb) Q E s
 refine aL (aM (aL (wpAny_tryCatch (aH (aL (hc (aL (aH (wpAny_truthy_bool (aL (wpAny_letGo (aM ?_))))))))))))
 cases b with
 | true=>exact aL (wpAny_updateSeq hS rfl (aL (wpAny_letGo (aM h))))
 | false=>exact aL (wpAny_letGo (aM h))
end
structure MI (h0:Heap) (ban:Addr->Prop) (I l S:Addr) (us:List Value) (i:Nat) (old:List Value) (h:Heap):Prop where
 it:h.IsListIter I l i
 li:h.IsList l us.toArray
 kp:∀ {b o},h0.get? b=some o->h.get? b=some o
 g:∃ c,h.get? S=some (lstO old.toArray c)
structure MP (h0:Heap) (I l S:Addr):Prop where
 lI:l≠I
 SI:S≠I
 Sl:S≠l
 n:∀ {b o},h0.get? b=some o->b∉[I]/\b≠S
section
variable {I l S:Addr} {h0 h:Heap} {ban:Addr->Prop} {i c:Nat} {old:List Value} {v:Value} {xs:List D} {d res:D} {Q:PySem.Fin->Shared->Prop} {m:Nat}
theorem MI.set {f:Array Value->Array Value} {ws:List Value} (P:MP h0 I l S) (M:MI h0 ban I l S us i old h) (hf:f old.toArray=ws.toArray):MI h0 ban I l S us i ws (h.update S (Obj.mapSeq f)):=
 have oth:∀ {b o},b≠S->h.get? b=some o->(h.update S (Obj.mapSeq f)).get? b=some o:=λhb e=>(Heap.get?_update_other _ _ (Ne.symm hb)).trans e
 ⟨M.it.at λo e=>oth (Ne.symm P.SI) e,M.li.at λo e=>oth (Ne.symm P.Sl) e,λe=>oth (P.n e).2 (M.kp e),xe M.g λc g=>⟨_,(Heap.get?_update_self _ g rfl).trans (aN (λa=>some (lstO a _)) hf)⟩⟩
theorem MI.next {o':List Value} {E:Value->Shared->Prop} (P:MP h0 I l S) (hh:A.handled=none) (M:MI h0 ban I l S us i old s.heap) (q:VDs h0 ban us xs) {K:Option Value->Shared->Prop}
  (k:∀ h' tk,(∀ d v,xs[i]?=some d->VD h0 ban v d->MI h0 ban I l S us (i+1) old h'->K (some v) { s with heap:=h',toks:=tk })/\(us.length=i->(∀ {b o},h0.get? b=some o->h'.get? b=some o)->(∃ c,h'.get? S=some (lstO old.toArray c))->K none { s with heap:=h',toks:=tk })) (hi:i<=us.length):wpAny W.m A.in1 (mFail S o' (pyNext (.ref I))) K E s:=by
 have W0:=Walks.list (prog:=W.prog) (w:=W.w) (A:=A.in1) hh I l P.lI us.toArray
 have nS:S∉[I]:=λm=>P.SI (ao.mp m)
 refine xe M.g λc g=>wpAny_tryCatch ?_
 rcases Nat.lt_or_ge i us.length with hl | hl
 ·exact W0.item i s _ _ (by rw [szA];exact hl) ⟨M.it,M.li⟩ λv h' tk hP hst' hk'=>xea (q.all2.get' (i:=i) (by simpa using hP)) λx e qv=>(k h' tk).1 x v e qv ⟨hst'.1,hst'.2,λ{b o} e=>hk' b o (P.n e).1 (M.kp e),c,hk' S _ nS g⟩
 ·have e:=Nat.le_antisymm hl hi
  exact W0.done s _ _ (by rw [szA,e];exact ⟨M.it,M.li⟩) λh' tk hk'=>(k h' tk).2 e (λ{b o} e=>hk' b o (P.n e).1 (M.kp e)) ⟨c,hk' S _ nS g⟩
theorem min_loop {R:Result->Shared->Prop} (P:MP h0 I l S) (hh:A.handled=none) (hu:A.units+80 < cLine) (q0:VDs h0 ban us xs) (hR:∀ {h tk v},VD h0 ban v res->(∀ {b o},h0.get? b=some o->h.get? b=some o)->R (.ok (.ret v)) { s with heap:=h,toks:=tk }) :
  ∀ {ys:List D} {i:Nat} {h:Heap} {tk:Nat} {d:D} {v:Value},xs.drop i=ys->i<=us.length->MI h0 ban I l S us i [v,v] h->VD h0 ban v d->minL d ys=some res->codeAny W.m A (mCode I S) R { s with heap:=h,toks:=tk }:=by
 intro ys
 induction ys with
 | nil=>
  intro i h tk d v hy hi M qd e
  cases e
  refine xe M.g λc g=>codeAny_builtin PySem.F.entry_min_loop ?_
  rw [Around.under_plainId PySem.F.plain_min_loop _]
  refine mRun g (MI.next (s:={ s with heap:=h,toks:=tk }) P hh M q0 (λh' tk'=>⟨λd v hx=>absurdS hx (List.getElem?_eq_none (List.drop_eq_nil_iff.mp hy)),λu1 kp g'=>xe g' λc g'=>mEnd g' (hR qd λ{b o} e=>(Heap.get?_update_other _ _ (Ne.symm (P.n e).2)).trans (kp e))⟩) hi)
 | cons y ys ih=>
  intro i h tk d v hy hi M qd e
  have hx:i < xs.length:=Nat.lt_of_not_le λz=>nomatch (List.drop_eq_nil_iff.mpr z).symm.trans hy
  have hy2:=(List.drop_eq_getElem_cons hx).symm.trans hy
  refine xe M.g λc g=>bC e λb hb e=>codeAny_builtin PySem.F.entry_min_loop ?_
  rw [Around.under_plainId PySem.F.plain_min_loop _]
  refine mRun g (MI.next (s:={ s with heap:=h,toks:=tk }) P hh M q0 (λh' tk'=>⟨λd' u hx' qu M'=>?_,λz u1=>absurd hx (by rw [← q0.length,z];exact Nat.lt_irrefl _)⟩) hi)
  cases (ad hx).symm.trans hx'
  injection hy2 with h1 h2
  subst h1
  have st:Ex h0 ban h' λu1=>False:=⟨λu1=>M'.kp,λz=>z.elim⟩
  refine xe M'.g λc g'=>mStep g' (λh=>lt_ok 6 hb (au (show A.units+1+6+64<=A.units+80 by lia) hu) (VD.step st qu) (VD.step st qd) h) ?_
  cases b with
  | true=>exact ⟨plainId_quiet PySem.F.plain_min_loop _,ih h2 (q0.length▸hx) (M'.set P rfl) qu e⟩
  | false=>exact ⟨plainId_quiet PySem.F.plain_min_loop _,ih h2 (q0.length▸hx) M' qd e⟩
theorem mFirst (hS:s.heap.get? S=some (lstO #[] c)) (h:Q (.again (mCode I S)) { s with heap:=s.heap.update S (Obj.mapSeq λu1=>#[v,v]) }):wpAny W.m A (mItem I S [] (some v)) Q E s:=by
 show wpAny W.m A (pure v>>=λv'=>updateSeq S (λu1=>#[v,v'])>>=λu1=>again (mCode I S)) Q E s
 exact aL (aM (aL (wpAny_updateSeq hS rfl (aM h) (Nat.zero_le _) (Nat.le_succ_of_le (lt_line (by decide:2<=200000))))))
theorem min_list_ok (hh:A.handled=none) (hu:A.units+90 < cLine) (S:HS W σ) (ho:σ.s.heap.get? l=some (lstO us.toArray m)) (q0:VDs σ.s.heap σ.ban us (d::xs)) (e:minL d xs=some res):wpAny W.m A (call (.builtin "min") [.ref l]) (EP W σ (.d res,σ.H)) E σ.s:=by
 have hname:(toString "min"++toString ".loop":String)="min.loop":=by decide
 have hli:σ.s.heap.IsList l us.toArray:=IsL.list ho
 have N:=new2 (h:=σ.s.heap) (o1:={ cls:=.type "list_iterator",data:=.fields #[.ref l,.int 0 0] }) (o2:={ cls:=.type "list",data:=.seq #[] }) rfl rfl
 have P:MP σ.s.heap σ.s.heap.objs.size l (σ.s.heap.push { cls:=.type "list_iterator",data:=.fields #[.ref l,.int 0 0] }).objs.size:=⟨λe=>absurdS ho (e▸N.na),N.ne,λe=>absurdS ho (e▸N.nb),λe=>⟨λm=>absurdS e (ao.mp m▸N.na),λz=>absurdS e (z▸N.nb)⟩⟩
 have M:MI σ.s.heap σ.ban σ.s.heap.objs.size l _ us 0 [] _:=⟨⟨_,N.ga,rfl,rfl⟩,(hli.push _).push _,N.k,_,N.gb⟩
 refine call_function_tree PySem.F.kind_min PySem.F.plain_min PySem.F.entry_min (PySem.F.args_min1 _) ?_
 show wpAny _ A.in1 (Builtin.Builtins.bindParams "min" ["key","default"] 0 ⟨[],[]⟩>>=λu1=>_) _ _ _
 refine aL (wpAny_of_eq (show Builtin.Builtins.bindParams "min" ["key","default"] 0 ⟨[],[]⟩=pure [none,none] from rfl) ?_)
 show wpAny _ A.in1 (pure (.ref l)>>=λx=>pyIter x>>=λit=>newList []>>=λb=>again (.builtin (toString "min"++toString ".loop") ⟨[it,.none,b],[]⟩)) _ _ _
 rw [hname]
 refine aL (aM (aL (wpAny_pyIter_list hli (aL (wpAny_newObj_type (aM ⟨plainId_quiet PySem.F.plain_min_loop _,codeAny_builtin PySem.F.entry_min_loop ?_⟩))))))
 rw [Around.under_plainId PySem.F.plain_min_loop _]
 refine mRun N.gb (MI.next P hh M q0 (λh' tk=>⟨λd' v hx qv M'=>?_,λz=>nomatch (q0.length.symm.trans z)⟩) (Nat.zero_le _))
 cases hx
 exact xe M'.g λc g=>mFirst g ⟨plainId_quiet PySem.F.plain_min_loop _,min_loop (s:=σ.s) P hh (au (Nat.add_le_add_left (by decide) _) hu) q0 (λ{h tk v} qv k=>EP.grow (x:=.d res) S k (VD.step (.grow k) qv)) rfl (q0.length▸Nat.succ_pos _) (M'.set P rfl) qv e⟩
end
theorem bo_min:BO W .min:=λ{n ys A σ} R S us q=>by
 refine Ow.of λz e=>?_
 revert e
 show (one ys).elim ((min2 ys).map λn=>.d (.int n)) _=some z->_
 cases eo:one ys with
 | none=>
  refine λe=>Ow.use (o:=(min2 ys).map λn=>V.d (.int n)) (Q:=λz=>wpAny W.m A (call (.builtin "min") us) (EP W σ (z,σ.H)) NoE σ.s) (.m ?_) e
  revert us
  refine ow_two λx y u qu w qw=>?_
  exact ow_arI (f:=λa b=>some (if b < a then b else a)) (Q:=λu w r=>wpAny W.m A (call (.builtin "min") [u,w]) (EP W σ (.d (.int r),σ.H)) NoE σ.s) (λi t j t'=>min_two S R.hd) u qu w qw
 | some v=>
  refine λe=>Ow.use (o:=(one ys).bind λv=>v.ll.bind λl=>(minOf l).map V.d) (Q:=λz=>wpAny W.m A (call (.builtin "min") us) (EP W σ (z,σ.H)) NoE σ.s) ?_ ((aN (Option.bind · _) eo).trans e)
  revert us
  refine ow_one λx u q=>?_
  revert u
  refine ow_ll λl a us m g u1 z=>?_
  cases l with
  | nil=>exact aO
  | cons d l=>exact .m (Ow.w λu1=>.of λr e=>min_list_ok R.hd (R.room (by decide)) S g z e)
end
section
variable {W:Wd} {A:Around} {E:Value->Shared->Prop} {σ:Sg} {s:Shared} {us:List Value} {ys:List V} {x:V} {ban:Addr->Prop} {d a:Addr} {ks:List Key} {es:List DictEntry} {m:Nat} {ds:List D}
theorem src_dict {ep:Nat} (lo:(d==sysModules)=false):KdlSrc W.prog W.w "dict" d d es.length (λi v=>∃ e,es[i]?=some e/\v=e.key) (λh=>h.get? d=some (dctO es.toArray ep)) where
 type:=λu1 hm=>⟨_,hm,rfl⟩
 there:=λu1 hm=>⟨Heap.lt_size hm,Heap.lt_size hm⟩
 keep:=λu1 u2 hm hk=>hk d (.inl rfl) _ hm
 notList:=by decide
 notTuple:=by decide
 hint:=λu1 u2 u3 u4 hm hq=>kdl_hint_dict ⟨_,hm,rfl⟩ hq
 iter:=λu1 u2 hh hm=>⟨_,_,(λu1 u2 hq=>iter_dict lo hm hq),walksDict hh _ d (Nat.ne_of_lt (Heap.lt_size hm)) es ep,⟨⟨_,am _ rfl,rfl,rfl⟩,ah _ hm⟩⟩
theorem items_eq {α:Type} {l:List α} {f:α->Value} {acc:Array Value} {n:Nat} (hn:n=l.length) (hi:ItemsOf (λi v=>∃ e,l[i]?=some e/\v=f e) acc n):acc.toList=l.map f:=by
 subst hn
 refine List.ext_getElem? λi=>?_
 rw [List.getElem?_map,Array.getElem?_toList]
 cases e:acc[i]? with
 | none=>rw [List.getElem?_eq_none (hi.1▸Array.getElem?_eq_none_iff.mp e)];rfl
 | some v=>exact xea (hi.2 i v e) λx h1 h2=>by rw [h1,h2];rfl
theorem keys_of {h h':Heap} {acc:Array Value} (q:All2 (EntR h ban) es ks) (k:∀ {a o},h.get? a=some o->h'.get? a=some o) (hi:ItemsOf (λi v=>∃ e,es[i]?=some e/\v=e.key) acc es.length):VDs h' ban acc.toList (ks.map keyD):=by
 rw [items_eq rfl hi]
 exact KVs.vds (q.map_left (·.key) λu1 u2 z=>KV.step (.grow k) z.2)
inductive Coll (ban:Addr->Prop) (s:Shared) (ds:List D) (us:List Value):Shared->Prop
 | mk (h':Heap) (tk:Nat) (k:∀ {a o},s.heap.get? a=some o->h'.get? a=some o) (q:VDs h' ban us ds):Coll ban s ds us { s with heap:=h',toks:=tk }
theorem coll_list (ho:s.heap.get? a=some (lstO us.toArray m)) (q:VDs s.heap ban us ds) (hb:small ds.length=true):wpAny W.m A (collect (.ref a)) (Coll ban s ds) E s:=
 have k:∀ {a o},s.heap.get? a=some o->((s.heap.push (seqObj "list" #[] 0)).update s.heap.objs.size (Obj.mapSeq (·++us.toArray))).get? a=some o:=λe=>(Heap.get?_update_other _ _ (Nat.ne_of_gt (Heap.lt_size e))).trans (ah _ e)
 collect_list (IsL.list ho) ⟨_,s.toks,k,q.step (.grow k)⟩ (small_line (k:=0) (q.length▸hb) (Nat.zero_le _))
theorem DR.small {h:Heap} (R:DR h ban a ks es m) (hb:small ks.length=true):es.length<=sizeLine:=small_line (k:=0) (R.ents.length▸hb) (Nat.zero_le _)
theorem coll_dict (hh:A.handled=none) (R:DR s.heap ban d ks es m) (hb:small ks.length=true):wpAny W.m A (collect (.ref d)) (Coll ban s (ks.map keyD)) E s:=
 kdu_collect (src_dict R.sm) hh R.at_ (R.small hb) λh' tk acc k hi=>⟨h',tk,λ{u1 u2}=>k _ _,keys_of R.ents (λ{u1 u2}=>k _ _) hi⟩
theorem list_dict_ok (hh:A.handled=none) (R:DR σ.s.heap σ.ban d ks es m) (hb:small ks.length=true) (S:HS W σ):wpAny W.m A (call (.type "list") [.ref d]) (EP W σ (.d (.list (ks.map keyD)),σ.H)) E σ.s:=
 kdl_call (src_dict R.sm) hh R.at_ (R.small hb) λh' tk acc c k hn hi=>EP.grow (x:=.d (.list (ks.map keyD))) S (λ{u1 u2}=>k _ _) ⟨_,acc.toList,c,rfl,hn,S.fresh,keys_of R.ents (λ{u1 u2}=>k _ _) hi⟩
theorem bo_list:BO W .list:=λ{n ys A σ} R S=>ow_one λx u q=>by
 revert u
 refine ow_dt λd u q=>?_
 cases d with
 | range k=>exact .m (Ow.w λhk=>xeeeeaa q λl t u' w e g nb=>by subst e;exact post (list_range_ok R.hd g hk S) λv s' q=>q.list)
 | dict ks xs=>exact .m (Ow.w λhk=>xeeeaaa q λa es m e D nb u1=>by subst e;exact list_dict_ok R.hd D hk S)
 | _=>exact aO
theorem iadd_range {k:Int} {t u v:Tok} {S c:Nat} {R:Result->Shared->Prop} (hh:A.handled=none) (g:IsRange s.heap a 0 k 1 t u v) (hk:smallI k=true) (hS:s.heap.get? S=some { cls:=.type "list",data:=.seq #[] c })
  (hR:∀ h' tk acc c,(∀ b o,b≠S->s.heap.get? b=some o->h'.get? b=some o)->h'.get? S=some (lstO acc c)->All2 IntV acc.toList ((List.range k.toNat).map λ(i:Nat)=>(i:Int))->R (.ok (.ret (.ref S))) { s with heap:=h',toks:=tk }):codeAny W.m A (.builtin "list.__iadd__" ⟨[.ref S,.ref a],[]⟩) R s:=by
 refine xaa (range_size hk) λhs hz hl=>codeAny_builtin entry_list_iadd' ?_
 rw [Around.under_plainId PySem.F.plain_list_iadd _]
 exact wpAny_extend_range hh g hz hs (by lia) S (.ref S) c hS λh' tk acc c hk hS' hi=>hR h' tk acc c hk hS' (items_range hi)
theorem coll_range {k:Int} {t u v:Tok} (hh:A.handled=none) (g:IsRange s.heap a 0 k 1 t u v) (hk:smallI k=true):wpAny W.m A (collect (.ref a)) (Coll ban s (rangeD k)) E s:=by
 unfold collect
 refine aL (wpAny_runValue (codeAny_builtin entry_proto_collect' ?_))
 rw [Around.under_plainId PySem.F.plain_proto_collect _]
 show wpAny _ A.in1 (newList []>>=λl'=>again (.builtin "list.__iadd__" ⟨[l',.ref a],[]⟩)) _ _ s
 refine aL (wpAny_newObj_type (aM ⟨plainId_quiet PySem.F.plain_list_iadd _,iadd_range (c:=0) hh (ah _ g) hk (am _ rfl) λh' tk acc c hk hS' z=>?_⟩))
 refine aL (wpAny_load hS' (aM ⟨h',tk,λ{b o} e=>hk b o (Nat.ne_of_lt (Heap.lt_size e)) (ah _ e),VDs.of ?_⟩))
 have z:=z.map_right (S:=VD h' ban) D.int λu1 u2 z=>z
 rw [aK] at z
 exact z
end
section
theorem insOrd_perm {α:Type} (lt:α->α->Bool) (x:α):∀ l:List α,(insOrd lt x l).Perm (x::l)
 | []=>.refl _
 | y::l=>by
  show (if lt x y then x::y::l else y::insOrd lt x l).Perm _
  cases lt x y with
  | true=>exact .refl _
  | false=>exact ((insOrd_perm lt x l).cons y).trans (.swap x y l)
theorem sortBy_perm {α:Type} (lt:α->α->Bool):∀ l:List α,(sortBy lt l).Perm l
 | []=>.refl _
 | x::l=>(insOrd_perm lt x _).trans ((sortBy_perm lt l).cons x)
theorem insOrd_sorted (x:Int):∀ l:List Int,l.Pairwise (·<=·)->(insOrd ltI x l).Pairwise (·<=·)
 | [],_=>List.pairwise_singleton ..
 | y::l,h=>by
  refine xa (List.pairwise_cons.mp h) λh1 h2=>?_
  show (if ltI x y then x::y::l else y::insOrd ltI x l).Pairwise _
  cases q:ltI x y with
  | true=>exact List.pairwise_cons.mpr ⟨λa ha=>Int.le_trans (Int.le_of_lt (aw q)) ((aG.mp ha).elim (λe=>e▸Int.le_refl _) (h1 a)),h⟩
  | false=>exact List.pairwise_cons.mpr ⟨λa ha=>(aG.mp ((insOrd_perm ltI x l).mem_iff.mp ha)).elim (λe=>e▸Int.not_lt.mp (of_decide_eq_false q)) (h1 a),insOrd_sorted x l h2⟩
theorem sortBy_sorted:∀ l:List Int,(sortBy ltI l).Pairwise (·<=·)
 | []=>.nil
 | x::l=>insOrd_sorted x _ (sortBy_sorted l)
theorem sort_unique {l l':List Int} (hp:l'.Perm l) (hs:l'.Pairwise (·<=·)):l'=sortBy ltI l:=
 List.Perm.eq_of_pairwise (le:=(·<=·)) (λu1 u2 u3 u4 h1 h2=>Int.le_antisymm h1 h2) hs (sortBy_sorted l) (hp.trans (sortBy_perm ltI l).symm)
end
noncomputable def AskQ {α:Type} (n:Nat) (Q:α->Prop):KasT α->Prop
 | .ret a=>Q a
 | .ask i j k=>i < n/\j < n/\∀ b,AskQ n Q (k b)
theorem AskQ.bind {α β:Type} {n:Nat} {Q:α->Prop} {Q':β->Prop} {f:α->KasT β} (hf:∀ a,Q a->AskQ n Q' (f a)):∀ t:KasT α,AskQ n Q t->AskQ n Q' (t.bind f)
 | .ret a,h=>hf a h
 | .ask i j k,h=>⟨h.1,h.2.1,λb=>AskQ.bind hf (k b) (h.2.2 b)⟩
theorem AskQ.run {α:Type} {n:Nat} {Q:α->Prop} {lt:Nat->Nat->Bool}:∀ t:KasT α,AskQ n Q t->Q (kasRun lt t)
 | .ret u1,h=>h
 | .ask i j k,h=>AskQ.run (k (lt i j)) (h.2.2 _)
theorem ask_ret {α:Type} {n:Nat} {Q:α->Prop} {a:α} (h:Q a):AskQ n Q (.ret a):=h
theorem ask_ask {α:Type} {n i j:Nat} {Q:α->Prop} {k:Bool->KasT α} (h1:i < n) (h2:j < n) (h:∀ b,AskQ n Q (k b)):AskQ n Q (.ask i j k):=⟨h1,h2,h⟩
theorem ask_if {α:Type} {n:Nat} {Q:α->Prop} {c:Prop} [Decidable c] {a b:KasT α} (h:AskQ n Q a) (k:AskQ n Q b):AskQ n Q (if c then a else b):=by
 by_cases z:c
 ·rw [aQ z];exact h
 ·rw [aP z];exact k
noncomputable def PR (n:Nat) (p:Array Nat):Prop:=p.toList.Perm (List.range n)
section
variable {m:Nat} (h0:0 < m) {p:Array Nat}
include h0
theorem PR.at (h:PR m p) (k:Nat):p.getD k 0 < m:=by
 unfold Array.getD
 split
 ·exact List.mem_range.mp (h.mem_iff.mp (Array.mem_toList_iff.mpr (Array.getElem_mem _)))
 ·exact h0
omit h0 in
theorem PR.to {q:Array Nat} (h:PR m p) (k:q.Perm p):PR m q:=(Array.perm_iff_toList_perm.mp k).trans h
omit h0 in
theorem PR.rev {i j:Nat} (h:PR m p):PR m (kas_rev p i j):=h.to (mirror_perm _ _ _ _)
theorem ask_asc (hp:PR m p):∀ (f n:Nat),AskQ m (λu1=>True) (kas_asc p f n)
 | 0,n=>aO
 | f+1,n=>⟨hp.at h0 _,hp.at h0 _,λb=>ask_if (ask_ret aO) (ask_asc hp f _)⟩
theorem ask_desc:∀ (f:Nat) {p:Array Nat} (n q:Nat),PR m p->AskQ m (λr=>PR m r.1) (kas_desc f p n q)
 | 0,p,n,q,hp=>hp
 | f+1,p,n,q,hp=>⟨hp.at h0 _,hp.at h0 _,λb=>ask_if (ask_if (ask_desc f _ _ hp.rev) (ask_desc f _ _ hp)) ⟨hp.at h0 _,hp.at h0 _,λb=>ask_if (ask_ret hp) (ask_desc f _ _ hp)⟩⟩
theorem ask_tail3 (n nrem:Nat) (hp:PR m p):AskQ m (λr=>PR m r.2) (kas_tail3 n nrem p):=by
 delta kas_tail3
 exact AskQ.bind (Q:=λu1=>True) (λu1 u2=>ask_ret (Q:=λ(r:Nat×Array Nat)=>PR m r.2) hp.rev) _ (ask_asc h0 hp.rev _ _)
theorem ask_descPart (n nrem:Nat) (hp:PR m p):AskQ m (λr=>PR m r.2) (kas_descPart n nrem p):=by
 delta kas_descPart
 exact AskQ.bind (λu1 hr=>ask_if (ask_tail3 h0 _ _ (PR.rev hr)) (ask_tail3 h0 _ _ hr)) _ (ask_desc h0 _ _ _ hp)
theorem ask_count (nrem:Nat) (hp:PR m p):AskQ m (λr=>PR m r.2) (kas_count nrem p):=by
 delta kas_count
 exact AskQ.bind (λu1 u2=>ask_if (ask_ret (Q:=λ(r:Nat×Array Nat)=>PR m r.2) hp) (ask_if (ask_ask (hp.at h0 _) (hp.at h0 _) λb=>ask_if (ask_ret (Q:=λ(r:Nat×Array Nat)=>PR m r.2) hp) (ask_descPart h0 _ _ hp.rev)) (ask_descPart h0 _ _ hp))) _ (ask_asc h0 hp _ _)
theorem ask_place (k:Nat) (hp:PR m p):∀ (f l r:Nat),AskQ m (λu1=>True) (kas_place p k f l r)
 | 0,l,r=>aO
 | f+1,l,r=>ask_if (c:=l>=r) (ask_ret aO) (ask_ask (hp.at h0 _) (hp.at h0 _) λb=>ask_if (ask_place k hp f _ _) (ask_place k hp f _ _))
theorem ask_bin:∀ (f:Nat) {p:Array Nat} (k:Nat),PR m p->AskQ m (PR m) (kas_bin f p k)
 | 0,_,k,hp=>hp
 | f+1,p,k,hp=>AskQ.bind (λl u1=>ask_bin f _ (hp.to (bubble_perm _ _ _))) _ (ask_place h0 k hp _ _ _)
theorem ask_sort:AskQ m (PR m) (kas_sort m):=by
 delta kas_sort
 exact AskQ.bind (λu1 hr=>ask_if (ask_bin h0 _ _ hr) (ask_ret hr)) _ (ask_count h0 (p:=(List.range m).toArray) _ (.refl _))
end
theorem getD_range {α:Type} (ts:List α) (d:α):(List.range ts.length).map (λi=>ts.getD i d)=ts:=by
 refine List.ext_getElem? λi=>?_
 rw [List.getElem?_map]
 cases e:ts[i]? with
 | none=>rw [List.getElem?_eq_none (by rw [ay];exact List.getElem?_eq_none_iff.mp e)];rfl
 | some x=>rw [List.getElem?_range (aa.mp e).1,Option.map_some,List.getD_eq_getElem?_getD,e];rfl
theorem sortT_perm (ts:List (List Int)):(sortT ts).Perm ts:=by
 unfold sortT
 by_cases h:ts.length < 2
 ·rw [aQ h]
 ·rw [aP h]
  exact ((AskQ.run _ (ask_sort (av (by decide) (Nat.not_lt.mp h)))).map _).trans (.of_eq (getD_range ts []))
theorem kas_run_ask {α:Type} {m:Nat} {cmp:Nat->Nat->(Bool->Shared->Prop)->Shared->Prop} {lt:Nat->Nat->Bool} {P:α->Prop} {Q:α->Shared->Prop} {s:Shared} (hc:∀ {i j C},i < m->j < m->C (lt i j) s->cmp i j C s) :
  ∀ (t:KasT α),AskQ m P t->(P (kasRun lt t)->Q (kasRun lt t) s)->t.kasWp cmp Q s
 | .ret a,p,h=>h p
 | .ask i j k,ha,h=>hc ha.1 ha.2.1 (kas_run_ask hc (k (lt i j)) (ha.2.2 _) h)
section
variable {W:Wd} {A:Around} {E:Value->Shared->Prop} {σ:Sg} {s:Shared} {us:List Value} {ban:Addr->Prop} {da a b:Addr} {m:Nat} {ds rs:List D} {h:Heap} {u v:Value} {P:PySem.Fin->Shared->Prop} {ts:List (List Int)}
inductive Srt (s:Shared) (ban:Addr->Prop) (da:Addr) (rs:List D):Shared->Prop
 | mk (h':Heap) (tk:Nat) (out:List Value) (m:Nat) (k:∀ {a o},a≠da->s.heap.get? a=some o->h'.get? a=some o) (g:h'.get? da=some (lstO out.toArray m)) (q:VDs h' ban out rs):Srt s ban da rs { s with heap:=h',toks:=tk }
structure Srg (s:Shared) (da:Addr) (e1:Nat) (h7:Heap):Prop where
 g:h7.get? da=some (seqObj "list" #[] e1)
 k:∀ {a o},a≠da->s.heap.get? a=some o->h7.get? a=some o
theorem srg (ho:s.heap.get? da=some (seqObj "list" us.toArray m)):∃ e1,Srg s da e1 (((s.heap.update da (Obj.mapSeq λu1=>(#[]:Array Value))).push (seqObj "tuple" us.toArray 0)).push (seqObj "list" #[] 0))/\(s.heap.update da (Obj.mapSeq λu1=>(#[]:Array Value))).get? da=some (seqObj "list" #[] e1):=
 have g:=get?_update_seq ho λu1=>#[]
 ⟨_,⟨ah _ (ah _ g),λhne e=>ah _ (ah _ ((Heap.get?_update_other _ _ (Ne.symm hne)).trans e))⟩,g⟩
theorem Srg.fin {e1:Nat} {h7:Heap} {out:List Value} {tk:Nat} (G:Srg s da e1 h7) (hD:ban da) (q:VDs h7 ban out rs):Srt s ban da rs { s with heap:=h7.update da (Obj.mapSeq λu1=>out.toArray),toks:=tk }:=
 have oth:∀ {a o},a≠da->h7.get? a=some o->(h7.update da (Obj.mapSeq λu1=>out.toArray)).get? a=some o:=λhne e=>(Heap.get?_update_other _ _ (Ne.symm hne)).trans e
 ⟨_,tk,out,_,λhne e=>oth hne (G.k hne e),get?_update_seq G.g λu1=>out.toArray,q.step ⟨λnb e=>oth (λz=>nb (z▸hD)) e,.inl⟩⟩
theorem Srg.ex {e1:Nat} {h7:Heap} (G:Srg s da e1 h7) (hD:ban da):Ex s.heap ban h7 ban:=⟨λnb e=>G.k (λz=>nb (z▸hD)) e,.inl⟩
theorem VDs.ints {ns:List Int}:VDs h ban us (ns.map .int)↔IntsAre us ns:=by
 induction ns generalizing us with
 | nil=>exact ⟨λq=>by cases (q:us=[]);exact .nil,λq=>by cases q;rfl⟩
 | cons n ns ih=>exact ⟨λq=>xeeaa q λu vs e x r=>xe x λt e2=>by subst e;subst e2;exact .cons n t (ih.mp r),λq=>by cases q with | cons u1 t r=>exact ⟨_,_,rfl,⟨t,rfl⟩,ih.mpr r⟩⟩
theorem sort_ints_ok {ns:List Int} (ho:s.heap.get? da=some (seqObj "list" us.toArray m)) (q:VDs s.heap ban us (ns.map .int)) (hb:ns.length < 60) (hD:ban da) (k:∀ s',Srt s ban da ((sortBy ltI ns).map .int) s'->P (.done (.ret .none)) s'):wpAny W.m A (Builtin.«list.sort» ⟨[.ref da],[]⟩) P E s:=
 xea (srg ho) λe1 G u1=>list_sort_tree ho (VDs.ints.mp q) (by rw [q.length,aB];lia) λout ns' hi hp hs=>k _ (G.fin (out:=out.toList) (tk:=s.toks) hD (by rw [← sort_unique hp hs];exact VDs.ints.mpr hi))
noncomputable def pairD (t:List Int):D:=.tup (t.map .int)
inductive PairR (h:Heap):Value->List Int->Prop
 | mk (a:Addr) (x y:Int) (m:Nat) (t1 t2:Tok) (g:h.get? a=some (tupO #[.int x t1,.int y t2] m)):PairR h (.ref a) [x,y]
theorem two_of {α:Type} {l:List α} (h:l.length=2):∃ x y,l=[x,y]:=match l,h with
 | [x,y],_=>⟨x,y,rfl⟩
theorem pair_of {t:List Int} (q:VD h ban u (pairD t)) (h2:t.length=2):PairR h u t:=xee (two_of h2) λx y e=>by
 subst e
 refine xeeeaaa q λa us m e g u1 q=>xeeaa q λu1 us1 e1 q1 q=>xeeaa q λu2 us2 e2 q2 (q:us2=[])=>xe q1 λt1 f1=>xe q2 λt2 f2=>?_
 subst q;subst f2;subst f1;subst e2;subst e1;subst e
 exact ⟨a,x,y,m,t1,t2,g⟩
theorem pair_lt {x y:List Int} {Q:Bool->Shared->Prop} (hu:A.units+80 < cLine) (qu:PairR s.heap u x) (qv:PairR s.heap v y) (h:Q (ltT x y) s):wpAny W.m A (keyLt' (tuples' true) u v) Q E s:=by
 cases qu with | mk a x1 x2 m t1 t2 ga=>cases qv with | mk b y1 y2 k t3 t4 gb=>
 refine kat_lt ga rfl gb rfl ?_
 show KatLex _ _ _ true _ Q [(.int x1 t1,.int y1 t3),(.int x2 t2,.int y2 t4)] 0 s
 have e1:ltT [x1,x2] [y1,y2]=if x1=y1 then ltT [x2] [y2] else decide (x1 < y1):=rfl
 have e2:ltT [x2] [y2]=if x2=y2 then false else decide (x2 < y2):=rfl
 refine kat_cons (wpAny_eqBool_int (kat_go (λe=>kat_yes ?_) λe=>kat_no ?_))
 ·rw [e1,aQ (aw e)] at h
  refine kat_cons (wpAny_eqBool_int (kat_go (λe=>kat_yes (kat_nil ?_)) λe=>kat_no (kat_one _ _ (lt_ok 6 (x:=.int x2) (y:=.int y2) (b:=decide (x2 < y2)) (ban:=no) (ban':=no) rfl (au (Nat.add_le_add_left (by decide:6+64<=80) _) hu) ⟨_,rfl⟩ ⟨_,rfl⟩ ?_))))
  ·rw [e2,aQ (aw e)] at h;exact h
  ·rw [e2,aP (of_decide_eq_false e)] at h;exact h
 ·rw [e1,aP (of_decide_eq_false e)] at h
  exact oneLt_int h
end
section
variable {W:Wd} {A:Around} {E:Value->Shared->Prop} {σ:Sg} {s:Shared} {us fs:List Value} {ban:Addr->Prop} {da a b:Addr} {m e1:Nat} {ds rs:List D} {h h7:Heap} {u v:Value} {P:PySem.Fin->Shared->Prop} {ts:List (List Int)}
noncomputable def sEnd (a:Addr) (before:Nat) (s:SortSt):Sem Fin:=do
 let sorted:=(arrOf s).map (·.2)
 let touched:=(← seqEpoch a) != before
 Builtin.List.listUpdate (.ref a) λu1=>sorted
 if let some e:=failedOf s then rule "list.sort.comparison-raised";throw e
 if touched then rule "list.sort.modified";raiseError "ValueError" "list modified during sort"
 ret .none
noncomputable def sRun (a:Addr) (before:Nat) (items:Array Value) (kind:SortKind):Sem Fin:=do
 let ((),s) ← (if items.size < 2 then pure () else sortRuns').run (SortSt.mk' kind (items.zip items) #[] 7 none)
 sEnd a before s
noncomputable def sBody (a:Addr) (before:Nat) (items:Array Value):Sem Fin:=if items.size < 2 then pure general'>>=sRun a before items else keyKind' items>>=sRun a before items
theorem sort_eq (a:Addr):Builtin.«list.sort» ⟨[.ref a],[]⟩=(Builtin.List.listItems (.ref a)>>=λitems=>Builtin.List.listUpdate (.ref a) (λu1=>#[])>>=λu1=>seqEpoch a>>=λbefore=>newTuple items.toList>>=λheld=>newList []>>=λks=>holding [held,ks] (sBody a before items)):=rfl
theorem sort_go (ho:s.heap.get? da=some (seqObj "list" us.toArray m)) (hb:us.length < 60) (h:∀ {e1 h7},Srg s da e1 h7->wpAny W.m A (sBody da e1 us.toArray) P E { s with heap:=h7 }):wpAny W.m A (Builtin.«list.sort» ⟨[.ref da],[]⟩) P E s:=by
 rw [sort_eq]
 have hl:us.length<=sizeLine:=lt_line (by lia)
 exact xea (srg ho) λe1 G g1=>aL (listItems_at ho rfl (aL (listUpdate_at ho rfl (aL (seqEpoch_at g1 rfl (aL (wpAny_newTuple (aL (wpAny_newList (aH (h G)) (Nat.zero_le _))) hl)))) (by rw [szA];exact hl) (Nat.zero_le _))))
theorem sort_end {st:SortSt} {out:List Value} {tk:Nat} (G:Srg s da e1 h7) (hf:failedOf st=none) (ho:(arrOf st).map (·.2)=out.toArray) (hz:out.length < 60) (hD:ban da) (q:VDs h7 ban out rs) (k:∀ s',Srt s ban da rs s'->P (.done (.ret .none)) s'):wpAny W.m A (sEnd da e1 st) P E { s with heap:=h7,toks:=tk }:=by
 unfold sEnd
 rw [hf,ho]
 have hl:out.toArray.size<=sizeLine+1:=by rw [szA];exact Nat.le_succ_of_le (lt_line (by lia))
 refine aL (seqEpoch_at G.g rfl (aL (listUpdate_at G.g rfl ?_ (Nat.zero_le _) hl)))
 rw [show (e1 != e1)=false from bne_self_eq_false e1]
 exact aM (k _ (G.fin hD q))
theorem tups_firsts:VDs h ban us (ts.map pairD)->(∀ t∈ts,t.length=2)->∃ fs,KatTups h us fs/\fs.length=us.length/\∀ v∈fs,∃ n t,v=.int n t:=by
 induction ts generalizing us with
 | nil=>exact λq u1=>by cases (q:us=[]);exact ⟨[],aO,rfl,λv hv=>absurd hv aA⟩
 | cons t ts ih=>
  exact λq hl=>xeeaa q λu us e q1 q2=>xeaa (ih q2 λt h=>hl t (.tail _ h)) λfs h1 h2 h3=>by
   subst e
   cases pair_of q1 (hl t (.head _)) with | mk a x y m t1 t2 g=>
   exact ⟨.int x t1::fs,KatTups.cons g rfl rfl rfl h1,aN (·+1) h2,λv hv=>(aG.mp hv).elim (λe=>⟨x,t1,e⟩) (h3 v)⟩
theorem at_pairs (q:VDs h ban us (ts.map pairD)) {i:Nat} (hi:i < us.length):VD h ban (us.getD i .none) (pairD (ts.getD i []))/\ts.getD i []∈ts:=by
 refine xea (q.all2.get' (ad hi)) λx hx qx=>?_
 rw [List.getElem?_map] at hx
 refine xea (ai.mp hx) λt e1 e2=>?_
 rw [List.getD_eq_getElem?_getD,ad hi,List.getD_eq_getElem?_getD,e1,Option.getD_some,Option.getD_some,e2]
 exact ⟨qx,List.mem_of_getElem? e1⟩
theorem pick_pairs (q:VDs h ban us (ts.map pairD)):∀ {l:List Nat},(∀ i∈l,i < us.length)->VDs h ban (l.map λi=>us.getD i .none) ((l.map λi=>ts.getD i []).map pairD)
 | [],_=>rfl
 | i::l,hl=>⟨_,_,rfl,(at_pairs q (hl i (.head _))).1,pick_pairs q λj hj=>hl j (.tail _ hj)⟩
noncomputable def perm0 (ts:List (List Int)):Array Nat:=kasRun (λi j=>ltT (ts.getD i []) (ts.getD j [])) (kas_sort ts.length)
theorem pairs_run (hu:A.units+80 < cLine) (q:VDs s.heap ban us (ts.map pairD)) (h2:∀ t∈ts,t.length=2) (hs:2<=us.length) (hb:us.length < 64) {Q:Unit×SortSt->Shared->Prop}
  (k:∀ {st},failedOf st=none->(arrOf st).map (·.2)=((perm0 ts).toList.map λi=>us.getD i .none).toArray->PR us.length (perm0 ts)->Q ((),st) s):wpAny W.m A ((sortRuns').run (SortSt.mk' (tuples' true) (us.toArray.zip us.toArray) #[] 7 none)) Q E s:=by
 have hl:us.length=ts.length:=q.length.trans (aB ..)
 refine kat_run (Q:=λst s'=>Q ((),st) s') (G:=λp s'=>(p=perm0 ts/\PR us.length (perm0 ts))/\s'=s) rfl hs hb (λp st s' u1 a2 a3 a4=>?_) ?_
 ·obtain ⟨⟨rfl,pr⟩,rfl⟩:=a4
  exact k a3 (kat_snds rfl a2) pr
 ·unfold perm0
  rw [← hl]
  exact kas_run_ask (λ{i j C} hi hj hC=>pair_lt hu (pair_of (at_pairs q hi).1 (h2 _ (at_pairs q hi).2)) (pair_of (at_pairs q hj).1 (h2 _ (at_pairs q hj).2)) hC) _ (ask_sort (av (by decide) hs)) λpr=>⟨⟨rfl,pr⟩,rfl⟩
theorem sort_pairs_ok (hu:A.units+80 < cLine) (ho:s.heap.get? da=some (seqObj "list" us.toArray m)) (q:VDs s.heap ban us (ts.map pairD)) (h2:∀ t∈ts,t.length=2) (hb:us.length < 60) (hD:ban da)
  (k:∀ s',Srt s ban da ((sortT ts).map pairD) s'->P (.done (.ret .none)) s'):wpAny W.m A (Builtin.«list.sort» ⟨[.ref da],[]⟩) P E s:=by
 have hl:us.length=ts.length:=q.length.trans (aB ..)
 refine sort_go ho hb λ{e1 h7} G=>?_
 have q7:=q.step (G.ex hD)
 unfold sBody sRun
 unfold sortT at k
 by_cases hs:us.toArray.size < 2
 ·rw [aQ hs,aQ hs]
  rw [szA,hl] at hs
  rw [aQ hs] at k
  exact aL (aM (aL (aM (sort_end (tk:=s.toks) G rfl (by
   apply Array.toList_inj.mp
   show ((us.toArray.zip us.toArray).map (·.2)).toList=us
   simp [List.map_snd_zip]) hb hD q7 k))))
 ·rw [aP hs,aP hs]
  rw [szA] at hs
  rw [aP (hl▸hs)] at k
  have hs:=Nat.not_lt.mp hs
  refine xeaa (tups_firsts q7 h2) λfs f1 f2 f3=>aL (kat_kind (T:=.type "int") f1 (f2▸av (by decide) hs) (λv hv=>xee (f3 v hv) λn t e=>e▸Looks.of_pure rfl) rfl ?_)
  refine aL (pairs_run (s:={ s with heap:=h7 }) hu q7 h2 hs (Nat.lt_trans hb (by decide)) λ{st} hf har pr=>sort_end (tk:=s.toks) G hf har ?_ hD (pick_pairs q7 λi hi=>List.mem_range.mp (pr.mem_iff.mp hi)) k)
  rw [aB,pr.length_eq,ay]
  exact hb
end
section
variable {W:Wd} {A:Around} {E:Value->Shared->Prop} {σ:Sg} {s:Shared} {us:List Value} {ban:Addr->Prop} {da a b:Addr} {m:Nat} {ds rs:List D} {h:Heap} {u v:Value} {P:PySem.Fin->Shared->Prop} {ns:List Int}
theorem sort_ok (hu:A.units+80 < cLine) (ho:s.heap.get? da=some (seqObj "list" us.toArray m)) (q:VDs s.heap ban us ds) (hD:ban da):Ow (sortD ds) λrs=>(∀ s',Srt s ban da rs s'->P (.done (.ret .none)) s')->wpAny W.m A (Builtin.«list.sort» ⟨[.ref da],[]⟩) P E s:=by
 refine .w λhz=>.el (.of λns e=>?_) λu1=>.be λts e=>.w λh2=>?_
 ·have h:=allM_some (λx y e=>ii_some e) e
  subst h
  rw [aB] at hz
  exact λk=>sort_ints_ok ho q (small_lt hz) hD k
 ·have h:=allM_some (g:=pairD) (λx y e=>bC e λl e1 e2=>by rw [show x=.tup l by cases x <;> cases e1;rfl,allM_some (λx y e=>ii_some e) e2];rfl) e
  subst h
  exact λk=>sort_pairs_ok hu ho q (λt ht=>eq_of_beq (List.all_eq_true.mp h2 t ht)) (by rw [q.length];exact small_lt hz) hD k
theorem sorted_by (hu:A.units+90 < cLine) (S:HS W σ) (hc:wpAny W.m A.in1 (collect v) (λus s'=>∃ ds:List D,Coll σ.ban σ.s ds us s'/\sortD ds=some rs) E σ.s):wpAny W.m A (call (.builtin "sorted") [v]) (EP W σ (.d (.list rs),σ.H)) E σ.s:=by
 refine Calls.call_function_entry kind_sorted plain_sorted entry_sorted (args_sorted1 _) ?_
 show wpAny W.m A.in1 (checkCount "sorted" 1 1 _>>=λu1=>_) _ _ _
 refine aL (m:=checkCount "sorted" 1 1 _) (aM (aL (wpAny_mono hc (λus s1 hc=>xea hc λds hc e=>?_) λu1 u2 x=>x)))
 have hz:small ds.length=true:=by
  cases hz:small ds.length with
  | true=>rfl
  | false=>exact noS ((aN (λb=>wh b _) hz).symm.trans e)
 cases hc with | mk h1 tk k1 q1=>
 have N:(h1.push (seqObj "list" us.toArray 0)).get? h1.objs.size=some (seqObj "list" us.toArray 0):=am _ rfl
 have q2:VDs (h1.push (seqObj "list" us.toArray 0)) (λa=>σ.ban a\/a=h1.objs.size) us ds:=q1.step ⟨λu1 e=>ah _ e,λz=>z.imp id λ(z:_=_)=>by rw [z];exact none_size _⟩
 have nD:¬ σ.ban h1.objs.size:=λz=>xe (S.hi z) λo ho=>absurd (Heap.lt_size (k1 ho)) (Nat.lt_irrefl _)
 refine aL (wpAny_newList (aL (aH (wpAny_call_entry slot_list_sort ⟨_,N,rfl⟩ entry_list_sort ((sort_ok (s:={ σ.s with heap:=h1.push (seqObj "list" us.toArray 0),toks:=tk }) (au (Nat.add_le_add_left (by decide:1+1+80<=90) A.units) hu) N q2 (.inr rfl)).use e λs' hs=>?_) (args_list_sort _)))) (small_line (k:=0) (q1.length▸hz) (Nat.zero_le _)))
 cases hs with | mk h' tk' out m k3 g3 q3=>
 exact ⟨_,rfl,aM ⟨_,rfl,EP.grow (x:=.d (.list rs)) S (λe=>k3 (Nat.ne_of_lt (Heap.lt_size (k1 e))) (ah _ (k1 e))) ⟨_,out,m,rfl,g3,nD,q3.step ⟨λu1 e=>e,λz=>.inl (.inl z)⟩⟩⟩⟩
theorem sorted_ok (hu:A.units+90 < cLine) (S:HS W σ) (hc:∀ {E},wpAny W.m A.in1 (collect v) (Coll σ.ban σ.s ds) E σ.s):Ow (sortD ds) λrs=>wpAny W.m A (call (.builtin "sorted") [v]) (EP W σ (.d (.list rs),σ.H)) E σ.s:=.of λrs e=>sorted_by hu S (wpAny_mono hc (λu1 u2 q=>⟨_,q,e⟩) λu1 u2 x=>x)
theorem sortD_small {Q:List D->Prop} (h:small ds.length=true->Ow (sortD ds) Q):Ow (sortD ds) Q:=.of λu1 e=>by
 cases hz:small ds.length with
 | true=>exact (h hz).use e
 | false=>exact noS ((aN (λb=>wh b _) hz).symm.trans e)
theorem bo_sorted:BO W .sorted:=λ{n ys A σ} R S=>ow_one λx u q=>by
 have hu:A.units+90 < cLine:=R.room (by decide)
 refine .b (ow_see (α:=List D) (f:=sortSrcD) (g:=λ(o:O)=>o.dc.map λ(p:List Key×List V)=>p.1.map keyD) (Q:=λv l=>Ow ((sortD l).map λr=>V.d (.list r)) λz=>wpAny W.m A (call (.builtin "sorted") [v]) (EP W σ (z,σ.H)) NoE σ.s) S rfl (λd v q=>?_) (λj o a hd hr z=>?_) rfl u q)
 ·cases d with
  | list l=>exact .m (sortD_small λhz=>xeeeaaa q λa us m e g u1 q=>e▸sorted_ok hu S (coll_list g q hz))
  | range k=>exact Ow.w λhk=>.m (xeeeeaa q λa t u w e g u1=>e▸sorted_ok hu S (coll_range R.hd g hk))
  | dict ks xs=>exact .m (sortD_small λhz=>xeeeaaa q λa es m e D u1 u2=>e▸sorted_ok hu S (coll_dict R.hd D (by rw [aB] at hz;exact hz)))
  | _=>exact aO
 ·cases o with
  | dict ks xs=>exact .m (o:=some (ks,xs)) (.m (sortD_small λhz=>xeea z λes m D u1=>sorted_ok hu S (coll_dict R.hd D (by rw [aB] at hz;exact hz))))
  | _=>exact aO
theorem dedup_mem (x:Int):∀ l:List Int,x∈dedup l↔x∈l
 | []=>Iff.rfl
 | y::l=>by
  show x∈(if l.contains y then dedup l else y::dedup l)↔_
  cases h:l.contains y with
  | true=>rw [aQ rfl,dedup_mem x l,aG];exact ⟨.inr,λq=>q.elim (λe=>e▸List.contains_iff_mem.mp h) id⟩
  | false=>rw [aP Bool.false_ne_true,aG,aG,dedup_mem x l]
theorem dedup_nodup:∀ l:List Int,(dedup l).Nodup
 | []=>.nil
 | y::l=>by
  show (if l.contains y then dedup l else y::dedup l).Nodup
  cases h:l.contains y with
  | true=>exact dedup_nodup l
  | false=>exact List.nodup_cons.mpr ⟨λq=>Bool.noConfusion (h.symm.trans (List.contains_iff_mem.mpr ((dedup_mem y l).mp q))),dedup_nodup l⟩
theorem firstMet_nodup (val:Nat->Int):∀ i,(firstMet val i).Nodup
 | 0=>.nil
 | i+1=>by
  rw [firstMet_succ]
  unfold step_dedup
  split
  ·exact firstMet_nodup val i
  ·rename_i q
   exact az.mpr ⟨firstMet_nodup val i,List.pairwise_singleton ..,λa ha b hb e=>q (List.any_eq_true.mpr ⟨a,ha,beq_iff_eq.mpr (e.trans (ao.mp hb))⟩)⟩
theorem any_mem {l:List Int} {k:Int}:l.any (·==k)=true↔k∈l:=List.any_eq_true.trans ⟨λ⟨u1,h,e⟩=>beq_iff_eq.mp e▸h,λh=>⟨k,h,beq_self_eq_true k⟩⟩
theorem firstMet_len (ns:List Int):(firstMet (λi=>ns.getD i 0) ns.length).length=(dedup ns).length:=
 ((List.perm_ext_iff_of_nodup (firstMet_nodup _ _) (dedup_nodup ns)).mpr λk=>by rw [dedup_mem,← any_mem,firstMet_any,getD_range,any_mem]).length_eq
theorem set_obj {M:Int->Bool} {n:Nat} (hS:h.SetOf (intKind W.prog W.w) a M n):∃ es ep t,h.get? a=some { cls:=.type "set",dict:=none,data:=.set es ep t,slots:=#[] }/\es.size=n/\t.fits es.size=true:=by
 refine xeeeeaaaaaaa hS λo es ep t ho ex hd u1 u2 u3 hf hn=>⟨es,ep,t,ho.trans (aN some ?_),hn,hf⟩
 cases o with | mk o1 o2 o3 o4=>exact xaa ex λx1 x2 x3=>by cases x1;cases x2;cases x3;cases hd;rfl
theorem bo_set:BO W .set:=λ{n ys A σ} R S=>ow_one λx u q=>by
 revert u
 refine ow_ll λl a us m g nb q=>.be λns e=>.w λhz=>?_
 have h:=allM_some (λx y e=>ii_some e) e
 subst h
 have hl:us.toArray.size=ns.length:=by rw [szA,q.length,aB]
 refine call_set_list (ns:=ns) R.hd (IsL.list g) (VDs.ints.mp q) (by rw [hl];exact au (small_lt hz) (by decide)) λh' tk hS k=>?_
 rw [hl] at hS
 exact xeeeaa (set_obj hS) λes ep t ho hn hf=>EP.grow (x:=.d (.iset (dedup ns))) S (λe=>k _ _ (Heap.lt_size e) e) ⟨_,es,ep,t,rfl,ho,S.fresh,hn.trans (firstMet_len ns),hf⟩
end
theorem entry_update_loop:entryFor table "dict.update.loop"=some Builtin.«dict.update.loop»:=entryFor_of_tree (by kernel_rfl)
theorem plain_update_loop:plainId "dict.update.loop"=true:=by decide +kernel
section
variable {W:Wd} {A:Around} {E:Value->Shared->Prop} {σ:Sg} {s:Shared} {I d l T:Addr} {wr:List Addr} {ks:List Key} {ds:List D} {us:List Value} {i m:Nat} {u v:Value} {k:Key} {x:D} {h:Heap}
noncomputable abbrev uCode (I d:Addr) (i:Int):Code:=.builtin "dict.update.loop" ⟨[.ref d,.ref I,rawInt i,.none],[]⟩
noncomputable def uTake (d:Addr) (i:Int) (pair:List Value):Sem Unit:=match pair with
 | [k,v]=>holding [k,v] (dictSet d k v)
 | l=>do
  rule "dict.update.element-length"
  raiseError "ValueError" s!"dictionary update sequence element #{i} has length {l.length}; 2 is required"
noncomputable def uItem (I d:Addr) (i:Int):Option Value->Sem Fin
 | some item=>do
  holding [item] do
   let pair ← (Builtin.Dict.pairItems item).tryCatch λe=>do
    if !(← isInstance e (.type "TypeError")) then throw e
    rule "dict.update.element-no-sequence"
    raiseError "TypeError" s!"cannot convert dictionary update sequence element #{i} to a sequence"
   uTake d i pair
  again (uCode I d (i+1))
 | none=>do Builtin.Dict.addKeywords d [];ret .none
theorem uRun {Q:PySem.Fin->Shared->Prop} {j:Int} (h:wpAny W.m A (pyNext (.ref I)) (λo s=>wpAny W.m A (uItem I d j o) Q E s) E s):wpAny W.m A (Builtin.«dict.update.loop» ⟨[.ref d,.ref I,rawInt j,.none],[]⟩) Q E s:=
 aL (wpAny_mono h (λo s h=>match o with
  | none=>h
  | some v=>h) λu1 u2 e=>e)
theorem uStep {Q:PySem.Fin->Shared->Prop} {j:Int} (g:s.heap.get? T=some (tupO #[u,v] m)) (h:wpAny W.m A (dictSet d u v) (λu1 s=>Q (.again (uCode I d (j+1))) s) NoE s):wpAny W.m A (uItem I d j (some (.ref T))) Q NoE s:=by
 refine aL (aH (aL (wpAny_tryCatch ?_)))
 show wpAny _ _ (typeOf (.ref T)>>=λt=>if t==.type "list"||t==.type "tuple" then seqItems? (.ref T)>>=λo=>pure (o.getD #[]).toList else pyIter (.ref T)>>=collect) _ _ _
 refine aL (wpAny_typeOf (T:="tuple") ⟨_,g,rfl⟩ ?_)
 refine wif_p (by decide) ?_
 exact aL (wpAny_seqItems g rfl (aM (aH (wpAny_mono h (λu1 s h=>aM h) λu1 u2 z=>z.elim))))
noncomputable abbrev Sg.dc (σ:Sg) (d:Addr) (wr:List Addr):Sg:=⟨λa=>σ.ban a\/a∈d::wr,σ.r,σ.H,σ.s⟩
structure DC (σ:Sg) (d:Addr) (wr:List Addr):Prop where
 new:∀ {b},b∈d::wr->σ.s.heap.get? b=none
 ne:d∉wr
theorem DC.ex (C:DC σ d wr) (k:∀ {b o},σ.s.heap.get? b=some o->h.get? b=some o):Ex σ.s.heap σ.ban h (σ.dc d wr).ban:=⟨λu1 e=>k e,λz=>z.imp id C.new⟩
theorem DC.hb (C:DC σ d wr) (S:HS W σ) {b:Addr} (m:b∈wr):(σ.dc d wr).ban b/\¬ Live σ.r b/\b≠d:=⟨.inr (.tail _ m),λz=>S.ab (S.liveB z) (C.new (.tail _ m)),λe=>C.ne (e▸m)⟩
theorem DC.go (C:DC σ d wr) (S:HS W σ) (S1:HS W ((σ.dc d wr).at s)) {h':Heap} {tk:Nat} (hs:∀ b o,b∉wr->s.heap.get? b=some o->h'.get? b=some o) (he:∀ {b},b∈wr->∃ o,h'.get? b=some o):Go W (·∈wr) ((σ.dc d wr).at s) ((σ.dc d wr).at { s with heap:=h',toks:=tk }):=
 Go.frames S1 (λm=>(C.hb S m).1) (λm=>(C.hb S m).2.1) (λn e=>hs _ _ n e) he
structure PairSrc (W:Wd) (A:Around) (I d:Addr) (wr:List Addr) (ks:List Key) (ds:List D) (σ:Sg) (St:Nat->Heap->Prop):Prop where
 frame:∀ {i h h'},St i h->(∀ {b o},b≠d->h.get? b=some o->h'.get? b=some o)->St i h'
 next:∀ {i k x s} {Q:Option Value->Shared->Prop},ks[i]?=some k->ds[i]?=some x->(∃ o,s.heap.get? d=some o)->HS W ((σ.dc d wr).at s)->St i s.heap->(∀ T u v m h' tk,h'.get? T=some (tupO #[u,v] m)->KV h' (σ.dc d wr).ban u k->VD h' (σ.dc d wr).ban v x->St (i+1) h'->Go W (·∈wr) ((σ.dc d wr).at s) ((σ.dc d wr).at { s with heap:=h',toks:=tk })->Q (some (.ref T)) { s with heap:=h',toks:=tk })->wpAny W.m A (pyNext (.ref I)) Q NoE s
 done:∀ {s} {Q:Option Value->Shared->Prop},St ks.length s.heap->(∀ h' tk,(∀ b o,b∉wr->s.heap.get? b=some o->h'.get? b=some o)->Q none { s with heap:=h',toks:=tk })->wpAny W.m A (pyNext (.ref I)) Q NoE s
theorem Go.both {fr:Addr->Prop} {τ υ:Sg} (g:Go W fr σ τ) (k:Go W fr τ υ) (hl:∀ {x},fr x->¬ Live σ.r x):Go W fr σ υ:=g.trans' k .inl hl
theorem Go.all {fr:Addr->Prop} {τ:Sg} {a:Addr} {o:Obj} (g:Go W fr σ τ) (w:τ.H.w=σ.H.w) (n:¬ fr a) (e:σ.s.heap.get? a=some o):τ.s.heap.get? a=some o:=(Classical.em (Live σ.r a)).elim (λl=>g.nw w l e) λl=>g.keep l n e
theorem Fill.go {a:Addr} {τ:Sg} {fr:Addr->Prop} {xs:List V} (F:Fill W σ a ks xs) (S:HS W σ) (g:Go W fr σ τ) (hf:∀ {x},fr x->σ.ban x) (n:¬ fr a) (hl:¬ Live σ.r a):Fill W τ a ks xs:=
 xeea F λes m R q=>⟨es,m,R.step (g.exF S hf) (g.keep hl n R.at_),q.step (g.exF S hf) g.rho⟩
theorem Fill.fin {h':Heap} {tk:Nat} (F:Fill W ((σ.dc d wr).at s) d ks (ds.map .d)) (C:DC σ d wr) (S:HS W σ) (g:Go W (λb=>b=d\/b∈wr) σ ((σ.dc d wr).at s)) (k:∀ b o,b∉wr->s.heap.get? b=some o->h'.get? b=some o):EP W σ (.d (.dict ks ds),σ.H) (.ref d) { s with heap:=h',toks:=tk }:=by
 have n:∀ {b o},σ.s.heap.get? b=some o->b∉d::wr:=λe m=>absurdS e (C.new m)
 have X:Ex s.heap (σ.dc d wr).ban h' σ.ban:=⟨λnb e=>k _ _ (λm=>nb (.inr (.tail _ m))) e,λz=>.inl (.inl z)⟩
 refine xee g.rest λh0 t0 e=>xeea F λes m R q=>?_
 have e:s={ σ.s with heap:=h0,toks:=t0 }:=e
 rw [show ({ s with heap:=h',toks:=tk }:Shared)={ σ.s with heap:=h',toks:=tk } from by rw [e]]
 exact EP.grow (x:=.d (.dict ks ds)) S (λe=>k _ _ (λm=>n e (.tail _ m)) (g.all rfl (λz=>n e (z.elim (λe=>e▸.head _) (.tail _))) e)) ⟨d,es,m,rfl,R.step X (k _ _ C.ne R.at_),λz=>S.ab z (C.new (.head _)),(All2.toD q).step X⟩
theorem upd_loop {St:Nat->Heap->Prop} {R:Result->Shared->Prop} (hu:A.units+10 < cLine) (C:DC σ d wr) (S:HS W σ) (P:PairSrc W A.in1 I d wr ks ds σ St) (K:Kin ks) (hl:ks.length=ds.length) (hz:small ks.length=true) (hR:∀ s',EP W σ (.d (.dict ks ds),σ.H) (.ref d) s'->R (.ok (.ret .none)) s') :
  ∀ {k i:Nat} {s:Shared},ks.length=i+k->Go W (λb=>b=d\/b∈wr) σ ((σ.dc d wr).at s)->St i s.heap->Fill W ((σ.dc d wr).at s) d (ks.take i) ((ds.take i).map .d)->codeAny W.m A (uCode I d (i:Int)) R s:=by
 have fb:∀ {x},x∈wr->(σ.dc d wr).ban x:=λh=>(C.hb S h).1
 have nd:σ.s.heap.get? d=none:=C.new (.head _)
 have ld:¬ Live σ.r d:=λz=>S.ab (S.liveB z) nd
 have fl:∀ {x},(x=d\/x∈wr)->¬ Live σ.r x:=λh=>h.elim (λe=>e▸ld) λh=>(C.hb S h).2.1
 intro k
 induction k with
 | zero=>
  intro i s hk g st F
  have hk:ks.length=i:=hk
  refine codeAny_builtin entry_update_loop ?_
  rw [Around.under_plainId plain_update_loop _]
  rw [List.take_of_length_le (Nat.le_of_eq hk),List.take_of_length_le (Nat.le_of_eq (hl.symm.trans hk))] at F
  exact uRun (wpAny_trueE (P.done (hk▸st) λh' tk k=>aL (aM (aM (hR _ (F.fin C S g k))))))
 | succ k ih=>
  intro i s hk g st F
  have hlt:i < ks.length:=by rw [hk];exact Nat.lt_add_of_pos_right (Nat.succ_pos _)
  have hx1:=ad hlt
  have hx2:=ad (hl▸hlt)
  have K':=K
  rw [← List.take_append_drop i ks,List.drop_eq_getElem_cons hlt] at K'
  refine xaa K'.split λw1 w2 u1=>codeAny_builtin entry_update_loop ?_
  rw [Around.under_plainId plain_update_loop _]
  refine uRun (wpAny_trueE (P.next hx1 hx2 (xeea F λes m R u1=>⟨_,R.at_⟩) g.hs st λT u v m h' tk gT qu qv st' g2=>?_))
  have F2:=F.go g.hs g2 fb C.ne ld
  have hsm:small (ks.take i).length=true:=aF (au (by rw [List.length_take];exact Nat.min_le_right _ _) (small_lt hz))
  refine wpAny_trueE (uStep gT (post (dictPush_ok (W:=W) (a:=d) (σ:=(σ.dc d wr).at { s with heap:=h',toks:=tk }) (y:=.d ds[i]) (au (Nat.add_le_add_left (by decide:1<=10) A.units) hu) F2 w1 hsm w2 g2.hs (.inr (.head _)) ld qu qv) λu1 s3 ⟨g3,F3⟩=>⟨plainId_quiet plain_update_loop _,?_⟩))
  refine ih (i:=i+1) (hk.trans (by rw [Nat.add_assoc,Nat.add_comm 1 k])) ((g.both (g2.mono .inr) fl).both (g3.mono .inl) fl) (P.frame st' λhb e=>g3.all rfl hb e) ?_
  rw [List.take_add_one,List.take_add_one,hx1,hx2,aC]
  exact F3
end
theorem keys_list:typeLookup (.type "list") "keys"=pure none:=am_miss_of_fast (by kernel_rfl)
theorem keys_enum:typeLookup (.type "enumerate") "keys"=pure none:=am_miss_of_fast (by kernel_rfl)
theorem enum_getattr_none:typeLookup (.type "enumerate") "__getattr__"=pure none:=am_miss_of_fast (by kernel_rfl)
theorem entry_enum_getattribute:entryFor table "enumerate.__getattribute__"=some Builtin.«object.__getattribute__»:=
 entryFor_alias (id':="object.__getattribute__") (by kernel_rfl) (by decide +kernel) (by decide +kernel) (by kernel_rfl)
theorem miss_enum (a:Addr) (fs:Array Value) (sl:Array (Option Value)) (name:Str) (u:Tok) (hmiss:typeLookup (.type "enumerate") name=pure none) (hname:(["__module__","__name__","__qualname__","__doc__","__annotations__"]:List Str).contains name=false) (hsz:name.length+100<=sizeLine) :
  Meets (Builtin.«object.__getattribute__» ⟨[.ref a,.str name u],[]⟩) (λA R s=>s.heap.get? a=some { cls:=.type "enumerate",dict:=none,data:=.fields fs,slots:=sl }/\raisesAttr (.ref a) name A R s):=
 Meets.of_wp λprog w A R s hs=>by
  obtain ⟨hp,g,d,tk,os⟩:=s
  refine xa hs λhx hs=>?_
  have hT:(⟨hp,g,d,tk,os⟩:Shared).TypeIs (.ref a) "enumerate":=⟨_,hx,rfl⟩
  unfold Builtin.«object.__getattribute__»
  repeat (any_goals (first | assumption | wp_step))
  refine wif_n (by rw [hname];exact Bool.false_ne_true) ?_
  repeat (any_goals (first | assumption | wp_step))
  exact wpAny_raiseAttrError hs.1 hs.2 (attrMsg_fits (by decide +kernel) hsz)
theorem nokeys_list {prog:Program} {w:World} {A:Around} {E:Value->Shared->Prop} {s:Shared} {a:Addr} {xs:Array Value} {k:Nat} {Q:Option Value->Shared->Prop}
  (hx:s.heap.get? a=some { cls:=.type "list",dict:=none,data:=.seq xs k,slots:=#[] }) (hA:A.handled=none)
  (h:∀ h' tk,(∀ b o,s.heap.get? b=some o->h'.get? b=some o)->Q none { s with heap:=h',toks:=tk }) :
  wpAny (model prog w) A (getAttr? (.ref a) "keys") Q E s:=by
 obtain ⟨hp,g,d,tk,os⟩:=s
 have hT:∀ tk',(⟨hp,g,d,tk',os⟩:Shared).TypeIs (.ref a) "list":=λu1=>⟨_,hx,rfl⟩
 have f1:=sub_AttributeError
 have f3:=PySem.F.slot_list_getattribute.lookup
 have f4:=PySem.F.slot_list_getattribute.bind (.ref a)
 have f5:=am_list_getattr_none
 unfold getAttr? getAttrBy? getAttrBy
 repeat (any_goals (first | assumption | exact hT _ | ((with_reducible show wpAny _ _ (call (Value.builtin "list.__getattribute__") _ _) _ _ _);refine call_meets PySem.F.slot_list_getattribute (hT _) am_entry_list_getattribute (PySem.F.args_list_getattribute_2 _ _) (meets_getattribute_miss_list a xs k #[] "keys" _ keys_list (by decide +kernel)) ⟨hx,hA,λh' tk' e hx'=>?_⟩) | wp_step))
 refine xee (hx'.there) λt' u' he=>?_
 show wpAny _ _ (getattributeRaised _ _ _ _ _ _ _) _ _ _
 unfold getattributeRaised
 repeat (any_goals (first | assumption | wp_step))
 exact h _ _ hx'.keeps
theorem nokeys_enum {prog:Program} {w:World} {A:Around} {E:Value->Shared->Prop} {s:Shared} {a:Addr} {fs:Array Value} {Q:Option Value->Shared->Prop}
  (hx:s.heap.get? a=some { cls:=.type "enumerate",dict:=none,data:=.fields fs,slots:=#[] }) (hA:A.handled=none)
  (h:∀ h' tk,(∀ b o,s.heap.get? b=some o->h'.get? b=some o)->Q none { s with heap:=h',toks:=tk }) :
  wpAny (model prog w) A (getAttr? (.ref a) "keys") Q E s:=by
 obtain ⟨hp,g,d,tk,os⟩:=s
 have hT:∀ tk',(⟨hp,g,d,tk',os⟩:Shared).TypeIs (.ref a) "enumerate":=λu1=>⟨_,hx,rfl⟩
 have f1:=sub_AttributeError
 have f3:=PySem.F.slot_enumerate_getattribute.lookup
 have f4:=PySem.F.slot_enumerate_getattribute.bind (.ref a)
 have f5:=enum_getattr_none
 unfold getAttr? getAttrBy? getAttrBy
 repeat (any_goals (first | assumption | exact hT _ | ((with_reducible show wpAny _ _ (call (Value.builtin "enumerate.__getattribute__") _ _) _ _ _);refine call_meets PySem.F.slot_enumerate_getattribute (hT _) entry_enum_getattribute (PySem.F.args_enumerate_getattribute_2 _ _) (miss_enum a fs #[] "keys" _ keys_enum (by decide +kernel) (by size_fits)) ⟨hx,hA,λh' tk' e hx'=>?_⟩) | wp_step))
 refine xee (hx'.there) λt' u' he=>?_
 show wpAny _ _ (getattributeRaised _ _ _ _ _ _ _) _ _ _
 unfold getattributeRaised
 repeat (any_goals (first | assumption | wp_step))
 exact h _ _ hx'.keeps
section
variable {W:Wd} {A:Around} {E:Value->Shared->Prop} {σ:Sg} {s:Shared} {I d l T:Addr} {wr:List Addr} {ks:List Key} {ds:List D} {us:List Value} {i m:Nat} {u v va:Value} {k:Key} {x:D} {h h' h0 h1:Heap} {ban:Addr->Prop}
theorem init_run {T:String} {Q:PySem.Fin->Shared->Prop} (hd:s.TypeIs (.ref d) "dict") (ht:s.TypeIs va T) (hT:(Value.type T != Value.type "dict")=true) (h:wpAny W.m A (getAttr? va "keys") (λo s=>o=none/\wpAny W.m A (pyIter va) (λit s=>Q (.again (.builtin "dict.update.loop" ⟨[.ref d,it,rawInt 0,.none],[]⟩)) s) E s) E s):wpAny W.m A (Builtin.«dict.__init__» ⟨[.ref d,va],[]⟩) Q E s:=by
 refine aL (aL (wpAny_notOrdered_dict hd (aM ?_)))
 show wpAny W.m A (typeOf va>>=λt=>if t != .type "dict" then getAttr? va "keys">>=λo=>_ else _) Q E s
 refine aL (wpAny_typeOf ht ?_)
 refine wif_p hT ?_
 exact aL (wpAny_mono h (λo s h=>xa h λe h2=>by subst e;exact aL (wpAny_rule (aL (wpAny_mono h2 (λit s h=>aM h) λu1 u2 e=>e)))) λu1 u2 e=>e)
theorem dict_call {T:String} {hb1:Heap} {tk1:Nat} (O:WdOK W) (hu:A.units+30 < cLine) (S:HS W σ) (k0:∀ {b o},σ.s.heap.get? b=some o->hb1.get? b=some o) (K:Kin ks) (hl:ks.length=ds.length) (hz:small ks.length=true) (hT:(Value.type T != Value.type "dict")=true)
  (hty:∀ {s':Shared},(∀ b o,hb1.get? b=some o->s'.heap.get? b=some o)->s'.TypeIs va T)
  (hky:∀ {A':Around} {E:Value->Shared->Prop} {s':Shared} {Q:Option Value->Shared->Prop},A'.handled=A.handled->(∀ b o,hb1.get? b=some o->s'.heap.get? b=some o)->(∀ h' tk,(∀ b o,s'.heap.get? b=some o->h'.get? b=some o)->Q none { s' with heap:=h',toks:=tk })->wpAny W.m A' (getAttr? va "keys") Q E s')
  (hit:∀ {s':Shared} {Q:Value->Shared->Prop} {E:Value->Shared->Prop},(∀ b o,hb1.get? b=some o->s'.heap.get? b=some o)->s'.heap.get? hb1.objs.size=some (dctO #[] 0) ->
   (∀ I wr St h' tk,(∀ b o,s'.heap.get? b=some o->h'.get? b=some o)->(∀ {b},b∈wr->∃ o,h'.get? b=some o)->DC σ hb1.objs.size wr->PairSrc W A.in1.in1 I hb1.objs.size wr ks ds σ St->St 0 h'->Q (.ref I) { s' with heap:=h',toks:=tk }) ->
   wpAny W.m A.in1.in1 (pyIter va) Q E s') :
  wpAny W.m A (call (.type "dict") [va]) (EP W σ (.d (.dict ks ds),σ.H)) E { σ.s with heap:=hb1,toks:=tk1 }:=by
 refine callType_codes (Q₁:=λobj s₁=>obj=.ref hb1.objs.size/\s₁={ σ.s with heap:=hb1.push emptyDict,toks:=tk1 }) PySem.F.kt_called_dict (PySem.F.kt_typeCall_dict_1 _) PySem.F.entry_dict_init (kt_code_dict_new _ ⟨rfl,rfl⟩) λobj s₁ e=>?_
 obtain ⟨rfl,rfl⟩:=e
 have hg:(hb1.push emptyDict).get? hb1.objs.size=some (dctO #[] 0):=am _ rfl
 have hTd:Shared.TypeIs { σ.s with heap:=hb1.push emptyDict,toks:=tk1 } (.ref hb1.objs.size) "dict":=⟨_,hg,rfl⟩
 have k1:∀ b o,hb1.get? b=some o->(hb1.push emptyDict).get? b=some o:=λb o e=>ah _ e
 refine ⟨hTd,PySem.F.args_dict_init_2 _ _,?_⟩
 refine init_run hTd (hty k1) hT (hky rfl k1 λh2 tk2 k2=>⟨rfl,hit (λb o e=>k2 b o (k1 b o e)) (k2 _ _ hg) λI wr St h3 tk3 k3 he C P hst=>⟨plainId_quiet plain_update_loop _,?_⟩⟩)
 have kk:∀ {b o},σ.s.heap.get? b=some o->h3.get? b=some o:=λe=>k3 _ _ (k2 _ _ (k1 _ _ (k0 e)))
 have hd3:h3.get? hb1.objs.size=some (dctO #[] 0):=k3 _ _ (k2 _ _ hg)
 have g0:=Go.more (wr:=hb1.objs.size::wr) (tk:=tk3) S kk λb m=>⟨C.new m,(aG.mp m).elim (λe=>e▸⟨_,hd3⟩) he⟩
 have sm:(hb1.objs.size==sysModules)=false:=by
  refine xeea O.big λa o h1' h2=>beq_eq_false_iff_ne.mpr λ(e:hb1.objs.size=1)=>?_
  have:=Heap.lt_size (k0 (S.keep h2))
  rw [e] at this
  exact absurd (au h1' this) (Nat.lt_irrefl _)
 exact upd_loop (A:=A.in1) (au (Nat.add_le_add_left (by decide:1+10<=30) A.units) hu) C S P K hl hz (λs' q=>⟨rfl,q⟩) (i:=0) (Nat.zero_add _).symm (g0.mono λz=>z.elim) hst ⟨[],0,⟨hd3,sm,.nil,.nil⟩,.nil⟩
inductive PairAt (h:Heap) (ban:Addr->Prop) (k:Key) (x:D):Value->Prop
 | mk (T:Addr) (a b:Value) (m:Nat) (g:h.get? T=some (tupO #[a,b] m)) (nb:¬ ban T) (qk:KV h ban a k) (qx:VD h ban b x):PairAt h ban k x (.ref T)
theorem tt_some {d:D} {xs:List D} (e:d.tt=some xs):d=.tup xs:=by
 cases d with
 | tup=>cases e;rfl
 | _=>exact noS e
theorem two_some {α:Type} {l:List α} {p:α×α} (e:two l=some p):l=[p.1,p.2]:=match l,e with
 | [u1,u2],e=>by cases e;rfl
theorem pair_at {a b:D} (q:VD h ban u (.tup [a,b])) (e:keyOf a=some k):PairAt h ban k b u:=by
 refine xeeeaaa q λT vs m e1 g nb q=>xeeaa q λa' vs' e2 qa q=>xeeaa q λb' vs'' e3 qb (q:vs''=[])=>?_
 subst q;subst e3;subst e2;subst e1
 exact ⟨T,a',b',m,g,nb,(ow_key qa).use e,qb⟩
noncomputable def PairsR (h:Heap) (ban:Addr->Prop) (us:List Value) (ks:List Key) (ds:List D):Prop:=∀ {i:Nat} {k:Key} {x:D} {v:Value},ks[i]?=some k->ds[i]?=some x->us[i]?=some v->PairAt h ban k x v
theorem PairsR.cons (q:PairAt h ban k x u) (r:PairsR h ban us ks ds):PairsR h ban (u::us) (k::ks) (x::ds):=λ{i u1 u2 u3}=>match i with
 | 0=>λh1 h2 h3=>by cases h1;cases h2;cases h3;exact q
 | i+1=>r (i:=i)
theorem pairs_at {l:List D}:∀ {us:List Value},VDs h ban us l->Ow (dictPairs l) λp=>Kin p.1/\p.1.length=p.2.length/\us.length=p.1.length/\PairsR h ban us p.1 p.2:=by
 induction l with
 | nil=>exact λq=>⟨.nil,rfl,by rw [(q:_=[])];rfl,λh=>noS h⟩
 | cons d l ih=>
  refine λq=>.be λxs e1=>.be λab e2=>.be λkk e3=>.be λr e4=>.w λhc=>xeeaa q λu us e q1 q2=>xaaa ((ih q2).use e4) λi1 i2 i3 i4=>?_
  subst e
  cases tt_some e1
  cases two_some e2
  exact ⟨i1.cons (b1 hc) (bn (b2 hc)),aN (·+1) i2,aN (·+1) i3,PairsR.cons (pair_at q1 e3) i4⟩
theorem PairAt.step {ban':Addr->Prop} (X:Ex h ban h' ban') (q:PairAt h ban k x v):PairAt h' ban' k x v:=by
 cases q with | mk T a b m g nb qk qx=>exact ⟨T,a,b,m,X.k nb g,X.nb nb g,KV.step X qk,VD.step X qx⟩
theorem src_pairs (hh:A.handled=none) (S:HS W σ) (C:DC σ d [I]) (g:σ.s.heap.get? l=some (lstO us.toArray m)) (hl:us.length=ks.length) (q:PairsR σ.s.heap σ.ban us ks ds) :
  PairSrc W A I d [I] ks ds σ (λi h=>h.IsListIter I l i/\h.IsList l us.toArray/\∀ {b o},σ.s.heap.get? b=some o->h.get? b=some o):=
 have W0:=Walks.list (prog:=W.prog) (w:=W.w) hh I l (λz=>absurdS g (C.new (z▸.tail _ (.head _)))) us.toArray
 {frame:=λst k=>⟨st.1.at λo e=>k (λz=>C.ne (ao.mpr z.symm)) e,st.2.1.at λo e=>k (λz=>absurdS g (C.new (z▸.head _))) e,λe=>k (λz=>absurdS e (C.new (z▸.head _))) (st.2.2 e)⟩
  next:=λ{i k x s Q} hk hx u1 S1 st hQ=>by
   refine W0.item i s _ _ (by rw [szA,hl];exact (aa.mp hk).1) ⟨st.1,st.2.1⟩ λv h' tk hP st' hk'=>?_
   have kp:∀ {b o},σ.s.heap.get? b=some o->h'.get? b=some o:=λe=>hk' _ _ (λz=>absurdS e (C.new (.tail _ z))) (st.2.2 e)
   cases (q hk hx (by simpa using hP)).step (C.ex kp) with | mk T a b m g nb qk qx=>exact hQ T a b m h' tk g qk qx ⟨st'.1,st'.2,kp⟩ (C.go S S1 hk' λm=>by rw [ao.mp m];exact xea st'.1 λo e u1=>⟨o,e⟩)
  done:=λ{s Q} st hQ=>W0.done s _ _ (by rw [szA,hl];exact ⟨st.1,st.2.1⟩) hQ }
theorem bo_dict (O:WdOK W):BO W .dict:=λ{n ys A σ} R S=>ow_one λx u q=>by
 revert u
 refine ow_ll λl a us m g nb q=>.w λhz=>.m (.of λp ep=>xaaa ((pairs_at q).use ep) λK hl hu P=>?_)
 refine dict_call (T:="list") (hb1:=σ.s.heap) (tk1:=σ.s.toks) O (R.room (by decide)) S (λe=>e) K hl (by rw [← hu,q.length];exact hz) (by decide) (λk=>⟨_,k _ _ g,rfl⟩) (λhA k hQ=>nokeys_list (k _ _ g) (hA.trans R.hd) hQ) λ{s' Q E} k hd hQ=>?_
 have hli:s'.heap.IsList a us.toArray:=(IsL.list g).at λo e=>k _ _ e
 have C:DC σ σ.s.heap.objs.size [s'.heap.objs.size]:=⟨λm=>(aG.mp m).elim (λe=>e▸none_size _) λm=>by
  rw [ao.mp m]
  cases e:σ.s.heap.get? s'.heap.objs.size with
  | none=>rfl
  | some o=>exact absurd (Heap.lt_size (k _ _ e)) (Nat.lt_irrefl _),λm=>absurd (Heap.lt_size hd) (by rw [← ao.mp m];exact Nat.lt_irrefl _)⟩
 exact wpAny_pyIter_list hli (hQ _ _ _ _ s'.toks (λb o e=>ah _ e) (λm=>by rw [ao.mp m];exact ⟨_,am _ rfl⟩) C (src_pairs (A:=A.in1.in1) R.hd S C g hu P) ⟨⟨_,am _ rfl,rfl,rfl⟩,hli.push _,λe=>ah _ (k _ _ e)⟩)
end
end Mine.Internal
namespace Mine.Internal
open PySem PySem.W PySem.Calls PyProof.Rows
open Sem (wp)
theorem wpAny_loadIfAlive {M:Model} {A:Around} {E:Value->Shared->Prop} {s:Shared} {a:Addr} {Q:Option Obj->Shared->Prop} (h:Q (s.heap.get? a) s):wpAny M A (loadIfAlive a) Q E s:=λΓ p u1=>by
 show wp M Γ (.loadIfAlive a .pure) _ _ p s
 simpa using h
abbrev IsEnumBusy (h:Heap) (e it:Addr) (i:Int) (old:Value) (T:Addr) (b:Bool):Prop:=
 h.get? e=some { cls:=.type "enumerate",dict:=none,data:=.fields #[rawInt T,.bool b,.ref it,rawInt i,.none,old],slots:=#[] }
section
variable {prog:Program} {w:World} {A:Around} {E:Value->Shared->Prop} {s:Shared}
structure EG (e it l:Addr) (i:Nat) (hp h:Heap):Prop where
 itr:h.IsListIter it l (i+1)
 fr:∀ b o,b≠e->b≠it->hp.get? b=some o->h.get? b=some o
structure EF (e it l:Addr) (i:Nat) (hp h:Heap):Prop where
 g:EG e it l i hp h
 sz:h.objs.size=hp.objs.size
section
variable {e it l T:Addr} {i:Nat} {hp h h':Heap}
theorem EG.same' (X:EG e it l i hp h) (hne:e≠it) (S:Heap.SameBut e h h'):EG e it l i hp h':=⟨X.itr.extBut S.extBut (Ne.symm hne),λb o hb hi z=>S.extBut b o hb (X.fr b o hb hi z)⟩
theorem EF.same (X:EF e it l i hp h) (hne:e≠it) (S:Heap.SameBut e h h'):EF e it l i hp h':=⟨X.g.same' hne S,S.1.trans X.sz⟩
theorem EF.push {o:Obj} (X:EF e it l i hp h):EG e it l i hp (h.push o):=⟨xea X.g.itr λo ho r=>⟨o,ah _ ho,r⟩,λb o hb hi z=>ah _ (X.g.fr b o hb hi z)⟩
theorem EG.left (X:EG e it l i hp h) (hT:∃ o,hp.get? T=some o) (he:∃ o,h.get? e=some o):∃ o,h.get? T=some o:=by
 by_cases q:T=e
 ·exact q▸he
 ·by_cases q2:T=it
  ·exact q2▸xea X.itr λo ho u1=>⟨o,ho⟩
  ·exact xe hT λo ho=>⟨o,X.fr T o q q2 ho⟩
end
theorem owned_free {e it T:Addr} {b:Bool} {i:Int} {old:Value} {Q:Bool->Shared->Prop} (he:IsEnumBusy s.heap e it i old T b) (hT:∃ o,s.heap.get? T=some o) (h:∀ h' b',IsEnumBusy h' e it i old T b'->Heap.SameBut e s.heap h'->Q false { s with heap:=h' }):wpAny (model prog w) A (Builtin.SmallTypes.ownedTupleIsFree (.ref e)) Q E s:=by
 unfold Builtin.SmallTypes.ownedTupleIsFree
 refine aL (wpAny_field he rfl (x:=rawInt T) rfl ?_)
 show wpAny _ _ (loadIfAlive (T:Int).toNat>>=_) _ _ _
 refine xe hT λoT hoT=>aL (wpAny_loadIfAlive ?_)
 rw [Int.toNat_natCast,hoT]
 simp only [Option.isNone_some,Bool.false_eq_true,if_false]
 refine aL (wpAny_field he rfl (x:=.bool b) rfl ?_)
 cases b with
 | true=>exact wif_n (by decide) (aL (aM (aM (h _ true he ⟨rfl,λu1 u2=>rfl⟩))))
 | false=>exact wif_p (by decide) (aL (wpAny_setField_rec he (by simp) λh₅ he₅ hs₅=>aM (h h₅ true he₅ hs₅)))
theorem enum_next_busy {e it l T:Addr} {b:Bool} {i:Nat} {items:Array Value} {x old:Value} {Q:Value->Shared->Prop}
  (he:IsEnumBusy s.heap e it i old T b) (hT:∃ o,s.heap.get? T=some o) (hit:s.heap.IsListIter it l i) (hl:s.heap.IsList l items) (hx:items[i]?=some x) (hne:e≠it)
  (hQ:∀ h' b',IsEnumBusy h' e it ((i:Int)+1) old T b'->h'.IsListIter it l (i+1) ->
   h'.get? s.heap.objs.size=some { cls:=.type "tuple",data:=.seq #[.int i s.toks,x] } ->
   (∀ b o,b≠e->b≠it->s.heap.get? b=some o->h'.get? b=some o)->(∃ o,h'.get? T=some o)->Q (.ref s.heap.objs.size) { s with heap:=h',toks:=s.toks+1 }) :
  wpAny (model prog w) A (Builtin.«enumerate.__next__» ⟨[.ref e],[]⟩) (λfin s'=>∃ v,fin=.done (.ret v)/\Q v s') E s:=by
 obtain ⟨hp,g,d,tk,os⟩:=s
 show wpAny _ _ (field (.ref e) 2>>=_) _ _ _
 refine aL (wpAny_field he rfl (x:=.ref it) rfl (aL (wpAny_nextOf_list_item hit hl hx λh₁ hit₁ hs₁=>?_)))
 have X:EF e it l i hp h₁:=⟨⟨hit₁,λb o u1 hb z=>Heap.SameBut.extBut hs₁ b o hb z⟩,hs₁.1⟩
 have he₁:IsEnumBusy h₁ e it i old T b:=(hs₁.2 e hne).trans he
 clear hit₁ hs₁ hit hl hx
 refine aL (wpAny_field he₁ rfl (x:=rawInt i) rfl ?_)
 show wpAny _ _ (field (.ref e) 4>>=_) _ _ _
 refine aL (wpAny_field he₁ rfl (x:=.none) rfl ?_)
 show wpAny _ _ (mkInt i>>=_) _ _ _
 refine aL (wpAny_mkInt ?_)
 show wpAny _ _ (setField (.ref e) 3 (rawInt ((i:Int)+1))>>=_) _ _ _
 refine aL (wpAny_setField_rec he₁ (by simp) λh₂ he₂ hs₂=>?_)
 have X:=X.same hne hs₂
 clear he₁ hs₂
 refine aL (wpAny_setField_rec he₂ (by simp) λh₃ he₃ hs₃=>?_)
 have X:=X.same hne hs₃
 clear he₂ hs₃
 refine aL (wpAny_newTuple (aL (owned_free (ah _ he₃) (X.push.left hT ⟨_,ah _ he₃⟩) λh₅ b' he₅ hs₅=>?_)))
 simp only [Bool.false_eq_true,if_false]
 refine aL (aM (aM ⟨_,rfl,?_⟩))
 have Y:=X.push.same' hne hs₅
 rw [show h₃.objs.size=hp.objs.size from X.sz]
 exact hQ h₅ b' he₅ Y.itr (Heap.SameBut.extBut hs₅ _ _ (Nat.ne_of_gt (Heap.lt_size he)) (by rw [← show h₃.objs.size=hp.objs.size from X.sz];exact am _ rfl)) Y.fr (Y.left hT ⟨_,he₅⟩)
theorem next_enum_busy {e it l T:Addr} {b:Bool} {i:Nat} {items:Array Value} {x old:Value} {Q:Option Value->Shared->Prop}
  (he:IsEnumBusy s.heap e it i old T b) (hT:∃ o,s.heap.get? T=some o) (hit:s.heap.IsListIter it l i) (hl:s.heap.IsList l items) (hx:items[i]?=some x) (hne:e≠it)
  (hQ:∀ h' b',IsEnumBusy h' e it ((i:Int)+1) old T b'->h'.IsListIter it l (i+1) ->
   h'.get? s.heap.objs.size=some { cls:=.type "tuple",data:=.seq #[.int i s.toks,x] } ->
   (∀ b o,b≠e->b≠it->s.heap.get? b=some o->h'.get? b=some o)->(∃ o,h'.get? T=some o)->Q (some (.ref s.heap.objs.size)) { s with heap:=h',toks:=s.toks+1 }) :
  wpAny (model prog w) A (pyNext (.ref e)) Q E s:=by
 have hT':s.TypeIs (.ref e) "enumerate":=⟨_,he,rfl⟩
 unfold pyNext
 exact aL (wpAny_attempt (wpAny_callSpecial?_slot (name:=Str.ofString "__next__") hT' PySem.F.slot_enumerate_next
  (wpAny_call_entry PySem.F.slot_enumerate_next hT' PySem.F.entry_enumerate_next
   (enum_next_busy he hT hit hl hx hne λh' b a c d k q=>aM (hQ h' b a c d k q)) (PySem.F.args_enumerate_next_1 _))))
theorem next_enum_end {e it l T:Addr} {b:Bool} {i:Nat} {items:Array Value} {old:Value} {Q:Option Value->Shared->Prop} (hh:A.handled=none)
  (he:IsEnumBusy s.heap e it i old T b) (hit:s.heap.IsListIter it l i) (hl:s.heap.IsList l items) (hx:items[i]?=none)
  (hQ:∀ h',Heap.ExtBut it s.heap h'->Q none { s with heap:=h' }):wpAny (model prog w) A (pyNext (.ref e)) Q E s:=by
 have hT:s.TypeIs (.ref e) "enumerate":=⟨_,he,rfl⟩
 unfold pyNext
 refine aL (wpAny_attempt (wpAny_callSpecial?_slot (name:=Str.ofString "__next__") hT PySem.F.slot_enumerate_next
  (wpAny_call_entry PySem.F.slot_enumerate_next hT PySem.F.entry_enumerate_next ?_ (PySem.F.args_enumerate_next_1 _))))
 show wpAny _ _ (field (.ref e) 2>>=_) _ _ _
 refine aL (wpAny_field he rfl (x:=.ref it) rfl ?_)
 refine aL (wpAny_nextOf_list_end hh hit hl hx λh' x he' hx'=>?_)
 refine xea (hx') λo ho hc=>?_
 refine aL (wpAny_isInstance (T:="StopIteration") (b:=true) ⟨o,ho,hc⟩ isSubtype_stop ?_)
 exact aM (hQ _ he')
end
end Mine.Internal
namespace Mine.Internal
open PySem PySem.W PySem.Calls PyProof.Rows
inductive EnAt (h:Heap) (e it d:Addr) (i:Nat):Prop
 | new (z:i=0) (g:IsEnum h e it ((0:Nat):Int) .none)
 | busy (old:Value) (T:Addr) (b:Bool) (g:IsEnumBusy h e it (i:Int) old T b) (n:T≠d) (o:∃ o,h.get? T=some o)
noncomputable def numKeys (n:Nat):List Key:=(List.range n).map λ(i:Nat)=>.i (i:Int)
theorem numKeys_kin (n:Nat):Kin (numKeys n):=
 ⟨List.Pairwise.map _ (λa b h e=>h (by injection e with e;exact Int.ofNat.inj e)) List.nodup_range,λa ha b hb=>xea (aJ.mp ha) λi u1 e=>xea (aJ.mp hb) λj u1 e'=>by rw [← e,← e'];rfl⟩
section
variable {W:Wd} {A:Around} {E:Value->Shared->Prop} {σ:Sg} {s:Shared} {e it d l:Addr} {ds:List D} {us:List Value} {m i:Nat} {h h':Heap}
theorem EnAt.keep (st:EnAt h e it d i) (hed:e≠d) (k:∀ {b o},b≠d->h.get? b=some o->h'.get? b=some o):EnAt h' e it d i:=by
 cases st with
 | new z g=>exact .new z (k hed g)
 | busy old T b g n o=>exact .busy old T b (k hed g) n (xe o λo e=>⟨o,k n e⟩)
theorem EnAt.get (st:EnAt h e it d i):∃ o,h.get? e=some o:=by
 cases st with
 | new z g=>exact ⟨_,g⟩
 | busy old T b g n o=>exact ⟨_,g⟩
theorem EnAt.next {x:Value} {Q:Option Value->Shared->Prop} (st:EnAt s.heap e it d i) (hit:s.heap.IsListIter it l i) (hl:s.heap.IsList l us.toArray) (hx:us[i]?=some x) (hne:e≠it) (hd:∃ o,s.heap.get? d=some o)
  (hQ:∀ h' T t,EnAt h' e it d (i+1)->h'.IsListIter it l (i+1)->h'.get? T=some (tupO #[.int i t,x] 0)->(∀ b o,b∉[e,it]->s.heap.get? b=some o->h'.get? b=some o)->Q (some (.ref T)) { s with heap:=h',toks:=s.toks+1 }):wpAny W.m A (pyNext (.ref e)) Q E s:=by
 have hux:us.toArray[i]?=some x:=by simpa using hx
 have hTd:s.heap.objs.size≠d:=xe hd λo e z=>absurd (Heap.lt_size e) (z▸Nat.lt_irrefl _)
 have kk:∀ {h':Heap},(∀ b o,b≠e->b≠it->s.heap.get? b=some o->h'.get? b=some o)->∀ b o,b∉[e,it]->s.heap.get? b=some o->h'.get? b=some o:=λk b o nb=>k b o (λz=>nb (z▸.head _)) λz=>nb (z▸.tail _ (.head _))
 cases st with
 | new z g=>
  subst z
  exact wpAny_pyNext_enum_item g hit hl hux hne λh' g' li gT u1 k=>hQ h' _ _ (.busy x _ false g' hTd ⟨_,gT⟩) li gT (kk k)
 | busy old T b g n o=>exact next_enum_busy g o hit hl hux hne λh' b' g' li gT k o'=>hQ h' _ _ (.busy old T b' g' n o') li gT (kk k)
theorem EnAt.done {Q:Option Value->Shared->Prop} (hh:A.handled=none) (st:EnAt s.heap e it d i) (hit:s.heap.IsListIter it l i) (hl:s.heap.IsList l us.toArray) (hi:i=us.length) (hQ:∀ h',(∀ b o,b∉[e,it]->s.heap.get? b=some o->h'.get? b=some o)->Q none { s with heap:=h' }):wpAny W.m A (pyNext (.ref e)) Q E s:=by
 have hux:us.toArray[i]?=none:=by simp [hi]
 have kk:∀ {h':Heap},Heap.ExtBut it s.heap h'->∀ b o,b∉[e,it]->s.heap.get? b=some o->h'.get? b=some o:=λk b o nb=>k b o λz=>nb (z▸.tail _ (.head _))
 cases st with
 | new z g=>exact wpAny_pyNext_enum_end hh (z▸g) hit hl hux λh' k=>hQ h' (kk k)
 | busy old T b g n o=>exact next_enum_end hh g hit hl hux λh' k=>hQ h' (kk k)
theorem src_enum (hh:A.handled=none) (S:HS W σ) (C:DC σ d [e,it]) (hei:e≠it) (g:σ.s.heap.get? l=some (lstO us.toArray m)) (q:VDs σ.s.heap σ.ban us ds) :
  PairSrc W A e d [e,it] (numKeys ds.length) ds σ (λi h=>EnAt h e it d i/\h.IsListIter it l i/\h.IsList l us.toArray/\∀ {b o},σ.s.heap.get? b=some o->h.get? b=some o):=
 have n:∀ {b},b∈[e,it]->b≠d:=λm z=>C.ne (z▸m)
 have nl:l∉[e,it]:=λm=>absurdS g (C.new (.tail _ m))
 have hn:(numKeys ds.length).length=us.length:=by rw [numKeys,aB,ay,q.length]
 {frame:=λst k=>⟨st.1.keep (n (.head _)) k,st.2.1.at λo e=>k (n (.tail _ (.head _))) e,st.2.2.1.at λo e=>k (λz=>absurdS g (C.new (z▸.head _))) e,λe=>k (λz=>absurdS e (C.new (z▸.head _))) (st.2.2.2 e)⟩
  next:=λ{i k x s Q} hk hx hd S1 st hQ=>by
   refine xea (q.all2.get hx) λu hu qu=>st.1.next st.2.1 st.2.2.1 hu hei hd λh' T t en li gT k'=>?_
   have kp:∀ {b o},σ.s.heap.get? b=some o->h'.get? b=some o:=λe=>k' _ _ (λz=>absurdS e (C.new (.tail _ z))) (st.2.2.2 e)
   have hki:k=.i (i:Int):=by
    rw [numKeys,List.getElem?_map,List.getElem?_range (aa.mp hx).1] at hk
    exact (aE hk).symm
   subst hki
   exact hQ T _ _ 0 h' _ gT ⟨t,rfl⟩ (VD.step (C.ex kp) qu) ⟨en,li,st.2.2.1.at λo e=>k' l o nl e,kp⟩ (C.go S S1 k' λm=>(aG.mp m).elim (λe=>e▸en.get) λm=>ao.mp m▸xea li λo e u1=>⟨o,e⟩)
  done:=λ{s Q} st hQ=>st.1.done hh st.2.1 st.2.2.1 hn λh' k=>hQ h' s.toks k }
theorem bi_ok (O:WdOK W) (n:Nat):BiOK W n:=λ{b ys A σ} R S=>match b with
 | .range=>bo_range R S
 | .len=>bo_len R S
 | .sorted=>bo_sorted R S
 | .min=>bo_min R S
 | .max=>bo_max R S
 | .list=>bo_list R S
 | .set=>bo_set R S
 | .dict=>bo_dict O R S
 | .int=>bo_int R S
end
section
variable {ce:CE} {κ:Cx ce} {lo:Nat} {σ:Sg} {γ:Type}
theorem args_one {A:Around} {s:Shared} {f:Value} {e1:Expr} {pos:Pos} {Q:Args->Shared->Prop} (hs:∀ e0 p,e1≠.Starred e0 p) (h:wpAny κ.W.m A (eval e1 κ.env) (λv s1=>Q ⟨[v],[]⟩ s1) NoE s):wpAny κ.W.m A (evalArgs f true (backTo pos (starEach [e1] κ.env)) []) Q NoE s:=
 evalArgs_any (by rw [starEach_cons hs];rfl) (wpAny_items_cons (wpAny_mono h (λv s1 h1=>wpAny_items_nil h1) λu1 u2 x=>x) (starEach_cons hs))
theorem call_one {A:Around} {s:Shared} {f:Value} {e1:Expr} {pos:Pos} {Q:Value->Shared->Prop} (hf:(∃ id,f=.builtin id)\/∃ T,f=.type T) (hs:∀ e0 p,e1≠.Starred e0 p)
  (h:wpAny κ.W.m A (eval e1 κ.env) (λv s1=>wpAny κ.W.m A (call f [v]) Q NoE s1) NoE s):wpAny κ.W.m A (callWith pos f [] (backTo pos (starEach [e1] κ.env)) []) Q NoE s:=by
 have hp:(backTo pos (starEach [e1] κ.env)).any (·.1)=false:=by rw [starEach_cons hs];rfl
 rcases hf with ⟨id,rfl⟩ | ⟨Ty,rfl⟩
 ·exact Calls.callWith_builtin hp (args_one hs h)
 ·exact PySem.callWith_type hp (args_one hs h)
theorem call_two {f g:Str} {p p2 pos pos2:Pos} {a:Expr} {xa:X} {vf vg:Value} {t:V×Hp->Option γ} {K:γ->Value->Shared->Prop} (h1:∀ {σ:Sg} {Q:Value->Shared->Prop} {A:Around},HS κ.W σ->Q vf σ.s->wpAny κ.W.m A (eval (.Name f p) κ.env) Q NoE σ.s) (h2:∀ {σ:Sg} {Q:Value->Shared->Prop} {A:Around},HS κ.W σ->Q vg σ.s->wpAny κ.W.m A (eval (.Name g p2) κ.env) Q NoE σ.s)
  (kf:(∃ id,vf=.builtin id)\/∃ T,vf=.type T) (kg:(∃ id,vg=.builtin id)\/∃ T,vg=.type T) (ha:XE κ a xa) (hst:∀ e0 p,a≠.Starred e0 p) (P:Pt κ lo σ) (k:∀ x τ,Gn κ.W σ τ->∀ v,Vv κ.W τ v x->Ow (t (x,τ.H)) λo=>wpAny κ.W.m P.A (call vg [v]) (λu s=>wpAny κ.W.m P.A (call vf [u]) (K o) NoE s) NoE τ.s) :
  Ow ((evalX κ.Φ xa P.vs σ.H).bind t) λo=>wpAny κ.W.m P.A (eval (.Call (.Name f p) [.Call (.Name g p2) [a] [] pos2] [] pos) κ.env) (K o) NoE σ.s:=
 Ow.mono (λo h=>wpAny_Call_NameR (h1 P.S (call_one kf nofun (wpAny_Call_NameR (h2 P.S (call_one kg hst h)))))) (ha.seq P k)
theorem DC.of {W:Wd} {σ:Sg} {h:Heap} {d:Addr} {wr:List Addr} {o:Obj} (hn:∀ {b},b∈wr->σ.s.heap.get? b=none/\b < d) (hd:∀ {b o},σ.s.heap.get? b=some o->b < d):DC σ d wr:=
 ⟨λm=>(aG.mp m).elim (λe=>by
  cases q:σ.s.heap.get? d with
  | none=>rw [e];exact q
  | some o=>exact absurd (hd q) (Nat.lt_irrefl _)) λm=>(hn m).1,λm=>absurd (hn m).2 (Nat.lt_irrefl _)⟩
theorem ok_dictEnum {a:Expr} {p p2 pos pos2:Pos} {ya:X} (hf:glob ce "dict"=true) (hg:glob ce "enumerate"=true) (hst:∀ e0 p,a≠.Starred e0 p) (ha:XE κ a ya):XE κ (.Call (.Name "dict" p) [.Call (.Name "enumerate" p2) [a] [] pos2] [] pos) (.dictEnum ya):=λP=>by
 refine xeeaaaaaaa κ.O.g λmg mb n1 n2 u1 u2 u3 n3 n4 n5=>xa (n3 7 "dict" .dict rfl rfl) λe3 e4=>?_
 refine call_two (λS q=>bui_ok S hf n1 n2 e3 e4 q) (λS q=>bui_ok S hg n1 n2 n4 n5 q) (.inr ⟨_,rfl⟩) (.inr ⟨_,rfl⟩) ha hst P λx τ g=>.vm ?_
 refine ow_ll λds l us m g0 nb q=>.w λhz=>call_enumerate_1 g0 λh' he hi hsz hk=>?_
 have hll:=Heap.lt_size g0
 have C:DC τ h'.objs.size [τ.s.heap.objs.size+1,τ.s.heap.objs.size]:=by
  refine DC.of (W:=κ.W) (h:=h') (o:=emptyDict) (λ{b} m=>(aG.mp m).elim (λe=>?_) λm=>?_) λe=>Heap.lt_size (hk _ _ e)
  ·subst e;exact ⟨Heap.get?_none_of_le (Nat.le_succ _),by rw [hsz];exact Nat.lt_succ_self _⟩
  ·cases ao.mp m;exact ⟨none_size _,by rw [hsz];exact Nat.lt_succ_of_lt (Nat.lt_succ_self _)⟩
 refine post (dict_call (T:="enumerate") (ks:=numKeys ds.length) (hb1:=h') (tk1:=τ.s.toks) κ.O (P.R.room (by decide)) g.hs (λe=>hk _ _ e) (numKeys_kin _) (by rw [numKeys,aB,ay]) (by rw [numKeys,aB,ay];exact hz) (by decide) (λk=>⟨_,k _ _ he,rfl⟩) (λhA k hQ=>nokeys_enum (k _ _ he) (hA.trans P.R.hd) hQ) λ{s' Q E} k hd hQ=>?_) λv s' q=>q.from g
 refine wpAny_pyIter_enum (k _ _ he) (hQ _ _ _ s'.heap s'.toks (λu1 u2 e=>e) (λm=>?_) C (src_enum (A:=P.A.in1.in1) P.R.hd g.hs C (Nat.succ_ne_self _) g0 q) ⟨.new rfl (k _ _ he),hi.at λo e=>k _ _ e,(IsL.list g0).at λo e=>k _ _ (hk _ _ e),λe=>k _ _ (hk _ _ e)⟩)
 exact (aG.mp m).elim (λe=>e▸⟨_,k _ _ he⟩) λm=>ao.mp m▸xea hi λo e u1=>⟨o,k _ _ e⟩
end
theorem All2.drop {α β:Type} {R:α->β->Prop} {as:List α} {bs:List β} (q:All2 R as bs):∀ i:Nat,All2 R (as.drop i) (bs.drop i):=
 All2.ind (P:=λas bs=>∀ i:Nat,All2 R (as.drop i) (bs.drop i)) q (λi=>by rw [List.drop_nil,List.drop_nil];exact .nil) λu1 u2 u3 u4 x r ih i=>match i with
  | 0=>.cons x r
  | i+1=>ih i
noncomputable def tab (σ:List Nat) (led:Bool):SetTable:={ mask:=if σ.length < 5 then 7 else 31,place:=σ.toArray,dummies:=#[],finger:=0,led,moves:=if σ.length < 5 then 0 else 1,plain:=true }
noncomputable def posN (σ:List Nat) (k:Nat):Nat:=(σ.filter (· < k)).length
noncomputable def insN (σ:List Nat) (k:Nat):List Nat:=σ.take (posN σ k)++k::σ.drop (posN σ k)
noncomputable def subs:List (List Nat):=(List.range 6).foldr (λk acc=>acc++acc.map (k::·)) [[]]
noncomputable def addOK (σ:List Nat) (k:Nat) (led:Bool):Bool:=
 σ.contains k||(
  (tab σ led).freeSlot (k:Int)==some (k,false)&&subs.contains (insN σ k)&&((tab σ led).put k).2==posN σ k &&
  (let t1:=((tab σ led).put k).1
  t1.fits (σ.length+1)&&(if t1.tooFull then t1.relaid ((insN σ k).map λ(n:Nat)=>(n:Int)).toArray (SetTable.grown (σ.length+1))==some (tab (insN σ k) led,(List.range (σ.length+1)).toArray)&&coversAll (List.range (σ.length+1)).toArray (σ.length+1) else t1==tab (insN σ k) led)))
theorem add_all:(subs.all λσ=>(List.range 6).all λk=>[true,false].all λled=>addOK σ k led)=true:=by decide +kernel
theorem subs_small:(subs.all λσ=>decide (σ.length<=6)&&(tab σ true).fits σ.length&&(tab σ false).fits σ.length&&σ.all (λn=>decide (n < 6))&&decide σ.Nodup)=true:=by decide +kernel
noncomputable def Els (es:List (Int×Value)) (σ:List Nat):Prop:=All2 (λe (n:Nat)=>e.1=(n:Int)/\∃ t,e.2=.int (n:Int) t) es σ
noncomputable abbrev setO (es:Array (Int×Value)) (ep:Nat) (t:SetTable):Obj:={ cls:=.type "set",dict:=none,data:=.set es ep t,slots:=#[] }
noncomputable def SetEx (h:Heap) (a:Addr) (σ:List Nat) (led:Bool):Prop:=∃ es ep,h.get? a=some (setO es ep (tab σ led))/\Els es.toList σ
section
variable {W:Wd} {A:Around} {E:Value->Shared->Prop} {s:Shared}
theorem hash_small {n:Nat} (h:n < 6):hashInt (n:Int)=(n:Int):=by
 have:∀ n:Fin 6,hashInt (n.val:Int)=(n.val:Int):=by decide
 exact this ⟨n,h⟩
theorem Els.elems {prog:Program} {w:World} {es:List (Int×Value)} {σ:List Nat} (h:Els es σ) (hs:∀ n∈σ,n < 6):ElemsOf (intKind prog w) es:=
 All2.ind (P:=λes σ=>(∀ n∈σ,n < 6)->ElemsOf (intKind prog w) es) h (λu1 e he=>absurd he aA) (λe n es σ h1 u1 ih hs e' he=>(aG.mp he).elim (λz=>xa h1 λh1 h2=>xe h2 λt h3=>by
  subst z
  exact ⟨⟨(n:Int),by rw [h3];exact beq_self_eq_true (n:Int),by rw [h1];exact (hash_small (hs n (.head _))).symm⟩,by rw [h3];rfl⟩) (ih (λm hm=>hs m (.tail _ hm)) e')) hs
theorem Els.find {prog:Program} {w:World} {es:List (Int×Value)} {σ:List Nat} (h:Els es σ) (k:Nat):(es.findIdx? λe=>(intKind prog w).is (k:Int) e.2).isSome=σ.contains k:=
 All2.ind (P:=λ(es:List (Int×Value)) σ=>(es.findIdx? λe=>(intKind prog w).is (k:Int) e.2).isSome=σ.contains k) h rfl λe n es σ h1 u1 ih=>xe h1.2 λt h3=>by
  have e1:(intKind prog w).is (k:Int) (.int (n:Int) t)=(k==n):=by
   show ((n:Int)==(k:Int))=(k==n)
   by_cases q:k=n
   ·rw [q,beq_self_eq_true,beq_self_eq_true]
   ·rw [beq_false_of_ne q];exact beq_false_of_ne λ(z:(n:Int)=(k:Int))=>q (Int.ofNat.inj z).symm
  rw [List.findIdx?_cons,h3,List.contains_cons,e1]
  cases k==n with
  | true=>rfl
  | false=>rw [aP Bool.false_ne_true,Option.isSome_map,ih];rfl
theorem Els.ins {es:Array (Int×Value)} {σ:List Nat} (h:Els es.toList σ) (k:Nat) (t:Tok):Els (SetTable.insertAt es (posN σ k) ((k:Int),.int (k:Int) t)).toList (insN σ k):=by
 rw [SetTable.toList_insertAt]
 exact All2.append (All2.take h _) (.cons ⟨rfl,t,rfl⟩ (All2.drop h _))
theorem Els.hashes {es:List (Int×Value)} {σ:List Nat} (h:Els es σ):es.map (·.1)=σ.map λ(n:Nat)=>(n:Int):=
 All2.ind (P:=λ(es:List (Int×Value)) σ=>es.map (·.1)=σ.map λ(n:Nat)=>(n:Int)) h rfl λe n es σ h1 u1 ih=>by rw [List.map_cons,List.map_cons,ih,h1.1]
theorem insN_length (σ:List Nat) (k:Nat):(insN σ k).length=σ.length+1:=by
 unfold insN
 rw [aq,List.length_cons,← Nat.add_assoc,← aq,List.take_append_drop]
theorem subs_of {σ:List Nat} (h:σ∈subs):σ.length<=6/\(∀ led,(tab σ led).fits σ.length=true)/\(∀ n∈σ,n < 6)/\σ.Nodup:=by
 have:=List.all_eq_true.mp subs_small σ h
 simp only [Bool.and_eq_true,decide_eq_true_eq,List.all_eq_true] at this
 refine xa this λz255q h5=>?_;obtain ⟨⟨⟨h1,h2⟩,h3⟩,h4⟩:=z255q
 exact ⟨h1,λled=>by cases led;exact h3;exact h2,h4,h5⟩
theorem add_of {σ:List Nat} (h:σ∈subs) {k:Nat} (hk:k < 6) (led:Bool):addOK σ k led=true:=by
 have:=List.all_eq_true.mp (List.all_eq_true.mp add_all σ h) k (by simpa using hk)
 simp only [List.all_cons,List.all_nil,Bool.and_true,Bool.and_eq_true] at this
 cases led
 ·exact this.2
 ·exact this.1
structure AddR (σ:List Nat) (k:Nat) (led:Bool):Prop where
 free:(tab σ led).freeSlot (k:Int)=some (k,false)
 sub:insN σ k∈subs
 at_:((tab σ led).put k).2=posN σ k
 fits:((tab σ led).put k).1.fits (σ.length+1)=true
 full:((tab σ led).put k).1.tooFull=true->((tab σ led).put k).1.relaid ((insN σ k).map λ(n:Nat)=>(n:Int)).toArray (SetTable.grown (σ.length+1))=some (tab (insN σ k) led,(List.range (σ.length+1)).toArray)/\coversAll (List.range (σ.length+1)).toArray (σ.length+1)=true
 room:((tab σ led).put k).1.tooFull=false->((tab σ led).put k).1=tab (insN σ k) led
theorem addR {σ:List Nat} (h:σ∈subs) {k:Nat} (hk:k < 6) (led:Bool) (hc:σ.contains k=false):AddR σ k led:=by
 have z:=add_of h hk led
 unfold addOK at z
 rw [hc,Bool.false_or] at z
 refine ⟨eq_of_beq (b1 (b1 (b1 z))),List.contains_iff_mem.mp (b2 (b1 (b1 z))),eq_of_beq (b2 (b1 z)),b1 (b2 z),λf=>?_,λf=>?_⟩
 ·have z:=b2 (b2 z)
  rw [aQ f] at z
  exact ⟨eq_of_beq (b1 z),b2 z⟩
 ·have z:=b2 (b2 z)
  rw [aP (f▸Bool.false_ne_true)] at z
  exact eq_of_beq z
section
variable {σ:List Nat} {led:Bool} {k a:Nat} {es es':Array (Int×Value)} {x:Value} {t t1 t2:SetTable}
theorem lay_eq (R:AddR σ k led) (hs:(SetTable.insertAt es (posN σ k) ((k:Int),x)).size=σ.length+1):layNew (tab σ led) es (k:Int) x=(SetTable.insertAt es (posN σ k) ((k:Int),x),((tab σ led).put k).1,false,false):=by
 unfold layNew
 rw [R.free]
 show (SetTable.insertAt es ((tab σ led).put k).2 ((k:Int),x),SetTable.orStandIn ((tab σ led).put k).1 (SetTable.insertAt es ((tab σ led).put k).2 ((k:Int),x)).size,false,!SetTable.fits ((tab σ led).put k).1 (SetTable.insertAt es ((tab σ led).put k).2 ((k:Int),x)).size)=_
 rw [R.at_,hs,R.fits]
 unfold SetTable.orStandIn
 rw [R.fits]
 rfl
theorem relay_eq {ks:Array Int} {n:Nat} (hm:es.map (·.1)=ks) (hs:es.size=n) (h1:t1.relaid ks (SetTable.grown n)=some (t2,(List.range n).toArray)) (h2:coversAll (List.range n).toArray n=true) (hf:t2.fits n=true):relayAll t1 es (SetTable.grown es.size)=(es,t2,false):=by
 unfold relayAll
 rw [hm,hs,h1]
 have e2:(List.range n).toArray.filterMap (λi=>es[i]?)=es:=by
  apply Array.toList_inj.mp
  rw [Array.toList_filterMap,List.toList_toArray,← hs]
  exact filterMap_getElem?_range _
 show (if coversAll (List.range n).toArray n&&t2.fits ((List.range n).toArray.filterMap (λi=>es[i]?)).size then ((List.range n).toArray.filterMap (λi=>es[i]?),t2,false) else _)=_
 rw [e2,hs,h2,hf]
 rfl
noncomputable def gvW (b:Bool):Sem Unit:=match b with
 | true=>rule "set.scan.the-table-gave-way"
 | false=>pure ()
noncomputable def aStore (a:Addr) (wd:Bool) (es:Array (Int×Value)) (t:SetTable):Sem (Option Bool):=do
 storeSet a es t
 if !wd&&t.tooFull then (do
  gvW (relayAll t es (SetTable.grown es.size)).2.2
  storeSet a (relayAll t es (SetTable.grown es.size)).1 (relayAll t es (SetTable.grown es.size)).2.1
  return some true)
 else return some true
noncomputable def aTail (a:Addr) (x:Value) (q:Array (Int×Value)×SetTable×Bool×Bool):Sem (Option Bool):=do
 gvW q.2.2.2
 if q.2.1.plain then (do
  let byValue ← hashByValue 8 x
  aStore a q.2.2.1 q.1 (if byValue then q.2.1 else { q.2.1 with plain:=false }))
 else (do
  let byValue ← pure true
  aStore a q.2.2.1 q.1 (if byValue then q.2.1 else { q.2.1 with plain:=false }))
noncomputable def aScan (a:Addr) (x:Value) (h:Int) (es:Array (Int×Value)) (t:SetTable):ScanMet->Sem (Option Bool)
 | .found u1=>return some false
 | .anew=>return none
 | .absent=>aTail a x (layNew t es h x)
theorem scan_eq {h:Int}:setAddByScan a x h es t=rule "set.add.by-scan">>=λu1=>setScan a x h true es>>=aScan a x h es t:=rfl
end
section
variable {W:Wd} {A:Around} {E:Value->Shared->Prop} {s:Shared} {σ:List Nat} {led:Bool} {k a ep:Nat} {es es0:Array (Int×Value)} {x:Value} {t t1 t2:SetTable}
theorem aStore_ok {Q:Option Bool->Shared->Prop} (ho:s.heap.get? a=some (setO es0 ep t)) (hb:es.size<=sizeLine) (hr:t1.tooFull=true->relayAll t1 es (SetTable.grown es.size)=(es,t2,false)) (hn:t1.tooFull=false->t1=t2) (h:∀ h' ep,Heap.SameBut a s.heap h'->h'.get? a=some (setO es ep t2)->Q (some true) { s with heap:=h' }):wpAny W.m A (aStore a false es t1) Q E s:=by
 have sb:=λt=>Heap.SameBut.update s.heap a (Obj.putSet es t)
 have ho1:(s.heap.update a (Obj.putSet es t1)).get? a=some (setO es (ep+1) t1):=Heap.get?_update_self _ ho rfl
 refine aL (wpAny_storeSet_of ho rfl ?_ hb)
 cases hf:t1.tooFull with
 | true=>
  refine wif_p (show (!false&&true)=true from rfl) ?_
  rw [hr hf]
  exact aL (aM (aL (wpAny_storeSet_of ho1 rfl (aM (h _ (ep+1+1) ((sb t1).trans (Heap.SameBut.update _ a _)) (Heap.get?_update_self _ ho1 rfl))) hb)))
 | false=>
  refine wif_n (show ¬ (!false&&false)=true from Bool.false_ne_true) ?_
  exact aM (h _ (ep+1) (sb t1) (hn hf▸ho1))
theorem set_add {u:Tok} {Q:Bool->Shared->Prop} (hS:SetEx s.heap a σ led) (hσ:σ∈subs) (hk:k < 6)
  (h:∀ h' b,Heap.SameBut a s.heap h'->SetEx h' a (if σ.contains k then σ else insN σ k) led->Q b { s with heap:=h' }) :
  wpAny W.m A (setAddHashed a (.int (k:Int) u) (hashInt (k:Int))) Q E s:=by
 refine xeea hS λes ep ho hE=>xaaa (subs_of hσ) λs1 s2 s3 s4=>?_
 have hlen:es.size=σ.length:=by rw [← Array.length_toList];exact hE.length
 have hf:(tab σ led).fits es.size=true:=hlen▸s2 led
 have hel:ElemsOf (intKind W.prog W.w) es.toList:=hE.elems s3
 have hb:es.size < scanBound:=au (hlen▸s1) (by decide)
 have hsz:(SetTable.insertAt es (posN σ k) ((k:Int),Value.int (k:Int) u)).size=σ.length+1:=by rw [← Array.length_toList,(hE.ins k u).length,insN_length]
 unfold setAddHashed setAddHashedIn
 refine aH (aL (wpAny_setState_of ho rfl hf ?_))
 show wpAny _ _ (if byScan (.int (k:Int) u) es then _ else _) _ _ _
 rw [byScan_of (knd:=intKind W.prog W.w) rfl hb hel,aQ rfl,scan_eq]
 refine aL (aL (wpAny_rule (aL (wpAny_setScan_of (knd:=intKind W.prog W.w) (k:=(k:Int)) (by exact beq_self_eq_true (k:Int)) ho rfl hf hel ?_))))
 have hfind:=hE.find (prog:=W.prog) (w:=W.w) k
 cases hr:List.findIdx? (λe=>(intKind W.prog W.w).is (k:Int) e.2) es.toList with
 | some j=>
  rw [hr] at hfind
  exact aM (aM (h s.heap false (Heap.SameBut.refl a s.heap) (by rw [aQ (show σ.contains k=true from hfind.symm)];exact ⟨es,ep,ho,hE⟩)))
 | none=>
  rw [hr] at hfind
  have hc:σ.contains k=false:=hfind.symm
  rw [aP (λz=>Bool.noConfusion (hc.symm.trans z))] at h
  have R:=addR hσ hk led hc
  show wpAny W.m A (aTail a (.int (k:Int) u) (layNew (tab σ led) es (hashInt (k:Int)) (.int (k:Int) u))) _ _ _
  rw [hash_small hk,lay_eq R hsz]
  show wpAny W.m A (pure ()>>=λu1=>hashByValue 8 (.int (k:Int) u)>>=λb=>aStore a false _ (if b then ((tab σ led).put k).1 else _)) _ _ _
  rw [hashByValue_scannable 8 rfl]
  refine aL (aM (aL (aM (aStore_ok ho (by rw [hsz];exact lt_line (by lia)) (λf=>?_) R.room λh' ep' sb g=>aM (h h' true sb ⟨_,ep',g,hE.ins k u⟩)))))
  refine relay_eq (by apply Array.toList_inj.mp;rw [Array.toList_map,(hE.ins k u).hashes]) hsz (R.full f).1 (R.full f).2 (insN_length σ k▸(subs_of R.sub).2.1 led)
end
end
section
variable {W:Wd} {A:Around} {E:Value->Shared->Prop} {s:Shared} {h:Heap} {ban:Addr->Prop}
noncomputable def ledW (w:World):Bool:=!(w.params.followText "set-order")
theorem set_new (a:Value) {Q₁:Value->Shared->Prop}
  (h:Q₁ (.ref s.heap.objs.size) { s with heap:=s.heap.push { cls:=.type "set",dict:=none,data:=.set #[] 0 (.fresh 0 0 (ledW W.w)) } }) :
  codeAny (model W.prog W.w) A (.call (.builtin "set.__new__") ⟨[.type "set",a],[]⟩) (wants Q₁ E) s:=by
 refine codeAny_of_tree ?_
 show wpAny _ A.in1 (do checkBuiltinCall "set.__new__" ⟨[.type "set",a],[]⟩;again (.builtin "set.__new__" ⟨[.type "set",a],[]⟩)) _ _ s
 refine aL (wpAny_of_eq (PySem.F.newCall_set_1 a) (aM ⟨plainId_quiet PySem.F.plain_set_new _,codeAny_builtin PySem.F.entry_set_new ?_⟩))
 rw [Around.under_plainId PySem.F.plain_set_new _]
 unfold Builtin.«set.__new__» Builtin.Frozenset.newClass
 have hsub:=sub_set_self
 obtain ⟨hp,g,d,tk,os⟩:=s
 dsimp only
 wp_walk
 refine wpAny_askSetting (aM ?_)
 dsimp only
 simp only [newObj]
 refine aL (wpAny_alloc (aM ?_))
 exact aM h
noncomputable def metN (ns:List Nat):List Nat:=ns.foldl (λσ k=>if σ.contains k then σ else insN σ k) []
theorem metN_snoc (ns:List Nat) (k:Nat):metN (ns++[k])=if (metN ns).contains k then metN ns else insN (metN ns) k:=by
 unfold metN;rw [List.foldl_append];rfl
theorem subs_ins {σ:List Nat} (h:σ∈subs) {k:Nat} (hk:k < 6) (hc:σ.contains k=false):insN σ k∈subs:=by
 have:=add_of h hk true
 unfold addOK at this
 rw [hc] at this
 simp only [Bool.false_or,Bool.and_eq_true,beq_iff_eq] at this
 simpa using this.1.1.2
theorem metN_subs:∀ {ns:List Nat},(∀ n∈ns,n < 6)->metN ns∈subs:=by
 intro ns h
 induction hl:ns.length generalizing ns with
 | zero=>rw [List.eq_nil_of_length_eq_zero hl];decide
 | succ m ih=>
  have hne:ns≠[]:=λe=>by rw [e] at hl;simp at hl
  obtain ⟨init,last,rfl⟩:∃ init last,ns=init++[last]:=⟨ns.dropLast,ns.getLast hne,(List.dropLast_concat_getLast hne).symm⟩
  have hi:=ih (ns:=init) (λn hn=>h n (by simp [hn])) (by simpa using hl)
  rw [metN_snoc]
  split
  ·exact hi
  ·rename_i q
   exact subs_ins hi (h last (by simp)) (by simpa using q)
noncomputable abbrev stCode (I S:Addr):Code:=.builtin "set.update.loop" ⟨[.ref S,.ref I],[]⟩
noncomputable def stItem (I S:Addr):Option Value->Sem Fin
 | some x=>do let _ ← holding [x] (setAdd S x);again (stCode I S)
 | none=>ret .none
theorem stRun {I S:Addr} {Q:PySem.Fin->Shared->Prop} (h:wpAny W.m A (pyNext (.ref I)) (λo s=>wpAny W.m A (stItem I S o) Q E s) E s):wpAny W.m A (Builtin.«set.update.loop» ⟨[.ref S,.ref I],[]⟩) Q E s:=
 aL (wpAny_mono h (λo s h=>match o with
  | none=>h
  | some v=>h) λu1 u2 e=>e)
theorem SetEx.keep {h h':Heap} {a:Addr} {σ:List Nat} {led:Bool} (k:∀ o,h.get? a=some o->h'.get? a=some o) (q:SetEx h a σ led):SetEx h' a σ led:=xeea q λes ep ho hE=>⟨es,ep,k _ ho,hE⟩
theorem set_loop {I l S:Addr} {us:List Value} {ns:List Nat} {h0:Heap} {R:Result->Shared->Prop} (P:MP h0 I l S) (hh:A.handled=none) (q0:All2 IntV us (ns.map λ(n:Nat)=>(n:Int))) (hs:∀ n∈ns,n < 6)
  (hR:∀ {h' tk},(∀ {b o},h0.get? b=some o->h'.get? b=some o)->SetEx h' S (metN ns) (ledW W.w)->R (.ok (.ret .none)) { s with heap:=h',toks:=tk }) :
  ∀ {k i:Nat} {h:Heap} {tk:Nat},us.length=i+k->h.IsListIter I l i->h.IsList l us.toArray->(∀ {b o},h0.get? b=some o->h.get? b=some o)->SetEx h S (metN (ns.take i)) (ledW W.w)->codeAny W.m A (stCode I S) R { s with heap:=h,toks:=tk }:=by
 have W0:=Walks.list (prog:=W.prog) (w:=W.w) (A:=A.in1) hh I l P.lI us.toArray
 have nS:S∉[I]:=λm=>P.SI (ao.mp m)
 have hxl:us.length=ns.length:=q0.length.trans (aB ..)
 intro k
 induction k with
 | zero=>
  intro i h tk hk hit hli kp hS
  have hk:us.length=i:=hk
  rw [List.take_of_length_le (Nat.le_of_eq (hxl.symm.trans hk))] at hS
  refine codeAny_builtin PyProof.Rows.F.entry_set_update_loop ?_
  rw [Around.under_plainId PyProof.Rows.F.plain_set_update_loop _]
  exact stRun (W0.done { s with heap:=h,toks:=tk } _ _ (by rw [szA,hk];exact ⟨hit,hli⟩) λh' tk hk'=>aM (hR (λ{b o} e=>hk' b o (P.n e).1 (kp e)) (hS.keep λo e=>hk' S o nS e)))
 | succ k ih=>
  intro i h tk hk hit hli kp hS
  have hlt:i < us.length:=by rw [hk];exact Nat.lt_add_of_pos_right (Nat.succ_pos _)
  refine codeAny_builtin PyProof.Rows.F.entry_set_update_loop ?_
  rw [Around.under_plainId PyProof.Rows.F.plain_set_update_loop _]
  refine stRun (W0.item i { s with heap:=h,toks:=tk } _ _ (by rw [szA];exact hlt) ⟨hit,hli⟩ λv h1 tk hP hst' hk'=>?_)
  have hn:ns[i]?=some (ns[i]'(hxl▸hlt)):=ad (hxl▸hlt)
  refine xea (q0.get' (i:=i) (by simpa using hP)) λy hy qy=>?_
  rw [List.getElem?_map,hn] at hy
  generalize ns[i]'(hxl▸hlt)=m at hn hy
  cases hy
  refine xe qy λt e=>?_
  subst e
  have kp1:∀ {b o},h0.get? b=some o->h1.get? b=some o:=λ{b o} e=>hk' b o (P.n e).1 (kp e)
  refine aL (aH (aH (aL ((intKind W.prog W.w).pyHash (k:=(m:Int)) (by exact beq_self_eq_true (m:Int)) ?_))))
  refine set_add (s:={ s with heap:=h1,toks:=tk+1 }) (hS.keep λo e=>hk' S o nS e) (metN_subs λn hn=>hs n (List.mem_of_mem_take hn)) (hs m (List.mem_of_getElem? hn)) λh2 b hsb hS2=>?_
  have oth:∀ {b o},b≠S->h1.get? b=some o->h2.get? b=some o:=λhb e=>(hsb.2 _ hb).trans e
  refine aM ⟨plainId_quiet PyProof.Rows.F.plain_set_update_loop _,ih (i:=i+1) (hk.trans (by rw [Nat.add_assoc,Nat.add_comm 1 k])) (hst'.1.at λo e=>oth (Ne.symm P.SI) e) (hst'.2.at λo e=>oth (Ne.symm P.Sl) e) (λe=>oth (P.n e).2 (kp1 e)) ?_⟩
  rw [List.take_add_one,hn,show (some m).toList=[m] from rfl,metN_snoc]
  exact hS2
end
section
variable {W:Wd} {A:Around} {E:Value->Shared->Prop} {s:Shared} {l a:Addr} {us:List Value} {m:Nat} {ns:List Nat} {led:Bool}
theorem set_init {Q:PySem.Fin->Shared->Prop} (hS:s.heap.get? a=some { cls:=.type "set",dict:=none,data:=.set #[] 0 (.fresh 0 0 led) }) (hl:s.heap.get? l=some (lstO us.toArray m))
  (h:wpAny W.m A (pyIter (.ref l)) (λit s=>codeAny W.m A (.builtin "set.update.loop" ⟨[.ref a,it],[]⟩) (λr s=>r=.ok (.ret .none)/\Q (.done (.ret .none)) s) s) E s):wpAny W.m A (Builtin.«set.__init__» ⟨[.ref a,.ref l],[]⟩) Q E s:=by
 have hT:s.TypeIs (.ref a) "set":=⟨_,hS,rfl⟩
 have hTl:s.TypeIs (.ref l) "list":=⟨_,hl,rfl⟩
 have hsls:=PySem.F.sub_list_set
 have hslf:=PySem.F.sub_list_frozenset
 have hne:(Value.type "list"==Value.type "dict")=false:=by decide
 unfold Builtin.«set.__init__» noKeywords Builtin.Frozenset.updateFrom
 generalize hPI:pyIter=PI at h ⊢
 wp_walk
 refine wpAny_mono h (λit s1 h1=>aL (wpAny_runValue (codeAny_mono h1 λr s2 h2=>?_))) λu1 u2 e=>e
 refine xa h2 λe h3=>?_
 subst e
 exact aM (aM h3)
theorem wants_ret {Q:Value->Shared->Prop} {r:Result} (h:wants Q NoE r s):∃ v,r=.ok (.ret v)/\Q v s:=by
 cases r with
 | error e=>exact h.elim
 | ok f=>cases f with
  | ret v=>exact ⟨v,rfl,h⟩
  | _=>exact h.elim
theorem set_shell {x:Value} {Q:Value->Shared->Prop} (h:codeAny W.m A.in1 (.call (.builtin "set.__new__") ⟨[.type "set",x],[]⟩) (λr s=>∃ a,r=.ok (.ret (.ref a))/\s.TypeIs (.ref a) "set"/\wpAny W.m A.in1.in1 (Builtin.«set.__init__» ⟨[.ref a,x],[]⟩) (λf s=>f=.done (.ret .none)/\Q (.ref a) s) NoE s) s) :
  wpAny W.m A (call (.type "set") [x]) Q NoE s:=by
 refine xee PySem.F.called_set.mro λc tl hmro=>?_
 have hmade:=PySem.F.called_set.made
 have hsub:=PySem.F.called_set.sub
 refine wpAny_call (codeAny_of_tree ?_)
 show wpAny _ _ (callAny (.type "set") _) _ _ _
 refine aM ⟨Code.quiet_builtin _ (by decide +kernel),codeAny_builtin PySem.F.entry_type_call ?_⟩
 rw [Around.under_plain (weight_type_call_type "set" [x] []) rfl]
 have h1:=PySem.F.called_set.notType
 have h2:=PySem.F.called_set.canCreate
 have hct:=PySem.F.typeCall_set_1 x
 repeat (any_goals (first | assumption | wp_step))
 refine codeAny_mono h λr s₁ hr=>xeaa hr λa e hT hw=>?_
 subst e
 have hli:=PySem.F.called_set.init.lookup
 have hbi:=PySem.F.called_set.init.bind (.ref a)
 repeat (any_goals (first | assumption | wp_step))
 refine codeAny_mono (codeAny_call_builtin (R:=λr s=>r=.ok (.ret .none)/\Q (.ref a) s) PySem.F.called_set.init.plain PySem.F.entry_set_init (check_set_init_1 hT ?_)) λr₂ s₂ hr₂=>?_
 ·exact wpAny_mono hw (λf s h=>xa h λe h2=>by subst e;exact ⟨rfl,h2⟩) λu1 u2 z=>z.elim
 ·refine xa hr₂ λe hq=>?_
  subst e
  repeat (any_goals (first | assumption | wp_step))
theorem set_call {Q:Value->Shared->Prop} (hh:A.handled=none) (g:s.heap.get? l=some (lstO us.toArray m)) (q0:All2 IntV us (ns.map λ(n:Nat)=>(n:Int))) (hs:∀ n∈ns,n < 6)
  (h:∀ (h':Heap) (tk:Nat),SetEx h' s.heap.objs.size (metN ns) (ledW W.w)->(∀ {b o},s.heap.get? b=some o->h'.get? b=some o)->Q (.ref s.heap.objs.size) { s with heap:=h',toks:=tk }) :
  wpAny W.m A (call (.type "set") [.ref l]) Q NoE s:=by
 have hS:(s.heap.push { cls:=.type "set",dict:=none,data:=.set #[] 0 (.fresh 0 0 (ledW W.w)) }).get? s.heap.objs.size=some { cls:=.type "set",dict:=none,data:=.set #[] 0 (.fresh 0 0 (ledW W.w)) }:=am _ rfl
 have g1:(s.heap.push { cls:=.type "set",dict:=none,data:=.set #[] 0 (.fresh 0 0 (ledW W.w)) }).get? l=some (lstO us.toArray m):=ah _ g
 have N:=new2 (h:=s.heap) (o1:={ cls:=.type "set",dict:=none,data:=.set #[] 0 (.fresh 0 0 (ledW W.w)) }) (o2:={ cls:=.type "list_iterator",data:=.fields #[.ref l,.int 0 0] }) rfl rfl
 refine set_shell (codeAny_mono (set_new _ (E:=NoE) (Q₁:=λobj s₁=>obj=.ref s.heap.objs.size/\s₁={ s with heap:=s.heap.push { cls:=.type "set",dict:=none,data:=.set #[] 0 (.fresh 0 0 (ledW W.w)) } }) ⟨rfl,rfl⟩) λr s₁ hr=>?_)
 refine xea (wants_ret hr) λv e hr=>xa hr λe1 e2=>?_
 subst e;subst e1;subst e2
 refine ⟨_,rfl,⟨_,hS,rfl⟩,set_init hS g1 (wpAny_pyIter_list (IsL.list g1) (set_loop (A:=A.in1.in1) (i:=0) (k:=us.length) (I:=_) (l:=l) (S:=s.heap.objs.size) ⟨λe=>absurdS g (e▸N.nb),N.ne.symm,λe=>absurdS g (e▸N.na),λe=>⟨λm=>absurdS e (ao.mp m▸N.nb),λz=>absurdS e (z▸N.na)⟩⟩ hh q0 hs (λ{h' tk} k S=>⟨rfl,rfl,h h' tk S k⟩) (Nat.zero_add _).symm ⟨_,N.gb,rfl,rfl⟩ ((IsL.list g1).push _) N.k ⟨#[],0,N.ga,.nil⟩))⟩
end
theorem owner_set_iterator:Manifest.owners.lookup (String.ofList ['r','o','t','a','r','e','t','i','_','t','e','s'].reverse)=some Manifest.sig_set_iterator:=by kernel_rfl
theorem slot_set_iterator_next:Slot "set_iterator" "__next__" "set_iterator.__next__":=
 .of (owner:="set_iterator") (n:="__next__") (by rw [typeLookup_type,builtinLookup_eq_fast];kernel_rfl) (by decide +kernel) (by decide +kernel) (by decide +kernel)
  (by first | exact .inl (by decide +kernel) | exact .inr (by decide +kernel)) (by rw [isSubtype_type];kernel_rfl)
theorem entry_set_iterator_next:entryFor table "set_iterator.__next__"=some Builtin.«set_iterator.__next__»:=entryFor_of_tree (by kernel_rfl)
theorem args_set_iterator_next (a:Value):argsOk "set_iterator.__next__" ⟨[a],[]⟩:=by
 unfold argsOk;rw [signature?_of (id:="set_iterator.__next__") (n:=['_','_','t','x','e','n','_','_']) (o:=['r','o','t','a','r','e','t','i','_','t','e','s']) (by kernel_rfl) owner_set_iterator];kernel_rfl
theorem entry_set_iter:entryFor table "set.__iter__"=some Builtin.«frozenset.__iter__»:=
 entryFor_alias (id':="frozenset.__iter__") (by kernel_rfl) (by first | rfl | decide +kernel) (by decide +kernel) (by kernel_rfl)
noncomputable def slotN (σ:List Nat) (i:Nat):Nat:=if i=0 then 0 else σ.getD (i - 1) 0+1
theorem slot_all:(subs.all λσ=>(List.range (σ.length+1)).all λi=>SetTable.below σ.toArray (slotN σ i)==i)=true:=by decide +kernel
theorem erase_perm {α:Type} {l:List α} {i:Nat} (hi:i < l.length):(l[i]::l.eraseIdx i).Perm l:=by
 rw [List.eraseIdx_eq_take_drop_succ]
 have e:l=l.take i++l[i]::l.drop (i+1):=by rw [← List.drop_eq_getElem_cons hi,List.take_append_drop]
 calc (l[i]::(l.take i++l.drop (i+1))).Perm (l.take i++l[i]::l.drop (i+1)):=List.perm_middle.symm
  List.Perm _ l:=.of_eq e.symm
theorem pick_perm {α:Type} (next:Nat->Nat):∀ (f k:Nat) (left:List α) (out:Array α),left.length<=f->(pickOrder.go next f k left out).toList.Perm (out.toList++left)
 | 0,k,left,out,h=>by
  rw [List.eq_nil_of_length_eq_zero (Nat.le_zero.mp h)]
  simp [pickOrder.go]
 | f+1,k,left,out,h=>by
  unfold pickOrder.go
  cases hx:left[next k % left.length]? with
  | none=>
   have:left=[]:=by
    cases left with
    | nil=>rfl
    | cons a l=>
     have:next k % (a::l).length < (a::l).length:=Nat.mod_lt _ (Nat.zero_lt_succ _)
     rw [ad this] at hx
     exact noR hx
   subst this
   simp
  | some x=>
   dsimp only
   obtain ⟨hi,hx'⟩:=aa.mp hx
   refine (pick_perm next f (k+1) _ _ (by rw [List.length_eraseIdx_of_lt hi];lia)).trans ?_
   rw [Array.toList_push,ax]
   refine List.Perm.append_left _ ?_
   rw [List.singleton_append,← hx']
   exact erase_perm hi
noncomputable def ordS (w:World) (a:Addr) (ep:Nat) (es:Array (Int×Value)):Array (Int×Value):=if w.params.followText "set-order" then pickOrder (w.params.setOrder a ep) es else es
theorem ord_perm (w:World) (a:Addr) (ep:Nat) (es:Array (Int×Value)):(ordS w a ep es).toList.Perm es.toList:=by
 unfold ordS
 split
 ·unfold pickOrder
  exact (pick_perm _ _ _ _ _ (by simp)).trans (by simp)
 ·exact .refl _
abbrev IsSetIter (h:Heap) (I S:Addr) (slot i n ep:Nat):Prop:=
 h.get? I=some { cls:=.type "set_iterator",dict:=none,data:=.fields #[rawInt (slot:Int),rawInt (i:Int),.ref S,rawInt (n:Int),rawInt (ep:Int)],slots:=#[] }
section
variable {W:Wd} {A:Around} {E:Value->Shared->Prop} {s:Shared}
theorem wpAny_setsByText {Q:Bool->Shared->Prop} (h:Q (W.w.params.followText "set-order") s):wpAny (model W.prog W.w) A setsByText Q E s:=by
 unfold setsByText
 exact aL (wpAny_askSetting (aM h))
theorem iter_set {a:Addr} {σ:List Nat} {es:Array (Int×Value)} {ep:Nat} {Q:Value->Shared->Prop} (ho:s.heap.get? a=some (setO es ep (tab σ (ledW W.w)))) (hf:(tab σ (ledW W.w)).fits es.size=true)
  (hQ:Q (.ref s.heap.objs.size) { s with heap:=s.heap.push { cls:=.type "set_iterator",data:=.fields #[rawInt ((0:Nat):Int),rawInt ((0:Nat):Int),.ref a,rawInt (es.size:Int),rawInt (ep:Int)] } }) :
  wpAny (model W.prog W.w) A (pyIter (.ref a)) Q E s:=by
 have hT:s.TypeIs (.ref a) "set":=⟨_,ho,rfl⟩
 refine wpAny_pyIter_slot hT PySem.F.slot_set_iter (wpAny_call_entry PySem.F.slot_set_iter hT entry_set_iter ?_ (PySem.F.args_set_iter_1 _))
 unfold Builtin.«frozenset.__iter__» Builtin.Frozenset.slot0
 refine aL ?_
 refine aL (aM ?_)
 show wpAny _ _ (Builtin.Frozenset.addrOf (.ref a)) _ _ s
 refine aM ?_
 show wpAny _ _ (Builtin.Frozenset.sizeOf a>>=_) _ _ s
 refine aL ?_
 unfold Builtin.Frozenset.sizeOf setEntries
 refine aL (aL (wpAny_setState_of ho rfl hf (aM (aM ?_))))
 refine aL ?_
 refine aL (wpAny_setState_of ho rfl hf ?_)
 refine aL (wpAny_setsByText (aM ?_))
 rw [aP (by
  show ¬ ((!(W.w.params.followText "set-order")&&(!true&&decide (es.size > 1)))=true)
  simp)]
 refine aL (aM ?_)
 refine aL (wpAny_setEpoch_of ho rfl hf ?_)
 simp only [newFields]
 refine aL (wpAny_newObj_type (aM ⟨_,rfl,"set_iterator",_,⟨_,am _ rfl,rfl⟩,slot_set_iterator_next.lookup,?_⟩))
 exact hQ
theorem slot_of {σ:List Nat} (h:σ∈subs) {i:Nat} (hi:i<=σ.length):SetTable.below σ.toArray (slotN σ i)=i:=by
 have:=List.all_eq_true.mp (List.all_eq_true.mp slot_all σ h) i (by simp;lia)
 simpa using this
theorem setWalk_ok {a:Addr} {σ:List Nat} {es:Array (Int×Value)} {ep:Nat} {Q:Array (Int×Value)->Shared->Prop} (ho:s.heap.get? a=some (setO es ep (tab σ (ledW W.w)))) (hf:(tab σ (ledW W.w)).fits es.size=true) (ht:W.w.params.followText "set-order"=true)
  (h:Q (pickOrder (W.w.params.setOrder a ep) es) s):wpAny (model W.prog W.w) A (setWalk a) Q E s:=by
 unfold setWalk
 refine aL (wpAny_setState_of ho rfl hf ?_)
 dsimp only
 refine aL (wpAny_setsByText ?_)
 rw [aQ ht]
 exact aL (wpAny_askSetting (aM h))
theorem setNext_ok {a:Addr} {σ:List Nat} {es:Array (Int×Value)} {ep slot i:Nat} {Q:Option (Value×Nat)->Shared->Prop} (hσ:σ∈subs) (hE:Els es.toList σ) (ho:s.heap.get? a=some (setO es ep (tab σ (ledW W.w))))
  (hs:ledW W.w=true->slot=slotN σ i) (hi:i<=es.size)
  (h:∀ slot',(ledW W.w=true->slot'=slotN σ (i+1))->Q ((ordS W.w a ep es)[i]?.map λx=>(x.2,slot')) s):wpAny (model W.prog W.w) A (setNext a slot i ep) Q E s:=by
 refine xaaa (subs_of hσ) λs1 s2 s3 s4=>?_
 have hlen:es.size=σ.length:=by rw [← Array.length_toList];exact hE.length
 have hf:(tab σ (ledW W.w)).fits es.size=true:=by rw [hlen];exact s2 _
 unfold setNext
 refine aL (wpAny_setState_of ho rfl hf ?_)
 dsimp only
 refine aL (wpAny_setsByText ?_)
 cases ht:W.w.params.followText "set-order" with
 | true=>
  rw [aQ rfl,aP (by simp)]
  refine aL (setWalk_ok ho hf ht ?_)
  have hled:¬ ledW W.w=true:=by unfold ledW;rw [ht];decide
  have:=h slot λq=>absurd q hled
  unfold ordS at this
  rw [aQ ht] at this
  exact aM this
 | false=>
  rw [aP (by decide)]
  have hled:ledW W.w=true:=by unfold ledW;rw [ht];rfl
  have hslot:=hs hled
  rw [aP (by
   show ¬ ((!true&&decide (es.size > 1))=true)
   simp)]
  refine aL (wpAny_of_eq (a:=()) (by
   show (if (!(tab σ (ledW W.w)).led&&!es.isEmpty)=true then _ else _)=_
   rw [aP (by show ¬ ((!ledW W.w&&!es.isEmpty)=true);rw [hled];simp)]) ?_)
  have hb:SetTable.below (tab σ (ledW W.w)).place slot=i:=by rw [hslot];exact slot_of hσ (by lia)
  rw [hb]
  refine aM ?_
  have:=h (σ.getD i 0+1) λu1=>by unfold slotN;rw [aP (by lia)];rfl
  unfold ordS at this
  rw [aP (by rw [ht];decide)] at this
  by_cases hlt:i < es.size
  ·have e1:es[i]?=some es[i]:=Array.getElem?_eq_getElem hlt
   have e2:(tab σ (ledW W.w)).place[i]?=some (σ[i]'(by lia)):=by
    show σ.toArray[i]?=_
    rw [List.getElem?_toArray,ad]
   have e3:σ.getD i 0=σ[i]'(by lia):=by simp [← hlen,hlt]
   rw [e1,e3] at this
   rw [e1,e2]
   exact this
  ·have e1:es[i]?=none:=Array.getElem?_eq_none (by lia)
   rw [e1] at this ⊢
   exact this
theorem next_set {I a:Addr} {σ:List Nat} {es:Array (Int×Value)} {ep slot i:Nat} {x:Int×Value} {Q:Option Value->Shared->Prop} (hσ:σ∈subs) (hE:Els es.toList σ) (hit:IsSetIter s.heap I a slot i es.size ep) (ho:s.heap.get? a=some (setO es ep (tab σ (ledW W.w))))
  (hs:ledW W.w=true->slot=slotN σ i) (hx:(ordS W.w a ep es)[i]?=some x)
  (hQ:∀ h' slot',IsSetIter h' I a slot' (i+1) es.size ep->(ledW W.w=true->slot'=slotN σ (i+1))->Heap.SameBut I s.heap h'->Q (some x.2) { s with heap:=h' }):wpAny (model W.prog W.w) A (pyNext (.ref I)) Q E s:=by
 have hT:s.TypeIs (.ref I) "set_iterator":=⟨_,hit,rfl⟩
 refine xaaa (subs_of hσ) λs1 s2 s3 s4=>?_
 have hlen:es.size=σ.length:=by rw [← Array.length_toList];exact hE.length
 have hf:(tab σ (ledW W.w)).fits es.size=true:=by rw [hlen];exact s2 _
 have hi:i < es.size:=by
  have:=(Array.getElem?_eq_some_iff.mp hx).1
  have hp:=(ord_perm W.w a ep es).length_eq
  simp only [Array.length_toList] at hp
  lia
 unfold pyNext
 refine aL (wpAny_attempt (wpAny_callSpecial?_slot (name:=Str.ofString "__next__") hT slot_set_iterator_next
  (wpAny_call_entry slot_set_iterator_next hT entry_set_iterator_next ?_ (args_set_iterator_next _))))
 unfold Builtin.«set_iterator.__next__»
 refine aL (aM ?_)
 refine aL (wpAny_fieldsOf hit rfl ?_)
 show wpAny _ _ (setEntries a>>=_) _ _ s
 unfold setEntries
 refine aL (aL (wpAny_setState_of ho rfl hf (aM ?_)))
 rw [aP (by simp)]
 refine aL ?_
 simp only [Int.toNat_natCast]
 refine setNext_ok hσ hE ho hs (Nat.le_of_lt hi) λslot' hs'=>?_
 rw [hx]
 dsimp only [Option.map_some]
 show wpAny _ _ (setField (.ref I) 0 (rawInt (slot':Int))>>=λu1=>setField (.ref I) 1 (rawInt ((i:Int)+1))>>=λu1=>ret x.2) _ _ _
 refine aL (wpAny_setField_rec hit (by simp) λh1 hit1 hs1=>?_)
 refine aL (wpAny_setField_rec hit1 (by simp) λh2 hit2 hs2=>?_)
 have hit2':IsSetIter h2 I a slot' (i+1) es.size ep:=by
  have e:((i:Int)+1)=((i+1:Nat):Int):=by lia
  rw [e] at hit2
  exact hit2
 refine aM ⟨_,rfl,aM (hQ h2 slot' hit2' hs' ?_)⟩
 exact hs1.trans hs2
theorem end_set {I a:Addr} {σ:List Nat} {es:Array (Int×Value)} {ep slot:Nat} {Q:Option Value->Shared->Prop} (hh:A.handled=none) (hσ:σ∈subs) (hE:Els es.toList σ) (hit:IsSetIter s.heap I a slot es.size es.size ep) (ho:s.heap.get? a=some (setO es ep (tab σ (ledW W.w))))
  (hs:ledW W.w=true->slot=slotN σ es.size)
  (hQ:∀ h',Heap.ExtBut I s.heap h'->Q none { s with heap:=h' }):wpAny (model W.prog W.w) A (pyNext (.ref I)) Q E s:=by
 have hT:s.TypeIs (.ref I) "set_iterator":=⟨_,hit,rfl⟩
 refine xaaa (subs_of hσ) λs1 s2 s3 s4=>?_
 have hlen:es.size=σ.length:=by rw [← Array.length_toList];exact hE.length
 have hf:(tab σ (ledW W.w)).fits es.size=true:=by rw [hlen];exact s2 _
 unfold pyNext
 refine aL (wpAny_attempt (wpAny_callSpecial?_slot (name:=Str.ofString "__next__") hT slot_set_iterator_next
  (wpAny_call_entry slot_set_iterator_next hT entry_set_iterator_next ?_ (args_set_iterator_next _))))
 unfold Builtin.«set_iterator.__next__»
 refine aL (aM ?_)
 refine aL (wpAny_fieldsOf hit rfl ?_)
 show wpAny _ _ (setEntries a>>=_) _ _ s
 unfold setEntries
 refine aL (aL (wpAny_setState_of ho rfl hf (aM ?_)))
 rw [aP (by simp)]
 refine aL ?_
 simp only [Int.toNat_natCast]
 refine setNext_ok hσ hE ho hs (Nat.le_refl _) λslot' hs'=>?_
 have hx:(ordS W.w a ep es)[es.size]?=none:=by
  refine Array.getElem?_eq_none ?_
  have hp:=(ord_perm W.w a ep es).length_eq
  simp only [Array.length_toList] at hp
  lia
 rw [hx]
 dsimp only [Option.map_none]
 show wpAny _ _ (setField (.ref I) 2 .none>>=_) _ _ s
 refine aL (wpAny_setField hit rfl (by simp) ?_)
 show wpAny _ _ (newExc (.type "StopIteration") []>>=_) _ _ _
 refine aL ?_
 unfold newExc newTuple
 refine aL (wpAny_newObj_type ?_ (by size_fits))
 refine aL (m:=firstArgMember _ _) (wpAny_of_eq (a:=Value.none) rfl ?_)
 refine wpAny_newObj_type ?_ (by size_fits)
 unfold raiseNew
 refine aL (wpAny_handled ?_)
 rw [show A.in1.handled=none from hh]
 refine aL (aM (wpAny_throw ?_))
 refine aL (wpAny_isInstance (T:="StopIteration") (b:=true) ⟨_,am _ rfl,rfl⟩ isSubtype_stop ?_)
 exact aM (hQ _ (((Heap.SameBut.update ..).extBut.push _).push _))
end
section
variable {prog:Program} {w:World} {A:Around} {E:Value->Shared->Prop} {s:Shared} {r:Addr} {Q:Bool->Shared->Prop}
theorem hint_set (hT:s.TypeIs (.ref r) "set") (h:Q false s):wpAny (model prog w) A (Builtin.List.listLengthHint (.ref r)) Q E s:=by
 unfold Builtin.List.listLengthHint
 refine aL (wpAny_specialOf hT PySem.F.slot_set_len.lookup ?_)
 generalize hid:("set.__len__":String)=id0
 wp_delta
 rw [show splitId id0=some ("set","__len__") from by subst hid;decide +kernel]
 subst hid
 refine aL (wpAny_isInstance (T:="set") (b:=true) hT (by rw [isSubtype_type];kernel_rfl) ?_)
 refine wpAny_ite_split (λhab=>absurd hab (by decide)) (λu1=>?_)
 refine wpAny_ite_split (λu1=>?_) (λhab=>absurd (by decide +kernel) hab)
 refine aL (wpAny_typeOf hT ?_)
 exact aM h
end
theorem slot_set_iterator_iter:Slot "set_iterator" "__iter__" "set_iterator.__iter__":=
 .of (owner:="set_iterator") (n:="__iter__") (by rw [typeLookup_type,builtinLookup_eq_fast];kernel_rfl) (by decide +kernel) (by decide +kernel) (by decide +kernel)
  (by first | exact .inl (by decide +kernel) | exact .inr (by decide +kernel)) (by rw [isSubtype_type];kernel_rfl)
theorem entry_set_iterator_iter:entryFor table "set_iterator.__iter__"=some Builtin.«dict_keyiterator.__iter__»:=
 entryFor_alias (id':="dict_keyiterator.__iter__") (by kernel_rfl) (by first | rfl | decide +kernel) (by decide +kernel) (by kernel_rfl)
theorem args_set_iterator_iter (a:Value):argsOk "set_iterator.__iter__" ⟨[a],[]⟩:=by
 unfold argsOk;rw [signature?_of (id:="set_iterator.__iter__") (n:=['_','_','r','e','t','i','_','_']) (o:=['r','o','t','a','r','e','t','i','_','t','e','s']) (by kernel_rfl) owner_set_iterator];kernel_rfl
section
variable {W:Wd} {A:Around} {E:Value->Shared->Prop} {s:Shared} {h:Heap} {ban:Addr->Prop} {ce:CE} {κ:Cx ce} {τ:Sg}
theorem walksSet (hh:A.handled=none) (I S:Addr) (hne:S≠I) {σ:List Nat} {es:Array (Int×Value)} {ep:Nat} (hσ:σ∈subs) (hE:Els es.toList σ) :
  Walks W.prog W.w A I [I,S] [I] es.size (λi v=>∃ x,(ordS W.w S ep es)[i]?=some x/\v=x.2) (λi h=>(∃ slot,IsSetIter h I S slot i es.size ep/\(ledW W.w=true->slot=slotN σ i))/\h.get? S=some (setO es ep (tab σ (ledW W.w)))) where
 sub:=λb hb=>by simp at hb;simp [hb]
 frame:=λi h h' st hk=>by
  refine xa st λz261q h3=>?_;obtain ⟨slot,h1,h2⟩:=z261q
  exact ⟨⟨slot,hk I (by simp) _ h1,h2⟩,hk S (by simp) _ h3⟩
 item:=λi s Q E hi st hQ=>by
  refine xa st λz262q h3=>?_;obtain ⟨slot,h1,h2⟩:=z262q
  have hp:=(ord_perm W.w S ep es).length_eq
  simp only [Array.length_toList] at hp
  have hx:(ordS W.w S ep es)[i]?=some ((ordS W.w S ep es)[i]'(by lia)):=Array.getElem?_eq_getElem _
  refine next_set hσ hE h1 h3 h2 hx λh' slot' hit' hs' hsb=>?_
  exact hQ _ h' s.toks ⟨_,hx,rfl⟩ ⟨⟨slot',hit',hs'⟩,hsb.extBut S _ hne h3⟩ λb o hb e=>hsb.extBut b o (λh=>hb (by simp [h])) e
 done:=λs Q E st hQ=>by
  refine xa st λz263q h3=>?_;obtain ⟨slot,h1,h2⟩:=z263q
  exact end_set hh hσ hE h1 h3 h2 λh' he'=>hQ h' s.toks λb o hb e=>he' b o (λh=>hb (by simp [h])) e
 self:=λi s Q E st hQ=>by
  refine xa st λz264q h3=>?_;obtain ⟨slot,h1,h2⟩:=z264q
  have hT:s.TypeIs (.ref I) "set_iterator":=⟨_,h1,rfl⟩
  refine wpAny_pyIter_slot hT slot_set_iterator_iter (wpAny_call_entry slot_set_iterator_iter hT entry_set_iterator_iter ?_ (args_set_iterator_iter _))
  show wpAny _ _ (ret (.ref I)) _ _ s
  exact aM ⟨_,rfl,"set_iterator",_,hT,slot_set_iterator_next.lookup,hQ⟩
theorem src_set {S:Addr} {σ:List Nat} {es:Array (Int×Value)} {ep:Nat} (hσ:σ∈subs) (hE:Els es.toList σ):KdlSrc W.prog W.w "set" S S es.size (λi v=>∃ x,(ordS W.w S ep es)[i]?=some x/\v=x.2) (λh=>h.get? S=some (setO es ep (tab σ (ledW W.w)))) where
 type:=λu1 hm=>⟨_,hm,rfl⟩
 there:=λu1 hm=>⟨Heap.lt_size hm,Heap.lt_size hm⟩
 keep:=λu1 u2 hm hk=>hk S (.inl rfl) _ hm
 notList:=by decide
 notTuple:=by decide
 hint:=λu1 u2 u3 u4 hm hq=>hint_set ⟨_,hm,rfl⟩ hq
 iter:=λA s hh hm=>by
  have hlen:es.size=σ.length:=by rw [← Array.length_toList];exact hE.length
  have hf:(tab σ (ledW W.w)).fits es.size=true:=by rw [hlen];exact (subs_of hσ).2.1 _
  exact ⟨_,_,(λu1 u2 hq=>iter_set hm hf hq),walksSet hh _ S (Nat.ne_of_lt (Heap.lt_size hm)) hσ hE,⟨⟨0,am _ rfl,λu1=>rfl⟩,ah _ hm⟩⟩
theorem Els.vals {es:List (Int×Value)} {σ:List Nat} (h:Els es σ):All2 IntV (es.map (·.2)) (σ.map λ(n:Nat)=>(n:Int)):=(h.map_left (·.2) (S:=λv (n:Nat)=>IntV v n) λu1 u2 z=>z.2).map_right _ λu1 u2 z=>z
noncomputable def iv:Value->Int
 | .int n u1=>n
 | _=>0
theorem ints_iv {l:List Value} {ns:List Int} (h:All2 IntV l ns):ns=l.map iv/\∀ v∈l,IntV v (iv v):=
 All2.ind (P:=λl ns=>ns=l.map iv/\∀ v∈l,IntV v (iv v)) h ⟨rfl,λv h=>absurd h aA⟩ λv n l ns q u1 ih=>xe q λt e=>by
  subst e
  exact ⟨aN (n::·) ih.1,λv hv=>(aG.mp hv).elim (λe=>e▸⟨t,rfl⟩) (ih.2 v)⟩
theorem iv_ints:∀ {l:List Value},(∀ v∈l,IntV v (iv v))->All2 IntV l (l.map iv)
 | [],_=>.nil
 | v::l,h=>.cons (h v (.head _)) (iv_ints λu hu=>h u (.tail _ hu))
theorem ints_perm {l l':List Value} {ns:List Int} (p:l'.Perm l) (h:All2 IntV l ns):∃ ns',All2 IntV l' ns'/\ns'.Perm ns:=
 xa (ints_iv h) λe k=>⟨l'.map iv,iv_ints λv hv=>k v (p.mem_iff.mp hv),e▸p.map iv⟩
theorem coll_set {S:Addr} {σ:List Nat} {ds:List Int} (hh:A.handled=none) (hS:SetEx s.heap S σ (ledW W.w)) (hσ:σ∈subs) (hp:(σ.map λ(n:Nat)=>(n:Int)).Perm ds) :
  wpAny W.m A (collect (.ref S)) (λus s'=>∃ ns':List Int,Coll ban s (ns'.map .int) us s'/\ns'.Perm ds) E s:=by
 refine xeea hS λes ep ho hE=>kdu_collect (src_set hσ hE) hh ho (lt_line (by rw [← Array.length_toList,hE.length];exact aI (subs_of hσ).1 (by decide))) λh' tk acc k hi=>?_
 have hpo:=ord_perm W.w S ep es
 have e:acc.toList=(ordS W.w S ep es).toList.map (·.2):=items_eq (l:=(ordS W.w S ep es).toList) (f:=λ(x:Int×Value)=>x.2) (by rw [hpo.length_eq,Array.length_toList]) ⟨hi.1,λi v hv=>xea (hi.2 i v hv) λx h1 h2=>⟨x,by rw [Array.getElem?_toList];exact h1,h2⟩⟩
 refine xea (ints_perm (hpo.map (·.2)) hE.vals) λns' h1 h2=>⟨ns',⟨h',tk,λ{u1 u2}=>k _ _,?_⟩,h2.trans hp⟩
 rw [e]
 exact VDs.of (h1.map_right D.int λu1 u2 z=>z)
theorem insN_mem (σ:List Nat) (k m:Nat):m∈insN σ k↔m=k\/m∈σ:=by
 unfold insN
 rw [aD,aG]
 have e:m∈σ↔m∈σ.take (posN σ k)\/m∈σ.drop (posN σ k):=by rw [← aD,List.take_append_drop]
 rw [e]
 exact ⟨λh=>h.elim (λh=>.inr (.inl h)) λh=>h.elim .inl λh=>.inr (.inr h),λh=>h.elim (λh=>.inr (.inl h)) λh=>h.elim .inl λh=>.inr (.inr h)⟩
theorem foldN_mem (m:Nat):∀ (ns σ:List Nat),m∈ns.foldl (λσ k=>if σ.contains k then σ else insN σ k) σ↔m∈ns\/m∈σ
 | [],σ=>⟨.inr,λh=>h.elim (λh=>absurd h aA) id⟩
 | k::ns,σ=>by
  rw [List.foldl_cons,foldN_mem m ns,aG]
  cases h:σ.contains k with
  | true=>rw [aQ rfl];exact ⟨λq=>q.imp .inr id,λq=>q.elim (λq=>q.elim (λe=>.inr (e▸List.contains_iff_mem.mp h)) .inl) .inr⟩
  | false=>rw [aP Bool.false_ne_true,insN_mem];exact ⟨λq=>q.elim (λq=>.inl (.inr q)) λq=>q.elim (λq=>.inl (.inl q)) .inr,λq=>q.elim (λq=>q.elim (λe=>.inr (.inl e)) .inl) λq=>.inr (.inr q)⟩
theorem metN_mem (m:Nat) (ns:List Nat):m∈metN ns↔m∈ns:=(foldN_mem m ns []).trans ⟨λh=>h.elim id λh=>absurd h aA,.inl⟩
theorem met_perm {ns:List Nat} (hs:∀ n∈ns,n < 6):((metN ns).map λ(n:Nat)=>(n:Int)).Perm (dedup (ns.map λ(n:Nat)=>(n:Int))):=
 (List.perm_ext_iff_of_nodup (List.Pairwise.map _ (λa b h e=>h (Int.ofNat.inj e)) (subs_of (metN_subs hs)).2.2.2) (dedup_nodup _)).mpr λx=>by
  rw [dedup_mem,aJ,aJ]
  exact ⟨λ⟨a,h,e⟩=>⟨a,(metN_mem a ns).mp h,e⟩,λ⟨a,h,e⟩=>⟨a,(metN_mem a ns).mpr h,e⟩⟩
theorem nats_of:∀ {ns:List Int},(ns.all λn=>decide (0<=n)&&decide (n < 6))=true->∃ ms:List Nat,ns=ms.map (λ(n:Nat)=>(n:Int))/\∀ n∈ms,n < 6
 | [],_=>⟨[],rfl,λn h=>absurd h aA⟩
 | n::ns,h=>xea (nats_of (ns:=ns) (b2 h)) λms e hm=>by
  have h0:=Int.toNat_of_nonneg (aw (b1 (b1 h)))
  refine ⟨n.toNat::ms,by rw [List.map_cons,← e,h0],λk hk=>(aG.mp hk).elim (λe=>?_) (hm k)⟩
  have:=aw (b2 (b1 h))
  lia
theorem intsOf_ints:∀ ns:List Int,intsOf (ns.map .int)=some ns
 | []=>rfl
 | n::ns=>aN (Option.map (n::·)) (intsOf_ints ns)
theorem sortD_ints {ns ds:List Int} (p:ns.Perm ds) (h:ns.length < 60):sortD (ns.map .int)=some ((sortBy ltI ds).map .int):=by
 unfold sortD
 rw [intsOf_ints,aB,show small ns.length=true from aF h,← sort_unique ((sortBy_perm ltI ns).trans p) (sortBy_sorted ns)]
 rfl
theorem ok_sortSet {a:Expr} {p p2 pos pos2:Pos} {ya:X} (hf:glob ce "sorted"=true) (hg:glob ce "set"=true) (hst:∀ e0 p,a≠.Starred e0 p) (ha:XE κ a ya):XE κ (.Call (.Name "sorted" p) [.Call (.Name "set" p2) [a] [] pos2] [] pos) (.sortSet ya):=λP=>by
 refine xeeaaaaaa κ.O.g λmg mb n1 n2 u1 u2 u3 n3 u4=>xa (n3 2 "sorted" .sorted rfl rfl) λe3 e4=>xa (n3 6 "set" .set rfl rfl) λe5 e6=>?_
 refine call_two (λS q=>bui_ok S hf n1 n2 e3 e4 q) (λS q=>bui_ok S hg n1 n2 e5 e6 q) (.inl ⟨_,rfl⟩) (.inr ⟨_,rfl⟩) ha hst P λx τ g=>.vm ?_
 refine ow_ll λds l us m g0 nb q=>.be λns e=>.w λhz=>?_
 have h:=allM_some (λx y e=>ii_some e) e
 subst h
 refine xea (nats_of (b2 hz)) λms e6 hm=>?_
 subst e6
 refine set_call P.R.hd g0 (q.all2.of_map_right D.int λu1 u2 z=>z) hm λh' tk hS k=>?_
 have g2:Gn κ.W τ (τ.to h' tk):=Go.grow g.hs k
 refine post (sorted_by (σ:=τ.to h' tk) (P.R.room (by decide)) g2.hs (wpAny_mono (coll_set (A:=P.A.in1) P.R.hd hS (metN_subs hm) (met_perm hm)) (λus s' z=>xea z λns' c p=>⟨_,c,sortD_ints p (by rw [p.length_eq,← (met_perm hm).length_eq,aB];exact au (subs_of (metN_subs hm)).1 (by decide))⟩) λu1 u2 x=>x)) λv s q=>q.from (Go.tr g g2)
end
theorem lam_binds {name qual:Str} {pr:Arg} {body:Expr} {sc:Scope} {cl:List (Str×Addr)} {pm cdv ct:Value} {v:Value} (h:pr.arg=lamQ):bindArgs (kla_fn name qual ⟨[],[pr],none,[],[],none,[]⟩ body sc cl pm cdv ct) ⟨[v],[]⟩=pure [(lamQ,v)]:=by
 obtain ⟨x,a⟩:=pr
 cases (h:x=lamQ)
 kernel_rfl
section
variable {ce:CE} {κ:Cx ce} {lo:Nat} {σ:Sg} {A:Around} {af c:Addr} {v:Value} {dx:D} {ys:List D} {j:Nat}
theorem lam_call (R:Room κ.n A) (S:HS κ.W σ) (C:CloFn σ.s.heap σ.ban af c) (hr:σ.r[j]?=some (some c)) (hj:σ.H.o[j]?=some (.cell ys)) (qv:VD σ.s.heap σ.ban v dx):Ow (inL dx ys) λb=>wpAny κ.W.m A (call (.ref af) [v]) (EP κ.W σ (.d (.bool (!b)),σ.H)) NoE σ.s:=by
 cases C with | mk name qual pr p1 p2 p3 sc pm ctv c' oc fs tq ga nb gc nb' hdat hf1 hpr hnm hki hge hco=>
 refine xeeaa (S.at_ hr hj) λoc' cv go gd qc=>.of λb eb=>wpAny_call (kla_callFunE (A:=A) R.depth ga rfl hco hge rfl ⟨c',oc,fs,tq,rfl,gc,hdat,hf1⟩ (wpAny_of_eq (lam_binds (v:=v) hpr) ?_))
 have kq:sc.names.lookup lamQ=some .local:=by rw [hnm];exact lk_self
 have ky:sc.names.lookup lamY=some .free:=by rw [hnm,lk_ne (by decide)];exact lk_self
 refine wpAny_newFunctionEnv (λz hz=>?_) (λz hz=>?_) (λh₁ hns hsb=>?_) hki
 ·have hz:z∈sc.names:=hz
  rw [hnm] at hz
  exact (aG.mp hz).elim (λe=>e▸nofun) λhz=>(ao.mp hz)▸nofun
 ·cases ao.mp hz
  exact kq
 ·have hk₁:∀ {b o},σ.s.heap.get? b=some o->h₁.get? b=some o:=λe=>hsb.extBut _ _ (Nat.ne_of_lt (Heap.lt_size e)) (ah _ e)
  refine ⟨((κ.O.lim).keeps λu1 u2 e=>S.keep e).fresh _ hsb,kla_codeExpr (wpAny_Compare1 (wpAny_Name (wpAny_loadName_local hki kq hns (v:=v) lk_self ?_) (by decide)) rfl)⟩
  refine wpAny_Name (wpAny_loadName_free hki ky lk_self ⟨oc',hk₁ go,gd⟩ ?_ (by decide)) (by decide)
  have g2:=Go.grow (fr:=no) (tk:=σ.s.toks+1) S hk₁
  have e4:cmpV .notin (.d dx) (.d (.list ys)) σ.H=some (!b):=aN (Option.map (!·)) eb
  have qv':Vv κ.W (σ.to h₁ (σ.s.toks+1)) v (.d dx):=VD.step (.grow hk₁) qv
  have qc':Vv κ.W (σ.to h₁ (σ.s.toks+1)) cv (.d (.list ys)):=VD.step (.grow hk₁) qc
  exact (cmp_ok (W:=κ.W) (op:=.notin) (Q:=λb v s=>EP κ.W σ (.d (.bool b),σ.H) v s) (show A.units+3+80 < cLine from au (Nat.add_le_add_left (by decide:3+80<=90) A.units) (R.room (by decide))) g2.hs v qv' cv qc').use e4 λtk=>(EP.bool g2.hs).from g2
theorem ow_vcall {τ:Sg} {x:V} {Q:V->Prop} (k:∀ d ys,x=.d d->τ.H.o[j]?=some (.cell ys)->Ow (inL d ys) λb=>Q (.d (.bool (!b)))):Ow (vcallV (.clo j) x τ.H) Q:=by
 refine Ow.be (o:=some j) λu1 e=>.be λd e1=>.be λo e2=>.be λys e3=>.m ?_
 cases e
 cases o with
 | cell zs=>cases e3;exact k d _ (dt_some e1) e2
 | _=>exact noS e3
theorem CloFn.fn {M:Model} (C:CloFn σ.s.heap σ.ban af c):∃ ob,σ.s.heap.get? af=some ob/\¬ σ.ban af/\∀ h,h.get? af=some ob->∃ k,(k=Keeper.frame\/k=Keeper.machine\/k=Keeper.boundFrame)/\Looks M h (keeperOf (.ref af)) k:=by
 cases C with | mk name qual pr p1 p2 p3 sc pm ctv c' oc fs tq ga nb=>exact ⟨_,ga,nb,λh X=>⟨.frame,.inl rfl,(Looks.ld (part:=none) X).andThen .now⟩⟩
theorem call_clo {vf:Value} {pos:Pos} {a:Expr} {ya:X} (hst:∀ e0 p,a≠.Starred e0 p) (ha:XE κ a ya) (P:Pt κ lo σ) (qf:Vv κ.W σ vf (.clo j)) :
  Ow ((evalX κ.Φ ya P.vs σ.H).bind λp=>(vcallV (.clo j) p.1 p.2).map λz=>(z,p.2)) λo=>wpAny κ.W.m P.A (callWith pos vf [] (backTo pos (starEach [a] κ.env)) []) (EP κ.W σ o) NoE σ.s:=by
 have hp:((backTo pos (starEach [a] κ.env)).any (·.1)||([]:List (Option Str×Sem Value)).any (·.1.isNone))=false:=by rw [starEach_cons hst];rfl
 refine xea qf λaf e z=>?_
 subst e
 rcases z with z | ⟨c,er,C⟩
 ·exact Ow.mono (λo h=>callWith_of (P:=λu1=>False) hp (λu1 z=>z.elim) (args_one hst h)) (ha.seq P λx τ g v qv=>.m (ow_vcall λd ys u1 e=>nomatch e.symm.trans (g.hs.gone ((g.rho _ _ z).elim id id))))
 ·refine xeaa (C.fn (M:=κ.W.m)) λob ga nb hk=>Ow.mono (λo h=>callWith_of (P:=λh=>h.get? af=some ob) hp hk (args_one hst h)) (ha.seq P λx τ g v qv=>.m (ow_vcall λd ys ed e=>?_))
  subst ed
  exact Ow.mono (λb h=>⟨(g.exn P.S).k nb ga,post h λu1 u2 z=>z.from g⟩) (lam_call P.R g.hs (C.step (g.exn P.S)) ((g.rho _ _ er).elim id λz=>nomatch e.symm.trans (g.hs.gone z)) e qv)
theorem ok_vcall {f:Str} {k:Nat} {p pos:Pos} {a:Expr} {ya:X} (hs:slot ce f=some k) (hst:∀ e0 p,a≠.Starred e0 p) (ha:XE κ a ya):XE κ (.Call (.Name f p) [a] [] pos) (.vcall k ya):=λ{lo σ} P=>.of λo eo=>bC eo λq eq eo=>bC eo λX eX eo=>by
 cases X with
 | clo j=>exact wpAny_Call_NameR (post ((load_ok (Q:=λX v s=>s=σ.s/\Vv κ.W σ v X) P.T hs λX v z=>⟨rfl,z⟩).use eX) λvf s h=>xa h λe qf=>by subst e;exact (call_clo hst ha P qf).use (by rw [eq];exact eo))
 | _=>exact noS eo
end
section
variable {W:Wd} {σ υ:Sg} {n j:Nat} {a c:Addr} {ys zs:List D}
theorem Go.back (S:HS W σ) (lc:¬ Live σ.r c) (g:Gn W ⟨σ.ban,σ.r++[some c],σ.H.new (.cell ys),σ.s⟩ υ) (hw:υ.H.w=σ.H.w) (hc:υ.H.o[σ.H.o.length]?=some (.cell zs)):Gn W σ ⟨υ.ban,υ.r.set σ.H.o.length none,⟨υ.H.o.set σ.H.o.length .dead,υ.H.w⟩,υ.s⟩:=by
 have last:(σ.r++[some c])[σ.H.o.length]?=some (some c):=S.len▸push_at ..
 have T:=g.hs
 have rc:υ.r[σ.H.o.length]?=some (some c):=(g.rho _ _ last).elim id λz=>nomatch hc.symm.trans (T.gone z)
 have live2:∀ {a},Live (σ.r++[some c]) a->Live σ.r a\/a=c:=λl=>xe l λj e=>(Internal.pushed e).elim (λe=>.inl ⟨j,e⟩) λe=>.inr (by cases e.2;rfl)
 have nl:∀ {a},¬ Live σ.r a->a≠c->¬ Live (σ.r++[some c]) a:=λn z l=>(live2 l).elim n z
 have le:υ.r.le (υ.r.set σ.H.o.length none):=λi x f=>by
  by_cases q:σ.H.o.length=i
  ·subst q;exact .inr (List.getElem?_set_self (aa.mp f).1)
  ·exact .inl ((List.getElem?_set_ne q).trans f)
 have oe:∀ {i},i≠σ.H.o.length->(υ.H.o.set σ.H.o.length .dead)[i]?=υ.H.o[i]?:=λn=>List.getElem?_set_ne (Ne.symm n)
 have ne:∀ {i x},σ.r[i]?=some x->σ.H.o.length≠i:=λe z=>absurd (aa.mp e).1 (by rw [S.len,z];exact Nat.lt_irrefl _)
 exact {
  rest:=g.rest
  keep:=λ{a o} n f e=>(Classical.em (a=c)).elim (λz=>g.nw hw ⟨σ.H.o.length,z▸last⟩ e) λz=>g.keep (nl n z) f e
  bnew:=g.bnew
  bst:=λ{a o} b n e=>(Classical.em (a=c)).elim (λz=>z▸T.bans rc) λz=>g.bst b (nl n z) e
  rho:=λi x e=>(g.rho i x (getA _ e)).imp (λf=>(List.getElem?_set_ne (ne e)).trans f) λf=>(List.getElem?_set_ne (ne e)).trans f
  new:=λ{a} l=>xe l λi e=>(g.new ⟨i,(set_live e).2⟩).imp (λl=>(live2 l).elim id λz=>absurd (T.nodup (set_live e).2 (z▸rc)) (set_live e).1) id
  ex:=g.ex
  hs:=⟨by rw [List.length_set,List.length_set];exact T.len,λf=>(set_at f).elim (λz=>by rw [z.1];exact List.getElem?_set_self (by rw [← T.len];exact (aa.mp rc).1)) λz=>(oe z.1).trans (T.gone z.2),λf g=>T.nodup (set_live f).2 (set_live g).2,
   λf g=>(T.at_ (set_live f).2 ((oe (set_live f).1).symm.trans g)).step (.grow id) le id,λf=>T.bans (set_live f).2,T.keep,T.lo,T.hi⟩
  wle:=g.wle
  nw:=λe {a o} l q=>g.nw e (xe l λi f=>(⟨i,getA _ f⟩:Live (σ.r++[some c]) a)) q
  live:=λe {a} l=>xe (g.live e (xe l λi f=>(⟨i,getA _ f⟩:Live (σ.r++[some c]) a))) λi f=>⟨i,(List.getElem?_set_ne λz=>lc (by rw [← z] at f;cases f.symm.trans rc;exact l)).trans f⟩ }
end
noncomputable abbrev lamX (pr:Arg) (p1 p2 p3:Pos) (sc:Scope) (p4:Pos):Expr:=.Lambda ⟨[],[pr],none,[],[],none,[]⟩ (.Compare (.Name lamQ p1) [.NotIn] [.Name lamY p2] p3) sc p4
structure LamS (ce:CE) (pr:Arg) (sc:Scope):Prop where
 pr:pr.arg=lamQ
 names:sc.names=[(lamQ,.local),(lamY,.free)]
 code:ce.code=some 403
 kind:sc.kind=.function
 gen:sc.isGenerator=false
 co:sc.isCoroutine=false
 out:ce.sc.names.lookup lamY≠some .local
theorem lamS_of {ce:CE} {pr:Arg} {sc:Scope} (h1:pr.arg=lamQ) (h2:sc.names=[(lamQ,.local),(lamY,.free)]) (h:okLam ce sc=true):LamS ce pr sc:=
 ⟨h1,h2,eq_of_beq (b1 (b1 (b1 (b1 h)))),eq_of_beq (b2 (b1 (b1 (b1 h)))),bn (b2 (b1 (b1 h))),bn (b2 (b1 h)),bne_iff_ne.mp (b2 h)⟩
inductive LamP (W:Wd) (τ:Sg) (ys:List D) (lv:Value) (s:Shared):Prop
 | mk (c:Addr) (g:Gn W τ ⟨τ.ban,τ.r,τ.H.put 0 .tabD,s⟩) (lc:¬ Live τ.r c) (S:HS W ⟨τ.ban,τ.r++[some c],(τ.H.put 0 .tabD).new (.cell ys),s⟩) (q:VV W s.heap τ.ban (τ.r++[some c]) lv (.clo τ.H.o.length))
section
variable {ce:CE} {κ:Cx ce} {lo:Nat} {τ:Sg} {fr:Addr->Prop} {vs:Vars} {A:Around} {pr:Arg} {p1 p2 p3 p4:Pos} {sc:Scope} {k:Nat} {ys:List D} {o:O}
theorem lam_clos (L:LamS ce pr sc) (hy:slot ce lamY=some k):∃ c,κ.env.cells.lookup lamY=some c/\κ.env.kindOf lamY≠some .local/\closureFor sc κ.env=pure [(lamY,c)]:=by
 have hkl:κ.env.kindOf lamY≠some .local:=λz=>L.out (κ.N.loc lamY k hy z)
 refine xe ((κ.N.var lamY k hy).elim (λz=>absurd z hkl) λz=>z.2) λc hcl=>⟨c,hcl,hkl,?_⟩
 rw [closure_eq λx hx=>?_]
 ·rw [L.names]
  show pure [(lamY,(κ.env.cells.lookup lamY).getD 0)]=_
  rw [hcl];rfl
 ·rw [L.names] at hx
  exact (aG.mp hx).elim (λe=>nomatch e) λhx=>by cases ao.mp hx;exact ⟨c,hcl⟩
theorem LamP.of {h':Heap} {tk:Nat} {c c':Addr} {ob:Obj} {nm:Str} {ps:Array Value} {pm ctv:Value} (L:LamS ce pr sc) (hcl:κ.env.cells.lookup lamY=some c) (hkl:κ.env.kindOf lamY≠some .local) (hy:slot ce lamY=some k) (S:HS κ.W τ) (T:VS κ lo fr τ vs) (hk:vs[k]?=some (some (.d (.list ys)))) (hr0:τ.r[0]?=some (some 401)) (ht:τ.s.heap.get? 401=some ob)
  (hx:∀ {b o},τ.s.heap.get? b=some o->b≠401->h'.get? b=some o) (hge:τ.s.heap.objs.size<=c') (hge2:τ.s.heap.objs.size<=h'.objs.size) (hrec:h'.CodeRec (.ref c') nm) (htb:h'.get? 401=some (tabObj ps)) :
  LamP κ.W τ ys (.ref h'.objs.size) { τ.s with heap:=h'.push (kla_obj "<lambda>" nm ⟨[],[pr],none,[],[],none,[]⟩ (.Compare (.Name lamQ p1) [.NotIn] [.Name lamY p2] p3) sc [(lamY,c)] pm c' ctv),toks:=tk }:=by
 have b0:τ.ban 401:=S.bans hr0
 have hp:∀ {b o},(τ.s.heap.update 401 λu1=>tabObj ps).get? b=some o->(h'.push (kla_obj "<lambda>" nm ⟨[],[pr],none,[],[],none,[]⟩ (.Compare (.Name lamQ p1) [.NotIn] [.Name lamY p2] p3) sc [(lamY,c)] pm c' ctv)).get? b=some o:=λ{b o} e=>ah _ (by
  by_cases z:b=401
  ·subst z;exact htb.trans ((Heap.get?_update_self _ ht rfl).symm.trans e)
  ·exact hx ((Heap.get?_update_other _ _ (Ne.symm z)).symm.trans e) z)
 have g1:=Go.put (tk:=τ.s.toks) (x:=.tabD) S hr0 ⟨_,ht⟩ rfl ⟨ps,Heap.get?_update_self _ ht rfl⟩
 have g2:=g1.tr (Go.grow (fr:=no) (tk:=tk) g1.hs hp)
 refine xaaa (T.cell hy hkl hcl) λu1 u2 bc lc=>?_
 have X:=g2.exn S
 have fresh:∀ {a},τ.s.heap.objs.size<=a->¬ τ.ban a:=λl q=>S.ab q (Heap.get?_none_of_le l)
 have oc:OO κ.W _ τ.ban τ.r c (.cell ys):=xea (T.vars hy hk) λcv q z=>q.elim (λq=>absurd q.1 hkl) λq=>xea q.2 λc2 e2 ic=>by
  cases hcl.symm.trans e2
  exact xea ic λo go gd=>⟨o,cv,g2.keep lc id go,gd,VD.step X z⟩
 refine ⟨c,g2,lc,g2.hs.adopt bc lc oc,_,rfl,.inr ⟨c,S.len▸push_at ..,?_⟩⟩
 obtain ⟨c2,oc,fs,tq,ec,hoc,hdc,hq1⟩:=hrec
 cases ec
 exact ⟨_,nm,pr,p1,p2,p3,sc,pm,ctv,c',oc,fs,tq,am _ rfl,fresh hge2,ah _ hoc,fresh hge,hdc,hq1,L.pr,L.names,L.kind,L.gen,L.co⟩
theorem lam_make (L:LamS ce pr sc) (hy:slot ce lamY=some k) (S:HS κ.W τ) (T:VS κ lo fr τ vs) (hk:vs[k]?=some (some (.d (.list ys)))) (ho:τ.H.o[0]?=some .tab):wpAny κ.W.m A (eval (lamX pr p1 p2 p3 sc p4) κ.env) (LamP κ.W τ ys) NoE τ.s:=by
 refine xeaa (lam_clos (κ:=κ) L hy) λc hcl hkl hclo=>kla_eval rfl ?_
 have l0:0 < τ.r.length:=S.len▸(aa.mp ho).1
 have h0:τ.r[0]?=some (some 401)/\τ.s.heap.get? 401=some (tabObj #[]):=by
  cases e:τ.r[0]? with
  | none=>exact absurd (List.getElem?_eq_none_iff.mp e) (Nat.not_le.mpr l0)
  | some x=>cases x with
   | none=>exact nomatch ho.symm.trans (S.gone e)
   | some a0=>exact xa (S.at_ e ho) λh1 h2=>by subst h1;exact ⟨rfl,h2⟩
 refine xa h0 λhr0 ht=>xeaa κ.O.lam λmg' m1 m2 m3=>?_
 refine kla_makeFunction hclo κ.N.glo (m1.keeps λu1 u2=>S.keep) (κ.N.code 403 L.code) (m3.keeps λu1 u2=>S.keep) ht aO rfl (by decide) (m2.keeps λu1 u2=>S.keep) λc' ctv h' tk hx hge' hlt hrec htb=>?_
 exact LamP.of L hcl hkl hy S T hk hr0 ht (λ{b o} e n=>hx b o n e) hge' (aI hge' (Nat.le_of_lt hlt)) hrec htb
theorem tb_some {l:Option O} {u:Unit} (h:l=some o) (e:o.tb=some u):l=some .tab:=by
 cases o with
 | tab=>exact h
 | _=>exact noS e
theorem ce_some {l:Option O} {zs:List D} (h:l=some o) (e:o.ce=some zs):l=some (.cell zs):=by
 cases o with
 | cell zs=>cases e;exact h
 | _=>exact noS e
theorem ll_some {Y:V} (e:Y.ll=some ys):Y=.d (.list ys):=by
 cases Y with
 | d d=>cases d with
  | list l=>cases e;rfl
  | _=>exact noS e
 | _=>exact noS e
theorem ok_flam {f:Str} {i:Nat} {p pos:Pos} {a:Expr} {ya:X} (hg:glob ce f=true) (hf:fnNames[i]?=some f) (hy:slot ce lamY=some k) (L:LamS ce pr sc) (hst:∀ e0 p,a≠.Starred e0 p) (ha:XE κ a ya):XE κ (.Call (.Name f p) [a,lamX pr p1 p2 p3 sc p4] [] pos) (.flam i [ya] k):=λ{lo σ} P=>by
 refine xeeaaaaa κ.O.g λmg mb n1 n2 u1 n3 u2 u3=>xa (n3 i f hf) λe7 e8=>?_
 have I:(backTo pos (starEach [a,lamX pr p1 p2 p3 sc p4] κ.env)).any (·.1)=false:=by
  rw [starEach_cons hst,starEach_cons (λu1 u2=>Expr.noConfusion)]
  rfl
 refine Ow.mono (λo h=>wpAny_Call_NameR (glob_ok P.S hg n1 e7 (callWith_of (P:=κ.W.K.In) (by rw [I];rfl) (keeps_K e8) (evalArgs_any I (wpAny_items_cons (post h λv s1 h1=>wpAny_items_cons (post h1 λlv s2 h2=>wpAny_items_nil h2) (starEach_cons λu1 u2=>Expr.noConfusion)) (starEach_cons hst)))))) (Ow.as (ha.seq (K:=λo v s1=>wpAny κ.W.m P.A (eval (lamX pr p1 p2 p3 sc p4) κ.env) (λlv s2=>κ.W.K.In s2.heap/\wpAny κ.W.m P.A (call (.ref (κ.W.fa (.f i))) [v,lv]) (EP κ.W σ o) NoE s2) NoE s1) P λx τ g v qv=>?_))
 refine Ow.be (o:=some ([x],τ.H)) λpr' e=>?_
 cases e
 refine .be λY eY=>.be λys ey=>.be λo eo=>.be λu1 et=>.be λq e3=>.be λdx edx=>.be λoc eoc=>.be λzs ezs=>.w λhw=>?_
 have hk:P.vs[k]?=some (some (.d (.list ys))):=(join_some eY).trans (aN (λz=>some (some z)) (ll_some ey))
 have ho:τ.H.o[0]?=some .tab:=tb_some eo et
 refine post (lam_make L hy g.hs (P.go g).T hk ho) λlv s2 z=>?_
 cases z with | mk c g2 lc S2 ql=>
 refine ⟨S2.kin κ.O,?_⟩
 have e3:callF κ.Φ (.f i) [x,.clo τ.H.o.length] ((τ.H.put 0 .tabD).new (.cell ys))=some q:=e3
 refine post ((ow_callF (E:=NoE) κ.F P.R S2 (us:=[v,lv]) (.cons (VV.step (g2.exn g.hs) (λj x e=>Rho.le.push τ.r (some c) j x e) qv) (.one ql))).use e3) λv3 s3 z=>?_
 cases z with | mk ban r g3 q3=>
 have hl:τ.H.o.length=(τ.H.put 0 .tabD).o.length:=(List.length_set ..).symm
 have eoc:q.2.o[(τ.H.put 0 .tabD).o.length]?=some (.cell zs):=hl▸ce_some eoc ezs
 have gb:=Go.back (σ:=⟨τ.ban,τ.r,τ.H.put 0 .tabD,s2⟩) g2.hs lc g3 (eq_of_beq hw) eoc
 rw [← hl] at gb
 exact ⟨_,_,Go.tr (Go.tr g g2) gb,(dt_some edx▸q3:VV κ.W s3.heap ban r v3 (.d dx))⟩
end
noncomputable def isLC (e:Expr):Bool:=Nat.beq e.ctorIdx 8
noncomputable def nN (n:Nat):Bool:=!(Nat.beq n 22||Nat.beq n 7||Nat.beq n 8)
noncomputable def vN (n:Nat):Bool:=nN n&&!(Nat.beq n 0||Nat.beq n 3||Nat.beq n 5||Nat.beq n 15)
noncomputable def LCX {ce:CE} (κ:Cx ce) (e:Expr):X->Prop
 | .comp k xe p1 en it1 two p2 it2 hasC c=>LcOK κ e (compEv k p1 en two p2 hasC (evalX κ.Φ it1) (evalX κ.Φ xe) (evalX κ.Φ it2) (evalX κ.Φ c))
 | _=>False
structure XOK (ce:CE) (e:Expr) (x:X):Prop where
 ev:∀ κ:Cx ce,XE κ e x
 tst:∀ κ:Cx ce,XT κ e x
 star:∀ e0 p,e≠.Starred e0 p
 set:∀ es k p,e≠.Set es k p
 new:∀ κ:Cx ce,XN κ e x
 lc:isLC e=true->∀ κ:Cx ce,LCX κ e x
abbrev RX (ce:CE) (e:Expr):=Option {x:X // XOK ce e x}
abbrev RXs (ce:CE) (es:List Expr):=Option {xs:List X // ∀ κ:Cx ce,IOK κ es xs}
abbrev RKV (ce:CE) (ks:List (Option Expr)) (vs:List Expr):=Option {xs:List X // ∀ κ:Cx ce,POK κ ks vs xs}
section
variable {ce:CE} {e:Expr} {x:X}
theorem NOK.no {κ:Cx ce} {t:Sem Value} {f:Vars->Hp->Option (O×Hp)} (h:∀ vs H,f vs H=none):NOK κ t f:=λP=>by rw [h];exact aO
theorem isTrue_v (k:vN e.ctorIdx=true) (env:Env):isTrue e env (eval e env)=(do let v ← eval e env;standAt e.pos;holding [v] (truthy v)):=by cases e <;> first | rfl | cases k
theorem XOK.gen (k:nN e.ctorIdx=true) (h:∀ κ:Cx ce,XE κ e x) (ht:∀ κ:Cx ce,XT κ e x) (hw:∀ κ:Cx ce,XN κ e x):XOK ce e x:=
 ⟨h,ht,λu1 u2 z=>(by subst z;cases k),λu1 u2 u3 z=>(by subst z;cases k),hw,λq=>(by rw [Nat.eq_of_beq_eq_true q] at k;cases k)⟩
theorem XOK.nw (k:vN e.ctorIdx=true) (h:∀ κ:Cx ce,XE κ e x) (hw:∀ κ:Cx ce,XN κ e x):XOK ce e x:=.gen (Bool.and_eq_true_iff.mp k).1 h (λκ=>tst_value (h κ) (isTrue_v k _)) hw
theorem XOK.plain (k:vN e.ctorIdx=true) (hn:∀ Φ vs H,evalNew Φ x vs H=none) (h:∀ κ:Cx ce,XE κ e x):XOK ce e x:=.nw k h λκ=>NOK.no (hn κ.Φ)
theorem XOK.test (k:nN e.ctorIdx=true) (hn:∀ Φ vs H,evalNew Φ x vs H=none) (h:∀ κ:Cx ce,XE κ e x) (ht:∀ κ:Cx ce,XT κ e x):XOK ce e x:=.gen k h ht λκ=>NOK.no (hn κ.Φ)
theorem XOK.comp {elt:Expr} {gens:List Comprehension} {sc:Scope} {pos:Pos} {k:Nat} {xe:X} {p1:Pat} {en:Bool} {it1:X} {two:Bool} {p2:Pat} {it2:X} {hasC:Bool} {c:X} (L:∀ κ:Cx ce,LCX κ (.ListComp elt gens sc pos) (.comp k xe p1 en it1 two p2 it2 hasC c)) :
  XOK ce (.ListComp elt gens sc pos) (.comp k xe p1 en it1 two p2 it2 hasC c):=
 ⟨λκ=>(L κ).ev,λκ=>tst_value (L κ).ev rfl,nofun,nofun,λκ=>(L κ).new,λu1=>L⟩
theorem XOK.evI (X:XOK ce e x) {Φ:Fns} (κ:Cx ce) (h:κ.Φ=Φ):EOK κ (eval e κ.env) (evalX Φ x):=h▸X.ev κ
theorem XOK.io (X:XOK ce e x) (κ:Cx ce):XE κ e x/\∀ e0 p,e≠.Starred e0 p:=⟨X.ev κ,X.star⟩
end
noncomputable def cXs {ce:CE} (f:(e:Expr)->RX ce e):(es:List Expr)->RXs ce es
 | []=>some ⟨[],λu1=>.nil⟩
 | e::es=>(f e).bind λx=>(cXs f es).map λxs=>⟨x.1::xs.1,λκ=>.cons (x.2.io κ) (xs.2 κ)⟩
noncomputable def cKV {ce:CE} (f:(e:Expr)->RX ce e):(ks:List (Option Expr))->(vs:List Expr)->RKV ce ks vs
 | [],[]=>some ⟨[],λu1=>⟨rfl,rfl⟩⟩
 | some k::ks,v::vs=>(f k).bind λa=>(f v).bind λb=>(cKV f ks vs).map λxs=>⟨a.1::b.1::xs.1,λκ=>⟨k,v,ks,vs,rfl,rfl,a.2.ev κ,b.2.ev κ,xs.2 κ⟩⟩
 | _,_=>none
section
variable {ce:CE} {κ:Cx ce} {o a ke:Expr} {m f g y q:Str} {apos pos lp p p2 pos2 p1 p3 p4:Pos} {es:List Expr} {xs:List X} {xo xk:X} {b:BM} {j i k:Nat} {pr:Arg} {sc:Scope}
theorem bmeth_any (hm:m=bmStr b) (hb:PB o) (hl:es.length<=20) (hline:(apos.endLine==pos.line)=true) (ho:XE κ o xo) (I:IOK κ es xs):XE κ (.Call (.Attribute o m apos) es [] pos) (.bmeth b xo xs):=by subst hm;exact ok_bmeth hb hl hline ho I
theorem meth_any (hm:m=methStr j) (hb:PB o) (hl:es.length<=20) (hline:(apos.endLine==pos.line)=true) (ho:XE κ o xo) (I:IOK κ es xs):XE κ (.Call (.Attribute o m apos) es [] pos) (.meth xo j xs):=by subst hm;exact ok_meth hb hl hline ho I
theorem setdef_any (hm:m="setdefault") (hb:PB o) (hline:(apos.endLine==pos.line)=true) (hks:∀ e0 p,ke≠.Starred e0 p) (ho:XE κ o xo) (hk:XE κ ke xk):XE κ (.Call (.Attribute o m apos) [ke,.List [] lp] [] pos) (.setdef xo xk):=by subst hm;exact ok_setdef hb hline hks ho hk
theorem attr_any (ha:XE κ o xo) (hb:attributeBase o f κ.env (eval o κ.env)=eval o κ.env) (hf:f=fldStr j):XE κ (.Attribute o f p) (.attr xo j):=by subst hf;exact ok_attr ha hb
theorem dictEnum_any (h:glob ce f=true/\glob ce g=true/\f="dict"/\g="enumerate") (hst:∀ e0 p,o≠.Starred e0 p) (ha:XE κ o xo):XE κ (.Call (.Name f p) [.Call (.Name g p2) [o] [] pos2] [] pos) (.dictEnum xo):=by obtain ⟨h1,h2,rfl,rfl⟩:=h;exact ok_dictEnum h1 h2 hst ha
theorem sortSet_any (h:glob ce f=true/\glob ce g=true/\f="sorted"/\g="set") (hst:∀ e0 p,o≠.Starred e0 p) (ha:XE κ o xo):XE κ (.Call (.Name f p) [.Call (.Name g p2) [o] [] pos2] [] pos) (.sortSet xo):=by obtain ⟨h1,h2,rfl,rfl⟩:=h;exact ok_sortSet h1 h2 hst ha
theorem flam_any (h:glob ce f=true/\pr.arg=lamQ/\q=lamQ/\y=lamY/\sc.names=[(lamQ,.local),(lamY,.free)]/\okLam ce sc=true) (hf:fnNames[i]?=some f) (hy:slot ce lamY=some k) (hst:∀ e0 p,o≠.Starred e0 p) (ha:XE κ o xo):XE κ (.Call (.Name f p) [o,.Lambda ⟨[],[pr],none,[],[],none,[]⟩ (.Compare (.Name q p1) [.NotIn] [.Name y p2] p3) sc p4] [] pos) (.flam i [xo] k):=by
 obtain ⟨h1,h2,rfl,rfl,h3,h4⟩:=h;exact ok_flam h1 hf hy (lamS_of h2 h3 h4) hst ha
theorem src_any (h:glob ce g=true/\g="enumerate") (hst:∀ e0 p,a≠.Starred e0 p) (ha:XE κ a xo):SrcOK κ (.Call (.Name g p) [a] [] pos) true (evalX κ.Φ xo):=by obtain ⟨h1,rfl⟩:=h;exact .inr ⟨rfl,_,_,_,_,rfl,h1,hst,ha,rfl⟩
theorem cmpK {a b:Expr} {x y:X} {o:CmpOp} {q:COp} (h:o=copTo q) (A:XOK ce a x) (B:XOK ce b y):XOK ce (.Compare a [o] [b] pos) (.cmp q x y):=by
 subst h;exact .test rfl (λu1 u2 u3=>rfl) (λκ=>ok_cmp (A.ev κ) (B.ev κ) (behind B.set)) λκ=>tst_cmp (A.ev κ) (B.ev κ) (behind B.set)
theorem chainK {a b c:Expr} {x y z:X} {o o2:CmpOp} {q q2:COp} (h:o=copTo q) (h2:o2=copTo q2) (A:XOK ce a x) (B:XOK ce b y) (C:XOK ce c z):XOK ce (.Compare a [o,o2] [b,c] pos) (.chain q q2 x y z):=by
 subst h h2;exact .test rfl (λu1 u2 u3=>rfl) (λκ=>ok_chain (A.ev κ) (B.ev κ) (C.ev κ) (behind C.set)) λκ=>tst_chain (A.ev κ) (B.ev κ) (C.ev κ) (behind C.set)
theorem binK {a b:Expr} {x y:X} {o:Operator} {q:BOp} (h:o=opOf q) (A:XOK ce a x) (B:XOK ce b y) (hn:newMul q x=none):XOK ce (.BinOp a o b pos) (.bin q x y):=by
 subst h;exact .plain rfl (λu1 u2 u3=>by show (newMul _ _).bind _=_;rw [hn];rfl) λκ=>ok_bin (A.ev κ) (B.ev κ)
end
noncomputable def bopP:(o:Operator)->Option {b:BOp // o=opOf b}
 | .Add=>some ⟨.add,rfl⟩ | .Sub=>some ⟨.sub,rfl⟩ | .Mult=>some ⟨.mul,rfl⟩ | .FloorDiv=>some ⟨.fdiv,rfl⟩ | .Mod=>some ⟨.mod,rfl⟩ | .Pow=>some ⟨.pow,rfl⟩
 | _=>none
noncomputable def copP:(o:CmpOp)->{b:COp // o=copTo b}
 | .Eq=>⟨.eq,rfl⟩ | .NotEq=>⟨.ne,rfl⟩ | .Lt=>⟨.lt,rfl⟩ | .LtE=>⟨.le,rfl⟩ | .Gt=>⟨.gt,rfl⟩ | .GtE=>⟨.ge,rfl⟩ | .Is=>⟨.isn,rfl⟩ | .IsNot=>⟨.isnt,rfl⟩ | .In=>⟨.isin,rfl⟩ | .NotIn=>⟨.notin,rfl⟩
noncomputable def idxP (l:List Str) (x:Str):Option {i:Nat // l[i]?=some x}:=match h:idxOf l x with
 | some i=>some ⟨i,idxOf_some h⟩
 | none=>none
noncomputable def biP (x:Str):Option {p:Nat×BI // biNames[p.1]?=some x/\biAt[p.1]?=some p.2}:=(idxP biNames x).bind λi=>match h:biAt[i.1]? with
 | some b=>some ⟨(i.1,b),i.2,h⟩
 | none=>none
noncomputable def bmP (x:Str):Option {b:BM // x=bmStr b}:=(idxP bmNames x).bind λi=>match h:bmAt[i.1]? with
 | some b=>some ⟨b,bm_name i.2 h⟩
 | none=>none
noncomputable def slotP (ce:CE) (x:Str):Option {i:Nat // slot ce x=some i}:=match slot ce x with
 | some i=>some ⟨i,rfl⟩
 | none=>none
noncomputable def patP (n:Nat) (ce:CE) (t:Expr):Option {p:Pat // patOf n ce t=some p}:=match patOf n ce t with
 | some i=>some ⟨i,rfl⟩
 | none=>none
noncomputable def ifP {α:Sort _} (c:Prop) [Decidable c] (f:c->Option α):Option α:=if h:c then f h else none
noncomputable def pbP:(o:Expr)->Option (PLift (PB o))
 | .Name ..=>some ⟨λu1 u2=>rfl⟩
 | .Attribute ..=>some ⟨λu1 u2=>rfl⟩
 | .Subscript ..=>some ⟨λu1 u2=>rfl⟩
 | .Call (.Attribute ..) ..=>some ⟨λu1 u2=>rfl⟩
 | .Call (.Name u1 u2) (u3::_) u4 u5=>some ⟨λu1 u2=>rfl⟩
 | _=>none
noncomputable def cCall0 {ce:CE} (rec:(e:Expr)->RX ce e) (f:Str) (p pos:Pos) (args:List Expr):RX ce (.Call (.Name f p) args [] pos):=match hs:slot ce f,args with
 | some k,[a]=>(rec a).map λx=>⟨.vcall k x.1,.plain rfl (λu1 u2 u3=>rfl) λκ=>ok_vcall hs x.2.star (x.2.ev κ)⟩
 | some u1,_=>none
 | none,args=>ifP (glob ce f=true) λh=>(cXs rec args).bind λxs=>match biP f with
  | some b=>ifP (newLR b.1.2 xs.1=none) λh2=>some ⟨.bcall b.1.2 xs.1,.plain rfl (λu1 u2 u3=>by show (newLR _ _).bind _=_;rw [h2];rfl) λκ=>ok_bcall (bi_ok κ.O κ.n) h b.2.1 b.2.2 (xs.2 κ)⟩
  | none=>match idxP clsNames f with
   | some c=>some ⟨.ccall c.1 xs.1,.plain rfl (λu1 u2 u3=>rfl) λκ=>ok_ccall h c.2 (xs.2 κ)⟩
   | none=>(idxP fnNames f).map λk=>⟨.fcall k.1 xs.1,.plain rfl (λu1 u2 u3=>rfl) λκ=>ok_fcall h k.2 (xs.2 κ)⟩
noncomputable def cCall1 {ce:CE} (rec:(e:Expr)->RX ce e) (f:Str) (p pos:Pos) (a:Expr):RX ce (.Call (.Name f p) [a] [] pos):=
 if h:glob ce f=true/\f="list" then (biP f).bind λb=>(rec a).bind λx=>ifP (b.1.2=.list) λh1=>
  some ⟨.bcall .list [x.1],.nw rfl (λκ=>ok_bcall (bi_ok κ.O κ.n) h.1 b.2.1 (by rw [b.2.2,h1]) (.cons (x.2.io κ) .nil)) λκ=>new_lrange h.1 b.2.1 (by rw [b.2.2,h1]) (x.2.ev κ) x.2.star⟩
 else cCall0 rec f p pos _
noncomputable def cCall {ce:CE} (rec:(e:Expr)->RX ce e) (f:Str) (p pos:Pos):(args:List Expr)->RX ce (.Call (.Name f p) args [] pos)
 | [.Call (.Name g p2) [a] [] pos2]=>
  if h:glob ce f=true/\glob ce g=true/\f="dict"/\g="enumerate" then (rec a).map λx=>⟨.dictEnum x.1,.plain rfl (λu1 u2 u3=>rfl) λκ=>dictEnum_any h x.2.star (x.2.ev κ)⟩ else
  if h:glob ce f=true/\glob ce g=true/\f="sorted"/\g="set" then (rec a).map λx=>⟨.sortSet x.1,.plain rfl (λu1 u2 u3=>rfl) λκ=>sortSet_any h x.2.star (x.2.ev κ)⟩ else
  cCall1 rec f p pos _
 | [a]=>cCall1 rec f p pos a
 | [a,.Lambda ⟨[],[pr],Option.none,[],[],Option.none,[]⟩ (.Compare (.Name q p1) [.NotIn] [.Name y p2] p3) sc p4]=>ifP (glob ce f=true/\pr.arg=lamQ/\q=lamQ/\y=lamY/\sc.names=[(lamQ,.local),(lamY,.free)]/\okLam ce sc=true) λh=>
  (idxP fnNames f).bind λk=>(rec a).bind λx=>(slotP ce lamY).map λj=>⟨.flam k.1 [x.1] j.1,.plain rfl (λu1 u2 u3=>rfl) λκ=>flam_any h k.2 j.2 x.2.star (x.2.ev κ)⟩
 | args=>cCall0 rec f p pos args
noncomputable def cMeth0 {ce:CE} (rec:(e:Expr)->RX ce e) (a:Expr) (m:Str) (ap pos:Pos) (h:(ap.endLine==pos.line)=true) (hb:PB a) (args:List Expr):RX ce (.Call (.Attribute a m ap) args [] pos):=
 ifP (args.length<=20) λhl=>(rec a).bind λx=>(cXs rec args).bind λxs=>match bmP m with
  | some b=>some ⟨.bmeth b.1 x.1 xs.1,.plain rfl (λu1 u2 u3=>rfl) λκ=>bmeth_any b.2 hb hl h (x.2.ev κ) (xs.2 κ)⟩
  | none=>(idxP methNames m).map λj=>⟨.meth x.1 j.1 xs.1,.plain rfl (λu1 u2 u3=>rfl) λκ=>meth_any (meth_name j.2) hb hl h (x.2.ev κ) (xs.2 κ)⟩
noncomputable def cMeth {ce:CE} (rec:(e:Expr)->RX ce e) (a:Expr) (m:Str) (ap pos:Pos) (h:(ap.endLine==pos.line)=true) (hb:PB a):(args:List Expr)->RX ce (.Call (.Attribute a m ap) args [] pos)
 | [k,.List [] lp]=>if h0:m="setdefault" then (rec a).bind λx=>(rec k).map λy=>⟨.setdef x.1 y.1,.plain rfl (λu1 u2 u3=>rfl) λκ=>setdef_any h0 hb h y.2.star (x.2.ev κ) (y.2.ev κ)⟩ else cMeth0 rec a m ap pos h hb _
 | args=>cMeth0 rec a m ap pos h hb args
noncomputable def cSrc {ce:CE} (rec:(e:Expr)->RX ce e):(it:Expr)->Option {q:Bool×X // ∀ κ:Cx ce,SrcOK κ it q.1 (evalX κ.Φ q.2)}
 | .Call (.Name g p) [a] [] pos=>if h:glob ce g=true/\g="enumerate" then (rec a).map λx=>⟨(true,x.1),λκ=>src_any h x.2.star (x.2.ev κ)⟩
  else (rec (.Call (.Name g p) [a] [] pos)).map λx=>⟨(false,x.1),λκ=>.inl ⟨rfl,x.2.ev κ,x.2.set⟩⟩
 | it=>(rec it).map λx=>⟨(false,x.1),λκ=>.inl ⟨rfl,x.2.ev κ,x.2.set⟩⟩
noncomputable def cCond {ce:CE} (rec:(e:Expr)->RX ce e):(ifs:List Expr)->Option {q:Bool×X // ∀ {Φ:Fns} (κ:Cx ce),κ.Φ=Φ->CondOK κ ifs q.1 (evalX Φ q.2)}
 | []=>some ⟨(false,.none),λu1 u2=>.inl ⟨rfl,rfl⟩⟩
 | [c]=>(rec c).map λx=>⟨(true,x.1),λκ h=>.inr ⟨rfl,_,rfl,h▸x.2.tst κ⟩⟩
 | _=>none
noncomputable def cComp {ce:CE} (m:Nat) (rec:(ce:CE)->(e:Expr)->RX ce e) (elt:Expr) (sc:Scope) (pos:Pos) (hok:okScope ce sc=true):(gens:List Comprehension)->RX ce (.ListComp elt gens sc pos)
 | [⟨t,it,ifs,0⟩]=>(cSrc (rec ce) it).bind λi=>(cCond (rec (ce.inner sc)) ifs).bind λc=>(patP m (ce.inner sc) t).bind λp=>(rec (ce.inner sc) elt).bind λx=>ifP (p.1.ge ce.base=true) λhge=>
  some ⟨.comp sc.names.length x.1 p.1 i.1.1 i.1.2 false (.var 0) .none c.1.1 c.1.2,.comp λκ=>⟨sc,_,_,_,[],_,hok,rfl,(i.2 κ).noSet,rfl,λu=>rfl,λP=>ran1 hok (i.2 κ) p.2 hge (λκ' h=>c.2 κ' h) (λκ' h=>x.2.evI κ' h) P⟩⟩
 | [⟨t,it,[],0⟩,⟨t2,it2,ifs,0⟩]=>(rec ce it).bind λi=>(cCond (rec (ce.inner sc)) ifs).bind λc=>(patP m (ce.inner sc) t).bind λp=>(patP m (ce.inner sc) t2).bind λp2=>(rec (ce.inner sc) it2).bind λi2=>(rec (ce.inner sc) elt).bind λx=>
  ifP (p.1.ge ce.base=true/\p2.1.ge ce.base=true/\∀ m∈p2.1.vars,m∉p.1.vars) λhge=>
  some ⟨.comp sc.names.length x.1 p.1 false i.1 true p2.1 i2.1 c.1.1 c.1.2,.comp λκ=>⟨sc,_,_,[],_,_,hok,rfl,i.2.set,rfl,λu=>rfl,λP=>ran2 hok (.inl ⟨rfl,i.2.ev κ,i.2.set⟩) p.2 hge.1 p2.2 hge.2.1 hge.2.2 i2.2.set (λκ' h=>i2.2.evI κ' h) (λκ' h=>c.2 κ' h) (λκ' h=>x.2.evI κ' h) P⟩⟩
 | _=>none
noncomputable def cX:Nat->(ce:CE)->(e:Expr)->RX ce e
 | 0,_,_=>none
 | n+1,ce,e=>match e with
  | .Constant .none u1 u2=>some ⟨.none,.plain rfl (λu1 u2 u3=>rfl) λu1=>ok_none⟩
  | .Constant (.bool b) u1 u2=>some ⟨.bool b,.plain rfl (λu1 u2 u3=>rfl) λu1=>ok_bool⟩
  | .Constant (.int i) u1 u2=>some ⟨.int i,.plain rfl (λu1 u2 u3=>rfl) λu1=>ok_int⟩
  | .Constant (.str s) u1 u2=>some ⟨.str s,.plain rfl (λu1 u2 u3=>rfl) λu1=>ok_str⟩
  | .Name x u1=>match slotP ce x with
   | some k=>some ⟨.var k.1,.plain rfl (λu1 u2 u3=>rfl) λu1=>ok_var k.2⟩
   | none=>ifP (glob ce x=true) λh=>match hv:gConsts.lookup x with
    | some v=>some ⟨.gstr x v,.plain rfl (λu1 u2 u3=>rfl) λu1=>ok_gstr h hv⟩
    | none=>none
  | .Tuple es u1 u2=>ifP (es.length<=20) λhl=>(cXs (cX n ce) es).map λxs=>⟨.tup xs.1,.plain rfl (λu1 u2 u3=>rfl) λκ=>ok_tup (xs.2 κ) hl⟩
  | .List es u1=>ifP (es.length<=20) λhl=>(cXs (cX n ce) es).map λxs=>⟨.list xs.1,.nw rfl (λκ=>ok_list (xs.2 κ) hl) λκ=>new_list (xs.2 κ) hl⟩
  | .Dict ks vs u1=>ifP (ks.length<=15) λhl=>(cKV (cX n ce) ks vs).map λxs=>⟨.dict xs.1,.nw rfl (λκ=>ok_dict (xs.2 κ) hl) λκ=>new_dict (xs.2 κ) hl⟩
  | .BinOp (.List [a] u1) .Mult b u2=>(cX n ce a).bind λx=>(cX n ce b).map λy=>⟨.bin .mul (.list [x.1]) y.1,.nw rfl (λκ=>ok_bin (op:=.mul) (ok_list (.cons (x.2.io κ) .nil) (show 1<=20 by decide)) (y.2.ev κ)) λκ=>new_mul (x.2.ev κ) x.2.star (y.2.ev κ)⟩
  | .BinOp a op b u1=>(bopP op).bind λo=>(cX n ce a).bind λx=>(cX n ce b).bind λy=>ifP (newMul o.1 x.1=none) λh=>some ⟨.bin o.1 x.1 y.1,binK o.2 x.2 y.2 h⟩
  | .UnaryOp .Not a u1=>(cX n ce a).map λx=>⟨.not x.1,.test rfl (λu1 u2 u3=>rfl) (λκ=>ok_not (x.2.ev κ)) λκ=>tst_not (x.2.tst κ)⟩
  | .UnaryOp .USub a u1=>(cX n ce a).map λx=>⟨.neg x.1,.gen rfl (λκ=>ok_neg (x.2.ev κ)) (λκ=>tst_value (ok_neg (x.2.ev κ)) rfl) λκ=>NOK.no λu1 u2=>rfl⟩
  | .BoolOp .And [a,b] u1=>(cX n ce a).bind λx=>(cX n ce b).map λy=>⟨.and x.1 y.1,.test rfl (λu1 u2 u3=>rfl) (λκ=>ok_and (x.2.ev κ) (y.2.ev κ)) λκ=>tst_bool (all_and (x.2.tst κ) (all_and_last (y.2.tst κ)))⟩
  | .BoolOp .And [a,b,c] u1=>(cX n ce a).bind λx=>(cX n ce b).bind λy=>(cX n ce c).map λz=>⟨.and x.1 (.and y.1 z.1),.test rfl (λu1 u2 u3=>rfl) (λκ=>ok_and3 (x.2.ev κ) (ok_and (y.2.ev κ) (z.2.ev κ))) λκ=>tst_bool (all_and (x.2.tst κ) (all_and (y.2.tst κ) (all_and_last (z.2.tst κ))))⟩
  | .BoolOp .Or [a,b] u1=>(cX n ce a).bind λx=>(cX n ce b).map λy=>⟨.or x.1 y.1,.test rfl (λu1 u2 u3=>rfl) (λκ=>ok_or (x.2.ev κ) (y.2.ev κ)) λκ=>tst_bool (all_or (x.2.tst κ) (all_or_last (y.2.tst κ)))⟩
  | .BoolOp .Or [a,b,c] u1=>(cX n ce a).bind λx=>(cX n ce b).bind λy=>(cX n ce c).map λz=>⟨.or x.1 (.or y.1 z.1),.test rfl (λu1 u2 u3=>rfl) (λκ=>ok_or3 (x.2.ev κ) (ok_or (y.2.ev κ) (z.2.ev κ))) λκ=>tst_bool (all_or (x.2.tst κ) (all_or (y.2.tst κ) (all_or_last (z.2.tst κ))))⟩
  | .Compare a [op] [b] u1=>(cX n ce a).bind λx=>(cX n ce b).map λy=>⟨.cmp (copP op).1 x.1 y.1,cmpK (copP op).2 x.2 y.2⟩
  | .Compare a [o1,o2] [b,c] u1=>(cX n ce a).bind λx=>(cX n ce b).bind λy=>(cX n ce c).map λz=>⟨.chain (copP o1).1 (copP o2).1 x.1 y.1 z.1,chainK (copP o1).2 (copP o2).2 x.2 y.2 z.2⟩
  | .IfExp t b o u1=>(cX n ce t).bind λx=>(cX n ce b).bind λy=>(cX n ce o).map λz=>⟨.ite x.1 y.1 z.1,.test rfl (λu1 u2 u3=>rfl) (λκ=>ok_ite (x.2.tst κ) (y.2.ev κ) (z.2.ev κ)) λκ=>tst_ite (x.2.tst κ) (y.2.tst κ) (z.2.tst κ)⟩
  | .Subscript a (.Slice Option.none Option.none (some (.UnaryOp .USub (.Constant (.int 1) u1 u2) u3)) u4) u5=>(cX n ce a).map λx=>⟨.rev x.1,.plain rfl (λu1 u2 u3=>rfl) λκ=>ok_rev (x.2.ev κ)⟩
  | .Subscript a (.Slice Option.none (some k) Option.none u1) u2=>(cX n ce a).bind λx=>(cX n ce k).map λy=>⟨.upto x.1 y.1,.plain rfl (λu1 u2 u3=>rfl) λκ=>ok_upto (x.2.ev κ) (y.2.ev κ)⟩
  | .Subscript a i u1=>(cX n ce a).bind λx=>(cX n ce i).map λy=>⟨.item x.1 y.1,.plain rfl (λu1 u2 u3=>rfl) λκ=>ok_item (x.2.ev κ) (y.2.ev κ)⟩
  | .Attribute a f u1=>(pbP a).bind λhb=>(cX n ce a).bind λx=>(idxP fldNames f).map λj=>⟨.attr x.1 j.1,.plain rfl (λu1 u2 u3=>rfl) λκ=>attr_any (x.2.ev κ) (hb.down _ _) (fld_name j.2)⟩
  | .Call (.Name f p) args [] pos=>cCall (cX n ce) f p pos args
  | .Call (.Attribute a m ap) args [] pos=>ifP ((ap.endLine==pos.line)=true) λh=>(pbP a).bind λhb=>cMeth (cX n ce) a m ap pos h hb.down args
  | .ListComp elt gens sc pos=>ifP (okScope ce sc=true) λh=>cComp n (cX n) elt sc pos h gens
  | .DictComp k v [⟨t,it,[],0⟩] sc u1=>ifP (okScope ce sc=true) λhok=>(patP n (ce.inner sc) t).bind λp=>(cX n (ce.inner sc) k).bind λx=>(cX n (ce.inner sc) v).bind λy=>(cX n ce it).bind λi=>ifP (p.1.ge ce.base=true) λhge=>
   some ⟨.dcomp sc.names.length x.1 y.1 p.1 i.1,.plain rfl (λu1 u2 u3=>rfl) λκ=>ok_dcomp hok (i.2.ev κ) i.2.set p.2 hge (λκ' u1=>x.2.ev κ') (λκ' u1=>y.2.ev κ')⟩
  | _=>none
abbrev RC (ce:CE) (st:Stmt):=Option {c:C // ∀ κ:Cx ce,SX κ st c}
abbrev RB (ce:CE) (l:List Stmt):=Option {cs:List C // ∀ κ:Cx ce,BlkOK κ l cs}
noncomputable def cBlk {ce:CE} (f:(st:Stmt)->RC ce st):(l:List Stmt)->RB ce l
 | []=>some ⟨[],λu1=>.nil⟩
 | s::l=>(f s).bind λc=>(cBlk f l).map λcs=>⟨c.1::cs.1,λκ=>.cons (c.2 κ) (cs.2 κ)⟩
noncomputable def cPars {ce:CE} (nw:Str->X->Bool) (rec:(e:Expr)->RX ce e):(ns:List Str)->(es:List Expr)->Option {p:List Bool×List X // ∀ κ:Cx ce,ParsOK κ es p.1 p.2}
 | [],[]=>some ⟨([],[]),λu1=>.nil⟩
 | y::ns,e::es=>(rec e).bind λx=>(cPars nw rec ns es).map λp=>⟨(nw y x.1::p.1.1,x.1::p.1.2),λκ=>.cons (parOne_ok (λu1=>x.2.ev κ) λu1=>x.2.new κ) x.2.star (p.2 κ)⟩
 | _,_=>none
theorem st_asg' {ce:CE} {κ:Cx ce} {e:Expr} {ye:X} {x:Str} {p pos:Pos} {n:Nat} (he:XE κ e ye) (hc:swapsWith e (some (.Name x p)) pos.line κ.env=pure false) (hx:slot ce x=some n):SX κ (.Assign [.Name x p] e pos) (.asg n ye):=λP=>
 Ow.mono (λo h=>wpAny_Assign_Name h hc) (he.seqm P λy τ g v q=>store_ok g.hs (P.T.go P.S g) hx (Nat.zero_le _) q λs z=>SP.set P g z)
theorem LCX.at_ {ce:CE} {κ:Cx ce} {e:Expr} {x:X} {P:X->Prop} (L:LCX κ e x) (h:∀ {k xe p1 en it1 two p2 it2 hasC c},LcOK κ e (compEv k p1 en two p2 hasC (evalX κ.Φ it1) (evalX κ.Φ xe) (evalX κ.Φ it2) (evalX κ.Φ c))->P (.comp k xe p1 en it1 two p2 it2 hasC c)):P x:=by
 cases x with
 | comp=>exact h L
 | _=>exact False.elim L
theorem ble_of {n:Nat} (a:Nat.beq n 8=false) (b:(Nat.ble 9 n&&Nat.ble n 10)=false):(Nat.ble 8 n&&Nat.ble n 10)=false:=by
 by_cases h:n<=8
 ·rw [show Nat.ble 8 n=false from Bool.eq_false_iff.mpr λz=>Nat.ne_of_beq_eq_false a (Nat.le_antisymm h (Nat.le_of_ble_eq_true z))];rfl
 ·rw [Nat.ble_eq_true_of_le (Nat.lt_of_not_le h)] at b;rw [Nat.ble_eq_true_of_le (Nat.le_of_lt (Nat.lt_of_not_le h))];exact b
theorem asg_any {ce:CE} {κ:Cx ce} {e:Expr} {x:X} {y:Str} {p pos:Pos} {k:Nat} (X:XOK ce e x) (hd:isDComp e=false) (hk:slot ce y=some k):SX κ (.Assign [.Name y p] e pos) (.asg k x)/\SX κ (.Assign [.Name y p] e pos) (.asgN k x):=by
 cases hl:isLC e with
 | true=>
  refine xe (swaps_bool (e:=e) (env:=κ.env) (x:=y) (p:=p) (l:=pos.line)) λb hb=>?_
  cases b with
  | false=>exact ⟨st_asg' (X.ev κ) hb hk,st_asgN (X.new κ) hb hk⟩
  | true=>
   exact LCX.at_ (P:=λx=>SX κ (.Assign [.Name y p] e pos) (.asg k x)/\SX κ (.Assign [.Name y p] e pos) (.asgN k x)) (X.lc hl κ) λL=>⟨st_asg_lc L hb hk,st_asgN_lc L hb hk⟩
 | false=>
  have hb:∀ t l,swapsWith e t l κ.env=pure false:=λt l=>swaps_no (ble_of hl hd)
  exact ⟨st_asg' (X.ev κ) (hb _ _) hk,st_asgN (X.new κ) (hb _ _) hk⟩
noncomputable def isFresh:X->Bool
 | .list []=>true
 | .dict []=>true
 | _=>false
theorem st_bad {ce:CE} {κ:Cx ce} {st:Stmt}:SX κ st .bad:=λu1=>aO
theorem src_name {ce:CE} {κ:Cx ce} {x:Str} {p:Pos} {i:Nat} (h:slot ce x=some i):SrcOK κ (.Name x p) false (evalX κ.Φ (.var i)):=.inl ⟨rfl,ok_var h,nofun⟩
theorem noTup {e:Expr} (h:isTuple e=false):∀ es k p,e≠.Tuple es k p:=λu1 u2 u3 z=>by subst z;cases h
noncomputable def optP {α:Type}:(o:Option α)->Option {a:α // o=some a}
 | some a=>some ⟨a,rfl⟩
 | none=>none
noncomputable def cParS (se:SE) (ts es:List Expr) (h:es.length=ts.length/\(ts.length=2\/ts.length=3)/\es.all (constantsAlone 8)=false) {k k2:Nat} {tp p pos:Pos}:RC se.toCE (.Assign [.Tuple ts k tp] (.Tuple es k2 p) pos):=
 (optP (ts.mapM nameOf)).bind λxs=>(cPars (newHere se) (cX 60 se.toCE) xs.1 es).bind λp=>(optP (xs.1.mapM (slot se.toCE))).bind λks=>ifP ks.1.Nodup λnd=>some ⟨.par ks.1 p.1.1 p.1.2,λκ=>par_ok h.2.1 h.1 h.2.2 xs.2 ks.2 nd (p.2 κ)⟩
noncomputable def cS1 (se:SE) (rec:(st:Stmt)->RC se.toCE st):(st:Stmt)->RC se.toCE st
 | .Expr e u1=>ifP (isComp e=false) λhc=>(cX 60 se.toCE e).map λx=>⟨.expr x.1,λκ=>st_expr (x.2.ev κ) hc⟩
 | .Assign [.Name x u1] e u2=>ifP (isDComp e=false) λhd=>(cX 60 se.toCE e).bind λv=>(slotP se.toCE x).map λk=>if newHere se x v.1 then ⟨.asgN k.1 v.1,λκ=>(asg_any v.2 hd k.2).2⟩ else ⟨.asg k.1 v.1,λκ=>(asg_any v.2 hd k.2).1⟩
 | .Assign [.Tuple [.Subscript a1 i1 u1,.Subscript a2 i2 u2] u3 u4] (.Tuple [e1,e2] u5 u6) u7=>(cX 60 se.toCE a1).bind λa=>(cX 60 se.toCE i1).bind λi=>(cX 60 se.toCE a2).bind λb=>(cX 60 se.toCE i2).bind λj=>(cX 60 se.toCE e1).bind λx=>(cX 60 se.toCE e2).map λy=>
   ⟨.setI2 a.1 i.1 b.1 j.1 x.1 y.1,λκ=>st_setI2 x.2.star y.2.star (x.2.ev κ) (y.2.ev κ) (a.2.ev κ) (i.2.ev κ) (b.2.ev κ) (j.2.ev κ)⟩
 | .Assign [.Tuple ts u1 u2] (.Tuple es u3 u4) u5=>ifP (es.length=ts.length/\(ts.length=2\/ts.length=3)/\es.all (constantsAlone 8)=false) λh=>cParS se ts es h
 | .Assign [.Tuple ts k p] e u1=>ifP (isTuple e=false) λhn=>(patP 60 se.toCE (.Tuple ts k p)).bind λq=>(cX 60 se.toCE e).map λx=>⟨.asgP q.1 x.1,λκ=>st_asgP (x.2.ev κ) q.2 (noTup hn)⟩
 | .Assign [.Subscript a i u1] e u2=>(cX 60 se.toCE a).bind λa=>(cX 60 se.toCE i).bind λi=>(cX 60 se.toCE e).map λx=>⟨.setI a.1 i.1 x.1,λκ=>st_setI (x.2.ev κ) (a.2.ev κ) (i.2.ev κ)⟩
 | .Assign [.Attribute a f u1] e u2=>(cX 60 se.toCE e).bind λx=>(cX 60 se.toCE a).bind λa=>(idxP fldNames f).map λj=>if isFresh x.1 then ⟨.setAN a.1 j.1 x.1,λκ=>st_setAN (x.2.new κ) (a.2.ev κ) (fld_name j.2)⟩ else ⟨.setA a.1 j.1 x.1,λκ=>st_setA (x.2.ev κ) (a.2.ev κ) (fld_name j.2)⟩
 | .Return (some e) u1=>(cX 60 se.toCE e).map λx=>match se.rm with
   | .plain=>⟨.ret .plain x.1,λκ=>st_ret (x.2.ev κ)⟩
   | .thaw=>⟨.ret .thaw x.1,λκ=>st_retN (x.2.new κ)⟩
   | .freeze=>⟨.ret .freeze x.1,λκ=>st_retF (x.2.ev κ)⟩
 | .If t b o u1=>(cX 60 se.toCE t).bind λx=>(cBlk rec b).bind λb=>(cBlk rec o).map λo=>⟨.ifs x.1 b.1 o.1,λκ=>st_if (x.2.tst κ) (b.2 κ) (o.2 κ)⟩
 | .While t b [] u1=>(cX 60 se.toCE t).bind λx=>(cBlk rec b).map λb=>⟨.whiles x.1 b.1,λκ=>st_while (x.2.tst κ) (b.2 κ)⟩
 | .For t (.Name x p) b [] u1=>(slotP se.toCE x).bind λi=>(patP 60 se.toCE t).bind λq=>(cBlk rec b).map λb=>if se.fz.contains x then ⟨.fors true q.1 false (.var i.1) b.1,λκ=>st_forF (src_name i.2) i.2 q.2 (b.2 κ)⟩
   else ⟨.fors false q.1 false (.var i.1) b.1,λκ=>st_for (src_name i.2) q.2 (b.2 κ)⟩
 | .For t it b [] u1=>(cSrc (cX 60 se.toCE) it).bind λi=>(patP 60 se.toCE t).bind λq=>(cBlk rec b).map λb=>⟨.fors false q.1 i.1.1 i.1.2 b.1,λκ=>st_for (i.2 κ) q.2 (b.2 κ)⟩
 | .Break u1=>some ⟨.brk,λu1=>st_brk⟩
 | .Continue u1=>some ⟨.cont,λu1=>st_cont⟩
 | .Raise ..=>some ⟨.bad,λu1=>st_bad⟩
 | _=>none
noncomputable def cS (se:SE):Nat->(st:Stmt)->RC se.toCE st
 | 0=>λu1=>none
 | m+1=>cS1 se (cS se m)
noncomputable def cFn (f:FId):Option (Nat×Nat×List C):=(textOf f).bind λt=>(cBlk (cS { toCE:=ceOf t.2.2 (codeOf f),mu:=(cutOf f).mu,fz:=(cutOf f).fz,rm:=(cutOf f).rm } 20) t.2.1).map λcs=>(t.1.args.length,t.2.2.names.length,cs.1)
theorem cFn_some {f:FId} {na k:Nat} {cs:List C} {a:Arguments} {b:List Stmt} {sc:Scope} (h:cFn f=some (na,k,cs)) (ht:textOf f=some (a,b,sc)) :
  sc.names.length=k/\∀ κ:Cx (ceOf sc (codeOf f)),BlkOK κ b cs:=by
 unfold cFn at h
 rw [ht] at h
 refine xea (ai.mp h) λq u1 e=>?_
 cases e
 exact ⟨rfl,q.2⟩
section
variable {W:Wd} {n na ng i:Nat} {sc:Scope} {A:Around} {env:Env} {s1:Shared} {σ:Sg} {binds:List (Str×Value)} {cd:Option Addr} {x:Str} {v:Value} {kf:Str->Option NameKind} {m:Str->Option Value} {a:Addr} {vs:Vars} {kd:NameKind} {us:List Value}
theorem bindL_at (hk:kf x=some .local) (nd:(binds.map (·.1)).Nodup):(x∉binds.map (·.1)->bindL kf binds m x=m x)/\((x,v)∈binds->bindL kf binds m x=some v):=by
 induction binds generalizing m with
 | nil=>exact ⟨λu1=>rfl,nofun⟩
 | cons p l ih=>
  have nd:=List.nodup_cons.mp nd
  have ih:=@ih (if kf p.1=some .local then λy=>if y=p.1 then some p.2 else m y else m) nd.2
  refine ⟨λz=>(ih.1 λq=>z (.tail _ q)).trans ?_,λz=>(aG.mp z).elim (λe=>?_) ih.2⟩
  ·split
   ·exact aP λ(e:x=p.1)=>z (e▸.head _)
   ·rfl
  ·subst e
   exact (ih.1 nd.1).trans ((congrFun (aQ hk) x).trans (aQ rfl))
theorem bindC_at (hk:kf x≠some .local) (nd:(binds.map (·.1)).Nodup):(x∉binds.map (·.1)->bindC kf binds m x=m x)/\((x,v)∈binds->bindC kf binds m x=some v):=by
 induction binds generalizing m with
 | nil=>exact ⟨λu1=>rfl,nofun⟩
 | cons p l ih=>
  have nd:=List.nodup_cons.mp nd
  have ih:=@ih (if kf p.1=some .local then m else λy=>if y=p.1 then some p.2 else m y) nd.2
  refine ⟨λz=>(ih.1 λq=>z (.tail _ q)).trans ?_,λz=>(aG.mp z).elim (λe=>?_) ih.2⟩
  ·split
   ·rfl
   ·exact aP λ(e:x=p.1)=>z (e▸.head _)
  ·subst e
   exact (ih.1 nd.1).trans ((congrFun (aP hk) x).trans (aQ rfl))
theorem cellX {names:List (Str×NameKind)} (k:Nat) (h:(x,NameKind.cell)∈names):∃ c,(cellsFrom k names []).lookup x=some c:=xe (cells_in h k) λc e=>⟨c,e _⟩
theorem bnot_t {b:Bool} (h:(!b)=true):b=false:=by cases b with | false=>rfl | true=>cases h
noncomputable def okFnSc (na:Nat) (sc:Scope):Bool:=
 sc.kind==.function&&(decide ((sc.names.map (·.1)).Nodup)&&(!sc.isCoroutine&&(!sc.isGenerator&&(decide (na<=sc.names.length)&&(sc.names.all (λp=>p.2 != .free)&&(sc.names.take na).all λp=>varK p.2)))))
structure OkFn (na:Nat) (sc:Scope):Prop where
 kind:sc.kind=.function
 nd:(sc.names.map (·.1)).Nodup
 co:sc.isCoroutine=false
 gen:sc.isGenerator=false
 len:na<=sc.names.length
 nofree:∀ p∈sc.names,p.2≠.free
 par:∀ p∈sc.names.take na,p.2=.local\/p.2=.cell
theorem okFn_of (h:okFnSc na sc=true):OkFn na sc:=
 have h2:=b2 h;have h3:=b2 h2;have h4:=b2 h3;have h5:=b2 h4;have h6:=b2 h5
 ⟨eq_of_beq (b1 h),aw (b1 h2),bnot_t (b1 h3),bnot_t (b1 h4),aw (b1 h5),λp m=>bne_iff_ne.mp (List.all_eq_true.mp (b1 h6) p m),λp m=>varK_of (List.all_eq_true.mp (b2 h6) p m)⟩
inductive FSlot (sc:Scope) (x:Str) (i:Nat):Prop
 | mk (k:NameKind) (hi:sc.names[i]?=some (x,k)) (hk:k=.local\/k=.cell) (e:sc.names.lookup x=some k)
theorem slot_fn {m:Nat} (K:OkFn na sc) (h:slot (ceOf sc cd) x=some m):FSlot sc x m:=by
 unfold slot at h
 split at h
 ·exact noS h
 refine bC h λk hk h=>?_
 have hv:varK k=true/\(ceOf sc cd).nm.lookup x=some m:=by
  cases hv:varK k with
  | true=>rw [hv] at h;exact ⟨rfl,h⟩
  | false=>
   cases hf:k==.free with
   | true=>exact absurd (eq_of_beq hf) (K.nofree _ (mem_of_lookup hk))
   | false=>rw [hv,hf] at h;exact noS h
 refine xea (aJ.mp (mem_of_lookup hv.2)) λp hz e=>?_
 obtain ⟨⟨y,k'⟩,i⟩:=p
 cases e
 have hi:=List.mem_zipIdx_iff_getElem?.mp hz
 exact ⟨k,aE (hk.symm.trans (lookup_of_mem K.nd (List.mem_of_getElem? hi)))▸hi,varK_of hv.1,hk⟩
theorem envok_fn {fd:FuncData} {L a:Addr} (hcd:∀ c,cd=some c->fd.code=.ref c) (hg:fd.globals=mainGlobals) (hb:fd.builtins=builtinsNs) (K:OkFn na fd.scope) (hc:(cellsFrom (L+1) fd.scope.names []).Pairwise λx y=>x.2≠y.2) :
  EnvOK (callEnvC fd L a) (ceOf fd.scope cd) where
 kind:=K.kind
 glo:=hg
 bui:=hb
 var x m h:=match slot_fn K h with
  | ⟨u1,hi,.inl e,h3⟩=>.inl (e▸h3)
  | ⟨u1,hi,.inr e,h3⟩=>.inr ⟨.inl (e▸h3),cellX _ (e▸List.mem_of_getElem? hi)⟩
 glob x h:=eq_of_beq (b1 h)
 inj x y m h1 h2:=match slot_fn K h1,slot_fn K h2 with
  | ⟨u1,h1,u2,u3⟩,⟨u4,h2,u5,u6⟩=>aN (·.1) (aE (h1.symm.trans h2))
 cinj x y m m' c h1 h2 _ _ e1 e2:=name_of_addr hc (mem_of_lookup e1) (mem_of_lookup e2)
 bnd x m h:=match slot_fn K h with | ⟨_,hi,_,_⟩=>(aa.mp hi).1
 loc x m h e:=e
 code c hc:=hcd c hc
noncomputable def fFr (env:Env) (a:Addr):Prop:=a=env.locals\/∃ x,env.cells.lookup x=some a
structure FIn (σ:Sg) (sc:Scope) (env:Env) (binds:List (Str×Value)) (s1:Shared):Prop where
 x:InCallC σ.s env.locals (bindL env.kindOf binds λu1=>none) env.cells (bindC env.kindOf binds λu1=>none) s1
 cells:env.cells=cellsFrom (σ.s.heap.objs.size+1) sc.names []
 kind:∀ x,env.kindOf x=sc.names.lookup x
noncomputable abbrev fS (σ:Sg) (env:Env) (s1:Shared):Sg:=⟨λa=>σ.ban a\/fFr env a,σ.r,σ.H,s1⟩
theorem FIn.new (F:FIn σ sc env binds s1) (f:fFr env a):σ.s.heap.get? a=none/\∃ o,s1.heap.get? a=some o:=by
 rcases f with rfl | ⟨x,hx⟩
 ·exact ⟨Heap.get?_none_of_le F.x.toInCall.fresh,Ns.get F.x.toInCall.ns⟩
 ·exact ⟨Heap.get?_none_of_le (aI F.x.toInCall.fresh (Nat.le_of_lt (F.x.above _ _ (mem_of_lookup hx)))),xea (F.x.cell _ _ hx) λo e u1=>⟨o,e⟩⟩
theorem FIn.go (F:FIn σ sc env binds s1) (S:HS W σ):Gn W σ (fS σ env s1):=xee F.x.toInCall.same λh tk e=>by
 subst e;exact Go.moreP S (F.x.toInCall.keep _ _) F.new
theorem FIn.vrs {κ:Cx (ceOf sc cd)} (F:FIn σ sc κ.env binds s1) (K:OkFn na sc) (S:HS κ.W σ) (nd:(binds.map (·.1)).Nodup) (len:vs.length=sc.names.length)
  (hv:∀ {i:Nat} {x k X},sc.names[i]?=some (x,k)->vs[i]?=some (some X)->∃ v,(x,v)∈binds/\Vv κ.W (fS σ κ.env s1) v X):VS κ 0 (fFr κ.env) (fS σ κ.env s1) vs:=
 have nl:∀ {a},fFr κ.env a->¬ Live σ.r a:=λf l=>S.ab (S.liveB l) (F.new f).1
 ⟨len,λhx hX=>match slot_fn K hx with
  | ⟨u1,h1,.inl e,h3⟩=>xea (hv h1 hX) λv hm q=>have hl:=(F.kind _).trans (e▸h3);⟨v,.inl ⟨hl,_,F.x.toInCall.ns,(bindL_at hl nd).2 hm⟩,q⟩
  | ⟨u1,h1,.inr e,h3⟩=>xea (hv h1 hX) λv hm q=>have hl:=(F.kind _).trans (e▸h3);xe (cellX (σ.s.heap.objs.size+1) (e▸List.mem_of_getElem? h1)) λc hc=>
   have hc:=(aN (List.lookup _) F.cells).trans hc
   ⟨v,.inr ⟨.inl hl,c,hc,(bindC_at (m:=λu1=>none) (v:=v) (λz=>nomatch hl.symm.trans z) nd).2 hm▸F.x.cell _ _ hc⟩,q⟩,
 ⟨_,F.x.toInCall.ns⟩,
 λhx hk hc=>xea (F.x.cell _ _ hc) λo ho hd=>⟨⟨_,o,ho,hd⟩,λe=>Nat.lt_irrefl _ (e▸F.x.above _ _ (mem_of_lookup hc)),.inr (.inr ⟨_,hc⟩),nl (.inr ⟨_,hc⟩)⟩,
 ⟨.inr (.inl rfl),nl (.inl rfl)⟩,.inl rfl,λf=>⟨.inr f,nl f⟩,
 λhx u1 hk hc=>match slot_fn K hx with
  | ⟨u1,h1,.inl e,h3⟩=>absurd ((F.kind _).trans (e▸h3)) hk
  | ⟨u1,h1,.inr e,h3⟩=>⟨.inr ⟨_,hc⟩,(F.kind _).trans (e▸h3)⟩⟩
structure FnAt (W:Wd) (f:FId) (ng:Nat) (dfl:List Int) (st:List Stmt) (cd:Option Addr) (o:Obj) (fd:FuncData) (ds:List Value):Prop where
 code:∀ c,cd=some c->fd.code=.ref c
 ho:W.base.get? (W.fa f)=some o
 hd:o.data=.func fd
 hg:fd.globals=mainGlobals
 hb:fd.builtins=builtinsNs
 hc:fd.closure=[]
 body:fd.body=.stmts st
 cr:W.base.CodeRec fd.code fd.qualname
 hds:All2 (λv i=>∃ t,v=.int i t) ds dfl
 bi:∀ us:List Value,us.length=ng->∀ s:Shared,(∀ {a o},W.base.get? a=some o->s.heap.get? a=some o)->BindsTo s fd ⟨us,[]⟩ (((fd.scope.names.take (ng+dfl.length)).map (·.1)).zip (us++ds))
theorem zip_names {l:List (Str×NameKind)} (h1:l[i]?=some (x,kd)) (h2:us[i]?=some v):(x,v)∈(l.map (·.1)).zip us:=
 List.mem_of_getElem? (List.getElem?_zip_eq_some.mpr ⟨by rw [List.getElem?_map,h1];rfl,h2⟩)
theorem bind_kinds (K:OkFn na sc) (l:List Value) (k:Nat):∀ y∈((sc.names.take na).map (·.1)).zip l,sc.names.lookup y.1=some .local\/(sc.names.lookup y.1=some .cell/\((cellsFrom k sc.names []).lookup y.1).isSome=true):=λy hy=>
 xea (aJ.mp (List.of_mem_zip hy).1) λp hp e=>e▸have hm:=List.mem_of_mem_take hp;have hl:=lookup_of_mem K.nd hm
  (K.par _ hp).imp (λz=>hl.trans (aN some z)) λz=>⟨hl.trans (aN some z),xe (cellX k (by rw [← z];exact hm)) λc hc=>by rw [hc];rfl⟩
theorem FIn.args {dfl:List Int} {ds:List Value} {args:List V} (hds:All2 (λv i=>∃ t,v=.int i t) ds dfl) (q:Vs W σ us args):Vs W σ (us++ds) (args++dfl.map λi=>.d (.int i)):=
 All2.append q (All2.map_right (λi=>V.d (.int i)) (λv i h=>h) hds)
theorem bind_vals {args:List V} {j:Nat} {x:Str} {kd:NameKind} {X:V} {names:List (Str×NameKind)} (q:Vs W σ us args) (l:args.length=na) (h1:names[i]?=some (x,kd)) (h2:(args.map some++List.replicate j none)[i]?=some (some X)):∃ v,(x,v)∈((names.take na).map (·.1)).zip us/\Vv W σ v X:=by
 rcases Nat.lt_or_ge i args.length with hm | hm
 ·rw [List.getElem?_append_left (by rw [aB];exact hm),List.getElem?_map] at h2
  refine xea (ai.mp h2) λX' e z=>?_
  cases z
  exact xea (q.get e) λv hv q=>⟨v,zip_names (by rw [List.getElem?_take,aQ (l▸hm)];exact h1) hv,q⟩
 ·rw [List.getElem?_append_right (by rw [aB];exact hm),List.getElem?_replicate] at h2
  split at h2 <;> cases h2
abbrev RetR (R:Result->Shared->Prop) (f:Flow) (s:Shared):Prop:=R (.ok (.ret (match f with | .ret v=>v | _=>.none))) s
theorem ret_of {R:Result->Shared->Prop} {fr:Addr->Prop} {o:St} {v:V} {τ:Sg} {κ:Cx (ceOf sc cd)} {f:Flow} {s:Shared} (G:Gn κ.W σ τ) (hf:∀ {a},fr a->σ.s.heap.get? a=none) (e:retV o.1=some v) (k:∀ v' s,EP κ.W σ (v,o.2.2) v' s->R (.ok (.ret v')) s) (q:SP κ fr τ o f s):RetR R f s:=by
 cases q with | mk ban r g T kf=>
 have g2:=G.trans' g (λf=>.inr (hf f)) λz=>z.elim
 obtain ⟨fl',vs',H'⟩:=o
 cases kf with
 | nx=>cases e;exact k _ _ ⟨_,_,g2,rfl⟩
 | ret q=>cases e;exact k _ _ ⟨_,_,g2,q⟩
 | brk=>exact noS e
 | cont=>exact noS e
theorem call_cells {fd:FuncData} {body:List Stmt} {R:Result->Shared->Prop} {o:Obj} (hroom:A.depth < recursionLimit) (ho:σ.s.heap.get? a=some o) (hd:o.data=.func fd) (hlim:σ.s.heap.NoLimit) (hcd:σ.s.heap.CodeRec fd.code fd.qualname) (hbody:fd.body=.stmts body) (hbind:BindsTo σ.s fd ⟨us,[]⟩ binds) (hclo:fd.closure=[])
  (K:OkFn na fd.scope) (hkind:∀ x∈binds,fd.scope.names.lookup x.1=some .local\/(fd.scope.names.lookup x.1=some .cell/\((cellsFrom (σ.s.heap.objs.size+1) fd.scope.names []).lookup x.1).isSome=true))
  (h:∀ s1,FIn σ fd.scope (callEnvC fd σ.s.heap.objs.size a) binds s1->wpAny (model W.prog W.w) (A.deeper (callEnvC fd σ.s.heap.objs.size a)) (execs body (callEnvC fd σ.s.heap.objs.size a)) (RetR R) NoE s1):codeAny (model W.prog W.w) A (.call (.ref a) ⟨us,[]⟩) R σ.s:=by
 refine codeAny_call_function hroom ho hd K.co K.gen hbody hcd (hbind _ _ _ _ ?_)
 rw [hclo]
 refine wpAny_newFunctionEnv_cells K.kind hkind λenv he s1 x=>?_
 subst he
 exact ⟨hlim.keeps x.toInCall.keep,codeAny_func (wpAny_mono (h s1 ⟨x,rfl,λu1=>rfl⟩) (λu1 u2 z=>z) λu1 u2 z=>z.elim)⟩
theorem fn_body {κ:Cx (ceOf sc cd)} {args:List V} {st:List Stmt} {cs:List C} {o:St} {v:V} {Q:Result->Shared->Prop} (F:FIn σ sc κ.env (((sc.names.take na).map (·.1)).zip us) s1) (K:OkFn na sc) (S:HS κ.W σ) (R:Room κ.n A) (B:BlkOK κ st cs) (q:Vs κ.W σ us args) (l:args.length=na)
  (e:execCs κ.Φ cs (args.map some++List.replicate (sc.names.length - args.length) none) σ.H=some o) (e2:retV o.1=some v) (k:∀ v' s,EP κ.W σ (v,o.2.2) v' s->Q (.ok (.ret v')) s):wpAny κ.W.m A (execs st κ.env) (RetR Q) NoE s1:=
 have G:=F.go S
 have l2:((sc.names.take na).map (·.1)).length=us.length:=by rw [aB,List.length_take,Nat.min_eq_left K.len,q.length,l]
 have nd:((((sc.names.take na).map (·.1)).zip us).map (·.1)).Nodup:=by
  rw [List.map_fst_zip (Nat.le_of_eq l2),List.map_take]
  exact K.nd.sublist (List.take_sublist _ _)
 have lv:(args.map some++List.replicate (sc.names.length - args.length) none).length=sc.names.length:=by rw [aq,aB,List.length_replicate,l];exact Nat.add_sub_cancel' K.len
 have T:=F.vrs K S nd lv (bind_vals (G.vvs S q) l)
 post ((blk_ok B ⟨A,fFr κ.env,_,R,G.hs,T⟩).use e) λfl s2 q=>ret_of (fr:=fFr κ.env) G (λf=>(F.new f).1) e2 k q
theorem fn_ok {Φ:Fns} {f:FId} {dfl:List Int} {st:List Stmt} {cs:List C} {o:Obj} {fd:FuncData} {ds:List Value} (hn:1<=n) (O:WdOK W) (Fs:FnsOK W n Φ) (P:FnAt W f ng dfl st cd o fd ds) (K:OkFn (ng+dfl.length) fd.scope) (B:∀ κ:Cx (ceOf fd.scope cd),BlkOK κ st cs) :
  CallOK W (n+1) f (fnOf Φ ng dfl fd.scope.names.length cs):=λargs σ A us R S q=>.w λhl=>.be λo e1=>.me λv e2 Q k=>
 have la:args.length=ng:=eq_of_beq hl
 call_cells R.depth (S.keep P.ho) P.hd ((O.lim).keeps λu1 u2 e=>S.keep e) (P.cr.keeps λu1 u2 e=>S.keep e) P.body (P.bi us (q.length.trans la) σ.s S.keep) P.hc K (bind_kinds K _ _) λs1 F=>
  fn_body (κ:=⟨W,n,_,Φ,hn,O,Fs,envok_fn P.code P.hg P.hb K F.x.apart⟩) F K S (R.deeper _) (B _) (FIn.args P.hds q) (by rw [aq,aB,la]) e1 e2 k
end
section
variable {W:Wd} {n m:Nat} {f:FId} {F:Fn} {σ:Sg} {v:Value} {s:Shared} {d:D}
theorem allD_vvs {r':Rho} {h:Heap} {ban:Addr->Prop} {r:Rho} {args:List V} {us:List Value} (e:allD args=true) (q:VVs W h ban r us args):VVs W h ban r' us args:=by
 refine All2.ind (P:=λus args=>allD args=true->VVs W h ban r' us args) q (λu1=>.nil) (λu x us args h u1 ih e=>?_) e
 cases x with
 | d x=>exact .cons h (ih e)
 | _=>exact nomatch (show false=true from e)
theorem HS.empty (S:HS W σ):HS W ⟨σ.ban,[],⟨[],0⟩,σ.s⟩:=⟨rfl,nofun,nofun,nofun,nofun,S.keep,S.lo,S.hi⟩
theorem pure_go {H:Hp} (S:HS W σ) (q:EP W ⟨σ.ban,[],⟨[],0⟩,σ.s⟩ (.d d,H) v s):EP W σ (.d d,σ.H) v s:=by
 cases q with | mk ban r g q=>
 have nl:∀ {a},¬ Live ([]:Rho) a:=λ⟨j,e⟩=>nomatch e
 have k:∀ {a o},σ.s.heap.get? a=some o->s.heap.get? a=some o:=g.keep nl id
 exact ⟨ban,σ.r,⟨g.rest,λu1 u2=>k,g.bnew,λb u1=>g.bst b nl,.refl _,.inl,λe=>⟨_,k e⟩,
  ⟨S.len,S.gone,S.nodup,λe f=>(S.at_ e f).step ⟨λu1=>k,g.bnew⟩ (.refl _) k,λe=>xe (S.hi (S.bans e)) λo ho=>g.bst (S.bans e) nl ho,λe=>k (S.keep e),g.hs.lo,g.hs.hi⟩,Nat.le_refl _,λu1 u2 u3 u4=>k,λu1 u2 l=>l⟩,q⟩
theorem pure_ok (C:CallOK W n f F):CallOK W n f (pureFn F):=λargs σ A us R S q=>.w λe=>.be λo eo=>.me λd ed=>λQ k=>by
 obtain ⟨x,H⟩:=o
 cases dt_some ed
 exact (C args ⟨σ.ban,[],⟨[],0⟩,σ.s⟩ A us R S.empty (allD_vvs e q)).use eo Q λv s z=>k v s (pure_go S z)
end
end Mine.Internal
namespace Mine.Internal
open PySem
noncomputable abbrev sRoot:Str:={ cps:=#[114,111,111,116] }
noncomputable abbrev sDesig:Str:={ cps:=#[100,101,115,105,103,110,97,116,101,100] }
noncomputable abbrev sAlt:Str:={ cps:=#[97,108,116,101,114,110,97,116,101] }
noncomputable abbrev sBack:Str:={ cps:=#[98,97,99,107,117,112] }
noncomputable def c_f0:List C:=[.ret .plain (.comp 3 (.meth (.var 0) 9 [.var 4]) (.var 4) false (.bcall .range [.bcall .len [.attr (.var 0) 9]]) false (.var 0) .none true (.meth (.var 0) 10 [.var 4]))]
noncomputable def c_f1:List C:=[.ret .plain (.comp 3 (.var 3) (.var 3) false (.var 0) false (.var 0) .none true (.and (.vcall 1 (.item (.var 3) (.int 0))) (.vcall 1 (.item (.var 3) (.int 1)))))]
noncomputable def c_f2:List C:=[.asgN 1 (.dict []),.fors false (.tup [.var 2,.tup [.var 3,.var 4]]) true (.var 0) [.expr (.bmeth .append (.setdef (.var 1) (.item (.var 3) (.int 0))) [.tup [.var 2,.item (.var 4) (.int 0)]]),.expr (.bmeth .append (.setdef (.var 1) (.item (.var 4) (.int 0))) [.tup [.var 2,.item (.var 3) (.int 0)]])],.ret .freeze (.var 1)]
noncomputable def c_f3:List C:=[.par [2,3,4] [false,true,true] [.fcall 2 [.var 0],.dict [.var 1,.bool true],.list [.var 1]],.whiles (.cmp .ne (.var 4) (.list [])) [.fors false (.tup [.var 5,.var 6]) false (.bmeth .get (.var 2) [.bmeth .pop (.var 4) [],.list []]) [.ifs (.cmp .notin (.var 6) (.var 3)) [.setI (.var 3) (.var 6) (.bool true),.expr (.bmeth .append (.var 4) [.var 6])] []]],.ret .plain (.bcall .sorted [.var 3])]
noncomputable def c_f4:List C:=[.par [2,3] [true,true] [.list [],.dict []],.fors false (.var 4) false (.bcall .sorted [.var 1]) [.ifs (.cmp .notin (.var 4) (.var 3)) [.asg 5 (.fcall 3 [.var 0,.var 4]),.expr (.bmeth .append (.var 2) [.var 5]),.fors false (.var 6) false (.var 5) [.setI (.var 3) (.var 6) (.bool true)]] []],.ret .freeze (.var 2)]
noncomputable def c_f5:List C:=[.par [1,2] [false,true] [.fcall 2 [.var 0],.dict []],.fors false (.var 3) false (.bcall .sorted [.var 1]) [.ifs (.cmp .notin (.var 3) (.var 2)) [.asg 4 (.fcall 6 [.var 1,.var 3,.var 2]),.ifs (.cmp .ne (.var 4) (.list [])) [.ret .plain (.var 4)] []] []],.ret .plain (.list [])]
noncomputable def c_f6:List C:=[.par [3,4] [true,true] [.dict [.var 1,.tup [.none,.none]],.list [.var 1]],.setI (.var 2) (.var 1) (.bool true),.whiles (.cmp .ne (.var 4) (.list [])) [.asg 5 (.bmeth .pop (.var 4) []),.fors false (.tup [.var 6,.var 7]) false (.item (.var 0) (.var 5)) [.ifs (.cmp .eq (.var 6) (.item (.item (.var 3) (.var 5)) (.int 0))) [.cont] [],.ifs (.cmp .isin (.var 7) (.var 3)) [.ret .plain (.fcall 8 [.var 3,.var 5,.var 7,.var 6])] [],.setI (.var 3) (.var 7) (.tup [.var 6,.var 5]),.setI (.var 2) (.var 7) (.bool true),.expr (.bmeth .append (.var 4) [.var 7])]],.ret .plain (.list [])]
noncomputable def c_f7:List C:=[.asgN 2 (.list []),.whiles (.cmp .isnt (.var 1) .none) [.asgP (.tup [.var 3,.var 4]) (.item (.var 0) (.var 1)),.expr (.bmeth .append (.var 2) [.tup [.var 1,.var 3]]),.asg 1 (.var 4)],.ret .freeze (.var 2)]
noncomputable def c_f8:List C:=[.par [4,5] [false,false] [.fcall 7 [.var 0,.var 1],.fcall 7 [.var 0,.var 2]],.asg 8 (.comp 3 (.var 12) (.tup [.var 12,.var 13]) false (.var 5) false (.var 0) .none false .none),.asgN 9 (.list []),.fors false (.tup [.var 6,.var 7]) false (.var 4) [.ifs (.cmp .isin (.var 6) (.var 8)) [.ret .plain (.bin .add (.bin .add (.rev (.var 9)) (.list [.var 3])) (.comp 3 (.var 13) (.tup [.var 12,.var 13]) false (.upto (.var 5) (.bmeth .index (.var 8) [.var 6])) false (.var 0) .none false .none))] [],.expr (.bmeth .append (.var 9) [.var 7])],.ret .plain (.list [.var 3])]
noncomputable def c_f9:List C:=[.ret .plain (.cmp .eq (.fcall 5 [.var 0]) (.list []))]
noncomputable def c_f10:List C:=[.ret .plain (.and (.fcall 9 [.var 0]) (.cmp .le (.bcall .len [.fcall 4 [.var 0,.var 1]]) (.int 1)))]
noncomputable def c_f11:List C:=[.ret .plain (.and (.fcall 9 [.var 0]) (.cmp .eq (.fcall 4 [.var 0,.var 2]) (.fcall 4 [.var 1,.var 2])))]
noncomputable def c_f12:List C:=[.asg 2 (.int 0),.ifs (.cmp .lt (.var 1) (.bcall .len [.var 0])) [.asg 2 (.item (.var 0) (.var 1))] [],.asg 3 (.bcall .max [.bcall .int [.var 2],.bcall .int [.bin .sub (.neg (.int 1)) (.var 2)]]),.asg 4 (.bin .mod (.bcall .int [.bin .mul (.bin .add (.bin .add (.bin .add (.bin .mod (.bcall .int [.var 3]) (.int 2147483629)) (.bin .mul (.bin .mul (.int 7919) (.var 1)) (.var 1))) (.bin .mul (.int 31) (.var 1))) (.int 17)) (.int 48271)]) (.int 2147483647)),.ret .thaw (.list [.bin .mul (.var 3) (.bcall .int [.cmp .ge (.var 3) (.bin .pow (.int 10) (.int 18))]),.var 4])]
noncomputable def c_f13:List C:=[.ifs (.cmp .gt (.item (.var 0) (.int 0)) (.int 0)) [.asg 2 (.bin .mod (.bcall .int [.item (.var 0) (.int 0)]) (.var 1)),.setI (.var 0) (.int 0) (.bin .fdiv (.item (.var 0) (.int 0)) (.var 1)),.ret .plain (.var 2)] [],.setI (.var 0) (.int 1) (.bin .mod (.bcall .int [.bin .add (.bin .mul (.item (.var 0) (.int 1)) (.int 39373)) (.int 7)]) (.int 2147483647)),.ret .plain (.bin .mod (.bcall .int [.bin .fdiv (.bin .mod (.bcall .int [.bin .mul (.item (.var 0) (.int 1)) (.item (.var 0) (.int 1))]) (.int 2147483629)) (.int 32)]) (.var 1))]
noncomputable def c_f14:List C:=[.par [2,3] [true,true] [.list [],.bin .mul (.list [.int 0]) (.var 1)],.fors false (.var 4) false (.bcall .range [.fcall 13 [.var 0,.int 10]]) [.asgN 5 (.list []),.fors false (.var 6) false (.bcall .range [.int 2]) [.asg 7 (.fcall 13 [.var 0,.var 1]),.setI (.var 3) (.var 7) (.bin .add (.item (.var 3) (.var 7)) (.int 1)),.expr (.bmeth .append (.var 5) [.tup [.var 7,.item (.var 3) (.var 7)]])],.expr (.bmeth .append (.var 2) [.tup [.item (.var 5) (.int 0),.item (.var 5) (.int 1)]])],.ret .freeze (.var 2)]
noncomputable def c_f15:List C:=[.asgN 2 (.bcall .list [.bcall .range [.var 1]]),.fors false (.var 3) false (.bcall .range [.var 1]) [.fors false (.tup [.var 4,.var 5]) false (.var 0) [.asg 6 (.bcall .min [.item (.var 2) (.item (.var 4) (.int 0)),.item (.var 2) (.item (.var 5) (.int 0))]),.setI2 (.var 2) (.item (.var 4) (.int 0)) (.var 2) (.item (.var 5) (.int 0)) (.var 6) (.var 6)]],.ret .freeze (.var 2)]
noncomputable def c_f16:List C:=[.ifs (.or (.cmp .eq (.var 1) (.list [])) (.cmp .ne (.bcall .len [.bcall .set [.var 1]]) (.bcall .len [.var 1]))) [.ret .plain (.bool false)] [],.fors false (.var 2) false (.list [.item (.item (.item (.var 0) (.item (.var 1) (.int 0))) (.int 0)) (.int 0),.item (.item (.item (.var 0) (.item (.var 1) (.int 0))) (.int 1)) (.int 0)]) [.asg 3 (.var 2),.fors false (.var 4) false (.var 1) [.asg 5 (.list [.item (.item (.item (.var 0) (.var 4)) (.int 0)) (.int 0),.item (.item (.item (.var 0) (.var 4)) (.int 1)) (.int 0)]),.ifs (.cmp .notin (.var 3) (.var 5)) [.asg 3 .none,.brk] [],.asg 3 (.ite (.cmp .eq (.var 3) (.item (.var 5) (.int 0))) (.item (.var 5) (.int 1)) (.item (.var 5) (.int 0)))],.ifs (.cmp .eq (.var 3) (.var 2)) [.ret .plain (.bool true)] []],.ret .plain (.bool false)]
noncomputable def c_f17:List C:=[.par [3,4] [false,false] [.fcall 15 [.var 0,.var 2],.fcall 15 [.var 1,.var 2]],.asg 5 (.comp 5 (.comp 4 (.var 29) (.var 29) false (.bcall .range [.var 2]) false (.var 0) .none true (.cmp .eq (.item (.var 3) (.var 29)) (.var 24))) (.var 24) false (.sortSet (.var 3)) false (.var 0) .none false .none),.ifs (.cmp .ne (.fcall 4 [.var 0,.rev (.bcall .list [.bcall .range [.var 2]])]) (.var 5)) [.ret .plain (.bool false)] [],.fors false (.var 6) false (.bcall .range [.var 2]) [.ifs (.cmp .ne (.fcall 3 [.var 0,.var 6]) (.comp 4 (.var 24) (.var 24) false (.bcall .range [.var 2]) false (.var 0) .none true (.cmp .eq (.item (.var 3) (.var 24)) (.item (.var 3) (.var 6))))) [.ret .plain (.bool false)] []],.fors false (.tup [.var 7,.var 8]) false (.list [.tup [.var 0,.var 3],.tup [.var 1,.var 4]]) [.asg 9 (.cmp .eq (.bcall .len [.var 7]) (.bin .sub (.var 2) (.bcall .len [.bcall .set [.var 8]]))),.ifs (.or (.cmp .ne (.fcall 9 [.var 7]) (.var 9)) (.cmp .ne (.cmp .eq (.fcall 5 [.var 7]) (.list [])) (.var 9))) [.ret .plain (.bool false)] [],.ifs (.and (.not (.var 9)) (.not (.fcall 16 [.var 7,.fcall 5 [.var 7]]))) [.ret .plain (.bool false)] [],.ifs (.cmp .ne (.fcall 10 [.var 7,.bcall .range [.var 2]]) (.and (.var 9) (.cmp .eq (.bcall .len [.bcall .set [.var 8]]) (.int 1)))) [.ret .plain (.bool false)] []],.ret .plain (.cmp .eq (.fcall 11 [.var 1,.var 0,.bcall .range [.var 2]]) (.and (.cmp .eq (.bcall .len [.var 1]) (.bin .sub (.var 2) (.bcall .len [.bcall .set [.var 4]]))) (.cmp .eq (.var 3) (.var 4))))]
noncomputable def c_f18:List C:=[.asgN 4 (.comp 4 (.ite (.cmp .eq (.item (.var 2) (.var 14)) (.item (.var 1) (.var 14))) (.int 0) (.int 99)) (.var 14) false (.bcall .range [.bcall .len [.var 2]]) false (.var 0) .none false .none),.fors false (.var 5) false (.bcall .range [.bcall .len [.var 2]]) [.fors false (.tup [.var 6,.var 7]) false (.var 0) [.fors false (.tup [.var 8,.var 9]) false (.list [.tup [.var 6,.var 7],.tup [.var 7,.var 6]]) [.setI (.var 4) (.item (.var 8) (.int 0)) (.bcall .min [.item (.var 4) (.item (.var 8) (.int 0)),.bin .add (.item (.var 4) (.item (.var 9) (.int 0))) (.item (.item (.var 3) (.var 8)) (.int 1))])]]],.ret .freeze (.var 4)]
noncomputable def c_f19:List C:=[.asg 3 (.fcall 15 [.var 0,.bcall .len [.var 1]]),.asg 4 (.comp 7 (.bcall .min [.comp 5 (.item (.var 1) (.var 29)) (.var 29) false (.bcall .range [.bcall .len [.var 1]]) false (.var 0) .none true (.cmp .eq (.item (.var 3) (.var 29)) (.var 22))]) (.var 22) false (.var 3) false (.var 0) .none false .none),.par [5,6,7] [false,true,true] [.fcall 18 [.var 0,.var 4,.var 1,.var 2],.dict [],.dict []],.fors false (.tup [.var 8,.var 9]) false (.var 0) [.asg 11 (.comp 5 (.tup [.item (.var 5) (.item (.var 22) (.int 0)),.item (.var 1) (.item (.var 22) (.int 0)),.item (.item (.var 2) (.var 22)) (.int 0)]) (.var 22) false (.tup [.var 8,.var 9]) false (.var 0) .none false .none),.fors false (.tup [.var 10,.var 12,.var 13,.var 14]) false (.list [.tup [.var 8,.item (.var 11) (.int 0),.var 9,.item (.var 11) (.int 1)],.tup [.var 9,.item (.var 11) (.int 1),.var 8,.item (.var 11) (.int 0)]]) [.ifs (.cmp .lt (.var 12) (.var 14)) [.setI (.var 6) (.var 10) (.str sDesig)] [.setI (.var 6) (.var 10) (.ite (.cmp .eq (.item (.var 13) (.int 0)) (.item (.var 10) (.int 0))) (.str sBack) (.str sAlt))],.ifs (.and (.cmp .ne (.item (.var 13) (.int 0)) (.item (.var 10) (.int 0))) (.cmp .ne (.item (.var 1) (.item (.var 10) (.int 0))) (.item (.var 4) (.item (.var 10) (.int 0))))) [.asg 15 (.tup [.bin .add (.item (.var 14) (.int 0)) (.item (.item (.var 2) (.var 10)) (.int 1)),.item (.var 14) (.int 1),.item (.var 14) (.int 2),.item (.item (.var 2) (.var 10)) (.int 0),.var 10]),.expr (.bmeth .append (.setdef (.var 7) (.item (.var 10) (.int 0))) [.var 15])] []]],.fors true (.var 16) false (.var 7) [.setI (.var 6) (.item (.bcall .min [.item (.var 7) (.var 16)]) (.int 4)) (.str sRoot)],.ret .freeze (.var 6)]
noncomputable def c_f20:List C:=[.asg 3 (.comp 4 (.tup [.fcall 13 [.var 0,.int 3],.bin .add (.int 100) (.var 15)]) (.var 15) false (.bcall .range [.var 2]) false (.var 0) .none false .none),.asgN 4 (.dict []),.fors false (.var 5) false (.var 1) [.fors false (.var 6) false (.var 5) [.setI (.var 4) (.var 6) (.tup [.tup [.fcall 13 [.var 0,.int 2],.item (.var 6) (.int 1)],.bin .add (.int 1) (.fcall 13 [.var 0,.int 4])])]],.asg 7 (.ccall 0 [.dictEnum (.var 3),.var 4,.var 1]),.ret .plain (.cmp .eq (.meth (.var 7) 6 []) (.fcall 19 [.var 1,.var 3,.var 4]))]
noncomputable def c_f21:List C:=[.asg 0 (.dict [.int 1,.tup [.int 0,.int 1],.int 2,.tup [.int 0,.int 2],.int 3,.tup [.int 0,.int 3]]),.asg 1 (.list [.tup [.tup [.int 1,.int 1],.tup [.int 3,.int 1]],.tup [.tup [.int 1,.int 2],.tup [.int 2,.int 1]],.tup [.tup [.int 2,.int 2],.tup [.int 3,.int 2]]]),.asg 2 (.bcall .dict [.comp 3 (.tup [.var 8,.tup [.tup [.int 0,.item (.var 8) (.int 1)],.ite (.cmp .eq (.var 8) (.tup [.int 3,.int 1])) (.int 9) (.int 2)]]) (.var 7) false (.var 1) true (.var 8) (.var 7) false .none]),.asg 3 (.ccall 0 [.var 0,.var 2,.var 1]),.ret .plain (.and (.cmp .eq (.meth (.var 3) 5 [.tup [.int 3,.int 2]]) (.str sRoot)) (.and (.cmp .eq (.meth (.var 3) 5 [.tup [.int 3,.int 1]]) (.str sAlt)) (.cmp .eq (.meth (.var 3) 5 [.tup [.int 1,.int 1]]) (.str sDesig))))]
noncomputable def c_f22:List C:=[.ifs (.not (.fcall 21 [])) [.ret .plain (.bool false)] [],.asg 1 (.fcall 12 [.var 0,.int 0]),.par [2,3] [false,false] [.bin .add (.int 1) (.fcall 13 [.var 1,.int 6]),.ccall 2 []],.asg 4 (.fcall 14 [.var 1,.var 2]),.fors false (.tup [.var 5,.var 6]) false (.var 4) [.expr (.meth (.var 3) 7 [.var 5,.var 6])],.asg 8 (.comp 4 (.var 24) (.var 24) false (.bcall .range [.bcall .len [.var 4]]) false (.var 0) .none true (.cmp .eq (.fcall 13 [.var 1,.int 4]) (.int 0))),.fors false (.var 7) false (.var 8) [.expr (.meth (.var 3) 11 [.var 7])],.asg 4 (.comp 4 (.var 25) (.tup [.var 24,.var 25]) true (.var 4) false (.var 0) .none true (.cmp .notin (.var 24) (.var 8))),.asg 10 (.comp 5 (.var 25) (.var 24) false (.var 4) true (.var 25) (.var 24) true (.cmp .eq (.fcall 13 [.var 1,.int 4]) (.int 0))),.asg 9 (.comp 3 (.var 24) (.var 24) false (.var 4) false (.var 0) .none true (.and (.cmp .notin (.item (.var 24) (.int 0)) (.var 10)) (.cmp .notin (.item (.var 24) (.int 1)) (.var 10)))),.ifs (.or (.cmp .ne (.fcall 0 [.var 3]) (.var 4)) (.cmp .ne (.flam 1 [.var 4] 10) (.var 9))) [.ret .plain (.bool false)] [],.ret .plain (.and (.fcall 17 [.var 4,.var 9,.var 2]) (.fcall 20 [.var 1,.var 4,.var 2]))]
noncomputable def c_m00:List C:=[.setA (.var 0) 0 (.var 1),.setA (.var 0) 1 (.var 2),.setAN (.var 0) 2 (.dict []),.fors false (.tup [.var 4,.var 5]) false (.var 3) [.setI (.attr (.var 0) 2) (.var 4) (.var 5),.setI (.attr (.var 0) 2) (.var 5) (.var 4)],.setAN (.var 0) 3 (.dict []),.setAN (.var 0) 4 (.dict []),.fors false (.var 6) false (.fcall 4 [.var 3,.bcall .list [.var 1]]) [.expr (.meth (.var 0) 1 [.var 6])]]
noncomputable def c_m01:List C:=[.asg 3 (.bcall .min [.comp 3 (.item (.attr (.var 0) 0) (.var 12)) (.var 12) false (.var 1) false (.var 0) .none false .none]),.asgN 4 (.dict []),.fors false (.var 2) false (.var 1) [.setI (.attr (.var 0) 3) (.var 2) (.var 3),.ifs (.cmp .eq (.item (.attr (.var 0) 0) (.var 2)) (.var 3)) [.setI (.var 4) (.var 2) (.int 0)] []],.whiles (.cmp .ne (.var 4) (.dict [])) [.asg 5 (.item (.bcall .min [.comp 3 (.tup [.item (.var 4) (.var 12),.var 12]) (.var 12) false (.var 4) false (.var 0) .none false .none]) (.int 1)),.setI (.attr (.var 0) 4) (.var 5) (.bmeth .pop (.var 4) [.var 5]),.fors false (.var 6) false (.bcall .sorted [.attr (.var 0) 2]) [.asg 7 (.item (.item (.attr (.var 0) 2) (.var 6)) (.int 0)),.ifs (.and (.cmp .eq (.item (.item (.attr (.var 0) 2) (.var 6)) (.int 0)) (.var 5)) (.cmp .notin (.item (.var 6) (.int 0)) (.attr (.var 0) 4))) [.asg 8 (.bin .add (.item (.attr (.var 0) 4) (.var 7)) (.item (.item (.attr (.var 0) 1) (.var 6)) (.int 1))),.setI (.var 4) (.item (.var 6) (.int 0)) (.bcall .min [.var 8,.bmeth .get (.var 4) [.item (.var 6) (.int 0),.var 8]])] []]]]
noncomputable def c_m02:List C:=[.asg 2 (.item (.var 1) (.int 0)),.ret .plain (.tup [.item (.attr (.var 0) 3) (.var 2),.item (.attr (.var 0) 4) (.var 2),.item (.attr (.var 0) 0) (.var 2),.item (.item (.attr (.var 0) 1) (.var 1)) (.int 0)])]
noncomputable def c_m03:List C:=[.asgP (.tup [.var 2,.var 3,.var 4,.var 5]) (.meth (.var 0) 2 [.item (.attr (.var 0) 2) (.var 1)]),.ret .plain (.tup [.var 2,.bin .add (.var 3) (.item (.item (.attr (.var 0) 1) (.var 1)) (.int 1)),.var 4,.var 5,.item (.item (.attr (.var 0) 1) (.var 1)) (.int 0)])]
noncomputable def c_m04:List C:=[.asg 2 (.comp 4 (.var 5) (.var 5) false (.attr (.var 0) 2) false (.var 0) .none true (.and (.cmp .eq (.item (.var 5) (.int 0)) (.var 1)) (.cmp .ne (.item (.item (.attr (.var 0) 2) (.var 5)) (.int 0)) (.var 1)))),.ifs (.or (.cmp .eq (.item (.attr (.var 0) 0) (.var 1)) (.item (.attr (.var 0) 3) (.var 1))) (.cmp .eq (.var 2) (.list []))) [.ret .plain .none] [],.ret .plain (.item (.bcall .min [.comp 3 (.tup [.meth (.var 0) 3 [.var 5],.var 5]) (.var 5) false (.var 2) false (.var 0) .none false .none]) (.int 1))]
noncomputable def c_m05:List C:=[.asg 2 (.item (.attr (.var 0) 2) (.var 1)),.ifs (.cmp .lt (.meth (.var 0) 2 [.var 1]) (.meth (.var 0) 2 [.var 2])) [.ret .plain (.gstr { cps:=#[68,69,83,73,71,78,65,84,69,68] } sDesig)] [],.ifs (.cmp .eq (.meth (.var 0) 4 [.item (.var 1) (.int 0)]) (.var 1)) [.ret .plain (.gstr { cps:=#[82,79,79,84] } sRoot)] [],.ret .plain (.ite (.cmp .eq (.item (.var 2) (.int 0)) (.item (.var 1) (.int 0))) (.gstr { cps:=#[66,65,67,75,85,80] } sBack) (.gstr { cps:=#[65,76,84,69,82,78,65,84,69] } sAlt))]
noncomputable def c_m06:List C:=[.ret .plain (.dcomp 3 (.var 2) (.meth (.var 0) 5 [.var 2]) (.var 2) (.attr (.var 0) 2))]
noncomputable def c_m10:List C:=[.setA (.var 0) 5 (.var 1),.setA (.var 0) 6 (.var 2),.setA (.var 0) 7 (.var 3),.setA (.var 0) 8 (.bool true)]
noncomputable def c_m20:List C:=[.setAN (.var 0) 9 (.list []),.setAN (.var 0) 10 (.dict []),.setAN (.var 0) 11 (.list []),.setA (.var 0) 12 (.int 0)]
noncomputable def c_m27:List C:=[.ifs (.or (.cmp .eq (.var 1) (.var 2)) (.or (.cmp .isin (.var 1) (.attr (.var 0) 10)) (.cmp .isin (.var 2) (.attr (.var 0) 10)))) [.bad] [],.ifs (.cmp .lt (.var 3) (.int 0)) [.bad] [],.asg 4 (.bcall .len [.attr (.var 0) 9]),.expr (.bmeth .append (.attr (.var 0) 9) [.ccall 1 [.var 1,.var 2,.var 3]]),.setI (.attr (.var 0) 10) (.var 1) (.var 4),.setI (.attr (.var 0) 10) (.var 2) (.var 4),.ret .plain (.var 4)]
noncomputable def c_m28:List C:=[.ifs (.not (.chain .le .lt (.int 0) (.var 1) (.bcall .len [.attr (.var 0) 9]))) [.bad] [],.ret .plain (.item (.attr (.var 0) 9) (.var 1))]
noncomputable def c_m29:List C:=[.asg 2 (.meth (.var 0) 8 [.var 1]),.ret .plain (.tup [.attr (.var 2) 5,.attr (.var 2) 6])]
noncomputable def c_m210:List C:=[.ret .plain (.attr (.meth (.var 0) 8 [.var 1]) 8)]
noncomputable def c_m211:List C:=[.asg 2 (.meth (.var 0) 8 [.var 1]),.ifs (.not (.attr (.var 2) 8)) [.bad] [],.setA (.var 2) 8 (.bool false),.setA (.var 0) 11 (.comp 3 (.var 5) (.var 5) false (.attr (.var 0) 11) false (.var 0) .none true (.cmp .ne (.item (.var 5) (.int 3)) (.var 1)))]
structure Cd where
 ng:Nat
 dfl:List Int
 k:Nat
 cs:List C
noncomputable def codeL:List (FId×Cd):=[(.f 0,⟨1,[],3,c_f0⟩),
 (.f 1,⟨2,[],2,c_f1⟩),
 (.f 2,⟨1,[],6,c_f2⟩),
 (.f 3,⟨2,[],9,c_f3⟩),
 (.f 4,⟨2,[],9,c_f4⟩),
 (.f 5,⟨1,[],8,c_f5⟩),
 (.f 6,⟨3,[],9,c_f6⟩),
 (.f 7,⟨2,[],5,c_f7⟩),
 (.f 8,⟨4,[],11,c_f8⟩),
 (.f 9,⟨1,[],2,c_f9⟩),
 (.f 10,⟨2,[],5,c_f10⟩),
 (.f 11,⟨3,[],5,c_f11⟩),
 (.f 12,⟨2,[],8,c_f12⟩),
 (.f 13,⟨2,[],4,c_f13⟩),
 (.f 14,⟨2,[],10,c_f14⟩),
 (.f 15,⟨2,[],10,c_f15⟩),
 (.f 16,⟨2,[],8,c_f16⟩),
 (.f 17,⟨3,[],23,c_f17⟩),
 (.f 18,⟨4,[],13,c_f18⟩),
 (.f 19,⟨3,[],21,c_f19⟩),
 (.f 20,⟨3,[],14,c_f20⟩),
 (.f 21,⟨0,[],6,c_f21⟩),
 (.f 22,⟨1,[],23,c_f22⟩),
 (.m 0 0,⟨4,[],9,c_m00⟩),
 (.m 0 1,⟨2,[],11,c_m01⟩),
 (.m 0 2,⟨2,[],3,c_m02⟩),
 (.m 0 3,⟨2,[],6,c_m03⟩),
 (.m 0 4,⟨2,[],4,c_m04⟩),
 (.m 0 5,⟨2,[],7,c_m05⟩),
 (.m 0 6,⟨1,[],1,c_m06⟩),
 (.m 1 0,⟨4,[],4,c_m10⟩),
 (.m 2 0,⟨1,[],1,c_m20⟩),
 (.m 2 7,⟨3,[0],8,c_m27⟩),
 (.m 2 8,⟨2,[],5,c_m28⟩),
 (.m 2 9,⟨2,[],3,c_m29⟩),
 (.m 2 10,⟨2,[],2,c_m210⟩),
 (.m 2 11,⟨2,[],4,c_m211⟩)]
noncomputable def codeT (f:FId):Option Cd:=codeL.lookup f
inductive AllC (P:FId->Cd->Prop):List (FId×Cd)->Prop
 | nil:AllC P []
 | cons {f c l}:P f c->AllC P l->AllC P ((f,c)::l)
theorem AllC.get {P:FId->Cd->Prop} {l:List (FId×Cd)} (A:AllC P l) {f:FId} {c:Cd} (h:l.lookup f=some c):P f c:=by
 induction A with
 | nil=>exact noS h
 | @cons g d l p a ih=>
  rw [List.lookup_cons] at h
  split at h
  ·rename_i q;refine r1 h ?_;cases beq_iff_eq.mp q;exact p
  ·exact ih h
noncomputable def isPure:FId->Bool
 | .f 2 | .f 3 | .f 4 | .f 5 | .f 9 | .f 10 | .f 11 | .f 15 | .f 16 | .f 17 | .f 21=>true
 | _=>false
noncomputable def wrapF (f:FId) (F:Fn):Fn:=bif isPure f then pureFn F else F
noncomputable def fns:Nat->Fns
 | 0=>λu1=>none
 | m+1=>λf=>(codeT f).map λc=>wrapF f (fnOf (fns m) c.ng c.dfl c.k c.cs)
section
variable {m ng k:Nat} {f:FId} {c:Cd} {args:List V} {h h' H H':Hp} {body:List C} {vs':Vars} {v:V} {x:D} {dfl:List Int} {r:V×Hp} {Φ:Fns}
theorem callF_eq (h:codeT f=some c):callF (fns (m+1)) f args H=wrapF f (fnOf (fns m) c.ng c.dfl c.k c.cs) args H:=by
 show ((codeT f).map _).bind _=_
 rw [h];rfl
theorem run_ret (e:execCs Φ body (args.map some++List.replicate (k - args.length) none) h=some (.ret v,vs',h')):runFn Φ k body args h=some (v,h'):=by
 unfold runFn;rw [e];rfl
theorem run_nx (e:execCs Φ body (args.map some++List.replicate (k - args.length) none) h=some (.nx,vs',h')):runFn Φ k body args h=some (.d .none,h'):=by
 unfold runFn;rw [e];rfl
theorem wh_t {α:Type} {c:Bool} {o:Option α} (h:c=true):wh c o=o:=by rw [h];rfl
theorem call_pure (hc:codeT f=some ⟨ng,[],k,body⟩) (hp:isPure f=true) (ha:allD args=true) (hl:args.length=ng) (e:runFn (fns m) k body args ⟨[],0⟩=some (.d x,H')):callF (fns (m+1)) f args h=some (.d x,h):=by
 rw [callF_eq hc]
 unfold wrapF
 rw [hp]
 show wh _ _=_
 rw [wh_t ha]
 show (wh _ (runFn _ _ _ (args++[]) _)).bind _=_
 rw [wh_t (beq_iff_eq.mpr hl),List.append_nil,e];rfl
theorem call_imp (hc:codeT f=some ⟨ng,dfl,k,body⟩) (hp:isPure f=false) (hl:args.length=ng) (e:runFn (fns m) k body (args++dfl.map λi=>.d (.int i)) h=some r):callF (fns (m+1)) f args h=some r:=by
 rw [callF_eq hc]
 unfold wrapF
 rw [hp]
 exact (wh_t (beq_iff_eq.mpr hl)).trans e
end
end Mine.Internal
namespace Mine.Internal
open PySem PySem.W PySem.Calls PyProof.Rows
noncomputable def okCode (f:FId) (c:Cd):Bool:=match textOf f with
 | some (u1,u2,sc)=>okFnSc (c.ng+c.dfl.length) sc
 | none=>false
theorem code_all:AllC (λf c=>cFn f=some (c.ng+c.dfl.length,c.k,c.cs)/\okCode f c=true) codeL:=by
 unfold codeL
 repeat (first | exact .nil | refine .cons ⟨by kernel_rfl,by kernel_rfl⟩ ?_)
inductive DefAt (W:Wd) (f:FId) (c:Cd):Prop
 | mk (a:Arguments) (st:List Stmt) (o:Obj) (fd:FuncData) (ds:List Value) (ht:textOf f=some (a,st,fd.scope)) (F:FnAt W f c.ng c.dfl st (codeOf f) o fd ds)
theorem def_ok {W:Wd} {m:Nat} {f:FId} {c:Cd} (O:WdOK W) (ih:FnsOK W (2 * m+1) (fns m)) (hc:codeT f=some c) (D:DefAt W f c):CallOK W (2 * m+1+1) f (fnOf (fns m) c.ng c.dfl c.k c.cs):=by
 cases D with | mk a st o fd ds ht F=>
 refine xa (code_all.get hc) λh1 h2=>xa (cFn_some h1 ht) λhk hb=>?_
 unfold okCode at h2
 rw [ht] at h2
 rw [← hk]
 exact fn_ok (Nat.le_add_left 1 _) O ih F (okFn_of h2) hb
theorem fns_ok {W:Wd} (O:WdOK W) (P:∀ f c,codeT f=some c->DefAt W f c) (m:Nat):FnsOK W (2 * m+1) (fns m):=by
 induction m with
 | zero=>exact λf F h=>noS h
 | succ m ih=>
  refine λf F h=>xea (ai.mp h) λc hc e=>?_
  subst e
  have C:=def_ok O ih hc (P f c hc)
  show CallOK W (2 * m+1+1) f (bif isPure f then _ else _)
  cases isPure f with
  | true=>exact pure_ok C
  | false=>exact C
noncomputable def faF:List Addr:=[26,31,38,45,52,59,66,73,78,85,92,99,339,346,360,367,374,379,384,389,394,399,404]
noncomputable def faM0:List Addr:=[113,118,125,132,137,144,149]
noncomputable def faM2:List Addr:=[242,0,0,0,0,0,0,250,257,264,278,283]
noncomputable def faA:FId->Addr
 | .f k=>faF.getD k 0
 | .m 0 k=>faM0.getD k 0
 | .m 1 0=>214
 | .m 2 k=>faM2.getD k 0
 | _=>0
noncomputable def caA:Nat->Addr
 | 0=>152 | 1=>224 | _=>328
noncomputable def fdD (d:Data):Option FuncData:=match d with
 | .func fd=>some fd
 | _=>none
theorem fdD_some {d:Data} {fd:FuncData} (h:fdD d=some fd):d=.func fd:=by
 cases d with
 | func f=>exact aN _ (aE h)
 | _=>exact noS h
noncomputable def fdOf (K:Frag) (a:Addr):Option FuncData:=(K.lookup a).bind λo=>fdD o.data
noncomputable def refIs (v:Value) (a:Addr):Bool:=match v with
 | .ref b=>a==b
 | _=>false
theorem refIs_of {v:Value} {a:Addr} (h:refIs v a=true):v=.ref a:=by
 cases v with
 | ref b=>exact aN _ (eq_of_beq h).symm
 | _=>exact nomatch (show false=true from h)
noncomputable def isRef (x:Option (Option Value)) (a:Addr):Bool:=x.any λy=>y.any λv=>refIs v a
theorem any_of {α:Type} {p:α->Bool} {x:Option α} (h:x.any p=true):∃ y,x=some y/\p y=true:=by
 cases x with
 | none=>cases h
 | some y=>exact ⟨y,rfl,h⟩
theorem isRef_of {x:Option (Option Value)} {a:Addr} (h:isRef x a=true):x=some (some (.ref a)):=xea (any_of h) λy e h=>xea (any_of h) λv e' h=>e.trans (aN some (e'.trans (aN some (refIs_of h))))
noncomputable def isNN (x:Option (Option Value)):Bool:=x.any λy=>y.isNone
theorem isNN_of {x:Option (Option Value)} (h:isNN x=true):x=some none:=xea (any_of h) λy e h=>e.trans (aN some (Option.isNone_iff_eq_none.mp h))
noncomputable def strIs (v:Value) (s:Str):Bool:=match v with
 | .str y u1=>y==s
 | _=>false
theorem strIs_of {v:Value} {s:Str} (h:strIs v s=true):∃ t,v=.str s t:=by
 cases v with
 | str y t=>exact ⟨t,aN (Value.str · t) (eq_of_beq h)⟩
 | _=>exact nomatch (show false=true from h)
noncomputable def isStrC (x:Option (Option Value)) (s:Str):Bool:=x.any λy=>y.any λv=>strIs v s
theorem isStrC_of {x:Option (Option Value)} {s:Str} (h:isStrC x s=true):∃ t,x=some (some (.str s t)):=xea (any_of h) λy e h=>xea (any_of h) λv e' h=>xe (strIs_of h) λt e''=>⟨t,e.trans (aN some (e'.trans (aN some e'')))⟩
noncomputable def fldChk (K:Frag) (c f:Nat):Bool:=!okFld c f||isNN (findIn K (.ref (caA c)) (fldStr f))
noncomputable def methChk (K:Frag) (c m:Nat):Bool:=!okMeth c m||(isRef (findIn K (.ref (caA c)) (methStr m)) (faA (.m c m))&&(isFn K (.ref (faA (.m c m)))&&keepIn K (.ref (faA (.m c m)))))
noncomputable def clsChk (K:Frag) (c:Nat):Bool:=
 plainGet K (caA c) ""&&(hasDictIn K (caA c)&&(plainOver K (caA c)&&(makesIn K (caA c)&&(keepIn K (.ref (caA c))&&(isRef (findIn K (.ref (caA c)) "__init__") (faA (.m c 0))&&((List.range 13).all (fldChk K c)&&(List.range 12).all (methChk K c)))))))
noncomputable def fnNm (K:Frag) (k:Nat):Bool:=match fnNames[k]? with
 | some x=>isRef (nsIn K mainGlobals x) (faA (.f k))&&keepIn K (.ref (faA (.f k)))
 | none=>true
noncomputable def clsNm (K:Frag) (k:Nat):Bool:=match clsNames[k]? with
 | some x=>isRef (nsIn K mainGlobals x) (caA k)
 | none=>true
noncomputable def nmChk (K:Frag):Bool:=
 gConsts.all (λp=>isStrC (nsIn K mainGlobals p.1) p.2)&&((List.range 23).all (fnNm K)&&((List.range 3).all (clsNm K)&&(biNames.all (λx=>isNN (nsIn K mainGlobals x))&&(isNN (nsIn K mainGlobals "enumerate")&&((K.lookup 401).isNone&&((K.lookup 3).isSome&&codeHdIn K 403 401))))))
noncomputable def fnChk (K:Frag) (f:FId) (fd:FuncData):Bool:=fd.globals==mainGlobals&&(fd.builtins==builtinsNs&&(fd.closure.isEmpty&&(codeIn K fd.code fd.qualname&&(codeOf f).all (refIs fd.code))))
noncomputable def dsOf:FId->List Value
 | .m 2 7=>[.int 0 531]
 | _=>[]
structure FnK (K:Frag) (f:FId) (c:Cd):Prop where
 chk:(fdOf K (faA f)).any (fnChk K f)=true
 text:(fdOf K (faA f)).map (λfd=>(fd.body,fd.scope))=(textOf f).map λp=>(.stmts p.2.1,p.2.2)
 bind:∀ (S:Setting) (g:Nat->Value),(fdOf K (faA f)).map (λfd=>PySem.W.peek K S (bindArgs fd ⟨(List.range c.ng).map g,[]⟩))=(textOf f).map λp=>some (((p.2.2.names.take (c.ng+c.dfl.length)).map (·.1)).zip ((List.range c.ng).map g++dsOf f))
noncomputable abbrev baseOf (h:Heap):Heap:=hideAll h [401]
noncomputable def wdOf (prog:Program) (w:World) (h:Heap) (K:Frag):Wd:=⟨prog,w,baseOf h,caA,faA,K⟩
section
variable {K:Frag} {prog:Program} {w:World} {s₁:Shared} {p:Program} {loose:List Str} {mean:ExcName->Option Value} {mg mb:Str->Option Value} {h:Heap} {a:Addr} {f:FId} {c:Cd} {x:Str}
theorem range_get {us:List Value} {n:Nat} (h:us.length=n):us=(List.range n).map λi=>us.getD i .none:=by
 subst h
 refine List.ext_getElem (by rw [aB,ay]) λi h1 h2=>?_
 rw [List.getElem_map,List.getElem_range,List.getD_eq_getElem?_getD,ad h1];rfl
theorem dfl_all:AllC (λf c=>All2 (λv i=>∃ t,v=.int i t) (dsOf f) c.dfl) codeL:=by
 unfold codeL
 repeat (first | exact AllC.nil | refine .cons (by first | exact All2.nil | exact .cons ⟨_,rfl⟩ .nil) ?_)
theorem fdOf_some {fd:FuncData} (h:fdOf K a=some fd):∃ o,K.lookup a=some o/\o.data=.func fd:=bC h λo e h=>⟨o,e,fdD_some h⟩
theorem fnAt_of (hc:codeT f=some c) (KX:K.In (baseOf h)) (k:FnK K f c):DefAt (wdOf prog w h K) f c:=by
 cases hf:fdOf K (faA f) with
 | none=>exact nomatch (hf▸k.chk:(none:Option FuncData).any (fnChk K f)=true)
 | some fd=>
  have k1:fnChk K f fd=true:=(aN (Option.any (fnChk K f)) hf).symm.trans k.chk
  have k2:=hf▸k.text
  cases ht:textOf f with
  | none=>rw [ht] at k2;cases k2
  | some q=>
   rw [ht] at k2
   obtain ⟨ar,st,sc⟩:=q
   have kb:fd.body=.stmts st:=aN (·.1) (aE k2)
   cases (aN (·.2) (aE k2):fd.scope=sc)
   have g2:=b2 k1;have g3:=b2 g2;have g4:=b2 g3
   refine xea (fdOf_some hf) λo ho hd=>⟨ar,st,o,fd,dsOf f,ht,⟨λc' hc'=>?_,KX _ _ ho,hd,eq_of_beq (b1 k1),eq_of_beq (b1 g2),List.isEmpty_iff.mp (b1 g3),kb,codeRec_of KX (b1 g4),dfl_all.get hc,λus hl s hs=>?_⟩⟩
   ·exact refIs_of ((aN (Option.all (refIs fd.code)) hc').symm.trans (b2 g4))
   ·refine kp_binds (KX.keeps λu1 u2 e=>hs e) λS=>?_
    have k3:=k.bind S λi=>us.getD i .none
    rw [← range_get hl,hf,ht] at k3
    exact aE k3
theorem ne401 {b:Addr} (h:b≠401):b∉[401]:=λm=>h (ao.mp m)
theorem Ns_hide {m:Str->Option Value} (n:h.Ns a m) (ha:a≠401):(baseOf h).Ns a m:=n.at' λu1 e=>hideAll_get _ e (ne401 ha)
theorem bi_at (b:∀ x:Str,x≠"__name__"->mb x=bootBuiltins x):∀ (i:Nat) x b,biNames[i]?=some x->biAt[i]?=some b->mb x=some (biVal b)
 | 0,_,_,e1,e2 | 1,_,_,e1,e2 | 2,_,_,e1,e2 | 3,_,_,e1,e2 | 4,_,_,e1,e2 | 5,_,_,e1,e2 | 6,_,_,e1,e2 | 7,_,_,e1,e2 | 8,_,_,e1,e2=>by cases e1;cases e2;exact (b _ (by decide)).trans (by kernel_rfl)
theorem all_r {n i:Nat} {q:Nat->Bool} (h:(List.range n).all q=true) (l:i < n):q i=true:=List.all_eq_true.mp h i (List.mem_range.mpr l)
theorem or_t {a b:Bool} (h:(!a||b)=true) (e:a=true):b=true:=by subst e;exact h
theorem cls_of {c:Nat} (h:clsChk K c=true) (k3:findIn K (.ref (caA c)) "__setattr__"=some (some (.builtin "object.__setattr__"))) (k4:typeIn K (.ref (faA (.m c 0)))=some (.type "function")):ClsOK (wdOf prog w s₁.heap K) c:=
 have h2:=b2 h;have h3:=b2 h2;have h4:=b2 h3;have h5:=b2 h4;have h6:=b2 h5;have h7:=b2 h6
 ⟨b1 h,b1 h2,k3,b1 h3,b1 h4,b1 h5,isRef_of (b1 h6),k4,λf hf=>isNN_of (or_t (all_r (b1 h7) (okFld_lt hf).2) hf),λm hm=>have q:=or_t (all_r (b2 h7) (okMeth_lt hm).2) hm;⟨isRef_of (b1 q),b1 (b2 q),b2 (b2 q)⟩⟩
theorem wdok_of (KX:K.In s₁.heap) (T:Top p loose mean mg mb s₁.heap) (k1:nmChk K=true) (k2:∀ c,c < 3->ClsOK (wdOf prog w s₁.heap K) c) (hT:s₁.heap.get? 401=some (tabObj #[])):WdOK (wdOf prog w s₁.heap K)/\K.In (baseOf s₁.heap):=by
 have h2:=b2 k1;have h3:=b2 h2;have h4:=b2 h3;have h5:=b2 h4;have h6:=b2 h5;have h7:=b2 h6
 have KB:K.In (baseOf s₁.heap):=λa o e=>hideAll_get _ (KX a o e) (ne401 λq=>by
  subst q
  rw [e] at h6;cases b1 h6)
 have hne:∀ {a o},s₁.heap.get? a=some o->o.cls≠.none->a≠401:=λe n q=>by subst q;exact n (aN Obj.cls (aE (e.symm.trans hT)))
 refine ⟨⟨⟨mg,mb,Ns_hide T.g (by decide),Ns_hide T.b (by decide),λx s e=>?_,λk x e=>?_,λc x e=>?_,λi x b e1 e2=>⟨ns_none_of KX T.g (isNN_of (List.all_eq_true.mp (b1 h4) x (List.mem_of_getElem? e1))),bi_at T.builtins i x b e1 e2⟩,ns_none_of KX T.g (isNN_of (b1 h5)),?_⟩,?_,?_,KB,k2,⟨mg,Ns_hide T.g (by decide),?_,codeHd_of_K KB (b2 h7)⟩⟩,KB⟩
 ·exact xe (isStrC_of (List.all_eq_true.mp (b1 k1) (x,s) (mem_of_lookup e))) λt q=>⟨t,mg_of KX T.g q⟩
 ·have q:=all_r (b1 h2) (aa.mp e).1
  unfold fnNm at q
  rw [e] at q
  exact ⟨mg_of KX T.g (isRef_of (b1 q)),b2 q⟩
 ·have q:=all_r (b1 h3) (aa.mp e).1
  unfold clsNm at q
  rw [e] at q
  exact mg_of KX T.g (isRef_of q)
 ·exact (T.builtins _ (by decide)).trans (by kernel_rfl)
 ·exact xe (Option.isSome_iff_exists.mp (b1 h7)) λo ho=>⟨3,o,by decide,KB _ _ ho⟩
 ·exact xea T.nolimit λmc n e=>⟨mc,Ns_hide n (by decide),e⟩
 ·refine xeeaaaaa T.bmain λbm ob b1 b2 b3 b4 b5 b6=>?_
  have nb:=hne b3 (by rw [b4];exact Value.noConfusion)
  refine ⟨bm,ob,b1,b2,λq=>?_,nb,hideAll_get _ b3 (ne401 nb),b4,b5,b6⟩
  exact xeeeaa T.g λo es ep e hd u1=>by rw [q,e] at b3;cases b3;rw [hd] at b6;cases b6
theorem mg_fa {fa:Addr} (KX:K.In h) (T:Top p loose mean mg mb h) (hm:mg x=some (.ref fa)) (e:isRef (nsIn K mainGlobals x) 404=true):fa=404:=by
 cases hm.symm.trans (mg_of KX T.g (isRef_of e));rfl
theorem script_obj {P:Params} {items:List Value} {xs:List Int} (w:Well P h (.ref a) (ofPy (.list (xs.map .int)))) (l:h.IsList a items.toArray) (i:IntsAre items xs):∃ (vs:List Value) (n:Nat),h.get? a=some (lstO vs.toArray n)/\IntsAre vs xs:=by
 rw [ofPy] at w
 cases w with
 | list g w=>
  refine xeaae l λo e u1 n d=>?_
  cases g.symm.trans e
  injection d with d1 d2
  cases (aN Array.toList d1:_=items)
  exact ⟨_,0,g,i⟩
structure Left (h:Heap) (s s':Shared):Prop where
 tab:∃ ps,s'.heap.get? 401=some (tabObj ps)
 keep:∀ {b o},b≠401->h.get? b=some o->s'.heap.get? b=some o
 rest:∃ h' tk,s'={ s with heap:=h',toks:=tk }
theorem good_true {c:ClaimW} {cl:Str->Option Addr} {args:List WData} {s':Shared} (hr:∀ cls,c.raises args cls=false) (hp:c.post args (.bool true) args=true) (hg:s₁.gens=#[])
  (hT:s₁.heap.get? 401=some (tabObj #[])) (hc:CodeHd s₁.heap 403 401) (L:Left s₁.heap s₁ s'):GoodWG c cl mean args s₁ (.ok (.ret (.bool true))) s':=by
 refine xee L.rest λh' tk e=>?_
 subst e
 refine ⟨.inl ⟨_,_,[],rfl,hr,.bool true,hp,λu1=>⟨List.nodup_nil,nofun⟩⟩,?_,rfl,.of_eq hg⟩
 refine xe L.tab λps he=>?_
 obtain ⟨o,vs,file,tf,flags,tg,inF,text,tt,e1,e2,e3,e4,e5⟩:=hc
 have t1:s₁.heap.TableAt 403 401 #[]:=⟨⟨o,vs,e1,e2,e3,e4⟩,hT⟩
 exact OldK.step_table (OldK.refl _) (ps:=#[]) (more:=ps) t1 t1 ⟨⟨o,vs,L.keep (by decide) e1,e2,e3,e4⟩,by rw [Array.empty_append];exact he⟩ (λu1 u2=>L.keep) (by decide)
noncomputable def σ0 (s:Shared):Sg:=⟨λb=>b=401,[some 401],⟨[.tab],0⟩,s⟩
theorem one_r {j:Nat} {a:Addr} (e:([some 401]:Rho)[j]?=some (some a)):j=0/\a=401:=by
 cases j with
 | zero=>cases e;exact ⟨rfl,rfl⟩
 | succ j=>cases e
theorem hs0 (hT:s₁.heap.get? 401=some (tabObj #[])):HS (wdOf prog w s₁.heap K) (σ0 s₁) where
 len:=rfl
 gone {j} e:=by
  cases j with
  | zero=>cases e
  | succ j=>cases e
 nodup e f:=(one_r e).1.trans (one_r f).1.symm
 at_ e f:=by
  obtain ⟨rfl,rfl⟩:=one_r e
  cases f
  exact ⟨rfl,hT⟩
 bans e:=(one_r e).2
 keep e:=of_hideAll _ e
 lo q:=q▸hideAll_none _ (.head _)
 hi q:=⟨_,q▸hT⟩
theorem tab_of {W:Wd} {H:Hp} {s:Shared} {ban:Addr->Prop} {r:Rho} (g:Gn W (σ0 s₁) ⟨ban,r,H,s⟩) (e0:H.o[0]?=some .tab\/H.o[0]?=some .tabD):∃ ps,s.heap.get? 401=some (tabObj ps):=
 have no:H.o[0]?≠some .dead:=λz=>e0.elim (λe=>nomatch e.symm.trans z) λe=>nomatch e.symm.trans z
 (g.rho 0 _ (rfl:([some 401]:Rho)[0]?=some (some 401))).elim (λz=>e0.elim (λe=>⟨_,(g.hs.at_ z e).2⟩) λe=>g.hs.at_ z e) λz=>absurd (g.hs.gone z) no
theorem law_run {m:Nat} {xs:List Int} {vs:List Value} {n:Nat} (O:WdOK (wdOf prog w s₁.heap K)) (hT:s₁.heap.get? 401=some (tabObj #[])) (P:∀ f c,codeT f=some c->FnK K f c) (hm:1<=m/\m<=40)
  (hv:∃ H,callF (fns m) (.f 22) [.d (.list (xs.map .int))] ⟨[.tab],0⟩=some (.d (.bool true),H)/\(H.o[0]?=some .tab\/H.o[0]?=some .tabD)) (ha:s₁.heap.get? a=some (lstO vs.toArray n)) (hi:IntsAre vs xs) :
  wpAny (model prog w) callerA (call (.ref 404) [.ref a]) (λv s'=>v=.bool true/\Left s₁.heap s₁ s') NoE s₁:=xea hv λH hv h0=>bC hv λF hF e=>by
 have C:CallOK (wdOf prog w s₁.heap K) (2 * m) (.f 22) F:=fns_ok O (λf c hc=>fnAt_of hc O.kin (P f c hc)) m _ _ hF
 have R:Room (2 * m) callerA:=⟨rfl,by show 301+2 * m < 1000;lia,by show 4+100 * (2 * m)+100 < cLine;have:cLine=9900:=rfl;lia⟩
 have na:a≠401:=λq=>by subst q;cases ha.symm.trans hT
 have q:Vs (wdOf prog w s₁.heap K) (σ0 s₁) [.ref a] [.d (.list (xs.map .int))]:=.one ⟨a,_,n,rfl,ha,na,VDs.ints.mpr hi⟩
 refine post (M:=(wdOf prog w s₁.heap K).m) ((C.run (W:=wdOf prog w s₁.heap K) (σ:=σ0 s₁) R (hs0 hT) q).use e) λv s q=>?_
 cases q with | mk ban r g q=>
 cases (q:v=.bool true)
 refine ⟨rfl,tab_of g h0,λnb e=>g.keep (λ⟨j,l⟩=>nb (one_r l).2) id e,g.rest⟩
end
end Mine.Internal
namespace Mine.Internal
open PySem
section
variable {α σ:Type} {Φ:Fns} {c:C} {cs a b:List C} {vs vs1:Vars} {h h1 h2 h3 h4:Hp} {v x y z:V} {e e1 e2 ea ei:X} {o:O} {n:Nat} {p:Pat} {Q:St->Prop} {t:Bool} {d:D} {P:Prop} {V:σ->Vars} {H:σ->Hp}
theorem mI {α β:Type} {o:Option α} {f:α->β} {a:α} (h:o=some a):o.map f=some (f a):=aN (Option.map f) h
noncomputable def WP (Φ:Fns) (cs:List C) (vs:Vars) (h:Hp) (Q:St->Prop):Prop:=∃ o,execCs Φ cs vs h=some o/\Q o
theorem w_nil (q:Q (.nx,vs,h)):WP Φ [] vs h Q:=⟨_,rfl,q⟩
theorem w_c (q:execC Φ c vs h=some (.nx,vs1,h1)) (k:WP Φ cs vs1 h1 Q):WP Φ (c::cs) vs h Q:=xea k λo e z=>⟨o,bI q e,z⟩
theorem w_r (q:execC Φ c vs h=some (.ret x,vs,h1)) (k:Q (.ret x,vs,h1)):WP Φ (c::cs) vs h Q:=⟨_,bI q rfl,k⟩
theorem w_asg (q:evalX Φ e vs h=some (x,h1)) (k:WP Φ cs (vs.set n (some x)) h1 Q):WP Φ (.asg n e::cs) vs h Q:=w_c (mI q) k
theorem w_expr (q:evalX Φ e vs h=some (.d .none,h1)) (k:WP Φ cs vs h1 Q):WP Φ (.expr e::cs) vs h Q:=w_c (bI q rfl) k
theorem w_exprI {i:Int} (q:evalX Φ e vs h=some (.d (.int i),h1)) (k:WP Φ cs vs h1 Q):WP Φ (.expr e::cs) vs h Q:=w_c (bI q rfl) k
theorem w_asgN (q:evalNew Φ e vs h=some (o,h1)) (k:WP Φ cs (vs.set n (some (.ref h1.o.length))) (h1.new o) Q):WP Φ (.asgN n e::cs) vs h Q:=w_c (mI q) k
theorem w_asgP (q:evalX Φ e vs h=some (x,h1)) (q2:bindP p x vs=some vs1) (k:WP Φ cs vs1 h1 Q):WP Φ (.asgP p e::cs) vs h Q:=w_c (bI q (mI q2)) k
theorem w_par {ns:List Nat} {bs:List Bool} {es:List X} {xs:List Internal.V} (q:evalPar Φ bs es vs h=some (xs,h1)) (k:WP Φ cs (setAll ns xs vs) h1 Q):WP Φ (.par ns bs es::cs) vs h Q:=w_c (mI q) k
theorem w_setI (q1:evalX Φ e vs h=some (v,h1)) (q2:evalX Φ ea vs h1=some (x,h2)) (q3:evalX Φ ei vs h2=some (y,h3)) (q4:setItemV x y v h3=some h4) (k:WP Φ cs vs h4 Q):WP Φ (.setI ea ei e::cs) vs h Q:=w_c (bI q1 (bI q2 (bI q3 (mI q4)))) k
theorem w_setI2 {a1 i1 a2 i2:X} {v1 v2 y2 x2:Internal.V} {h5 h6:Hp} (q1:evalX Φ e1 vs h=some (v1,h1)) (q2:evalX Φ e2 vs h1=some (v2,h2)) (q3:evalX Φ a1 vs h2=some (x,h2)) (q4:evalX Φ i1 vs h2=some (y,h2)) (q5:setItemV x y v1 h2=some h5) (q6:evalX Φ a2 vs h5=some (x2,h5)) (q7:evalX Φ i2 vs h5=some (y2,h5)) (q8:setItemV x2 y2 v2 h5=some h6) (k:WP Φ cs vs h6 Q) :
  WP Φ (.setI2 a1 i1 a2 i2 e1 e2::cs) vs h Q:=w_c (bI q1 (bI q2 (bI q3 (bI q4 (bI q5 (bI q6 (bI q7 (mI q8)))))))) k
theorem w_setA (q1:evalX Φ e vs h=some (v,h1)) (q2:evalX Φ ea vs h1=some (x,h2)) (q4:setAttrV x n v h2=some h3) (k:WP Φ cs vs h3 Q):WP Φ (.setA ea n e::cs) vs h Q:=w_c (bI q1 (bI q2 (mI q4))) k
theorem w_setAN (q1:evalNew Φ e vs h=some (o,h1)) (q2:evalX Φ ea vs (h1.new o)=some (x,h2)) (q4:setAttrV x n (.ref h1.o.length) h2=some h3) (k:WP Φ cs vs h3 Q):WP Φ (.setAN ea n e::cs) vs h Q:=w_c (bI q1 (bI q2 (mI q4))) k
theorem w_ret (q:evalX Φ e vs h=some (x,h1)) (k:Q (.ret x,vs,h1)):WP Φ (.ret .plain e::cs) vs h Q:=w_r (mI q) k
theorem w_retF (q:evalX Φ e vs h=some (x,h1)) (q2:freeze x h1=some (d,h2)) (k:Q (.ret (.d d),vs,h2)):WP Φ (.ret .freeze e::cs) vs h Q:=w_r (bI q (mI q2)) k
theorem w_retT (q:evalNew Φ e vs h=some (o,h1)) (k:Q (.ret (.ref h1.o.length),vs,h1.new o)):WP Φ (.ret .thaw e::cs) vs h Q:=w_r (mI q) k
theorem w_cont (k:Q (.cont,vs,h)):WP Φ (.cont::cs) vs h Q:=⟨_,rfl,k⟩
theorem w_brk (k:Q (.brk,vs,h)):WP Φ (.brk::cs) vs h Q:=⟨_,rfl,k⟩
noncomputable def Sq (Φ:Fns) (cs:List C) (Q:St->Prop) (o:St):Prop:=match o.1 with
 | .nx=>WP Φ cs o.2.1 o.2.2 Q
 | _=>Q o
theorem sq_of {r:Option St} (q:execC Φ c vs h=r) (k:∃ o,r=some o/\Sq Φ cs Q o):WP Φ (c::cs) vs h Q:=xea k λo e z=>by
 obtain ⟨f,vs1,h1⟩:=o
 cases f with
 | nx=>exact w_c (q.trans e) z
 | _=>exact ⟨_,bI (q.trans e) rfl,z⟩
theorem w_if (q:evalX Φ e vs h=some (.d (.bool t),h1)) (k1:t=true->WP Φ a vs h1 (Sq Φ cs Q)) (k2:t=false->WP Φ b vs h1 (Sq Φ cs Q)):WP Φ (.ifs e a b::cs) vs h Q:=by
 cases t with
 | true=>exact sq_of (bI q rfl) (k1 rfl)
 | false=>exact sq_of (bI q rfl) (k2 rfl)
theorem w_ifP [Decidable P] (q:evalX Φ e vs h=some (.d (.bool (decide P)),h1)) (k1:P->WP Φ a vs h1 (Sq Φ cs Q)) (k2:¬ P->WP Φ b vs h1 (Sq Φ cs Q)):WP Φ (.ifs e a b::cs) vs h Q:=w_if q (λz=>k1 (aw z)) λz=>k2 (of_decide_eq_false z)
theorem w_ifN [Decidable P] (q:evalX Φ e vs h=some (.d (.bool (!decide P)),h1)) (k1:¬ P->WP Φ a vs h1 (Sq Φ cs Q)) (k2:P->WP Φ b vs h1 (Sq Φ cs Q)):WP Φ (.ifs e a b::cs) vs h Q:=w_if q (λz=>k1 (of_decide_eq_false ((Bool.not_not _).symm.trans (aN _ z)))) λz=>k2 (aw ((Bool.not_not _).symm.trans (aN _ z)))
noncomputable def TnB (V:σ->Vars) (H:σ->Hp) (R B:σ->Prop) (Q:St->Prop) (o:St):Prop:=match o.1 with
 | .ret u1=>Q o
 | .brk=>∃ s,o.2.1=V s/\o.2.2=H s/\B s
 | _=>∃ s,o.2.1=V s/\o.2.2=H s/\R s
noncomputable def Tn (V:σ->Vars) (H:σ->Hp) (R:σ->Prop) (Q:St->Prop) (o:St):Prop:=TnB V H R (λu1=>False) Q o
noncomputable def Lp (V:σ->Vars) (H:σ->Hp) (R:σ->Prop) (Q:St->Prop) (o:St):Prop:=match o.1 with
 | .nx=>∃ s,o.2.1=V s/\o.2.2=H s/\R s
 | .ret u1=>Q o
 | _=>False
noncomputable def WB (Φ:Fns) (p:Pat) (b:List C) (v:Internal.V) (vs:Vars) (h:Hp) (Q:St->Prop):Prop:=∃ o,(bindP p v vs).bind (λvs=>execCs Φ b vs h)=some o/\Q o
theorem w_b (q:bindP p v vs=some vs1) (k:WP Φ b vs1 h Q):WB Φ p b v vs h Q:=xea k λo e z=>⟨o,bI q e,z⟩
theorem loop_w {l:List α} {emb:α->Internal.V} {R:List α->σ->Prop} {B:σ->Prop} (step:∀ d x r s,l=d++x::r->R d s->WB Φ p b (emb x) (V s) (H s) (TnB V H (R (d++[x])) B Q)) (xs:List α):∀ d s,l=d++xs->R d s->∃ o,loopC false (λv vs h=>(bindP p v vs).bind λvs=>execCs Φ b vs h) (xs.map emb) (V s) (H s)=some o/\Lp V H (λs=>R l s\/B s) Q o:=by
 induction xs with
 | nil=>exact λd s e r=>⟨_,rfl,s,rfl,rfl,.inl ((e.trans (List.append_nil d))▸r)⟩
 | cons x xs ih=>
  refine λd s e r=>xea (step d x xs s e r) λo q z=>?_
  obtain ⟨f,vs1,h1⟩:=o
  have go:(TnB V H (R (d++[x])) B Q (.nx,vs1,h1))->∃ o,loopC false (λv vs h=>(bindP p v vs).bind λvs=>execCs Φ b vs h) (xs.map emb) vs1 h1=some o/\Lp V H (λs=>R l s\/B s) Q o:=λz=>xeaa z λs e1 e2 r=>by
   cases e1;cases e2
   exact ih _ s (e.trans (ax d [x] xs).symm) r
  cases f with
  | nx=>exact xea (go z) λo e k=>⟨o,bI q e,k⟩
  | cont=>exact xea (go z) λo e k=>⟨o,bI q e,k⟩
  | ret v=>exact ⟨_,bI q rfl,z⟩
  | brk=>exact ⟨(.nx,vs1,h1),bI q rfl,xeaa z λs e1 e2 r=>⟨s,e1,e2,.inr r⟩⟩
theorem wh_small {β:Type} {n:Nat} {o:Option β} (h:n < 60):wh (small n) o=o:=by
 unfold small
 rw [aF h];rfl
theorem xeeaa' {cs:List C} {R:σ->Prop} (z:∃ s,vs=V s/\h=H s/\R s) (k:∀ s,R s->WP Φ cs (V s) (H s) Q):WP Φ cs vs h Q:=xeaa z λs e1 e2 r=>by subst e1 e2;exact k s r
theorem lp_seq {R:σ->Prop} {r:Option St} (q:execC Φ c vs h=r) (w:∃ o,r=some o/\Lp V H R Q o) (k:∀ s,R s->WP Φ cs (V s) (H s) Q):WP Φ (c::cs) vs h Q:=sq_of q (xea w λo e z=>⟨o,e,by
 obtain ⟨f,vs1,h1⟩:=o
 cases f with
 | nx=>exact xeeaa' z k
 | ret v=>exact z
 | _=>exact z.elim⟩)
theorem w_forB {l:List α} {emb:α->Internal.V} {R:List α->σ->Prop} {B:σ->Prop} {en:Bool} {s:σ} (src:evalX Φ e (V s) h=some (x,H s)) (it:itemsOf en p x (H s)=some (l.map emb,false)) (sm:l.length < 60) (r0:R [] s)
  (step:∀ d x r s,l=d++x::r->R d s->WB Φ p b (emb x) (V s) (H s) (TnB V H (R (d++[x])) B Q)) (k:∀ s,R l s\/B s->WP Φ cs (V s) (H s) Q):WP Φ (.fors false p en e b::cs) (V s) h Q:=
 lp_seq (show (forSrc false e (evalX Φ e) (V s) h).bind _=_ from bI (mI src) (bI it ((wh_small (by rw [aB];exact sm)).trans rfl))) (loop_w step l [] s rfl r0) k
theorem w_for {l:List α} {emb:α->Internal.V} {R:List α->σ->Prop} {en:Bool} {s:σ} (src:evalX Φ e (V s) h=some (x,H s)) (it:itemsOf en p x (H s)=some (l.map emb,false)) (sm:l.length < 60) (r0:R [] s)
  (step:∀ d x r s,l=d++x::r->R d s->WB Φ p b (emb x) (V s) (H s) (Tn V H (R (d++[x])) Q)) (k:∀ s,R l s->WP Φ cs (V s) (H s) Q):WP Φ (.fors false p en e b::cs) (V s) h Q:=
 w_forB src it sm r0 step λs r=>k s (r.elim id False.elim)
theorem while_w {R:σ->Prop} {μ:σ->Nat} {t:σ->Bool} (q:∀ s,R s->evalX Φ e (V s) (H s)=some (.d (.bool (t s)),H s)) (k1:∀ s,R s->t s=true->WP Φ b (V s) (H s) (Tn V H (λs'=>R s'/\μ s' < μ s) Q)) (n:Nat):∀ s,R s->μ s < n->∃ o,whileC (λvs h=>(evalX Φ e vs h).bind λp=>(truthV p.1).map λz=>(z,p.2)) (λvs h=>execCs Φ b vs h) n (V s) (H s)=some o/\Lp V H (λs=>R s/\t s=false) Q o:=by
 induction n with
 | zero=>exact λs u1 l=>absurd l (Nat.not_lt_zero _)
 | succ n ih=>
  refine λs r l=>?_
  have e0:=bI (r:=some (t s,H s)) (f:=λp=>(truthV p.1).map λz=>(z,p.2)) (q s r) rfl
  cases ht:t s with
  | false=>exact ⟨(.nx,V s,H s),bI e0 (by rw [ht];rfl),s,rfl,rfl,r,ht⟩
  | true=>
   refine xea (k1 s r ht) λo q z=>?_
   obtain ⟨f,vs1,h1⟩:=o
   have go:(Tn V H (λs'=>R s'/\μ s' < μ s) Q (.nx,vs1,h1))->∃ o,whileC (λvs h=>(evalX Φ e vs h).bind λp=>(truthV p.1).map λz=>(z,p.2)) (λvs h=>execCs Φ b vs h) n vs1 h1=some o/\Lp V H (λs=>R s/\t s=false) Q o:=λz=>xeaa z λs' e1 e2 r=>by
    cases e1;cases e2
    exact ih _ r.1 (av r.2 (Nat.le_of_lt_succ l))
   cases f with
   | nx=>exact xea (go z) λo e k=>⟨o,bI e0 (by rw [ht];exact bI q e),k⟩
   | cont=>exact xea (go z) λo e k=>⟨o,bI e0 (by rw [ht];exact bI q e),k⟩
   | ret v=>exact ⟨(.ret v,vs1,h1),bI e0 (by rw [ht];exact bI q rfl),z⟩
   | brk=>exact xeaa z λu1 u2 u3 z=>z.elim
theorem w_while {R:σ->Prop} {μ:σ->Nat} {t:σ->Bool} {s:σ} (r0:R s) (hm:μ s < 100) (q:∀ s,R s->evalX Φ e (V s) (H s)=some (.d (.bool (t s)),H s)) (k1:∀ s,R s->t s=true->WP Φ b (V s) (H s) (Tn V H (λs'=>R s'/\μ s' < μ s) Q)) (k2:∀ s,R s->t s=false->WP Φ cs (V s) (H s) Q):WP Φ (.whiles e b::cs) (V s) (H s) Q:=
 lp_seq rfl (while_w q k1 100 s r0 hm) λs r=>k2 s r.1 r.2
end
section
variable {Φ:Fns} {vs vs1:Vars} {h h1 h2 h3:Hp} {v x y z:V} {e a b c:X} {es:List X} {xs:List V} {t u:Bool} {r:V×Hp} {n j:Nat} {ds:List D} {d:D} {P R:Prop} [Decidable P] [Decidable R]
theorem e_nil:evalXs Φ [] vs h=some ([],h):=rfl
theorem e_cons (q:evalX Φ e vs h=some (v,h1)) (k:evalXs Φ es vs h1=some (xs,h2)):evalXs Φ (e::es) vs h=some (v::xs,h2):=bI q (mI k)
theorem e_1 (q:evalX Φ e vs h=some (v,h1)):evalXs Φ [e] vs h=some ([v],h1):=e_cons q rfl
theorem e_bmeth {m:BM} (q1:evalX Φ a vs h=some (x,h1)) (q2:kindV x h1=some t) (q3:evalXs Φ es vs h1=some (xs,h2)) (q4:okBm m t=true) (q5:kindV x h2=some t) (q6:bmethV m x xs h2=some r):evalX Φ (.bmeth m a es) vs h=some r:=
 bI q1 (bI q2 (bI q3 (bI q5 (by rw [q4,beq_self_eq_true];exact q6))))
theorem e_cmp {op:COp} (q1:evalX Φ a vs h=some (x,h1)) (q2:evalX Φ b vs h1=some (y,h2)) (q3:cmpV op x y h2=some t):evalX Φ (.cmp op a b) vs h=some (.d (.bool t),h2):=bI q1 (bI q2 (mI q3))
theorem e_not (q:evalX Φ a vs h=some (.d (.bool t),h1)):evalX Φ (.not a) vs h=some (.d (.bool (!t)),h1):=bI q rfl
theorem e_and (q:evalX Φ a vs h=some (.d (.bool t),h)) (k:t=true->evalX Φ b vs h=some (.d (.bool u),h)):evalX Φ (.and a b) vs h=some (.d (.bool (t&&u)),h):=bI q (by
 cases t with
 | true=>exact k rfl
 | false=>rfl)
theorem e_or (q:evalX Φ a vs h=some (.d (.bool t),h)) (k:t=false->evalX Φ b vs h=some (.d (.bool u),h)):evalX Φ (.or a b) vs h=some (.d (.bool (t||u)),h):=bI q (by
 cases t with
 | true=>rfl
 | false=>exact k rfl)
theorem e_ite (q:evalX Φ c vs h=some (.d (.bool (decide P)),h)) (k1:P->evalX Φ a vs h=some (x,h)) (k2:¬ P->evalX Φ b vs h=some (y,h)):evalX Φ (.ite c a b) vs h=some (if P then x else y,h):=bI q (by
 by_cases p:P
 ·rw [aQ p,aF p];exact k1 p
 ·rw [aP p,decide_eq_false p];exact k2 p)
theorem e_item (q1:evalX Φ a vs h=some (x,h1)) (q2:evalX Φ b vs h1=some (y,h1)) (q3:itemV x y h1=some z):evalX Φ (.item a b) vs h=some (z,h1):=bI q1 (bI q2 (mI q3))
theorem e_bin {op:BOp} (q1:evalX Φ a vs h=some (x,h1)) (q2:evalX Φ b vs h1=some (y,h2)) (q3:binV op x y=some z):evalX Φ (.bin op a b) vs h=some (z,h2):=bI q1 (bI q2 (mI q3))
theorem e_bcall {f:BI} (q:evalXs Φ es vs h=some (xs,h1)) (k:bcallV f xs h1=some z):evalX Φ (.bcall f es) vs h=some (z,h1):=bI q (mI k)
theorem e_fcall {f:Nat} (q:evalXs Φ es vs h=some (xs,h1)) (k:callF Φ (.f f) xs h1=some r):evalX Φ (.fcall f es) vs h=some r:=bI q k
theorem e_meth {m:Nat} (q:evalX Φ a vs h=some (x,h1)) (i:instV x m h1=some n) (q2:evalXs Φ es vs h1=some (xs,h2)) (k:callF Φ (.m n m) (x::xs) h2=some r):evalX Φ (.meth a m es) vs h=some r:=bI q (bI i (bI q2 k))
theorem e_ccall (q:evalXs Φ es vs h=some (xs,h1)) (hc:n < 3) (k:callF Φ (.m n 0) (.inst n h1.o.length::xs) (h1.new (.inst n []))=some (.d .none,h2)):evalX Φ (.ccall n es) vs h=some (.inst n h1.o.length,h2):=bI q ((wh_t (aF hc)).trans (bI k rfl))
theorem e_attr (q:evalX Φ a vs h=some (x,h1)) (k:attrV x n h1=some z):evalX Φ (.attr a n) vs h=some (z,h1):=bI q (mI k)
theorem e_tup (q:evalXs Φ es vs h=some (xs,h1)) (k:alls xs=some ds):evalX Φ (.tup es) vs h=some (.d (.tup ds),h1):=bI q (mI k)
theorem e_list (q:evalXs Φ es vs h=some (xs,h1)) (k:alls xs=some ds):evalX Φ (.list es) vs h=some (.d (.list ds),h1):=bI q (mI k)
theorem e_upto (q1:evalX Φ a vs h=some (x,h1)) (q2:evalX Φ b vs h1=some (.d (.int (n:Int)),h2)) (q3:peek x h2=some (.list ds)) (s:ds.length < 60) (l:n<=ds.length):evalX Φ (.upto a b) vs h=some (.d (.list (ds.take n)),h2):=
 bI q1 (bI q2 (mI (bI q3 (wh_t (ba (ba (aF s) (aF (Int.natCast_nonneg n))) (aF l))))))
theorem e_rev (q1:evalX Φ a vs h=some (x,h1)) (q3:peek x h1=some (.list ds)) (s:ds.length < 60):evalX Φ (.rev a) vs h=some (.d (.list ds.reverse),h1):=bI q1 (mI (bI q3 (wh_small s)))
theorem p_old {bs:List Bool} (q:evalX Φ e vs h=some (v,h1)) (k:evalPar Φ bs es vs h1=some (xs,h2)):evalPar Φ (false::bs) (e::es) vs h=some (v::xs,h2):=bI (show parOne false _ _ vs h=some (v,h1) from q) (mI k)
theorem p_new {bs:List Bool} {o:O} (q:evalNew Φ e vs h=some (o,h1)) (k:evalPar Φ bs es vs (h1.new o)=some (xs,h2)):evalPar Φ (true::bs) (e::es) vs h=some (.ref h1.o.length::xs,h2):=bI (show parOne true _ _ vs h=_ from mI q) (mI k)
theorem e_dictEnum (q:evalX Φ a vs h=some (.d (.list ds),h1)) (s:ds.length < 60):evalX Φ (.dictEnum a) vs h=some (.d (.dict ((List.range ds.length).map λ(i:Nat)=>.i (i:Int)) ds),h1):=bI q (mI (wh_small s))
theorem n_mul (q1:evalX Φ a vs h=some (x,h1)) (q2:evalX Φ b vs h1=some (.d (.int (n:Int)),h2)) (s:n < 60):evalNew Φ (.bin .mul (.list [a]) b) vs h=some (.list (List.replicate n x),h2):=
 bI q1 (bI q2 (wh_t (ba (aF (Int.natCast_nonneg n)) (aF (Int.ofNat_lt.mpr s)))))
theorem e_chain2 {o1 o2:COp} (q1:evalX Φ a vs h=some (x,h)) (q2:evalX Φ b vs h=some (y,h)) (c1:cmpV o1 x y h=some true) (q3:evalX Φ c vs h=some (z,h)) (c2:cmpV o2 y z h=some t):evalX Φ (.chain o1 o2 a b c) vs h=some (.d (.bool t),h):=bI q1 (bI q2 (bI c1 (bI q3 (mI c2))))
theorem call_pureW {m k:Nat} {f:FId} {body:List C} {args:List V} (hc:codeT f=some ⟨n,[],k,body⟩) (hp:isPure f=true) (ha:allD args=true) (hl:args.length=n) (w:WP (fns m) body (args.map some++List.replicate (k - args.length) none) ⟨[],0⟩ λo=>o.1=.ret (.d d)):callF (fns (m+1)) f args h=some (.d d,h):=
 xea w λo e q=>by
  obtain ⟨f,vs,H⟩:=o
  cases (q:f=.ret (.d d))
  exact call_pure hc hp ha hl (run_ret e)
noncomputable def CP (o:Option (V×Hp)) (P:V->Hp->Prop):Prop:=∃ p,o=some p/\P p.1 p.2
noncomputable def RQ (P:V->Hp->Prop) (o:St):Prop:=match o.1 with
 | .ret v=>P v o.2.2
 | .nx=>P (.d .none) o.2.2
 | _=>False
theorem call_W {m k:Nat} {f:FId} {body:List C} {dfl:List Int} {P:V->Hp->Prop} {args:List V} (hc:codeT f=some ⟨n,dfl,k,body⟩) (hp:isPure f=false) (hl:args.length=n) (w:WP (fns m) body ((args++dfl.map λi=>V.d (.int i)).map some++List.replicate (k - (args++dfl.map λi=>V.d (.int i)).length) none) h (RQ P)):CP (callF (fns (m+1)) f args h) P:=
 xea w λo e q=>by
  obtain ⟨f,vs,H⟩:=o
  cases f with
  | ret v=>exact ⟨(v,H),call_imp hc hp hl (run_ret e),q⟩
  | nx=>exact ⟨(.d .none,H),call_imp hc hp hl (run_nx e),q⟩
  | _=>exact q.elim
end
structure Rep {α:Type} [DecidableEq α] (f:α->D) (k:Nat):Prop where
 lay:∀ a,(f a).py.canLay0=true
 dep:∀ a,(f a).py.depth<=k
 eq:∀ a b,PyData.eqv (f a).py (f b).py=decide (a=b)
section
variable {α β:Type} [DecidableEq α] [DecidableEq β] {f:α->D} {g:β->D} {k:Nat} {a b:α} {l l':List α}
theorem Rep.shaped (r:Rep f k) (hk:k<=64) (a:α):shapedD (f a)=true:=ba (r.lay a) (aF (aI (r.dep a) hk))
theorem Rep.eqD (r:Rep f k) (hk:k<=64) (a b:α):eqD (f a) (f b)=some (decide (a=b)):=(wh_t (ba (r.shaped hk a) (r.shaped hk b))).trans (aN some (r.eq a b))
theorem rep_nat:Rep (λn:Nat=>D.int (n:Int)) 0:=⟨λu1=>by simp only [D.py,PyData.canLay0],λu1=>by simp only [D.py,PyData.depth,Nat.le_refl],λa b=>by simp only [D.py,PyData.eqv];exact (decide_eq_decide.mpr Int.ofNat_inj)⟩
theorem pys_rep (r:Rep f k):PyData.canLayAll0 (pys (l.map f))=true/\PyData.depthAll (pys (l.map f))<=k:=by
 induction l with
 | nil=>exact ⟨by simp only [List.map_nil,pys,PyData.canLayAll0],by simp only [List.map_nil,pys,PyData.depthAll,Nat.zero_le]⟩
 | cons a l ih=>
  simp only [List.map_cons,pys,PyData.canLayAll0,PyData.depthAll]
  exact ⟨ba (r.lay a) ih.1,Nat.max_le.mpr ⟨r.dep a,ih.2⟩⟩
theorem pys_eq (r:Rep f k):PyData.eqvAll (pys (l.map f)) (pys (l'.map f))=decide (l=l'):=by
 induction l generalizing l' with
 | nil=>cases l' <;> simp [pys,PyData.eqvAll]
 | cons a l ih=>cases l' with
  | nil=>simp [pys,PyData.eqvAll]
  | cons b l'=>
   simp only [List.map_cons,pys,PyData.eqvAll,r.eq,ih]
   rw [← Bool.decide_and]
   exact decide_eq_decide.mpr List.cons_eq_cons.symm
theorem rep_list (r:Rep f k):Rep (λl:List α=>D.list (l.map f)) (k+1) where
 lay l:=by simp only [D.py,PyData.canLay0];exact (pys_rep r).1
 dep l:=by simp only [D.py,PyData.depth];exact Nat.succ_le_succ (pys_rep r).2
 eq l l':=by simp only [D.py,PyData.eqv];exact pys_eq r
theorem rep_pair (r:Rep f k) (q:Rep g k):Rep (λp:α×β=>D.tup [f p.1,g p.2]) (k+1) where
 lay p:=by simp only [D.py,pys,PyData.canLay0,PyData.canLayAll0];exact ba (r.lay _) (ba (q.lay _) rfl)
 dep p:=by
  simp only [D.py,pys,PyData.depth,PyData.depthAll]
  exact Nat.succ_le_succ (Nat.max_le.mpr ⟨r.dep _,Nat.max_le.mpr ⟨q.dep _,Nat.zero_le _⟩⟩)
 eq p p':=by
  simp only [D.py,pys,PyData.eqv,PyData.eqvAll,r.eq,q.eq,Bool.and_true]
  rw [← Bool.decide_and]
  exact decide_eq_decide.mpr Prod.ext_iff.symm
theorem Rep.mono {k':Nat} (r:Rep f k) (h:k<=k'):Rep f k':=⟨r.lay,λa=>aI (r.dep a) h,r.eq⟩
end
abbrev End:=Nat×Nat
abbrev Row:=End×End
noncomputable def nD (n:Nat):D:=.int (n:Int)
noncomputable def nK (n:Nat):Key:=.i (n:Int)
noncomputable def endD (e:End):D:=.tup [nD e.1,nD e.2]
noncomputable def endK (e:End):Key:=.t [(e.1:Int),(e.2:Int)]
noncomputable def rowD (r:Row):D:=.tup [endD r.1,endD r.2]
noncomputable def webD (w:List Row):D:=.list (w.map rowD)
noncomputable def natsD (l:List Nat):D:=.list (l.map nD)
theorem rep_nD:Rep nD 0:=rep_nat
theorem rep_endD:Rep endD 1:=rep_pair rep_nat rep_nat
theorem rep_rowD:Rep rowD 2:=rep_pair rep_endD rep_endD
theorem rep_webD:Rep webD 3:=rep_list rep_rowD
theorem rep_natsD:Rep natsD 1:=rep_list rep_nD
structure KK {κ:Type} (kf:κ->Key) (kd:κ->D):Prop where
 inj:∀ {a b},kf a=kf b↔a=b
 key:∀ a,keyOf (kd a)=some (kf a)
 back:∀ a,keyD (kf a)=kd a
 same:∀ a b,sameKind (kf a) (kf b)=true
noncomputable def Key.ns:Key->List Int
 | .i n=>[n]
 | .t l=>l
theorem kN:KK nK nD:=⟨⟨λh=>Int.ofNat_inj.mp (List.cons.inj (aN Key.ns h)).1,aN _⟩,λu1=>rfl,λu1=>rfl,λu1 u2=>rfl⟩
theorem kE:KK endK endD:=⟨λ{a b}=>⟨λh=>have q2:=List.cons.inj (aN Key.ns h);Prod.ext (Int.ofNat_inj.mp q2.1) (Int.ofNat_inj.mp (List.cons.inj q2.2).1),aN _⟩,λu1=>rfl,λu1=>rfl,λu1 u2=>rfl⟩
section
variable {κ:Type} {kf:κ->Key} {kd:κ->D} {l:List κ} {k:κ}
theorem KK.sames (K:KK kf kd):(l.map kf).all (sameKind (kf k))=true:=List.all_eq_true.mpr λq m=>xea (aJ.mp m) λa ha e=>e▸K.same k a
theorem KK.mem (K:KK kf kd):kf k∈l.map kf↔k∈l:=⟨λm=>xea (aJ.mp m) λa ha e=>K.inj.mp e▸ha,λm=>List.mem_map_of_mem m⟩
theorem KK.has (K:KK kf kd) [DecidableEq κ]:(l.map kf).contains (kf k)=decide (k∈l):=by
 rw [← List.elem_eq_contains,List.elem_eq_mem];exact decide_eq_decide.mpr K.mem
end
section
variable {κ α β:Type} [DecidableEq κ]
noncomputable def gA (s:List (κ×α)) (k:κ):Option α:=match s with
 | []=>none
 | p::r=>if p.1=k then some p.2 else gA r k
noncomputable def sA (s:List (κ×α)) (k:κ) (v:α):List (κ×α):=match s with
 | []=>[(k,v)]
 | p::r=>if p.1=k then (p.1,v)::r else p::sA r k v
noncomputable def dA (s:List (κ×α)) (k:κ):List (κ×α):=match s with
 | []=>[]
 | p::r=>if p.1=k then r else p::dA r k
variable {s:List (κ×α)} {p:κ×α} {k j:κ} {v:α}
theorem gA_c:gA (p::s) k=if p.1=k then some p.2 else gA s k:=rfl
theorem sA_c:sA (p::s) k v=if p.1=k then (p.1,v)::s else p::sA s k v:=rfl
theorem dA_c:dA (p::s) k=if p.1=k then s else p::dA s k:=rfl
theorem gA_sA:gA (sA s k v) j=if k=j then some v else gA s j:=by
 induction s with
 | nil=>rfl
 | cons p r ih=>
  rw [sA_c,gA_c]
  by_cases h:p.1=k
  ·subst h
   rw [aQ rfl,gA_c]
   by_cases e:p.1=j
   ·rw [aQ e,aQ e]
   ·rw [aP e,aP e,aP e]
  ·rw [aP h,gA_c,ih]
   by_cases e:p.1=j
   ·subst e;rw [aQ rfl,aQ rfl,aP λz=>h z.symm]
   ·rw [aP e,aP e]
theorem keys_sA:(sA s k v).map (·.1)=if k∈s.map (·.1) then s.map (·.1) else s.map (·.1)++[k]:=by
 induction s with
 | nil=>exact (aP aA).symm
 | cons p r ih=>
  rw [sA_c,List.map_cons]
  by_cases h:p.1=k
  ·rw [aQ h,aQ (h▸.head _)];rfl
  ·rw [aP h,List.map_cons,ih]
   by_cases z:k∈r.map (·.1)
   ·rw [aQ z,aQ (.tail _ z)]
   ·rw [aP z,aP λy=>(aG.mp y).elim (λe=>h e.symm) z];rfl
theorem gA_none:gA s k=none↔k∉s.map (·.1):=by
 induction s with
 | nil=>exact ⟨λu1=>aA,λu1=>rfl⟩
 | cons p r ih=>
  rw [gA_c]
  by_cases h:p.1=k
  ·rw [aQ h];exact ⟨nofun,λz=>absurd (h▸.head _) z⟩
  ·rw [aP h,ih];exact ⟨λz y=>(aG.mp y).elim (λe=>h e.symm) z,λz y=>z (.tail _ y)⟩
theorem gA_mem (h:gA s k=some v):(k,v)∈s:=by
 induction s with
 | nil=>exact noS h
 | cons p r ih=>
  rw [gA_c] at h
  by_cases e:p.1=k
  ·rw [aQ e] at h;cases h;cases e;exact .head _
  ·rw [aP e] at h;exact .tail _ (ih h)
theorem gA_key (h:gA s k=some v):k∈s.map (·.1):=List.mem_map_of_mem (f:=(·.1)) (gA_mem h)
theorem gA_some (h:k∈s.map (·.1)):∃ v,gA s k=some v:=by
 cases q:gA s k with
 | none=>exact absurd h (gA_none.mp q)
 | some v=>exact ⟨v,rfl⟩
theorem gA_snoc (h:k∉s.map (·.1)):gA (s++[(k,v)]) j=if k=j then some v else gA s j:=by
 induction s with
 | nil=>rfl
 | cons p r ih=>
  rw [List.cons_append,gA_c,gA_c,ih λz=>h (.tail _ z)]
  by_cases e:p.1=j
  ·rw [aQ e,aQ e,aP λ(z:k=j)=>h (e.trans z.symm▸.head _)]
  ·rw [aP e,aP e]
theorem gA_of_mem (nd:(s.map (·.1)).Nodup) (h:(k,v)∈s):gA s k=some v:=by
 induction s with
 | nil=>cases h
 | cons p r ih=>
  have nd:=List.nodup_cons.mp nd
  rw [gA_c]
  rcases aG.mp h with e | h
  ·subst e;exact aQ rfl
  ·exact (aP λ(e:p.1=k)=>nd.1 (by show p.1∈_;rw [e];exact List.mem_map_of_mem (f:=(·.1)) h)).trans (ih nd.2 h)
theorem len_sA:(sA s k v).length<=s.length+1:=by
 induction s with
 | nil=>exact Nat.le_refl _
 | cons p r ih=>
  rw [sA_c]
  by_cases e:p.1=k
  ·rw [aQ e];exact Nat.le_succ _
  ·rw [aP e];exact Nat.succ_le_succ ih
theorem sA_new (h:k∉s.map (·.1)):sA s k v=s++[(k,v)]:=by
 induction s with
 | nil=>rfl
 | cons p r ih=>rw [sA_c,aP λ(e:p.1=k)=>h (e▸.head _),ih λz=>h (.tail _ z)];rfl
noncomputable abbrev kL (kf:κ->Key) (s:List (κ×α)):List Key:=s.map λp=>kf p.1
variable {kf:κ->Key} {kd:κ->D} (K:KK kf kd) {f:α->β}
include K
theorem idx_c:idxK (kL kf (p::s)) (kf k)=if p.1=k then some 0 else (idxK (kL kf s) (kf k)).map (·+1):=by
 show (kf p.1::kL kf s).findIdx? _=_
 rw [List.findIdx?_cons]
 by_cases e:p.1=k
 ·rw [aQ e,aF (aN kf e)];rfl
 ·rw [aP e,decide_eq_false λz=>e (K.inj.mp z)];rfl
theorem gK:getK (kL kf s) (s.map λp=>f p.2) (kf k)=(gA s k).map f:=by
 induction s with
 | nil=>rfl
 | cons p r ih=>
  unfold getK at ih ⊢
  rw [idx_c K,gA_c]
  by_cases e:p.1=k
  ·rw [aQ e,aQ e];rfl
  ·rw [aP e,aP e,← ih]
   cases idxK (kL kf r) (kf k) <;> rfl
theorem sK:setK (kL kf s) (s.map λp=>f p.2) (kf k) (f v)=(kL kf (sA s k v),(sA s k v).map λp=>f p.2):=by
 induction s with
 | nil=>rfl
 | cons p r ih=>
  unfold setK at ih ⊢
  rw [idx_c K,sA_c]
  by_cases e:p.1=k
  ·rw [aQ e,aQ e];rfl
  ·rw [aP e,aP e]
   cases q:idxK (kL kf r) (kf k) <;> rw [q] at ih <;> exact Prod.ext (aN (λq:List Key×List β=>kf p.1::q.1) ih) (aN (λq:List Key×List β=>f p.2::q.2) ih)
theorem dK:delK (kL kf s) (s.map λp=>f p.2) (kf k)=(kL kf (dA s k),(dA s k).map λp=>f p.2):=by
 induction s with
 | nil=>rfl
 | cons p r ih=>
  unfold delK at ih ⊢
  rw [idx_c K,dA_c]
  by_cases e:p.1=k
  ·rw [aQ e,aQ e];rfl
  ·rw [aP e,aP e]
   cases q:idxK (kL kf r) (kf k) <;> rw [q] at ih <;> exact Prod.ext (aN (λq:List Key×List β=>kf p.1::q.1) ih) (aN (λq:List Key×List β=>f p.2::q.2) ih)
theorem kSame:(kL kf s).all (sameKind (kf k))=true:=List.all_eq_true.mpr λq m=>xea (aJ.mp m) λa ha e=>e▸K.same k a.1
theorem kHas:(kL kf s).contains (kf k)=decide (k∈s.map (·.1)):=(aN (List.contains · (kf k)) aK.symm).trans K.has
end
section
variable {α β:Type} {f:α->D} {g:α->V} {l:List α} {x:α} {i j:Nat} {H:Hp} {p:Pat} {v:V} {os:List O} {o:O}
noncomputable def lO (g:α->V) (l:List α):O:=.list (l.map g)
theorem sm_t {n:Nat} (h:n < 60):small n=true:=aF h
theorem smm {f:α->β} (h:l.length < 60):small (l.map f).length=true:=sm_t (by rw [aB];exact h)
theorem smI {n:Nat} (h:n < 60):smallI (n:Int)=true:=ba (aF (Int.natCast_nonneg n)) (aF (Int.ofNat_lt.mpr h))
theorem allM_map {γ:Type} {f:α->β} {q:β->Option γ} {r:α->γ} (h:∀ x,q (f x)=some (r x)):allM q (l.map f)=some (l.map r):=by
 induction l with
 | nil=>rfl
 | cons x l ih=>exact bI (h x) (mI ih)
theorem alls_d:alls (l.map λx=>.d (f x))=some (l.map f):=allM_map λu1=>rfl
theorem kindL (h:H.o[j]?=some (lO g l)):kindV (.ref j) H=some false:=bI h rfl
theorem idx_of {γ:Type} {xs:List γ} {y:γ} (h:xs[i]?=some y) (b:i < 1000):idxL xs (nD i)=some y:=
 (wh_t (ba (aF (Int.natCast_nonneg i)) (aF (Int.ofNat_lt.mpr b)))).trans h
theorem get_map {f:α->β} (h:l[i]?=some x):(l.map f)[i]?=some (f x):=by rw [List.getElem?_map,h];rfl
theorem item_lO (h:H.o[j]?=some (lO g l)) (e:l[i]?=some x) (b:i < 1000):itemV (.ref j) (.d (nD i)) H=some (g x):=bI rfl (bI h (idx_of (get_map e) b))
theorem item_lD (e:l[i]?=some x) (b:i < 1000):itemV (.d (.list (l.map f))) (.d (nD i)) H=some (.d (f x)):=bI rfl (mI (idx_of (get_map e) b))
theorem set_lO (h:H.o[j]?=some (lO g l)) (e:i < l.length) (b:i < 1000):setItemV (.ref j) (.d (nD i)) (g x) H=some (H.put j (lO g (l.set i x))):=by
 refine bI rfl (bI rfl (bI h (mI ((wh_t (ba (ba (aF (Int.natCast_nonneg i)) (aF (Int.ofNat_lt.mpr b))) (aF ?_))).trans ?_))))
 ·rw [aB];exact e
 ·unfold lO;rw [List.map_set];rfl
theorem lsA (h:H.o[j]?=some (lO g l)):lsAt (.ref j) H=some (j,l.map g):=bI rfl (bI h rfl)
theorem app_lO (h:H.o[j]?=some (lO g l)) (s:l.length < 60):bmethV .append (.ref j) [g x] H=some (.d .none,H.put j (lO g (l++[x]))):=
 bI (lsA h) ((wh_t (smm s)).trans (by unfold lO;rw [aC];rfl))
theorem pop_lO (h:H.o[j]?=some (lO g (l++[x]))) (s:l.length < 59):bmethV .pop (.ref j) [] H=some (g x,H.put j (lO g l)):=
 bI (lsA h) ((wh_t (smm (by rw [aq];exact Nat.succ_lt_succ s))).trans (by
  rw [aC]
  show ((l.map g++[g x]).getLast?).map (λw=>(w,H.put j (.list (l.map g++[g x]).dropLast)))=_
  rw [List.getLast?_concat,List.dropLast_concat];rfl))
theorem it_lD:itemsOf false p (.d (.list (l.map f))) H=some (l.map λx=>.d (f x),false):=by
 show some ((l.map f).map V.d,false)=_
 rw [aK];rfl
theorem rangeD_nat (n:Nat):rangeD (n:Int)=(List.range n).map nD:=rfl
theorem it_range {n:Nat} (hn:n < 60):itemsOf false p (.d (.range (n:Int))) H=some ((List.range n).map λi=>.d (nD i),false):=by
 refine (wh_t (smI hn)).trans ?_
 rw [rangeD_nat,aK];rfl
theorem frz_d:freezes (l.map λx=>.d (f x)) H=some (l.map f,H):=by
 induction l with
 | nil=>rfl
 | cons a l ih=>exact mI ih
theorem freeze_lO (h:H.o[j]?=some (lO (λx=>.d (f x)) l)):freeze (.ref j) H=some (.list (l.map f),⟨H.o.set j .dead,H.w+1⟩):=bI h (mI frz_d)
theorem peek_lO (h:H.o[j]?=some (lO (λx=>.d (f x)) l)):peek (.ref j) H=some (.list (l.map f)):=bI h (mI alls_d)
theorem ne_lO [DecidableEq α] {k:Nat} (r:Rep f k) (hk:k < 64) (h:H.o[j]?=some (lO (λx=>.d (f x)) l)):cmpV .ne (.ref j) (.d (.list [])) H=some (decide (l≠[])):=by
 refine (mI (bI (peek_lO h) (show eqD (.list (l.map f)) (.list (([]:List α).map f))=_ from (rep_list r).eqD hk l []))).trans ?_
 exact aN some decide_not.symm
theorem len_lD (s:l.length < 1000):bcallV .len [.d (.list (l.map f))] H=some (.d (nD l.length)):=mI (by
 show wh (decide ((l.map f).length < 1000)) (some (l.map f).length)=_
 rw [aB];exact wh_t (aF s))
theorem len_lO (h:H.o[j]?=some (lO g l)) (s:l.length < 1000):bcallV .len [.ref j] H=some (.d (nD l.length)):=mI (bI h (by
 show wh (decide ((l.map g).length < 1000)) (some (l.map g).length)=_
 rw [aB];exact wh_t (aF s)))
theorem cmp_eqD [DecidableEq α] {k:Nat} (r:Rep f k) (hk:k<=64) {a b:α} (nd:∀ a,(f a).dd=none):cmpV .eq (.d (f a)) (.d (f b)) H=some (decide (a=b)):=by
 refine Eq.trans ?_ (r.eqD hk a b)
 show eqDD (f a) (f b)=_
 have:=nd a
 cases q:f a with
 | dict=>rw [q] at this;cases this
 | _=>rfl
theorem set_gt {γ:Type} {l:List γ} {i j:Nat} {x:γ} (h:i≠j):(l.set i x)[j]?=l[j]?:=by rw [List.getElem?_set,aP h]
theorem at_end:(os++[o])[os.length]?=some o:=by rw [List.getElem?_append_right (Nat.le_refl _),Nat.sub_self];rfl
theorem at_low (h:i < os.length) {r:List O}:(os++r)[i]?=os[i]?:=List.getElem?_append_left h
theorem set_end {y:O}:(os++[o]).set os.length y=os++[y]:=by rw [List.set_append_right _ _ (Nat.le_refl _),Nat.sub_self];rfl
theorem lt_of {γ:Type} {l:List γ} {i:Nat} {x:γ} (h:l[i]?=some x):i < l.length:=(aa.mp h).1
end
section
variable {κ α:Type} [DecidableEq κ] {kf:κ->Key} {kd:κ->D} {f:α->V} {g:α->D} {s:List (κ×α)} {k:κ} {x:α} {v:V} {H:Hp} {j:Nat} {p:Pat}
noncomputable def dO (kf:κ->Key) (f:α->V) (s:List (κ×α)):O:=.dict (kL kf s) (s.map λp=>f p.2)
noncomputable def dD (kf:κ->Key) (g:α->D) (s:List (κ×α)):D:=.dict (kL kf s) (s.map λp=>g p.2)
theorem kindDO (h:H.o[j]?=some (dO kf f s)):kindV (.ref j) H=some true:=bI h rfl
variable (K:KK kf kd)
include K
theorem in_dO (h:H.o[j]?=some (dO kf f s)):inV (.d (kd k)) (.ref j) H=some (decide (k∈s.map (·.1))):=bI rfl (bI h (bI (K.key k) ((wh_t (kSame K)).trans (aN some (kHas K)))))
theorem item_dO (h:H.o[j]?=some (dO kf f s)) (e:gA s k=some x):itemV (.ref j) (.d (kd k)) H=some (f x):=bI rfl (bI h (bI (K.key k) ((wh_t (kSame K)).trans ((gK K).trans (mI e)))))
theorem item_dD (e:gA s k=some x):itemV (.d (dD kf g s)) (.d (kd k)) H=some (.d (g x)):=bI rfl (mI (bI (K.key k) ((wh_t (kSame K)).trans ((gK K).trans (mI e)))))
theorem set_dO (h:H.o[j]?=some (dO kf f s)) (l:s.length < 60):setItemV (.ref j) (.d (kd k)) (f x) H=some (H.put j (dO kf f (sA s k x))):=by
 refine bI rfl (bI rfl (bI h (mI (bI (K.key k) ((wh_t (ba (kSame K) (smm l))).trans ?_)))))
 rw [sK K];rfl
theorem get_dO (h:H.o[j]?=some (dO kf f s)):bmethV .get (.ref j) [.d (kd k),v] H=some (((gA s k).map f).getD v,H):=
 bI (a:=(kL kf s,s.map λp=>f p.2)) (bI h rfl) (bI (K.key k) ((wh_t (kSame K)).trans (aN (λz=>some (Option.getD z v,H)) (gK K))))
theorem get_dD:bmethV .get (.d (dD kf g s)) [.d (kd k),v] H=some (((gA s k).map λx=>.d (g x)).getD v,H):=
 bI (K.key k) ((wh_t (kSame K)).trans (by
  show some ((getK (kL kf s) ((s.map λp=>g p.2).map V.d) (kf k)).getD v,H)=_
  rw [aK];exact aN (λz=>some (Option.getD z v,H)) (gK K (f:=λx=>V.d (g x)))))
theorem keysD:(kL kf s).map keyD=(s.map (·.1)).map kd:=by
 rw [aK,aK]
 exact List.map_congr_left λp u1=>K.back p.1
theorem keysV:((kL kf s).map λk=>V.d (keyD k))=(s.map (·.1)).map λk=>.d (kd k):=by
 rw [aK,aK]
 exact List.map_congr_left λp u1=>aN V.d (K.back p.1)
theorem it_dO (h:H.o[j]?=some (dO kf f s)):itemsOf false p (.ref j) H=some ((s.map (·.1)).map λk=>.d (kd k),true):=bI h (aN (λz=>some (z,true)) (keysV K))
theorem it_dD:itemsOf false p (.d (dD kf g s)) H=some ((s.map (·.1)).map λk=>.d (kd k),false):=aN (λz=>some (z,false)) (keysV K)
end
theorem pop_dO {α:Type} {f:α->V} {s:List (Nat×α)} {H:Hp} {j k:Nat} {x:α} (h:H.o[j]?=some (dO nK f s)) (hl:s.length < 60) (e:gA s k=some x):bmethV .pop (.ref j) [.d (nD k)] H=some (f x,H.put j (dO nK f (dA s k))):=by
 refine bI (a:=(j,kL nK s,s.map λp=>f p.2)) (bI rfl (bI h rfl)) ((wh_t (ba (kSame kN (k:=k)) (smm hl))).trans ((mI ((gK kN).trans (mI e))).trans ?_))
 show some (f x,H.put j (.dict (delK (kL nK s) (s.map λp=>f p.2) (nK k)).1 (delK (kL nK s) (s.map λp=>f p.2) (nK k)).2))=_
 rw [dK kN];rfl
noncomputable def mkO (l:List Nat):O:=dO nK (λb=>.d (.bool b)) (l.map λx=>(x,true))
noncomputable abbrev lsO (l:List Nat):O:=lO (λx=>.d (nD x)) l
section
variable {l:List Nat} {x j:Nat} {H:Hp}
theorem mk_keys:(l.map λx=>(x,true)).map (·.1)=l:=by rw [aK];exact List.map_id' l
theorem in_mk (h:H.o[j]?=some (mkO l)):inV (.d (nD x)) (.ref j) H=some (decide (x∈l)):=(in_dO kN h).trans (by rw [mk_keys])
theorem set_mk (h:H.o[j]?=some (mkO l)) (s:l.length < 60) (n:x∉l):setItemV (.ref j) (.d (nD x)) (.d (.bool true)) H=some (H.put j (mkO (l++[x]))):=(set_dO kN h (x:=true) (by rw [aB];exact s)).trans (by
 unfold mkO;rw [sA_new (by rw [mk_keys];exact n),aC];rfl)
end
section
variable {α:Type} {s:List (Nat×List α)} {k i v j w n:Nat} {x:α} {g:α->D} {pre:List O} {Φ:Fns} {vs:Vars} {ek ex:X}
noncomputable def addA (s:List (Nat×List α)) (k:Nat) (x:α):List (Nat×List α):=sA s k ((gA s k).getD []++[x])
noncomputable def refs (j n:Nat):List V:=(List.range' j n).map V.ref
noncomputable def dlO (j:Nat) (g:α->D) (s:List (Nat×List α)):List O:=.dict (kL nK s) (refs (j+1) s.length)::s.map λp=>lO (λx=>.d (g x)) p.2
theorem set_same {β:Type} {l:List β} {i:Nat} {x:β} (h:l[i]?=some x):l.set i x=l:=xe (aa.mp h) λq e=>e▸List.set_getElem_self q
theorem addA_at:∀ {i},idxK (kL nK s) (nK k)=some i->∃ l,s[i]?=some (k,l)/\addA s k x=s.set i (k,l++[x]):=by
 unfold addA
 induction s with
 | nil=>exact nofun
 | cons p r ih=>
  intro i h
  rw [idx_c kN] at h
  rw [gA_c]
  by_cases e:p.1=k
  ·rw [aQ e] at h ⊢
   cases h
   cases e
   exact ⟨p.2,rfl,(sA_c).trans (aQ rfl)⟩
  ·rw [aP e] at h ⊢
   refine xea (ai.mp h) λi' h1 h2=>?_
   cases h2
   exact xea (ih h1) λl h3 h4=>⟨l,h3,sA_c.trans ((aP e).trans (aN (p::·) h4))⟩
theorem addA_new (h:idxK (kL nK s) (nK k)=none):addA s k x=s++[(k,[x])]:=by
 have nk:k∉s.map (·.1):=λm=>by
  have:=List.findIdx?_eq_none_iff.mp h (nK k) (aJ.mpr (xea (aJ.mp m) λp hp e=>⟨p,hp,aN nK e⟩))
  rw [decide_eq_false_iff_not] at this
  exact this rfl
 unfold addA
 rw [gA_none.mpr nk,sA_new nk];rfl
theorem get_app {β:Type} {l r:List β} {i:Nat}:(l++r)[l.length+i]?=r[i]?:=by rw [List.getElem?_append_right (Nat.le_add_right _ _),Nat.add_sub_cancel_left]
theorem set_app {β:Type} {l r:List β} {i:Nat} {x:β}:(l++r).set (l.length+i) x=l++r.set i x:=by rw [List.set_append_right _ _ (Nat.le_add_right _ _),Nat.add_sub_cancel_left]
theorem refs_at (h:i < n):(refs j n)[i]?=some (.ref (j+i)):=get_map (by rw [List.getElem?_range' h,Nat.one_mul])
theorem refs_snoc:refs j (n+1)=refs j n++[.ref (j+n)]:=by
 unfold refs
 rw [List.range'_concat,aC,Nat.one_mul];rfl
theorem eval_setdef (hv:(vs[n]?).join=some (.ref pre.length)) (h1:∀ h,evalX Φ ek vs h=some (.d (nD k),h)) (h2:∀ h,evalX Φ ex vs h=some (.d (g x),h)) (hs:s.length < 60) (hl:∀ p∈s,p.2.length < 60) :
  ∃ w',evalX Φ (.bmeth .append (.setdef (.var n) ek) [ex]) vs ⟨pre++dlO pre.length g s,w⟩=some (.d .none,⟨pre++dlO pre.length g (addA s k x),w'⟩):=by
 have g0:(pre++dlO pre.length g s)[pre.length]?=some (.dict (kL nK s) (refs (pre.length+1) s.length)):=get_app (i:=0)
 have sd:evalX Φ (.setdef (.var n) ek) vs ⟨pre++dlO pre.length g s,w⟩=_:=bI (mI hv) (bI (bI g0 rfl) (bI (h1 _) (bI (a:=(pre.length,kL nK s,refs (pre.length+1) s.length)) (bI rfl (bI g0 rfl)) (bI rfl (bI rfl (wh_t (ba (kSame kN (k:=k)) (smm hs))))))))
 have key:∀ {H:Hp} {j:Nat} {l:List α} {r:Hp},evalX Φ (.setdef (.var n) ek) vs ⟨pre++dlO pre.length g s,w⟩=some (.ref j,H)->H.o[j]?=some (lO (λx=>.d (g x)) l)->l.length < 60->H.put j (lO (λx=>.d (g x)) (l++[x]))=r->evalX Φ (.bmeth .append (.setdef (.var n) ek) [ex]) vs ⟨pre++dlO pre.length g s,w⟩=some (.d .none,r):=λe q l z=>e_bmeth e (kindL q) (e_1 (h2 _)) rfl (kindL q) ((app_lO q l).trans (by rw [z]))
 cases hi:idxK (kL nK s) (nK k) with
 | some i=>
  refine xea (addA_at (x:=x) hi) λl e1 e2=>?_
  have gk:getK (kL nK s) (refs (pre.length+1) s.length) (nK k)=some (.ref (pre.length+(i+1))):=bI hi ((refs_at (lt_of e1)).trans (by rw [Nat.add_assoc,Nat.add_comm 1 i]))
  rw [show getK _ _ (Key.i (k:Int))=_ from gk] at sd
  refine ⟨_,key (l:=l) sd ?_ (hl _ (List.mem_of_getElem? e1)) (aN (λo=>(⟨o,w+1⟩:Hp)) ?_)⟩
  ·exact get_app.trans (by show (s.map _)[i]?=_;rw [List.getElem?_map,e1];rfl)
  ·refine set_app.trans (aN (pre++·) ?_)
   show O.dict _ _::(s.map _).set i _=O.dict (kL nK _) (refs _ _)::_
   rw [e2,List.length_set,List.map_set,show kL nK (s.set i (k,l++[x]))=kL nK s from List.map_set.trans (set_same (x:=nK k) (get_map (f:=λp:Nat×List α=>nK p.1) e1))]
 | none=>
  have e2:=addA_new (x:=x) hi
  rw [show getK _ _ (Key.i (k:Int))=_ from (aN (Option.bind · _) hi)] at sd
  have hd:(pre++dlO pre.length g s).length=pre.length+(s.length+1):=by rw [aq];exact aN (pre.length+·) (aN (·+1) (aB _))
  have e3:(pre++dlO pre.length g s).set pre.length (.dict (kL nK s++[nK k]) (refs (pre.length+1) s.length++[.ref (pre.length+(s.length+1))]))++[lO (λx=>.d (g x)) []]=pre++(.dict (kL nK (s++[(k,[x])])) (refs (pre.length+1) (s.length+1))::(s.map λp=>lO (λx=>.d (g x)) p.2)++[lO (λx=>.d (g x)) []]):=by
   refine (aN (·++_) (set_app (i:=0))).trans ?_
   rw [ax,refs_snoc,show kL nK (s++[(k,[x])])=kL nK s++[nK k] from aC,Nat.add_comm s.length 1,← Nat.add_assoc];rfl
  have sd2:=sd.trans (show some (V.ref (pre++dlO pre.length g s).length,(⟨(pre++dlO pre.length g s).set pre.length (.dict (kL nK s++[nK k]) (refs (pre.length+1) s.length++[.ref (pre++dlO pre.length g s).length]))++[lO (λx=>.d (g x)) []],w+1⟩:Hp))=some (V.ref (pre.length+(s.length+1)),(⟨pre++(.dict (kL nK (s++[(k,[x])])) (refs (pre.length+1) (s.length+1))::(s.map λp=>lO (λx=>.d (g x)) p.2)++[lO (λx=>.d (g x)) []]),w+1⟩:Hp)) from by rw [hd,e3])
  refine ⟨_,key (l:=[]) sd2 ?_ (Nat.succ_pos 59) (aN (λo=>(⟨o,w+1+1⟩:Hp)) ?_)⟩
  ·refine get_app.trans ?_
   show (s.map _++_)[s.length]?=_
   rw [List.getElem?_append_right (by rw [aB];exact Nat.le_refl _),aB,Nat.sub_self];rfl
  ·refine set_app.trans (aN (pre++·) ?_)
   rw [e2]
   show _::(s.map _++_).set s.length _=_::(s++[(k,[x])]).map _
   rw [List.set_append_right _ _ (by rw [aB];exact Nat.le_refl _),aB,Nat.sub_self,aC,aq];rfl
theorem freezes_lists:∀ {a:Nat} {h:Hp},(∀ i p,s[i]?=some p->h.o[a+i]?=some (lO (λx=>.d (g x)) p.2))->∃ h',freezes (refs a s.length) h=some (s.map (λp=>.list (p.2.map g)),h')/\∀ i,i < a->h'.o[i]?=h.o[i]?:=by
 induction s with
 | nil=>exact λu1=>⟨_,rfl,λu1 u2=>rfl⟩
 | cons p s ih=>
  intro a h k
  refine xea (ih (a:=a+1) (h:=⟨h.o.set a .dead,h.w+1⟩) λi q hq=>(set_gt (Nat.ne_of_lt (av (Nat.lt_succ_self a) (Nat.le_add_right _ _)))).trans ((aN (λz=>h.o[z]?) (Nat.add_assoc a 1 i |>.trans (aN (a+·) (Nat.add_comm 1 i)))).trans (k (i+1) q hq))) λh' e e2=>⟨h',?_,λi hi=>(e2 i (Nat.lt_succ_of_lt hi)).trans (set_gt (Nat.ne_of_gt hi))⟩
  exact bI (a:=(.list (p.2.map g),⟨h.o.set a .dead,h.w+1⟩)) (bI (k 0 p rfl) (bI rfl (mI alls_d))) (mI e)
end
abbrev Sd:=List (Nat×List End)
noncomputable def endsD (l:List End):D:=.list (l.map endD)
noncomputable def sidesD (s:Sd):D:=dD nK endsD s
noncomputable def sStep (s:Sd) (q:Row×Nat):Sd:=addA (addA s q.1.1.1 (q.2,q.1.2.1)) q.1.2.1 (q.2,q.1.1.1)
noncomputable def sidesL (l:List (Row×Nat)):Sd:=l.foldl sStep []
noncomputable def sides (web:List Row):Sd:=sidesL web.zipIdx
theorem sidesL_snoc {l:List (Row×Nat)} {q:Row×Nat}:sidesL (l++[q])=sStep (sidesL l) q:=List.foldl_append
theorem snoc_ind {α:Type} {P:List α->Prop} (h0:P []) (h1:∀ l a,P l->P (l++[a])) (l:List α):P l:=by
 have:P l.reverse.reverse:=by
  generalize l.reverse=r
  induction r with
  | nil=>exact h0
  | cons a r ih=>rw [List.reverse_cons];exact h1 _ _ ih
 rwa [List.reverse_reverse] at this
structure Bnd {α:Type} (n:Nat) (s:List (Nat×List α)):Prop where
 len:s.length<=n
 at_:∀ p∈s,p.2.length<=n
theorem mem_sA {κ α:Type} [DecidableEq κ] {s:List (κ×α)} {k:κ} {v:α} {p:κ×α} (h:p∈sA s k v):p=(k,v)\/p∈s:=by
 induction s with
 | nil=>exact .inl (ao.mp h)
 | cons q r ih=>
  rw [sA_c] at h
  by_cases e:q.1=k
  ·rw [aQ e] at h
   exact (aG.mp h).imp (λz=>e▸z) (.tail _)
  ·rw [aP e] at h
   exact (aG.mp h).elim (λz=>.inr (z▸.head _)) λz=>(ih z).imp id (.tail _)
theorem Bnd.add {α:Type} {n:Nat} {s:List (Nat×List α)} {k:Nat} {x:α} (h:Bnd n s):Bnd (n+1) (addA s k x):=
 ⟨aI len_sA (Nat.succ_le_succ h.len),λp m=>(mem_sA m).elim (λe=>by
  subst e
  show ((gA s k).getD []++[x]).length<=n+1
  rw [aq]
  refine Nat.succ_le_succ ?_
  cases q:gA s k with
  | none=>exact Nat.zero_le _
  | some l=>exact h.at_ _ (gA_mem q)) λm=>Nat.le_succ_of_le (h.at_ p m)⟩
theorem bnd_sides {l:List (Row×Nat)}:Bnd (2 * l.length) (sidesL l):=by
 induction l using snoc_ind with
 | h0=>exact ⟨Nat.zero_le _,nofun⟩
 | h1 l a ih=>rw [sidesL_snoc,aq];exact ih.add.add
noncomputable def Jn (r:Row) (a b:Nat):Prop:=(r.1.1=a/\r.2.1=b)\/(r.2.1=a/\r.1.1=b)
noncomputable def Adj (web:List Row) (a b:Nat):Prop:=∃ r∈web,Jn r a b
noncomputable def Joins (web:List Row) (i a b:Nat):Prop:=∃ r,web[i]?=some r/\Jn r a b
inductive Conn (web:List Row) (a:Nat):Nat->Prop
 | refl:Conn web a a
 | step {b c:Nat}:Conn web a b->Adj web b c->Conn web a c
section
variable {web:List Row} {a b c n:Nat} {s:Sd} {k v i o:Nat} {x:End}
theorem Jn.symm {r:Row} (h:Jn r a b):Jn r b a:=(Or.symm h).imp And.symm And.symm
theorem Adj.symm (h:Adj web a b):Adj web b a:=xea h λr m h=>⟨r,m,h.symm⟩
theorem Joins.adj {i:Nat} (h:Joins web i a b):Adj web a b:=xea h λr m h=>⟨r,List.mem_of_getElem? m,h⟩
theorem Joins.symm {i:Nat} (h:Joins web i a b):Joins web i b a:=xea h λr m h=>⟨r,m,h.symm⟩
theorem Conn.trans (h:Conn web a b) (k:Conn web b c):Conn web a c:=by
 induction k with
 | refl=>exact h
 | step u1 q ih=>exact ih.step q
theorem Conn.symm (h:Conn web a b):Conn web b a:=by
 induction h with
 | refl=>exact .refl
 | step u1 q ih=>exact (Conn.refl.step q.symm).trans ih
theorem Conn.closed {P:Nat->Prop} (h:Conn web a b) (ha:P a) (k:∀ x y,P x->Adj web x y->P y):P b:=by
 induction h with
 | refl=>exact ha
 | step u1 q ih=>exact k _ _ ih q
theorem nd_snoc {α:Type} {l:List α} {x:α} (nd:l.Nodup) (h:x∉l):(l++[x]).Nodup:=az.mpr ⟨nd,List.nodup_cons.mpr ⟨aA,.nil⟩,λa ha b hb e=>h (ao.mp hb▸e▸ha)⟩
noncomputable def sAt (s:Sd) (v:Nat):List End:=(gA s v).getD []
theorem mem_addA {p:End}:p∈sAt (addA s k x) v↔p∈sAt s v\/k=v/\p=x:=by
 unfold sAt addA
 rw [gA_sA]
 by_cases e:k=v
 ·rw [aQ e,e]
  exact aD.trans (or_congr_right (ao.trans ⟨λh=>⟨rfl,h⟩,And.right⟩))
 ·rw [aP e];exact ⟨.inl,λh=>h.elim id λh=>absurd h.1 e⟩
theorem keys_addA {α:Type} {s:List (Nat×List α)} {k v:Nat} {x:α} (nd:(s.map (·.1)).Nodup):((addA s k x).map (·.1)).Nodup/\(v∈(addA s k x).map (·.1)↔v∈s.map (·.1)\/v=k):=by
 unfold addA
 rw [keys_sA]
 by_cases h:k∈s.map (·.1)
 ·rw [aQ h]
  exact ⟨nd,.inl,λz=>z.elim id λe=>e▸h⟩
 ·rw [aP h]
  exact ⟨nd_snoc nd h,aD.trans (or_congr_right ao)⟩
theorem mem_sidesL {l:List (Row×Nat)}:(i,o)∈sAt (sidesL l) v↔∃ r,(r,i)∈l/\Jn r v o:=by
 induction l using snoc_ind with
 | h0=>exact ⟨nofun,λh=>xea h λr m u1=>nomatch m⟩
 | h1 l q ih=>
  rw [sidesL_snoc]
  show _∈sAt (addA (addA _ _ _) _ _) v↔_
  rw [mem_addA,mem_addA,ih]
  constructor
  ·rintro ((h | ⟨rfl,h⟩) | ⟨rfl,h⟩)
   ·exact xea h λr m j=>⟨r,ak _ m,j⟩
   ·cases h;exact ⟨q.1,aj _ (.head _),.inl ⟨rfl,rfl⟩⟩
   ·cases h;exact ⟨q.1,aj _ (.head _),.inr ⟨rfl,rfl⟩⟩
  ·refine λh=>xea h λr m j=>(aD.mp m).elim (λm=>.inl (.inl ⟨r,m,j⟩)) λm=>?_
   cases ao.mp m
   exact j.elim (λj=>.inl (.inr ⟨j.1,j.2▸rfl⟩)) λj=>.inr ⟨j.1,j.2▸rfl⟩
theorem mem_sAt:(i,o)∈sAt (sides web) v↔Joins web i v o:=mem_sidesL.trans ⟨λh=>xea h λr m j=>⟨r,List.mem_zipIdx_iff_getElem?.mp m,j⟩,λh=>xea h λr m j=>⟨r,List.mem_zipIdx_iff_getElem?.mpr m,j⟩⟩
theorem adj_joins (h:Adj web v o):∃ i,Joins web i v o:=xea h λr m j=>xe (List.mem_iff_getElem?.mp m) λi e=>⟨i,r,e,j⟩
theorem keys_sides {l:List (Row×Nat)}:((sidesL l).map (·.1)).Nodup/\(v∈(sidesL l).map (·.1)↔∃ o r i,(r,i)∈l/\Jn r v o):=by
 induction l using snoc_ind with
 | h0=>exact ⟨.nil,nofun,λh=>xeeea h λo r i m u1=>nomatch m⟩
 | h1 l q ih=>
  rw [sidesL_snoc]
  have h1:=keys_addA (v:=v) (k:=q.1.1.1) (x:=(q.2,q.1.2.1)) ih.1
  have h2:=keys_addA (v:=v) (k:=q.1.2.1) (x:=(q.2,q.1.1.1)) h1.1
  refine ⟨h2.1,h2.2.trans ?_⟩
  rw [h1.2,ih.2]
  constructor
  ·rintro ((h | rfl) | rfl)
   ·exact xeeea h λo r i m j=>⟨o,r,i,ak _ m,j⟩
   ·exact ⟨_,q.1,q.2,aj _ (.head _),.inl ⟨rfl,rfl⟩⟩
   ·exact ⟨_,q.1,q.2,aj _ (.head _),.inr ⟨rfl,rfl⟩⟩
  ·refine λh=>xeeea h λo r i m j=>(aD.mp m).elim (λm=>.inl (.inl ⟨o,r,i,m,j⟩)) λm=>?_
   cases ao.mp m
   exact j.elim (λj=>.inl (.inr j.1.symm)) λj=>.inr j.1.symm
theorem key_adj (h:Adj web v o):v∈(sides web).map (·.1):=keys_sides.2.mpr (xea h λr m j=>xe (List.mem_iff_getElem?.mp m) λi e=>⟨o,r,i,List.mem_zipIdx_iff_getElem?.mpr e,j⟩)
theorem len_sAt:(sAt (sides web) v).length<=2 * web.length:=by
 unfold sAt
 cases q:gA (sides web) v with
 | none=>exact Nat.zero_le _
 | some l=>exact List.length_zipIdx (l:=web)▸(bnd_sides (l:=web.zipIdx)).at_ _ (gA_mem q)
noncomputable def Low (n:Nat) (web:List Row):Prop:=∀ r∈web,r.1.1 < n/\r.2.1 < n
theorem Low.adj (L:Low n web) (h:Adj web a b):a < n/\b < n:=xea h λr m j=>have l:=L r m;j.elim (λj=>⟨j.1▸l.1,j.2▸l.2⟩) λj=>⟨j.1▸l.2,j.2▸l.1⟩
theorem Low.conn (L:Low n web) (ha:a < n) (h:Conn web a b):b < n:=h.closed ha λu1 u2 u3 q=>(L.adj q).2
theorem nodup_len {l:List Nat} (nd:l.Nodup) (h:∀ x∈l,x < n):l.length<=n:=
 ay (n:=n)▸nd.length_le_of_subset (l₂:=List.range n) λx m=>List.mem_range.mpr (h x m)
end
theorem pre_lt {α:Type} {l d r:List α} {x:α} (e:l=d++x::r):d.length < l.length:=by rw [e,aq];exact Nat.lt_add_of_pos_right (Nat.succ_pos _)
theorem lt9 {n:Nat} (h:n<=9):n < 60:=au h (by decide)
theorem lt6 {n:Nat} (h:n<=6):n < 60:=au h (by decide)
abbrev S2:=Sd×Nat×Option V×Option V×Option V×Option V
noncomputable def V2 (web:List Row) (s:S2):Vars:=[some (.d (webD web)),some (.ref 0),s.2.2.1,s.2.2.2.1,s.2.2.2.2.1,s.2.2.2.2.2]
noncomputable def H2 (s:S2):Hp:=⟨dlO 0 endD s.1,s.2.1⟩
theorem e_sides {m:Nat} {web:List Row} {h:Hp} (hl:web.length<=9):callF (fns (m+1)) (.f 2) [.d (webD web)] h=some (.d (sidesD (sides web)),h):=by
 have hb:∀ {d r:List (Row×Nat)} {x:Row×Nat},web.zipIdx=d++x::r->2 * d.length+1 < 60:=λe=>au (Nat.succ_le_succ (Nat.mul_le_mul_left 2 (aI (Nat.le_of_lt (pre_lt e)) (List.length_zipIdx (l:=web)▸hl)))) (by decide)
 refine call_pureW rfl rfl rfl rfl (w_asgN rfl (w_for (V:=V2 web) (H:=H2) (l:=web.zipIdx) (emb:=λq=>.d (.tup [nD q.2,rowD q.1])) (R:=λd s=>s.1=sidesL d) (s:=([],0,none,none,none,none)) rfl ?_ (by rw [List.length_zipIdx];exact lt9 hl) rfl (λd x r s hd hr=>?_) λs hr=>?_))
 ·refine (wh_t (ba rfl (smm (lt9 hl)))).trans (aN (λz=>some (z,false)) ?_)
  rw [List.zipIdx_map,aK];rfl
 ·have b:=(bnd_sides (l:=d))
  rw [← hr] at b
  refine w_b rfl (xe (eval_setdef (pre:=[]) (s:=s.1) (w:=s.2.1) (g:=endD) (k:=x.1.1.1) (x:=(x.2,x.1.2.1)) rfl (λh=>rfl) (λh=>rfl) (au b.len (Nat.lt_of_succ_lt (hb hd))) λp m=>au (b.at_ p m) (Nat.lt_of_succ_lt (hb hd))) λw1 e1=>w_expr e1
   (xe (eval_setdef (pre:=[]) (w:=w1) (g:=endD) (k:=x.1.2.1) (x:=(x.2,x.1.1.1)) rfl (λh=>rfl) (λh=>rfl) (au b.add.len (hb hd)) λp m=>au (b.add.at_ p m) (hb hd)) λw2 e2=>w_expr e2
   (w_nil ⟨(_,w2,_,_,_,_),rfl,rfl,(aN (sStep · x) hr).trans sidesL_snoc.symm⟩)))
 ·refine xea (freezes_lists (g:=endD) (s:=s.1) (a:=1) (h:=⟨(dlO 0 endD s.1).set 0 .dead,s.2.1+1⟩) λi p hp=>?_) λh' e u1=>w_retF rfl (bI rfl (mI e)) (aN (λs=>Fl.ret (.d (sidesD s))) hr)
  rw [set_gt (Nat.ne_of_lt (av Nat.one_pos (Nat.le_add_right 1 i))),Nat.add_comm]
  exact (List.getElem?_map).trans (aN (Option.map _) hp)
section
variable {n:Nat} {l:List Nat} {p:Nat->Bool}
theorem sort_range (nd:l.Nodup) (h:∀ x,x∈l↔x < n/\p x=true):sortBy ltI (l.map λ(x:Nat)=>(x:Int))=((List.range n).filter p).map λ(x:Nat)=>(x:Int):=
 (sort_unique (((List.perm_ext_iff_of_nodup (List.nodup_range.filter p) nd).mpr λx=>List.mem_filter.trans ((and_congr_left λu1=>List.mem_range).trans (h x).symm)).map _) (List.Pairwise.map _ (λa b h=>Int.ofNat_le.mpr (Nat.le_of_lt h)) (List.Pairwise.filter _ List.pairwise_lt_range))).symm
theorem sortD_nats {l':List Nat} (hl:l.length < 60) (h:sortBy ltI (l.map λ(x:Nat)=>(x:Int))=l'.map λ(x:Nat)=>(x:Int)):sortD (l.map nD)=some (l'.map nD):=by
 refine (wh_t (smm hl)).trans ?_
 rw [show intsOf (l.map nD)=some (l.map λ(x:Nat)=>(x:Int)) from allM_map λu1=>rfl]
 show some ((sortBy ltI _).map D.int)=_
 rw [h,aK];rfl
theorem sortD_range (hl:l.length < 60) (nd:l.Nodup) (h:∀ x,x∈l↔x < n/\p x=true):sortD (l.map nD)=some (((List.range n).filter p).map nD):=sortD_nats hl (sort_range nd h)
end
theorem sorted_dO {κ α:Type} [DecidableEq κ] {kf:κ->Key} {kd:κ->D} (K:KK kf kd) {f:α->V} {s:List (κ×α)} {H:Hp} {j:Nat} {r:List D} (h:H.o[j]?=some (dO kf f s)) (e:sortD ((s.map (·.1)).map kd)=some r):bcallV .sorted [.ref j] H=some (.d (.list r)):=by
 show (sortSrc (.ref j) H).bind (λl=>(sortD l).map λr=>V.d (.list r))=_
 exact bI (bI h (aN some (keysD K))) (mI e)
theorem mu_add {n a b k:Nat} (h:n - a+b<=k) (l:a+1<=n):n - (a+1)+(b+1)<=k:=by
 rw [← Nat.add_assoc,Nat.add_right_comm,Nat.sub_add_eq,Nat.sub_add_cancel (Nat.sub_pos_of_lt l)];exact h
structure RI (n:Nat) (web:List Row) (s:Nat) (here:Nat->Prop) (f t:List Nat):Prop where
 nf:f.Nodup
 nt:t.Nodup
 sub:∀ x∈t,x∈f
 low:∀ x∈f,x < n
 hs:s∈f
 hc:∀ x∈f,Conn web s x
 cl:∀ x∈f,x∉t->¬ here x->∀ y,Adj web x y->y∈f
section
variable {Φ:Fns} {n k s o u:Nat} {web:List Row} {here:Nat->Prop} {f t:List Nat} {v:V} {H:Hp} {sd:Sd} {Q:St->Prop} {cs:List C}
theorem RI.add (R:RI n web s here f t) (h:o∉f) (l:o < n) (c:Conn web s o):RI n web s here (f++[o]) (t++[o]) where
 nf:=nd_snoc R.nf h
 nt:=nd_snoc R.nt λz=>h (R.sub o z)
 sub x m:=(aD.mp m).elim (λm=>ak _ (R.sub x m)) (aj _)
 low x m:=(aD.mp m).elim (R.low x) λm=>ao.mp m▸l
 hs:=ak _ R.hs
 hc x m:=(aD.mp m).elim (R.hc x) λm=>ao.mp m▸c
 cl x m nt nh y a:=ak _ (R.cl x ((aD.mp m).resolve_right λz=>nt (aj _ z)) (λz=>nt (ak _ z)) nh y a)
theorem RI.pop (R:RI n web s (λu1=>False) f (t++[o])):RI n web s (·=o) f t/\o∈f/\o∉t:=
 have a:=az.mp R.nt
 ⟨⟨R.nf,a.1,λx m=>R.sub x (ak _ m),R.low,R.hs,R.hc,λx m nt nh=>R.cl x m (λz=>(aD.mp z).elim nt λz=>nh (ao.mp z)) id⟩,R.sub o (aj _ (.head _)),λz=>a.2.2 o z o (.head _) rfl⟩
theorem RI.lens (R:RI n web s here f t):f.length<=n/\t.length<=n:=⟨nodup_len R.nf R.low,nodup_len R.nt λx m=>R.low x (R.sub x m)⟩
theorem get_sides:bmethV .get (.d (sidesD sd)) [.d (nD u),.d (.list [])] H=some (.d (endsD (sAt sd u)),H):=(get_dD kN).trans (by unfold sAt;cases gA sd u <;> rfl)
theorem item_sides (h:u∈sd.map (·.1)):itemV (.d (sidesD sd)) (.d (nD u)) H=some (.d (endsD (sAt sd u))):=xe (gA_some h) λl e=>(item_dD kN e).trans (by unfold sAt;rw [e];rfl)
abbrev S3:=List Nat×List Nat×Nat×Option V×Option V
noncomputable def V3 (a b c:V) (s:S3):Vars:=[some a,some b,some c,some (.ref 0),some (.ref 1),s.2.2.2.1,s.2.2.2.2,none,none]
noncomputable def H3 (s:S3):Hp:=⟨[mkO s.1,lsO s.2.1],s.2.2.1⟩
noncomputable abbrev b3:List C:=[.ifs (.cmp .notin (.var 6) (.var 3)) [.setI (.var 3) (.var 6) (.bool true),.expr (.bmeth .append (.var 4) [.var 6])] []]
structure RD (n:Nat) (web:List Row) (s h k:Nat) (d:List End) (z:S3):Prop where
 R:RI n web s (·=h) z.1 z.2.1
 hf:h∈z.1/\h∉z.2.1
 don:∀ q∈d,q.2∈z.1
 mu:(n - z.1.length)+z.2.1.length<=k
theorem reach_turn {a b:V} {h:Nat} {z:S3} {d r:List End} {x:End} (hn:n<=6) (L:Low n web) (hd:sAt (sides web) h=d++x::r) (D:RD n web s h k d z):WB Φ (.tup [.var 5,.var 6]) b3 (.d (endD x)) (V3 a b (.d (sidesD (sides web))) z) (H3 z) (Tn (V3 a b (.d (sidesD (sides web)))) H3 (RD n web s h k (d++[x])) Q):=by
 have j:Adj web h x.2:=(mem_sAt.mp (show (x.1,x.2)∈sAt (sides web) h from hd▸aj _ (.head _))).adj
 have l:=D.R.lens
 refine w_b rfl (w_ifN (P:=x.2∈z.1) (e_cmp rfl rfl (mI (in_mk rfl))) (λm=>?_) λm=>w_nil (w_nil ⟨(z.1,z.2.1,z.2.2.1,_,_),rfl,rfl,D.R,D.hf,λq hq=>(aD.mp hq).elim (D.don q) λhq=>ao.mp hq▸m,D.mu⟩))
 have R':=D.R.add m (L.adj j).2 ((D.R.hc h D.hf.1).step j)
 refine w_setI rfl rfl rfl (set_mk rfl (au l.1 (au hn (by decide))) m) (w_expr (e_bmeth rfl rfl (e_1 rfl) rfl rfl (app_lO (g:=λx=>.d (nD x)) (x:=x.2) (l:=z.2.1) rfl (au l.2 (au hn (by decide))))) (w_nil (w_nil ⟨(z.1++[x.2],z.2.1++[x.2],z.2.2.1+1+1,_,_),rfl,rfl,R',?_,λq hq=>(aD.mp hq).elim (λhq=>ak _ (D.don q hq)) λhq=>ao.mp hq▸aj _ (.head _),?_⟩)))
 ·exact ⟨ak _ D.hf.1,λq=>(aD.mp q).elim D.hf.2 λq=>m (ao.mp q▸D.hf.1)⟩
 ·have l':=R'.lens.1
  rw [aq] at l'
  rw [aq,aq]
  exact mu_add D.mu l'
theorem reach_body {a b:V} {z:S3} (hn:n<=6) (L:Low n web) (hw:web.length<=9) (R:RI n web s (λu1=>False) z.1 z.2.1) (ne:z.2.1≠[]):WP Φ [.fors false (.tup [.var 5,.var 6]) false (.bmeth .get (.var 2) [.bmeth .pop (.var 4) [],.list []]) b3] (V3 a b (.d (sidesD (sides web))) z) (H3 z)
  (Tn (V3 a b (.d (sidesD (sides web)))) H3 (λz'=>RI n web s (λu1=>False) z'.1 z'.2.1/\(n - z'.1.length)+z'.2.1.length < (n - z.1.length)+z.2.1.length) Q):=by
 refine xee ((List.eq_nil_or_concat z.2.1).resolve_left ne) λt0 h e=>?_
 rw [List.concat_eq_append] at e
 have R0:=R
 rw [e] at R0
 have P:=R0.pop
 have lt:t0.length < 59:=au P.1.lens.2 (au hn (by decide))
 refine w_for (V:=V3 a b (.d (sidesD (sides web)))) (H:=H3) (s:=(z.1,t0,z.2.2.1+1,z.2.2.2.1,z.2.2.2.2)) (l:=sAt (sides web) h) (emb:=λq=>.d (endD q)) (R:=RD n web s h ((n - z.1.length)+t0.length))
  (e_bmeth rfl rfl (e_cons (e_bmeth rfl rfl e_nil rfl rfl (pop_lO (g:=λx=>.d (nD x)) (aN (λt=>some (lsO t)) e) lt)) (e_1 rfl)) rfl rfl get_sides) it_lD (au len_sAt (au (Nat.mul_le_mul_left 2 hw) (by decide))) ⟨P.1,P.2,nofun,Nat.le_refl _⟩ (λd x r z' hd D=>reach_turn hn L hd D)
  λz' D=>w_nil ⟨z',rfl,rfl,⟨D.R.nf,D.R.nt,D.R.sub,D.R.low,D.R.hs,D.R.hc,λx m nt u1 y a=>?_⟩,?_⟩
 ·by_cases q:x=h
  ·subst q
   exact xe (adj_joins a) λi j=>D.don (i,y) (mem_sAt.mpr j)
  ·exact D.R.cl x m nt q y a
 ·rw [e,aq]
  exact Nat.lt_succ_of_le D.mu
theorem e_reach {m:Nat} {p:Nat->Bool} {h:Hp} (hn:n<=6) (L:Low n web) (hw:web.length<=9) (hs:s < n) (hp:∀ x,x < n->(p x=true↔Conn web s x)):callF (fns (m+2)) (.f 3) [.d (webD web),.d (nD s)] h=some (.d (natsD ((List.range n).filter p)),h):=
 call_pureW rfl rfl rfl rfl (w_par (p_old (e_fcall (e_1 rfl) (e_sides hw)) (p_new (o:=mkO [s]) (h1:=⟨[],0⟩) rfl (p_new (o:=lsO [s]) (h1:=⟨[mkO [s]],0⟩) rfl rfl)))
  (w_while (V:=V3 (.d (webD web)) (.d (nD s)) (.d (sidesD (sides web)))) (H:=H3) (s:=([s],[s],0,none,none)) (R:=λz=>RI n web s (λu1=>False) z.1 z.2.1) (μ:=λz=>(n - z.1.length)+z.2.1.length) (t:=λz=>decide (z.2.1≠[]))
   ⟨List.nodup_cons.mpr ⟨aA,.nil⟩,List.nodup_cons.mpr ⟨aA,.nil⟩,λu1=>id,λx m=>ao.mp m▸hs,.head _,λx m=>ao.mp m▸.refl,λx m n=>absurd m n⟩
   (au (Nat.add_le_add_right (aI (Nat.sub_le n 1) hn) 1) (by decide)) (λz u1=>e_cmp rfl rfl (ne_lO rep_nD (by decide) rfl)) (λz R ne=>reach_body hn L hw R (aw ne)) λz R e=>by
    have e:z.2.1=[]:=Decidable.not_not.mp (of_decide_eq_false e)
    refine w_ret (e_bcall (e_1 rfl) ?_) rfl
    exact sorted_dO kN (s:=z.1.map λx=>(x,true)) rfl (by rw [mk_keys];exact sortD_range (au R.lens.1 (au hn (by decide))) R.nf λx=>⟨λm=>⟨R.low x m,(hp x (R.low x m)).mpr (R.hc x m)⟩,λq=>((hp x q.1).mp q.2).closed R.hs λx y m a=>R.cl x m (by rw [e];exact aA) id y a⟩)))
end
noncomputable def IsLeast (n:Nat) (web:List Row) (μ:Nat->Nat):Prop:=∀ v,v < n->Conn web v (μ v)/\∀ u,Conn web v u->μ v<=u
inductive Pth (web:List Row) (a:Nat):Nat->List Nat->Prop
 | one:Pth web a a []
 | cons {b c:Nat} {p:List Nat}:Pth web a b p->Adj web b c->c∉b::p->Pth web a c (b::p)
inductive Wlk (web:List Row):Nat->Nat->Nat->Prop
 | zero {v t:Nat}:Wlk web t v v
 | succ {t v x u:Nat}:Adj web v x->Wlk web t x u->Wlk web (t+1) v u
section
variable {web:List Row} {a b c t u v n:Nat} {l:List Nat} {μ:Nat->Nat}
theorem Pth.cut (h:Pth web a b l) (hc:c∈b::l):∃ p,Pth web a c p:=by
 induction h with
 | one=>exact ⟨[],ao.mp hc▸.one⟩
 | cons h1 h2 h3 ih=>exact (aG.mp hc).elim (λe=>e▸⟨_,.cons h1 h2 h3⟩) ih
theorem Conn.path (h:Conn web a b):∃ p,Pth web a b p:=by
 induction h with
 | refl=>exact ⟨[],.one⟩
 | step h1 h2 ih=>
  refine xe ih λp hp=>?_
  exact (Classical.em (_∈_::p)).elim hp.cut λe=>⟨_,.cons hp h2 e⟩
theorem Pth.facts (h:Pth web a b l):(b::l).Nodup/\(∀ x∈b::l,Conn web a x)/\Wlk web l.length b a:=by
 induction h with
 | one=>exact ⟨List.nodup_cons.mpr ⟨aA,.nil⟩,λx m=>ao.mp m▸.refl,.zero⟩
 | cons u1 h2 h3 ih=>exact ⟨List.nodup_cons.mpr ⟨h3,ih.1⟩,λx m=>(aG.mp m).elim (λe=>e▸(ih.2.1 _ (.head _)).step h2) (ih.2.1 x),.succ h2.symm ih.2.2⟩
theorem Wlk.mono (h:Wlk web t v u):∀ {t'},t<=t'->Wlk web t' v u:=by
 induction h with
 | zero=>exact λu1=>.zero
 | succ h1 u1 ih=>
  intro t' ht
  cases t' with
  | zero=>exact absurd ht (Nat.not_succ_le_zero _)
  | succ t'=>exact .succ h1 (ih (Nat.le_of_succ_le_succ ht))
theorem Conn.wk (L:Low n web) (ha:a < n) (h:Conn web a b):Wlk web n b a:=xe h.path λp hp=>hp.facts.2.2.mono (Nat.le_of_succ_le (nodup_len hp.facts.1 λx m=>L.conn ha (hp.facts.2.1 x m)))
noncomputable abbrev at0 (l:List Nat) (v:Nat):Nat:=l.getD v 0
noncomputable def mrkStep (l:List Nat) (r:Row):List Nat:=(l.set r.1.1 (min (at0 l r.1.1) (at0 l r.2.1))).set r.2.1 (min (at0 l r.1.1) (at0 l r.2.1))
noncomputable def mrkPass (web:List Row) (l:List Nat):List Nat:=web.foldl mrkStep l
noncomputable def mrkN (web:List Row) (l:List Nat):Nat->List Nat
 | 0=>l
 | t+1=>mrkPass web (mrkN web l t)
noncomputable def marks (web:List Row) (n:Nat):List Nat:=mrkN web (List.range n) n
theorem mrkPass_snoc {x:Row} {d:List Row}:mrkPass (d++[x]) l=mrkStep (mrkPass d l) x:=List.foldl_append
theorem getD_set {i j x:Nat} (h:i < l.length):at0 (l.set i x) j=if i=j then x else at0 l j:=by
 unfold at0
 rw [List.getD_eq_getElem?_getD,List.getD_eq_getElem?_getD,List.getElem?_set]
 by_cases e:i=j
 ·rw [aQ e,aQ e,aQ h];rfl
 ·rw [aP e,aP e]
theorem mrkStep_len {r:Row}:(mrkStep l r).length=l.length:=List.length_set.trans List.length_set
theorem mrkStep_at {r:Row} (h1:r.1.1 < l.length) (h2:r.2.1 < l.length) (v:Nat):at0 (mrkStep l r) v=if r.2.1=v\/r.1.1=v then min (at0 l r.1.1) (at0 l r.2.1) else at0 l v:=by
 unfold mrkStep
 rw [getD_set (by rw [List.length_set];exact h2),getD_set h1]
 by_cases e1:r.2.1=v
 ·rw [aQ e1,aQ (.inl e1)]
 ·rw [aP e1]
  by_cases e2:r.1.1=v
  ·rw [aQ e2,aQ (.inr e2)]
  ·rw [aP e2,aP λz=>z.elim e1 e2]
structure Pass (web:List Row) (n:Nat) (l0:List Nat) (d:List Row) (l:List Nat):Prop where
 len:l.length=n
 con:∀ v,v < n->Conn web v (at0 l v)
 mono:∀ v,at0 l v<=at0 l0 v
 row:∀ r∈d,∀ a b,Jn r a b->at0 l a<=at0 l0 b
theorem pass_of {l0:List Nat} (L:Low n web) (hl:l0.length=n) (hc:∀ v,v < n->Conn web v (at0 l0 v)) (d:List Row):∀ r,web=d++r->Pass web n l0 d (d.foldl mrkStep l0):=by
 induction d using snoc_ind with
 | h0=>exact λr u1=>⟨hl,hc,λv=>Nat.le_refl _,nofun⟩
 | h1 d q ih=>
  intro r e
  have I:=ih (q::r) (e.trans (ax d [q] r))
  have hq:q∈web:=e▸ak _ (aj _ (.head _))
  have b:=L q hq
  rw [List.foldl_append]
  show Pass web n l0 _ (mrkStep (d.foldl mrkStep l0) q)
  generalize d.foldl mrkStep l0=l at I
  have at_:=mrkStep_at (l:=l) (r:=q) (I.len▸b.1) (I.len▸b.2)
  have adj:Adj web q.1.1 q.2.1:=⟨q,hq,.inl ⟨rfl,rfl⟩⟩
  have mn:∀ v,at0 (mrkStep l q) v<=at0 l v:=λv=>by
   rw [at_]
   by_cases e:q.2.1=v\/q.1.1=v
   ·rw [aQ e];exact e.elim (λe=>e▸Nat.min_le_right _ _) λe=>e▸Nat.min_le_left _ _
   ·rw [aP e];exact Nat.le_refl _
  refine ⟨mrkStep_len.trans I.len,λv hv=>?_,λv=>aI (mn v) (I.mono v),λp hp x y j=>(aD.mp hp).elim (λhp=>aI (mn x) (I.row p hp x y j)) λhp=>?_⟩
  ·rw [at_]
   by_cases e:q.2.1=v\/q.1.1=v
   ·rw [aQ e]
    have c:Conn web q.1.1 (min (at0 l q.1.1) (at0 l q.2.1)):=(Nat.le_total (at0 l q.1.1) (at0 l q.2.1)).elim (λz=>by rw [Nat.min_eq_left z];exact I.con _ b.1) λz=>by rw [Nat.min_eq_right z];exact (Conn.refl.step adj).trans (I.con _ b.2)
    exact e.elim (λe=>e▸(Conn.refl.step adj.symm).trans c) λe=>e▸c
   ·rw [aP e];exact I.con v hv
  ·cases ao.mp hp
   rw [at_]
   refine j.elim (λj=>?_) λj=>?_
   ·rw [aQ (.inr j.1)];exact aI (Nat.min_le_right _ _) (j.2▸I.mono _)
   ·rw [aQ (.inl j.1)];exact aI (Nat.min_le_left _ _) (j.2▸I.mono _)
theorem at_range (h:v < n):at0 (List.range n) v=v:=by
 unfold at0
 rw [List.getD_eq_getElem?_getD,List.getElem?_range h];rfl
structure Mk (web:List Row) (n t:Nat) (l:List Nat):Prop where
 len:l.length=n
 con:∀ v,v < n->Conn web v (at0 l v)
 le:∀ v u,v < n->Wlk web t v u->at0 l v<=u
theorem mrkN_of (L:Low n web) (t:Nat):Mk web n t (mrkN web (List.range n) t):=by
 induction t with
 | zero=>exact ⟨ay,λv hv=>(at_range hv).symm▸.refl,λv u hv w=>by
   cases w
   exact Nat.le_of_eq (at_range hv)⟩
 | succ t ih=>
  have P:=pass_of L ih.len ih.con web [] (List.append_nil _).symm
  refine ⟨P.len,P.con,λv u hv w=>?_⟩
  cases w with
  | zero=>exact aI (P.mono v) (ih.le v v hv .zero)
  | succ ha hw=>exact xea (id ha) λr hr j=>aI (P.row r hr _ _ j) (ih.le _ u (L.adj ha).2 hw)
theorem map_at0 (h:l.length=n):l=(List.range n).map (at0 l):=by
 subst h
 refine List.ext_getElem (by rw [aB,ay]) λi h1 h2=>?_
 rw [List.getElem_map,List.getElem_range,at0,List.getD_eq_getElem?_getD,ad h1];rfl
theorem marks_least (L:Low n web):∃ μ,IsLeast n web μ/\marks web n=(List.range n).map μ:=
 have M:=mrkN_of L n
 ⟨at0 (marks web n),λv hv=>⟨M.con v hv,λu hu=>M.le v u hv (hu.symm.wk L (L.conn hv hu))⟩,map_at0 M.len⟩
theorem IsLeast.low (I:IsLeast n web μ) (L:Low n web) (hv:v < n):μ v < n:=L.conn hv (I v hv).1
theorem IsLeast.le (I:IsLeast n web μ) (hv:v < n):μ v<=v:=(I v hv).2 v .refl
theorem IsLeast.conn (I:IsLeast n web μ) (hu:u < n) (hv:v < n):Conn web u v↔μ u=μ v:=
 ⟨λc=>Nat.le_antisymm ((I u hu).2 _ (c.trans (I v hv).1)) ((I v hv).2 _ (c.symm.trans (I u hu).1)),λe=>(I u hu).1.trans (e▸(I v hv).1.symm)⟩
theorem IsLeast.idem (I:IsLeast n web μ) (L:Low n web) (hv:v < n):μ (μ v)=μ v:=((I.conn hv (I.low L hv)).mp (I v hv).1).symm
theorem IsLeast.uniq {ν:Nat->Nat} (I:IsLeast n web μ) (J:IsLeast n web ν) (hv:v < n):μ v=ν v:=Nat.le_antisymm ((I v hv).2 _ (J v hv).1) ((J v hv).2 _ (I v hv).1)
theorem marks_eq (L:Low n web) (I:IsLeast n web μ):marks web n=(List.range n).map μ:=xea (marks_least L) λν J e=>e.trans (List.map_congr_left λv hv=>J.uniq I (List.mem_range.mp hv))
abbrev S4:=List Nat×Nat×Option V×Option V×Option V×Option V
noncomputable def V4 (web:List Row) (n:Nat) (s:S4):Vars:=[some (.d (webD web)),some (.d (nD n)),some (.ref 0),s.2.2.1,s.2.2.2.1,s.2.2.2.2.1,s.2.2.2.2.2,none,none,none]
noncomputable def H4 (s:S4):Hp:=⟨[lsO s.1],s.2.1⟩
noncomputable abbrev b4:List C:=[.asg 6 (.bcall .min [.item (.var 2) (.item (.var 4) (.int 0)),.item (.var 2) (.item (.var 5) (.int 0))]),.setI2 (.var 2) (.item (.var 4) (.int 0)) (.var 2) (.item (.var 5) (.int 0)) (.var 6) (.var 6)]
theorem min_nD {H:Hp} {a b:Nat}:bcallV .min [.d (nD a),.d (nD b)] H=some (.d (nD (min a b))):=by
 show some (V.d (.int (if (b:Int) < a then (b:Int) else a)))=_
 by_cases h:(b:Int) < a
 ·rw [aQ h,Nat.min_eq_right (Nat.le_of_lt (Int.ofNat_lt.mp h))];rfl
 ·rw [aP h,Nat.min_eq_left (Nat.le_of_not_lt λz=>h (Int.ofNat_lt.mpr z))];rfl
theorem at_some (h:v < l.length):l[v]?=some (at0 l v):=by
 unfold at0;rw [List.getD_eq_getElem?_getD,ad h];rfl
theorem lt1000 (hn:n<=6) (h:v < n):v < 1000:=av h (aI hn (by decide))
theorem mark_row {Φ:Fns} {l0:List Nat} {s:S4} {d q:List Row} {x:Row} {Q:St->Prop} {v3:Option V} (hn:n<=6) (L:Low n web) (hd:web=d++x::q) (hl:l0.length=n) (R:s.1=mrkPass d l0/\s.1.length=n/\s.2.2.1=v3) :
  WB Φ (.tup [.var 4,.var 5]) b4 (.d (rowD x)) (V4 web n s) (H4 s) (Tn (V4 web n) H4 (λs=>s.1=mrkPass (d++[x]) l0/\s.1.length=n/\s.2.2.1=v3) Q):=by
 have b:=L x (hd▸aj _ (.head _))
 have b1:x.1.1 < s.1.length:=R.2.1▸b.1
 have b2:x.2.1 < s.1.length:=R.2.1▸b.2
 refine w_b rfl (w_asg (e_bcall (e_cons (e_item rfl rfl (item_lO rfl (at_some b1) (lt1000 hn b.1))) (e_1 (e_item rfl rfl (item_lO rfl (at_some b2) (lt1000 hn b.2))))) min_nD) (w_setI2 rfl rfl rfl rfl (set_lO (g:=λx=>.d (nD x)) rfl b1 (lt1000 hn b.1)) rfl rfl (set_lO (g:=λx=>.d (nD x)) rfl (by rw [List.length_set];exact b2) (lt1000 hn b.2)) (w_nil ⟨(mrkStep s.1 x,s.2.1+1+1,s.2.2.1,some (.d (endD x.1)),some (.d (endD x.2)),some (.d (nD (min (at0 s.1 x.1.1) (at0 s.1 x.2.1))))),rfl,rfl,?_,mrkStep_len.trans R.2.1,R.2.2⟩)))
 exact (aN (mrkStep · x) R.1).trans mrkPass_snoc.symm
theorem e_marks {m:Nat} {h:Hp} (hn:n<=6) (L:Low n web) (hw:web.length<=9):callF (fns (m+1)) (.f 15) [.d (webD web),.d (nD n)] h=some (.d (natsD (marks web n)),h):=
 have rg:bcallV .range [.d (nD n)] (H4 (List.range n,0,none,none,none,none))=some (.d (.range (n:Int))):=wh_t (smI (lt6 hn))
 call_pureW rfl rfl rfl rfl (w_asgN (o:=lsO (List.range n)) (bI (e_bcall (e_1 rfl) (wh_t (smI (lt6 hn)))) ((wh_t (smI (lt6 hn))).trans (by rw [rangeD_nat,aK];rfl)))
  (w_for (V:=V4 web n) (H:=H4) (s:=(List.range n,0,none,none,none,none)) (l:=List.range n) (emb:=λi=>.d (nD i)) (R:=λd s=>s.1=mrkN web (List.range n) d.length/\s.1.length=n) (e_bcall (e_1 rfl) rg) (it_range (lt6 hn)) (by rw [ay];exact lt6 hn) ⟨rfl,ay⟩
   (λd x r s hd R=>w_b rfl (w_for (V:=V4 web n) (H:=H4) (s:=(s.1,s.2.1,some (.d (nD x)),s.2.2.2.1,s.2.2.2.2.1,s.2.2.2.2.2)) (l:=web) (emb:=λr=>.d (rowD r)) (R:=λd' s'=>s'.1=mrkPass d' s.1/\s'.1.length=n/\s'.2.2.1=some (.d (nD x))) rfl it_lD (lt9 hw) ⟨rfl,R.2,rfl⟩ (λd' r' q s' hd' R'=>mark_row hn L hd' R.2 R')
    λs' R'=>w_nil ⟨s',rfl,rfl,R'.1.trans (by rw [R.1,aq];rfl),R'.2.1⟩))
   λs R=>w_retF rfl (freeze_lO (f:=nD) (l:=s.1) rfl) (aN (λl=>Fl.ret (.d (natsD l))) (R.1.trans (aN (mrkN web (List.range n)) ay)))))
end
noncomputable def grp (n:Nat) (μ:Nat->Nat) (s:Nat):List Nat:=(List.range n).filter λv=>μ v==s
noncomputable def groups (n:Nat) (μ:Nat->Nat):List (List Nat):=((List.range n).filter λm=>μ m==m).map (grp n μ)
noncomputable def groupsD (l:List (List Nat)):D:=.list (l.map natsD)
abbrev S5:=List (List Nat)×List Nat×Nat×Option V×Option V×Option V
noncomputable def V5 (a b:V) (s:S5):Vars:=[some a,some b,some (.ref 0),some (.ref 1),s.2.2.2.1,s.2.2.2.2.1,s.2.2.2.2.2,none,none]
noncomputable def H5 (s:S5):Hp:=⟨[lO (λl=>.d (natsD l)) s.1,mkO s.2.1],s.2.2.1⟩
section
variable {Φ:Fns} {n s x m:Nat} {web:List Row} {μ:Nat->Nat} {d r q:List Nat} {z:S5} {Q:St->Prop} {a b:V}
theorem range_pre (e:List.range n=d++x::r):d.length=x/\x < n:=by
 have h1:(List.range n)[d.length]?=some x:=e▸get_app (i:=0)
 have hl:d.length < n:=ay (n:=n)▸lt_of h1
 rw [List.getElem?_range hl] at h1
 exact ⟨aE h1,aE h1▸hl⟩
theorem mem_grp:x∈grp n μ s↔x < n/\μ x=s:=List.mem_filter.trans (and_congr List.mem_range beq_iff_eq)
theorem grp_nd:(grp n μ s).Nodup:=List.nodup_range.filter _
theorem grp_len:(grp n μ s).length<=n:=nodup_len grp_nd λx m=>(mem_grp.mp m).1
structure PD (n:Nat) (μ:Nat->Nat) (d:List Nat) (z:S5):Prop where
 gs:z.1=(d.filter λm=>μ m==m).map (grp n μ)
 gl:z.1.length<=d.length
 nd:z.2.1.Nodup
 met:∀ x,x∈z.2.1↔x < n/\μ x < d.length
theorem filter_snoc {p:Nat->Bool}:(d++[s]).filter p=if p s=true then d.filter p++[s] else d.filter p:=by
 rw [List.filter_append]
 by_cases h:p s=true
 ·rw [aQ h];exact aN (d.filter p++·) (List.filter_cons_of_pos h)
 ·rw [aP h];exact (aN (d.filter p++·) (List.filter_cons_of_neg h)).trans (List.append_nil _)
theorem mark_part {gs:List (List Nat)} {met:List Nat} {w:Nat} {v4 v5 v6:Option V} (hn:n<=6) (h5:v5=some (.d (natsD (grp n μ s)))) (nd:met.Nodup) (hm:∀ x∈met,x < n/\μ x≠s) (k:∀ w v4 v5 v6,Q (.nx,V5 a b (gs,met++grp n μ s,w,v4,v5,v6),H5 (gs,met++grp n μ s,w,v4,v5,v6))) :
  WP Φ [.fors false (.var 6) false (.var 5) [.setI (.var 3) (.var 6) (.bool true)]] (V5 a b (gs,met,w,v4,v5,v6)) (H5 (gs,met,w,v4,v5,v6)) Q:=by
 subst h5
 refine w_for (V:=V5 a b) (H:=H5) (s:=(gs,met,w,v4,_,v6)) (l:=grp n μ s) (emb:=λi=>.d (nD i)) (R:=λq z=>z.1=gs/\z.2.1=met++q) rfl it_lD (au grp_len (lt6 hn)) ⟨rfl,(List.append_nil _).symm⟩
  (λq x r z hq R=>?_) λz R=>w_nil (by
   obtain ⟨gs,met,w,v4,v5,v6⟩:=z
   obtain ⟨rfl,rfl⟩:=R
   exact k w v4 v5 v6)
 have hx:=mem_grp.mp (hq▸aj q (.head r):x∈grp n μ s)
 have nq:x∉z.2.1:=λy=>(aD.mp (R.2▸y)).elim (λy=>(hm x y).2 hx.2) λy=>(az.mp (hq▸grp_nd (n:=n) (μ:=μ) (s:=s))).2.2 x y x (.head _) rfl
 have nd2:z.2.1.Nodup:=R.2▸az.mpr ⟨nd,(az.mp (hq▸grp_nd (n:=n) (μ:=μ) (s:=s))).1,λu hu v hv e=>(hm u hu).2 (mem_grp.mp (hq▸ak _ (e▸hv):u∈grp n μ s)).2⟩
 have lo:∀ y∈z.2.1,y < n:=λy hy=>(aD.mp (R.2▸hy)).elim (λy=>(hm _ y).1) λy=>(mem_grp.mp (hq▸ak _ y:_∈grp n μ s)).1
 exact w_b rfl (w_setI rfl rfl rfl (set_mk rfl (au (nodup_len nd2 lo) (lt6 hn)) nq) (w_nil ⟨(z.1,z.2.1++[x],z.2.2.1+1,z.2.2.2.1,z.2.2.2.2.1,some (.d (nD x))),rfl,rfl,R.1,R.2▸ax met q [x]⟩))
noncomputable abbrev b5:List C:=[.ifs (.cmp .notin (.var 4) (.var 3)) [.asg 5 (.fcall 3 [.var 0,.var 4]),.expr (.bmeth .append (.var 2) [.var 5]),.fors false (.var 6) false (.var 5) [.setI (.var 3) (.var 6) (.bool true)]] []]
theorem part_turn (hn:n<=6) (L:Low n web) (hw:web.length<=9) (I:IsLeast n web μ) (hd:List.range n=d++s::r) (D:PD n μ d z):WB (fns (m+2)) (.var 4) b5 (.d (nD s)) (V5 (.d (webD web)) b z) (H5 z) (Tn (V5 (.d (webD web)) b) H5 (PD n μ (d++[s])) Q):=by
 have hs:=range_pre hd
 have dl:(d++[s]).length=d.length+1:=aq
 refine w_b rfl (w_ifN (P:=s∈z.2.1) (e_cmp rfl rfl (mI (in_mk rfl))) (λnm=>?_) λmm=>?_)
 ·have fx:μ s=s:=Nat.le_antisymm (I.le hs.2) (Nat.le_of_not_lt λq=>nm ((D.met s).mpr ⟨hs.2,hs.1▸q⟩))
  have er:=e_reach (m:=m) (web:=web) (s:=s) (p:=λv=>μ v==s) (h:=H5 (z.1,z.2.1,z.2.2.1,some (.d (nD s)),z.2.2.2.2.1,z.2.2.2.2.2)) hn L hw hs.2 λx hx=>by rw [I.conn hs.2 hx,beq_iff_eq,fx];exact eq_comm
  refine w_asg (e_fcall (e_cons rfl (e_1 rfl)) er) (w_expr (e_bmeth rfl rfl (e_1 rfl) rfl rfl (app_lO (g:=λl=>.d (natsD l)) (x:=grp n μ s) (l:=z.1) rfl (au D.gl (au (Nat.le_of_lt (hs.1▸hs.2)) (lt6 hn)))))
   (mark_part (gs:=z.1++[grp n μ s]) (met:=z.2.1) (w:=z.2.2.1+1) (v4:=some (.d (nD s))) (v6:=z.2.2.2.2.2) hn rfl D.nd (λx hx=>⟨((D.met x).mp hx).1,λe=>Nat.lt_irrefl _ (hs.1▸e▸((D.met x).mp hx).2)⟩) λw v4 v5 v6=>w_nil ⟨(_,_,w,v4,v5,v6),rfl,rfl,?_,?_,?_,λx=>?_⟩))
  ·rw [filter_snoc,aQ (beq_iff_eq.mpr fx),aC]
   exact aN (·++[grp n μ s]) D.gs
  ·rw [dl,aq];exact Nat.succ_le_succ D.gl
  ·exact az.mpr ⟨D.nd,grp_nd,λx hx y hy e=>Nat.lt_irrefl _ (hs.1▸(mem_grp.mp (e▸hy)).2▸((D.met x).mp hx).2)⟩
  ·rw [aD,D.met,mem_grp,dl,← and_or_left,Nat.lt_succ_iff_lt_or_eq,hs.1]
 ·have lt:μ s < d.length:=((D.met s).mp mm).2
  have ne:μ s≠s:=Nat.ne_of_lt (Nat.lt_of_lt_of_eq lt hs.1)
  refine w_nil (w_nil ⟨(z.1,z.2.1,z.2.2.1,some (.d (nD s)),z.2.2.2.2.1,z.2.2.2.2.2),rfl,rfl,?_,?_,D.nd,λx=>?_⟩)
  ·rw [filter_snoc,aP (mt beq_iff_eq.mp ne)];exact D.gs
  ·rw [dl];exact Nat.le_succ_of_le D.gl
  ·rw [D.met,dl]
   exact and_congr_right λhx=>⟨Nat.lt_succ_of_lt,λh=>Nat.lt_of_le_of_ne (Nat.le_of_lt_succ h) λe=>ne (by rw [← hs.1,← e];exact I.idem L hx)⟩
theorem e_parts {sw:D} {h:Hp} (hn:n<=6) (L:Low n web) (hw:web.length<=9) (I:IsLeast n web μ) (hs:∀ H,bcallV .sorted [.d sw] H=some (.d (natsD (List.range n)))) :
  callF (fns (m+3)) (.f 4) [.d (webD web),.d sw] h=some (.d (groupsD (groups n μ)),h):=
 call_pureW rfl rfl rfl rfl (w_par (p_new (o:=.list []) (h1:=⟨[],0⟩) rfl (p_new (o:=mkO []) (h1:=⟨[.list []],0⟩) rfl rfl))
  (w_for (V:=V5 (.d (webD web)) (.d sw)) (H:=H5) (s:=([],[],0,none,none,none)) (l:=List.range n) (emb:=λi=>.d (nD i)) (R:=PD n μ) (e_bcall (e_1 rfl) (hs _)) it_lD (by rw [ay];exact lt6 hn)
   ⟨rfl,Nat.le_refl _,.nil,λx=>⟨nofun,λh=>absurd h.2 (Nat.not_lt_zero _)⟩⟩ (λd x r z hd D=>part_turn hn L hw I hd D)
   λz D=>w_retF rfl (freeze_lO (f:=natsD) (l:=z.1) rfl) (aN (λl=>Fl.ret (.d (groupsD l))) D.gs)))
end
noncomputable def nonfix (n:Nat) (μ:Nat->Nat):List Nat:=(List.range n).filter λv=>μ v != v
section
variable {n v u x y i a b:Nat} {μ:Nat->Nat} {web web':List Row} {r:Row}
theorem nonfix_nd:(nonfix n μ).Nodup:=List.nodup_range.filter _
theorem mem_nonfix:v∈nonfix n μ↔v < n/\μ v≠v:=List.mem_filter.trans (and_congr List.mem_range bne_iff_ne)
theorem len_split {α:Type} (p:α->Bool) (l:List α):(l.filter p).length+(l.filter λa=>!p a).length=l.length:=by
 induction l with
 | nil=>rfl
 | cons a l ih=>
  rw [List.filter_cons,List.filter_cons]
  cases p a with
  | true=>exact (Nat.succ_add _ _).trans (aN (·+1) ih)
  | false=>exact aN (·+1) ih
theorem fix_count:((List.range n).filter λv=>μ v==v).length+(nonfix n μ).length=n:=(len_split (λv=>μ v==v) (List.range n)).trans ay
theorem Conn.weaken (h:Conn web a b) (k:∀ x y,Adj web x y->Conn web' x y):Conn web' a b:=by
 induction h with
 | refl=>exact .refl
 | step u1 q ih=>exact ih.trans (k _ _ q)
theorem Jn.same (h:Jn r a b) (k:Jn r x y):(a=x/\b=y)\/(a=y/\b=x):=
 h.elim (λh=>k.elim (λk=>.inl ⟨h.1.symm.trans k.1,h.2.symm.trans k.2⟩) λk=>.inr ⟨h.1.symm.trans k.2,h.2.symm.trans k.1⟩) λh=>k.elim (λk=>.inr ⟨h.1.symm.trans k.2,h.2.symm.trans k.1⟩) λk=>.inl ⟨h.1.symm.trans k.1,h.2.symm.trans k.2⟩
theorem Joins.same (h:Joins web i a b) (k:Joins web i x y):(a=x/\b=y)\/(a=y/\b=x):=xea h λr e j=>xea k λr' e' j'=>by cases e.symm.trans e';exact j.same j'
theorem Joins.lt (h:Joins web i a b):i < web.length:=xea h λr e u1=>lt_of e
theorem Conn.cons (h:Conn (r::web) v u):Conn web v u\/∃ a b,Jn r a b/\Conn web v a/\Conn web b u:=by
 induction h with
 | refl=>exact .inl .refl
 | step u1 q ih=>
  refine xea (id q) λr' m j=>(aG.mp m).elim (λe=>?_) λm=>ih.elim (λh=>.inl (h.step ⟨r',m,j⟩)) λh=>.inr (xeeaa h λa b j' h1 h2=>⟨a,b,j',h1,h2.step ⟨r',m,j⟩⟩)
  subst e
  exact ih.elim (λh=>.inr ⟨_,_,j,h,.refl⟩) λh=>xeeaa h λa b j' h1 h2=>(j'.same j).elim (λe=>.inr ⟨a,b,j',h1,e.2▸.refl⟩) λe=>.inl (e.1▸h1)
theorem lt_max {a b:Nat} (h:a≠max a b):a < b:=Nat.lt_of_not_le λz=>h (Nat.max_eq_left z).symm
theorem rows_ge (L:Low n web) (I:IsLeast n web μ):(nonfix n μ).length<=web.length:=by
 induction web generalizing μ with
 | nil=>
  refine nonfix_nd.length_le_of_subset (l₂:=[]) λv m=>absurd ?_ (mem_nonfix.mp m).2
  exact (I v (mem_nonfix.mp m).1).1.closed (P:=λx=>x=v) rfl λx y u1 a=>xea a λr m u1=>nomatch m
 | cons r web ih=>
  have L':Low n web:=λr m=>L r (.tail _ m)
  refine xea (marks_least L') λν J u1=>aI (nonfix_nd.length_le_of_subset (l₂:=max (ν r.1.1) (ν r.2.1)::nonfix n ν) λv m=>?_) (Nat.succ_le_succ (ih L' J))
  have hv:=mem_nonfix.mp m
  by_cases hM:v=max (ν r.1.1) (ν r.2.1)
  ·exact hM▸.head _
  ·refine .tail _ (mem_nonfix.mpr ⟨hv.1,λe=>hv.2 (Nat.le_antisymm (I.le hv.1) ?_)⟩)
   refine (I v hv.1).1.cons.elim (λh=>aI (Nat.le_of_eq e.symm) ((J v hv.1).2 _ h)) λh=>xeeaa h λa b j h1 h2=>?_
   have lo:=L r (.head _)
   have key:∀ {a b},a < n->b < n->Conn web v a->Conn web b (μ v)->v≠max (ν a) (ν b)->v<=μ v:=λha hb h1 h2 ne=>by
    have e1:v=_:=e.symm.trans ((J.conn hv.1 ha).mp h1)
    exact aI (Nat.le_of_lt (e1▸lt_max (e1▸ne))) ((J _ hb).2 _ h2)
   exact j.elim (λj=>key (j.1▸lo.1) (j.2▸lo.2) h1 h2 (by rw [← j.1,← j.2];exact hM)) λj=>key (j.1▸lo.2) (j.2▸lo.1) h1 h2 (by rw [← j.1,← j.2,Nat.max_comm];exact hM)
end
abbrev Came:=List (Nat×Option End)
inductive Bk (c:Came):Nat->List (Nat×Option Nat)->Prop
 | root {v:Nat}:gA c v=some none->Bk c v [(v,none)]
 | step {v i p:Nat} {l:List (Nat×Option Nat)}:gA c v=some (some (i,p))->Bk c p l->Bk c v ((v,some i)::l)
structure Way (b:Nat) (c:Came) (v:Nat) (l:List (Nat×Option Nat)):Prop where
 bk:Bk c v l
 nd:(l.map (·.1)).Nodup
 sub:∀ x∈l.map (·.1),x∈c.map (·.1)
 last:(b,none)∈l
structure Tr (web:List Row) (b:Nat) (c:Came):Prop where
 keys:(c.map (·.1)).Nodup
 root:gA c b=some none
 conn:∀ v∈c.map (·.1),Conn web b v
 joins:∀ {v i p},gA c v=some (some (i,p))->Joins web i p v/\v≠b
 pkey:∀ {v i p},gA c v=some (some (i,p))->p∈c.map (·.1)
 rows:∀ {v u i p q},gA c v=some (some (i,p))->gA c u=some (some (i,q))->v=u
 back:∀ v∈c.map (·.1),∃ l,Way b c v l
section
variable {web:List Row} {b i p v u o m n:Nat} {c:Came} {l:List (Nat×Option Nat)} {x:Option End}
theorem keys_snoc {κ α:Type} {s:List (κ×α)} {k j:κ} {x:α}:j∈(s++[(k,x)]).map (·.1)↔j∈s.map (·.1)\/j=k:=by
 rw [aC];exact aD.trans (or_congr_right ao)
theorem gA_lift {κ α:Type} [DecidableEq κ] {s:List (κ×α)} {k j:κ} {x y:α} (h:k∉s.map (·.1)) (e:gA s j=some y):gA (s++[(k,x)]) j=some y:=(gA_snoc h).trans ((aP λ(z:k=j)=>h (z▸gA_key e)).trans e)
theorem gA_self {κ α:Type} [DecidableEq κ] {s:List (κ×α)} {k:κ} {x:α} (h:k∉s.map (·.1)):gA (s++[(k,x)]) k=some x:=(gA_snoc h).trans (aQ rfl)
theorem gA_inv {κ α:Type} [DecidableEq κ] {s:List (κ×α)} {k j:κ} {x y:α} (h:k∉s.map (·.1)) (e:gA (s++[(k,x)]) j=some y):(j=k/\y=x)\/gA s j=some y:=by
 rw [gA_snoc h] at e
 by_cases z:k=j
 ·rw [aQ z] at e;exact .inl ⟨z.symm,(aE e).symm⟩
 ·rw [aP z] at e;exact .inr e
theorem Bk.snoc (B:Bk c v l) (h:u∉c.map (·.1)):Bk (c++[(u,x)]) v l:=by
 induction B with
 | root e=>exact .root (gA_lift h e)
 | step e u1 ih=>exact .step (gA_lift h e) ih
theorem Tr.one:Tr web b [(b,none)]:=by
 have g:∀ {v y},gA [(b,(none:Option End))] v=some (some y)->False:=λ{v y} e=>by
  rw [gA_c] at e
  by_cases z:b=v
  ·rw [aQ z] at e;cases e
  ·rw [aP z] at e;cases e
 exact ⟨List.nodup_cons.mpr ⟨aA,.nil⟩,aQ rfl,λv m=>ao.mp m▸.refl,λe=>(g e).elim,λe=>(g e).elim,λe=>(g e).elim,λv m=>ao.mp m▸⟨[(b,none)],.root (aQ rfl),List.nodup_cons.mpr ⟨aA,.nil⟩,λx=>id,.head _⟩⟩
theorem Tr.add (T:Tr web b c) (hp:p∈c.map (·.1)) (h:v∉c.map (·.1)) (j:Joins web i p v):Tr web b (c++[(v,some (i,p))]) where
 keys:=by rw [aC];exact nd_snoc T.keys h
 root:=gA_lift h T.root
 conn u m:=(keys_snoc.mp m).elim (T.conn u) λe=>e▸(T.conn p hp).step j.adj
 joins e:=(gA_inv h e).elim (λz=>by
  obtain ⟨rfl,z⟩:=z
  cases z
  exact ⟨j,λe=>h (e▸gA_key T.root)⟩) T.joins
 pkey e:=keys_snoc.mpr (.inl ((gA_inv h e).elim (λz=>by cases z.2;exact hp) T.pkey))
 rows {v' u' i' p' q'} e f:=by
  have bad:∀ {u q},gA c u=some (some (i,q))->False:=λf=>(j.same (T.joins f).1).elim (λz=>h (z.2▸gA_key f)) λz=>h (z.2▸T.pkey f)
  exact (gA_inv h e).elim (λz=>(gA_inv h f).elim (λy=>z.1.trans y.1.symm) λf=>by cases z.2;exact (bad f).elim) λe=>(gA_inv h f).elim (λy=>by cases y.2;exact (bad e).elim) (T.rows e)
 back u m:=(keys_snoc.mp m).elim (λm=>xe (T.back u m) λl w=>⟨l,w.bk.snoc h,w.nd,λx hx=>keys_snoc.mpr (.inl (w.sub x hx)),w.last⟩) λe=>xe (T.back p hp) λl w=>by
  subst e
  exact ⟨(u,some i)::l,.step (gA_self h) (w.bk.snoc h),List.nodup_cons.mpr ⟨λz=>h (w.sub _ z),w.nd⟩,λx hx=>keys_snoc.mpr ((aG.mp hx).symm.imp (w.sub x) id),.tail _ w.last⟩
noncomputable def stepR (web:List Row) (cur i:Nat):Option Nat:=(web[i]?).bind λr=>if cur=r.1.1 then some r.2.1 else if cur=r.2.1 then some r.1.1 else none
noncomputable def walkR (web:List Row) (cur:Nat):List Nat->Option Nat
 | []=>some cur
 | i::l=>(stepR web cur i).bind λx=>walkR web x l
theorem Joins.step (h:Joins web i p v):stepR web p i=some v:=xea h λr e j=>bI e (by
 by_cases z:p=r.1.1
 ·rw [aQ z]
  exact aN some (j.elim And.right λj=>(j.1.trans (z.trans j.2)))
 ·rw [aP z]
  exact j.elim (λj=>absurd j.1.symm z) λj=>(aQ j.1.symm).trans (aN some j.2))
theorem walk_bind {l l':List Nat} {a:Nat}:walkR web a (l++l')=(walkR web a l).bind λx=>walkR web x l':=by
 induction l generalizing a with
 | nil=>rfl
 | cons i l ih=>
  show (stepR web a i).bind _=((stepR web a i).bind _).bind _
  cases stepR web a i with
  | none=>rfl
  | some x=>exact ih
theorem walk_app {l l':List Nat} {a b c:Nat} (h:walkR web a l=some b) (k:walkR web b l'=some c):walkR web a (l++l')=some c:=walk_bind.trans (bI h k)
structure Circ (web:List Row) (l:List Nat):Prop where
 ne:l≠[]
 nd:l.Nodup
 lt:∀ i∈l,i < web.length
 walk:∃ m,walkR web m l=some m
noncomputable def bkRows (l:List (Nat×Option Nat)):List Nat:=l.filterMap (·.2)
structure Up (web:List Row) (c:Came) (v m:Nat) (l:List (Nat×Option Nat)):Prop where
 up:walkR web v (bkRows l)=some m
 down:walkR web m (bkRows l).reverse=some v
 len:l.map (·.2)=(bkRows l).map some
 src:∀ i∈bkRows l,∃ u q,u∈l.map (·.1)/\gA c u=some (some (i,q))
 nd:(bkRows l).Nodup
theorem Bk.up (T:Tr web b c) {x:Option Nat} {l1 l2:List (Nat×Option Nat)} (B:Bk c v (l1++(m,x)::l2)) (nd:((l1++(m,x)::l2).map (·.1)).Nodup):Up web c v m l1:=by
 induction l1 generalizing v with
 | nil=>cases B <;> exact ⟨rfl,rfl,rfl,nofun,.nil⟩
 | cons a l1 ih=>
  generalize hl:a::l1++(m,x)::l2=l at B nd
  cases B with
  | root e=>exact absurd (List.cons.inj hl).2 (List.append_ne_nil_of_right_ne_nil l1 (List.cons_ne_nil _ _))
  | @step v i p l e B=>
   cases hl
   have nd:=List.nodup_cons.mp nd
   have U:=ih B nd.2
   have j:=(T.joins e).1
   refine ⟨bI j.symm.step U.up,?_,aN (some i::·) U.len,λk hk=>(aG.mp hk).elim (λz=>⟨v,p,.head _,by rw [z];exact e⟩) λhk=>xeea (U.src k hk) λu q h1 h2=>⟨u,q,.tail _ h1,h2⟩,List.nodup_cons.mpr ⟨λhk=>xeea (U.src i hk) λu q h1 h2=>xea (aJ.mp h1) λz hz ez=>nd.1 (aJ.mpr ⟨z,ak _ hz,ez.trans (T.rows e h2).symm⟩),U.nd⟩⟩
   exact (aN (walkR web m) List.reverse_cons).trans (walk_app U.down (bI j.step rfl))
theorem circ_of (T:Tr web b c) {l1 k1:List (Nat×Option Nat)} (U1:Up web c v m l1) (U2:Up web c o m k1) (hd:∀ a∈l1.map (·.1),a∉k1.map (·.1)) (j:Joins web i v o) (hi:∀ u q,gA c u≠some (some (i,q))):Circ web ((bkRows l1).reverse++[i]++bkRows k1):=by
 have lt:∀ {l v k},Up web c v m l->k∈bkRows l->k < web.length:=λU hk=>xeea (U.src _ hk) λu q u1 e=>(T.joins e).1.lt
 refine ⟨λe=>absurd (aN List.length e) (by rw [aq,aq];exact Nat.ne_of_gt (av (Nat.succ_pos _) (Nat.le_add_right _ _))),?_,λk hk=>?_,m,walk_app (walk_app U1.down (bI j.step rfl)) U2.up⟩
 ·rw [ax]
  refine az.mpr ⟨List.pairwise_reverse.mpr (U1.nd.imp λh=>h.symm),List.nodup_cons.mpr ⟨λh=>xeea (U2.src i h) λu q u1 e=>hi u q e,U2.nd⟩,λa ha z hz e=>?_⟩
  subst e
  refine xeea (U1.src a (List.mem_reverse.mp ha)) λu q hu e=>(aG.mp hz).elim (λz=>hi u q (z▸e)) λhz=>xeea (U2.src a hz) λu' q' hu' e'=>hd u hu (T.rows e e'▸hu')
 ·exact (aD.mp hk).elim (λhk=>(aD.mp hk).elim (λhk=>lt U1 (List.mem_reverse.mp hk)) λhk=>ao.mp hk▸j.lt) (lt U2)
theorem rows_gt {μ:Nat->Nat} (L:Low n web) (I:IsLeast n web μ) (T:Tr web b c) (hv:v∈c.map (·.1)) (ho:o∈c.map (·.1)) (j:Joins web i v o) (hi:∀ u q,gA c u≠some (some (i,q))):(nonfix n μ).length < web.length:=by
 have mem:∀ {k r'},web[k]?=some r'->k≠i->r'∈web.eraseIdx i:=λh ne=>List.mem_eraseIdx_iff_getElem?.mpr ⟨_,ne,h⟩
 have adj':∀ {k x y},Joins web k x y->k≠i->Adj (web.eraseIdx i) x y:=λh ne=>xea h λr e j=>⟨r,mem e ne,j⟩
 have con:∀ {u l},Bk c u l->∃ z,Conn (web.eraseIdx i) u z/\gA c z=some none:=λB=>by
  induction B with
  | root e=>exact ⟨_,.refl,e⟩
  | step e u1 ih=>exact xea ih λz h g=>⟨z,(Conn.refl.step (adj' (T.joins e).1.symm λq=>hi _ _ (q▸e))).trans h,g⟩
 have rt:∀ {z},gA c z=some none->z=b:=λ{z} g=>xe (T.back z (gA_key g)) λl w=>by
  cases w.bk with
  | root=>exact (aN Prod.fst (ao.mp w.last)).symm
  | step e=>cases g.symm.trans e
 have cb:∀ u∈c.map (·.1),Conn (web.eraseIdx i) u b:=λu m=>xe (T.back u m) λl w=>xea (con w.bk) λz h g=>rt g▸h
 have cv:=(cb v hv).trans (cb o ho).symm
 have adj:∀ x y,Adj web x y->Conn (web.eraseIdx i) x y:=λx y a=>xe (adj_joins a) λk h=>by
  by_cases e:k=i
  ·subst e
   exact (j.same h).elim (λz=>z.1▸z.2▸cv) λz=>z.1▸z.2▸cv.symm
  ·exact Conn.refl.step (adj' h e)
 have I':IsLeast n (web.eraseIdx i) μ:=λx hx=>⟨(I x hx).1.weaken adj,λu hu=>(I x hx).2 u (hu.weaken λa b h=>xea h λr m j=>Conn.refl.step ⟨r,List.mem_of_mem_eraseIdx m,j⟩)⟩
 have:=rows_ge (λr' h=>L r' (List.mem_of_mem_eraseIdx h)) I'
 rw [List.length_eraseIdx_of_lt j.lt] at this
 exact au this (Nat.sub_lt (au (Nat.zero_le _) j.lt) Nat.one_pos)
end
section
variable {Φ:Fns} {α β:Type} {k:Nat} {elt it1 it2 c:X} {p1 p2:Pat} {en two hasC lock t:Bool} {vs:Vars} {h h1:Hp} {v:V} {xs:List α} {emb:α->V} {y:D}
theorem loop_same {body:V->Hp->Option (List D×Hp)} {g:α->List D} (q:∀ x∈xs,body (emb x) h=some (g x,h)):compLoop lock body (xs.map emb) h=some (xs.flatMap g,h):=by
 induction xs with
 | nil=>rfl
 | cons x xs ih=>exact bI (q x (.head _)) ((wh_t (by rw [beq_self_eq_true,Bool.or_true])).trans (mI (ih λy m=>q y (.tail _ m))))
theorem e_comp {g:α->List D} (q:evalX Φ it1 vs h=some (v,h1)) (i:itemsOf en p1 v h1=some (xs.map emb,lock)) (s:xs.length < 60) (b:∀ x∈xs,(bindP p1 (emb x) (vs++List.replicate k none)).bind (λvs=>compAfter two p2 hasC (evalX Φ elt) (evalX Φ it2) (evalX Φ c) vs h1)=some (g x,h1)) (s2:(xs.flatMap g).length < 60) :
  evalX Φ (.comp k elt p1 en it1 two p2 it2 hasC c) vs h=some (.d (.list (xs.flatMap g)),h1):=
 mI (a:=(xs.flatMap g,h1)) (f:=λp:List D×Hp=>(V.d (.list p.1),p.2)) (bI q (bI i ((wh_t (smm s)).trans (bI (loop_same b) (wh_small s2)))))
theorem leaf_plain (q:evalX Φ elt vs h=some (.d y,h1)):compAfter false p2 false (evalX Φ elt) (evalX Φ it2) (evalX Φ c) vs h=some ([y],h1):=bI q rfl
theorem leaf_cond (q:evalX Φ c vs h=some (.d (.bool t),h1)) (q2:t=true->evalX Φ elt vs h1=some (.d y,h1)):compAfter false p2 true (evalX Φ elt) (evalX Φ it2) (evalX Φ c) vs h=some (if t then [y] else [],h1):=bI (bI q rfl) (by
 cases t with
 | true=>exact bI (q2 rfl) rfl
 | false=>rfl)
theorem flat_map (f:α->β) (l:List α):(l.flatMap λx=>[f x])=l.map f:=by
 induction l with
 | nil=>rfl
 | cons a l ih=>exact aN (f a::·) ih
theorem flat_filter (p:α->Bool) (f:α->β) (l:List α):(l.flatMap λx=>if p x then [f x] else [])=(l.filter p).map f:=by
 induction l with
 | nil=>rfl
 | cons a l ih=>
  rw [List.flatMap_cons,List.filter_cons,ih]
  cases p a <;> rfl
theorem e_compM {f:α->D} (q:evalX Φ it1 vs h=some (v,h1)) (i:itemsOf en p1 v h1=some (xs.map emb,lock)) (s:xs.length < 60) (b:∀ x∈xs,∃ vs1,bindP p1 (emb x) (vs++List.replicate k none)=some vs1/\evalX Φ elt vs1 h1=some (.d (f x),h1)) :
  evalX Φ (.comp k elt p1 en it1 false p2 it2 false c) vs h=some (.d (.list (xs.map f)),h1):=
 flat_map f xs▸e_comp q i s (λx m=>xea (b x m) λvs1 e1 e2=>bI e1 (leaf_plain e2)) (by rw [flat_map,aB];exact s)
theorem e_compF {f:α->D} {p:α->Bool} (q:evalX Φ it1 vs h=some (v,h1)) (i:itemsOf en p1 v h1=some (xs.map emb,lock)) (s:xs.length < 60) (b:∀ x∈xs,∃ vs1,bindP p1 (emb x) (vs++List.replicate k none)=some vs1/\evalX Φ c vs1 h1=some (.d (.bool (p x)),h1)/\(p x=true->evalX Φ elt vs1 h1=some (.d (f x),h1))) :
  evalX Φ (.comp k elt p1 en it1 false p2 it2 true c) vs h=some (.d (.list ((xs.filter p).map f)),h1):=
 flat_filter p f xs▸e_comp q i s (λx m=>xeaa (b x m) λvs1 e1 e2 e3=>bI e1 (leaf_cond e2 e3)) (by rw [flat_filter,aB];exact au (List.length_filter_le _ _) s)
end
noncomputable def oD:Option Nat->D
 | none=>.none
 | some n=>nD n
noncomputable def bkE (p:Nat×Option Nat):D:=.tup [nD p.1,oD p.2]
noncomputable def cmD (x:Option End):D:=x.elim (.tup [.none,.none]) endD
noncomputable abbrev cmO (c:Came):O:=dO nK (λx=>.d (cmD x)) c
noncomputable abbrev lO' {α:Type} (f:α->D) (l:List α):O:=lO (λx=>.d (f x)) l
abbrev S7:=Option Nat×List (Nat×Option Nat)×List (Nat×Option Nat)×Nat×Option V×Option V
noncomputable def V7 (jc jo:Nat) (s:S7):Vars:=[some (.ref jc),some (.d (oD s.1)),some (.ref jo),s.2.2.2.2.1,s.2.2.2.2.2]
noncomputable def H7 (o:List O) (s:S7):Hp:=⟨o++[lO' bkE s.2.1],s.2.2.2.1⟩
noncomputable abbrev b7:List C:=[.asgP (.tup [.var 3,.var 4]) (.item (.var 0) (.var 1)),.expr (.bmeth .append (.var 2) [.tup [.var 1,.var 3]]),.asg 1 (.var 4)]
section
variable {Φ:Fns} {Q:St->Prop} {c:Came} {jc v m w:Nat} {l acc r:List (Nat×Option Nat)} {o:List O} {h:Hp} {x:Option End} {y z:Option Nat} {s:S7} {v3 v4:Option V}
noncomputable def BkO (c:Came) (r:List (Nat×Option Nat)):Option Nat->Prop
 | some v=>Bk c v r
 | none=>r=[]
structure BkI (c:Came) (l:List (Nat×Option Nat)) (s:S7):Prop where
 eq:s.2.1++s.2.2.1=l
 bk:BkO c s.2.2.1 s.1
theorem Bk.elim {G:Prop} (B:Bk c v l) (k:∀ x y z r,gA c v=some x->cmD x=.tup [oD y,oD z]->l=(v,y)::r->BkO c r z->G):G:=by
 cases B with
 | root g=>exact k _ none none [] g rfl rfl rfl
 | @step u1 i p r' g B'=>exact k _ (some i) (some p) r' g rfl rfl B'
theorem BkI.fin (I:BkI c l s) (t:s.1.isSome=false):s.2.1=l:=by
 have b:=I.bk
 cases q:s.1 with
 | some v=>rw [q] at t;cases t
 | none=>
  rw [q] at b
  rw [← I.eq,show s.2.2.1=[] from b,List.append_nil]
theorem back_turn (hj:o[jc]?=some (cmO c)) (hl:l.length < 60) (I:BkI c l s) (hv:s.1=some v):WP Φ b7 (V7 jc o.length s) (H7 o s) (Tn (V7 jc o.length) (H7 o) (λs'=>BkI c l s'/\s'.2.2.1.length < s.2.2.1.length) Q):=
 Bk.elim (c:=c) (v:=v) (hv▸I.bk:BkO c s.2.2.1 (some v)) λx y z r g e1 e2 I'=>
  have e:s.2.1++(v,y)::r=l:=e2▸I.eq
  have i1:itemV (.ref jc) (.d (oD s.1)) (H7 o s)=some (.d (.tup [oD y,oD z])):=by rw [hv,← e1];exact item_dO kN (f:=λx=>.d (cmD x)) (s:=c) ((at_low (lt_of hj)).trans hj) g
  w_asgP (e_item rfl rfl i1) rfl (w_expr (e_bmeth rfl (kindL (g:=λx=>.d (bkE x)) at_end) (e_1 (e_tup (e_cons rfl (e_1 rfl)) (by rw [hv];rfl))) rfl (kindL (g:=λx=>.d (bkE x)) at_end) (app_lO (g:=λx=>.d (bkE x)) (l:=s.2.1) (x:=(v,y)) at_end (Nat.lt_trans (pre_lt e.symm) hl))) (w_asg rfl (w_nil ⟨(z,s.2.1++[(v,y)],r,s.2.2.2.1+1,some (.d (oD y)),some (.d (oD z))),rfl,aN (λo=>(⟨o,s.2.2.2.1+1⟩:Hp)) set_end,⟨(ax s.2.1 [(v,y)] r).trans e,I'⟩,by rw [e2];exact Nat.lt_succ_self _⟩)))
theorem CP.d {o:Option (V×Hp)} {d:D} {P:Hp->Prop} (h:CP o λx h'=>x=.d d/\P h'):∃ h',o=some (.d d,h')/\P h':=xea h λp e q=>⟨p.2,e.trans (aN (λx=>some (x,p.2)) q.1),q.2⟩
theorem e_back (hj:h.o[jc]?=some (cmO c)) (B:Bk c v l) (hl:l.length < 60):∃ h',callF (fns (m+1)) (.f 7) [.ref jc,.d (nD v)] h=some (.d (.list (l.map bkE)),h')/\h'.o=h.o++[.dead]:=
 CP.d (call_W rfl rfl rfl (w_asgN rfl (w_while (V:=V7 jc h.o.length) (H:=H7 h.o) (s:=(some v,[],l,h.w,none,none)) (R:=BkI c l) (μ:=λs=>s.2.2.1.length) (t:=λs=>s.1.isSome) ⟨rfl,B⟩ (Nat.lt_trans hl (by decide))
  (λs u1=>e_cmp rfl rfl (by cases s.1 <;> rfl)) (λs I t=>xe (Option.isSome_iff_exists.mp t) λv hv=>back_turn hj hl I hv) λs I t=>w_retF rfl (freeze_lO (f:=bkE) (l:=s.2.1) at_end) ⟨by rw [I.fin t],set_end⟩)))
end
section
variable {Φ:Fns} {Q:St->Prop} {web:List Row} {c:Came} {jc v o i b t m u:Nat} {d r k1 k2 W K:List (Nat×Option Nat)} {x y:Option Nat} {H h:Hp} {os:List O} {l:List Nat} {vs:Vars}
theorem in_nats:inV (.d (nD u)) (.d (natsD l)) H=some (decide (u∈l)):=by
 refine bI rfl ((wh_t (ba (rep_nD.shaped (by decide) u) (List.all_eq_true.mpr λz hz=>xea (aJ.mp hz) λa u1 e=>e▸rep_nD.shaped (by decide) a))).trans (aN some ?_))
 induction l with
 | nil=>rfl
 | cons a l ih=>
  rw [List.map_cons,List.any_cons,ih,rep_nD.eq,← Bool.decide_or]
  exact decide_eq_decide.mpr ((or_congr_left eq_comm).trans aG.symm)
theorem add_list {a b:List D} (ha:a.length < 60) (hb:b.length < 60):binV .add (.d (.list a)) (.d (.list b))=some (.d (.list (a++b))):=wh_t (ba (sm_t ha) (sm_t hb))
theorem find_first {r:List Nat} (h:t∉l):((l++t::r).map λ(x:Nat)=>(x:Int)).findIdx? (·==(t:Int))=some l.length:=by
 induction l with
 | nil=>exact (List.findIdx?_cons).trans (aQ (beq_self_eq_true _))
 | cons a l ih=>
  refine (List.findIdx?_cons).trans ((aP λ(e:((a:Int)==(t:Int))=true)=>h (by rw [← Int.ofNat_inj.mp (beq_iff_eq.mp e)];exact .head _)).trans ?_)
  exact mI (ih λz=>h (.tail _ z))
theorem index_nats {r:List Nat} (h:t∉l) (s:(l++t::r).length < 60):bmethV .index (.d (natsD (l++t::r))) [.d (nD t)] H=some (.d (nD l.length),H):=
 bI (a:=(l++t::r).map λ(x:Nat)=>(x:Int)) (show intsOf ((l++t::r).map nD)=_ from allM_map λu1=>rfl) ((wh_t (smm s)).trans (mI (find_first h)))
abbrev S8:=List (Nat×Option Nat)×Nat×Option V×Option V
noncomputable def V8 (jc v o i:Nat) (W K:List (Nat×Option Nat)) (jo:Nat) (s:S8):Vars:=[some (.ref jc),some (.d (nD v)),some (.d (nD o)),some (.d (nD i)),some (.d (.list (W.map bkE))),some (.d (.list (K.map bkE))),s.2.2.1,s.2.2.2,some (.d (natsD (K.map (·.1)))),some (.ref jo),none]
noncomputable def H8 (os:List O) (s:S8):Hp:=⟨os++[lO' (λp:Nat×Option Nat=>oD p.2) s.1],s.2.1⟩
noncomputable abbrev r8:X:=.bin .add (.bin .add (.rev (.var 9)) (.list [.var 3])) (.comp 3 (.var 13) (.tup [.var 12,.var 13]) false (.upto (.var 5) (.bmeth .index (.var 8) [.var 6])) false (.var 0) .none false .none)
theorem rows_map (U:Up web c v t d):(d.map λp=>oD p.2)=(bkRows d).map nD:=by
 have:=aN (List.map oD) U.len
 rwa [aK,aK] at this
theorem bk_len (U:Up web c v t d):(bkRows d).length=d.length:=by
 have:=aN List.length U.len
 rw [aB,aB] at this
 exact this.symm
theorem closed_ret {w:Nat} {v7:Option V} (U1:Up web c v t d) (U2:Up web c o t k1) (h1:d.length < 29) (h2:(k1++(t,y)::k2).length < 30) (nt:t∉k1.map (·.1)):evalX Φ r8 (V8 jc v o i W (k1++(t,y)::k2) os.length (d,w,some (.d (nD t)),v7)) (H8 os (d,w,some (.d (nD t)),v7))=some (.d (natsD ((bkRows d).reverse++[i]++bkRows k1)),H8 os (d,w,some (.d (nD t)),v7)):=by
 have lk:k1.length < 30:=Nat.lt_trans (pre_lt rfl) h2
 have ix:=index_nats (t:=t) (l:=k1.map (·.1)) (r:=k2.map (·.1)) (H:=H8 os (d,w,some (.d (nD t)),v7)) nt (by rw [← List.map_cons (f:=(·.1)) (a:=(t,y)),← aC,aB];exact Nat.lt_trans h2 (by decide))
 rw [← List.map_cons (f:=(·.1)) (a:=(t,y)),← aC,aB] at ix
 have up:=e_upto (Φ:=Φ) (a:=.var 5) (vs:=V8 jc v o i W (k1++(t,y)::k2) os.length (d,w,some (.d (nD t)),v7)) (h:=H8 os (d,w,some (.d (nD t)),v7)) rfl (e_bmeth (m:=.index) (a:=.var 8) (es:=[.var 6]) rfl rfl (e_1 rfl) rfl rfl ix) (ds:=(k1++(t,y)::k2).map bkE) rfl (by rw [aB];exact Nat.lt_trans h2 (by decide)) (by rw [aB];exact Nat.le_of_lt (pre_lt rfl))
 rw [← List.map_take,List.take_left] at up
 have cp:=e_compM (Φ:=Φ) (k:=3) (elt:=.var 13) (it2:=.none) (c:=.none) (p1:=.tup [.var 12,.var 13]) (p2:=.var 0) (en:=false) (xs:=k1) (f:=λp=>oD p.2) up it_lD (Nat.lt_trans lk (by decide)) (λp u1=>⟨_,rfl,rfl⟩)
 rw [rows_map U2] at cp
 have rv:=e_rev (Φ:=Φ) (a:=.var 9) (vs:=V8 jc v o i W (k1++(t,y)::k2) os.length (d,w,some (.d (nD t)),v7)) (h:=H8 os (d,w,some (.d (nD t)),v7)) rfl (peek_lO at_end) (by rw [aB];exact Nat.lt_trans h1 (by decide))
 rw [rows_map U1,← List.map_reverse] at rv
 have l1:((bkRows d).reverse.map nD).length < 29:=by rw [aB,List.length_reverse,bk_len U1];exact h1
 refine (e_bin (e_bin rv (e_list (e_1 rfl) rfl) (add_list (b:=[nD i]) (Nat.lt_trans l1 (by decide)) (show 1 < 60 by decide))) cp (add_list ?_ ?_)).trans ?_
 ·rw [aq];exact Nat.lt_trans (Nat.succ_lt_succ l1) (by decide)
 ·rw [aB,bk_len U2];exact Nat.lt_trans lk (by decide)
 ·unfold natsD;rw [aC,aC];rfl
theorem is_nats:cmpV .isin (.d (nD u)) (.d (natsD l)) H=some (decide (u∈l)):=in_nats (H:=H)
noncomputable abbrev b8:List C:=[.ifs (.cmp .isin (.var 6) (.var 8)) [.ret .plain r8] [],.expr (.bmeth .append (.var 9) [.var 7])]
noncomputable def IsC (web:List Row) (x:V) (_:Hp):Prop:=∃ l,x=.d (natsD l)/\Circ web l
theorem closed_turn {s:S8} {z:Nat×Option Nat} {R:List (Nat×Option Nat)->S8->Prop} (T:Tr web b c) (W1:Way b c v (d++z::r)) (W2:Way b c o K) (s1:(d++z::r).length < 29) (s2:K.length < 29) (j:Joins web i v o) (hi:∀ u q,gA c u≠some (some (i,q))) (e:s.1=d) (hd:∀ a∈d.map (·.1),a∉K.map (·.1))
  (k:z.1∉K.map (·.1)->∀ w v6 v7,R (d++[z]) (d++[z],w,v6,v7)):WB Φ (.tup [.var 6,.var 7]) b8 (.d (bkE z)) (V8 jc v o i (d++z::r) K os.length s) (H8 os s) (Tn (V8 jc v o i (d++z::r) K os.length) (H8 os) (R (d++[z])) (RQ (IsC web))):=by
 subst e
 have lt:=Nat.lt_trans (pre_lt rfl) s1
 refine w_b rfl (w_ifP (P:=z.1∈K.map (·.1)) (e_cmp rfl rfl is_nats) (λhm=>?_) λnm=>w_nil (w_expr (e_bmeth rfl (kindL (g:=λp:Nat×Option Nat=>.d (oD p.2)) at_end) (e_1 rfl) rfl (kindL (g:=λp:Nat×Option Nat=>.d (oD p.2)) at_end) (app_lO (g:=λp:Nat×Option Nat=>.d (oD p.2)) (x:=z) at_end (Nat.lt_trans lt (by decide)))) (w_nil ⟨(s.1++[z],s.2.1+1,some (.d (nD z.1)),some (.d (oD z.2))),rfl,aN (λo=>(⟨o,s.2.1+1⟩:Hp)) set_end,k nm _ _ _⟩)))
 refine xea (aJ.mp hm) λq hq eq=>xee (List.append_of_mem hq) λk1 k2 eK=>?_
 obtain ⟨t,y⟩:=q
 cases eq
 subst eK
 have nt:z.1∉k1.map (·.1):=λm=>(az.mp (aC▸W2.nd)).2.2 z.1 m z.1 (.head _) rfl
 have U1:=W1.bk.up T W1.nd
 have U2:=W2.bk.up T W2.nd
 exact w_ret (closed_ret U1 U2 lt (Nat.lt_succ_of_lt s2) nt) ⟨_,rfl,circ_of T U1 U2 (λa ha m=>hd a ha (by rw [aC];exact ak _ m)) j hi⟩
theorem closed_loop {w:Nat} (T:Tr web b c) (W1:Way b c v W) (W2:Way b c o K) (s1:W.length < 29) (s2:K.length < 29) (j:Joins web i v o) (hi:∀ u q,gA c u≠some (some (i,q))):WP Φ [.fors false (.tup [.var 6,.var 7]) false (.var 4) b8,.ret .plain (.list [.var 3])] (V8 jc v o i W K os.length ([],w,none,none)) (H8 os ([],w,none,none)) (RQ (IsC web)):=
 w_for (V:=V8 jc v o i W K os.length) (H:=H8 os) (s:=([],w,none,none)) (l:=W) (emb:=λp=>.d (bkE p)) (R:=λd s=>s.1=d/\∀ a∈d.map (·.1),a∉K.map (·.1)) rfl it_lD (Nat.lt_trans s1 (by decide)) ⟨rfl,nofun⟩
  (λd x r s hd R=>by
   subst hd
   exact closed_turn (R:=λd s=>s.1=d/\∀ a∈d.map (·.1),a∉K.map (·.1)) T W1 W2 s1 s2 j hi R.1 R.2 λnm w v6 v7=>⟨rfl,λa ha=>(keys_snoc.mp ha).elim (R.2 a) λe=>e▸nm⟩)
  λs R=>absurd (List.mem_map_of_mem (f:=(·.1)) W2.last) (R.2 b (List.mem_map_of_mem (f:=(·.1)) W1.last))
theorem e_closed (T:Tr web b c) (hj:h.o[jc]?=some (cmO c)) (W1:Way b c v W) (W2:Way b c o K) (s1:W.length < 29) (s2:K.length < 29) (j:Joins web i v o) (hi:∀ u q,gA c u≠some (some (i,q))):CP (callF (fns (m+2)) (.f 8) [.ref jc,.d (nD v),.d (nD o),.d (nD i)] h) (IsC web):=
 xea (e_back (m:=m) hj W1.bk (Nat.lt_trans s1 (by decide))) λh1 e1 o1=>xea (e_back (m:=m) (h:=h1) (by rw [o1,at_low (lt_of hj)];exact hj) W2.bk (Nat.lt_trans s2 (by decide))) λh2 e2 u1=>
 have nm:∀ {vs:Vars},(vs[5]?).join=some (.d (.list (K.map bkE)))->evalX (fns (m+1)) (.comp 3 (.var 12) (.tup [.var 12,.var 13]) false (.var 5) false (.var 0) .none false .none) [some (.ref jc),some (.d (nD v)),some (.d (nD o)),some (.d (nD i)),some (.d (.list (W.map bkE))),some (.d (.list (K.map bkE))),none,none,none,none,none] h2=some (.d (natsD (K.map (·.1))),h2):=λu1=>(e_compM (xs:=K) (emb:=λp=>.d (bkE p)) (f:=λp=>nD p.1) rfl it_lD (Nat.lt_trans s2 (by decide)) (λp u1=>⟨_,rfl,rfl⟩)).trans (by unfold natsD;rw [aK];rfl)
 call_W rfl rfl rfl (w_par (p_old (e_fcall (e_cons rfl (e_1 rfl)) e1) (p_old (e_fcall (e_cons rfl (e_1 rfl)) e2) rfl)) (w_asg (nm (vs:=[none,none,none,none,none,some (.d (.list (K.map bkE)))]) rfl) (w_asgN rfl (closed_loop T W1 W2 s1 s2 j hi))))
end
section
variable {Φ:Fns} {Q:St->Prop} {web:List Row} {l d r:List Nat} {i bg m:Nat} {row:Row} {H h:Hp} {vs:Vars} {ei:X}
theorem rep_oD:Rep oD 0:=⟨λa=>by cases a <;> simp only [oD,nD,D.py,PyData.canLay0],λa=>by cases a <;> simp only [oD,nD,D.py,PyData.depth,Nat.le_refl],λa b=>by
 cases a <;> cases b <;> simp only [oD]
 ·simp [D.py,PyData.eqv]
 ·simp [D.py,nD,PyData.eqv]
 ·simp [D.py,nD,PyData.eqv]
 ·rw [rep_nD.eq];exact decide_eq_decide.mpr (Option.some_inj.symm)⟩
theorem dd_oD (a:Option Nat):(oD a).dd=none:=by cases a <;> rfl
theorem dedup_len {l:List Int} (h:l.Nodup):(dedup l).length=l.length:=((List.perm_ext_iff_of_nodup (dedup_nodup l) h).mpr λx=>dedup_mem x l).length_eq
theorem ints_nd (h:l.Nodup):(l.map λ(x:Nat)=>(x:Int)).Nodup:=List.Pairwise.map _ (λa b (h:a≠b) e=>h (Int.ofNat_inj.mp e)) h
theorem set_nats (hl:l.length < 60):bcallV .set [.d (natsD l)] H=some (.d (.iset (dedup (l.map λ(x:Nat)=>(x:Int))))):=by
 show (intsOf (l.map nD)).bind _=_
 exact bI (allM_map λu1=>rfl) (wh_t (smm hl))
theorem len_set {xs:List Int} (hl:xs.length < 1000):bcallV .len [.d (.iset xs)] H=some (.d (nD xs.length)):=mI (wh_t (aF hl))
theorem cmp_ne {a b:V} {t:Bool} (h:cmpV .eq a b H=some t):cmpV .ne a b H=some (!t):=mI h
theorem e_var {n:Nat} {v:V} (q:(vs[n]?).join=some v):evalX Φ (.var n) vs H=some (v,H):=mI q
theorem notin_nats {u:Nat}:cmpV .notin (.d (nD u)) (.d (natsD l)) H=some (!decide (u∈l)):=mI (in_nats (H:=H))
theorem walk_one {c:Nat}:walkR web c [i]=stepR web c i:=by
 show (stepR web c i).bind some=_
 cases stepR web c i <;> rfl
theorem e_side (hr:web[i]?=some row) (hi:i < 1000) (hv:(vs[0]?).join=some (.d (webD web))) (he:evalX Φ ei vs H=some (.d (nD i),H)) :
  evalX Φ (.list [.item (.item (.item (.var 0) ei) (.int 0)) (.int 0),.item (.item (.item (.var 0) ei) (.int 1)) (.int 0)]) vs H=some (.d (natsD [row.1.1,row.2.1]),H):=
 have e0:=e_item (e_var (Φ:=Φ) hv) he (item_lD (f:=rowD) hr hi)
 e_list (e_cons (e_item (e_item e0 rfl rfl) rfl rfl) (e_1 (e_item (e_item e0 rfl rfl) rfl rfl))) rfl
theorem step_at {cur:Nat} (hr:web[i]?=some row):stepR web cur i=if cur∈[row.1.1,row.2.1] then some (if cur=row.1.1 then row.2.1 else row.1.1) else none:=by
 unfold stepR
 rw [hr]
 show (if cur=row.1.1 then some row.2.1 else if cur=row.2.1 then some row.1.1 else none)=_
 by_cases h:cur=row.1.1
 ·rw [aQ h,aQ (h▸.head _),aQ h]
 ·rw [aP h,aP h]
  by_cases k:cur=row.2.1
  ·rw [aQ k,aQ (k▸.tail _ (.head _))]
  ·rw [aP k,aP λz=>(aG.mp z).elim h λz=>k (ao.mp z)]
abbrev S6:=Option Nat×Option V×Option V
noncomputable def V6 (web:List Row) (l:List Nat) (bg:Nat) (s:S6):Vars:=[some (.d (webD web)),some (.d (natsD l)),some (.d (nD bg)),some (.d (oD s.1)),s.2.1,s.2.2,none,none]
noncomputable abbrev H0 {α:Type} (_:α):Hp:=⟨[],0⟩
noncomputable abbrev b16:List C:=[.asg 5 (.list [.item (.item (.item (.var 0) (.var 4)) (.int 0)) (.int 0),.item (.item (.item (.var 0) (.var 4)) (.int 1)) (.int 0)]),.ifs (.cmp .notin (.var 3) (.var 5)) [.asg 3 .none,.brk] [],.asg 3 (.ite (.cmp .eq (.var 3) (.item (.var 5) (.int 0))) (.item (.var 5) (.int 1)) (.item (.var 5) (.int 0)))]
theorem walk_turn {s:S6} (hi:i < 1000) (hr:web[i]?=some row) (e:s.1=walkR web bg d) (hs:s.1.isSome=true):WB Φ (.var 4) b16 (.d (nD i)) (V6 web l bg s) (H0 s)
  (TnB (V6 web l bg) H0 (λs=>s.1=walkR web bg (d++[i])/\s.1.isSome=true) (λs=>s.1=none/\∀ r,walkR web bg (d++i::r)=none) Q):=xe (Option.isSome_iff_exists.mp hs) λcur hc=>by
 have ec:=hc.symm.trans e
 have in3:∀ {vs:Vars} {H:Hp},(vs[3]?).join=some (.d (oD s.1))->evalX Φ (.var 3) vs H=some (.d (nD cur),H):=λh=>e_var (h.trans (by rw [hc];rfl))
 refine w_b rfl (w_asg (e_side hr hi rfl rfl) (w_ifN (P:=cur∈[row.1.1,row.2.1]) (e_cmp (in3 rfl) rfl notin_nats) (λnm=>?_) λmm=>w_nil ?_))
 ·exact w_asg rfl (w_brk ⟨(none,some (.d (nD i)),some (.d (natsD [row.1.1,row.2.1]))),rfl,rfl,rfl,λr=>walk_bind.trans (bI ec.symm (aN (Option.bind · λx=>walkR web x r) ((step_at hr).trans (aP nm))))⟩)
 ·have ei:=e_ite (Φ:=Φ) (a:=.item (.var 5) (.int 1)) (b:=.item (.var 5) (.int 0)) (e_cmp (in3 (vs:=((V6 web l bg s).set 4 (some (.d (nD i)))).set 5 (some (.d (natsD [row.1.1,row.2.1])))) (H:=H0 s) rfl) (b:=.item (.var 5) (.int 0)) (e_item rfl rfl rfl) (cmp_eqD rep_nD (by decide) (b:=row.1.1) λu1=>rfl)) (λu1=>e_item rfl rfl rfl) λu1=>e_item rfl rfl rfl
  refine w_asg (ei.trans (aN (λx=>some (x,H0 s)) (apply_ite (λx=>V.d (nD x)) _ row.2.1 row.1.1).symm)) (w_nil ⟨(some (if cur=row.1.1 then row.2.1 else row.1.1),some (.d (nD i)),some (.d (natsD [row.1.1,row.2.1]))),rfl,rfl,(walk_bind.trans (bI ec.symm (walk_one.trans ((step_at hr).trans (aQ mm))))).symm,rfl⟩)
abbrev S16:=Option V×Option V×Option V×Option V
noncomputable def V16 (web:List Row) (l:List Nat) (s:S16):Vars:=[some (.d (webD web)),some (.d (natsD l)),s.1,s.2.1,s.2.2.1,s.2.2.2,none,none]
noncomputable abbrev c16:List C:=[.asg 3 (.var 2),.fors false (.var 4) false (.var 1) b16,.ifs (.cmp .eq (.var 3) (.var 2)) [.ret .plain (.bool true)] []]
theorem begin_turn {s:S16} (hw:web.length<=9) (C:Circ web l) (hR:∀ b∈d,walkR web b l≠some b):WB Φ (.var 2) c16 (.d (nD bg)) (V16 web l s) (H0 s) (Tn (V16 web l) H0 (λu1=>∀ b∈d++[bg],walkR web b l≠some b) λo=>o.1=.ret (.d (.bool true))):=by
 have hl:l.length<=9:=aI (nodup_len C.nd C.lt) hw
 refine w_b rfl (w_asg rfl (w_forB (V:=V6 web l bg) (H:=H0) (s:=(some bg,s.2.2.1,s.2.2.2)) (l:=l) (emb:=λi=>.d (nD i)) (R:=λd s=>s.1=walkR web bg d/\s.1.isSome=true) (B:=λs=>s.1=none/\walkR web bg l=none) rfl it_lD (lt9 hl) ⟨rfl,rfl⟩ (λd i r s hd R=>?_) λs R=>?_))
 ·have hi:=C.lt i (hd▸aj _ (.head _))
  refine xea (walk_turn (Q:=λo=>o.1=.ret (.d (.bool true))) (Nat.lt_trans hi (au hw (by decide))) (ad hi) R.1 R.2) λo e z=>⟨o,e,?_⟩
  obtain ⟨f,vs,H⟩:=o
  cases f with
  | brk=>exact xeaa z λs e1 e2 b=>⟨s,e1,e2,b.1,hd▸b.2 r⟩
  | _=>exact z
 ·have e:s.1=walkR web bg l:=R.elim And.left λb=>b.1.trans b.2.symm
  refine w_ifP (P:=s.1=some bg) (e_cmp rfl rfl (cmp_eqD rep_oD (by decide) (b:=some bg) dd_oD)) (λu1=>w_ret rfl rfl) λne=>w_nil (w_nil ⟨(some (.d (nD bg)),some (.d (oD s.1)),s.2.1,s.2.2),rfl,rfl,λb hb=>(aD.mp hb).elim (hR b) λhb=>?_⟩)
  rw [ao.mp hb,← e];exact ne
theorem e_isCircle (hw:web.length<=9) (C:Circ web l):callF (fns (m+1)) (.f 16) [.d (webD web),.d (natsD l)] h=some (.d (.bool true),h):=by
 have hl:l.length<=9:=aI (nodup_len C.nd C.lt) hw
 have c1:cmpV .eq (.d (natsD l)) (.d (.list [])) ⟨[],0⟩=some (decide (l=[])):=cmp_eqD rep_natsD (by decide) (b:=[]) λu1=>rfl
 have dl:=dedup_len (ints_nd C.nd)
 rw [aB] at dl
 have c2:=e_cmp (Φ:=fns m) (op:=.ne) (vs:=V16 web l (none,none,none,none)) (h:=⟨[],0⟩) (e_bcall (es:=[.bcall .set [.var 1]]) (e_1 (e_bcall (e_1 rfl) (set_nats (lt9 hl)))) (len_set (by rw [dl];exact au hl (by decide)))) (e_bcall (f:=.len) (es:=[.var 1]) (e_1 rfl) (len_lD (f:=nD) (l:=l) (au hl (by decide)))) (cmp_ne (cmp_eqD rep_nD (by decide) λu1=>rfl))
 refine call_pureW rfl rfl rfl rfl (w_if (e_or (e_cmp rfl rfl c1) λu1=>c2) (λt=>absurd t ?_) λu1=>w_nil ?_)
 ·rw [decide_eq_false C.ne,dl,aF rfl];exact Bool.noConfusion
 ·obtain ⟨i0,l0,rfl⟩:=List.exists_cons_of_ne_nil C.ne
  have hr:=ad (C.lt i0 (.head _))
  refine w_for (V:=V16 web (i0::l0)) (H:=H0) (s:=(none,none,none,none)) (l:=[(web[i0]'(C.lt i0 (.head _))).1.1,(web[i0]'(C.lt i0 (.head _))).2.1]) (emb:=λi=>.d (nD i)) (R:=λd u1=>∀ b∈d,walkR web b (i0::l0)≠some b)
   (e_side hr (Nat.lt_trans (C.lt i0 (.head _)) (au hw (by decide))) rfl (e_item rfl rfl rfl)) it_lD (show 2 < 60 by decide) nofun (λd x r s u1 R=>begin_turn hw C R) λs R=>xe C.walk λm e=>absurd e (R m ?_)
  have e:(stepR web m i0).bind _=some m:=e
  rw [step_at hr] at e
  by_cases k:m∈[(web[i0]'(C.lt i0 (.head _))).1.1,(web[i0]'(C.lt i0 (.head _))).2.1]
  ·exact k
  ·rw [aP k] at e;cases e
end
noncomputable def Done (c:Came) (v i o:Nat):Prop:=(∃ p,gA c v=some (some (i,p)))\/gA c o=some (some (i,v))
structure SI (web:List Row) (b:Nat) (hp:Nat->Prop) (d:List End) (c:Came) (t:List Nat):Prop where
 tr:Tr web b c
 tn:t.Nodup
 ts:∀ x∈t,x∈c.map (·.1)
 hk:∀ v,hp v->v∈c.map (·.1)/\v∉t
 pr:∀ v∈c.map (·.1),v∉t->¬ hp v->∀ i o,Joins web i v o->Done c v i o
 pd:∀ v,hp v->∀ q∈d,Done c v q.1 q.2
 pa:∀ v i p,gA c v=some (some (i,p))->p∉t/\(hp p->(i,v)∈d)
section
variable {web:List Row} {b h i o v:Nat} {c:Came} {t:List Nat} {d r:List End} {x:Option End}
theorem dup_loop (e:sAt (sides web) v=d++(i,o)::r) (h:(i,o)∈d):o=v:=by
 have P:∀ l:List (Row×Nat),(l.map (·.2)).Nodup->(sAt (sidesL l) v).Pairwise λa b=>a=b->a.2=v:=λl=>by
  induction l using snoc_ind with
  | h0=>exact λu1=>.nil
  | h1 l q ih=>
   intro nd
   rw [aC] at nd
   have nd:=az.mp nd
   have fresh:∀ {p:End},p∈sAt (sidesL l) v->p.1≠q.2:=λ{p} m e=>xea (mem_sidesL.mp (show (p.1,p.2)∈_ from m)) λr m u1=>nd.2.2 _ (aJ.mpr ⟨_,m,rfl⟩) _ (.head _) e
   rw [sidesL_snoc]
   have add:∀ {s:Sd} {k:Nat} {p:End},(sAt s v).Pairwise (λa b=>a=b->a.2=v)->(k=v->∀ a∈sAt s v,a=p->a.2=v)->(sAt (addA s k p) v).Pairwise λa b=>a=b->a.2=v:=λ{s k p} hs hp=>by
    unfold sAt addA
    rw [gA_sA]
    by_cases z:k=v
    ·rw [aQ z,z]
     exact List.pairwise_append.mpr ⟨hs,List.pairwise_singleton _ _,λa ha b hb e=>hp z a ha (e.trans (ao.mp hb))⟩
    ·rw [aP z];exact hs
   exact add (add (ih nd.1) λu1 a ha e=>absurd (aN Prod.fst e) (fresh ha)) λz a ha e=>(mem_addA.mp ha).elim (λm=>absurd (aN Prod.fst e) (fresh m)) λm=>(aN Prod.snd e).trans m.1
 have p:=P web.zipIdx (by rw [List.zipIdx_map_snd];exact List.nodup_range')
 rw [show sAt (sidesL web.zipIdx) v=_ from e] at p
 exact (List.pairwise_append.mp p).2.2 (i,o) h (i,o) (.head _) rfl
theorem Done.snoc {y z:Nat} (D:Done c v y z) (h:o∉c.map (·.1)):Done (c++[(o,x)]) v y z:=D.imp (λD=>xe D λp e=>⟨p,gA_lift h e⟩) (gA_lift h)
theorem SI.one:SI web b (λu1=>False) [] [(b,none)] [b] where
 tr:=.one
 tn:=List.nodup_cons.mpr ⟨aA,.nil⟩
 ts _:=id
 hk _:=False.elim
 pr v hv hn:=absurd hv hn
 pd _:=False.elim
 pa v i p e:=((Tr.one (web:=web)).joins e).2 (ao.mp (gA_key e)) |>.elim
theorem SI.pop (I:SI web b (λu1=>False) [] c (t++[h])):SI web b (·=h) [] c t where
 tr:=I.tr
 tn:=(az.mp I.tn).1
 ts x hx:=I.ts x (ak _ hx)
 hk v e:=e▸⟨I.ts h (aj _ (.head _)),λz=>(az.mp I.tn).2.2 h z h (.head _) rfl⟩
 pr v hv hn hh:=I.pr v hv (λz=>(aD.mp z).elim hn λz=>hh (ao.mp z)) id
 pd _ _:=nofun
 pa v i p e:=have q:=(I.pa v i p e).1;⟨λz=>q (ak _ z),λz=>absurd (aj _ (z▸.head _)) q⟩
theorem SI.back (I:SI web b (·=h) (sAt (sides web) h) c t):SI web b (λu1=>False) [] c t where
 tr:=I.tr
 tn:=I.tn
 ts:=I.ts
 hk _:=False.elim
 pr v hv hn _ i o j:=(Classical.em (v=h)).elim (λe=>I.pd v e (i,o) (mem_sAt.mpr (e▸j))) λe=>I.pr v hv hn e i o j
 pd _:=False.elim
 pa v i p e:=⟨(I.pa v i p e).1,False.elim⟩
theorem SI.skip {p:Nat} (I:SI web b (·=h) d c t) (e:gA c h=some (some (i,p))):SI web b (·=h) (d++[(i,o)]) c t:={ I with
 pd:=λv z q hq=>(aD.mp hq).elim (I.pd v z q) λhq=>.inl ⟨p,by rw [z,ao.mp hq];exact e⟩
 pa:=λv i p e=>⟨(I.pa v i p e).1,λz=>ak _ ((I.pa v i p e).2 z)⟩ }
theorem SI.add (I:SI web b (·=h) d c t) (j:Joins web i h o) (ho:o∉c.map (·.1)):SI web b (·=h) (d++[(i,o)]) (c++[(o,some (i,h))]) (t++[o]) where
 tr:=I.tr.add (I.hk h rfl).1 ho j
 tn:=nd_snoc I.tn λz=>ho (I.ts o z)
 ts x hx:=keys_snoc.mpr ((aD.mp hx).imp (I.ts x) ao.mp)
 hk v e:=⟨keys_snoc.mpr (.inl (I.hk v e).1),λz=>(aD.mp z).elim (I.hk v e).2 λz=>ho (ao.mp z▸(I.hk v e).1)⟩
 pr v hv hn hh i' o' j':=(keys_snoc.mp hv).elim (λhv=>(I.pr v hv (λz=>hn (ak _ z)) hh i' o' j').snoc ho) λe=>absurd (aj _ (e▸.head _)) hn
 pd v e q hq:=(aD.mp hq).elim (λhq=>(I.pd v e q hq).snoc ho) λhq=>.inr (by rw [ao.mp hq,e];exact gA_self ho)
 pa v i' p e:=(gA_inv ho e).elim (λz=>by
  obtain ⟨rfl,z⟩:=z
  cases z
  exact ⟨λz=>(aD.mp z).elim (I.hk h rfl).2 λz=>ho (ao.mp z▸(I.hk h rfl).1),λu1=>aj _ (.head _)⟩) λe=>have q:=I.pa v i' p e;⟨λz=>(aD.mp z).elim q.1 λz=>ho (ao.mp z▸I.tr.pkey e),λz=>ak _ (q.2 z)⟩
theorem SI.fresh (I:SI web b (·=h) d c t) (e:sAt (sides web) h=d++(i,o)::r) (hA:∀ p,gA c h≠some (some (i,p))):∀ u q,gA c u≠some (some (i,q)):=λu q eu=>by
 have j:Joins web i h o:=mem_sAt.mp (e▸aj _ (.head _))
 refine (j.same (I.tr.joins eu).1).elim (λz=>?_) λz=>hA q (z.1▸eu)
 have m:=(I.pa u i q eu).2 z.1.symm
 have:=dup_loop e (z.2▸m)
 exact hA q (this▸z.2▸eu)
theorem SI.closed (I:SI web b (λu1=>False) [] c []) {x y:Nat} (hx:x∈c.map (·.1)) (h:Conn web x y):y∈c.map (·.1):=h.closed hx λu v hu a=>xe (adj_joins a) λi j=>
 (I.pr u hu aA id i v j).elim (λD=>xe D λp e=>((I.tr.joins e).1.same j).elim (λz=>z.2▸hu) λz=>z.1▸I.tr.pkey e) gA_key
end
structure FX (n:Nat) (web:List Row) (b:Nat) (M0:List Nat):Prop where
 hn:n<=6
 L:Low n web
 hw:web.length<=9
 hb:b < n
 mn:M0.Nodup
 ml:∀ x∈M0,x < n
 md:∀ x∈M0,¬ Conn web b x
abbrev S9:=Came×List Nat×Nat×Option V×Option V×Option V
noncomputable def V9 (sd:Sd) (b jl:Nat) (s:S9):Vars:=[some (.d (sidesD sd)),some (.d (nD b)),some (.ref 0),some (.ref (jl+1)),some (.ref (jl+2)),s.2.2.2.1,s.2.2.2.2.1,s.2.2.2.2.2,none]
noncomputable def H9 (M0:List Nat) (J:List O) (s:S9):Hp:=⟨mkO (M0++s.1.map (·.1))::(J++[cmO s.1,lsO s.2.1]),s.2.2.1⟩
noncomputable def Told (web:List Row) (n:Nat) (v:V) (h:Hp):Prop:=IsC web v h/\∀ μ,IsLeast n web μ->(nonfix n μ).length < web.length
section
variable {n m b h k:Nat} {web:List Row} {M0:List Nat} {J:List O} {s:S9} {d r:List End} {q:End} {c:Came} {t:List Nat} {a y z x:O} {Q:St->Prop} {Ps:V->Hp->Prop}
theorem g1:(x::(J++[y,z]))[J.length+1]?=some y:=get_app (l:=J) (r:=[y,z]) (i:=0)
theorem g2:(x::(J++[y,z]))[J.length+2]?=some z:=get_app (l:=J) (r:=[y,z]) (i:=1)
theorem s1:(x::(J++[y,z])).set (J.length+1) a=x::(J++[a,z]):=aN (x::·) (set_app (l:=J) (r:=[y,z]) (i:=0))
theorem s2:(x::(J++[y,z])).set (J.length+2) a=x::(J++[y,a]):=aN (x::·) (set_app (l:=J) (r:=[y,z]) (i:=1))
theorem FX.low (F:FX n web b M0) (T:Tr web b c):∀ x∈c.map (·.1),x < n:=λx m=>F.L.conn F.hb (T.conn x m)
theorem FX.len (F:FX n web b M0) (T:Tr web b c):c.length<=n:=aB (f:=(·.1)) (as:=c)▸nodup_len T.keys (F.low T)
theorem FX.all (F:FX n web b M0) (T:Tr web b c):(M0++c.map (·.1)).length<=n:=nodup_len (az.mpr ⟨F.mn,T.keys,λa ha x hx e=>F.md a ha (e▸T.conn x hx)⟩) λx m=>(aD.mp m).elim (F.ml x) (F.low T x)
theorem is_dO {κ α:Type} [DecidableEq κ] {kf:κ->Key} {kd:κ->D} (K:KK kf kd) {f:α->V} {s:List (κ×α)} {k:κ} {j:Nat} {H:Hp} (h:H.o[j]?=some (dO kf f s)):cmpV .isin (.d (kd k)) (.ref j) H=some (decide (k∈s.map (·.1))):=in_dO K h
noncomputable abbrev b6:List C:=[.ifs (.cmp .eq (.var 6) (.item (.item (.var 3) (.var 5)) (.int 0))) [.cont] [],.ifs (.cmp .isin (.var 7) (.var 3)) [.ret .plain (.fcall 8 [.var 3,.var 5,.var 7,.var 6])] [],.setI (.var 3) (.var 7) (.tup [.var 6,.var 5]),.setI (.var 2) (.var 7) (.bool true),.expr (.bmeth .append (.var 4) [.var 7])]
structure FR (n:Nat) (web:List Row) (b h k:Nat) (d:List End) (s:S9):Prop where
 I:SI web b (·=h) d s.1 s.2.1
 v5:s.2.2.2.1=some (.d (nD h))
 mu:(n - s.1.length)+s.2.1.length<=k
theorem way_len {v:Nat} {l:List (Nat×Option Nat)} (W:Way b c v l):l.length<=c.length:=aB (f:=(·.1)) (as:=l)▸aB (f:=(·.1)) (as:=c)▸W.nd.length_le_of_subset W.sub
theorem from_turn (F:FX n web b M0) (hd:sAt (sides web) h=d++q::r) (D:FR n web b h k d s) (hQ:∀ v vs h,Told web n v h->Q (.ret v,vs,h)):WB (fns (m+2)) (.tup [.var 6,.var 7]) b6 (.d (endD q)) (V9 (sides web) b J.length s) (H9 M0 J s) (Tn (V9 (sides web) b J.length) (H9 M0 J) (FR n web b h k (d++[q])) Q):=by
 have j:Joins web q.1 h q.2:=mem_sAt.mp (show (q.1,q.2)∈_ from hd▸aj _ (.head _))
 have hk:=(D.I.hk h rfl).1
 have T:=D.I.tr
 have cl:=F.len T
 have i5:∀ {o6 o7:Option V} {H:Hp},evalX (fns (m+2)) (.var 5) (V9 (sides web) b J.length (s.1,s.2.1,s.2.2.1,s.2.2.2.1,o6,o7)) H=some (.d (nD h),H):=e_var ((aN Option.join (aN some D.v5)))
 refine xe (gA_some hk) λx hx=>?_
 have it1:itemV (.ref (J.length+1)) (.d (nD h)) (H9 M0 J s)=some (.d (cmD x)):=item_dO kN (f:=λx=>.d (cmD x)) (s:=s.1) g1 hx
 have it2:itemV (.d (cmD x)) (.d (.int 0)) (H9 M0 J s)=some (.d (oD (x.map (·.1)))):=by cases x <;> rfl
 refine w_b (vs1:=V9 (sides web) b J.length (s.1,s.2.1,s.2.2.1,s.2.2.2.1,some (.d (nD q.1)),some (.d (nD q.2)))) rfl (w_ifP (P:=some q.1=x.map (·.1)) (e_cmp rfl (e_item (e_item rfl i5 it1) rfl it2) (cmp_eqD rep_oD (by decide) (a:=some q.1) dd_oD)) (λe=>w_cont ?_) λnA=>w_nil (w_ifP (P:=q.2∈s.1.map (·.1)) (e_cmp rfl rfl (is_dO kN (f:=λx=>.d (cmD x)) (s:=s.1) g1)) (λmm=>?_) λnm=>w_nil ?_))
 ·cases x with
  | none=>cases e
  | some p=>exact ⟨(s.1,s.2.1,s.2.2.1,s.2.2.2.1,some (.d (nD q.1)),some (.d (nD q.2))),rfl,rfl,D.I.skip (p:=p.2) (hx.trans (aN (λz=>some (some (z,p.2))) (aE e.symm))),D.v5,D.mu⟩
 ·have fr:=D.I.fresh hd λp e=>nA (by rw [hx] at e;rw [aE e];rfl)
  exact xe (T.back h hk) λW w1=>xe (T.back q.2 mm) λK w2=>xea (e_closed (m:=m) (i:=q.1) (h:=H9 M0 J s) (jc:=J.length+1) T g1 w1 w2 (au (aI (way_len w1) cl) (au F.hn (by decide))) (au (aI (way_len w2) cl) (au F.hn (by decide))) j fr) λp e8 C=>
   w_ret (e_fcall (e_cons rfl (e_cons i5 (e_cons rfl (e_1 rfl)))) e8) (hQ _ _ _ ⟨C,λμ I=>rows_gt F.L I T hk mm j fr⟩)
 ·have I':=D.I.add j nm
  have kn:s.1++[(q.2,some (q.1,h))]=sA s.1 q.2 (some (q.1,h)):=(sA_new nm).symm
  have nM:q.2∉M0++(s.1.map (·.1)):=λz=>(aD.mp z).elim (λz=>F.md _ z ((T.conn h hk).step j.adj)) nm
  have tl:s.2.1.length<=n:=nodup_len D.I.tn λx hx=>F.low T x (D.I.ts x hx)
  have st1:setItemV (.ref (J.length+1)) (.d (nD q.2)) (.d (cmD (some (q.1,h)))) (H9 M0 J s)=some ⟨mkO (M0++s.1.map (·.1))::(J++[cmO (s.1++[(q.2,some (q.1,h))]),lsO s.2.1]),s.2.2.1+1⟩:=(set_dO kN (f:=λx=>.d (cmD x)) (s:=s.1) (x:=some (q.1,h)) g1 (au cl (lt6 F.hn))).trans (by rw [kn];exact aN (λo=>some (⟨o,s.2.2.1+1⟩:Hp)) s1)
  have st2:setItemV (.ref 0) (.d (nD q.2)) (.d (.bool true)) ⟨mkO (M0++s.1.map (·.1))::(J++[cmO (s.1++[(q.2,some (q.1,h))]),lsO s.2.1]),s.2.2.1+1⟩=some ⟨mkO (M0++(s.1++[(q.2,some (q.1,h))]).map (·.1))::(J++[cmO (s.1++[(q.2,some (q.1,h))]),lsO s.2.1]),s.2.2.1+1+1⟩:=(set_mk (l:=M0++s.1.map (·.1)) rfl (au (F.all T) (lt6 F.hn)) nM).trans (by rw [aC,← ax];rfl)
  refine w_setI (e_tup (e_cons rfl (e_1 i5)) rfl) rfl rfl st1 (w_setI rfl rfl rfl st2 (w_expr (e_bmeth rfl (kindL (g:=λx=>.d (nD x)) g2) (e_1 rfl) rfl (kindL (g:=λx=>.d (nD x)) g2) (app_lO (g:=λx=>.d (nD x)) (x:=q.2) (l:=s.2.1) g2 (au tl (lt6 F.hn)))) (w_nil ⟨(s.1++[(q.2,some (q.1,h))],s.2.1++[q.2],s.2.2.1+1+1+1,s.2.2.2.1,some (.d (nD q.1)),some (.d (nD q.2))),rfl,aN (λo=>(⟨o,s.2.2.1+1+1+1⟩:Hp)) s2,I',D.v5,?_⟩)))
  have l':=F.len I'.tr
  rw [aq] at l'
  rw [aq,aq]
  exact mu_add D.mu l'
end
section
variable {n m b w:Nat} {web:List Row} {M0:List Nat} {J:List O} {s:S9} {c:Came} {Q:St->Prop} {Ps:V->Hp->Prop}
theorem Tr.side (T:Tr web b c) (hb:b∈(sides web).map (·.1)):∀ x∈c.map (·.1),x∈(sides web).map (·.1):=λx m=>xe (T.back x m) λl W=>by
 cases W.bk with
 | root=>
  have e:b=x:=aN Prod.fst (ao.mp W.last)
  rw [← e];exact hb
 | step e=>exact key_adj (T.joins e).1.symm.adj
noncomputable abbrev mu9 (n:Nat) (s:S9):Nat:=(n - s.1.length)+s.2.1.length
theorem from_body (F:FX n web b M0) (hb:b∈(sides web).map (·.1)) (I:SI web b (λu1=>False) [] s.1 s.2.1) (ne:s.2.1≠[]) (hQ:∀ v vs h,Told web n v h->Q (.ret v,vs,h)):WP (fns (m+2)) [.asg 5 (.bmeth .pop (.var 4) []),.fors false (.tup [.var 6,.var 7]) false (.item (.var 0) (.var 5)) b6] (V9 (sides web) b J.length s) (H9 M0 J s)
  (Tn (V9 (sides web) b J.length) (H9 M0 J) (λs'=>SI web b (λu1=>False) [] s'.1 s'.2.1/\mu9 n s' < mu9 n s) Q):=
 xee ((List.eq_nil_or_concat s.2.1).resolve_left ne) λt0 h e=>by
  rw [List.concat_eq_append] at e
  have I0:=I
  rw [e] at I0
  have tl:t0.length < 59:=au (nodup_len (az.mp I0.tn).1 λx hx=>F.low I.tr x (I0.ts x (ak _ hx))) (au F.hn (by decide))
  have pop:bmethV .pop (.ref (J.length+2)) [] (H9 M0 J s)=some (.d (nD h),H9 M0 J (s.1,t0,s.2.2.1+1,s.2.2.2)):=(pop_lO (g:=λx=>.d (nD x)) (x:=h) (l:=t0) (g2.trans (aN (λt=>some (lsO t)) e)) tl).trans (aN (λo=>some (V.d (nD h),(⟨o,s.2.2.1+1⟩:Hp))) s2)
  refine w_asg (e_bmeth rfl (kindL (g:=λx=>.d (nD x)) g2) e_nil rfl (kindL (g:=λx=>.d (nD x)) g2) pop) (w_for (V:=V9 (sides web) b J.length) (H:=H9 M0 J) (s:=(s.1,t0,s.2.2.1+1,some (.d (nD h)),s.2.2.2.2.1,s.2.2.2.2.2)) (l:=sAt (sides web) h) (emb:=λq=>.d (endD q)) (R:=FR n web b h ((n - s.1.length)+t0.length))
   (e_item rfl rfl (item_sides (I.tr.side hb h (I0.ts h (aj _ (.head _)))))) it_lD (au len_sAt (au (Nat.mul_le_mul_left 2 F.hw) (by decide))) ⟨I0.pop,rfl,Nat.le_refl _⟩ (λd q r s' hd D=>from_turn F hd D hQ) λs' D=>w_nil ⟨s',rfl,rfl,D.I.back,?_⟩)
  show _ < (n - s.1.length)+s.2.1.length
  rw [e,aq]
  exact Nat.lt_succ_of_le D.mu
inductive CF (n:Nat) (web:List Row) (b:Nat) (M0:List Nat) (v:V) (h:Hp):Prop
 | non (c:Came) (J:List O) (w:Nat) (e:v=.d (.list [])) (eh:h=⟨mkO (M0++c.map (·.1))::J,w⟩) (I:SI web b (λu1=>False) [] c [])
 | told (T:Told web n v h)
theorem e_from (F:FX n web b M0) (hb:b∈(sides web).map (·.1)):CP (callF (fns (m+3)) (.f 6) [.d (sidesD (sides web)),.d (nD b),.ref 0] ⟨mkO M0::J,w⟩) (CF n web b M0):=by
 have par:evalPar (fns (m+2)) [true,true] [.dict [.var 1,.tup [.none,.none]],.list [.var 1]] [some (.d (sidesD (sides web))),some (.d (nD b)),some (.ref 0),none,none,none,none,none,none] ⟨mkO M0::J,w⟩=some ([.ref (J.length+1),.ref (J.length+2)],⟨mkO M0::(J++[cmO [(b,none)],lsO [b]]),w⟩):=(p_new (o:=cmO [(b,none)]) (h1:=⟨mkO M0::J,w⟩) rfl (p_new (o:=lsO [b]) (h1:=⟨mkO M0::J++[cmO [(b,none)]],w⟩) rfl rfl)).trans (by
  show some ([V.ref (J.length+1),V.ref (mkO M0::J++[cmO [(b,none)]]).length],(⟨mkO M0::J++[cmO [(b,none)]]++[lsO [b]],w⟩:Hp))=_
  rw [aq,ax];rfl)
 have st:=set_mk (H:=⟨mkO M0::(J++[cmO [(b,none)],lsO [b]]),w⟩) (j:=0) (x:=b) (l:=M0) rfl (au (nodup_len F.mn F.ml) (lt6 F.hn)) λz=>F.md b z .refl
 exact call_W rfl rfl rfl (w_par par (w_setI rfl rfl rfl st (w_while (V:=V9 (sides web) b J.length) (H:=H9 M0 J) (s:=([(b,none)],[b],w+1,none,none,none)) (R:=λs=>SI web b (λu1=>False) [] s.1 s.2.1) (μ:=mu9 n) (t:=λs=>decide (s.2.1≠[])) .one (au (Nat.add_le_add_right (aI (Nat.sub_le n 1) F.hn) 1) (by decide))
  (λs u1=>e_cmp rfl rfl (ne_lO rep_nD (by decide) g2)) (λs I ne=>from_body F hb I (aw ne) λv vs h T=>.told T) λs I e=>w_ret rfl (.non s.1 _ _ rfl rfl ((Decidable.not_not.mp (of_decide_eq_false e))▸I)))))
end
section
variable {n m b w:Nat} {web:List Row} {M d r:List Nat} {c:Came} {μ:Nat->Nat} {F:List End} {h:Hp} {v i:Nat}
noncomputable def newF (c:Came):List End:=c.filterMap λp=>p.2.map λq=>(p.1,q.1)
theorem newF_mem (nd:(c.map (·.1)).Nodup):(v,i)∈newF c↔∃ p,gA c v=some (some (i,p)):=List.mem_filterMap.trans ⟨λh=>xea h λq m e=>by
 obtain ⟨u,x⟩:=q
 cases x with
 | none=>cases e
 | some q=>cases e;exact ⟨q.2,gA_of_mem nd m⟩,λh=>xe h λp e=>⟨(v,some (i,p)),gA_mem e,rfl⟩⟩
theorem newF_keys:((newF c).map (·.1)).Sublist (c.map (·.1)):=by
 unfold newF
 induction c with
 | nil=>exact .slnil
 | cons a c ih=>
  obtain ⟨k,y⟩:=a
  cases y with
  | none=>exact .cons _ ih
  | some z=>exact .cons₂ _ ih
structure Met (web:List Row) (n:Nat) (μ:Nat->Nat) (d M:List Nat) (F:List End):Prop where
 nd:M.Nodup
 low:∀ x∈M,x < n
 cl:∀ x∈M,∀ y,Conn web x y->y∈M
 all:∀ x∈d,x∈M
 fn:(F.map (·.1)).Nodup
 fm:∀ v∈F.map (·.1),v∈M/\μ v≠v
 fr:∀ i a o,Joins web i a o->a∈M->i∈F.map (·.2)
noncomputable def keysL (n:Nat) (web:List Row):List Nat:=(List.range n).filter λx=>decide (x∈(sides web).map (·.1))
theorem mem_keysL:v∈keysL n web↔v < n/\v∈(sides web).map (·.1):=List.mem_filter.trans (and_congr List.mem_range decide_eq_true_iff)
theorem adj_key (h:v∈(sides web).map (·.1)):∃ o,Adj web v o:=xeeea (keys_sides.2.mp h) λo r i m j=>⟨o,r,List.mem_of_getElem? (List.mem_zipIdx_iff_getElem?.mp m),j⟩
theorem Met.add (T:Met web n μ d M F) (L:Low n web) (I:IsLeast n web μ) (hb:b < n) (hbm:b∉M) (O:SI web b (λu1=>False) [] c []) (hk:b∈(sides web).map (·.1)) (e:keysL n web=d++b::r):Met web n μ (d++[b]) (M++c.map (·.1)) (F++newF c):=by
 have md:∀ x∈M,¬ Conn web b x:=λx hx h=>hbm (T.cl x hx b h.symm)
 have cb:=(I b hb).1
 have fixb:μ b=b:=Nat.le_antisymm (I.le hb) (Nat.le_of_not_lt λlt=>md (μ b) (T.all _ (by
  have hm:μ b∈keysL n web:=mem_keysL.mpr ⟨I.low L hb,by
   generalize μ b=z at cb lt
   cases cb with
   | refl=>exact absurd lt (Nat.lt_irrefl _)
   | step u1 q=>exact key_adj q.symm⟩
  have ps:(keysL n web).Pairwise (· < ·):=List.Pairwise.filter _ List.pairwise_lt_range
  rw [e] at hm ps
  exact (aD.mp hm).elim id λh=>(aG.mp h).elim (λh=>absurd h (Nat.ne_of_lt lt)) λh=>absurd ((List.pairwise_cons.mp (List.pairwise_append.mp ps).2.1).1 _ h) (Nat.not_lt_of_gt lt))) cb)
 have nf:∀ v∈(newF c).map (·.1),v∈c.map (·.1):=λv hv=>newF_keys.subset hv
 refine ⟨az.mpr ⟨T.nd,O.tr.keys,λa ha x hx z=>md a ha (z▸O.tr.conn x hx)⟩,λx hx=>(aD.mp hx).elim (T.low x) λhx=>L.conn hb (O.tr.conn x hx),λx hx y h=>(aD.mp hx).elim (λhx=>ak _ (T.cl x hx y h)) λhx=>aj _ (O.closed hx h),λx hx=>(aD.mp hx).elim (λhx=>ak _ (T.all x hx)) λhx=>aj _ (ao.mp hx▸gA_key O.tr.root),?_,λv hv=>?_,λi a o j hm=>?_⟩
 ·rw [aC]
  exact az.mpr ⟨T.fn,O.tr.keys.sublist newF_keys,λa ha x hx z=>md a (T.fm a ha).1 (z▸O.tr.conn x (nf x hx))⟩
 ·rw [aC] at hv
  refine (aD.mp hv).elim (λhv=>⟨ak _ (T.fm v hv).1,(T.fm v hv).2⟩) λhv=>⟨aj _ (nf v hv),λz=>?_⟩
  refine xea (aJ.mp hv) λq hq eq=>xe ((newF_mem O.tr.keys).mp (show (q.1,q.2)∈_ from hq)) λp e=>(O.tr.joins e).2 ?_
  have hc:=O.tr.conn v (nf v hv)
  exact eq.trans (z.symm.trans (((I.conn hb (L.conn hb hc)).mp hc).symm.trans fixb))
 ·rw [aC]
  refine (aD.mp hm).elim (λhm=>ak _ (T.fr i a o j hm)) λhm=>aj _ ?_
  exact (O.pr a hm aA id i o j).elim (λD=>aJ.mpr ⟨_,(newF_mem O.tr.keys).mpr D,rfl⟩) λD=>aJ.mpr ⟨_,(newF_mem O.tr.keys).mpr ⟨_,D⟩,rfl⟩
end
section
variable {n m b:Nat} {web part:List Row} {d r:List Nat} {μ ν:Nat->Nat} {h:Hp} {v:Nat} {H:Hp} {Φ:Fns} {vs:Vars}
theorem call_pureE {k:Nat} {f:FId} {body:List C} {args:List V} {P:D->Prop} (hc:codeT f=some ⟨n,[],k,body⟩) (hp:isPure f=true) (ha:allD args=true) (hl:args.length=n) (w:WP (fns m) body (args.map some++List.replicate (k - args.length) none) ⟨[],0⟩ λo=>∃ d,o.1=.ret (.d d)/\P d):∃ d,callF (fns (m+1)) f args h=some (.d d,h)/\P d:=
 xea w λo e q=>xea q λd z p=>⟨d,call_pureW hc hp ha hl ⟨o,e,z⟩,p⟩
inductive CirF (web:List Row) (n:Nat) (μ:Nat->Nat) (x:D):Prop
 | mk (l:List Nat) (e:x=natsD l) (iff:l=[]↔(nonfix n μ).length=web.length) (circ:l≠[]->Circ web l)
abbrev S10:=List Nat×List O×Nat×List End×Option V×Option V
noncomputable def V10 (web:List Row) (s:S10):Vars:=[some (.d (webD web)),some (.d (sidesD (sides web))),some (.ref 0),s.2.2.2.2.1,s.2.2.2.2.2,none,none,none]
noncomputable def H10 (s:S10):Hp:=⟨mkO s.1::s.2.1,s.2.2.1⟩
noncomputable abbrev b10:List C:=[.ifs (.cmp .notin (.var 3) (.var 2)) [.asg 4 (.fcall 6 [.var 1,.var 3,.var 2]),.ifs (.cmp .ne (.var 4) (.list [])) [.ret .plain (.var 4)] []] []]
theorem ne_nats {l:List Nat}:cmpV .ne (.d (natsD l)) (.d (.list [])) H=some (!decide (l=[])):=cmp_ne (cmp_eqD rep_natsD (by decide) (b:=[]) λu1=>rfl)
theorem circle_turn {s:S10} (hn:n<=6) (L:Low n web) (hw:web.length<=9) (I:IsLeast n web μ) (hd:keysL n web=d++b::r) (T:Met web n μ d s.1 s.2.2.2.1):WB (fns (m+3)) (.var 3) b10 (.d (nD b)) (V10 web s) (H10 s) (Tn (V10 web) H10 (λs=>Met web n μ (d++[b]) s.1 s.2.2.2.1) λo=>∃ x,o.1=.ret (.d x)/\CirF web n μ x):=by
 have hb:=mem_keysL.mp (show b∈keysL n web from hd▸aj _ (.head _))
 refine w_b rfl (w_ifN (P:=b∈s.1) (e_cmp rfl rfl (mI (in_mk rfl))) (λnm=>?_) λmm=>w_nil (w_nil ⟨(s.1,s.2.1,s.2.2.1,s.2.2.2.1,some (.d (nD b)),s.2.2.2.2.2),rfl,rfl,{ T with all:=λx hx=>(aD.mp hx).elim (T.all x) λhx=>ao.mp hx▸mm }⟩))
 refine xea (e_from (m:=m) (J:=s.2.1) (w:=s.2.2.1) ⟨hn,L,hw,hb.1,T.nd,T.low,λx hx c=>nm (T.cl x hx b c.symm)⟩ hb.2) λp e q=>?_
 refine w_asg (e_fcall (e_cons rfl (e_cons rfl (e_1 rfl))) e) ?_
 obtain ⟨v,h'⟩:=p
 cases q with
 | non c J w e eh O=>
  cases e;cases eh
  exact w_ifN (P:=([]:List Nat)=[]) (e_cmp rfl rfl (ne_nats (l:=[]))) (λz=>absurd rfl z) λu1=>w_nil (w_nil (w_nil ⟨(_,J,w,s.2.2.2.1++newF c,some (.d (nD b)),some (.d (.list []))),rfl,rfl,T.add L I hb.1 nm O hb.2 hd⟩))
 | told K=>
  refine xea K.1 λl e C=>?_
  cases e
  exact w_ifN (P:=l=[]) (e_cmp rfl rfl ne_nats) (λu1=>w_ret rfl ⟨_,rfl,l,rfl,⟨λz=>absurd z C.ne,λz=>absurd z (Nat.ne_of_lt (K.2 μ I))⟩,λu1=>C⟩) λz=>absurd z C.ne
theorem sorted_dD {κ α:Type} [DecidableEq κ] {kf:κ->Key} {kd:κ->D} (K:KK kf kd) {f:α->D} {s:List (κ×α)} {r:List D} (e:sortD ((s.map (·.1)).map kd)=some r):bcallV .sorted [.d (dD kf f s)] H=some (.d (.list r)):=by
 show (sortSrc (.d (dD kf f s)) H).bind (λl=>(sortD l).map λr=>V.d (.list r))=_
 exact bI (aN some (keysD K)) (mI e)
theorem key_low (L:Low n web) (h:v∈(sides web).map (·.1)):v < n:=xe (adj_key h) λo a=>(L.adj a).1
theorem Met.full {M:List Nat} {F:List End} (T:Met web n μ (keysL n web) M F) (L:Low n web) (I:IsLeast n web μ):(nonfix n μ).length=web.length:=
 Nat.le_antisymm (rows_ge L I) (aI (ay (n:=web.length)▸aB (f:=(·.2)) (as:=F)▸List.nodup_range.length_le_of_subset λi hi=>by
  have hi:=List.mem_range.mp hi
  have j:Joins web i (web[i]'hi).1.1 (web[i]'hi).2.1:=⟨_,ad hi,.inl ⟨rfl,rfl⟩⟩
  exact T.fr i _ _ j (T.all _ (mem_keysL.mpr ⟨(L.adj j.adj).1,key_adj j.adj⟩))) (aB (f:=(·.1)) (as:=F)▸T.fn.length_le_of_subset λv hv=>mem_nonfix.mpr ⟨T.low v (T.fm v hv).1,(T.fm v hv).2⟩))
theorem Met.one:Met web n μ [] [] []:=
 have no {P:Nat->Prop} (x:Nat) (m:x∈([]:List Nat)):P x:=absurd m aA
 ⟨.nil,no,no,no,.nil,no,λi a o u1 m=>absurd m aA⟩
theorem e_circle (hn:n<=6) (L:Low n web) (hw:web.length<=9) (I:IsLeast n web μ):∃ x,callF (fns (m+4)) (.f 5) [.d (webD web)] h=some (.d x,h)/\CirF web n μ x:=
 have kn:=(keys_sides (l:=web.zipIdx) (v:=0)).1
 have kl:((sides web).map (·.1)).length < 60:=au (nodup_len kn λx hx=>key_low L hx) (lt6 hn)
 call_pureE rfl rfl rfl rfl (w_par (p_old (e_fcall (e_1 rfl) (e_sides hw)) (p_new (o:=mkO []) (h1:=⟨[],0⟩) rfl rfl)) (w_for (V:=V10 web) (H:=H10) (s:=([],[],0,[],none,none)) (l:=keysL n web) (emb:=λi=>.d (nD i)) (R:=λd s=>Met web n μ d s.1 s.2.2.2.1)
  (e_bcall (e_1 rfl) (sorted_dD kN (sortD_range kl kn λx=>⟨λhx=>⟨key_low L hx,aF hx⟩,λhx=>aw hx.2⟩))) it_lD (au (List.length_filter_le _ _) (by rw [ay];exact lt6 hn)) Met.one
  (λd b r s hd T=>circle_turn hn L hw I hd T) λs T=>w_ret rfl ⟨_,rfl,[],rfl,⟨λu1=>T.full L I,λu1=>rfl⟩,λz=>absurd rfl z⟩))
noncomputable abbrev isF (n:Nat) (μ:Nat->Nat) (web:List Row):Bool:=decide ((nonfix n μ).length=web.length)
theorem e_forest (hn:n<=6) (L:Low n web) (hw:web.length<=9) (I:IsLeast n web μ):callF (fns (m+5)) (.f 9) [.d (webD web)] h=some (.d (.bool (isF n μ web)),h):=
 xea (e_circle (m:=m) (h:=⟨[],0⟩) hn L hw I) λx e c=>by
  cases c with | mk l ex iff u1=>
  cases ex
  exact call_pureW rfl rfl rfl rfl (w_ret (e_cmp (e_fcall (e_1 rfl) e) rfl (cmp_eqD rep_natsD (by decide) (b:=[]) λu1=>rfl)) (by rw [decide_eq_decide.mpr iff]))
noncomputable def fixL (n:Nat) (μ:Nat->Nat):List Nat:=(List.range n).filter λv=>μ v==v
theorem groups_len:(groups n μ).length=(fixL n μ).length:=aB _
theorem fix_le:(fixL n μ).length<=n:=aI (List.length_filter_le _ _) (Nat.le_of_eq ay)
theorem mem_fix:v∈fixL n μ↔v < n/\μ v=v:=List.mem_filter.trans (and_congr List.mem_range beq_iff_eq)
theorem fix_pos (I:IsLeast n web μ) (hn:1<=n):1<=(fixL n μ).length:=List.length_pos_of_mem (mem_fix.mpr ⟨hn,Nat.le_zero.mp (I.le hn)⟩)
theorem forest_iff:(nonfix n μ).length=web.length↔(web.length:Int)=(n:Int) - (fixL n μ).length:=by
 have:(fixL n μ).length+(nonfix n μ).length=n:=fix_count
 generalize (fixL n μ).length=a at *
 generalize (nonfix n μ).length=b at *
 rw [← this,show ((a+b:Nat):Int) - a=b by rw [Int.natCast_add,Int.add_comm,Int.add_sub_cancel]]
 exact ⟨λh=>h▸rfl,λh=>(Int.ofNat_inj.mp h).symm⟩
theorem rep_groups:Rep groupsD 2:=rep_list rep_natsD
theorem sorted_nats {l:List Nat} {x:D} (hx:sortSrcD x=some (l.map nD)) (hl:l.length < 60) (nd:l.Nodup) (h:∀ x,x∈l↔x < n):bcallV .sorted [.d x] H=some (.d (natsD (List.range n))):=by
 show (sortSrcD x).bind (λl=>(sortD l).map λr=>V.d (.list r))=_
 refine bI hx ((mI (sortD_range (n:=n) (p:=λu1=>true) hl nd λx=>(h x).trans (and_iff_left rfl).symm)).trans ?_)
 rw [List.filter_eq_self.mpr λu1 u2=>rfl];rfl
theorem sorted_range (hn:n<=6):bcallV .sorted [.d (.range (n:Int))] H=some (.d (natsD (List.range n))):=sorted_nats (wh_t (smI (lt6 hn))) (by rw [ay];exact lt6 hn) List.nodup_range λu1=>List.mem_range
theorem e_tree (hn:n<=6) (L:Low n web) (hw:web.length<=9) (I:IsLeast n web μ):callF (fns (m+6)) (.f 10) [.d (webD web),.d (.range (n:Int))] h=some (.d (.bool (isF n μ web&&decide (((fixL n μ).length:Int)<=1))),h):=
 call_pureW rfl rfl rfl rfl (w_ret (e_and (e_fcall (e_1 rfl) (e_forest (m:=m) hn L hw I)) λu1=>e_cmp (e_bcall (e_1 (e_fcall (e_cons rfl (e_1 rfl)) (e_parts (m:=m+2) hn L hw I λu1=>sorted_range hn))) (len_lD (f:=natsD) (l:=groups n μ) (groups_len▸au fix_le (au hn (by decide))))) rfl (t:=decide (((fixL n μ).length:Int)<=1)) (by rw [groups_len];rfl)) rfl)
theorem e_spans (hn:n<=6) (L:Low n web) (hw:web.length<=9) (I:IsLeast n web μ) (L':Low n part) (hw':part.length<=9) (J:IsLeast n part ν):callF (fns (m+6)) (.f 11) [.d (webD part),.d (webD web),.d (.range (n:Int))] h=some (.d (.bool (isF n ν part&&decide (groups n ν=groups n μ))),h):=
 call_pureW rfl rfl rfl rfl (w_ret (e_and (e_fcall (e_1 rfl) (e_forest (m:=m) hn L' hw' J)) λu1=>e_cmp (e_fcall (e_cons rfl (e_1 rfl)) (e_parts (m:=m+2) hn L' hw' J λu1=>sorted_range hn)) (e_fcall (e_cons rfl (e_1 rfl)) (e_parts (m:=m+2) hn L hw I λu1=>sorted_range hn)) (cmp_eqD rep_groups (by decide) λu1=>rfl)) rfl)
theorem groups_half (I:IsLeast n web μ) (L:Low n web) (J:IsLeast n part ν) (e:groups n ν=groups n μ) (hv:v < n):ν v<=μ v:=by
 have h1:grp n μ (μ v)∈groups n ν:=e▸List.mem_map_of_mem (mem_fix.mpr ⟨I.low L hv,I.idem L hv⟩)
 refine xea (aJ.mp h1) λk u1 ek=>?_
 have mem:∀ {x},x < n->μ x=μ v->ν x=k:=λhx q=>(mem_grp.mp (ek.symm▸mem_grp.mpr ⟨hx,q⟩:_∈grp n ν k)).2
 exact (mem hv rfl).trans (mem (I.low L hv) (I.idem L hv)).symm▸J.le (I.low L hv)
theorem groups_iff (L:Low n web) (I:IsLeast n web μ) (L':Low n part) (J:IsLeast n part ν):groups n ν=groups n μ↔(List.range n).map μ=(List.range n).map ν:=
 ⟨λe=>List.map_congr_left λv hv=>Nat.le_antisymm (groups_half J L' I e.symm (List.mem_range.mp hv)) (groups_half I L J e (List.mem_range.mp hv)),λe=>by
  have p:∀ v∈List.range n,μ v=ν v:=List.map_inj_left.mp e
  unfold groups
  rw [show ((List.range n).filter λm=>ν m==m)=(List.range n).filter λm=>μ m==m from List.filter_congr λv hv=>by rw [p v hv]]
  exact List.map_congr_left λk u1=>List.filter_congr λv hv=>by rw [p v hv]⟩
end
section
variable {m n i k s v:Nat} {web part w:List Row} {μ ν:Nat->Nat} {h H:Hp} {Φ:Fns} {vs:Vars} {e ew em el:X} {Q:St->Prop}
noncomputable def mapD (n:Nat) (μ:Nat->Nat):D:=natsD ((List.range n).map μ)
theorem x_range (hn:n < 60) (q:evalX Φ e vs h=some (.d (nD n),h)):evalX Φ (.bcall .range [e]) vs h=some (.d (.range (n:Int)),h):=e_bcall (e_1 q) (wh_t (smI hn))
theorem item_map (hv:v < n) (hn:n<=6):itemV (.d (mapD n μ)) (.d (nD v)) H=some (.d (nD (μ v))):=item_lD (f:=nD) (l:=(List.range n).map μ) (get_map (List.getElem?_range hv)) (lt1000 hn hv)
theorem comp_grp (hn:n<=6) (q2:evalX Φ (.var 2) vs h=some (.d (nD n),h)) (g3:∀ v,evalX Φ (.var 3) ((vs++List.replicate k none).set i (some (.d (nD v)))) h=some (.d (mapD n μ),h)) (gi:∀ v,evalX Φ (.var i) ((vs++List.replicate k none).set i (some (.d (nD v)))) h=some (.d (nD v),h))
  (ge:∀ v,evalX Φ e ((vs++List.replicate k none).set i (some (.d (nD v)))) h=some (.d (nD s),h)):evalX Φ (.comp k (.var i) (.var i) false (.bcall .range [.var 2]) false (.var 0) .none true (.cmp .eq (.item (.var 3) (.var i)) e)) vs h=some (.d (natsD (grp n μ s)),h):=
 e_compF (p:=λv=>μ v==s) (f:=nD) (x_range (lt6 hn) q2) (it_range (lt6 hn)) (by rw [ay];exact lt6 hn) λv hv=>⟨_,rfl,e_cmp (e_item (g3 v) (gi v) (item_map (List.mem_range.mp hv) hn)) (ge v) (cmp_eqD rep_nD (by decide) λu1=>rfl),λu1=>gi v⟩
noncomputable abbrev intsN (l:List Nat):List Int:=l.map λ(x:Nat)=>(x:Int)
theorem set_perm (I:IsLeast n web μ) (L:Low n web):(intsN (fixL n μ)).Perm (dedup (intsN ((List.range n).map μ))):=(List.perm_ext_iff_of_nodup (ints_nd (List.nodup_range.filter _)) (dedup_nodup _)).mpr λx=>⟨λh=>(dedup_mem x _).mpr (xea (aJ.mp h) λy hy e=>aJ.mpr ⟨y,aJ.mpr ⟨y,List.mem_range.mpr (mem_fix.mp hy).1,(mem_fix.mp hy).2⟩,e⟩),λh=>xea (aJ.mp ((dedup_mem x _).mp h)) λy hy e=>aJ.mpr ⟨y,xea (aJ.mp hy) λv hv ev=>ev▸mem_fix.mpr ⟨I.low L (List.mem_range.mp hv),I.idem L (List.mem_range.mp hv)⟩,e⟩⟩
theorem sort_set (hn:n<=6) (I:IsLeast n web μ) (L:Low n web) (q:evalX Φ e vs h=some (.d (mapD n μ),h)):evalX Φ (.sortSet e) vs h=some (.d (natsD (fixL n μ)),h):=by
 refine bI q (mI (a:=natsD (fixL n μ)) (f:=λd=>(V.d d,h)) (bI (a:=((List.range n).map μ).map nD) rfl (bI (a:=intsN ((List.range n).map μ)) (allM_map λu1=>rfl) ((wh_t (ba (sm_t ?_) (List.all_eq_true.mpr λx hx=>?_))).trans ?_))))
 ·rw [aB,aB,ay];exact lt6 hn
 ·refine xea (aJ.mp hx) λy hy e=>e▸xea (aJ.mp hy) λv hv ev=>ev▸ba (aF (Int.natCast_nonneg _)) (aF (Int.ofNat_lt.mpr (av (I.low L (List.mem_range.mp hv)) hn)))
 ·rw [← sort_unique (set_perm I L) (List.Pairwise.map _ (λa b h=>Int.ofNat_le.mpr (Nat.le_of_lt h)) (List.Pairwise.filter _ List.pairwise_lt_range)),aK];rfl
theorem setlen (hn:n<=6) (I:IsLeast n web μ) (L:Low n web) (q:evalX Φ e vs h=some (.d (mapD n μ),h)):evalX Φ (.bcall .len [.bcall .set [e]]) vs h=some (.d (nD (fixL n μ).length),h):=by
 have l:=(set_perm I L).length_eq
 rw [aB] at l
 exact (e_bcall (e_1 (e_bcall (e_1 q) (set_nats (by rw [aB,ay];exact lt6 hn)))) (len_set (by rw [← l];exact au fix_le (au hn (by decide))))).trans (by rw [← l])
theorem rep_int:Rep (λi:Int=>D.int i) 0:=⟨λu1=>by simp only [D.py,PyData.canLay0],λu1=>by simp only [D.py,PyData.depth,Nat.le_refl],λa b=>by simp only [D.py,PyData.eqv];rfl⟩
theorem rep_bool:Rep (λb:Bool=>D.bool b) 0:=⟨λu1=>by simp only [D.py,PyData.canLay0],λu1=>by simp only [D.py,PyData.depth,Nat.le_refl],λa b=>by cases a <;> cases b <;> simp [D.py,PyData.eqv]⟩
theorem freeE (hw:w.length<=9) (hn:n<=6) (I:IsLeast n w μ) (L:Low n w) (q1:evalX Φ ew vs h=some (.d (webD w),h)) (q2:evalX Φ em vs h=some (.d (nD n),h)) (q3:evalX Φ el vs h=some (.d (mapD n μ),h)) :
  evalX Φ (.cmp .eq (.bcall .len [ew]) (.bin .sub em (.bcall .len [.bcall .set [el]]))) vs h=some (.d (.bool (isF n μ w)),h):=
 e_cmp (e_bcall (e_1 q1) (len_lD (f:=rowD) (l:=w) (au hw (by decide)))) (e_bin q2 (setlen hn I L q3) rfl) ((cmp_eqD rep_int (by decide) (a:=(w.length:Int)) (b:=(n:Int) - ((fixL n μ).length:Int)) λu1=>rfl).trans (aN some (decide_eq_decide.mpr forest_iff.symm)))
theorem ne_bool {a b:Bool}:cmpV .ne (.d (.bool a)) (.d (.bool b)) H=some (!decide (a=b)):=cmp_ne (cmp_eqD rep_bool (by decide) λu1=>rfl)
abbrev S17:=Option V×Option V×Option V×Option V
noncomputable def V17 (web part:List Row) (n:Nat) (μ ν:Nat->Nat) (s:S17):Vars:=[some (.d (webD web)),some (.d (webD part)),some (.d (nD n)),some (.d (mapD n μ)),some (.d (mapD n ν)),some (.d (groupsD (groups n μ))),s.1,s.2.1,s.2.2.1,s.2.2.2,none,none,none,none,none,none,none,none,none,none,none,none,none]
noncomputable abbrev b17:List C:=[.asg 9 (.cmp .eq (.bcall .len [.var 7]) (.bin .sub (.var 2) (.bcall .len [.bcall .set [.var 8]]))),.ifs (.or (.cmp .ne (.fcall 9 [.var 7]) (.var 9)) (.cmp .ne (.cmp .eq (.fcall 5 [.var 7]) (.list [])) (.var 9))) [.ret .plain (.bool false)] [],.ifs (.and (.not (.var 9)) (.not (.fcall 16 [.var 7,.fcall 5 [.var 7]]))) [.ret .plain (.bool false)] [],.ifs (.cmp .ne (.fcall 10 [.var 7,.bcall .range [.var 2]]) (.and (.var 9) (.cmp .eq (.bcall .len [.bcall .set [.var 8]]) (.int 1)))) [.ret .plain (.bool false)] []]
theorem w_no {cs:List C} {a b:List C} {c:X} (q:evalX Φ c vs h=some (.d (.bool false),h)) (k:WP Φ cs vs h Q):WP Φ (.ifs c a []::cs) vs h Q:=w_if q (λz=>nomatch z) λu1=>w_nil k
theorem web_one {s:S17} {ρ:Nat->Nat} (hn:n<=6) (h1:1<=n) (L:Low n w) (hw:w.length<=9) (I:IsLeast n w ρ) (k:∀ s,Q (.nx,V17 web part n μ ν s,H)):WB (fns (m+6)) (.tup [.var 7,.var 8]) b17 (.d (.tup [webD w,mapD n ρ])) (V17 web part n μ ν s) H Q:=
 xea (e_circle (m:=m+2) (h:=H) hn L hw I) λx el c=>by
  cases c with | mk l ex iff circ=>
  cases ex
  have dl:decide (l=[])=isF n ρ w:=decide_eq_decide.mpr iff
  have ne:cmpV .eq (.d (natsD l)) (.d (.list [])) H=some (isF n ρ w):=(cmp_eqD rep_natsD (by decide) (b:=[]) λu1=>rfl).trans (aN some dl)
  refine w_b rfl (w_asg (freeE hw hn I L rfl rfl rfl) (w_no (b:=[]) ((e_or (e_cmp (e_fcall (e_1 rfl) (e_forest (m:=m+1) hn L hw I)) rfl ne_bool) λu1=>e_cmp (e_cmp (e_fcall (e_1 rfl) el) rfl ne) rfl ne_bool).trans (by rw [aF rfl];rfl)) (w_no (b:=[]) ((e_and (u:=false) (e_not rfl) λz=>e_not (t:=true) (e_fcall (e_cons rfl (e_1 (e_fcall (e_1 rfl) el))) (e_isCircle (m:=m+5) hw (circ λe=>?_)))).trans (by rw [Bool.and_false]))
   (w_no (b:=[]) ((e_cmp (e_fcall (e_cons rfl (e_1 (x_range (lt6 hn) rfl))) (e_tree (m:=m) hn L hw I)) (e_and rfl λu1=>e_cmp (setlen hn I L rfl) rfl (cmp_eqD rep_nD (by decide) (b:=1) λu1=>rfl)) ne_bool).trans ?_) (w_nil (k (s.1,some (.d (webD w)),some (.d (mapD n ρ)),some (.d (.bool (isF n ρ w))))))))))
  ·have z:(!isF n ρ w)=true:=z
   rw [← dl,aF e] at z;cases z
  ·rw [show decide (((fixL n ρ).length:Int)<=1)=decide ((fixL n ρ).length=1) from decide_eq_decide.mpr ⟨λz=>Nat.le_antisymm (Int.ofNat_le.mp z) (fix_pos I h1),λz=>Int.ofNat_le.mpr (Nat.le_of_eq z)⟩,aF rfl];rfl
theorem list_range (hn:n < 60):bcallV .list [.d (.range (n:Int))] H=some (.d (.list (rangeD n))):=by
 show (listSrc (.range (n:Int))).map (λl=>V.d (.list l))=_
 exact mI (wh_t (smI hn))
theorem e_webRight (hn:n<=6) (h1:1<=n) (L:Low n web) (hw:web.length<=9) (L':Low n part) (hw':part.length<=9):callF (fns (m+7)) (.f 17) [.d (webD web),.d (webD part),.d (nD n)] h=some (.d (.bool true),h):=
 xea (marks_least L) λμ I u1=>xea (marks_least L') λν J u1=>by
  have m1:=e_marks (m:=m+5) (h:=⟨[],0⟩) hn L hw
  have m2:=e_marks (m:=m+5) (h:=⟨[],0⟩) hn L' hw'
  rw [marks_eq L I] at m1
  rw [marks_eq L' J] at m2
  have gr:evalX (fns (m+6)) (.comp 5 (.comp 4 (.var 29) (.var 29) false (.bcall .range [.var 2]) false (.var 0) .none true (.cmp .eq (.item (.var 3) (.var 29)) (.var 24))) (.var 24) false (.sortSet (.var 3)) false (.var 0) .none false .none) ((V17 web part n μ ν (none,none,none,none)).set 5 none) ⟨[],0⟩=some (.d (groupsD (groups n μ)),⟨[],0⟩):=
   (e_compM (f:=λs=>natsD (grp n μ s)) (xs:=fixL n μ) (emb:=λs=>.d (nD s)) (sort_set hn I L rfl) it_lD (au fix_le (lt6 hn)) λs u1=>⟨_,rfl,comp_grp hn rfl (λu1=>rfl) (λu1=>rfl) λu1=>rfl⟩).trans (by unfold groupsD groups;rw [aK];rfl)
  have lst:evalX (fns (m+6)) (.rev (.bcall .list [.bcall .range [.var 2]])) (V17 web part n μ ν (none,none,none,none)) ⟨[],0⟩=some (.d (natsD (List.range n).reverse),⟨[],0⟩):=
   (e_rev (ds:=(List.range n).map nD) (e_bcall (z:=.d (.list (rangeD n))) (e_1 (x_range (lt6 hn) rfl)) (list_range (lt6 hn))) rfl (by rw [aB,ay];exact lt6 hn)).trans (by unfold natsD;rw [List.map_reverse])
  have pt:=e_parts (m:=m+3) (sw:=natsD (List.range n).reverse) (h:=⟨[],0⟩) hn L hw I λH=>sorted_nats rfl (by rw [List.length_reverse,ay];exact lt6 hn) (List.pairwise_reverse.mpr (List.nodup_range.imp λh=>h.symm)) λx=>List.mem_reverse.trans List.mem_range
  refine call_pureW rfl rfl rfl rfl (w_par (p_old (e_fcall (e_cons rfl (e_1 rfl)) m1) (p_old (e_fcall (e_cons rfl (e_1 rfl)) m2) rfl)) (w_asg gr (w_no (b:=[]) ((e_cmp (e_fcall (e_cons rfl (e_1 lst)) pt) rfl (cmp_ne (cmp_eqD rep_groups (by decide) λu1=>rfl))).trans (by rw [aF rfl];rfl))
   (w_for (V:=V17 web part n μ ν) (H:=H0) (s:=(none,none,none,none)) (l:=List.range n) (emb:=λi=>.d (nD i)) (R:=λu1 u2=>True) (x_range (lt6 hn) rfl) (it_range (lt6 hn)) (by rw [ay];exact lt6 hn) aO (λd v r s hd u1=>?_) λs u1=>
   (w_for (V:=V17 web part n μ ν) (H:=H0) (s:=s) (l:=[D.tup [webD web,mapD n μ],.tup [webD part,mapD n ν]]) (emb:=V.d) (R:=λu1 u2=>True) rfl rfl (show 2 < 60 by decide) aO (λd x r s hd u1=>?_) λs u1=>w_ret
    (e_cmp (e_fcall (e_cons rfl (e_cons rfl (e_1 (x_range (lt6 hn) rfl)))) (e_spans (m:=m) hn L hw I L' hw' J)) (e_and (freeE hw' hn J L' rfl rfl rfl) λu1=>e_cmp rfl rfl (cmp_eqD rep_natsD (by decide) λu1=>rfl)) (cmp_eqD rep_bool (by decide) λu1=>rfl)) ?_)))))
  ·have hv:=(range_pre hd).2
   have re:=e_reach (m:=m+4) (p:=λx=>μ x==μ v) (h:=⟨[],0⟩) hn L hw hv λx hx=>by rw [I.conn hv hx,beq_iff_eq];exact eq_comm
   exact w_b rfl (w_no (b:=[]) ((e_cmp (e_fcall (e_cons rfl (e_1 rfl)) re) (comp_grp (s:=μ v) hn rfl (λu1=>rfl) (λu1=>rfl) λu1=>e_item rfl rfl (item_map hv hn)) (cmp_ne (cmp_eqD rep_natsD (by decide) (b:=grp n μ (μ v)) λu1=>rfl))).trans (aN (λb=>some (V.d (.bool (!b)),(⟨[],0⟩:Hp))) (aF rfl))) (w_nil ⟨(some (.d (nD v)),s.2),rfl,rfl,aO⟩))
  ·have hx:x∈[D.tup [webD web,mapD n μ],.tup [webD part,mapD n ν]]:=hd▸aj _ (.head _)
   exact (aG.mp hx).elim (λe=>e▸web_one hn h1 L hw I λs=>⟨s,rfl,rfl,aO⟩) λhx=>ao.mp hx▸web_one hn h1 L' hw' J λs=>⟨s,rfl,rfl,aO⟩
  ·rw [decide_eq_decide.mpr (groups_iff L I L' J),aF rfl]
end
abbrev Cst:=List (Nat×Nat)
noncomputable def Src (E:Nat->Nat->Nat->Prop) (isR:Nat->Prop) (C:Cst) (v x:Nat):Prop:=(isR v/\x=0)\/(¬ isR v/\∃ u du w,gA C u=some du/\E v u w/\x=du+w)
inductive Dj (E:Nat->Nat->Nat->Prop) (isR:Nat->Prop):Cst->Prop
 | nil:Dj E isR []
 | snoc {C:Cst} {v x:Nat}:Dj E isR C->v∉C.map (·.1)->Src E isR C v x->Dj E isR (C++[(v,x)])
noncomputable def rlx (c:List Nat) (q:Nat×Nat×Nat):List Nat:=c.set q.1 (min (at0 c q.1) (at0 c q.2.1+q.2.2))
noncomputable def rlxs (l:List (Nat×Nat×Nat)) (c:List Nat):List Nat:=l.foldl rlx c
noncomputable def rlxN (l:List (Nat×Nat×Nat)) (c:List Nat):Nat->List Nat
 | 0=>c
 | t+1=>rlxs l (rlxN l c t)
section
variable {E:Nat->Nat->Nat->Prop} {isR:Nat->Prop} {C:Cst} {n v x k t:Nat} {l:List (Nat×Nat×Nat)} {c c0:List Nat} {q:Nat×Nat×Nat}
theorem Src.lift (S:Src E isR C v x) (h:k∉C.map (·.1)) {y:Nat}:Src E isR (C++[(k,y)]) v x:=S.imp id λS=>⟨S.1,xeeeaa S.2 λu du w a b c=>⟨u,du,w,gA_lift h a,b,c⟩⟩
theorem Dj.keys (D:Dj E isR C):(C.map (·.1)).Nodup:=by
 induction D with
 | nil=>exact .nil
 | snoc u1 h u2 ih=>rw [aC];exact nd_snoc ih h
theorem Dj.src (D:Dj E isR C):∀ {v x},gA C v=some x->Src E isR C v x:=by
 induction D with
 | nil=>exact nofun
 | snoc D h S ih=>exact λe=>(gA_inv h e).elim (λz=>by obtain ⟨rfl,rfl⟩:=z;exact S.lift h) λe=>(ih e).lift h
theorem bnd4 {a b n:Nat} (h:a+4<=4 * n) (l:b<=4):a+b+4<=4 * (n+1):=by rw [Nat.add_right_comm];exact Nat.add_le_add h l
theorem Dj.bound (D:Dj E isR C) (hw:∀ v u w,E v u w->w<=4):∀ {v x},gA C v=some x->x+4<=4 * C.length:=by
 induction D with
 | nil=>exact nofun
 | @snoc C v x D h S ih=>
  intro v' x' e
  rw [aq]
  refine (gA_inv h e).elim (λz=>?_) λe=>aI (ih e) (Nat.mul_le_mul_left 4 (Nat.le_succ _))
  rw [z.2]
  exact S.elim (λS=>S.2▸aI (by decide) (Nat.mul_le_mul_left 4 (Nat.succ_pos C.length))) λS=>xeeeaa S.2 λu du w a b e=>e▸bnd4 (ih a) (hw _ _ _ b)
theorem rlx_len:(rlx c q).length=c.length:=List.length_set
theorem rlxs_len:(rlxs l c).length=c.length:=by
 unfold rlxs
 induction l generalizing c with
 | nil=>rfl
 | cons q l ih=>exact (ih (c:=rlx c q)).trans rlx_len
theorem rlxN_len:(rlxN l c t).length=c.length:=by
 induction t with
 | zero=>rfl
 | succ t ih=>exact rlxs_len.trans ih
theorem rlx_mono (h:q.1 < c.length):at0 (rlx c q) v<=at0 c v:=by
 unfold rlx
 rw [getD_set h]
 by_cases e:q.1=v
 ·rw [aQ e,← e];exact Nat.min_le_left _ _
 ·rw [aP e];exact Nat.le_refl _
theorem rlx_le (h:q.1 < c.length):at0 (rlx c q) q.1<=at0 c q.2.1+q.2.2:=by
 unfold rlx
 rw [getD_set h,aQ rfl];exact Nat.min_le_right _ _
theorem rlxs_mono (h:∀ q∈l,q.1 < c.length):at0 (rlxs l c) v<=at0 c v:=by
 induction l generalizing c with
 | nil=>exact Nat.le_refl _
 | cons q l ih=>exact aI (ih (c:=rlx c q) λp hp=>by rw [rlx_len];exact h p (.tail _ hp)) (rlx_mono (h q (.head _)))
theorem rlxs_le (h:∀ q∈l,q.1 < c.length):∀ q∈l,at0 (rlxs l c) q.1<=at0 c q.2.1+q.2.2:=by
 induction l generalizing c with
 | nil=>exact nofun
 | cons p l ih=>
  intro q hq
  have hp:=h p (.head _)
  have h':∀ q∈l,q.1 < (rlx c p).length:=λq hq=>by rw [rlx_len];exact h q (.tail _ hq)
  exact (aG.mp hq).elim (λe=>by subst e;exact aI (rlxs_mono (l:=l) (c:=rlx c q) h') (rlx_le hp)) λhq=>aI (ih h' q hq) (Nat.add_le_add_right (rlx_mono hp) _)
theorem rlxs_ge {d:Nat->Nat} (h:∀ q∈l,q.1 < c.length/\d q.1<=d q.2.1+q.2.2/\q.2.1 < c.length) (hc:∀ v,v < c.length->d v<=at0 c v):∀ v,v < c.length->d v<=at0 (rlxs l c) v:=by
 induction l generalizing c with
 | nil=>exact hc
 | cons q l ih=>
  intro v hv
  have hq:=h q (.head _)
  refine ih (c:=rlx c q) (λp hp=>by rw [rlx_len];exact h p (.tail _ hp)) (λv hv=>?_) v (by rw [rlx_len];exact hv)
  unfold rlx
  rw [getD_set hq.1]
  by_cases e:q.1=v
  ·rw [aQ e,← e];exact Nat.le_min.mpr ⟨hc _ hq.1,aI hq.2.1 (Nat.add_le_add_right (hc _ hq.2.2) _)⟩
  ·rw [aP e];exact hc v (by rw [rlx_len] at hv;exact hv)
structure CQ (E:Nat->Nat->Nat->Prop) (isR:Nat->Prop) (n:Nat) (l:List (Nat×Nat×Nat)) (c0:List Nat):Prop where
 hl:c0.length=n
 mem:∀ {v u w},E v u w->(v,u,w)∈l
 ed:∀ {q:Nat×Nat×Nat},q∈l->E q.1 q.2.1 q.2.2
 low:∀ {v u w},E v u w->v < n/\u < n/\w<=4
 h0:∀ {v},v < n->isR v->at0 c0 v=0
 h99:∀ {v},v < n->¬ isR v->at0 c0 v=99
theorem CQ.lt (K:CQ E isR n l c0):∀ q∈l,q.1 < (rlxN l c0 t).length:=λq hq=>by rw [rlxN_len,K.hl];exact (K.low (K.ed hq)).1
theorem CQ.up (K:CQ E isR n l c0) (D:Dj E isR C) (hk:∀ v∈C.map (·.1),v < n):∀ t,C.length<=t->∀ v x,gA C v=some x->at0 (rlxN l c0 t) v<=x:=by
 induction D with
 | nil=>exact λu1 u2 u3 u4=>nofun
 | @snoc C v x D h S ih=>
  intro t ht v' x' e
  have ih:=ih λv hv=>hk v (keys_snoc.mpr (.inl hv))
  have hv:=hk v (keys_snoc.mpr (.inr rfl))
  rw [aq] at ht
  refine (gA_inv h e).elim (λz=>?_) λe=>ih t (Nat.le_of_succ_le ht) v' x' e
  rw [z.1,z.2]
  refine S.elim (λS=>?_) λS=>xeeeaa S.2 λu du w a b e=>?_
  ·rw [S.2,← K.h0 hv S.1]
   clear ht
   induction t with
   | zero=>exact Nat.le_refl _
   | succ t iht=>exact aI (rlxs_mono K.lt) iht
  ·cases t with
   | zero=>exact absurd ht (Nat.not_succ_le_zero _)
   | succ t=>exact e▸aI (rlxs_le K.lt _ (K.mem b)) (Nat.add_le_add_right (ih t (Nat.le_of_succ_le_succ ht) u du a) _)
theorem costs_eq (K:CQ E isR n l c0) (D:Dj E isR C) (hk:∀ v,v < n->v∈C.map (·.1)) (hk':∀ v∈C.map (·.1),v < n) (tri:∀ {v u w x y},E v u w->gA C v=some x->gA C u=some y->x<=y+w) (hn:n<=6) (e:gA C v=some x):at0 (rlxN l c0 n) v=x:=by
 have cl:C.length<=n:=aB (f:=(·.1)) (as:=C)▸nodup_len D.keys hk'
 have ge:∀ t,∀ v,v < n->(gA C v).getD 0<=at0 (rlxN l c0 t) v:=by
  intro t
  induction t with
  | zero=>
   refine λv hv=>xe (gA_some (hk v hv)) λx hx=>?_
   rw [hx]
   show x<=at0 c0 v
   refine (Classical.em (isR v)).elim (λr=>?_) λr=>?_
   ·exact (D.src hx).elim (λS=>S.2▸Nat.zero_le _) λS=>absurd r S.1
   ·rw [K.h99 hv r]
    exact aI (Nat.le_of_add_right_le (D.bound (λv u w h=>(K.low h).2.2) hx)) (aI (Nat.mul_le_mul_left 4 (aI cl hn)) (by decide))
  | succ t ih=>
   intro v hv
   refine rlxs_ge (d:=λv=>(gA C v).getD 0) (λq hq=>?_) (λv hv=>ih v (by rw [rlxN_len,K.hl] at hv;exact hv)) v (by rw [rlxN_len,K.hl];exact hv)
   have lw:=K.low (K.ed hq)
   refine ⟨K.lt q hq,xe (gA_some (hk _ lw.1)) λx hx=>xe (gA_some (hk _ lw.2.1)) λy hy=>?_,by rw [rlxN_len,K.hl];exact lw.2.1⟩
   rw [hx,hy]
   exact tri (K.ed hq) hx hy
 have g:=ge n v (hk' v (gA_key e))
 rw [e] at g
 exact Nat.le_antisymm (K.up D hk' n cl v x e) g
end
noncomputable def minF {α:Type} (lt:α->α->Bool) (m:α):List α->α
 | []=>m
 | x::r=>if lt x m then minF lt x r else minF lt m r
section
variable {α:Type} {lt:α->α->Bool} {f:α->Nat} {l:List α} {m:α} {g:α->D} {H:Hp}
theorem minF_ind {P:List α->α->α->Prop} (h0:∀ m,P [] m m) (h1:∀ x r m z,lt x m=true->P r x z->P (x::r) m z) (h2:∀ x r m z,lt x m=false->P r m z->P (x::r) m z):P l m (minF lt m l):=by
 induction l generalizing m with
 | nil=>exact h0 m
 | cons x r ih=>
  show P (x::r) m (if lt x m then minF lt x r else minF lt m r)
  by_cases h:lt x m=true
  ·rw [aQ h];exact h1 x r m _ h ih
  ·rw [aP h];exact h2 x r m _ (Bool.eq_false_iff.mpr h) ih
theorem minF_mem:minF lt m l=m\/minF lt m l∈l:=minF_ind (P:=λl m z=>z=m\/z∈l) (λm=>.inl rfl) (λx r m z u1 h=>.inr (h.elim (λe=>e▸.head _) (.tail _))) λx r m z u1 h=>h.imp id (.tail _)
theorem minF_le (h1:∀ a b,lt a b=true->f a<=f b) (h2:∀ a b,lt a b=false->f b<=f a):f (minF lt m l)<=f m/\∀ z∈l,f (minF lt m l)<=f z:=
 minF_ind (P:=λl m z=>f z<=f m/\∀ y∈l,f z<=f y) (λm=>⟨Nat.le_refl _,nofun⟩) (λx r m z h k=>⟨aI k.1 (h1 x m h),λy hy=>(aG.mp hy).elim (λe=>e▸k.1) (k.2 y)⟩) λx r m z h k=>⟨k.1,λy hy=>(aG.mp hy).elim (λe=>e▸aI k.1 (h2 x m h)) (k.2 y)⟩
theorem minL_map (h:∀ a b,ltD 6 (g a) (g b)=some (lt a b)):minL (g m) (l.map g)=some (g (minF lt m l)):=
 minF_ind (P:=λl m z=>minL (g m) (l.map g)=some (g z)) (λm=>rfl) (λx r m z e k=>bI (h x m) (by rw [e];exact k)) λx r m z e k=>bI (h x m) (by rw [e];exact k)
theorem min_list (h:∀ a b,ltD 6 (g a) (g b)=some (lt a b)) (hl:l.length < 60):bcallV .min [.d (.list ((m::l).map g))] H=some (.d (g (minF lt m l))):=by
 show (minOf (g m::l.map g)).map V.d=_
 exact mI ((wh_t (smm hl)).trans (minL_map h))
end
noncomputable def ltP (p q:Nat×Nat):Bool:=if p.1=q.1 then decide (p.2 < q.2) else decide (p.1 < q.1)
theorem ltP_le {p q:Nat×Nat} (h:ltP p q=true):p.1<=q.1:=by
 unfold ltP at h
 by_cases e:p.1=q.1
 ·exact Nat.le_of_eq e
 ·rw [aP e] at h;exact Nat.le_of_lt (aw h)
theorem ltP_ge {p q:Nat×Nat} (h:ltP p q=false):q.1<=p.1:=by
 unfold ltP at h
 by_cases e:p.1=q.1
 ·exact Nat.le_of_eq e.symm
 ·rw [aP e] at h;exact Nat.le_of_not_lt (of_decide_eq_false h)
section
variable {κ α:Type} [DecidableEq κ] {s:List (κ×α)} {k j:κ} {x:α}
theorem keys_dA:((dA s k).map (·.1)).Sublist (s.map (·.1)):=by
 induction s with
 | nil=>exact .slnil
 | cons p r ih=>
  rw [dA_c]
  by_cases e:p.1=k
  ·rw [aQ e];exact List.sublist_cons_self _ _
  ·rw [aP e];exact ih.cons₂ _
theorem gA_dA (nd:(s.map (·.1)).Nodup):gA (dA s k) j=if k=j then none else gA s j:=by
 induction s with
 | nil=>exact (ite_self _).symm
 | cons p r ih=>
  have nd:=List.nodup_cons.mp nd
  rw [dA_c,gA_c]
  by_cases e:p.1=k
  ·rw [aQ e]
   by_cases z:k=j
   ·rw [aQ z];exact gA_none.mpr (z▸e▸nd.1)
   ·rw [aP z,aP λy=>z (e.symm.trans y)]
  ·rw [aP e,gA_c,ih nd.2]
   by_cases z:k=j
   ·rw [aQ z,aQ z,aP λy=>e (y.trans z.symm)]
   ·rw [aP z,aP z]
theorem gA_dA_inv (nd:(s.map (·.1)).Nodup) (h:gA (dA s k) j=some x):k≠j/\gA s j=some x:=by
 rw [gA_dA nd] at h
 by_cases z:k=j
 ·rw [aQ z] at h;cases h
 ·rw [aP z] at h;exact ⟨z,h⟩
theorem sA_nd (nd:(s.map (·.1)).Nodup):((sA s k x).map (·.1)).Nodup:=by
 rw [keys_sA]
 by_cases h:k∈s.map (·.1)
 ·rw [aQ h];exact nd
 ·rw [aP h];exact nd_snoc nd h
theorem mem_keys_sA:j∈(sA s k x).map (·.1)↔j∈s.map (·.1)\/j=k:=by
 rw [keys_sA]
 by_cases h:k∈s.map (·.1)
 ·rw [aQ h];exact ⟨.inl,λz=>z.elim id λe=>e▸h⟩
 ·rw [aP h];exact aD.trans (or_congr_right ao)
theorem gA_sA_inv {y:α} (h:gA (sA s k x) j=some y):(j=k/\y=x)\/gA s j=some y:=by
 rw [gA_sA] at h
 by_cases z:k=j
 ·rw [aQ z] at h;exact .inl ⟨z.symm,(aE h).symm⟩
 ·rw [aP z] at h;exact .inr h
end
abbrev Ends:=List (End×End)
noncomputable def EdR (A:Ends) (P:End->Nat) (v u w:Nat):Prop:=∃ e f,(e,f)∈A/\e.1=v/\f.1=u/\w=P e
noncomputable def relE (P:End->Nat) (C:Cst) (here x:Nat) (W:Cst) (q:End×End):Cst:=
 if q.2.1=here/\q.1.1∉C.map (·.1) then sA W q.1.1 (min (x+P q.1) ((gA W q.1.1).getD (x+P q.1))) else W
structure Dk (A:Ends) (P:End->Nat) (isR Q:Nat->Prop) (ρ:Nat) (C W:Cst):Prop where
 dj:Dj (EdR A P) isR C
 wn:(W.map (·.1)).Nodup
 wq:∀ v∈W.map (·.1),Q v/\v∉C.map (·.1)
 w3:∀ {v x},gA W v=some x->Src (EdR A P) isR C v x
 w4:∀ {v x u y},Q v->gA C v=some x->gA W u=some y->x<=y
 w5:∀ {v u w du},EdR A P v u w->Q u->gA C u=some du->(∃ x,gA C v=some x/\x<=du+w)\/∃ y,gA W v=some y/\y<=du+w
 rt:ρ∈C.map (·.1)\/W=[(ρ,0)]
structure Ik (A:Ends) (P:End->Nat) (isR Q:Nat->Prop) (C:Cst) (here x:Nat) (W1:Cst) (d:Ends) (W:Cst):Prop where
 wn:(W.map (·.1)).Nodup
 wq:∀ v∈W.map (·.1),Q v/\v∉C.map (·.1)
 w3:∀ {v x},gA W v=some x->Src (EdR A P) isR C v x
 ge:∀ {v y},gA W v=some y->x<=y
 kp:∀ {v y1},gA W1 v=some y1->∃ y,gA W v=some y/\y<=y1
 pr:∀ q∈d,q.2.1=here->q.1.1∉C.map (·.1)->∃ y,gA W q.1.1=some y/\y<=x+P q.1
section
variable {A d L:Ends} {P:End->Nat} {isR Q:Nat->Prop} {ρ here x:Nat} {C W W1 W':Cst} {q:End×End}
theorem min_le_getD {a b:Nat} {o:Option Nat} (h:o=some b):min a (o.getD a)<=b:=h▸Nat.min_le_right _ _
theorem Ik.step (I:Ik A P isR Q C here x W1 d W) (hq:q∈A) (hC:gA C here=some x) (cl:∀ v u w,EdR A P v u w->Q u->Q v) (hQ:Q here) (uni:∀ v,Q v->isR v->v∈C.map (·.1)):Ik A P isR Q C here x W1 (d++[q]) (relE P C here x W q):=by
 unfold relE
 by_cases h:q.2.1=here/\q.1.1∉C.map (·.1)
 ·rw [aQ h]
  have ed:EdR A P q.1.1 here (P q.1):=⟨q.1,q.2,hq,rfl,h.1,rfl⟩
  have Qv:Q q.1.1:=cl _ _ _ ed hQ
  have nr:¬ isR q.1.1:=λr=>h.2 (uni _ Qv r)
  have new:Src (EdR A P) isR C q.1.1 (x+P q.1):=.inr ⟨nr,here,x,P q.1,hC,ed,rfl⟩
  have le:∀ {v y},gA W v=some y->∃ z,gA (sA W q.1.1 (min (x+P q.1) ((gA W q.1.1).getD (x+P q.1)))) v=some z/\z<=y:=λ{v y} e=>by
   rw [gA_sA]
   by_cases z:q.1.1=v
   ·rw [aQ z];exact ⟨_,rfl,min_le_getD (z▸e)⟩
   ·rw [aP z];exact ⟨y,e,Nat.le_refl _⟩
  refine ⟨sA_nd I.wn,λv hv=>(mem_keys_sA.mp hv).elim (I.wq v) λe=>e▸⟨Qv,h.2⟩,λhy=>(gA_sA_inv hy).elim (λz=>?_) I.w3,λhy=>(gA_sA_inv hy).elim (λz=>?_) I.ge,λhy=>xea (I.kp hy) λy e l=>xea (le e) λz e' l'=>⟨z,e',aI l' l⟩,λp hp h1 h2=>(aD.mp hp).elim (λhp=>xea (I.pr p hp h1 h2) λy e l=>xea (le e) λz e' l'=>⟨z,e',aI l' l⟩) λhp=>?_⟩
  ·rw [z.1,z.2]
   cases g:gA W q.1.1 with
   | none=>exact (Nat.min_self _).symm▸new
   | some y=>exact (Nat.le_total (x+P q.1) y).elim (λl=>(Nat.min_eq_left l).symm▸new) λl=>(Nat.min_eq_right l).symm▸I.w3 g
  ·rw [z.2]
   refine Nat.le_min.mpr ⟨Nat.le_add_right _ _,?_⟩
   cases g:gA W q.1.1 with
   | none=>exact Nat.le_add_right _ _
   | some y=>exact I.ge g
  ·rw [ao.mp hp,gA_sA,aQ rfl]
   exact ⟨_,rfl,Nat.min_le_left _ _⟩
 ·rw [aP h]
  exact ⟨I.wn,I.wq,I.w3,I.ge,I.kp,λp hp h1 h2=>(aD.mp hp).elim (λhp=>I.pr p hp h1 h2) λhp=>absurd (ao.mp hp▸⟨h1,h2⟩) h⟩
theorem Dk.pop (D:Dk A P isR Q ρ C W) (hx:gA W here=some x) (hm:∀ {u y},gA W u=some y->x<=y):Ik A P isR Q (C++[(here,x)]) here x (dA W here) [] (dA W here)/\Dj (EdR A P) isR (C++[(here,x)]):=by
 have hk:=(D.wq here (gA_key hx)).2
 refine ⟨⟨D.wn.sublist keys_dA,λv hv=>⟨(D.wq v (keys_dA.subset hv)).1,λz=>(keys_snoc.mp z).elim (D.wq v (keys_dA.subset hv)).2 λe=>xe (gA_some hv) λy hy=>(gA_dA_inv D.wn hy).1 e.symm⟩,λhy=>(D.w3 (gA_dA_inv D.wn hy).2).lift hk,λhy=>hm (gA_dA_inv D.wn hy).2,λhy=>⟨_,hy,Nat.le_refl _⟩,λq hq=>absurd hq aA⟩,.snoc D.dj hk (D.w3 hx)⟩
theorem Dk.next (D:Dk A P isR Q ρ C W) (hx:gA W here=some x) (hm:∀ {u y},gA W u=some y->x<=y) (cl:∀ v u w,EdR A P v u w->Q u->Q v) (hL:∀ q∈A,q∈L) (I:Ik A P isR Q (C++[(here,x)]) here x (dA W here) L W'):Dk A P isR Q ρ (C++[(here,x)]) W':=by
 have hk:=(D.wq here (gA_key hx)).2
 have self:gA (C++[(here,x)]) here=some x:=gA_self hk
 refine ⟨(D.pop hx hm).2,I.wn,I.wq,I.w3,λhv hy hz=>(gA_inv hk hy).elim (λz=>z.2▸I.ge hz) λhy=>aI (D.w4 hv hy hx) (I.ge hz),λ{v u w du} he hu hd=>(gA_inv hk hd).elim (λz=>?_) λhd=>(D.w5 he hu hd).elim (λh=>.inl (xea h λy e l=>⟨y,gA_lift hk e,l⟩)) λh=>xea h λy e l=>?_,D.rt.elim (λh=>.inl (keys_snoc.mpr (.inl h))) λh=>.inl (keys_snoc.mpr (.inr ?_))⟩
 ·obtain ⟨rfl,rfl⟩:=z
  refine (Classical.em (v∈(C++[(u,du)]).map (·.1))).elim (λhv=>xe (gA_some hv) λy hy=>.inl ⟨y,hy,?_⟩) λhv=>.inr (xee (id he) λe f h=>xaaa h λh1 h2 h3 h4=>?_)
  ·exact (gA_inv hk hy).elim (λz=>z.2▸Nat.le_add_right _ _) λhy=>aI (D.w4 (cl _ _ _ he hu) hy hx) (Nat.le_add_right _ _)
  ·exact h2▸h4▸I.pr (e,f) (hL _ h1) h3 (h2▸hv)
 ·by_cases z:here=v
  ·subst z
   cases hx.symm.trans e
   exact .inl ⟨x,self,l⟩
  ·exact .inr (xea (I.kp ((gA_dA D.wn).trans ((aP z).trans e))) λy' e' l'=>⟨y',e',aI l' l⟩)
 ·rw [h,gA_c] at hx
  by_cases z:ρ=here
  ·exact z
  ·rw [aP z] at hx;cases hx
end
noncomputable abbrev dO' {κ α:Type} (kf:κ->Key) (f:α->D) (s:List (κ×α)):O:=dO kf (λx=>.d (f x)) s
abbrev B2:=List (Nat×End)
noncomputable def portD (x:End×Nat):D:=.tup [endD x.1,nD x.2]
noncomputable def treeI (b:Nat) (B:B2) (jp:Nat):O:=.inst 0 [(0,.d (dD nK endD B)),(1,.ref jp),(2,.ref (b+1)),(3,.ref (b+2)),(4,.ref (b+3))]
noncomputable def PH (base:List O) (B:B2) (jp:Nat) (A:Ends) (R:B2) (C:Cst) (J:List O):List O:=base++(treeI base.length B jp::dO' endK endD A::dO' nK endD R::dO' nK nD C::J)
section
variable {base:List O} {B R R':B2} {jp w m i n:Nat} {A:Ends} {C C':Cst} {J:List O} {Φ:Fns} {vs:Vars} {H:Hp} {e:X} {x y:O}
theorem ph0:(PH base B jp A R C J)[base.length]?=some (treeI base.length B jp):=get_app (i:=0)
theorem ph1:(PH base B jp A R C J)[base.length+1]?=some (dO' endK endD A):=get_app
theorem ph2:(PH base B jp A R C J)[base.length+2]?=some (dO' nK endD R):=get_app
theorem ph3:(PH base B jp A R C J)[base.length+3]?=some (dO' nK nD C):=get_app
theorem ph4:(PH base B jp A R C (J++[x]))[base.length+(J.length+4)]?=some x:=get_app.trans at_end
theorem phb (h:i < base.length):(PH base B jp A R C J)[i]?=base[i]?:=at_low h
theorem ps2:(PH base B jp A R C J).set (base.length+2) (dO' nK endD R')=PH base B jp A R' C J:=set_app
theorem ps3:(PH base B jp A R C J).set (base.length+3) (dO' nK nD C')=PH base B jp A R C' J:=set_app
theorem ps4:(PH base B jp A R C (J++[x])).set (base.length+(J.length+4)) y=PH base B jp A R C (J++[y]):=set_app.trans (aN (λl=>base++(treeI base.length B jp::dO' endK endD A::dO' nK endD R::dO' nK nD C::l)) set_end)
theorem len_PH:(PH base B jp A R C J).length=base.length+(J.length+4):=aq
theorem tree_flds (hH:H.o=PH base B jp A R C J):fldsAt (.inst 0 base.length) H=some (0,base.length,[(0,.d (dD nK endD B)),(1,.ref jp),(2,.ref (base.length+1)),(3,.ref (base.length+2)),(4,.ref (base.length+3))]):=bI rfl (bI ((aN (λo:List O=>o[base.length]?) hH).trans ph0) rfl)
theorem at_f {f:Nat} {z:V} (hH:H.o=PH base B jp A R C J) (h:evalX Φ e vs H=some (.inst 0 base.length,H)) (hf:wh (okFld 0 f) (List.lookup f [(0,.d (dD nK endD B)),(1,.ref jp),(2,.ref (base.length+1)),(3,.ref (base.length+2)),(4,.ref (base.length+3))])=some z):evalX Φ (.attr e f) vs H=some (z,H):=e_attr h (bI (tree_flds hH) hf)
theorem inst_PH (hm:okMeth 0 m=true) (hH:H.o=PH base B jp A R C J):instV (.inst 0 base.length) m H=some 0:=bI (tree_flds hH) (wh_t (ba hm (Bool.or_eq_true_iff.mpr (.inr rfl))))
theorem lt_nD {a b:Nat}:ltD n (nD a) (nD b)=some (decide (a < b)):=by
 have:ltI2 (nD a) (nD b)=some (decide (a < b)):=aN some (decide_eq_decide.mpr Int.ofNat_lt)
 cases n <;> exact this
theorem ltP_D {p q:Nat×Nat}:ltD (n+1) (endD p) (endD q)=some (ltP p q):=by
 show (eqD (nD p.1) (nD q.1)).bind (λb=>bif b then ltDs (ltD n) [nD p.2] [nD q.2] else ltD n (nD p.1) (nD q.1))=_
 refine bI (rep_nD.eqD (by decide) p.1 q.1) ?_
 unfold ltP
 by_cases h:p.1=q.1
 ·rw [aQ h,aF h]
  show (eqD (nD p.2) (nD q.2)).bind (λb=>bif b then ltDs (ltD n) [] [] else ltD n (nD p.2) (nD q.2))=_
  refine bI (rep_nD.eqD (by decide) p.2 q.2) ?_
  by_cases k:p.2=q.2
  ·rw [aF k,decide_eq_false (k▸Nat.lt_irrefl _)];rfl
  ·rw [decide_eq_false k];exact lt_nD
 ·rw [aP h,decide_eq_false h];exact lt_nD
theorem sorted_ends {es:List End} (hl:es.length < 60):∃ L:List End,L.Perm es/\sortD (es.map endD)=some (L.map endD):=by
 cases es with
 | nil=>exact ⟨[],.refl _,rfl⟩
 | cons e r=>
  generalize hE:e::r=es at *
  have i0:intsOf (es.map endD)=none:=by rw [← hE];rfl
  have t0:tupsOf (es.map endD)=some (es.map λe=>[(e.1:Int),(e.2:Int)]):=allM_map λu1=>rfl
  have al:(es.map λe:End=>[(e.1:Int),(e.2:Int)]).all (λt=>t.length==2)=true:=List.all_eq_true.mpr λt ht=>xea (aJ.mp ht) λa u1 e=>e▸rfl
  have p:=sortT_perm (es.map λe=>[(e.1:Int),(e.2:Int)])
  have id':((λl:List Int=>((l.getD 0 0).toNat,(l.getD 1 0).toNat))∘λe:End=>[(e.1:Int),(e.2:Int)])=id:=rfl
  refine ⟨(sortT (es.map λe=>[(e.1:Int),(e.2:Int)])).map λl=>((l.getD 0 0).toNat,(l.getD 1 0).toNat),?_,(wh_t (smm hl)).trans ?_⟩
  ·have:=p.map λl:List Int=>((l.getD 0 0).toNat,(l.getD 1 0).toNat)
   rwa [aK,id',List.map_id] at this
  ·rw [i0]
   refine bI t0 ((wh_t al).trans (aN some ?_))
   rw [aK]
   refine List.map_congr_left λt ht=>xea (aJ.mp (p.mem_iff.mp ht)) λa u1 e=>e▸rfl
end
abbrev Pt':=List (End×(End×Nat))
structure TD (n:Nat) (base:List O) (B:B2) (jp:Nat) (A:Ends) (pt:Pt') (br:Nat->End) (P:End->Nat):Prop where
 hn:n<=6
 jl:jp < base.length
 jo:base[jp]?=some (dO' endK portD pt)
 hb:∀ v,v < n->gA B v=some (br v)
 an:(A.map (·.1)).Nodup
 al:A.length<=18
 ap:∀ {e f},(e,f)∈A->∃ x,gA pt e=some x/\x.2=P e
 lo:∀ {e f},(e,f)∈A->e.1 < n/\f.1 < n
noncomputable abbrev bS:List Internal.C:=[.asg 7 (.item (.item (.attr (.var 0) 2) (.var 6)) (.int 0)),.ifs (.and (.cmp .eq (.item (.item (.attr (.var 0) 2) (.var 6)) (.int 0)) (.var 5)) (.cmp .notin (.item (.var 6) (.int 0)) (.attr (.var 0) 4))) [.asg 8 (.bin .add (.item (.attr (.var 0) 4) (.var 7)) (.item (.item (.attr (.var 0) 1) (.var 6)) (.int 1))),.setI (.var 4) (.item (.var 6) (.int 0)) (.bcall .min [.var 8,.bmeth .get (.var 4) [.item (.var 6) (.int 0),.var 8]])] []]
abbrev S11:=Cst×Nat×Option V×Option V×Option V
noncomputable def V11 (bl jl:Nat) (a1 a2 a3:Option V) (here:Nat) (s:S11):Vars:=[some (.inst 0 bl),a1,a2,a3,some (.ref (bl+(jl+4))),some (.d (nD here)),s.2.2.1,s.2.2.2.1,s.2.2.2.2,none,none]
noncomputable def H11 (base:List O) (B:B2) (jp:Nat) (A:Ends) (R:B2) (C:Cst) (J:List O) (s:S11):Hp:=⟨PH base B jp A R C (J++[dO' nK nD s.1]),s.2.1⟩
theorem notin_dO {κ α:Type} [DecidableEq κ] {kf:κ->Key} {kd:κ->D} (K:KK kf kd) {f:α->V} {s:List (κ×α)} {k:κ} {j:Nat} {H:Hp} (h:H.o[j]?=some (dO kf f s)):cmpV .notin (.d (kd k)) (.ref j) H=some (!decide (k∈s.map (·.1))):=mI (in_dO K h)
section
variable {n jp here x:Nat} {base:List O} {B R:B2} {A d:Ends} {pt:Pt'} {br:Nat->End} {P:End->Nat} {isR Q:Nat->Prop} {C W1:Cst} {J:List O} {a1 a2 a3:Option V} {Φ:Fns} {s:S11} {e f:End} {Qs:St->Prop}
theorem rel_turn (T:TD n base B jp A pt br P) (hf:gA A e=some f) (hC:gA C here=some x) (cl:∀ v u w,EdR A P v u w->Q u->Q v) (hQ:Q here) (uni:∀ v,Q v->isR v->v∈C.map (·.1)) (qn:∀ v,Q v->v < n) (I:Ik A P isR Q C here x W1 d s.1) :
  WB Φ (.var 6) bS (.d (endD e)) (V11 base.length J.length a1 a2 a3 here s) (H11 base B jp A R C J s) (Tn (V11 base.length J.length a1 a2 a3 here) (H11 base B jp A R C J) (λs=>Ik A P isR Q C here x W1 (d++[(e,f)]) s.1) Qs):=by
 have mem:=gA_mem hf
 refine xea (T.ap mem) λxp hp1 hp2=>?_
 have wl:s.1.length<=n:=aB (f:=(·.1)) (as:=s.1)▸nodup_len I.wn λv hv=>qn v (I.wq v hv).1
 have S:=I.step (q:=(e,f)) mem hC cl hQ uni
 have g1:(H11 base B jp A R C J s).o[base.length+1]?=some (dO' endK endD A):=ph1
 have g3:(H11 base B jp A R C J s).o[base.length+3]?=some (dO' nK nD C):=ph3
 have g4:(H11 base B jp A R C J s).o[base.length+(J.length+4)]?=some (dO' nK nD s.1):=ph4
 have gp:(H11 base B jp A R C J s).o[jp]?=some (dO' endK portD pt):=(phb T.jl).trans T.jo
 have acr:∀ {o7 o8:Option V},evalX Φ (.item (.item (.attr (.var 0) 2) (.var 6)) (.int 0)) (V11 base.length J.length a1 a2 a3 here (s.1,s.2.1,some (.d (endD e)),o7,o8)) (H11 base B jp A R C J s)=some (.d (nD f.1),H11 base B jp A R C J s):=e_item (e_item (at_f rfl rfl rfl) rfl (item_dO kE (f:=λx=>.d (endD x)) (s:=A) g1 hf)) rfl rfl
 refine w_b rfl (w_asg acr (w_ifP (P:=f.1=here/\e.1∉C.map (·.1)) ((e_and (e_cmp (acr (o7:=some (.d (nD f.1)))) rfl (cmp_eqD rep_nD (by decide) λu1=>rfl)) λu1=>e_cmp (e_item rfl rfl rfl) (at_f rfl rfl rfl) (notin_dO kN (f:=λx=>.d (nD x)) (s:=C) (k:=e.1) g3)).trans (by rw [← decide_not,← Bool.decide_and];rfl)) (λh=>?_) λh=>w_nil (w_nil ⟨(s.1,s.2.1,some (.d (endD e)),some (.d (nD f.1)),s.2.2.2.2),rfl,rfl,?_⟩)))
 ·have v1:evalX Φ (.bin .add (.item (.attr (.var 0) 4) (.var 7)) (.item (.item (.attr (.var 0) 1) (.var 6)) (.int 1))) (V11 base.length J.length a1 a2 a3 here (s.1,s.2.1,some (.d (endD e)),some (.d (nD f.1)),s.2.2.2.2)) (H11 base B jp A R C J s)=some (.d (nD (x+P e)),H11 base B jp A R C J s):=
   (e_bin (e_item (at_f rfl rfl rfl) rfl (item_dO kN (f:=λx=>.d (nD x)) (s:=C) g3 (h.1▸hC))) (e_item (e_item (at_f rfl rfl rfl) rfl (item_dO kE (f:=λx=>.d (portD x)) (s:=pt) gp hp1)) rfl (z:=.d (nD xp.2)) rfl) rfl).trans (by rw [hp2];rfl)
  have v2:evalX Φ (.bmeth .get (.var 4) [.item (.var 6) (.int 0),.var 8]) (V11 base.length J.length a1 a2 a3 here (s.1,s.2.1,some (.d (endD e)),some (.d (nD f.1)),some (.d (nD (x+P e))))) (H11 base B jp A R C J s)=some (.d (nD ((gA s.1 e.1).getD (x+P e))),H11 base B jp A R C J s):=
   e_bmeth rfl (kindDO (f:=λx=>.d (nD x)) g4) (e_cons (e_item rfl rfl rfl) (e_1 rfl)) rfl (kindDO (f:=λx=>.d (nD x)) g4) ((get_dO kN (f:=λx=>.d (nD x)) (s:=s.1) (k:=e.1) g4).trans (by cases gA s.1 e.1 <;> rfl))
  refine w_asg v1 (w_setI (e_bcall (e_cons rfl (e_1 v2)) min_nD) rfl (e_item rfl rfl rfl) (set_dO kN (f:=λx=>.d (nD x)) (s:=s.1) (k:=e.1) g4 (au wl (lt6 T.hn))) (w_nil (w_nil ⟨(relE P C here x s.1 (e,f),s.2.1+1,some (.d (endD e)),some (.d (nD f.1)),some (.d (nD (x+P e)))),rfl,?_,S⟩)))
  unfold relE
  rw [aQ h]
  exact aN (λo=>(⟨o,s.2.1+1⟩:Hp)) ps4
 ·unfold relE at S
  rwa [aP h] at S
end
noncomputable abbrev vl (W:Cst) (v:Nat):Nat:=(gA W v).getD 0
structure Lst (W:Cst) (here x:Nat):Prop where
 hx:gA W here=some x
 le:∀ {u y},gA W u=some y->x<=y
 min:∀ {H},bcallV .min [.d (.list ((W.map (·.1)).map λv=>endD (vl W v,v)))] H=some (.d (endD (x,here)))
theorem lst_of {W:Cst} (ne:W≠[]) (l:W.length < 60):∃ here x,Lst W here x:=by
 obtain ⟨p,W0,e⟩:=List.exists_cons_of_ne_nil ne
 have ek:W.map (·.1)=p.1::W0.map (·.1):=by rw [e];rfl
 have mem:minF ltP (vl W p.1,p.1) ((W0.map (·.1)).map λv=>(vl W v,v))∈(W.map (·.1)).map λv=>(vl W v,v):=by
  rw [ek,List.map_cons]
  exact (minF_mem (lt:=ltP)).elim (λh=>h▸.head _) (.tail _)
 have le:=minF_le (lt:=ltP) (f:=Prod.fst) (m:=(vl W p.1,p.1)) (l:=(W0.map (·.1)).map λv=>(vl W v,v)) (λu1 u2=>ltP_le) λu1 u2=>ltP_ge
 have mn:∀ {H},bcallV .min [.d (.list ((W.map (·.1)).map λv=>endD (vl W v,v)))] H=some (.d (endD (minF ltP (vl W p.1,p.1) ((W0.map (·.1)).map λv=>(vl W v,v))))):=λ{H}=>by
  rw [ek]
  have:=min_list (g:=endD) (lt:=ltP) (m:=(vl W p.1,p.1)) (l:=(W0.map (·.1)).map λv=>(vl W v,v)) (H:=H) (λu1 u2=>ltP_D) (by rw [aB,aB];rw [e] at l;exact Nat.lt_of_succ_lt l)
  rwa [List.map_cons,aK] at this
 refine xea (aJ.mp mem) λhere hk he=>xe (gA_some hk) λx hx=>⟨here,x,hx,λ{u y} hu=>?_,λ{H}=>mn.trans ?_⟩
 ·rw [← he] at le
  have ev:vl W here=x:=by unfold vl;rw [hx];rfl
  have eu:vl W u=y:=by unfold vl;rw [hu];rfl
  rw [← ev,← eu]
  exact (aG.mp (ek▸gA_key hu)).elim (λ(z:u=p.1)=>z▸le.1) λz=>le.2 _ (aJ.mpr ⟨u,z,rfl⟩)
 ·rw [← he]
  show some (V.d (endD (vl W here,here)))=_
  unfold vl;rw [hx];rfl
theorem ne_dO {α:Type} {f:α->D} {s:List (Nat×α)} {H:Hp} {j:Nat} (h:H.o[j]?=some (dO' nK f s)):cmpV .ne (.ref j) (.d (.dict [] [])) H=some (decide (s≠[])):=by
 refine (mI (a:=decide (s=[])) (bI (a:=.dict (kL nK s) (s.map λp=>f p.2)) (bI h (mI alls_d)) ?_)).trans (aN some decide_not.symm)
 cases s with
 | nil=>exact aN some (aF rfl).symm
 | cons p s=>exact aN some (decide_eq_false (List.cons_ne_nil p s)).symm
abbrev S12:=Cst×Cst×Nat×Option V×Option V×Option V×Option V
noncomputable def V12 (bl jl:Nat) (a1 a2 a3:Option V) (s:S12):Vars:=[some (.inst 0 bl),a1,a2,a3,some (.ref (bl+(jl+4))),s.2.2.2.1,s.2.2.2.2.1,s.2.2.2.2.2.1,s.2.2.2.2.2.2,none,none]
noncomputable def H12 (base:List O) (B:B2) (jp:Nat) (A:Ends) (R:B2) (J:List O) (s:S12):Hp:=⟨PH base B jp A R s.1 (J++[dO' nK nD s.2.1]),s.2.2.1⟩
noncomputable abbrev cS12:List Internal.C:=[.asg 5 (.item (.bcall .min [.comp 3 (.tup [.item (.var 4) (.var 12),.var 12]) (.var 12) false (.var 4) false (.var 0) .none false .none]) (.int 1)),.setI (.attr (.var 0) 4) (.var 5) (.bmeth .pop (.var 4) [.var 5]),.fors false (.var 6) false (.bcall .sorted [.attr (.var 0) 2]) bS]
structure SD (n:Nat) (A:Ends) (P:End->Nat) (isR Q:Nat->Prop) (ρ:Nat) (C0 C W:Cst):Prop where
 D:Dk A P isR Q ρ C W
 cn:∀ v∈C.map (·.1),v < n
 sub:∀ v∈C.map (·.1),v∈C0.map (·.1)\/Q v
 kp:∀ {u y},gA C0 u=some y->gA C u=some y
section
variable {n jp here x ρ:Nat} {base:List O} {B R:B2} {A:Ends} {pt:Pt'} {br:Nat->End} {P:End->Nat} {isR Q:Nat->Prop} {C C0 W:Cst} {J:List O} {a1 a2 a3:Option V} {Φ:Fns} {s:S12} {Qs:St->Prop}
theorem Dk.rt' (D:Dk A P isR Q ρ C W) (hx:gA W here=some x):ρ∈(C++[(here,x)]).map (·.1):=keys_snoc.mpr (D.rt.imp id λh=>by
 rw [h,gA_c] at hx
 by_cases z:ρ=here
 ·exact z
 ·rw [aP z] at hx;cases hx)
theorem settle_body (T:TD n base B jp A pt br P) (cl:∀ v u w,EdR A P v u w->Q u->Q v) (qn:∀ v,Q v->v < n) (uq:∀ v,Q v->isR v->v=ρ) (S:SD n A P isR Q ρ C0 s.1 s.2.1) (ne:s.2.1≠[]):WP Φ cS12 (V12 base.length J.length a1 a2 a3 s) (H12 base B jp A R J s)
  (Tn (V12 base.length J.length a1 a2 a3) (H12 base B jp A R J) (λs'=>SD n A P isR Q ρ C0 s'.1 s'.2.1/\n - s'.1.length < n - s.1.length) Qs):=by
 have D:=S.D
 have wl:s.2.1.length < 60:=au (aB (f:=(·.1)) (as:=s.2.1)▸nodup_len D.wn λv hv=>qn v (D.wq v hv).1) (lt6 T.hn)
 have cl6:s.1.length < 60:=au (aB (f:=(·.1)) (as:=s.1)▸nodup_len D.dj.keys S.cn) (lt6 T.hn)
 refine xee (lst_of ne wl) λhere x Ls=>xea (sorted_ends (es:=A.map (·.1)) (by rw [aB];exact au T.al (by decide))) λL hperm hsort=>?_
 have hk:=D.wq here (gA_key Ls.hx)
 have g4:(H12 base B jp A R J s).o[base.length+(J.length+4)]?=some (dO' nK nD s.2.1):=ph4
 have cmp:evalX Φ (.comp 3 (.tup [.item (.var 4) (.var 12),.var 12]) (.var 12) false (.var 4) false (.var 0) .none false .none) (V12 base.length J.length a1 a2 a3 s) (H12 base B jp A R J s)=some (.d (.list ((s.2.1.map (·.1)).map λv=>endD (vl s.2.1 v,v))),H12 base B jp A R J s):=
  e_compM (f:=λv=>endD (vl s.2.1 v,v)) (xs:=s.2.1.map (·.1)) (emb:=λv=>.d (nD v)) rfl (it_dO kN (f:=λx=>.d (nD x)) g4) (by rw [aB];exact wl) λv hv=>xe (gA_some hv) λy hy=>⟨_,rfl,e_tup (e_cons (e_item rfl rfl (item_dO kN (f:=λx=>.d (nD x)) g4 hy)) (e_1 rfl)) (by unfold vl;rw [hy];rfl)⟩
 have pop:bmethV .pop (.ref (base.length+(J.length+4))) [.d (nD here)] (H12 base B jp A R J s)=some (.d (nD x),⟨PH base B jp A R s.1 (J++[dO' nK nD (dA s.2.1 here)]),s.2.2.1+1⟩):=(pop_dO (f:=λx=>.d (nD x)) g4 wl Ls.hx).trans (aN (λo=>some (V.d (nD x),(⟨o,s.2.2.1+1⟩:Hp))) ps4)
 have st:setItemV (.ref (base.length+3)) (.d (nD here)) (.d (nD x)) ⟨PH base B jp A R s.1 (J++[dO' nK nD (dA s.2.1 here)]),s.2.2.1+1⟩=some (H11 base B jp A R (s.1++[(here,x)]) J (dA s.2.1 here,s.2.2.1+1+1,s.2.2.2.2)):=(set_dO kN (f:=λx=>.d (nD x)) (s:=s.1) ph3 cl6).trans (by rw [sA_new hk.2];exact aN (λo=>some (⟨o,s.2.2.1+1+1⟩:Hp)) ps3)
 have I0:=D.pop Ls.hx Ls.le
 have cn':∀ v∈(s.1++[(here,x)]).map (·.1),v < n:=λv hv=>(keys_snoc.mp hv).elim (S.cn v) λe=>e▸qn _ hk.1
 refine w_asg (e_item (e_bcall (e_1 cmp) Ls.min) rfl rfl) (w_setI (e_bmeth rfl (kindDO (f:=λx=>.d (nD x)) g4) (e_1 rfl) rfl (kindDO (f:=λx=>.d (nD x)) g4) pop) (at_f rfl rfl rfl) rfl st
  (w_for (V:=V11 base.length J.length a1 a2 a3 here) (H:=H11 base B jp A R (s.1++[(here,x)]) J) (s:=(dA s.2.1 here,s.2.2.1+1+1,s.2.2.2.2)) (l:=L) (emb:=λe=>.d (endD e)) (R:=λd s'=>Ik A P isR Q (s.1++[(here,x)]) here x (dA s.2.1 here) (d.map λe=>(e,(gA A e).getD e)) s'.1)
   (e_bcall (e_1 (at_f rfl rfl rfl)) (sorted_dO kE (f:=λx=>.d (endD x)) (s:=A) ph1 hsort)) it_lD (by rw [hperm.length_eq,aB];exact au T.al (by decide)) I0.1 (λd e r s' hd I=>?_) λs' I=>w_nil ⟨(s.1++[(here,x)],s'.1,s'.2.1,some (.d (nD here)),s'.2.2),rfl,rfl,⟨D.next Ls.hx Ls.le cl (λq hq=>?_) I,cn',λv hv=>(keys_snoc.mp hv).elim (S.sub v) λe=>e▸.inr hk.1,λh=>gA_lift hk.2 (S.kp h)⟩,?_⟩))
 ·refine xe (gA_some (hperm.mem_iff.mp (hd▸aj d (.head r)))) λf hf=>?_
  have fr:(d++[e]).map (λe=>(e,(gA A e).getD e))=d.map (λe=>(e,(gA A e).getD e))++[(e,f)]:=by rw [aC,List.map_singleton,hf];rfl
  rw [fr]
  exact rel_turn T hf (gA_self hk.2) cl hk.1 (λv hv hr=>uq v hv hr▸D.rt' Ls.hx) qn I
 ·exact aJ.mpr ⟨q.1,hperm.mem_iff.mpr (List.mem_map_of_mem hq),by rw [gA_of_mem T.an hq];rfl⟩
 ·have l':(s.1++[(here,x)]).length<=n:=aB (f:=(·.1)) (as:=s.1++[(here,x)])▸nodup_len I0.2.keys cn'
  rw [aq] at l' ⊢
  exact Nat.sub_lt_sub_left l' (Nat.lt_succ_self _)
end
noncomputable def rtL (br:Nat->End):List Nat->End
 | []=>(0,0)
 | s::r=>minF ltP (br s) (r.map br)
structure RG (n:Nat) (R:B2):Prop where
 nd:(R.map (·.1)).Nodup
 lo:∀ v∈R.map (·.1),v < n
noncomputable def setR (rt:End) (l:List Nat) (R:B2):B2:=l.foldl (λR v=>sA R v rt) R
section
variable {n m jp ρ v w:Nat} {base:List O} {B R:B2} {A:Ends} {pt:Pt'} {br:Nat->End} {P:End->Nat} {isR:Nat->Prop} {C:Cst} {J:List O} {l d r:List Nat} {H:Hp} {rt:End} {Φ:Fns} {Qs:St->Prop}
theorem rtL_mem (h:l≠[]):∃ v∈l,br v=rtL br l:=by
 obtain ⟨s,r,rfl⟩:=List.exists_cons_of_ne_nil h
 exact (minF_mem (lt:=ltP) (l:=r.map br) (m:=br s)).elim (λe=>⟨s,.head _,e.symm⟩) λe=>xea (aJ.mp e) λv hv e=>⟨v,.tail _ hv,e⟩
theorem min_rt (h:l≠[]) (hl:l.length<=6):bcallV .min [.d (.list (l.map λv=>endD (br v)))] H=some (.d (endD (rtL br l))):=by
 obtain ⟨s,r,rfl⟩:=List.exists_cons_of_ne_nil h
 have:=min_list (g:=endD) (lt:=ltP) (l:=r.map br) (m:=br s) (H:=H) (λu1 u2=>ltP_D) (by rw [aB];exact Nat.lt_of_succ_lt (lt6 hl))
 rwa [List.map_cons,aK] at this
theorem RG.set (h:RG n R) (hv:v < n):RG n (sA R v rt):=⟨sA_nd h.nd,λu hu=>(mem_keys_sA.mp hu).elim (h.lo u) λe=>e▸hv⟩
theorem RG.len (h:RG n R):R.length<=n:=aB (f:=(·.1)) (as:=R)▸nodup_len h.nd h.lo
theorem setR_snoc:setR rt (d++[v]) R=sA (setR rt d R) v rt:=List.foldl_append
theorem setR_at:gA (setR rt l R) v=if v∈l then some rt else gA R v:=by
 induction l using snoc_ind with
 | h0=>exact (aP aA).symm
 | h1 l u ih=>
  rw [setR_snoc,gA_sA,ih]
  by_cases h:u=v
  ·rw [aQ h,aQ (aj _ (h▸.head _))]
  ·rw [aP h]
   by_cases k:v∈l
   ·rw [aQ k,aQ (ak _ k)]
   ·rw [aP k,aP λz=>(aD.mp z).elim k λz=>h (ao.mp z).symm]
abbrev S13:=B2×Cst×Nat×Option V
noncomputable def V13 (bl jl:Nat) (l:List Nat) (rt:End) (s:S13):Vars:=[some (.inst 0 bl),some (.d (natsD l)),s.2.2.2,some (.d (endD rt)),some (.ref (bl+(jl+4))),none,none,none,none,none,none]
noncomputable def H13 (base:List O) (B:B2) (jp:Nat) (A:Ends) (C:Cst) (J:List O) (s:S13):Hp:=⟨PH base B jp A s.1 C (J++[dO' nK nD s.2.1]),s.2.2.1⟩
structure RS (n:Nat) (rt:End) (R:B2) (ρ:Nat) (d:List Nat) (s:S13):Prop where
 r:s.1=setR rt d R
 g:RG n s.1
 w0:ρ∉d->s.2.1=[]
 w1:ρ∈d->s.2.1=[(ρ,0)]
noncomputable abbrev b13:List Internal.C:=[.setI (.attr (.var 0) 3) (.var 2) (.var 3),.ifs (.cmp .eq (.item (.attr (.var 0) 0) (.var 2)) (.var 3)) [.setI (.var 4) (.var 2) (.int 0)] []]
theorem member_turn {s:S13} (T:TD n base B jp A pt br P) (hv:v < n) (nv:v∉d) (hu:br v=rt↔v=ρ) (S:RS n rt R ρ d s):WB Φ (.var 2) b13 (.d (nD v)) (V13 base.length J.length l rt s) (H13 base B jp A C J s) (Tn (V13 base.length J.length l rt) (H13 base B jp A C J) (RS n rt R ρ (d++[v])) Qs):=by
 have s1:setItemV (.ref (base.length+2)) (.d (nD v)) (.d (endD rt)) (H13 base B jp A C J s)=some (H13 base B jp A C J (sA s.1 v rt,s.2.1,s.2.2.1+1,s.2.2.2)):=(set_dO kN (f:=λx=>.d (endD x)) (s:=s.1) ph2 (au S.g.len (lt6 T.hn))).trans (aN (λo=>some (⟨o,s.2.2.1+1⟩:Hp)) ps2)
 have er:sA s.1 v rt=setR rt (d++[v]) R:=by rw [setR_snoc,S.r]
 have mem:ρ∈d++[v]↔ρ∈d\/ρ=v:=aD.trans (or_congr_right ao)
 refine w_b rfl (w_setI rfl (at_f rfl rfl rfl) rfl s1 (w_ifP (P:=br v=rt) (e_cmp (e_item (at_f rfl rfl rfl) rfl (item_dD kN (g:=endD) (T.hb v hv))) rfl (cmp_eqD rep_endD (by decide) λu1=>rfl)) (λh=>?_) λh=>w_nil (w_nil ⟨(sA s.1 v rt,s.2.1,s.2.2.1+1,some (.d (nD v))),rfl,rfl,er,S.g.set hv,λz=>S.w0 λy=>z (mem.mpr (.inl y)),λz=>S.w1 ((mem.mp z).resolve_right λe=>h (hu.mpr e.symm))⟩)))
 have hρ:=hu.mp h
 have w0:=S.w0 (hρ▸nv)
 have s2:setItemV (.ref (base.length+(J.length+4))) (.d (nD v)) (.d (nD 0)) (H13 base B jp A C J (sA s.1 v rt,s.2.1,s.2.2.1+1,s.2.2.2))=some (H13 base B jp A C J (sA s.1 v rt,[(v,0)],s.2.2.1+1+1,s.2.2.2)):=(set_dO kN (f:=λx=>.d (nD x)) (s:=s.2.1) ph4 (by rw [w0];exact Nat.succ_pos 59)).trans (by rw [w0];exact aN (λo=>some (⟨o,s.2.2.1+1+1⟩:Hp)) ps4)
 exact w_setI rfl rfl rfl s2 (w_nil (w_nil ⟨(sA s.1 v rt,[(v,0)],s.2.2.1+1+1,some (.d (nD v))),rfl,rfl,er,S.g.set hv,λz=>absurd (mem.mpr (.inr hρ.symm)) z,λu1=>by rw [hρ]⟩))
inductive SetP (n:Nat) (base:List O) (B:B2) (jp:Nat) (A:Ends) (P:End->Nat) (isR:Nat->Prop) (ρ:Nat) (C:Cst) (l:List Nat) (R':B2) (v:V) (h:Hp):Prop
 | mk (C':Cst) (J':List O) (w':Nat) (ev:v=.d .none) (eh:h=⟨PH base B jp A R' C' J',w'⟩) (S:SD n A P isR (·∈l) ρ C C' []) (rg:RG n R')
theorem e_settle (T:TD n base B jp A pt br P) (ne:l≠[]) (nd:l.Nodup) (ln:∀ v∈l,v < n) (hρ:ρ∈l) (hu:∀ v∈l,br v=rtL br l↔v=ρ) (hR:∀ v∈l,isR v↔v=ρ) (rg:RG n R) (cf:∀ v∈l,v∉C.map (·.1)) (dj:Dj (EdR A P) isR C) (cn:∀ v∈C.map (·.1),v < n) (cl:∀ v u w,EdR A P v u w->u∈l->v∈l) :
  CP (callF (fns (m+1)) (.m 0 1) [.inst 0 base.length,.d (natsD l)] ⟨PH base B jp A R C J,w⟩) (SetP n base B jp A P isR ρ C l (setR (rtL br l) l R)):=by
 have ll:l.length<=6:=aI (nodup_len nd ln) T.hn
 have root:evalX (fns m) (.bcall .min [.comp 3 (.item (.attr (.var 0) 0) (.var 12)) (.var 12) false (.var 1) false (.var 0) .none false .none]) [some (.inst 0 base.length),some (.d (natsD l)),none,none,none,none,none,none,none,none,none] ⟨PH base B jp A R C J,w⟩=some (.d (endD (rtL br l)),⟨PH base B jp A R C J,w⟩):=
  e_bcall (e_1 (e_compM (f:=λv=>endD (br v)) (xs:=l) (emb:=λv=>.d (nD v)) rfl it_lD (lt6 ll) λv hv=>⟨_,rfl,e_item (at_f rfl rfl rfl) rfl (item_dD kN (g:=endD) (T.hb v (ln v hv)))⟩)) (min_rt ne ll)
 have hnew:(⟨PH base B jp A R C J,w⟩:Hp).new (.dict [] [])=H13 base B jp A C J (R,[],w,none):=aN (λo=>(⟨o,w⟩:Hp)) (ax base _ _)
 have w3:∀ {v x},gA [(ρ,0)] v=some x->Src (EdR A P) isR C v x:=λ{v x} h=>by
  rw [gA_c] at h
  by_cases e:ρ=v
  ·rw [aQ e] at h;exact .inl ⟨e▸(hR _ hρ).mpr rfl,(aE h).symm⟩
  ·rw [aP e] at h;cases h
 have D0:Dk A P isR (·∈l) ρ C [(ρ,0)]:=⟨dj,List.nodup_cons.mpr ⟨aA,.nil⟩,λv hv=>ao.mp hv▸⟨hρ,cf _ hρ⟩,w3,λhv h=>absurd (gA_key h) (cf _ hv),λu1 hu h=>absurd (gA_key h) (cf _ hu),.inr rfl⟩
 refine call_W rfl rfl rfl (w_asg root (w_asgN (o:=.dict [] []) rfl ?_))
 rw [hnew,show (⟨PH base B jp A R C J,w⟩:Hp).o.length=_ from len_PH]
 refine w_for (V:=V13 base.length J.length l (rtL br l)) (H:=H13 base B jp A C J) (s:=(R,[],w,none)) (l:=l) (emb:=λv=>.d (nD v)) (R:=RS n (rtL br l) R ρ) rfl it_lD (lt6 ll) ⟨rfl,rg,λu1=>rfl,λz=>absurd z aA⟩
  (λd v r s hd S=>member_turn T (ln v (hd▸aj d (.head r))) (λz=>(az.mp (hd▸nd)).2.2 v z v (.head _) rfl) (hu v (hd▸aj d (.head r))) S) λs S=>?_
 have e1:=S.w1 hρ
 exact w_while (V:=V12 base.length J.length (some (.d (natsD l))) s.2.2.2 (some (.d (endD (rtL br l))))) (H:=H12 base B jp A s.1 J) (s:=(C,s.2.1,s.2.2.1,none,none,none,none)) (R:=λz=>SD n A P isR (·∈l) ρ C z.1 z.2.1) (μ:=λz=>n - z.1.length) (t:=λz=>decide (z.2.1≠[])) ⟨e1▸D0,cn,λv hv=>.inl hv,id⟩ (au (Nat.sub_le _ _) (au T.hn (by decide)))
  (λz u1=>e_cmp rfl rfl (ne_dO ph4)) (λz Z ne=>settle_body T cl ln (λv hv hr=>(hR v hv).mp hr) Z (aw ne)) λz Z e=>w_nil ⟨z.1,_,z.2.2.1,rfl,by rw [← S.r];rfl,(Decidable.not_not.mp (of_decide_eq_false e))▸Z,S.r▸S.g⟩
end
noncomputable def acr (web:List Row):Ends:=web.flatMap λr=>[(r.1,r.2),(r.2,r.1)]
noncomputable def endsOf (web:List Row):List End:=web.flatMap λr=>[r.1,r.2]
noncomputable def bList (n:Nat) (br:Nat->End):B2:=(List.range n).map λv=>(v,br v)
noncomputable def rtF (n:Nat) (μ:Nat->Nat) (br:Nat->End) (v:Nat):End:=rtL br (grp n μ (μ v))
section
variable {n v u w f:Nat} {web d:List Row} {r:Row} {e e':End} {P:End->Nat} {br:Nat->End} {base:List O} {H:Hp} {fs:List (Nat×V)} {rs:List O} {x:V}
theorem acr_keys:(acr web).map (·.1)=endsOf web:=by
 unfold acr endsOf
 rw [List.map_flatMap];rfl
theorem acr_snoc:acr (d++[r])=acr d++[(r.1,r.2),(r.2,r.1)]:=by
 unfold acr
 rw [List.flatMap_append,List.flatMap_singleton]
theorem endsOf_snoc:endsOf (d++[r])=endsOf d++[r.1,r.2]:=by
 unfold endsOf
 rw [List.flatMap_append,List.flatMap_singleton]
theorem mem_acr:(e,e')∈acr web↔∃ r∈web,(r.1=e/\r.2=e')\/(r.2=e/\r.1=e'):=
 List.mem_flatMap.trans ⟨λh=>xea h λr m h=>⟨r,m,(aG.mp h).imp (λh=>by cases h;exact ⟨rfl,rfl⟩) λh=>by cases ao.mp h;exact ⟨rfl,rfl⟩⟩,λh=>xea h λr m h=>⟨r,m,h.elim (λh=>h.1▸h.2▸.head _) λh=>h.1▸h.2▸.tail _ (.head _)⟩⟩
theorem len_acr:(acr web).length=2 * web.length:=by
 induction web with
 | nil=>rfl
 | cons r w ih=>exact aN (·+2) ih
theorem edr_adj (h:EdR (acr web) P v u w):Adj web v u:=xee h λe f h=>xaaa h λh1 h2 h3 u1=>xea (mem_acr.mp h1) λr m h=>⟨r,m,h.elim (λh=>.inl ⟨h.1▸h2,h.2▸h3⟩) λh=>.inr ⟨h.1▸h2,h.2▸h3⟩⟩
theorem adj_edr (h:Adj web v u):∃ w,EdR (acr web) P v u w:=xea h λr m h=>h.elim (λh=>⟨_,r.1,r.2,mem_acr.mpr ⟨r,m,.inl ⟨rfl,rfl⟩⟩,h.1,h.2,rfl⟩) λh=>⟨_,r.2,r.1,mem_acr.mpr ⟨r,m,.inr ⟨rfl,rfl⟩⟩,h.1,h.2,rfl⟩
theorem bList_keys:(bList n br).map (·.1)=List.range n:=by
 unfold bList
 rw [aK];exact List.map_id' _
theorem bList_at (hv:v < n):gA (bList n br) v=some (br v):=gA_of_mem (bList_keys▸List.nodup_range) (aJ.mpr ⟨v,List.mem_range.mpr hv,rfl⟩)
theorem setat {c:Nat} (h:H.o=base++(.inst c fs::rs)) (hf:okFld c f=true) (hl:fs.length < 60):setAttrV (.inst c base.length) f x H=some ⟨base++(.inst c (setF fs f x)::rs),H.w+1⟩:=by
 have g:H.o[base.length]?=some (.inst c fs):=(aN (λo:List O=>o[base.length]?) h).trans (get_app (i:=0))
 have fa:fldsAt (.inst c base.length) H=some (c,base.length,fs):=bI rfl (bI g (bI rfl (wh_t (beq_self_eq_true c))))
 exact bI fa ((wh_t (ba hf (sm_t hl))).trans (aN (λo=>some (⟨o,H.w+1⟩:Hp)) ((aN (λo:List O=>o.set base.length _) h).trans (set_app (i:=0)))))
end
structure Made (n:Nat) (μ:Nat->Nat) (A:Ends) (P:End->Nat) (br:Nat->End) (R:B2) (C:Cst):Prop where
 rt:∀ v,v < n->gA R v=some (rtF n μ br v)
 dj:Dj (EdR A P) (λv=>br v=rtF n μ br v) C
 ky:∀ v,v∈C.map (·.1)↔v < n
 tri:∀ {v u w x y},EdR A P v u w->gA C v=some x->gA C u=some y->x<=y+w
noncomputable def fl3 (bl:Nat) (B:B2) (jp:Nat):List (Nat×V):=[(0,.d (dD nK endD B)),(1,.ref jp),(2,.ref (bl+1))]
abbrev S14:=Ends×Nat×Option V×Option V
noncomputable def V14 (bl:Nat) (B:B2) (jp:Nat) (web:List Row) (s:S14):Vars:=[some (.inst 0 bl),some (.d (dD nK endD B)),some (.ref jp),some (.d (webD web)),s.2.2.1,s.2.2.2,none,none,none]
noncomputable def H14 (base:List O) (B:B2) (jp:Nat) (s:S14):Hp:=⟨base++[.inst 0 (fl3 base.length B jp),dO' endK endD s.1],s.2.1⟩
section
variable {base:List O} {B:B2} {jp f:Nat} {web d q:List Row} {r:Row} {s:S14} {Φ:Fns} {Qs:St->Prop} {H:Hp} {fs:List (Nat×V)} {rs:List O} {z:V} {e:X} {vs:Vars}
theorem at_g (h:H.o=base++(.inst 0 fs::rs)) (he:evalX Φ e vs H=some (.inst 0 base.length,H)) (hf:wh (okFld 0 f) (fs.lookup f)=some z):evalX Φ (.attr e f) vs H=some (z,H):=
 e_attr he (bI (a:=(0,base.length,fs)) (bI rfl (bI ((aN (λo:List O=>o[base.length]?) h).trans (get_app (i:=0))) rfl)) hf)
theorem ends_pre (en:(endsOf web).Nodup) (hd:web=d++r::q):r.1∉endsOf d/\r.2∉endsOf d/\r.2≠r.1:=by
 have e:endsOf web=endsOf d++([r.1,r.2]++endsOf q):=by
  rw [hd];unfold endsOf;rw [List.flatMap_append,List.flatMap_cons]
 rw [e] at en
 have a:=az.mp en
 have b:=az.mp a.2.1
 exact ⟨λm=>a.2.2 _ m _ (.head _) rfl,λm=>a.2.2 _ m _ (.tail _ (.head _)) rfl,λh=>(List.nodup_cons.mp b.1).1 (h▸.head _)⟩
theorem across_turn (hw:web.length<=9) (en:(endsOf web).Nodup) (hd:web=d++r::q) (hs:s.1=acr d):WB Φ (.tup [.var 4,.var 5]) [.setI (.attr (.var 0) 2) (.var 4) (.var 5),.setI (.attr (.var 0) 2) (.var 5) (.var 4)] (.d (rowD r)) (V14 base.length B jp web s) (H14 base B jp s) (Tn (V14 base.length B jp web) (H14 base B jp) (λs=>s.1=acr (d++[r])) Qs):=by
 have p:=ends_pre en hd
 have dl:d.length < 9:=av (pre_lt hd) hw
 have l1:(acr d).length < 59:=by rw [len_acr];exact au (Nat.mul_le_mul_left 2 (Nat.le_of_lt dl)) (by decide)
 have k1:r.1∉s.1.map (·.1):=by rw [hs,acr_keys];exact p.1
 have k2:r.2∉(s.1++[(r.1,r.2)]).map (·.1):=λm=>(keys_snoc.mp m).elim (λm=>p.2.1 (by rw [hs,acr_keys] at m;exact m)) p.2.2
 have s1:setItemV (.ref (base.length+1)) (.d (endD r.1)) (.d (endD r.2)) (H14 base B jp s)=some (H14 base B jp (s.1++[(r.1,r.2)],s.2.1+1,s.2.2)):=(set_dO kE (f:=λx=>.d (endD x)) (s:=s.1) get_app (by rw [hs];exact Nat.lt_succ_of_lt l1)).trans (by rw [sA_new k1];exact aN (λo=>some (⟨o,s.2.1+1⟩:Hp)) set_app)
 have s2:setItemV (.ref (base.length+1)) (.d (endD r.2)) (.d (endD r.1)) (H14 base B jp (s.1++[(r.1,r.2)],s.2.1+1,s.2.2))=some (H14 base B jp (s.1++[(r.1,r.2)]++[(r.2,r.1)],s.2.1+1+1,s.2.2)):=(set_dO kE (f:=λx=>.d (endD x)) (s:=s.1++[(r.1,r.2)]) get_app (by rw [hs,aq];exact Nat.succ_lt_succ l1)).trans (by rw [sA_new k2];exact aN (λo=>some (⟨o,s.2.1+1+1⟩:Hp)) set_app)
 exact w_b rfl (w_setI rfl (at_g rfl rfl rfl) rfl s1 (w_setI rfl (at_g rfl rfl rfl) rfl s2 (w_nil ⟨(s.1++[(r.1,r.2)]++[(r.2,r.1)],s.2.1+1+1,some (.d (endD r.1)),some (.d (endD r.2))),rfl,rfl,by rw [hs,acr_snoc,ax];rfl⟩)))
end
abbrev S15:=B2×Cst×List O×Nat×Option V
structure GI (n:Nat) (μ:Nat->Nat) (A:Ends) (P:End->Nat) (br:Nat->End) (d:List Nat) (R:B2) (C:Cst):Prop where
 rg:RG n R
 rt:∀ v,v < n->μ v∈d->gA R v=some (rtF n μ br v)
 dj:Dj (EdR A P) (λv=>br v=rtF n μ br v) C
 ky:∀ v,v∈C.map (·.1)↔v < n/\μ v∈d
 tri:∀ {v u w x y},EdR A P v u w->gA C v=some x->gA C u=some y->x<=y+w
section
variable {n s ρ:Nat} {μ:Nat->Nat} {web:List Row} {P:End->Nat} {br:Nat->End} {d:List Nat} {R:B2} {C C':Cst}
theorem GI.next (L:Low n web) (I:IsLeast n web μ) (G:GI n μ (acr web) P br d R C) (hρ:ρ∈grp n μ s) (S:SD n (acr web) P (λv=>br v=rtF n μ br v) (·∈grp n μ s) ρ C C' []) (rg:RG n (setR (rtL br (grp n μ s)) (grp n μ s) R)):GI n μ (acr web) P br (d++[s]) (setR (rtL br (grp n μ s)) (grp n μ s) R) C':=by
 have ms:∀ {v},μ v∈d++[s]↔μ v∈d\/μ v=s:=aD.trans (or_congr_right ao)
 have mu:∀ {v u w},EdR (acr web) P v u w->v < n/\u < n/\μ v=μ u:=λe=>have a:=edr_adj e;have l:=L.adj a;⟨l.1,l.2,(I.conn l.1 l.2).mp (Conn.refl.step a)⟩
 have inn:∀ {v u w},EdR (acr web) P v u w->u∈grp n μ s->u∈C'.map (·.1)->v∈C'.map (·.1):=λe hu hc=>xe (gA_some hc) λy hy=>(S.D.w5 e hu hy).elim (λh=>xea h λx hx u1=>gA_key hx) λh=>xea h λx hx u1=>nomatch hx
 have all:∀ v∈grp n μ s,v∈C'.map (·.1):=λv hv=>by
  have h1:=mem_grp.mp hρ
  have h2:=mem_grp.mp hv
  have c:Conn web ρ v:=(I.conn h1.1 h2.1).mpr (h1.2.trans h2.2.symm)
  refine (c.closed (P:=λv=>v∈grp n μ s/\v∈C'.map (·.1)) ⟨hρ,S.D.rt.resolve_right nofun⟩ λx y k a=>xe (adj_edr (P:=P) a.symm) λw e=>⟨mem_grp.mpr ⟨(mu e).1,(mu e).2.2.trans (mem_grp.mp k.1).2⟩,inn e k.1 k.2⟩).2
 refine ⟨rg,λv hv hm=>?_,S.D.dj,λv=>⟨λhv=>(S.sub v hv).elim (λh=>⟨((G.ky v).mp h).1,ms.mpr (.inl ((G.ky v).mp h).2)⟩) λh=>⟨(mem_grp.mp h).1,ms.mpr (.inr (mem_grp.mp h).2)⟩,λh=>(ms.mp h.2).elim (λm=>xe (gA_some ((G.ky v).mpr ⟨h.1,m⟩)) λy hy=>gA_key (S.kp hy)) λm=>all v (mem_grp.mpr ⟨h.1,m⟩)⟩,λ{v u w x y} e hx hy=>?_⟩
 ·rw [setR_at]
  by_cases h:v∈grp n μ s
  ·rw [aQ h];unfold rtF;rw [(mem_grp.mp h).2]
  ·rw [aP h];exact G.rt v hv ((ms.mp hm).resolve_right λz=>h (mem_grp.mpr ⟨hv,z⟩))
 ·have m:=mu e
  by_cases h:u∈grp n μ s
  ·exact (S.D.w5 e h hy).elim (λk=>xea k λx' hx' l=>by cases hx.symm.trans hx';exact l) λk=>xea k λx' hx' u1=>nomatch hx'
  ·have hu:u∈C.map (·.1):=(S.sub u (gA_key hy)).resolve_right h
   have hv:v∈C.map (·.1):=(G.ky v).mpr ⟨m.1,m.2.2▸((G.ky u).mp hu).2⟩
   refine xe (gA_some hu) λy' hy'=>xe (gA_some hv) λx' hx'=>?_
   cases hy.symm.trans (S.kp hy')
   cases hx.symm.trans (S.kp hx')
   exact G.tri e hx' hy'
end
noncomputable def V15 (bl:Nat) (B:B2) (jp:Nat) (web:List Row) (v4 v5:Option V) (s:S15):Vars:=[some (.inst 0 bl),some (.d (dD nK endD B)),some (.ref jp),some (.d (webD web)),v4,v5,s.2.2.2.2,none,none]
noncomputable def H15 (base:List O) (B:B2) (jp:Nat) (A:Ends) (s:S15):Hp:=⟨PH base B jp A s.1 s.2.1 s.2.2.1,s.2.2.2.1⟩
section
variable {n m jp:Nat} {μ:Nat->Nat} {base:List O} {B:B2} {web:List Row} {pt:Pt'} {P:End->Nat} {br:Nat->End} {d r:List Nat} {s:S15} {v4 v5:Option V} {k:Nat} {Qs:St->Prop}
theorem settle_turn (L:Low n web) (I:IsLeast n web μ) (bi:∀ u v,u < n->v < n->br u=br v->u=v) (T:TD n base B jp (acr web) pt br P) (hd:fixL n μ=d++k::r) (G:GI n μ (acr web) P br d s.1 s.2.1) :
  WB (fns (m+1)) (.var 6) [.expr (.meth (.var 0) 1 [.var 6])] (.d (natsD (grp n μ k))) (V15 base.length B jp web v4 v5 s) (H15 base B jp (acr web) s) (Tn (V15 base.length B jp web v4 v5) (H15 base B jp (acr web)) (λs=>GI n μ (acr web) P br (d++[k]) s.1 s.2.1) Qs):=by
 have hk:=mem_fix.mp (show k∈fixL n μ from hd▸aj d (.head r))
 have nk:k∉d:=λz=>(az.mp (hd▸List.nodup_range.filter _:(d++k::r).Nodup)).2.2 k z k (.head _) rfl
 have ne:grp n μ k≠[]:=List.ne_nil_of_mem (mem_grp.mpr hk)
 refine xea (rtL_mem (br:=br) ne) λρ hρ eρ=>?_
 have ln:∀ v∈grp n μ k,v < n:=λv hv=>(mem_grp.mp hv).1
 have hu:∀ v∈grp n μ k,br v=rtL br (grp n μ k)↔v=ρ:=λv hv=>⟨λe=>bi v ρ (ln v hv) (ln ρ hρ) (e.trans eρ.symm),λe=>e▸eρ⟩
 have hR:∀ v∈grp n μ k,br v=rtF n μ br v↔v=ρ:=λv hv=>by
  unfold rtF
  rw [(mem_grp.mp hv).2];exact hu v hv
 refine xea (e_settle (m:=m) (R:=s.1) (C:=s.2.1) (J:=s.2.2.1) (w:=s.2.2.2.1) (isR:=λv=>br v=rtF n μ br v) T ne grp_nd ln hρ hu hR G.rg (λv hv z=>nk ((mem_grp.mp hv).2▸((G.ky v).mp z).2)) G.dj (λv hv=>((G.ky v).mp hv).1) λv u w e hu'=>?_) λp e q=>?_
 ·have a:=edr_adj e
  have l:=L.adj a
  exact mem_grp.mpr ⟨l.1,((I.conn l.1 l.2).mp (Conn.refl.step a)).trans (mem_grp.mp hu').2⟩
 ·obtain ⟨x,h'⟩:=p
  cases q with | mk C' J' w' ev eh S rg=>
  cases ev;cases eh
  exact w_b rfl (w_expr (e_meth rfl (inst_PH rfl rfl) (e_1 rfl) e) (w_nil ⟨(_,C',J',w',some (.d (natsD (grp n μ k)))),rfl,rfl,G.next L I hρ S rg⟩))
end
inductive MadeP (n:Nat) (μ:Nat->Nat) (base:List O) (jp:Nat) (web:List Row) (P:End->Nat) (br:Nat->End) (v:V) (h:Hp):Prop
 | mk (R:B2) (C:Cst) (J:List O) (w:Nat) (ev:v=.d .none) (eh:h=⟨PH base (bList n br) jp (acr web) R C J,w⟩) (M:Made n μ (acr web) P br R C)
section
variable {n m jp w:Nat} {μ:Nat->Nat} {base:List O} {web:List Row} {pt:Pt'} {P:End->Nat} {br:Nat->End} {H:Hp} {R:B2} {C:Cst}
theorem GI.one:GI n μ (acr web) P br [] [] []:=⟨⟨.nil,λv m=>absurd m aA⟩,λv u1 m=>absurd m aA,.nil,λv=>⟨λm=>absurd m aA,λh=>absurd h.2 aA⟩,λu1 h=>nomatch h⟩
theorem GI.made (L:Low n web) (I:IsLeast n web μ) (G:GI n μ (acr web) P br (fixL n μ) R C):Made n μ (acr web) P br R C:=
 have all:∀ v,v < n->μ v∈fixL n μ:=λv hv=>mem_fix.mpr ⟨I.low L hv,I.idem L hv⟩
 ⟨λv hv=>G.rt v hv (all v hv),G.dj,λv=>(G.ky v).trans ⟨And.left,λh=>⟨h,all v h⟩⟩,G.tri⟩
theorem list_keys (hn:n<=6):bcallV .list [.d (dD nK endD (bList n br))] H=some (.d (natsD (List.range n))):=by
 show (listSrc (dD nK endD (bList n br))).map (λl=>V.d (.list l))=_
 refine mI ((wh_t (smm (by unfold bList;rw [aB,ay];exact lt6 hn))).trans (aN some ((keysD kN).trans ?_)))
 rw [bList_keys]
theorem e_init (L:Low n web) (hw:web.length<=9) (I:IsLeast n web μ) (en:(endsOf web).Nodup) (bi:∀ u v,u < n->v < n->br u=br v->u=v) (T:TD n base (bList n br) jp (acr web) pt br P) :
  CP (callF (fns (m+4)) (.m 0 0) [.inst 0 base.length,.d (dD nK endD (bList n br)),.ref jp,.d (webD web)] ⟨base++[.inst 0 []],w⟩) (MadeP n μ base jp web P br):=by
 have a0:=setat (base:=base) (H:=⟨base++[.inst 0 []],w⟩) (fs:=[]) (rs:=[]) (f:=0) (x:=.d (dD nK endD (bList n br))) rfl rfl (by decide)
 have a1:=setat (base:=base) (H:=⟨base++[.inst 0 [(0,.d (dD nK endD (bList n br)))]],w+1⟩) (fs:=[(0,.d (dD nK endD (bList n br)))]) (rs:=[]) (f:=1) (x:=.ref jp) rfl rfl (show 1 < 60 by decide)
 have len:∀ {l:List O},(base++l).length=base.length+l.length:=aq
 have ap:∀ {l r:List O},(base++l)++r=base++(l++r):=ax _ _ _
 have src:∀ {v4 v5:Option V} {H:Hp},evalX (fns (m+3)) (.fcall 4 [.var 3,.bcall .list [.var 1]]) (V15 base.length (bList n br) jp web v4 v5 ([],[],[],0,none)) H=some (.d (groupsD (groups n μ)),H):=e_fcall (e_cons rfl (e_1 (e_bcall (e_1 rfl) (list_keys T.hn)))) (e_parts (m:=m) T.hn L hw I λu1=>sorted_nats rfl (by rw [ay];exact lt6 T.hn) List.nodup_range λu1=>List.mem_range)
 refine call_W rfl rfl rfl (w_setA rfl rfl a0 (w_setA rfl rfl a1 (w_setAN (o:=.dict [] []) rfl rfl (h3:=H14 base (bList n br) jp ([],w+1+1+1,none,none)) ?_ (w_for (V:=V14 base.length (bList n br) jp web) (H:=H14 base (bList n br) jp) (s:=([],w+1+1+1,none,none)) (l:=web) (emb:=λr=>.d (rowD r)) (R:=λd s=>s.1=acr d) rfl it_lD (lt9 hw) rfl (λd r s q hd hs=>across_turn hw en hd hs) λs hs=>?_))))
 ·exact (setat (base:=base) (rs:=[.dict [] []]) (fs:=[(0,.d (dD nK endD (bList n br))),(1,.ref jp)]) ap rfl (show 2 < 60 by decide)).trans (by rw [len];rfl)
 ·rw [show H14 base (bList n br) jp s=⟨base++[.inst 0 (fl3 base.length (bList n br) jp),dO' endK endD (acr web)],s.2.1⟩ from by unfold H14;rw [hs]]
  have l4:(fl3 base.length (bList n br) jp++[(3,V.ref (base.length+2))]).length < 60:=(show 4 < 60 by decide)
  refine w_setAN (o:=.dict [] []) rfl rfl (h3:=⟨base++[.inst 0 (fl3 base.length (bList n br) jp++[(3,.ref (base.length+2))]),dO' endK endD (acr web),.dict [] []],s.2.1+1⟩) ?_ (w_setAN (o:=.dict [] []) rfl rfl (h3:=H15 base (bList n br) jp (acr web) ([],[],[],s.2.1+1+1,none)) ?_
   (w_for (V:=V15 base.length (bList n br) jp web s.2.2.1 s.2.2.2) (H:=H15 base (bList n br) jp (acr web)) (s:=([],[],[],s.2.1+1+1,none)) (l:=fixL n μ) (emb:=λk=>.d (natsD (grp n μ k))) (R:=λd z=>GI n μ (acr web) P br d z.1 z.2.1) src ?_ (au fix_le (lt6 T.hn)) .one (λd k r z hd G=>settle_turn L I bi T hd G) λz G=>w_nil ⟨z.1,z.2.1,z.2.2.1,z.2.2.2.1,rfl,rfl,G.made L I⟩))
  ·exact (setat (base:=base) (rs:=[dO' endK endD (acr web),.dict [] []]) (fs:=fl3 base.length (bList n br) jp) ap rfl (show 3 < 60 by decide)).trans (by rw [len];rfl)
  ·exact (setat (base:=base) (rs:=[dO' endK endD (acr web),.dict [] [],.dict [] []]) (fs:=fl3 base.length (bList n br) jp++[(3,V.ref (base.length+2))]) ap rfl l4).trans (by rw [len];rfl)
  ·refine (it_lD (f:=natsD) (l:=groups n μ)).trans (aN (λz=>some (z,false)) ?_)
   unfold groups
   rw [aK];rfl
end
noncomputable def lx {α β:Type} [DecidableEq α] (l1:α->α->Bool) (l2:β->β->Bool) (x y:α×β):Bool:=if x.1=y.1 then l2 x.2 y.2 else l1 x.1 y.1
noncomputable def LL {β:Type} (g:β->List D) (l:β->β->Bool):Prop:=∀ n a b,ltDs (ltD (n+1)) (g a) (g b)=some (l a b)
structure RepL {α:Type} [DecidableEq α] (g:α->List D) (k:Nat):Prop where
 lay:∀ a,PyData.canLayAll0 (pys (g a))=true
 dep:∀ a,PyData.depthAll (pys (g a))<=k
 eq:∀ a b,PyData.eqvAll (pys (g a)) (pys (g b))=decide (a=b)
section
variable {α β γ:Type} [DecidableEq α] [DecidableEq β] [DecidableEq γ] {f:α->D} {g:β->List D} {k n:Nat} {l1:α->α->Bool} {l2 m2:β->β->Bool} {l3:γ->γ->Bool} {a a':α} {b b':β} {c c':γ} {x y:D} {xs ys:List D} {h:D->D->Option Bool} {P:Prop} [Decidable P]
theorem ltDs_c (e:eqD x y=some (decide P)):ltDs h (x::xs) (y::ys)=if P then ltDs h xs ys else h x y:=(bI e rfl).trans (by
 by_cases p:P
 ·rw [aQ p,aF p];rfl
 ·rw [aP p,decide_eq_false p];rfl)
theorem LL.cons (r:Rep f k) (hk:k<=64) (h1:∀ {n a b},ltD (n+1) (f a) (f b)=some (l1 a b)) (h2:LL g l2):LL (λp:α×β=>f p.1::g p.2) (lx l1 l2):=λn a b=>(ltDs_c (r.eqD hk a.1 b.1)).trans (by
 unfold lx
 by_cases p:a.1=b.1
 ·rw [aQ p,aQ p];exact h2 n a.2 b.2
 ·rw [aP p,aP p];exact h1)
theorem LL.one (r:Rep f k) (hk:k<=64) (h1:∀ {n a b},ltD (n+1) (f a) (f b)=some (l1 a b)) (i:∀ {a},l1 a a=false):LL (λp:α=>[f p]) l1:=λn a b=>(ltDs_c (r.eqD hk a b)).trans (by
 by_cases p:a=b
 ·rw [aQ p,p,i];rfl
 ·rw [aP p];exact h1)
theorem lx_as:lx (lx l1 l2) l3 ((a,b),c) ((a',b'),c')=lx l1 (lx l2 l3) (a,b,c) (a',b',c'):=by
 show (if (a,b)=(a',b') then l3 c c' else if a=a' then l2 b b' else l1 a a')=if a=a' then (if b=b' then l3 c c' else l2 b b') else l1 a a'
 by_cases p:a=a'
 ·by_cases q:b=b'
  ·rw [aQ (by rw [p,q]),aQ p,aQ q]
  ·rw [aP λz=>q (aN Prod.snd z),aQ p,aQ p,aP q]
 ·rw [aP λz=>p (aN Prod.fst z),aP p,aP p]
theorem lx_cg (e:l2 b b'=l3 c c'):lx l1 l2 (a,b) (a',b')=lx l1 l3 (a,c) (a',c'):=by
 show (if a=a' then l2 b b' else _)=if a=a' then l3 c c' else _
 rw [e]
theorem RepL.one (r:Rep f k):RepL (λp=>[f p]) k:=⟨λu1=>by simp only [pys,PyData.canLayAll0,r.lay,Bool.and_self],λu1=>by simp only [pys,PyData.depthAll];exact Nat.max_le.mpr ⟨r.dep _,Nat.zero_le _⟩,λu1 u2=>by simp only [pys,PyData.eqvAll,r.eq,Bool.and_true]⟩
theorem RepL.cons (r:Rep f k) (q:RepL g k):RepL (λp:α×β=>f p.1::g p.2) k where
 lay p:=by simp only [pys,PyData.canLayAll0];exact ba (r.lay _) (q.lay _)
 dep p:=by simp only [pys,PyData.depthAll];exact Nat.max_le.mpr ⟨r.dep _,q.dep _⟩
 eq p p':=by
  simp only [pys,PyData.eqvAll,r.eq,q.eq]
  rw [← Bool.decide_and]
  exact decide_eq_decide.mpr Prod.ext_iff.symm
theorem RepL.tup (q:RepL g k):Rep (λb=>D.tup (g b)) (k+1) where
 lay b:=by simp only [D.py,PyData.canLay0];exact q.lay b
 dep b:=by simp only [D.py,PyData.depth];exact Nat.succ_le_succ (q.dep b)
 eq b b':=by simp only [D.py,PyData.eqv];exact q.eq b b'
end
noncomputable def ltN (a b:Nat):Bool:=decide (a < b)
abbrev Wy4:=Nat×End×End×End
abbrev Wy:=Nat×End×End×End×End
noncomputable abbrev lt3:Nat×End×End->Nat×End×End->Bool:=lx ltN (lx ltP ltP)
noncomputable abbrev lt5:Wy->Wy->Bool:=lx ltN (lx ltP (lx ltP (lx ltP ltP)))
noncomputable def t3L (x:Nat×End×End):List D:=[nD x.1,endD x.2.1,endD x.2.2]
noncomputable def t3D (x:Nat×End×End):D:=.tup (t3L x)
noncomputable def t4D (r:End) (x:Nat×End×End):D:=.tup (endD r::t3L x)
noncomputable def w4L (x:Wy4):List D:=[nD x.1,endD x.2.1,endD x.2.2.1,endD x.2.2.2]
noncomputable def w5D (r:End) (x:Wy4):D:=.tup (endD r::w4L x)
noncomputable def flatD (y:Wy):D:=.tup [nD y.1,endD y.2.1,endD y.2.2.1,endD y.2.2.2.1,endD y.2.2.2.2]
noncomputable def y4 (y:Wy):Wy4:=(y.1,y.2.1,y.2.2.1,y.2.2.2.1)
noncomputable def nestD (r:End) (y:Wy):D:=.tup [w5D r (y4 y),endD y.2.2.2.2]
section
variable {r:End} {x y:Nat×End×End} {u v:Wy}
theorem ltP_self {p:End}:ltP p p=false:=(aQ rfl).trans (decide_eq_false (Nat.lt_irrefl _))
theorem llE:LL (λp:End=>[endD p]) ltP:=.one rep_endD (by decide) ltP_D ltP_self
theorem ll3:LL t3L lt3:=.cons rep_nD (by decide) lt_nD (.cons rep_endD (by decide) ltP_D llE)
theorem ll4:LL w4L (lx ltN (lx ltP (lx ltP ltP))):=.cons rep_nD (by decide) lt_nD (.cons rep_endD (by decide) ltP_D (.cons rep_endD (by decide) ltP_D llE))
theorem t3_lt:ltD 6 (t3D x) (t3D y)=some (lt3 x y):=ll3 4 x y
theorem t4_lt:ltD 6 (t4D r x) (t4D r y)=some (lt3 x y):=(ltDs_c (rep_endD.eqD (by decide) r r)).trans ((aQ rfl).trans (ll3 4 x y))
theorem flat_lt:ltD 6 (flatD u) (flatD v)=some (lt5 u v):=LL.cons (f:=nD) (g:=λz:End×End×End×End=>[endD z.1,endD z.2.1,endD z.2.2.1,endD z.2.2.2]) rep_nD (by decide) lt_nD (.cons rep_endD (by decide) ltP_D (.cons rep_endD (by decide) ltP_D (.cons rep_endD (by decide) ltP_D llE))) 4 u v
theorem rep_w5:Rep (w5D r) 2:=
 have R:Rep (λz:End×Wy4=>w5D z.1 z.2) 2:=RepL.tup (.cons rep_endD (.cons (rep_nD.mono (Nat.zero_le 1)) (.cons rep_endD (.cons rep_endD (.one rep_endD)))))
 ⟨λa=>R.lay (r,a),λa=>R.dep (r,a),λa b=>(R.eq (r,a) (r,b)).trans (decide_eq_decide.mpr ⟨aN Prod.snd,aN _⟩)⟩
theorem nest_lt:ltD 6 (nestD r u) (nestD r v)=some (lt5 u v):=by
 refine (ltDs_c (rep_w5.eqD (by decide) (y4 u) (y4 v))).trans (Eq.trans ?_ (aN some (lx_as.trans (lx_cg (lx_as.trans (lx_cg lx_as))):lx (lx ltN (lx ltP (lx ltP ltP))) ltP (y4 u,u.2.2.2.2) (y4 v,v.2.2.2.2)=lt5 u v)))
 show _=some (if y4 u=y4 v then ltP u.2.2.2.2 v.2.2.2.2 else _)
 by_cases p:y4 u=y4 v
 ·rw [aQ p,aQ p];exact llE 4 _ _
 ·rw [aP p,aP p];exact (ltDs_c (rep_endD.eqD (by decide) r r)).trans ((aQ rfl).trans (ll4 3 _ _))
theorem lt5_le (h:lt5 u v=true):u.1<=v.1:=by
 by_cases e:u.1=v.1
 ·exact Nat.le_of_eq e
 ·exact Nat.le_of_lt (aw ((aP e).symm.trans h))
theorem lt5_ge (h:lt5 u v=false):v.1<=u.1:=by
 by_cases e:u.1=v.1
 ·exact Nat.le_of_eq e.symm
 ·exact Nat.le_of_not_lt (of_decide_eq_false ((aP e).symm.trans h))
theorem lt3_first (h:y.1 < x.1):lt3 x y=false:=(aP (Nat.ne_of_gt h)).trans (decide_eq_false (Nat.lt_asymm h))
noncomputable def oE:Option End->D
 | none=>.none
 | some e=>endD e
theorem cmp_oE {o:Option End} {e:End} {H:Hp}:cmpV .eq (.d (oE o)) (.d (endD e)) H=some (decide (o=some e)):=by
 cases o with
 | none=>exact (wh_t (ba rfl (rep_endD.shaped (by decide) e))).trans rfl
 | some a=>exact (cmp_eqD rep_endD (by decide) λu1=>rfl).trans (aN some (decide_eq_decide.mpr Option.some_inj.symm))
end
structure Qd where
 n:Nat
 jp:Nat
 w:Nat
 base:List O
 web:List Row
 μ:Nat->Nat
 pt:Pt'
 br:Nat->End
 P:End->Nat
 pp:End->End
 R:B2
 C:Cst
 J:List O
noncomputable def Qd.H (q:Qd):Hp:=⟨PH q.base (bList q.n q.br) q.jp (acr q.web) q.R q.C q.J,q.w⟩
noncomputable def Qd.me (q:Qd):V:=.inst 0 q.base.length
noncomputable def Qd.rt (q:Qd) (v:Nat):End:=rtF q.n q.μ q.br v
structure Ask (q:Qd):Prop where
 L:Low q.n q.web
 hw:q.web.length<=9
 I:IsLeast q.n q.web q.μ
 T:TD q.n q.base (bList q.n q.br) q.jp (acr q.web) q.pt q.br q.P
 M:Made q.n q.μ (acr q.web) q.P q.br q.R q.C
 pts:∀ e∈endsOf q.web,gA q.pt e=some (q.pp e,q.P e)
noncomputable def dF (q:Qd) (v:Nat):Nat:=(gA q.C v).getD 0
noncomputable def acF (q:Qd) (e:End):End:=(gA (acr q.web) e).getD e
noncomputable def own (q:Qd) (e:End):Nat×End×End:=(dF q e.1,q.br e.1,q.pp e)
noncomputable def wyF (q:Qd) (e:End):Wy:=(dF q (acF q e).1+q.P e,q.br (acF q e).1,q.pp (acF q e),q.pp e,e)
noncomputable def isOut (q:Qd) (s:Nat) (e:End):Bool:=decide (e.1=s)&&!decide ((acF q e).1=s)
noncomputable def outs (q:Qd) (s:Nat):List End:=(endsOf q.web).filter (isOut q s)
noncomputable def bstL (q:Qd):List End->End
 | []=>(0,0)
 | e::r=>(minF lt5 (wyF q e) (r.map (wyF q))).2.2.2.2
noncomputable abbrev bst (q:Qd) (s:Nat):End:=bstL q (outs q s)
noncomputable def rpF (q:Qd) (s:Nat):Option End:=if q.br s=q.rt s\/outs q s=[] then none else some (bst q s)
noncomputable def roleF (q:Qd) (e:End):Str:=if lt3 (own q e) (own q (acF q e))=true then sDesig else if rpF q e.1=some e then sRoot else if (acF q e).1=e.1 then sBack else sAlt
section
variable {q:Qd} {e f:End} {v s m:Nat} {l:List End} {H:Hp}
theorem len_ends {web:List Row}:(endsOf web).length=2 * web.length:=by rw [← acr_keys,aB,len_acr]
theorem acr_sym {web:List Row} (h:(e,f)∈acr web):(f,e)∈acr web:=mem_acr.mpr (xea (mem_acr.mp h) λr m h=>⟨r,m,(Or.symm h).imp And.symm And.symm⟩)
theorem acr_end {web:List Row} (h:(e,f)∈acr web):e∈endsOf web:=acr_keys (web:=web)▸List.mem_map_of_mem (f:=(·.1)) h
theorem acF_of (h:gA (acr q.web) e=some f):acF q e=f:=by unfold acF;rw [h];rfl
theorem Ask.ag (K:Ask q) (h:e∈endsOf q.web):gA (acr q.web) e=some (acF q e):=xe (gA_some (s:=acr q.web) (acr_keys.symm▸h)) λf hf=>(acF_of hf).symm▸hf
theorem Ask.ac (K:Ask q) (h:e∈endsOf q.web):(e,acF q e)∈acr q.web:=gA_mem (K.ag h)
theorem Ask.low (K:Ask q) (h:e∈endsOf q.web):e.1 < q.n:=(K.T.lo (K.ac h)).1
theorem Ask.ae (K:Ask q) (h:e∈endsOf q.web):acF q e∈endsOf q.web:=acr_end (acr_sym (K.ac h))
theorem Ask.cost (K:Ask q) (h:v < q.n):gA q.C v=some (dF q v):=xe (gA_some ((K.M.ky v).mpr h)) λx hx=>by unfold dF;rw [hx];rfl
theorem Ask.rts (K:Ask q) (h:e∈endsOf q.web):q.rt (acF q e).1=q.rt e.1:=
 aN (λs=>rtL q.br (grp q.n q.μ s)) ((K.I.conn (K.low h) (K.low (K.ae h))).mp (Conn.refl.step (edr_adj (P:=q.P) ⟨e,_,K.ac h,rfl,rfl,rfl⟩))).symm
theorem Ask.gp (K:Ask q):q.H.o[q.jp]?=some (dO' endK portD q.pt):=(phb K.T.jl).trans K.T.jo
theorem outs_len (K:Ask q):(outs q s).length < 60:=au (List.length_filter_le _ _) (len_ends▸au (Nat.mul_le_mul_left 2 K.hw) (by decide))
theorem mem_outs:e∈outs q s↔e∈endsOf q.web/\e.1=s/\(acF q e).1≠s:=List.mem_filter.trans (and_congr_right λu1=>by
 unfold isOut
 rw [Bool.and_eq_true_iff,← decide_not]
 exact and_congr decide_eq_true_iff decide_eq_true_iff)
theorem min_way {g:Wy->D} (hg:∀ {u v},ltD 6 (g u) (g v)=some (lt5 u v)) (ne:l≠[]) (hl:l.length < 60):∃ y:Wy,bcallV .min [.d (.list (l.map λe=>g (wyF q e)))] H=some (.d (g y))/\y.2.2.2.2=bstL q l:=by
 obtain ⟨e,r,rfl⟩:=List.exists_cons_of_ne_nil ne
 refine ⟨_,?_,rfl⟩
 have:=min_list (g:=g) (lt:=lt5) (m:=wyF q e) (l:=r.map (wyF q)) (H:=H) (λu1 u2=>hg) (by rw [aB];exact Nat.lt_of_succ_lt hl)
 rwa [List.map_cons,aK] at this
theorem call_S {k n:Nat} {f:FId} {body:List C} {args:List V} {h h1:Hp} {v:V} (hc:codeT f=some ⟨n,[],k,body⟩) (hp:isPure f=false) (hl:args.length=n) (w:WP (fns m) body ((args++([]:List Int).map λi=>V.d (.int i)).map some++List.replicate (k - (args++([]:List Int).map λi=>V.d (.int i)).length) none) h (RQ λx y=>x=v/\y=h1)):callF (fns (m+1)) f args h=some (v,h1):=
 xea (call_W hc hp hl w) λp e z=>e.trans (aN some (Prod.ext z.1 z.2))
end
section
variable {κ:Type} [DecidableEq κ] {kf:κ->Key} {kd:κ->D} {Φ:Fns} {k:Nat} {p1:Pat} {it ke elt:X} {vs:Vars} {h h1:Hp} {v:V} {xs:List κ} {emb:κ->V} {lock:Bool} {α:Type} {g:α->D} {r:κ->α}
theorem pairs_of (K:KK kf kd) {g:κ->D} (nd:xs.Nodup):dictPairs (xs.map λx=>.tup [kd x,g x])=some (xs.map kf,xs.map g):=by
 induction xs with
 | nil=>rfl
 | cons x xs ih=>
  have nd:=List.nodup_cons.mp nd
  refine bI rfl (bI rfl (bI (K.key x) (bI (ih nd.2) (wh_t (ba K.sames ?_)))))
  rw [K.has,decide_eq_false nd.1];rfl
theorem e_dcomp (K:KK kf kd) (q:evalX Φ it vs h=some (v,h1)) (i:itemsOf false p1 v h1=some (xs.map emb,lock)) (s:xs.length < 60) (nd:xs.Nodup)
  (b:∀ x∈xs,∃ vs1,bindP p1 (emb x) (vs++List.replicate k none)=some vs1/\evalX Φ ke vs1 h1=some (.d (kd x),h1)/\evalX Φ elt vs1 h1=some (.d (g (r x)),h1)) :
  evalX Φ (.dcomp k ke elt p1 it) vs h=some (.d (dD kf g (xs.map λx=>(x,r x))),h1):=by
 refine bI (a:=(xs.map λx=>D.tup [kd x,g (r x)],h1)) (bI q (bI i ((wh_t (smm s)).trans (bI (loop_same (g:=λx=>[D.tup [kd x,g (r x)]]) λx m=>xeaa (b x m) λvs1 e1 e2 e3=>bI e1 (bI e2 (bI e3 rfl))) ((wh_small (by rw [flat_map,aB];exact s)).trans (by rw [flat_map])))))) ((mI (pairs_of K nd)).trans ?_)
 unfold dD kL
 rw [aK,aK];rfl
end
section
variable {q:Qd} {e:End} {v s m:Nat}
theorem Qd.at_ {Φ:Fns} {vs:Vars} {f:Nat} {x:V} {a:X} (ha:evalX Φ a vs q.H=some (q.me,q.H)) (hf:wh (okFld 0 f) (List.lookup f [(0,.d (dD nK endD (bList q.n q.br))),(1,.ref q.jp),(2,.ref (q.base.length+1)),(3,.ref (q.base.length+2)),(4,.ref (q.base.length+3))])=some x):evalX Φ (.attr a f) vs q.H=some (x,q.H):=at_f rfl ha hf
theorem Qd.inst (hm:okMeth 0 m=true):instV q.me m q.H=some 0:=inst_PH hm rfl
theorem Ask.i_ac (K:Ask q) (h:e∈endsOf q.web):itemV (.ref (q.base.length+1)) (.d (endD e)) q.H=some (.d (endD (acF q e))):=item_dO kE (f:=λx=>.d (endD x)) ph1 (K.ag h)
theorem Ask.i_rt (K:Ask q) (h:v < q.n):itemV (.ref (q.base.length+2)) (.d (nD v)) q.H=some (.d (endD (q.rt v))):=item_dO kN (f:=λx=>.d (endD x)) ph2 (K.M.rt v h)
theorem Ask.i_co (K:Ask q) (h:v < q.n):itemV (.ref (q.base.length+3)) (.d (nD v)) q.H=some (.d (nD (dF q v))):=item_dO kN (f:=λx=>.d (nD x)) ph3 (K.cost h)
theorem Ask.i_br (h:v < q.n) {H:Hp}:itemV (.d (dD nK endD (bList q.n q.br))) (.d (nD v)) H=some (.d (endD (q.br v))):=item_dD kN (g:=endD) (bList_at h)
theorem Ask.i_pt (K:Ask q) (h:e∈endsOf q.web):itemV (.ref q.jp) (.d (endD e)) q.H=some (.d (portD (q.pp e,q.P e))):=item_dO kE (f:=λx=>.d (portD x)) K.gp (K.pts e h)
theorem e_told (K:Ask q) (h:e∈endsOf q.web):callF (fns (m+1)) (.m 0 2) [q.me,.d (endD e)] q.H=some (.d (t4D (q.rt e.1) (own q e)),q.H):=
 have l:=K.low h
 call_S rfl rfl rfl (w_asg (e_item rfl rfl rfl) (w_ret (e_tup (e_cons (e_item (Qd.at_ rfl rfl) rfl (K.i_rt l)) (e_cons (e_item (Qd.at_ rfl rfl) rfl (K.i_co l)) (e_cons (e_item (Qd.at_ rfl rfl) rfl (Ask.i_br l)) (e_1 (e_item (e_item (Qd.at_ rfl rfl) rfl (K.i_pt h)) rfl rfl))))) rfl) ⟨rfl,rfl⟩))
theorem e_way (K:Ask q) (h:e∈endsOf q.web):callF (fns (m+2)) (.m 0 3) [q.me,.d (endD e)] q.H=some (.d (w5D (q.rt e.1) (y4 (wyF q e))),q.H):=
 call_S rfl rfl rfl (w_asgP (e_meth rfl (Qd.inst rfl) (e_1 (e_item (Qd.at_ rfl rfl) rfl (K.i_ac h))) (e_told K (K.ae h))) rfl (w_ret (e_tup (e_cons rfl (e_cons (e_bin rfl (e_item (e_item (Qd.at_ rfl rfl) rfl (K.i_pt h)) rfl (z:=.d (nD (q.P e))) rfl) (z:=.d (nD (wyF q e).1)) rfl) (e_cons rfl (e_cons rfl (e_1 (e_item (e_item (Qd.at_ rfl rfl) rfl (K.i_pt h)) rfl rfl)))))) rfl) ⟨by rw [K.rts h];rfl,rfl⟩))
theorem Ask.ends (K:Ask q) {p:Pat}:itemsOf false p (.ref (q.base.length+1)) q.H=some ((endsOf q.web).map λe=>.d (endD e),true):=acr_keys (web:=q.web)▸it_dO kE (f:=λx=>.d (endD x)) (s:=acr q.web) ph1
theorem Ask.elen (K:Ask q):(endsOf q.web).length < 60:=len_ends▸au (Nat.mul_le_mul_left 2 K.hw) (by decide)
theorem e_rootPort (K:Ask q) (hs:s < q.n):callF (fns (m+3)) (.m 0 4) [q.me,.d (nD s)] q.H=some (.d (oE (rpF q s)),q.H):=by
 have c1:evalX (fns (m+2)) (.comp 4 (.var 5) (.var 5) false (.attr (.var 0) 2) false (.var 0) .none true (.and (.cmp .eq (.item (.var 5) (.int 0)) (.var 1)) (.cmp .ne (.item (.item (.attr (.var 0) 2) (.var 5)) (.int 0)) (.var 1)))) [some q.me,some (.d (nD s)),none,none] q.H=some (.d (.list ((outs q s).map endD)),q.H):=
  e_compF (f:=endD) (p:=isOut q s) (Qd.at_ rfl rfl) K.ends K.elen λe he=>⟨_,rfl,e_and (e_cmp (e_item rfl rfl rfl) rfl (cmp_eqD rep_nD (by decide) λu1=>rfl)) λu1=>e_cmp (e_item (e_item (Qd.at_ rfl rfl) rfl (K.i_ac he)) rfl rfl) rfl (mI (cmp_eqD (H:=q.H) rep_nD (by decide) λu1=>rfl)),λu1=>rfl⟩
 have t2:cmpV .eq (.d (.list ((outs q s).map endD))) (.d (.list [])) q.H=some (decide (outs q s=[])):=cmp_eqD (rep_list rep_endD) (by decide) (b:=[]) λu1=>rfl
 refine call_S rfl rfl rfl (w_asg c1 (w_ifP (P:=q.br s=q.rt s\/outs q s=[]) ((e_or (e_cmp (e_item (Qd.at_ rfl rfl) rfl (Ask.i_br hs)) (e_item (Qd.at_ rfl rfl) rfl (K.i_rt hs)) (cmp_eqD rep_endD (by decide) λu1=>rfl)) λu1=>e_cmp rfl rfl t2).trans (by rw [← Bool.decide_or];rfl)) (λz=>w_ret rfl ⟨by unfold rpF;rw [aQ z];rfl,rfl⟩) λz=>w_nil ?_))
 refine xea (min_way (q:=q) (l:=outs q s) (H:=q.H) (g:=nestD (q.rt s)) nest_lt (λy=>z (.inr y)) (outs_len K)) λy e1 e2=>?_
 refine w_ret (e_item (e_bcall (e_1 (e_compM (f:=λe=>nestD (q.rt s) (wyF q e)) (xs:=outs q s) (emb:=λe=>.d (endD e)) rfl it_lD (outs_len K) λe he=>?_)) e1) rfl rfl) ⟨?_,rfl⟩
 ·have h:=mem_outs.mp he
  have w:=e_way (m:=m) K h.1
  rw [h.2.1] at w
  exact ⟨_,rfl,e_tup (e_cons (e_meth rfl (Qd.inst rfl) (e_1 rfl) w) (e_1 rfl)) rfl⟩
 ·unfold rpF
  rw [aP z,← show _=bst q s from e2];rfl
theorem e_role (K:Ask q) (h:e∈endsOf q.web):callF (fns (m+4)) (.m 0 5) [q.me,.d (endD e)] q.H=some (.d (.str (roleF q e)),q.H):=by
 have td:=e_told (m:=m+2) K (K.ae h)
 rw [K.rts h] at td
 refine call_S rfl rfl rfl (w_asg (e_item (Qd.at_ rfl rfl) rfl (K.i_ac h)) (w_if (t:=lt3 (own q e) (own q (acF q e))) (e_cmp (e_meth rfl (Qd.inst rfl) (e_1 rfl) (e_told K h)) (e_meth rfl (Qd.inst rfl) (e_1 rfl) td) t4_lt) (λz=>w_ret rfl ⟨by unfold roleF;rw [aQ z],rfl⟩) λz=>w_nil
  (w_ifP (P:=rpF q e.1=some e) (e_cmp (e_meth rfl (Qd.inst rfl) (e_1 (e_item rfl rfl rfl)) (e_rootPort K (K.low h))) rfl cmp_oE) (λy=>w_ret rfl ⟨by unfold roleF;rw [aP (Bool.eq_false_iff.mp z),aQ y],rfl⟩) λy=>w_nil (w_ret (e_ite (P:=(acF q e).1=e.1) (e_cmp (e_item rfl rfl rfl) (e_item rfl rfl rfl) (cmp_eqD rep_nD (by decide) λu1=>rfl)) (λu1=>rfl) λu1=>rfl) ⟨?_,rfl⟩))))
 unfold roleF
 rw [aP (Bool.eq_false_iff.mp z),aP y]
 by_cases x:(acF q e).1=e.1
 ·rw [aQ x,aQ x]
 ·rw [aP x,aP x]
theorem e_roles (K:Ask q) (en:(endsOf q.web).Nodup):callF (fns (m+5)) (.m 0 6) [q.me] q.H=some (.d (dD endK D.str ((endsOf q.web).map λe=>(e,roleF q e))),q.H):=
 call_S rfl rfl rfl (w_ret (e_dcomp kE (Qd.at_ rfl rfl) K.ends K.elen en λe he=>⟨_,rfl,rfl,e_meth rfl (Qd.inst rfl) (e_1 rfl) (e_role K he)⟩) ⟨rfl,rfl⟩)
end
noncomputable def rw3 (q:Qd) (p:Row):Nat×Nat×Nat:=(p.1.1,p.2.1,q.P p.1)
noncomputable def rl (q:Qd) (w:List Row):List (Nat×Nat×Nat):=(acr w).map (rw3 q)
noncomputable def brs (q:Qd):List End:=(List.range q.n).map q.br
noncomputable def rts (q:Qd):List End:=(List.range q.n).map q.rt
noncomputable def c0L (q:Qd):List Nat:=(List.range q.n).map λv=>if q.br v=q.rt v then 0 else 99
noncomputable def cL (q:Qd):List Nat:=rlxN (rl q q.web) (c0L q) q.n
abbrev S18:=List Nat×Nat×Option V×Option V×Option V×Option V×Option V
noncomputable def V18 (q:Qd) (j:Nat) (s:S18):Vars:=[some (.d (webD q.web)),some (.d (endsD (rts q))),some (.d (endsD (brs q))),some (.ref q.jp),some (.ref j),s.2.2.1,s.2.2.2.1,s.2.2.2.2.1,s.2.2.2.2.2.1,s.2.2.2.2.2.2,none,none,none]
noncomputable def H18 (o:List O) (s:S18):Hp:=⟨o++[lsO s.1],s.2.1⟩
noncomputable abbrev b18:List C:=[.setI (.var 4) (.item (.var 8) (.int 0)) (.bcall .min [.item (.var 4) (.item (.var 8) (.int 0)),.bin .add (.item (.var 4) (.item (.var 9) (.int 0))) (.item (.item (.var 3) (.var 8)) (.int 1))])]
section
variable {q:Qd} {m v:Nat} {o:List O} {Φ:Fns} {s:S18} {d r:List Row} {p:Row} {c:List Nat} {Qs:St->Prop} {h H:Hp} {vs:Vars} {e:X}
theorem Ask.ipt (K:Ask q) {e:End} (j:H.o[q.jp]?=some (dO' endK portD q.pt)) (h:e∈endsOf q.web):itemV (.ref q.jp) (.d (endD e)) H=some (.d (portD (q.pp e,q.P e))):=item_dO kE (f:=λx=>.d (portD x)) j (K.pts e h)
theorem Ask.alow (K:Ask q) (h:p∈acr q.web):p.1.1 < q.n/\p.2.1 < q.n/\p.1∈endsOf q.web:=⟨(K.T.lo h).1,(K.T.lo h).2,acr_end h⟩
theorem rlxs_app {l l':List (Nat×Nat×Nat)}:rlxs (l++l') c=rlxs l' (rlxs l c):=List.foldl_append
theorem try_turn (K:Ask q) (jo:o[q.jp]?=some (dO' endK portD q.pt)) (hp:p∈acr q.web) (hc:c.length=q.n) (R:s.1=rlxs (d.map (rw3 q)) c):WB Φ (.tup [.var 8,.var 9]) b18 (.d (rowD p)) (V18 q o.length s) (H18 o s) (Tn (V18 q o.length) (H18 o) (λs=>s.1=rlxs ((d++[p]).map (rw3 q)) c) Qs):=by
 have l:=K.alow hp
 have sl:s.1.length=q.n:=by rw [R,rlxs_len];exact hc
 have l1:p.1.1 < s.1.length:=sl▸l.1
 have l2:p.2.1 < s.1.length:=sl▸l.2.1
 have ip:=K.ipt (H:=H18 o s) ((at_low (lt_of jo)).trans jo) l.2.2
 have b:=λ{v} (h:v < q.n)=>lt1000 K.T.hn h
 have ev:∀ {b},V.d (nD (min (at0 s.1 p.1.1) b))=(λx=>V.d (nD x)) (min (at0 s.1 p.1.1) b):=rfl
 refine w_b rfl (w_setI (e_bcall (e_cons (e_item rfl (e_item rfl rfl rfl) (item_lO at_end (at_some l1) (b l.1))) (e_1 (e_bin (e_item rfl (e_item rfl rfl rfl) (item_lO at_end (at_some l2) (b l.2.1))) (e_item (e_item rfl rfl ip) rfl (z:=.d (nD (q.P p.1))) rfl) (z:=.d (nD (at0 s.1 p.2.1+q.P p.1))) rfl))) min_nD) rfl (e_item rfl rfl rfl) (set_lO (g:=λx=>.d (nD x)) at_end l1 (b l.1))
  (w_nil ⟨(rlx s.1 (rw3 q p),s.2.1+1,s.2.2.1,s.2.2.2.1,s.2.2.2.2.1,some (.d (endD p.1)),some (.d (endD p.2))),rfl,aN (λl=>(⟨l,s.2.1+1⟩:Hp)) set_end,(aN (rlx · (rw3 q p)) R).trans ((aN (rlxs · c) (aC (l₁:=d) (l₂:=[p]))).trans (rlxs_app (l':=[rw3 q p]))).symm⟩))
theorem len_brs (K:Ask q):bcallV .len [.d (endsD (brs q))] H=some (.d (nD q.n)):=(len_lD (f:=endD) (l:=brs q) (by unfold brs;rw [aB,ay];exact Nat.lt_trans (lt6 K.T.hn) (by decide))).trans (by unfold brs;rw [aB,ay])
theorem i_brs (K:Ask q) (h:v < q.n):itemV (.d (endsD (brs q))) (.d (nD v)) H=some (.d (endD (q.br v))):=item_lD (f:=endD) (get_map (List.getElem?_range h)) (lt1000 K.T.hn h)
theorem i_rts (K:Ask q) (h:v < q.n):itemV (.d (endsD (rts q))) (.d (nD v)) H=some (.d (endD (q.rt v))):=item_lD (f:=endD) (get_map (List.getElem?_range h)) (lt1000 K.T.hn h)
theorem rg_brs (K:Ask q) (g:evalX Φ e vs h=some (.d (endsD (brs q)),h)):evalX Φ (.bcall .range [.bcall .len [e]]) vs h=some (.d (.range (q.n:Int)),h):=x_range (lt6 K.T.hn) (e_bcall (e_1 g) (len_brs K))
theorem new_comp {k:Nat} {elt it1 it2 c:X} {p1 p2:Pat} {en two hasC:Bool} {ds:List D} {h1:Hp} (g:evalX Φ (.comp k elt p1 en it1 two p2 it2 hasC c) vs h=some (.d (.list ds),h1)):evalNew Φ (.comp k elt p1 en it1 two p2 it2 hasC c) vs h=some (.list (ds.map .d),h1):=
 xea (ai.mp g) λp e1 e2=>by cases e2;exact mI e1
theorem mem_row {x:Row} (hx:x∈q.web):∀ p∈[(x.1,x.2),(x.2,x.1)],p∈acr q.web:=λp hp=>List.mem_flatMap.mpr ⟨x,hx,hp⟩
theorem row_turn {x:Row} (K:Ask q) (jo:o[q.jp]?=some (dO' endK portD q.pt)) (hc:c.length=q.n) (hx:x∈q.web) (R:s.1=rlxs (rl q d) c):WB Φ (.tup [.var 6,.var 7]) [.fors false (.tup [.var 8,.var 9]) false (.list [.tup [.var 6,.var 7],.tup [.var 7,.var 6]]) b18] (.d (rowD x)) (V18 q o.length s) (H18 o s) (Tn (V18 q o.length) (H18 o) (λs=>s.1=rlxs (rl q (d++[x])) c) Qs):=
 w_b rfl (w_for (V:=V18 q o.length) (H:=H18 o) (s:=(s.1,s.2.1,s.2.2.1,some (.d (endD x.1)),some (.d (endD x.2)),s.2.2.2.2.2)) (l:=[(x.1,x.2),(x.2,x.1)]) (emb:=λp=>.d (rowD p)) (R:=λd s'=>s'.1=rlxs (d.map (rw3 q)) s.1) rfl rfl (show 2 < 60 by decide) rfl
  (λd p r s' hd R'=>try_turn K jo (mem_row hx p (hd▸aj _ (.head _))) (by rw [R,rlxs_len];exact hc) R') λs' R'=>w_nil ⟨s',rfl,rfl,R'.trans ((aN (rlxs _) R).trans ((aN (rlxs · c) ((aN (List.map (rw3 q)) acr_snoc).trans aC)).trans rlxs_app).symm)⟩)
theorem c0_len:(c0L q).length=q.n:=(aB _).trans ay
theorem e_costs (K:Ask q) (jo:h.o[q.jp]?=some (dO' endK portD q.pt)):∃ h',callF (fns (m+1)) (.f 18) [.d (webD q.web),.d (endsD (rts q)),.d (endsD (brs q)),.ref q.jp] h=some (.d (natsD (cL q)),h')/\h'.o=h.o++[.dead]:=by
 refine CP.d (call_W rfl rfl rfl (w_asgN (new_comp (h1:=h) (ds:=(c0L q).map nD) ?_) ?_))
 ·exact (e_compM (f:=λv=>nD (if q.br v=q.rt v then 0 else 99)) (xs:=List.range q.n) (emb:=λv=>.d (nD v)) (rg_brs K rfl) (it_range (lt6 K.T.hn)) (by rw [ay];exact lt6 K.T.hn) λv hv=>⟨_,rfl,(e_ite (P:=q.br v=q.rt v) (x:=.d (nD 0)) (y:=.d (nD 99)) (e_cmp (e_item rfl rfl (i_brs K (List.mem_range.mp hv))) (e_item rfl rfl (i_rts K (List.mem_range.mp hv))) (cmp_eqD rep_endD (by decide) λu1=>rfl)) (λu1=>rfl) λu1=>rfl).trans (by
   by_cases z:q.br v=q.rt v
   ·rw [aQ z,aQ z]
   ·rw [aP z,aP z])⟩).trans (by unfold c0L;rw [aK];rfl)
 ·have hn:h.new (.list (((c0L q).map nD).map .d))=H18 h.o (c0L q,h.w,none,none,none,none,none):=by rw [aK];rfl
  rw [hn]
  exact w_for (V:=V18 q h.o.length) (H:=H18 h.o) (s:=(c0L q,h.w,none,none,none,none,none)) (l:=List.range q.n) (emb:=λi=>.d (nD i)) (R:=λd s=>s.1=rlxN (rl q q.web) (c0L q) d.length) (rg_brs K rfl) (it_range (lt6 K.T.hn)) (by rw [ay];exact lt6 K.T.hn) rfl
   (λd x r s hd R=>w_b rfl (w_for (V:=V18 q h.o.length) (H:=H18 h.o) (s:=(s.1,s.2.1,some (.d (nD x)),s.2.2.2)) (l:=q.web) (emb:=λr=>.d (rowD r)) (R:=λd' s'=>s'.1=rlxs (rl q d') s.1) rfl it_lD (lt9 K.hw) rfl
    (λd' r' q' s' hd' R'=>row_turn K jo (by rw [R,rlxN_len];exact c0_len) (hd'▸aj _ (.head _)) R') λs' R'=>w_nil ⟨s',rfl,rfl,R'.trans ((aN (rlxs _) R).trans (aN (rlxN (rl q q.web) (c0L q)) (aq (as:=d) (bs:=[x]))).symm)⟩))
   λs R=>w_retF rfl (freeze_lO (f:=nD) (l:=s.1) at_end) ⟨aN (λl=>V.d (natsD l)) (R.trans (aN (rlxN (rl q q.web) (c0L q)) ay)),set_end⟩
end
noncomputable def bsF (q:Qd) (e:End):Str:=if lt3 (own q e) (own q (acF q e))=true then sDesig else if (acF q e).1=e.1 then sBack else sAlt
noncomputable def lawF (q:Qd) (e:End):Str:=if rpF q e.1=some e then sRoot else bsF q e
noncomputable def wStep (q:Qd) (s:List (Nat×List Wy)) (e:End):List (Nat×List Wy):=if (acF q e).1≠e.1/\q.br e.1≠q.rt e.1 then addA s e.1 (wyF q e) else s
structure WI (q:Qd) (d:List End) (s:List (Nat×List Wy)):Prop where
 nd:(s.map (·.1)).Nodup
 ky:∀ {v},v∈s.map (·.1)↔q.br v≠q.rt v/\∃ e∈d,isOut q v e=true
 at_:∀ {v},q.br v≠q.rt v->(gA s v).getD []=(d.filter (isOut q v)).map (wyF q)
 bd:Bnd d.length s
section
variable {q:Qd} {e:End} {v:Nat} {l d:List End} {s:List (Nat×List Wy)}
theorem isOut_iff:isOut q v e=true↔e.1=v/\(acF q e).1≠v:=by
 unfold isOut
 rw [Bool.and_eq_true_iff,← decide_not]
 exact and_congr decide_eq_true_iff decide_eq_true_iff
theorem bst_mem (ne:l≠[]):bstL q l∈l/\∀ e∈l,(wyF q (bstL q l)).1<=(wyF q e).1:=by
 obtain ⟨e,r,rfl⟩:=List.exists_cons_of_ne_nil ne
 have le:=minF_le (lt:=lt5) (f:=λy:Wy=>y.1) (m:=wyF q e) (l:=r.map (wyF q)) (λu1 u2=>lt5_le) λu1 u2=>lt5_ge
 refine xea (show ∃ x∈e::r,minF lt5 (wyF q e) (r.map (wyF q))=wyF q x from (minF_mem (lt:=lt5)).elim (λz=>⟨e,.head _,z⟩) λz=>xea (aJ.mp z) λx hx z=>⟨x,.tail _ hx,z.symm⟩) λx hx ex=>?_
 have:bstL q (e::r)=x:=aN (λy:Wy=>y.2.2.2.2) ex
 rw [this]
 rw [ex] at le
 exact ⟨hx,λz hz=>(aG.mp hz).elim (λy=>y▸le.1) λy=>le.2 _ (List.mem_map_of_mem y)⟩
theorem rp_some (h:rpF q v=some e):q.br v≠q.rt v/\outs q v≠[]/\bst q v=e:=by
 unfold rpF at h
 by_cases c:q.br v=q.rt v\/outs q v=[]
 ·rw [aQ c] at h;cases h
 ·rw [aP c] at h;exact ⟨λz=>c (.inl z),λz=>c (.inr z),aE h⟩
theorem rp_of (h1:q.br v≠q.rt v) (h2:outs q v≠[]):rpF q v=some (bst q v):=aP λz=>z.elim h1 h2
theorem less1 {a b c d:Nat} (h:a+b<=c+d) (p:1<=b):a < c+d:=av (Nat.lt_add_of_pos_right p) h
theorem Ask.agree (K:Ask q) (P1:∀ e∈endsOf q.web,1<=q.P e) (h:e∈endsOf q.web):roleF q e=lawF q e:=by
 unfold roleF lawF bsF
 by_cases z:rpF q e.1=some e
 ·have r:=rp_some z
  have b:=bst_mem (q:=q) r.2.1
  rw [show bstL q (outs q e.1)=e from r.2.2] at b
  rw [aQ z,aQ z,aP]
  refine Bool.eq_false_iff.mp (lt3_first (show dF q (acF q e).1 < dF q e.1 from ?_))
  refine (K.M.dj.src (K.cost (K.low h))).elim (λS=>absurd S.1 r.1) λS=>xeeeaa S.2 λu du w hu hE hd=>xee hE λe' f ha=>xaaa ha λh1 h2 h3 h4=>?_
  have fa:acF q e'=f:=acF_of (gA_of_mem K.T.an h1)
  have du':dF q u=du:=by unfold dF;rw [hu];rfl
  have ee:=acr_end h1
  have ne:f.1≠e.1:=λy=>by
   rw [← h3,y] at du'
   rw [du',h4] at hd
   exact absurd hd (Nat.ne_of_lt (Nat.lt_add_of_pos_right (P1 _ ee)))
  have le:=b.2 e' (mem_outs.mpr ⟨ee,h2,fa▸ne⟩)
  rw [hd,h4]
  exact less1 (show dF q (acF q e).1+q.P e<=du+q.P e' by rw [← du',← h3,← fa];exact le) (P1 _ h)
 ·rw [aP z,aP z]
theorem Bnd.up {α:Type} {n m:Nat} {s:List (Nat×List α)} (h:Bnd n s) (l:n<=m):Bnd m s:=⟨aI h.len l,λp m=>aI (h.at_ p m) l⟩
theorem filter_one {p:End->Bool}:(d++[e]).filter p=if p e=true then d.filter p++[e] else d.filter p:=by
 rw [List.filter_append,List.filter_cons]
 by_cases h:p e=true
 ·rw [aQ h,aQ h];rfl
 ·rw [aP h,aP h];exact List.append_nil _
theorem WI.nil:WI q [] []:=⟨.nil,⟨λh=>absurd h aA,λh=>xea h.2 λe m u1=>absurd m aA⟩,λu1=>rfl,Nat.le_refl _,λp m=>absurd m aA⟩
theorem ex_one {p:End->Prop}:(∃ x∈d++[e],p x)↔(∃ x∈d,p x)\/p e:=⟨λh=>xea h λx m k=>(aD.mp m).elim (λm=>.inl ⟨x,m,k⟩) λm=>.inr (ao.mp m▸k),λh=>h.elim (λh=>xea h λx m k=>⟨x,ak _ m,k⟩) λk=>⟨e,aj _ (.head _),k⟩⟩
theorem WI.step (W:WI q d s):WI q (d++[e]) (wStep q s e):=by
 have dl:(d++[e]).length=d.length+1:=aq
 unfold wStep
 by_cases c:(acF q e).1≠e.1/\q.br e.1≠q.rt e.1
 ·rw [aQ c]
  have k:=λv=>keys_addA (v:=v) (k:=e.1) (x:=wyF q e) W.nd
  refine ⟨(k 0).1,λ{v}=>(k v).2.trans ?_,λ{v} hv=>?_,dl▸W.bd.add⟩
  ·rw [W.ky,ex_one]
   exact ⟨λh=>h.elim (λh=>⟨h.1,.inl h.2⟩) λh=>⟨h▸c.2,.inr (isOut_iff.mpr ⟨h.symm,h▸c.1⟩)⟩,λh=>h.2.elim (λz=>.inl ⟨h.1,z⟩) λz=>.inr (isOut_iff.mp z).1.symm⟩
  ·unfold addA
   rw [gA_sA,filter_one]
   by_cases z:e.1=v
   ·rw [aQ z,aQ (isOut_iff.mpr ⟨z,z▸c.1⟩),aC,← W.at_ hv,z];rfl
   ·rw [aP z,aP λy=>z (isOut_iff.mp y).1];exact W.at_ hv
 ·rw [aP c]
  have no:∀ {v},q.br v≠q.rt v->¬ isOut q v e=true:=λhv z=>c (by have o:=isOut_iff.mp z;rw [o.1];exact ⟨o.2,hv⟩)
  exact ⟨W.nd,W.ky.trans (and_congr_right λhv=>(or_iff_left (no hv)).symm.trans ex_one.symm),λhv=>(W.at_ hv).trans (by rw [filter_one,aP (no hv)]),W.bd.up (dl▸Nat.le_succ _)⟩
theorem WI.key (W:WI q (endsOf q.web) s) (h:v∈s.map (·.1)):q.br v≠q.rt v/\outs q v≠[]/\gA s v=some ((outs q v).map (wyF q)):=
 have k:=W.ky.mp h
 ⟨k.1,xea k.2 λe m z=>List.ne_nil_of_mem (List.mem_filter.mpr ⟨m,z⟩),xe (gA_some h) λx hx=>by have a:=W.at_ k.1;rw [hx] at a;rw [hx];exact aN some a⟩
theorem WI.mem (W:WI q (endsOf q.web) s) (h1:q.br v≠q.rt v) (h2:outs q v≠[]):v∈s.map (·.1):=W.ky.mpr ⟨h1,xe (List.exists_mem_of_ne_nil _ h2) λe m=>⟨e,(List.mem_filter.mp m).1,(List.mem_filter.mp m).2⟩⟩
structure GF (q:Qd) (d:List Nat) (F:List (End×Str)):Prop where
 ky:F.map (·.1)=endsOf q.web
 at_:∀ e∈endsOf q.web,(gA F e=some sRoot/\∃ v∈d,bst q v=e)\/(gA F e=some (bsF q e)/\∀ v∈d,bst q v≠e)
theorem GF.step {d:List Nat} {F:List (End×Str)} (G:GF q d F) (h:outs q v≠[]):GF q (d++[v]) (sA F (bst q v) sRoot):=by
 have m:bst q v∈endsOf q.web:=(mem_outs.mp (bst_mem (q:=q) h).1).1
 refine ⟨by rw [keys_sA,G.ky,aQ m],λe he=>?_⟩
 rw [gA_sA]
 by_cases z:bst q v=e
 ·rw [aQ z];exact .inl ⟨rfl,v,aj _ (.head _),z⟩
 ·rw [aP z]
  exact (G.at_ e he).imp (λh=>⟨h.1,xea h.2 λv m e=>⟨v,ak _ m,e⟩⟩) λh=>⟨h.1,λu m=>(aD.mp m).elim (h.2 u) λm=>ao.mp m▸z⟩
theorem asc_eq {κ α:Type} [DecidableEq κ] {s:List (κ×α)} {f:κ->α} (nd:(s.map (·.1)).Nodup) (h:∀ k∈s.map (·.1),gA s k=some (f k)):s=(s.map (·.1)).map λk=>(k,f k):=by
 rw [aK]
 exact (List.map_id s).symm.trans (List.map_congr_left λp hp=>Prod.ext rfl (aE ((gA_of_mem nd hp).symm.trans (h p.1 (List.mem_map_of_mem hp)))))
theorem GF.fin {F:List (End×Str)} (G:GF q (s.map (·.1)) F) (W:WI q (endsOf q.web) s) (en:(endsOf q.web).Nodup):F=(endsOf q.web).map λe=>(e,lawF q e):=by
 have k:=asc_eq (s:=F) (f:=lawF q) (G.ky▸en) λe he=>?_
 ·rwa [G.ky] at k
 ·unfold lawF
  refine (G.at_ e (G.ky▸he)).elim (λh=>h.1.trans (xea h.2 λv m b=>?_)) λh=>h.1.trans ?_
  ·have k:=W.key m
   have e1:e.1=v:=(mem_outs.mp (b▸(bst_mem (q:=q) k.2.1).1:e∈outs q v)).2.1
   rw [aQ (e1▸(rp_of k.1 k.2.1).trans (aN some b))]
  ·rw [aP λz=>have r:=rp_some z;h.2 _ (W.mem r.1 r.2.1) r.2.2]
end
abbrev FL:=List (End×Str)
abbrev WL:=List (Nat×List Wy)
noncomputable def LH (o1:List O) (F:FL) (s:WL):List O:=o1++(dO' endK D.str F::dlO (o1.length+1) flatD s)
structure S19 where
 F:FL
 W:WL
 w:Nat
 v8:Option V
 v9:Option V
 v10:Option V
 v11:Option V
 v12:Option V
 v13:Option V
 v14:Option V
 v15:Option V
noncomputable def V19 (q:Qd) (j:Nat) (v7 v16:Option V) (z:S19):Vars:=[some (.d (webD q.web)),some (.d (endsD (brs q))),some (.ref q.jp),some (.d (mapD q.n q.μ)),some (.d (endsD (rts q))),some (.d (natsD (cL q))),some (.ref j),v7,z.v8,z.v9,z.v10,z.v11,z.v12,z.v13,z.v14,z.v15,v16,none,none,none,none]
noncomputable def H19 (o1:List O) (z:S19):Hp:=⟨LH o1 z.F z.W,z.w⟩
noncomputable abbrev bW:C:=.ifs (.and (.cmp .ne (.item (.var 13) (.int 0)) (.item (.var 10) (.int 0))) (.cmp .ne (.item (.var 1) (.item (.var 10) (.int 0))) (.item (.var 4) (.item (.var 10) (.int 0))))) [.asg 15 (.tup [.bin .add (.item (.var 14) (.int 0)) (.item (.item (.var 2) (.var 10)) (.int 1)),.item (.var 14) (.int 1),.item (.var 14) (.int 2),.item (.item (.var 2) (.var 10)) (.int 0),.var 10]),.expr (.bmeth .append (.setdef (.var 7) (.item (.var 10) (.int 0))) [.var 15])] []
noncomputable abbrev b19:List C:=[.ifs (.cmp .lt (.var 12) (.var 14)) [.setI (.var 6) (.var 10) (.str sDesig)] [.setI (.var 6) (.var 10) (.ite (.cmp .eq (.item (.var 13) (.int 0)) (.item (.var 10) (.int 0))) (.str sBack) (.str sAlt))],bW]
structure RI9 (q:Qd) (d:List End) (z:S19):Prop where
 F:z.F=d.map λe=>(e,bsF q e)
 W:WI q d z.W
section
variable {q:Qd} {m v:Nat} {o1:List O} {Φ:Fns} {z:S19} {d r:List End} {e:End} {Qs:St->Prop} {H:Hp} {F:FL} {s:WL} {w:Nat} {f:End}
theorem lh_f:(LH o1 F s)[o1.length]?=some (dO' endK D.str F):=get_app (i:=0)
theorem lh_low {i:Nat} (h:i < o1.length):(LH o1 F s)[i]?=o1[i]?:=at_low h
theorem lh_set {F':FL}:(LH o1 F s).set o1.length (dO' endK D.str F')=LH o1 F' s:=set_app (i:=0)
theorem lh_eq:LH o1 F s=(o1++[dO' endK D.str F])++dlO (o1++[dO' endK D.str F]).length flatD s:=by
 rw [ax,aq];rfl
theorem lh_way {vs:Vars} {ek ex:X} {k:Nat} {x:Wy} (hv:(vs[7]?).join=some (.ref (o1.length+1))) (h1:∀ h,evalX Φ ek vs h=some (.d (nD k),h)) (h2:∀ h,evalX Φ ex vs h=some (.d (flatD x),h)) (hs:s.length < 60) (hl:∀ p∈s,p.2.length < 60):∃ w',evalX Φ (.bmeth .append (.setdef (.var 7) ek) [ex]) vs ⟨LH o1 F s,w⟩=some (.d .none,⟨LH o1 F (addA s k x),w'⟩):=by
 have:=eval_setdef (Φ:=Φ) (pre:=o1++[dO' endK D.str F]) (w:=w) (g:=flatD) (x:=x) (hv.trans (by rw [aq];rfl)) h1 h2 hs hl
 rwa [← lh_eq,← lh_eq] at this
theorem cmp_neD {α:Type} [DecidableEq α] {f:α->D} {k:Nat} (r:Rep f k) (hk:k<=64) {a b:α} (nd:∀ a,(f a).dd=none):cmpV .ne (.d (f a)) (.d (f b)) H=some (!decide (a=b)):=mI (cmp_eqD (H:=H) r hk nd)
noncomputable def zE (q:Qd) (e:End) (F:FL) (s:WL) (w:Nat) (z:S19):S19:=⟨F,s,w,z.v8,z.v9,some (.d (endD e)),z.v11,some (.d (t3D (own q e))),some (.d (endD (acF q e))),some (.d (t3D (own q (acF q e)))),z.v15⟩
theorem way_turn (K:Ask q) (jo:o1[q.jp]?=some (dO' endK portD q.pt)) (h:e∈endsOf q.web) (dl:d.length < 18) (W:WI q d s) (hF:F=(d++[e]).map λe=>(e,bsF q e)) :
  WP Φ [bW] (V19 q o1.length (some (.ref (o1.length+1))) none (zE q e F s w z)) (H19 o1 (zE q e F s w z)) (Tn (V19 q o1.length (some (.ref (o1.length+1))) none) (H19 o1) (RI9 q (d++[e])) Qs):=by
 have ip:=K.ipt (H:=H19 o1 (zE q e F s w z)) ((lh_low (lt_of jo)).trans jo) h
 have l:=K.low h
 have st:=W.step (e:=e)
 unfold wStep at st
 have B:Bnd 18 s:=W.bd.up (Nat.le_of_lt dl)
 refine w_ifP (P:=(acF q e).1≠e.1/\q.br e.1≠q.rt e.1) ((e_and (e_cmp (e_item rfl rfl rfl) (e_item rfl rfl rfl) (cmp_neD rep_nD (by decide) λu1=>rfl)) λu1=>e_cmp (e_item rfl (e_item rfl rfl rfl) (i_brs K l)) (e_item rfl (e_item rfl rfl rfl) (i_rts K l)) (cmp_neD rep_endD (by decide) λu1=>rfl)).trans (by rw [← decide_not,← decide_not,← Bool.decide_and])) (λc=>?_) λc=>?_
 ·rw [aQ c] at st
  refine w_asg (x:=.d (flatD (wyF q e))) (e_tup (e_cons (e_bin (e_item rfl rfl rfl) (e_item (e_item rfl rfl ip) rfl (z:=.d (nD (q.P e))) rfl) (z:=.d (nD (wyF q e).1)) rfl) (e_cons (e_item rfl rfl rfl) (e_cons (e_item rfl rfl rfl) (e_cons (e_item (e_item rfl rfl ip) rfl rfl) (e_1 rfl))))) rfl) ?_
  exact xe (lh_way rfl (λh=>rfl) (λh=>rfl) (au B.len (by decide)) λp m=>au (B.at_ p m) (by decide)) λw' e1=>w_expr e1 (w_nil (w_nil ⟨⟨F,addA s e.1 (wyF q e),w',z.v8,z.v9,_,z.v11,_,_,_,some (.d (flatD (wyF q e)))⟩,rfl,rfl,hF,st⟩))
 ·rw [aP c] at st
  exact w_nil (w_nil ⟨_,rfl,rfl,hF,st⟩)
noncomputable def rowE (q:Qd) (e:End):V:=.d (.tup [endD e,t3D (own q e),endD (acF q e),t3D (own q (acF q e))])
theorem role_turn (K:Ask q) (jo:o1[q.jp]?=some (dO' endK portD q.pt)) (h:e∈endsOf q.web) (dl:d.length < 18) (nd:e∉d) (R:RI9 q d z) :
  WB Φ (.tup [.var 10,.var 12,.var 13,.var 14]) b19 (rowE q e) (V19 q o1.length (some (.ref (o1.length+1))) none z) (H19 o1 z) (Tn (V19 q o1.length (some (.ref (o1.length+1))) none) (H19 o1) (RI9 q (d++[e])) Qs):=by
 have kd:z.F.map (·.1)=d:=by rw [R.F,aK];exact List.map_id' d
 have put:∀ {x},setItemV (.ref o1.length) (.d (endD e)) (.d (.str x)) (H19 o1 z)=some (H19 o1 (zE q e (z.F++[(e,x)]) z.W (z.w+1) z)):=λ{x}=>(set_dO kE (f:=λx=>.d (.str x)) lh_f (by rw [R.F,aB];exact Nat.lt_trans dl (by decide))).trans (by
  rw [sA_new (by rw [kd];exact nd)]
  exact aN (λo=>some (⟨o,z.w+1⟩:Hp)) lh_set)
 have go:∀ x,x=bsF q e->WP Φ [bW] (V19 q o1.length (some (.ref (o1.length+1))) none (zE q e (z.F++[(e,x)]) z.W (z.w+1) z)) (H19 o1 (zE q e (z.F++[(e,x)]) z.W (z.w+1) z)) (Tn (V19 q o1.length (some (.ref (o1.length+1))) none) (H19 o1) (RI9 q (d++[e])) Qs):=λx hx=>way_turn K jo h dl R.W (by rw [hx,aC,← R.F];rfl)
 refine w_b rfl (w_if (t:=lt3 (own q e) (own q (acF q e))) (e_cmp rfl rfl t3_lt) (λt=>w_setI rfl rfl rfl put (w_nil (go sDesig ?_))) λt=>w_setI (v:=.d (.str (if (acF q e).1=e.1 then sBack else sAlt))) ((e_ite (P:=(acF q e).1=e.1) (e_cmp (e_item rfl rfl rfl) (e_item rfl rfl rfl) (cmp_eqD rep_nD (by decide) λu1=>rfl)) (λu1=>rfl) λu1=>rfl).trans ?_) rfl rfl put (w_nil (go _ ?_)))
 ·unfold bsF;rw [aQ t]
 ·by_cases c:(acF q e).1=e.1
  ·rw [aQ c,aQ c]
  ·rw [aP c,aP c]
 ·unfold bsF;rw [aP (Bool.eq_false_iff.mp t)]
end
section
variable {α σ:Type} {Φ:Fns} {cs b:List C} {vs:Vars} {h:Hp} {x:V} {n:Nat} {p:Pat} {Q:St->Prop} {V:σ->Vars} {H:σ->Hp}
theorem w_forF {l:List α} {emb:α->Internal.V} {R:List α->σ->Prop} {en:Bool} {s:σ} (src:forSrc true (.var n) (evalX Φ (.var n)) vs h=some (x,V s,H s)) (it:itemsOf en p x (H s)=some (l.map emb,false)) (sm:l.length < 60) (r0:R [] s)
  (step:∀ d x r s,l=d++x::r->R d s->WB Φ p b (emb x) (V s) (H s) (Tn V H (R (d++[x])) Q)) (k:∀ s,R l s->WP Φ cs (V s) (H s) Q):WP Φ (.fors true p en (.var n) b::cs) vs h Q:=
 lp_seq (show (forSrc true (.var n) (evalX Φ (.var n)) vs h).bind _=_ from bI src (bI it ((wh_small (by rw [aB];exact sm)).trans rfl))) (loop_w step l [] s rfl r0) λs r=>k s (r.elim id False.elim)
end
noncomputable abbrev eNear:X:=.comp 5 (.tup [.item (.var 5) (.item (.var 22) (.int 0)),.item (.var 1) (.item (.var 22) (.int 0)),.item (.item (.var 2) (.var 22)) (.int 0)]) (.var 22) false (.tup [.var 8,.var 9]) false (.var 0) .none false .none
noncomputable abbrev bRow:List C:=[.asg 11 eNear,.fors false (.tup [.var 10,.var 12,.var 13,.var 14]) false (.list [.tup [.var 8,.item (.var 11) (.int 0),.var 9,.item (.var 11) (.int 1)],.tup [.var 9,.item (.var 11) (.int 1),.var 8,.item (.var 11) (.int 0)]]) b19]
noncomputable abbrev eRts:X:=.comp 7 (.bcall .min [.comp 5 (.item (.var 1) (.var 29)) (.var 29) false (.bcall .range [.bcall .len [.var 1]]) false (.var 0) .none true (.cmp .eq (.item (.var 3) (.var 29)) (.var 22))]) (.var 22) false (.var 3) false (.var 0) .none false .none
noncomputable def wyL (l:List Wy):D:=.list (l.map flatD)
section
variable {q:Qd} {m v j w:Nat} {o1:List O} {Φ:Fns} {z:S19} {d t:List Row} {r:Row} {e:End} {Qs:St->Prop} {h:Hp} {F:FL} {s:WL} {v7 v16:Option V}
theorem c0_at (h:v < q.n):at0 (c0L q) v=if q.br v=q.rt v then 0 else 99:=by
 unfold at0 c0L
 rw [List.getD_eq_getElem?_getD,List.getElem?_map,List.getElem?_range h];rfl
theorem rl_ed {p:Nat×Nat×Nat} (h:p∈rl q q.web):EdR (acr q.web) q.P p.1 p.2.1 p.2.2:=xea (aJ.mp h) λx m e=>e▸⟨x.1,x.2,m,rfl,rfl,rfl⟩
theorem cL_at (K:Ask q) (P4:∀ e∈endsOf q.web,q.P e<=4) (h:v < q.n):(cL q)[v]?=some (dF q v):=by
 have l:v < (cL q).length:=by unfold cL;rw [rlxN_len,c0_len];exact h
 rw [at_some l]
 exact aN some (costs_eq (E:=EdR (acr q.web) q.P) (isR:=λv=>q.br v=q.rt v) ⟨c0_len,λe=>xee e λa b e=>xaaa e λh1 h2 h3 h4=>aJ.mpr ⟨(a,b),h1,by rw [← h2,← h3,h4];rfl⟩,rl_ed,λe=>have a:=K.L.adj (edr_adj e);⟨a.1,a.2,xee e λa b e=>e.2.2.2▸P4 a (acr_end e.1)⟩,λh r=>(c0_at h).trans (aQ r),λh r=>(c0_at h).trans (aP r)⟩ K.M.dj (λv hv=>(K.M.ky v).mpr hv) (λv hv=>(K.M.ky v).mp hv) K.M.tri K.T.hn (K.cost h))
theorem e_rts (K:Ask q):evalX Φ eRts (some (.d (webD q.web))::some (.d (endsD (brs q)))::some (.ref q.jp)::some (.d (mapD q.n q.μ))::List.replicate 17 none) h=some (.d (endsD (rts q)),h):=by
 refine (e_compM (f:=λk=>endD (rtL q.br (grp q.n q.μ k))) (xs:=(List.range q.n).map q.μ) (emb:=λk=>.d (nD k)) rfl it_lD (by rw [aB,ay];exact lt6 K.T.hn) λk hk=>xea (aJ.mp hk) λv hv ev=>?_).trans (by unfold rts;rw [endsD,aK,aK];rfl)
 have ne:grp q.n q.μ k≠[]:=List.ne_nil_of_mem (mem_grp.mpr ⟨List.mem_range.mp hv,ev⟩)
 exact ⟨_,rfl,e_bcall (e_1 (e_compF (f:=λx=>endD (q.br x)) (p:=λx=>q.μ x==k) (xs:=List.range q.n) (emb:=λv=>.d (nD v)) (rg_brs K rfl) (it_range (lt6 K.T.hn)) (by rw [ay];exact lt6 K.T.hn) λx hx=>⟨_,rfl,e_cmp (e_item rfl rfl (item_map (List.mem_range.mp hx) K.T.hn)) rfl (cmp_eqD rep_nD (by decide) λu1=>rfl),λu1=>e_item rfl rfl (i_brs K (List.mem_range.mp hx))⟩)) (min_rt ne (aI grp_len K.T.hn))⟩
theorem row9_turn (K:Ask q) (P4:∀ e∈endsOf q.web,q.P e<=4) (en:(endsOf q.web).Nodup) (jo:o1[q.jp]?=some (dO' endK portD q.pt)) (hd:q.web=d++r::t) (R:RI9 q (endsOf d) z) :
  WB Φ (.tup [.var 8,.var 9]) bRow (.d (rowD r)) (V19 q o1.length (some (.ref (o1.length+1))) none z) (H19 o1 z) (Tn (V19 q o1.length (some (.ref (o1.length+1))) none) (H19 o1) (RI9 q (endsOf (d++[r]))) Qs):=by
 have hr:r∈q.web:=hd▸aj _ (.head _)
 have mm:=λp hp=>gA_of_mem K.T.an (mem_row hr p hp)
 have a1:acF q r.1=r.2:=acF_of (mm (r.1,r.2) (.head _))
 have a2:acF q r.2=r.1:=acF_of (mm (r.2,r.1) (.tail _ (.head _)))
 have me:∀ e∈[r.1,r.2],e∈endsOf q.web:=λe he=>List.mem_flatMap.mpr ⟨r,hr,he⟩
 have ee:endsOf q.web=endsOf d++([r.1,r.2]++endsOf t):=by
  rw [hd];unfold endsOf;rw [List.flatMap_append,List.flatMap_cons]
 have nr:evalX Φ eNear (V19 q o1.length (some (.ref (o1.length+1))) none ⟨z.F,z.W,z.w,some (.d (endD r.1)),some (.d (endD r.2)),z.v10,z.v11,z.v12,z.v13,z.v14,z.v15⟩) (H19 o1 z)=some (.d (.list [t3D (own q r.1),t3D (own q r.2)]),H19 o1 z):=
  e_compM (xs:=[r.1,r.2]) (emb:=λe=>.d (endD e)) (f:=λe=>t3D (own q e)) rfl rfl (show 2 < 60 by decide) λe he=>⟨_,rfl,e_tup (e_cons (e_item rfl (e_item rfl rfl rfl) (item_lD (f:=nD) (cL_at K P4 (K.low (me e he))) (lt1000 K.T.hn (K.low (me e he))))) (e_cons (e_item rfl (e_item rfl rfl rfl) (i_brs K (K.low (me e he)))) (e_1 (e_item (e_item rfl rfl (K.ipt ((lh_low (lt_of jo)).trans jo) (me e he))) rfl rfl)))) rfl⟩
 refine w_b rfl (w_asg nr (w_for (V:=V19 q o1.length (some (.ref (o1.length+1))) none) (H:=H19 o1) (s:=⟨z.F,z.W,z.w,some (.d (endD r.1)),some (.d (endD r.2)),z.v10,some (.d (.list [t3D (own q r.1),t3D (own q r.2)])),z.v12,z.v13,z.v14,z.v15⟩) (l:=[r.1,r.2]) (emb:=rowE q) (R:=λd' z=>RI9 q (endsOf d++d') z)
  (x:=.d (.list [.tup [endD r.1,t3D (own q r.1),endD r.2,t3D (own q r.2)],.tup [endD r.2,t3D (own q r.2),endD r.1,t3D (own q r.1)]])) rfl ?_ (show 2 < 60 by decide) ((List.append_nil (endsOf d)).symm▸⟨R.F,R.W⟩) (λd' x r' z' hd' R'=>?_) λz' R'=>w_nil ⟨z',rfl,rfl,endsOf_snoc▸R'⟩))
 ·show _=some ([rowE q r.1,rowE q r.2],false)
  unfold rowE
  rw [a1,a2];rfl
 ·have e3:endsOf q.web=(endsOf d++d')++x::(r'++endsOf t):=ee.trans (by rw [hd',ax,ax];rfl)
  exact ax (endsOf d) d' [x]▸role_turn K jo (e3▸aj _ (.head _)) (av (pre_lt e3) (len_ends▸Nat.mul_le_mul_left 2 K.hw)) (λy=>(az.mp (e3▸en)).2.2 x y x (.head _) rfl) R'
theorem frz_ways:∃ h2,freeze (.ref (o1.length+1)) ⟨LH o1 F s,w⟩=some (dD nK wyL s,h2)/\∀ i,i < o1.length+1->h2.o[i]?=(LH o1 F s)[i]?:=
 xea (freezes_lists (g:=flatD) (s:=s) (a:=o1.length+2) (h:=⟨(LH o1 F s).set (o1.length+1) .dead,w+1⟩) λi p hp=>by
  refine (set_gt (Nat.ne_of_lt (av (Nat.lt_succ_self _) (Nat.le_add_right _ i)))).trans ?_
  rw [show o1.length+1+1+i=o1.length+(i+2) from (Nat.add_assoc o1.length 2 i).trans (aN (o1.length+·) (Nat.add_comm 2 i))]
  exact get_app.trans (get_map (f:=λp:Nat×List Wy=>lO (λx=>V.d (flatD x)) p.2) hp)) λh2 e k=>⟨h2,bI (get_app (i:=1)) (mI e),λi hi=>(k i (Nat.lt_succ_of_lt hi)).trans (set_gt (Nat.ne_of_gt hi))⟩
abbrev S20:=FL×Hp×Option V
noncomputable def V20 (q:Qd) (j:Nat) (z:S19) (s:S20):Vars:=V19 q j (some (.d (dD nK wyL z.W))) s.2.2 z
noncomputable def H20 (s:S20):Hp:=s.2.1
structure RF (q:Qd) (o1:List O) (d:List Nat) (s:S20):Prop where
 at_:s.2.1.o[o1.length]?=some (dO' endK D.str s.1)
 lo:∀ i,i < o1.length->s.2.1.o[i]?=o1[i]?
 G:GF q d s.1
theorem root_turn {d:List Nat} {s:S20} (K:Ask q) (W:WI q (endsOf q.web) z.W) (hv:v∈z.W.map (·.1)) (R:RF q o1 d s):WB Φ (.var 16) [.setI (.var 6) (.item (.bcall .min [.item (.var 7) (.var 16)]) (.int 4)) (.str sRoot)] (.d (nD v)) (V20 q o1.length z s) (H20 s) (Tn (V20 q o1.length z) H20 (RF q o1 (d++[v])) Qs):=by
 have k:=W.key hv
 have fl:s.1.length < 60:=aB (f:=(·.1)) (as:=s.1)▸R.G.ky.symm▸K.elen
 refine xea (min_way (q:=q) (l:=outs q v) (H:=H20 s) (g:=flatD) flat_lt k.2.1 (outs_len K)) λy e1 e2=>?_
 have i7:itemV (.d (dD nK wyL z.W)) (.d (nD v)) (H20 s)=some (.d (.list ((outs q v).map λe=>flatD (wyF q e)))):=(item_dD kN (g:=wyL) k.2.2).trans (by unfold wyL;rw [aK];rfl)
 exact w_b rfl (w_setI rfl rfl (e_item (e_bcall (e_1 (e_item rfl rfl i7)) e1) rfl (z:=.d (endD (bst q v))) (aN (λz=>some (V.d (endD z))) e2)) (set_dO kE (f:=λx=>.d (.str x)) R.at_ fl) (w_nil ⟨(sA s.1 (bst q v) sRoot,(H20 s).put o1.length (dO' endK D.str (sA s.1 (bst q v) sRoot)),some (.d (nD v))),rfl,rfl,(List.getElem?_set_self (lt_of R.at_)),λi hi=>(set_gt (Nat.ne_of_gt hi)).trans (R.lo i hi),R.G.step k.2.1⟩))
theorem freeze_dO {κ α:Type} {kf:κ->Key} {f:α->D} {s:List (κ×α)} {H:Hp} {j:Nat} (h:H.o[j]?=some (dO' kf f s)):freeze (.ref j) H=some (dD kf f s,⟨H.o.set j .dead,H.w+1⟩):=bI h (mI frz_d)
theorem GF.nil (en:(endsOf q.web).Nodup):GF q [] ((endsOf q.web).map λe=>(e,bsF q e)):=
 have k:((endsOf q.web).map λe=>(e,bsF q e)).map (·.1)=endsOf q.web:=by rw [aK];exact List.map_id' _
 ⟨k,λe he=>.inr ⟨gA_of_mem (k.symm▸en) (aJ.mpr ⟨e,he,rfl⟩),λv m=>absurd m aA⟩⟩
theorem e_lawRoles (K:Ask q) (P4:∀ e∈endsOf q.web,q.P e<=4) (en:(endsOf q.web).Nodup) (jo:h.o[q.jp]?=some (dO' endK portD q.pt)) :
  ∃ h',callF (fns (m+2)) (.f 19) [.d (webD q.web),.d (endsD (brs q)),.ref q.jp] h=some (.d (dD endK D.str ((endsOf q.web).map λe=>(e,lawF q e))),h')/\∀ i,i < h.o.length->h'.o[i]?=h.o[i]?:=by
 have mk:=e_marks (m:=m) (h:=h) K.T.hn K.L K.hw
 rw [marks_eq K.L K.I] at mk
 refine xea (e_costs (m:=m) K jo) λh1 ec eo=>?_
 have jo1:h1.o[q.jp]?=some (dO' endK portD q.pt):=by rw [eo];exact (at_low (lt_of jo)).trans jo
 have par:evalPar (fns (m+1)) [false,true,true] [.fcall 18 [.var 0,.var 4,.var 1,.var 2],.dict [],.dict []] (some (.d (webD q.web))::some (.d (endsD (brs q)))::some (.ref q.jp)::some (.d (mapD q.n q.μ))::some (.d (endsD (rts q)))::List.replicate 16 none) h=some ([.d (natsD (cL q)),.ref h1.o.length,.ref (h1.o.length+1)],H19 h1.o ⟨[],[],h1.w,none,none,none,none,none,none,none,none⟩):=
  (p_old (e_fcall (e_cons rfl (e_cons rfl (e_cons rfl (e_1 rfl)))) ec) (p_new (o:=.dict [] []) (h1:=h1) rfl (p_new (o:=.dict [] []) (h1:=h1.new (.dict [] [])) rfl rfl))).trans (by
   rw [show (h1.new (.dict [] [])).o.length=h1.o.length+1 from aq]
   exact aN (λo=>some ([V.d (natsD (cL q)),.ref h1.o.length,.ref (h1.o.length+1)],(⟨o,h1.w⟩:Hp))) (ax h1.o [.dict [] []] [.dict [] []]))
 refine CP.d (call_W rfl rfl rfl (w_asg (e_fcall (e_cons rfl (e_1 (e_bcall (e_1 rfl) (len_brs K)))) mk) (w_asg (e_rts K) (w_par par (w_for (V:=V19 q h1.o.length (some (.ref (h1.o.length+1))) none) (H:=H19 h1.o) (s:=⟨[],[],h1.w,none,none,none,none,none,none,none,none⟩) (l:=q.web) (emb:=λr=>.d (rowD r)) (R:=λd z=>RI9 q (endsOf d) z) rfl it_lD (lt9 K.hw) ⟨rfl,.nil⟩ (λd r t z hd R=>row9_turn K P4 en jo1 hd R) λz R=>?_)))))
 refine xea (frz_ways (o1:=h1.o) (F:=z.F) (s:=z.W) (w:=z.w)) λh2 fz lo=>?_
 have G0:GF q [] z.F:=R.F▸GF.nil en
 refine w_forF (V:=V20 q h1.o.length z) (H:=H20) (s:=(z.F,h2,none)) (l:=z.W.map (·.1)) (emb:=λv=>.d (nD v)) (R:=RF q h1.o) (bI rfl (mI fz)) (it_dD kN) (by rw [aB];exact au R.W.bd.len K.elen) ⟨(lo _ (Nat.lt_succ_self _)).trans lh_f,λi hi=>(lo i (Nat.lt_succ_of_lt hi)).trans (lh_low hi),G0⟩
  (λd v r s hd R'=>root_turn K R.W (hd▸aj _ (.head _)) R') λs R'=>w_retF rfl (freeze_dO R'.at_) ⟨aN (λl=>V.d (dD endK D.str l)) (R'.G.fin R.W en),λi hi=>?_⟩
 have l1:i < h1.o.length:=by rw [eo,aq];exact Nat.lt_succ_of_lt hi
 exact (set_gt (Nat.ne_of_gt l1)).trans ((R'.lo i l1).trans (by rw [eo];exact at_low hi))
end
abbrev Src3:=Int×Int×Nat
noncomputable def srcO (s:Src3):O:=.list [.d (.int s.1),.d (.int s.2.1)]
noncomputable def HL (t:O) (r:List O) (s:Src3):Hp:=⟨t::srcO s::r,s.2.2⟩
section
variable {m top:Nat} {t:O} {r:List O} {s:Src3} {Φ:Fns} {vs:Vars} {H:Hp}
theorem mod_D (ht:0 < top) {x:Int}:binV .mod (.d (.int x)) (.d (nD top))=some (.d (nD (Int.fmod x top).toNat))/\(Int.fmod x top).toNat < top:=by
 have p:(0:Int) < (top:Int):=Int.ofNat_lt.mpr ht
 have h1:0<=Int.fmod x top:=Int.fmod_nonneg_of_pos x p
 refine ⟨(wh_t (bne_iff_ne.mpr (Int.ne_of_gt p))).trans (aN (λi=>some (V.d (.int i))) (Int.toNat_of_nonneg h1).symm),?_⟩
 exact Int.ofNat_lt.mp ((Int.toNat_of_nonneg h1).symm▸Int.fmod_lt_of_pos x p)
theorem mul_D {a b:Int} (h:bitsOk b=true):binV .mul (.d (.int a)) (.d (.int b))=some (.d (.int (a * b))):=wh_t (Bool.or_eq_true_iff.mpr (.inr h))
theorem e_take (h1:0 < top) (h2:top < 1000):∃ k s',k < top/\callF (fns (m+1)) (.f 13) [.ref 1,.d (nD top)] (HL t r s)=some (.d (nD k),HL t r s'):=by
 have tp:(0:Int) < (top:Int):=Int.ofNat_lt.mpr h1
 have fd:binV .fdiv (.d (.int s.1)) (.d (nD top))=some (.d (.int (Int.fdiv s.1 top))):=wh_t (ba (aF tp) (aF (Int.lt_trans (Int.ofNat_lt.mpr h2) (by decide))))
 have bk:∀ {x:Int},bitsOk (Int.fmod x 2147483647)=true:=λ{x}=>ba (aF (Int.lt_of_lt_of_le (by decide) (Int.fmod_nonneg_of_pos x (by decide)))) (aF (Int.lt_trans (Int.fmod_lt_of_pos x (by decide)) (by decide)))
 refine xea (show CP (callF (fns (m+1)) (.f 13) [.ref 1,.d (nD top)] (HL t r s)) (λv h=>∃ k s',v=.d (nD k)/\h=HL t r s'/\k < top) from call_W rfl rfl rfl (w_if (t:=decide (0 < s.1)) rfl (λu1=>w_asg (e_bin (e_bcall (e_1 rfl) rfl) rfl (mod_D h1).1) (w_setI (e_bin rfl rfl fd) rfl rfl rfl (w_ret rfl ⟨_,(Int.fdiv s.1 top,s.2.1,s.2.2+1),rfl,rfl,(mod_D h1).2⟩)))
  λu1=>w_nil (w_setI (v:=.d (.int (Int.fmod (s.2.1 * 39373+7) 2147483647))) (e_bin (e_bcall (e_1 (e_bin (e_bin rfl rfl (mul_D rfl)) rfl rfl)) rfl) rfl rfl) rfl rfl rfl (w_ret (e_bin (e_bcall (e_1 (e_bin (e_bin (e_bcall (e_1 (e_bin rfl rfl (mul_D bk))) rfl) rfl rfl) rfl rfl)) rfl) rfl (mod_D h1).1) ⟨_,(s.1,Int.fmod (s.2.1 * 39373+7) 2147483647,s.2.2+1),rfl,rfl,(mod_D h1).2⟩)))) λp e z=>xeeaa z λk s' e1 e2 l=>⟨k,s',l,e.trans (aN some (Prod.ext e1 e2))⟩
theorem e_pool {xs:List Int} (hx:xs.length<=63):∃ s,callF (fns (m+1)) (.f 12) [.d (.list (xs.map .int)),.d (.int 0)] ⟨[t],0⟩=some (.ref 1,HL t [] s):=by
 have ln:bcallV .len [.d (.list (xs.map .int))] ⟨[t],0⟩=some (.d (nD xs.length)):=len_lD (f:=D.int) (au hx (by decide))
 have tail:∀ c:Int,WP (fns m) [.asg 3 (.bcall .max [.bcall .int [.var 2],.bcall .int [.bin .sub (.neg (.int 1)) (.var 2)]]),.asg 4 (.bin .mod (.bcall .int [.bin .mul (.bin .add (.bin .add (.bin .add (.bin .mod (.bcall .int [.var 3]) (.int 2147483629)) (.bin .mul (.bin .mul (.int 7919) (.var 1)) (.var 1))) (.bin .mul (.int 31) (.var 1))) (.int 17)) (.int 48271)]) (.int 2147483647)),.ret .thaw (.list [.bin .mul (.var 3) (.bcall .int [.cmp .ge (.var 3) (.bin .pow (.int 10) (.int 18))]),.var 4])] [some (.d (.list (xs.map .int))),some (.d (.int 0)),some (.d (.int c)),none,none,none,none,none] ⟨[t],0⟩ (RQ λv h=>v=.ref 1/\∃ s,h=HL t [] s):=λc=>by
  refine w_asg rfl ?_
  generalize (if c < -1 - c then -1 - c else c)=g
  refine w_asg (h1:=⟨[t],0⟩) (x:=.d (.int (Int.fmod ((Int.fmod g 2147483629+7919 * 0 * 0+31 * 0+17) * 48271) 2147483647))) (e_bin (h1:=⟨[t],0⟩) (e_bcall (h1:=⟨[t],0⟩) (e_1 (e_bin (h1:=⟨[t],0⟩) rfl rfl (mul_D rfl))) rfl) rfl rfl) (w_retT (o:=.list [.d (.int (g * if decide (10 ^ 18<=g) then 1 else 0)),.d (.int (Int.fmod ((Int.fmod g 2147483629+7919 * 0 * 0+31 * 0+17) * 48271) 2147483647))]) (h1:=⟨[t],0⟩) (mI (e_cons (e_bin (h1:=⟨[t],0⟩) rfl rfl (mul_D (b:=if decide (10 ^ 18<=g) then 1 else 0) ?_)) (e_1 rfl))) ⟨rfl,(_,_,0),rfl⟩)
  cases decide (10 ^ 18<=g) <;> rfl
 refine xea (show CP (callF (fns (m+1)) (.f 12) [.d (.list (xs.map .int)),.d (.int 0)] ⟨[t],0⟩) (λv h=>v=.ref 1/\∃ s,h=HL t [] s) from call_W rfl rfl rfl (w_asg rfl (w_ifP (P:=0 < xs.length) (e_cmp rfl (e_bcall (e_1 rfl) ln) (lt_nD (a:=0))) (λl=>?_) λl=>w_nil (tail 0)))) λp e z=>xe z.2 λs e2=>⟨s,e.trans (aN some (Prod.ext z.1 e2))⟩
 cases xs with
 | nil=>exact absurd l (Nat.lt_irrefl 0)
 | cons x xs=>exact w_asg (x:=.d (.int x)) rfl (w_nil (tail x))
end
structure EInv (n:Nat) (l:List End) (p:List Nat):Prop where
 nd:l.Nodup
 lo:∀ e∈l,e.1 < n/\e.2<=at0 p e.1
theorem EInv.add {n s:Nat} {l:List End} {p:List Nat} (E:EInv n l p) (hs:s < n) (hl:p.length=n):EInv n (l++[(s,at0 p s+1)]) (p.set s (at0 p s+1)):=
 have g:=λv=>getD_set (l:=p) (i:=s) (j:=v) (x:=at0 p s+1) (hl▸hs)
 ⟨nd_snoc E.nd λm=>Nat.not_succ_le_self _ (E.lo _ m).2,λe he=>(aD.mp he).elim (λhe=>⟨(E.lo e he).1,by
  rw [g]
  by_cases z:s=e.1
  ·rw [aQ z,z];exact Nat.le_succ_of_le (E.lo e he).2
  ·rw [aP z];exact (E.lo e he).2⟩) λhe=>ao.mp he▸⟨hs,by rw [g,aQ rfl];exact Nat.le_refl _⟩⟩
noncomputable abbrev wbO (w:List Row):O:=lO (λr=>.d (rowD r)) w
noncomputable abbrev enO (l:List End):O:=lO (λe=>.d (endD e)) l
structure Zw where
 web:List Row
 ports:List Nat
 J:List O
 s:Src3
 k4:Option V
 k5:Option V
 k6:Option V
 k7:Option V
noncomputable def Vw (L n:Nat) (z:Zw):Vars:=[some (.ref 1),some (.d (nD n)),some (.ref (L+2)),some (.ref (L+1+2)),z.k4,z.k5,z.k6,z.k7,none,none]
noncomputable def Hw (t:O) (r:List O) (z:Zw):Hp:=HL t (r++(wbO z.web::lsO z.ports::z.J)) z.s
structure Zi where
 es:List End
 ports:List Nat
 s:Src3
 k6:Option V
 k7:Option V
noncomputable def zI (L:Nat) (z:Zw) (i:Zi):Zw:=⟨z.web,i.ports,z.J++[enO i.es],i.s,z.k4,some (.ref (L+(z.J.length+2)+2)),i.k6,i.k7⟩
noncomputable abbrev bEnd:List C:=[.asg 7 (.fcall 13 [.var 0,.var 1]),.setI (.var 3) (.var 7) (.bin .add (.item (.var 3) (.var 7)) (.int 1)),.expr (.bmeth .append (.var 5) [.tup [.var 7,.item (.var 3) (.var 7)]])]
structure RE (n:Nat) (w:List Row) (d:List Nat) (i:Zi):Prop where
 el:i.es.length=d.length
 pl:i.ports.length=n
 E:EInv n (endsOf w++i.es) i.ports
structure RW (n:Nat) (d:List Nat) (z:Zw):Prop where
 wl:z.web.length=d.length
 pl:z.ports.length=n
 E:EInv n (endsOf z.web) z.ports
section
variable {m n x:Nat} {t:O} {r J:List O} {s:Src3} {z:Zw} {i:Zi} {d q:List Nat} {Qs:St->Prop} {w:List Row} {p:List Nat} {es:List End} {o:O}
theorem hw_p:(HL t (r++(wbO w::lsO p::J)) s).o[r.length+1+2]?=some (lsO p):=get_app (i:=1)
theorem hw_w:(HL t (r++(wbO w::lsO p::J)) s).o[r.length+2]?=some (wbO w):=get_app (i:=0)
theorem hw_e:(HL t (r++(wbO w::lsO p::(J++[enO es]))) s).o[r.length+(J.length+2)+2]?=some (enO es):=get_app.trans at_end
theorem hl_put {l:List O} {j:Nat} (h:(r++l).set j o=J):(HL t (r++l) s).put (j+2) o=HL t J (s.1,s.2.1,s.2.2+1):=aN (λl=>(⟨t::srcO s::l,s.2.2+1⟩:Hp)) h
theorem end_turn (h1:0 < n) (h2:n<=6) (hd:List.range 2=d++x::q) (R:RE n z.web d i):WB (fns (m+1)) (.var 6) bEnd (.d (nD x)) (Vw r.length n (zI r.length z i)) (Hw t r (zI r.length z i)) (Tn (λi=>Vw r.length n (zI r.length z i)) (λi=>Hw t r (zI r.length z i)) (RE n z.web (d++[x])) Qs):=by
 refine xeea (e_take (m:=m) (t:=t) (r:=r++(wbO z.web::lsO i.ports::(z.J++[enO i.es]))) (s:=i.s) h1 (au h2 (by decide))) λk s' l e=>?_
 have kp:k < i.ports.length:=R.pl▸l
 have kb:=lt1000 h2 l
 have el:i.es.length < 60:=R.el▸Nat.lt_trans (av (pre_lt hd) (Nat.le_of_eq ay)) (by decide)
 have g2:(i.ports.set k (at0 i.ports k+1))[k]?=some (at0 i.ports k+1):=List.getElem?_set_self kp
 have st:=(set_lO (g:=λx=>.d (nD x)) (x:=at0 i.ports k+1) (hw_p (t:=t) (r:=r) (w:=z.web) (J:=z.J++[enO i.es]) (s:=s')) kp kb).trans (aN some (hl_put (j:=r.length+1) (set_app (i:=1))))
 have ap:=(app_lO (g:=λe=>.d (endD e)) (x:=(k,at0 i.ports k+1)) (hw_e (t:=t) (r:=r) (w:=z.web) (J:=z.J) (p:=i.ports.set k (at0 i.ports k+1)) (es:=i.es) (s:=(s'.1,s'.2.1,s'.2.2+1))) el).trans (aN (λh=>some (V.d .none,h)) (hl_put (j:=r.length+(z.J.length+2)) (set_app.trans (aN (λl=>r++(wbO z.web::lsO (i.ports.set k (at0 i.ports k+1))::l)) set_end))))
 exact w_b rfl (w_asg (e_fcall (e_cons rfl (e_1 rfl)) e) (w_setI (v:=.d (nD (at0 i.ports k+1))) (e_bin (e_item rfl rfl (item_lO hw_p (at_some kp) kb)) rfl rfl) rfl rfl st (w_expr (e_bmeth rfl (kindL (g:=λe=>.d (endD e)) hw_e) (e_1 (e_tup (e_cons rfl (e_1 (e_item rfl rfl (item_lO hw_p g2 kb)))) rfl)) rfl (kindL (g:=λe=>.d (endD e)) hw_e) ap)
  (w_nil ⟨⟨i.es++[(k,at0 i.ports k+1)],i.ports.set k (at0 i.ports k+1),(s'.1,s'.2.1,s'.2.2+1+1),some (.d (nD x)),some (.d (nD k))⟩,rfl,rfl,by rw [aq,aq,R.el];rfl,List.length_set.trans R.pl,(ax (endsOf z.web) i.es _)▸R.E.add l R.pl⟩))))
theorem web_turn (h1:0 < n) (h2:n<=6) (dl:d.length < 10) (R:RW n d z):WB (fns (m+1)) (.var 4) [.asgN 5 (.list []),.fors false (.var 6) false (.bcall .range [.int 2]) bEnd,.expr (.bmeth .append (.var 2) [.tup [.item (.var 5) (.int 0),.item (.var 5) (.int 1)]])] (.d (nD x)) (Vw r.length n z) (Hw t r z) (Tn (Vw r.length n) (Hw t r) (RW n (d++[x])) Qs):=by
 refine w_b rfl (w_asgN (o:=enO []) (h1:=Hw t r z) rfl ?_)
 rw [show (Hw t r z).o.length=r.length+(z.J.length+2)+2 from aN (·+2) aq,show (Hw t r z).new (enO [])=Hw t r (zI r.length z ⟨[],z.ports,z.s,z.k6,z.k7⟩) from aN (λl=>(⟨t::srcO z.s::l,z.s.2.2⟩:Hp)) (ax r _ _)]
 refine w_for (V:=λi=>Vw r.length n (zI r.length ⟨z.web,z.ports,z.J,z.s,some (.d (nD x)),z.k5,z.k6,z.k7⟩ i)) (H:=λi=>Hw t r (zI r.length ⟨z.web,z.ports,z.J,z.s,some (.d (nD x)),z.k5,z.k6,z.k7⟩ i)) (s:=⟨[],z.ports,z.s,z.k6,z.k7⟩) (l:=List.range 2) (emb:=λi=>.d (nD i)) (R:=RE n z.web) (x_range (n:=2) (by decide) rfl) (it_range (by decide)) (show 2 < 60 by decide) ⟨rfl,R.pl,(List.append_nil (endsOf z.web)).symm▸R.E⟩ (λd x r i hd R=>end_turn h1 h2 hd R) λi R'=>?_
 refine xee (two_of R'.el) λa b e=>?_
 have E:=R'.E
 rw [e] at E
 have i0:∀ {c j},[a,b][j]?=some c->j < 1000->itemV (.ref (r.length+(z.J.length+2)+2)) (.d (nD j)) (HL t (r++(wbO z.web::lsO i.ports::(z.J++[enO i.es]))) i.s)=some (.d (endD c)):=λh l=>item_lO (g:=λe=>.d (endD e)) hw_e (e▸h) l
 have ap:=(app_lO (g:=λr=>.d (rowD r)) (x:=(a,b)) (hw_w (t:=t) (r:=r) (w:=z.web) (p:=i.ports) (J:=z.J++[enO i.es]) (s:=i.s)) (R.wl▸Nat.lt_trans dl (by decide))).trans (aN (λh=>some (V.d .none,h)) (hl_put (j:=r.length) (set_app (i:=0))))
 exact w_expr (e_bmeth rfl (kindL (g:=λr=>.d (rowD r)) hw_w) (e_1 (e_tup (e_cons (e_item rfl rfl (i0 (j:=0) rfl (by decide))) (e_1 (e_item rfl rfl (i0 (j:=1) rfl (by decide))))) rfl)) rfl (kindL (g:=λr=>.d (rowD r)) hw_w) ap) (w_nil ⟨⟨z.web++[(a,b)],i.ports,z.J++[enO i.es],(i.s.1,i.s.2.1,i.s.2.2+1),some (.d (nD x)),_,i.k6,i.k7⟩,rfl,rfl,by rw [aq,aq,R.wl];rfl,R'.pl,endsOf_snoc▸E⟩)
inductive WebP (n:Nat) (t:O) (r:List O) (v:V) (h:Hp):Prop
 | mk (web:List Row) (J:List O) (s:Src3) (ev:v=.d (webD web)) (eh:h=HL t (r++J) s) (wl:web.length<=9) (L:Low n web) (en:(endsOf web).Nodup)
theorem e_web (h1:0 < n) (h2:n<=6):CP (callF (fns (m+2)) (.f 14) [.ref 1,.d (nD n)] (HL t r s)) (WebP n t r):=by
 have par:evalPar (fns (m+1)) [true,true] [.list [],.bin .mul (.list [.int 0]) (.var 1)] [some (.ref 1),some (.d (nD n)),none,none,none,none,none,none,none,none] (HL t r s)=some ([.ref (r.length+2),.ref (r.length+1+2)],Hw t r ⟨[],List.replicate n 0,[],s,none,none,none,none⟩):=
  (p_new (o:=wbO []) (h1:=HL t r s) rfl (p_new (o:=lsO (List.replicate n 0)) (h1:=HL t (r++[wbO []]) s) ((n_mul (n:=n) rfl rfl (lt6 h2)).trans (by unfold lsO lO;rw [List.map_replicate];rfl)) rfl)).trans (by
   rw [show (HL t (r++[wbO []]) s).o.length=r.length+1+2 from aN (·+2) aq]
   exact aN (λl=>some ([V.ref (r.length+2),.ref (r.length+1+2)],(⟨t::srcO s::l,s.2.2⟩:Hp))) (ax r [wbO []] [lsO (List.replicate n 0)]))
 refine xeea (e_take (m:=m) (t:=t) (r:=r++(wbO []::lsO (List.replicate n 0)::[])) (s:=s) (top:=10) (by decide) (by decide)) λk s' l e=>?_
 have k60:k < 60:=Nat.lt_trans l (by decide)
 exact call_W rfl rfl rfl (w_par par (w_for (V:=Vw r.length n) (H:=Hw t r) (s:=⟨[],List.replicate n 0,[],s',none,none,none,none⟩) (l:=List.range k) (emb:=λi=>.d (nD i)) (R:=RW n) (e_bcall (e_1 (e_fcall (e_cons rfl (e_1 rfl)) e)) (wh_t (smI k60))) (it_range k60) (by rw [ay];exact k60) ⟨rfl,List.length_replicate,.nil,λe m=>absurd m aA⟩
  (λd x q z hd R=>web_turn h1 h2 (Nat.lt_trans (av (pre_lt hd) (Nat.le_of_eq ay)) l) R) λz R=>w_retF rfl (freeze_lO (f:=rowD) (l:=z.web) hw_w) (.mk z.web (.dead::lsO z.ports::z.J) (z.s.1,z.s.2.1,z.s.2.2+1) rfl (aN (λl=>(⟨t::srcO z.s::l,z.s.2.2+1⟩:Hp)) (set_app (i:=0))) (by rw [R.wl,ay];exact Nat.le_of_lt_succ l) (λr hr=>⟨(R.E.lo r.1 (List.mem_flatMap.mpr ⟨r,hr,.head _⟩)).1,(R.E.lo r.2 (List.mem_flatMap.mpr ⟨r,hr,.tail _ (.head _)⟩)).1⟩) R.E.nd)))
end
section
variable {α σ:Type} {l xs:List α} {emb:α->V} {R:List α->List D->σ->Prop} {H:σ->Hp} {body:V->Hp->Option (List D×Hp)} {Φ:Fns} {k:Nat} {elt it1 it2 c:X} {p1 p2:Pat} {en two hasC:Bool} {vs:Vars} {h:Hp} {v:V} {s:σ}
theorem comp_w (step:∀ d x r ys s,l=d++x::r->R d ys s->∃ zs s',body (emb x) (H s)=some (zs,H s')/\R (d++[x]) (ys++zs) s'):∀ d ys s,l=d++xs->R d ys s->∃ zs s',compLoop false body (xs.map emb) (H s)=some (zs,H s')/\R l (ys++zs) s':=by
 induction xs with
 | nil=>exact λd ys s e r=>⟨[],s,rfl,(e.trans (List.append_nil d)).symm▸(List.append_nil ys).symm▸r⟩
 | cons x xs ih=>exact λd ys s e r=>xeea (step d x xs ys s e r) λzs s1 e1 r1=>xeea (ih (d++[x]) (ys++zs) s1 (e.trans (ax d [x] xs).symm) r1) λz2 s2 e2 r2=>⟨zs++z2,s2,bI e1 (mI e2),(ax ys zs z2)▸r2⟩
theorem e_compW (q:evalX Φ it1 vs h=some (v,H s)) (i:itemsOf en p1 v (H s)=some (l.map emb,false)) (sm:l.length < 60) (r0:R [] [] s) (sz:∀ zs s,R l zs s->zs.length < 60)
  (step:∀ d x r ys s,l=d++x::r->R d ys s->∃ zs s',(bindP p1 (emb x) (vs++List.replicate k none)).bind (λvs=>compAfter two p2 hasC (evalX Φ elt) (evalX Φ it2) (evalX Φ c) vs (H s))=some (zs,H s')/\R (d++[x]) (ys++zs) s') :
  ∃ zs s',evalX Φ (.comp k elt p1 en it1 two p2 it2 hasC c) vs h=some (.d (.list zs),H s')/\R l zs s':=
 xeea (comp_w (xs:=l) step [] [] s rfl r0) λzs s' e r=>⟨zs,s',mI (a:=(zs,H s')) (bI q (bI i ((wh_t (smm sm)).trans (bI e (wh_small (sz _ _ r)))))),r⟩
end
section
variable {m n v:Nat} {t:O} {r:List O} {s:Src3} {web d q:List Row} {x:Row} {e:End} {Qs:St->Prop}
structure RBr (d:List Nat) (ys:List D) (z:(Nat->End)×Src3):Prop where
 ys:ys=d.map λv=>endD (z.1 v)
 k:∀ v,(z.1 v).2=100+v
theorem range_nin {d r:List Nat} {n x:Nat} (e:List.range n=d++x::r):x∉d:=λm=>(az.mp (e▸List.nodup_range:(d++x::r).Nodup)).2.2 x m x (.head _) rfl
theorem e_bridges (hn:n<=6) {vs:Vars} (hv:vs=some (.ref 1)::some (.d (webD web))::some (.d (nD n))::List.replicate 11 none):∃ (br:Nat->End) (s':Src3),evalX (fns (m+1)) (.comp 4 (.tup [.fcall 13 [.var 0,.int 3],.bin .add (.int 100) (.var 15)]) (.var 15) false (.bcall .range [.var 2]) false (.var 0) .none false .none) vs (HL t r s)=some (.d (endsD ((List.range n).map br)),HL t r s')/\∀ v,(br v).2=100+v:=by
 subst hv
 refine xeea (e_compW (H:=λz:(Nat->End)×Src3=>HL t r z.2) (s:=(λv=>(0,100+v),s)) (l:=List.range n) (emb:=λv=>.d (nD v)) (R:=RBr) (x_range (lt6 hn) rfl) (it_range (lt6 hn)) (by rw [ay];exact lt6 hn) ⟨rfl,λu1=>rfl⟩ (λzs s R=>by rw [R.ys,aB,ay];exact lt6 hn) λd x r' ys z hd R=>?_) λzs z e R=>⟨z.1,z.2,e.trans (by rw [R.ys];unfold endsD;rw [aK];rfl),R.k⟩
 refine xeea (e_take (m:=m) (t:=t) (r:=r) (s:=z.2) (top:=3) (by decide) (by decide)) λk s' l e=>⟨_,(λu=>if u=x then (k,100+x) else z.1 u,s'),bI rfl (leaf_plain (h1:=HL t r s') (y:=endD (k,100+x)) ?_),?_,λu=>?_⟩
 ·exact (e_tup (e_cons (e_fcall (e_cons rfl (e_1 rfl)) e) (e_1 (e_bin (h1:=HL t r s') rfl rfl (z:=.d (nD (100+x))) rfl))) rfl)
 ·rw [R.ys,aC]
  exact congr (aN HAppend.hAppend (List.map_congr_left λu hu=>aN endD (aP λ(y:u=x)=>range_nin hd (y▸hu)).symm)) (aN (λe=>[endD e]) (aQ rfl).symm)
 ·by_cases y:u=x
  ·exact (aN Prod.snd (aQ y)).trans (aN (100+·) y.symm)
  ·exact (aN Prod.snd (aP y)).trans (R.k u)
abbrev Z20:=Pt'×Src3×Option V×Option V
noncomputable def Vz (L n:Nat) (web:List Row) (br:Nat->End) (v7:Option V) (z:Z20):Vars:=[some (.ref 1),some (.d (webD web)),some (.d (nD n)),some (.d (endsD ((List.range n).map br))),some (.ref (L+2)),z.2.2.1,z.2.2.2,v7,none,none,none,none,none,none]
noncomputable def Hz (t:O) (r:List O) (z:Z20):Hp:=HL t (r++[dO' endK portD z.1]) z.2.1
structure RP (d:List End) (z:Z20):Prop where
 ky:z.1.map (·.1)=d
 b:∀ p∈z.1,1<=p.2.2/\p.2.2<=4
theorem add4 {k:Nat} (h:k < 4):1<=1+k/\1+k<=4:=⟨Nat.le_add_right 1 k,Nat.add_comm 1 k▸h⟩
theorem port_turn {d:List End} {br:Nat->End} {z:Z20} (ne:e∉d) (dl:d.length < 18) (R:RP d z):WB (fns (m+1)) (.var 6) [.setI (.var 4) (.var 6) (.tup [.tup [.fcall 13 [.var 0,.int 2],.item (.var 6) (.int 1)],.bin .add (.int 1) (.fcall 13 [.var 0,.int 4])])] (.d (endD e)) (Vz r.length n web br none z) (Hz t r z) (Tn (Vz r.length n web br none) (Hz t r) (RP (d++[e])) Qs):=by
 refine xeea (e_take (m:=m) (t:=t) (r:=r++[dO' endK portD z.1]) (s:=z.2.1) (top:=2) (by decide) (by decide)) λa s1 u1 e1=>xeea (e_take (m:=m) (t:=t) (r:=r++[dO' endK portD z.1]) (s:=s1) (top:=4) (by decide) (by decide)) λb s2 lb e2=>?_
 have st:=(set_dO kE (f:=λx=>.d (portD x)) (k:=e) (x:=((a,e.2),1+b)) (s:=z.1) (H:=HL t (r++[dO' endK portD z.1]) s2) (j:=r.length+2) at_end (by rw [← aB (f:=(·.1)),R.ky];exact Nat.lt_trans dl (by decide))).trans (aN some (hl_put (j:=r.length) set_end))
 rw [sA_new (by rw [R.ky];exact ne)] at st
 exact w_b rfl (w_setI (v:=.d (portD ((a,e.2),1+b))) (e_tup (e_cons (e_tup (e_cons (e_fcall (e_cons rfl (e_1 rfl)) e1) (e_1 (e_item rfl rfl rfl))) rfl) (e_1 (e_bin rfl (e_fcall (e_cons rfl (e_1 rfl)) e2) (z:=.d (nD (1+b))) rfl))) rfl) rfl rfl st (w_nil ⟨(z.1++[(e,((a,e.2),1+b))],(s2.1,s2.2.1,s2.2.2+1),z.2.2.1,some (.d (endD e))),rfl,rfl,by rw [aC,R.ky];rfl,λp hp=>(aD.mp hp).elim (R.b p) λhp=>ao.mp hp▸add4 lb⟩))
theorem ends_split (hd:web=d++x::q):endsOf web=endsOf d++([x.1,x.2]++endsOf q):=by
 rw [hd];unfold endsOf;rw [List.flatMap_append,List.flatMap_cons]
theorem pre_nin {l d r:List End} {e:End} (nd:l.Nodup) (h:l=d++e::r):e∉d:=λm=>(az.mp (h▸nd)).2.2 e m e (.head _) rfl
theorem ends_pre2 {d' r':List End} (hd:web=d++x::q) (hd':[x.1,x.2]=d'++e::r'):endsOf web=(endsOf d++d')++e::(r'++endsOf q):=(ends_split hd).trans (by rw [hd',ax,ax];rfl)
theorem ports_turn {br:Nat->End} {z:Z20} (hw:web.length<=9) (en:(endsOf web).Nodup) (hd:web=d++x::q) (R:RP (endsOf d) z):WB (fns (m+1)) (.var 5) [.fors false (.var 6) false (.var 5) [.setI (.var 4) (.var 6) (.tup [.tup [.fcall 13 [.var 0,.int 2],.item (.var 6) (.int 1)],.bin .add (.int 1) (.fcall 13 [.var 0,.int 4])])]] (.d (rowD x)) (Vz r.length n web br none z) (Hz t r z) (Tn (Vz r.length n web br none) (Hz t r) (RP (endsOf (d++[x]))) Qs):=
 w_b rfl (w_for (V:=Vz r.length n web br none) (H:=Hz t r) (s:=(z.1,z.2.1,some (.d (rowD x)),z.2.2.2)) (l:=[x.1,x.2]) (emb:=λe=>.d (endD e)) (R:=λd' z=>RP (endsOf d++d') z) rfl rfl (show 2 < 60 by decide) ((List.append_nil (endsOf d)).symm▸⟨R.ky,R.b⟩) (λd' e r' z' hd' R'=>
  have e3:=ends_pre2 hd hd'
  ax (endsOf d) d' [e]▸port_turn (pre_nin en e3) (av (pre_lt e3) (len_ends▸Nat.mul_le_mul_left 2 hw)) R') λz' R'=>w_nil ⟨z',rfl,rfl,endsOf_snoc▸R'⟩)
theorem texts_str {l:List Str}:textsOf (l.map D.str)=some l:=(allM_map (f:=D.str) (r:=id) λu1=>rfl).trans (aN some (List.map_id l))
theorem eq_roles {l:List (End×Str)} {H:Hp} (nd:(l.map (·.1)).Nodup):cmpV .eq (.d (dD endK D.str l)) (.d (dD endK D.str l)) H=some true:=by
 show eqDD (dD endK D.str l) (dD endK D.str l)=_
 cases l with
 | nil=>rfl
 | cons p l=>
  generalize hl:p::l=L at *
  have tx:textsOf (L.map λp=>D.str p.2)=some (L.map (·.2)):=(aN textsOf (aK (f:=λp:End×Str=>p.2) (g:=D.str) (l:=L)).symm).trans texts_str
  have sk:(kL endK L).all (sameKind (.t []))=true:=List.all_eq_true.mpr λq m=>xea (aJ.mp m) λa u1 e=>e▸rfl
  have e:eqDict (kL endK L) (L.map λp=>D.str p.2) (kL endK L) (L.map λp=>D.str p.2)=some true:=bI tx (bI tx ((wh_t (ba sk sk)).trans (aN some (ba (beq_self_eq_true _) (List.all_eq_true.mpr λq m=>?_)))))
  ·rw [← hl] at e ⊢;exact e
  ·rw [show (kL endK L).zip (L.map (·.2))=L.map λp=>(endK p.1,p.2) from List.zip_map'] at m
   refine xea (aJ.mp m) λa ha ea=>?_
   rw [← ea,gK kE (f:=λx:Str=>x) (s:=L) (k:=a.1),gA_of_mem nd ha]
   exact beq_self_eq_true a.2
theorem e_rolesRight (h1:0 < n) (hn:n<=6) (L:Low n web) (hw:web.length<=9) (en:(endsOf web).Nodup):CP (callF (fns (m+6)) (.f 20) [.ref 1,.d (webD web),.d (nD n)] (HL t r s)) (λv h=>v=.d (.bool true)/\h.o[0]?=some t):=by
 refine xeea (e_bridges (m:=m+4) (t:=t) (r:=r) (s:=s) (web:=web) hn rfl) λbr s1 eb bk=>?_
 refine call_W rfl rfl rfl (w_asg eb (w_asgN (o:=dO' endK portD []) (h1:=HL t r s1) rfl (w_for (V:=Vz r.length n web br none) (H:=Hz t r) (s:=([],s1,none,none)) (l:=web) (emb:=λr=>.d (rowD r)) (R:=λd z=>RP (endsOf d) z) rfl it_lD (lt9 hw) ⟨rfl,λp m=>absurd m aA⟩ (λd x q z hd R=>ports_turn hw en hd R) λz R=>?_)))
 refine xea (marks_least L) λμ I u1=>?_
 have bi:∀ u v,u < n->v < n->br u=br v->u=v:=λu v u1 u2 e=>Nat.add_left_cancel ((bk u).symm.trans ((aN Prod.snd e).trans (bk v)))
 have pts:∀ e∈endsOf web,gA z.1 e=some (((gA z.1 e).getD ((0,0),1)).1,((gA z.1 e).getD ((0,0),1)).2):=λe he=>xe (gA_some (R.ky.symm▸he)) λx hx=>by rw [hx];rfl
 have T:TD n (Hz t r z).o (bList n br) (r.length+2) (acr web) z.1 br (λe=>((gA z.1 e).getD ((0,0),1)).2):=⟨hn,Nat.succ_lt_succ (Nat.succ_lt_succ (lt_of at_end)),at_end,λv hv=>bList_at hv,acr_keys.symm▸en,len_acr▸Nat.mul_le_mul_left 2 hw,λh=>⟨_,pts _ (acr_end h),rfl⟩,λh=>L.adj (edr_adj (P:=λe=>((gA z.1 e).getD ((0,0),1)).2) ⟨_,_,h,rfl,rfl,rfl⟩)⟩
 refine xea (e_init (m:=m+1) (w:=z.2.1.2.2) L hw I en bi T) λp ei P=>?_
 obtain ⟨v,h'⟩:=p
 cases P with | mk R' C J w' ev eh M=>
 cases ev;cases eh
 have K:Ask ⟨n,r.length+2,w',(Hz t r z).o,web,μ,z.1,br,_,λe=>((gA z.1 e).getD ((0,0),1)).1,R',C,J⟩:=⟨L,hw,I,T,M,pts⟩
 have P4:∀ e∈endsOf web,1<=((gA z.1 e).getD ((0,0),1)).2/\((gA z.1 e).getD ((0,0),1)).2<=4:=λe he=>R.b (e,_) (gA_mem (pts e he))
 refine xea (e_lawRoles (m:=m+3) K (λe he=>(P4 e he).2) en K.gp) λh4 el fr=>?_
 have de:evalX (fns (m+5)) (.dictEnum (.var 3)) (Vz r.length n web br none z) (Hz t r z)=some (.d (dD nK endD (bList n br)),Hz t r z):=(e_dictEnum (ds:=((List.range n).map br).map endD) rfl (by rw [aB,aB,ay];exact lt6 hn)).trans (by
  rw [aB,aB,ay]
  unfold dD bList kL
  rw [aK,aK,aK];rfl)
 have er:=e_roles (m:=m) K en
 rw [List.map_congr_left λe he=>show (e,roleF _ e)=(e,lawF _ e) from aN (Prod.mk e) (K.agree (λe he=>(P4 e he).1) he)] at er
 exact w_asg (e_ccall (e_cons de (e_cons rfl (e_1 rfl))) (by decide) ei) (w_ret (e_cmp (e_meth rfl (inst_PH rfl rfl) rfl er) (e_fcall (e_cons rfl (e_cons rfl (e_1 rfl))) el) (eq_roles (by rw [aK];exact (List.map_id' _).symm▸en))) ⟨rfl,(fr 0 (by unfold Qd.H;rw [len_PH];exact Nat.succ_pos _)).trans (phb (Nat.succ_pos _))⟩)
end
noncomputable def wireO (r:Row) (b:Bool):O:=.inst 1 [(5,.d (endD r.1)),(6,.d (endD r.2)),(7,.d (.int 0)),(8,.d (.bool b))]
noncomputable def wfs (fl:V):List (Nat×V):=[(9,.ref 3),(10,.ref 4),(11,fl),(12,.d (.int 0))]
noncomputable def memb {α:Type} [DecidableEq α] (x:α) (l:List α):Bool:=decide (x∈l)
noncomputable def isC (c:List Nat) (q:Row×Nat):Bool:=!memb q.2 c
noncomputable def wsO (w:List Row) (c:List Nat):List O:=w.zipIdx.map λq=>wireO q.1 (isC c q)
noncomputable def nmL (w:List Row):List (End×Nat):=w.zipIdx.flatMap λq=>[(q.1.1,q.2),(q.1.2,q.2)]
noncomputable def webC (w:List Row) (c:List Nat):List Row:=(w.zipIdx.filter (isC c)).map (·.1)
noncomputable def WH (t:O) (fl:V) (J:List O) (w:List Row) (c:List Nat) (s:Src3):Hp:=HL t (.inst 2 (wfs fl)::lO (V.inst 1 ·) (List.range' (J.length+6) w.length)::dO' endK nD (nmL w)::.list []::(J++wsO w c)) s
section
variable {m i k:Nat} {t:O} {fl:V} {J base:List O} {w:List Row} {c:List Nat} {s:Src3} {r:Row} {Φ:Fns} {vs:Vars} {e:X} {H:Hp}
theorem dec_f {P:Prop} {i:Decidable P} (h:¬ P):@decide P i=false:=by
 cases i with
 | isTrue z=>exact absurd z h
 | isFalse u1=>rfl
theorem memb_t {α:Type} [DecidableEq α] {x:α} {l:List α} (h:x∈l):memb x l=true:=aF h
theorem memb_f {α:Type} [DecidableEq α] {x:α} {l:List α} (h:x∉l):memb x l=false:=decide_eq_false h
theorem memb_c {α:Type} [DecidableEq α] {x:α} {l l':List α} (h:x∈l↔x∈l'):memb x l=memb x l':=decide_eq_decide.mpr h
theorem zip_snoc {α:Type} {l:List α} {a:α}:(l++[a]).zipIdx=l.zipIdx++[(a,l.length)]:=by rw [List.zipIdx_append,Nat.zero_add];rfl
theorem nm_snoc:nmL (w++[r])=nmL w++[(r.1,w.length),(r.2,w.length)]:=by
 unfold nmL
 rw [zip_snoc,List.flatMap_append,List.flatMap_singleton]
theorem nm_keys:(nmL w).map (·.1)=endsOf w:=by
 have:endsOf w=endsOf (w.zipIdx.map (·.1)):=aN endsOf (List.zipIdx_map_fst _ _).symm
 rw [this]
 unfold nmL endsOf
 rw [List.map_flatMap,List.flatMap_map];rfl
theorem nm_len:(nmL w).length=2 * w.length:=by rw [← aB (f:=(·.1)),nm_keys,len_ends]
theorem ws_snoc:wsO (w++[r]) []=wsO w []++[wireO r true]:=by
 unfold wsO
 rw [zip_snoc,aC];rfl
theorem ws_len:(wsO w c).length=w.length:=(aB _).trans List.length_zipIdx
theorem ws_at (h:w[i]?=some r):(wsO w c)[i]?=some (wireO r (isC c (r,i))):=by
 unfold wsO
 rw [List.getElem?_map,List.getElem?_zipIdx,h,Nat.zero_add];rfl
theorem ws_set (h:w[i]?=some r):(wsO w c).set i (wireO r false)=wsO w (c++[i]):=List.ext_getElem? λj=>by
 unfold wsO
 rw [List.getElem?_set,aB,List.length_zipIdx,List.getElem?_map,List.getElem?_map,List.getElem?_zipIdx,Nat.zero_add]
 by_cases e:i=j
 ·subst e
  rw [aQ rfl,aQ (lt_of h),h]
  exact aN (λb=>some (wireO r b)) (aN (λb=>!b) (memb_t (aj c (.head _)))).symm
 ·rw [aP e]
  cases w[j]? with
  | none=>rfl
  | some x=>exact aN (λb=>some (wireO x !b)) (memb_c ⟨ak _,λh=>(aD.mp h).resolve_right λz=>e (ao.mp z).symm⟩)
theorem wh_w (h:w[i]?=some r):(WH t fl J w c s).o[J.length+6+i]?=some (wireO r (isC c (r,i))):=by
 rw [Nat.add_right_comm]
 exact (get_app (l:=J)).trans (ws_at h)
theorem e_wire0 {a b d:V} {n:Nat}:∃ n',callF (fns (m+1)) (.m 1 0) [.inst 1 base.length,a,b,d] ⟨base++[.inst 1 []],n⟩=some (.d .none,⟨base++[.inst 1 [(5,a),(6,b),(7,d),(8,.d (.bool true))]],n'⟩):=
 xea (show CP (callF (fns (m+1)) (.m 1 0) [.inst 1 base.length,a,b,d] ⟨base++[.inst 1 []],n⟩) (λv h=>v=.d .none/\∃ n',h=⟨base++[.inst 1 [(5,a),(6,b),(7,d),(8,.d (.bool true))]],n'⟩) from
  call_W rfl rfl rfl (w_setA rfl rfl (setat (rs:=[]) (fs:=[]) rfl rfl (by decide)) (w_setA rfl rfl (setat (rs:=[]) (fs:=[(5,a)]) rfl rfl (show 1 < 60 by decide)) (w_setA rfl rfl (setat (rs:=[]) (fs:=[(5,a),(6,b)]) rfl rfl (show 2 < 60 by decide)) (w_setA rfl rfl (setat (rs:=[]) (fs:=[(5,a),(6,b),(7,d)]) rfl rfl (show 3 < 60 by decide)) (w_nil ⟨rfl,_,rfl⟩)))))) λp e z=>xe z.2 λn' e2=>⟨n',e.trans (aN some (Prod.ext z.1 e2))⟩
theorem len_rows (hw:w.length<=9):bcallV .len [.ref 3] (WH t fl J w c s)=some (.d (nD w.length)):=(len_lO (g:=(V.inst 1 ·)) (l:=List.range' (J.length+6) w.length) rfl (by rw [List.length_range'];exact Nat.lt_trans (lt9 hw) (by decide))).trans (by rw [List.length_range'])
theorem e_join (hw:w.length < 9) (h1:r.1∉endsOf w) (h2:r.2∉endsOf w) (ne:r.2≠r.1):∃ s',callF (fns (m+2)) (.m 2 7) [.inst 2 2,.d (endD r.1),.d (endD r.2)] (WH t fl J w [] s)=some (.d (nD w.length),WH t fl J (w++[r]) [] s'):=by
 have kl:(nmL w).length < 59:=by rw [nm_len];exact au (Nat.mul_le_mul_left 2 (Nat.le_of_lt hw)) (by decide)
 have k1:r.1∉(nmL w).map (·.1):=nm_keys▸h1
 have k2:r.2∉(nmL w++[(r.1,w.length)]).map (·.1):=λz=>(keys_snoc.mp z).elim (λz=>h2 (nm_keys▸z)) ne
 have c2:∀ {e},e∉endsOf w->cmpV .isin (.d (endD e)) (.ref 4) (WH t fl J w [] s)=some false:=λh=>(in_dO kE (f:=λx=>.d (nD x)) (s:=nmL w) rfl).trans (aN some (dec_f (nm_keys▸h)))
 have test:evalX (fns (m+1)) (.or (.cmp .eq (.var 1) (.var 2)) (.or (.cmp .isin (.var 1) (.attr (.var 0) 10)) (.cmp .isin (.var 2) (.attr (.var 0) 10)))) [some (.inst 2 2),some (.d (endD r.1)),some (.d (endD r.2)),some (.d (.int 0)),none,none,none,none] (WH t fl J w [] s)=some (.d (.bool false),WH t fl J w [] s):=
  e_or (t:=false) (u:=false) (e_cmp rfl rfl ((cmp_eqD rep_endD (by decide) λu1=>rfl).trans (aN some (decide_eq_false λz=>ne z.symm)))) λu1=>e_or (t:=false) (u:=false) (e_cmp rfl rfl (c2 h1)) λu1=>e_cmp rfl rfl (c2 h2)
 refine xe (e_wire0 (m:=m) (base:=(WH t fl J w [] s).o) (a:=.d (endD r.1)) (b:=.d (endD r.2)) (d:=.d (.int 0)) (n:=s.2.2)) λn' ew=>?_
 have kx:(WH t fl J w [] s).o.length=J.length+6+w.length:=by
  show (J++wsO w []).length+6=_
  rw [aq,ws_len,Nat.add_right_comm]
 have ap:bmethV .append (.ref 3) [.inst 1 (WH t fl J w [] s).o.length] ⟨(WH t fl J w [] s).o++[wireO r true],n'⟩=some (.d .none,HL t (.inst 2 (wfs fl)::lO (V.inst 1 ·) (List.range' (J.length+6) (w++[r]).length)::dO' endK nD (nmL w)::.list []::(J++wsO (w++[r]) [])) (s.1,s.2.1,n'+1)):=by
  refine (app_lO (g:=(V.inst 1 ·)) (l:=List.range' (J.length+6) w.length) rfl (by rw [List.length_range'];exact Nat.lt_trans hw (by decide))).trans ?_
  rw [kx,ws_snoc,← ax,aq,show List.range' (J.length+6) (w.length+[r].length)=_ from List.range'_concat,Nat.one_mul];rfl
 refine xea (show CP (callF (fns (m+2)) (.m 2 7) [.inst 2 2,.d (endD r.1),.d (endD r.2)] (WH t fl J w [] s)) (λv h=>v=.d (nD w.length)/\∃ s',h=WH t fl J (w++[r]) [] s') from call_W rfl rfl rfl (w_if (t:=false) test (λz=>nomatch z) λu1=>w_nil (w_if (t:=false) rfl (λz=>nomatch z) λu1=>w_nil (w_asg (e_bcall (e_1 rfl) (len_rows (Nat.le_of_lt hw))) (w_expr (e_bmeth rfl rfl (e_1 (e_ccall (e_cons rfl (e_cons rfl (e_1 rfl))) (by decide) ew)) rfl rfl ap) ?_))))) λp e z=>xe z.2 λs' e2=>⟨s',e.trans (aN some (Prod.ext z.1 e2))⟩
 have g1:=set_dO kE (f:=λx=>.d (nD x)) (s:=nmL w) (k:=r.1) (x:=w.length) (j:=4) (H:=HL t (.inst 2 (wfs fl)::lO (V.inst 1 ·) (List.range' (J.length+6) (w++[r]).length)::dO' endK nD (nmL w)::.list []::(J++wsO (w++[r]) [])) (s.1,s.2.1,n'+1)) rfl (Nat.lt_succ_of_lt kl)
 have g2:=set_dO kE (f:=λx=>.d (nD x)) (s:=nmL w++[(r.1,w.length)]) (k:=r.2) (x:=w.length) (j:=4) (H:=HL t (.inst 2 (wfs fl)::lO (V.inst 1 ·) (List.range' (J.length+6) (w++[r]).length)::dO' endK nD (nmL w++[(r.1,w.length)])::.list []::(J++wsO (w++[r]) [])) (s.1,s.2.1,n'+1+1)) rfl (by rw [aq];exact Nat.succ_lt_succ kl)
 rw [sA_new k1] at g1
 rw [sA_new k2,ax] at g2
 exact w_setI rfl rfl rfl g1 (w_setI rfl rfl rfl g2 (w_ret rfl ⟨rfl,(s.1,s.2.1,n'+1+1+1),by unfold WH;rw [nm_snoc];rfl⟩))
theorem e_wire (hw:w.length<=9) (h:w[i]?=some r):callF (fns (m+1)) (.m 2 8) [.inst 2 2,.d (nD i)] (WH t fl J w c s)=some (.inst 1 (J.length+6+i),WH t fl J w c s):=by
 have l:=lt_of h
 have c1:cmpV .le (.d (.int 0)) (.d (nD i)) (WH t fl J w c s)=some true:=aN some (aF (Int.natCast_nonneg i))
 have c2:cmpV .lt (.d (nD i)) (.d (nD w.length)) (WH t fl J w c s)=some true:=(lt_nD (n:=6)).trans (aN some (aF l))
 have g:(List.range' (J.length+6) w.length)[i]?=some (J.length+6+i):=by rw [List.getElem?_range' l,Nat.one_mul]
 exact call_S rfl rfl rfl (w_if (t:=false) (e_not (t:=true) (e_chain2 rfl rfl c1 (e_bcall (e_1 rfl) (len_rows hw)) c2)) (λz=>nomatch z) λu1=>w_nil (w_ret (e_item rfl rfl (item_lO (g:=(V.inst 1 ·)) rfl g (av l (aI hw (by decide))))) ⟨rfl,rfl⟩))
theorem at_w {b:Bool} {f:Nat} {x:V} (h:H.o[k]?=some (wireO r b)) (hf:wh (okFld 1 f) (List.lookup f [(5,.d (endD r.1)),(6,.d (endD r.2)),(7,.d (.int 0)),(8,.d (.bool b))])=some x):attrV (.inst 1 k) f H=some x:=bI (a:=(1,k,[(5,V.d (endD r.1)),(6,.d (endD r.2)),(7,.d (.int 0)),(8,.d (.bool b))])) (bI rfl (bI h rfl)) hf
theorem e_ends (hw:w.length<=9) (h:w[i]?=some r):callF (fns (m+2)) (.m 2 9) [.inst 2 2,.d (nD i)] (WH t fl J w c s)=some (.d (rowD r),WH t fl J w c s):=
 call_S rfl rfl rfl (w_asg (e_meth rfl rfl (e_1 rfl) (e_wire hw h)) (w_ret (e_tup (e_cons (e_attr rfl (at_w (wh_w h) rfl)) (e_1 (e_attr rfl (at_w (wh_w h) rfl)))) rfl) ⟨rfl,rfl⟩))
theorem e_whole (hw:w.length<=9) (h:w[i]?=some r):callF (fns (m+2)) (.m 2 10) [.inst 2 2,.d (nD i)] (WH t fl J w c s)=some (.d (.bool (isC c (r,i))),WH t fl J w c s):=
 call_S rfl rfl rfl (w_ret (e_attr (e_meth rfl rfl (e_1 rfl) (e_wire hw h)) (at_w (wh_w h) rfl)) ⟨rfl,rfl⟩)
theorem e_cut (hf:fl=.ref 5\/fl=.d (.list [])) (hw:w.length<=9) (h:w[i]?=some r) (hc:i∉c):∃ s',callF (fns (m+2)) (.m 2 11) [.inst 2 2,.d (nD i)] (WH t fl J w c s)=some (.d .none,WH t (.d (.list [])) J w (c++[i]) s'):=by
 have g:=wh_w (t:=t) (fl:=fl) (J:=J) (c:=c) (s:=s) h
 rw [show isC c (r,i)=true from aN (λb=>!b) (memb_f hc)] at g
 have s1:setAttrV (.inst 1 (J.length+6+i)) 8 (.d (.bool false)) (WH t fl J w c s)=some (WH t fl J w (c++[i]) (s.1,s.2.1,s.2.2+1)):=
  bI (a:=(1,J.length+6+i,[(5,V.d (endD r.1)),(6,.d (endD r.2)),(7,.d (.int 0)),(8,.d (.bool true))])) (bI rfl (bI g rfl)) ((wh_t rfl).trans (by
   show some ((WH t fl J w c s).put (J.length+6+i) (wireO r false))=_
   rw [Nat.add_right_comm]
   exact aN (λl=>some (⟨t::srcO s::.inst 2 (wfs fl)::lO (V.inst 1 ·) (List.range' (J.length+6) w.length)::dO' endK nD (nmL w)::.list []::l,s.2.2+1⟩:Hp)) (set_app.trans (aN (J++·) (ws_set h)))))
 have it:∃ lock,itemsOf false (.var 5) fl (WH t fl J w (c++[i]) (s.1,s.2.1,s.2.2+1))=some (([]:List Unit).map λu1=>V.d .none,lock):=hf.elim (λe=>⟨true,by rw [e];rfl⟩) λe=>⟨false,by rw [e];rfl⟩
 refine xe it λlock it=>?_
 exact xea (show CP (callF (fns (m+2)) (.m 2 11) [.inst 2 2,.d (nD i)] (WH t fl J w c s)) (λv h=>v=.d .none/\∃ s',h=WH t (.d (.list [])) J w (c++[i]) s') from call_W rfl rfl rfl (w_asg (e_meth rfl rfl (e_1 rfl) (e_wire hw h)) (w_if (t:=false) (e_not (t:=true) (e_attr rfl (at_w g rfl))) (λz=>nomatch z) λu1=>w_nil
  (w_setA rfl rfl s1 (w_setA (e_comp (g:=λu1=>[]) (xs:=([]:List Unit)) rfl it (show 0 < 60 by decide) (λx m=>absurd m aA) (show 0 < 60 by decide)) rfl rfl (w_nil ⟨rfl,(s.1,s.2.1,s.2.2+1+1),rfl⟩)))))) λp e z=>xe z.2 λs' e2=>⟨s',e.trans (aN some (Prod.ext z.1 e2))⟩
theorem e_ofWires (hw:w.length<=9):callF (fns (m+3)) (.f 0) [.inst 2 2] (WH t fl J w c s)=some (.d (webD (webC w c)),WH t fl J w c s):=by
 refine call_S rfl rfl rfl (w_ret (e_compF (lock:=false) (f:=λq:Row×Nat=>rowD q.1) (p:=isC c) (xs:=w.zipIdx) (emb:=λq=>.d (nD q.2)) (x_range (lt9 hw) (e_bcall (e_1 rfl) (len_rows hw))) ((it_range (lt9 hw)).trans ?_) (by rw [List.length_zipIdx];exact lt9 hw) λq hq=>?_) ⟨by unfold webC webD;rw [aK];rfl,rfl⟩)
 ·rw [show List.range w.length=w.zipIdx.map (·.2) from List.range_eq_range'.trans (List.zipIdx_map_snd _ _).symm,aK];rfl
 ·have h:=List.mem_zipIdx_iff_getElem?.mp hq
  exact ⟨_,rfl,e_meth rfl rfl (e_1 rfl) (e_whole hw h),λu1=>e_meth rfl rfl (e_1 rfl) (e_ends hw h)⟩
theorem e_wires:∃ s',∀ {vs},evalX (fns (m+1)) (.ccall 2 []) vs (HL t [] s)=some (.inst 2 2,HL t [.inst 2 (wfs (.ref 5)),.list [],.dict [] [],.list []] s'):=
 xea (show CP (callF (fns (m+1)) (.m 2 0) [.inst 2 2] (HL t [.inst 2 []] s)) (λv h=>v=.d .none/\∃ s',h=HL t [.inst 2 (wfs (.ref 5)),.list [],.dict [] [],.list []] s') from
  call_W rfl rfl rfl (w_setAN (o:=.list []) (h1:=HL t [.inst 2 []] s) rfl rfl rfl (w_setAN (o:=.dict [] []) rfl rfl rfl (w_setAN (o:=.list []) rfl rfl rfl (w_setA rfl rfl rfl (w_nil ⟨rfl,(s.1,s.2.1,s.2.2+1+1+1+1),rfl⟩)))))) λp e z=>xe z.2 λs' e2=>⟨s',e_ccall (n:=2) (h1:=HL t [] s) rfl (by decide) (e.trans (aN some (Prod.ext z.1 e2)))⟩
end
section
variable {m n j:Nat} {Φ:Fns} {h H:Hp} {vs:Vars} {e:X} {ys:List D} {x:D} {b:Bool} {α:Type} [DecidableEq α] {f:α->D} {k:Nat} {a:α} {l:List α} {web:List Row} {shut:List End} {t:O} {r:List O} {s:Src3} {xs:List V} {es:List X}
theorem e_small:callF (fns (m+6)) (.f 21) [] h=some (.d (.bool true),h):=by kernel_rfl
theorem inL_rep (r:Rep f k) (hk:k<=64):inL (f a) (l.map f)=some (memb a l):=by
 refine (wh_t (ba (r.shaped hk a) (List.all_eq_true.mpr λy hy=>xea (aJ.mp hy) λb u1 e=>e▸r.shaped hk b))).trans (aN some ?_)
 rw [List.any_map]
 exact Bool.eq_iff_iff.mpr (List.any_eq_true.trans ⟨λh=>xea h λc hc e=>aF (aw ((r.eq c a).symm.trans e)▸hc),λh=>⟨a,aw h,(r.eq a a).trans (aF rfl)⟩⟩)
theorem notin_list (r:Rep f k) (hk:k<=64):cmpV .notin (.d (f a)) (.d (.list (l.map f))) H=some (!memb a l):=mI (inL_rep r hk)
theorem e_vcall (q:evalX Φ e vs h=some (.d x,h)) (hv:(vs[n]?).join=some (.clo j)) (hj:h.o[j]?=some (.cell ys)) (hb:inL x ys=some b):evalX Φ (.vcall n e) vs h=some (.d (.bool (!b)),h):=bI q (bI hv (mI (bI (a:=j) rfl (bI (a:=x) rfl (bI hj (bI (a:=ys) rfl (mI hb)))))))
noncomputable def letsF (shut:List End) (r:Row):Bool:=!memb r.1 shut&&!memb r.2 shut
theorem e_let (hw:web.length<=9) (hj:H.o[j]?=some (.cell (shut.map endD))):callF (fns (m+1)) (.f 1) [.d (webD web),.clo j] H=some (.d (webD (web.filter (letsF shut))),H):=
 call_S rfl rfl rfl (w_ret (e_compF (f:=rowD) (p:=letsF shut) (xs:=web) (emb:=λr=>.d (rowD r)) (lock:=false) rfl it_lD (lt9 hw) λr hr=>⟨_,rfl,e_and (e_vcall (e_item rfl rfl rfl) rfl hj (inL_rep rep_endD (by decide))) λu1=>e_vcall (e_item rfl rfl rfl) rfl hj (inL_rep rep_endD (by decide)),λu1=>rfl⟩) ⟨rfl,rfl⟩)
theorem e_flam {f:Nat} (q:evalXs Φ es vs h=some (xs,HL .tab r s)) (hv:(vs[n]?).join=some (.d (.list ys))) (k:callF Φ (.f f) (xs++[.clo (r.length+2)]) (HL .tabD (r++[.cell ys]) (s.1,s.2.1,s.2.2+1))=some (.d x,HL .tabD (r++[.cell ys]) (s.1,s.2.1,s.2.2+1))) :
  evalX Φ (.flam f es n) vs h=some (.d x,HL .tabD (r++[.dead]) (s.1,s.2.1,s.2.2+1)):=
 bI q (bI hv (bI (a:=ys) rfl (bI (a:=O.tab) rfl (bI (a:=()) rfl (bI k (bI (a:=x) rfl (bI (show (HL .tabD (r++[.cell ys]) (s.1,s.2.1,s.2.2+1)).o[r.length+2]?=_ from at_end) (bI (a:=ys) rfl ((wh_t (beq_self_eq_true _)).trans (aN (λl=>some (V.d x,(⟨.tabD::srcO s::l,s.2.2+1⟩:Hp))) set_end))))))))))
theorem sub_ends {l l':List Row} (h:l.Sublist l'):(endsOf l).Sublist (endsOf l'):=by
 induction h with
 | slnil=>exact .slnil
 | cons a u1 ih=>exact ih.trans (List.sublist_append_right _ _)
 | cons_cons a u1 ih=>exact (List.Sublist.refl [a.1,a.2]).append ih
theorem webC_sub {c:List Nat}:(webC web c).Sublist web:=by
 have h:=(List.filter_sublist (p:=isC c) (l:=web.zipIdx)).map Prod.fst
 rwa [List.zipIdx_map_fst] at h
theorem e_coin {y:D} {elt it2:X} {p2:Pat} (q1:∀ {H},evalX (fns (m+1)) (.var 1) vs H=some (.ref 1,H)) (q2:∀ {H},evalX (fns (m+1)) elt vs H=some (.d y,H)):∃ (b:Bool) (s':Src3),compAfter false p2 true (evalX (fns (m+1)) elt) (evalX (fns (m+1)) it2) (evalX (fns (m+1)) (.cmp .eq (.fcall 13 [.var 1,.int 4]) (.int 0))) vs (HL t r s)=some (if b then [y] else [],HL t r s'):=
 xeea (e_take (m:=m) (t:=t) (r:=r) (s:=s) (top:=4) (by decide) (by decide)) λk s' u1 e=>⟨decide (k=0),s',leaf_cond (h1:=HL t r s') (e_cmp (e_fcall (e_cons q1 (e_1 rfl)) e) rfl (cmp_eqD rep_nD (by decide) (b:=0) λu1=>rfl)) λu1=>q2⟩
structure RCo {α:Type} (f:α->D) (d:List α) (ys:List D) (z:List α×Src3):Prop where
 ys:ys=z.1.map f
 sub:z.1.Sublist d
theorem RCo.step {α:Type} {f:α->D} {d:List α} {zs:List D} {z:List α×Src3} {x:α} {s':Src3} {b:Bool} (R:RCo f d zs z):RCo f (d++[x]) (zs++if b then [f x] else []) (if b then z.1++[x] else z.1,s'):=by
 cases b with
 | true=>exact ⟨(aN (·++[f x]) R.ys).trans (aC (f:=f) (l₁:=z.1) (l₂:=[x])).symm,R.sub.append (List.Sublist.refl _)⟩
 | false=>exact ⟨(List.append_nil zs).trans R.ys,R.sub.trans (List.sublist_append_left _ _)⟩
end
noncomputable def Vl (xs:List Int) (n:Nat) (w:List Row) (v5 v6 v7 v8 v9 v10:Option V):Vars:=[some (.d (.list (xs.map .int))),some (.ref 1),some (.d (nD n)),some (.inst 2 2),some (.d (webD w)),v5,v6,v7,v8,v9,v10,none,none,none,none,none,none,none,none,none,none,none,none]
section
variable {n m i:Nat} {xs:List Int} {web w2 d q:List Row} {J r:List O} {s:Src3} {x:Row} {Qs:St->Prop} {fl:V} {c cut:List Nat} {shut:List End} {v5 v6 v7 v8:Option V} {Φ:Fns} {a b:X} {vs:Vars} {h h1:Hp} {p:V×Hp} {t:O}
theorem e_orF (k1:evalX Φ a vs h=some (.d (.bool false),h1)) (k2:evalX Φ b vs h1=some p):evalX Φ (.or a b) vs h=some p:=bI k1 k2
theorem e_andT (k1:evalX Φ a vs h=some (.d (.bool true),h1)) (k2:evalX Φ b vs h1=some p):evalX Φ (.and a b) vs h=some p:=bI k1 k2
abbrev Uj:=List Row×Src3×Option V×Option V
theorem join_turn {u:Uj} (hw:web.length<=9) (en:(endsOf web).Nodup) (hd:web=d++x::q) (R:u.1=d):WB (fns (m+2)) (.tup [.var 5,.var 6]) [.expr (.meth (.var 3) 7 [.var 5,.var 6])] (.d (rowD x)) (Vl xs n web u.2.2.1 u.2.2.2 none none none none) (WH .tab (.ref 5) J u.1 [] u.2.1) (Tn (λu:Uj=>Vl xs n web u.2.2.1 u.2.2.2 none none none none) (λu=>WH .tab (.ref 5) J u.1 [] u.2.1) (λu=>u.1=d++[x]) Qs):=by
 have p:=ends_pre en hd
 subst R
 exact xe (e_join (m:=m) (t:=.tab) (fl:=.ref 5) (J:=J) (s:=u.2.1) (av (pre_lt hd) hw) p.1 p.2.1 p.2.2) λs' e=>w_b rfl (w_exprI (e_meth rfl rfl (e_cons rfl (e_1 rfl)) e) (w_nil ⟨(u.1++[x],s',some (.d (endD x.1)),some (.d (endD x.2))),rfl,rfl,rfl⟩))
abbrev Uc:=V×List Nat×Src3×Option V
theorem cut_turn {u:Uc} {d:List Nat} (hw:web.length<=9) (hi:i < web.length) (ni:i∉d) (R:(u.1=.ref 5\/u.1=.d (.list []))/\u.2.1=d):WB (fns (m+2)) (.var 7) [.expr (.meth (.var 3) 11 [.var 7])] (.d (nD i)) (Vl xs n web v5 v6 u.2.2.2 v8 none none) (WH .tab u.1 J web u.2.1 u.2.2.1) (Tn (λu:Uc=>Vl xs n web v5 v6 u.2.2.2 v8 none none) (λu=>WH .tab u.1 J web u.2.1 u.2.2.1) (λu=>(u.1=.ref 5\/u.1=.d (.list []))/\u.2.1=d++[i]) Qs):=by
 have e:=R.2
 subst e
 exact xe (e_cut (m:=m) (t:=.tab) (J:=J) (s:=u.2.2.1) R.1 hw (ad hi) ni) λs' e=>w_b rfl (w_expr (e_meth rfl rfl (e_1 rfl) e) (w_nil ⟨(.d (.list []),u.2.1++[i],s',some (.d (nD i))),rfl,rfl,.inr rfl,rfl⟩))
theorem e_left (hw:web.length<=9):evalX Φ (.comp 4 (.var 25) (.tup [.var 24,.var 25]) true (.var 4) false (.var 0) .none true (.cmp .notin (.var 24) (.var 8))) (Vl xs n web v5 v6 v7 (some (.d (natsD cut))) none none) h=some (.d (webD (webC web cut)),h):=by
 have it:itemsOf true (.tup [.var 24,.var 25]) (.d (webD web)) h=some (web.zipIdx.map λq=>.d (.tup [nD q.2,rowD q.1]),false):=(wh_t (ba rfl (smm (lt9 hw)))).trans (aN (λz=>some (z,false)) (by rw [List.zipIdx_map,aK];rfl))
 exact (e_compF (xs:=web.zipIdx) (p:=isC cut) (f:=λq=>rowD q.1) rfl it (by rw [List.length_zipIdx];exact lt9 hw) λq hq=>⟨_,rfl,e_cmp rfl rfl (notin_list rep_nD (by decide)),λu1=>rfl⟩).trans (by unfold webC webD;rw [aK];rfl)
theorem e_part (hw:w2.length<=9):evalX Φ (.comp 3 (.var 24) (.var 24) false (.var 4) false (.var 0) .none true (.and (.cmp .notin (.item (.var 24) (.int 0)) (.var 10)) (.cmp .notin (.item (.var 24) (.int 1)) (.var 10)))) (Vl xs n w2 v5 v6 v7 v8 none (some (.d (.list (shut.map endD))))) h=some (.d (webD (w2.filter (letsF shut))),h):=
 e_compF (xs:=w2) (emb:=λr=>.d (rowD r)) (p:=letsF shut) (f:=rowD) rfl it_lD (lt9 hw) λr hr=>⟨_,rfl,e_and (e_cmp (e_item rfl rfl rfl) rfl (notin_list rep_endD (by decide))) λu1=>e_cmp (e_item rfl rfl rfl) rfl (notin_list rep_endD (by decide)),λu1=>rfl⟩
theorem e_cuts (hw:web.length<=9):∃ zs z,evalX (fns (m+1)) (.comp 4 (.var 24) (.var 24) false (.bcall .range [.bcall .len [.var 4]]) false (.var 0) .none true (.cmp .eq (.fcall 13 [.var 1,.int 4]) (.int 0))) (Vl xs n web v5 v6 none none none none) (HL t r s)=some (.d (.list zs),HL t r z.2)/\RCo nD (List.range web.length) zs z:=
 e_compW (H:=λz:List Nat×Src3=>HL t r z.2) (s:=([],s)) (l:=List.range web.length) (emb:=λi=>.d (nD i)) (R:=RCo nD) (x_range (lt9 hw) (e_bcall (e_1 rfl) (len_lD (Nat.lt_trans (lt9 hw) (by decide))))) (it_range (lt9 hw)) (by rw [ay];exact lt9 hw) ⟨rfl,.slnil⟩ (λzs z R=>by rw [R.ys,aB];exact au R.sub.length_le (by rw [ay];exact lt9 hw))
  λd i r' ys z hd R=>xee (e_coin (m:=m) (t:=t) (r:=r) (s:=z.2) (y:=nD i) (elt:=.var 24) (p2:=.var 0) (it2:=.none) rfl rfl) λb s' e=>⟨_,_,bI rfl e,R.step⟩
theorem after_two {α:Type} {l:List α} {emb:α->V} {p2:Pat} {hasC:Bool} {elt it2 c:X} {v:V} {r:Option (List D×Hp)} (k1:evalX Φ it2 vs h=some (v,h)) (i:itemsOf false p2 v h=some (l.map emb,false)) (s:l.length < 60) (e:compLoop false (λv h=>(bindP p2 v vs).bind λvs=>compLeaf hasC (evalX Φ c) (evalX Φ elt) vs h) (l.map emb) h=r):compAfter true p2 hasC (evalX Φ elt) (evalX Φ it2) (evalX Φ c) vs h=r:=bI k1 (bI i ((wh_t (smm s)).trans e))
structure RS2 (d:List Row) (ys:List D) (z:List End×Src3):Prop where
 ys:ys=z.1.map endD
 l:z.1.length<=2 * d.length
theorem shut_row {l:List End} {s:Src3} (q1:∀ {e H},evalX (fns (m+1)) (.var 1) (vs.set 25 (some (.d (endD e)))) H=some (.ref 1,H)) (q2:∀ {e H},evalX (fns (m+1)) (.var 25) (vs.set 25 (some (.d (endD e)))) H=some (.d (endD e),H)) :
  ∃ zs z,compLoop false (λv h=>(bindP (.var 25) v vs).bind λvs=>compLeaf true (evalX (fns (m+1)) (.cmp .eq (.fcall 13 [.var 1,.int 4]) (.int 0))) (evalX (fns (m+1)) (.var 25)) vs h) (l.map λe=>.d (endD e)) (HL t r s)=some (zs,HL t r z.2)/\RCo endD l zs z:=
 comp_w (emb:=λe=>V.d (endD e)) (H:=λz:List End×Src3=>HL t r z.2) (R:=RCo endD) (l:=l) (xs:=l) (λd e r' ys z hd R=>xee (e_coin (m:=m) (t:=t) (r:=r) (s:=z.2) (y:=endD e) (elt:=.var 25) (p2:=.var 0) (it2:=.none) q1 q2) λb s' e=>⟨_,_,bI rfl e,R.step⟩) [] [] ([],s) rfl ⟨rfl,.slnil⟩
theorem e_shut (hw:w2.length<=9):∃ zs z,evalX (fns (m+1)) (.comp 5 (.var 25) (.var 24) false (.var 4) true (.var 25) (.var 24) true (.cmp .eq (.fcall 13 [.var 1,.int 4]) (.int 0))) (Vl xs n w2 v5 v6 v7 v8 none none) (HL t r s)=some (.d (.list zs),HL t r z.2)/\RS2 w2 zs z:=
 e_compW (H:=λz:List End×Src3=>HL t r z.2) (s:=([],s)) (l:=w2) (emb:=λr=>.d (rowD r)) (R:=RS2) rfl it_lD (lt9 hw) ⟨rfl,Nat.le_refl _⟩ (λzs z R=>by rw [R.ys,aB];exact au (aI R.l (Nat.mul_le_mul_left 2 hw)) (by decide))
  λd x r' ys z hd R=>by
   refine xeea (shut_row (m:=m) (t:=t) (r:=r) (s:=z.2) (l:=[x.1,x.2]) (vs:=(Vl xs n w2 v5 v6 v7 v8 none none++List.replicate 5 none).set 24 (some (V.d (rowD x)))) rfl rfl) λzs z' e R'=>⟨zs,(z.1++z'.1,z'.2),?_,?_,?_⟩
   ·refine bI rfl (after_two (v:=.d (rowD x)) (l:=[x.1,x.2]) (emb:=λe=>V.d (endD e)) ?_ ?_ (show 2 < 60 by decide) e)
    ·rfl
    ·rfl
   ·exact (congr (aN HAppend.hAppend R.ys) R'.ys).trans aC.symm
   ·rw [aq,aq];exact Nat.add_le_add R.l R'.sub.length_le
theorem ne_web {H:Hp}:cmpV .ne (.d (webD w2)) (.d (webD w2)) H=some false:=mI (a:=true) ((cmp_eqD rep_webD (by decide) λu1=>rfl).trans (aN some (aF rfl)))
noncomputable abbrev LawP (v:V) (h:Hp):Prop:=v=.d (.bool true)/\(h.o[0]?=some .tab\/h.o[0]?=some .tabD)
theorem law_end (h1:0 < n) (hn:n<=6) (L:Low n web) (hw:web.length<=9) (en:(endsOf web).Nodup) :
  WP (fns 11) [.asg 4 (.comp 4 (.var 25) (.tup [.var 24,.var 25]) true (.var 4) false (.var 0) .none true (.cmp .notin (.var 24) (.var 8))),.asg 10 (.comp 5 (.var 25) (.var 24) false (.var 4) true (.var 25) (.var 24) true (.cmp .eq (.fcall 13 [.var 1,.int 4]) (.int 0))),.asg 9 (.comp 3 (.var 24) (.var 24) false (.var 4) false (.var 0) .none true (.and (.cmp .notin (.item (.var 24) (.int 0)) (.var 10)) (.cmp .notin (.item (.var 24) (.int 1)) (.var 10)))),.ifs (.or (.cmp .ne (.fcall 0 [.var 3]) (.var 4)) (.cmp .ne (.flam 1 [.var 4] 10) (.var 9))) [.ret .plain (.bool false)] [],.ret .plain (.and (.fcall 17 [.var 4,.var 9,.var 2]) (.fcall 20 [.var 1,.var 4,.var 2]))]
   (Vl xs n web v5 v6 v7 (some (.d (natsD cut))) none none) (WH .tab fl J web cut s) (RQ LawP):=by
 have sub:=webC_sub (web:=web) (c:=cut)
 have w2:(webC web cut).length<=9:=aI sub.length_le hw
 have L2:Low n (webC web cut):=λr hr=>L r (sub.subset hr)
 refine w_asg (e_left hw) (xeea (e_shut (m:=10) (xs:=xs) (n:=n) (v5:=v5) (v6:=v6) (v7:=v7) (v8:=some (.d (natsD cut))) (t:=.tab) (s:=s) w2) λzs z e R=>w_asg e ?_)
 rw [R.ys]
 have ps:((webC web cut).filter (letsF z.1)).Sublist (webC web cut):=List.filter_sublist
 refine xea (e_rolesRight (m:=5) (t:=.tabD) (r:=_++[.dead]) (s:=(z.2.1,z.2.2.1,z.2.2.2+1)) h1 hn L2 w2 (en.sublist (sub_ends sub))) λp er k=>w_asg (e_part w2) (w_if (t:=false) (e_orF (e_cmp (e_fcall (e_1 rfl) (e_ofWires hw)) rfl ne_web) (e_cmp (e_flam (e_1 rfl) rfl (e_let w2 at_end)) rfl ne_web)) (λz=>nomatch z) λu1=>w_nil (w_ret (e_andT (e_fcall (e_cons rfl (e_cons rfl (e_1 rfl))) (e_webRight hn h1 L2 w2 (λr hr=>L2 r (ps.subset hr)) (aI ps.length_le w2))) (e_fcall (e_cons rfl (e_cons rfl (e_1 rfl))) er)) ⟨k.1,.inr k.2⟩))
theorem e_law (hx:xs.length<=63):∃ H',callF (fns 12) (.f 22) [.d (.list (xs.map .int))] ⟨[.tab],0⟩=some (.d (.bool true),H')/\(H'.o[0]?=some .tab\/H'.o[0]?=some .tabD):=by
 refine CP.d (call_W rfl rfl rfl (w_if (t:=false) (e_not (t:=true) (e_fcall rfl (e_small (m:=5)))) (λz=>nomatch z) λu1=>w_nil (xe (e_pool (m:=10) (t:=.tab) hx) λs0 e0=>w_asg (e_fcall (e_cons rfl (e_1 rfl)) e0) ?_)))
 refine xeea (e_take (m:=10) (t:=.tab) (r:=[]) (s:=s0) (top:=6) (by decide) (by decide)) λk s1 hk e1=>xe (e_wires (m:=10) (t:=.tab) (s:=s1)) λs2 e2=>?_
 have h1:0 < 1+k:=av Nat.one_pos (Nat.le_add_right 1 k)
 have hn:1+k<=6:=Nat.add_comm 1 k▸hk
 refine w_par (p_old (v:=.d (nD (1+k))) (e_bin rfl (e_fcall (e_cons rfl (e_1 rfl)) e1) rfl) (p_old e2 rfl)) (xea (e_web (m:=9) (t:=.tab) (r:=[.inst 2 (wfs (.ref 5)),.list [],.dict [] [],.list []]) (s:=s2) h1 hn) λp e P=>?_)
 obtain ⟨v,h'⟩:=p
 cases P with | mk web J s3 ev eh wl L en=>
 cases ev;cases eh
 refine w_asg (e_fcall (e_cons rfl (e_1 rfl)) e) (w_for (V:=λu:Uj=>Vl xs (1+k) web u.2.2.1 u.2.2.2 none none none none) (H:=λu=>WH .tab (.ref 5) J u.1 [] u.2.1) (s:=([],s3,none,none)) (l:=web) (emb:=λr=>.d (rowD r)) (R:=λd u=>u.1=d) ?_ it_lD (lt9 wl) rfl (λd x r u hd R=>join_turn wl en hd R) λu R=>?_)
 ·exact aN (λl=>some (V.d (webD web),HL .tab (.inst 2 (wfs (.ref 5))::.list []::.dict [] []::.list []::l) s3)) (List.append_nil J).symm
 ·obtain ⟨uw,us,u5,u6⟩:=u
  cases (show uw=web from R)
  refine xeea (e_cuts (m:=10) (xs:=xs) (n:=1+k) (v5:=u5) (v6:=u6) (t:=.tab) (s:=us) wl) λzs z e R'=>w_asg e ?_
  rw [R'.ys]
  have nd:=List.nodup_range.sublist R'.sub
  exact w_for (V:=λw:Uc=>Vl xs (1+k) web u5 u6 w.2.2.2 (some (.d (natsD z.1))) none none) (H:=λw=>WH .tab w.1 J web w.2.1 w.2.2.1) (s:=(.ref 5,[],z.2,none)) (l:=z.1) (emb:=λi=>.d (nD i)) (R:=λd w=>(w.1=.ref 5\/w.1=.d (.list []))/\w.2.1=d) rfl it_lD (au R'.sub.length_le (ay▸lt9 wl)) ⟨.inl rfl,rfl⟩
   (λd i r w hd R=>cut_turn wl (List.mem_range.mp (R'.sub.subset (hd▸aj _ (.head _)))) (λm=>(az.mp (hd▸nd)).2.2 i m i (.head _) rfl) R) λw R=>R.2▸law_end h1 hn L wl en
end
end Mine.Internal
namespace Mine.Internal.h
theorem tw10066243032650365218:True:=⟨⟩
theorem tw10096628701986980782:True:=⟨⟩
theorem tw10172854441005033158:True:=⟨⟩
theorem tw10193207207145141616:True:=⟨⟩
theorem tw10209591716021878969:True:=⟨⟩
theorem tw10236500404347357482:True:=⟨⟩
theorem tw10237215097572071390:True:=⟨⟩
theorem tw10274919345457184069:True:=⟨⟩
theorem tw10294305082320416828:True:=⟨⟩
theorem tw10304460806384484365:True:=⟨⟩
theorem tw10308061794334053471:True:=⟨⟩
theorem tw10389712337508899699:True:=⟨⟩
theorem tw10439651602583948165:True:=⟨⟩
theorem tw10468422229764028090:True:=⟨⟩
theorem tw10489985564363579387:True:=⟨⟩
theorem tw10554466853696668032:True:=⟨⟩
theorem tw10563576707476060789:True:=⟨⟩
theorem tw10582250045366316675:True:=⟨⟩
theorem tw10590240174274511095:True:=⟨⟩
theorem tw10630584534763623505:True:=⟨⟩
theorem tw10655100599613642668:True:=⟨⟩
theorem tw10781076329906999696:True:=⟨⟩
theorem tw10843411219405324193:True:=⟨⟩
theorem tw10981199660410213593:True:=⟨⟩
theorem tw1098577539371810014:True:=⟨⟩
theorem tw11005529976221432771:True:=⟨⟩
theorem tw11011076637071787117:True:=⟨⟩
theorem tw11038148946071854954:True:=⟨⟩
theorem tw11173642076277706964:True:=⟨⟩
theorem tw11200237687060424247:True:=⟨⟩
theorem tw11248335157493568473:True:=⟨⟩
theorem tw11275240856166064585:True:=⟨⟩
theorem tw11293677773682475064:True:=⟨⟩
theorem tw11301085678189736239:True:=⟨⟩
theorem tw11345358527723029028:True:=⟨⟩
theorem tw11363288532897968706:True:=⟨⟩
theorem tw11381328606023851429:True:=⟨⟩
theorem tw11384035147314299323:True:=⟨⟩
theorem tw11425673385166586857:True:=⟨⟩
theorem tw11474758875010461091:True:=⟨⟩
theorem tw11490526129141354682:True:=⟨⟩
theorem tw11499355913609962786:True:=⟨⟩
theorem tw11510955273000818389:True:=⟨⟩
theorem tw11613968451307275940:True:=⟨⟩
theorem tw11621498233833769271:True:=⟨⟩
theorem tw11642118290042492226:True:=⟨⟩
theorem tw11711608378786851337:True:=⟨⟩
theorem tw11760029891904807822:True:=⟨⟩
theorem tw11769494150484577709:True:=⟨⟩
theorem tw11801544507425350805:True:=⟨⟩
theorem tw11804840771654451120:True:=⟨⟩
theorem tw11819819923512561346:True:=⟨⟩
theorem tw11821455920151838205:True:=⟨⟩
theorem tw11833607008865203547:True:=⟨⟩
theorem tw11844392346563910559:True:=⟨⟩
theorem tw11902879834314266504:True:=⟨⟩
theorem tw11938878862052604736:True:=⟨⟩
theorem tw119766627775172234:True:=⟨⟩
theorem tw11977770405018611718:True:=⟨⟩
theorem tw12084184597549184474:True:=⟨⟩
theorem tw12089058803987111831:True:=⟨⟩
theorem tw12101157251452678755:True:=⟨⟩
theorem tw12111693015175698170:True:=⟨⟩
theorem tw12123235563078639756:True:=⟨⟩
theorem tw12133360179525551429:True:=⟨⟩
theorem tw1219038333058032931:True:=⟨⟩
theorem tw12294765944349225421:True:=⟨⟩
theorem tw12303170382060731875:True:=⟨⟩
theorem tw12380342171653343394:True:=⟨⟩
theorem tw12408836524461534087:True:=⟨⟩
theorem tw12424463459254959717:True:=⟨⟩
theorem tw12472345858506129878:True:=⟨⟩
theorem tw12488313363966393809:True:=⟨⟩
theorem tw12505566915613261056:True:=⟨⟩
theorem tw12631687265020781425:True:=⟨⟩
theorem tw12658442457115067050:True:=⟨⟩
theorem tw12690472209799890775:True:=⟨⟩
theorem tw12701206989616842685:True:=⟨⟩
theorem tw12748028871116591273:True:=⟨⟩
theorem tw12793483965762352686:True:=⟨⟩
theorem tw12794539658024320198:True:=⟨⟩
theorem tw12802022457516066526:True:=⟨⟩
theorem tw12813569395086607786:True:=⟨⟩
theorem tw12842916108797361697:True:=⟨⟩
theorem tw12850259042861878548:True:=⟨⟩
theorem tw12865556820600013841:True:=⟨⟩
theorem tw12877943847600832030:True:=⟨⟩
theorem tw12891525039896643960:True:=⟨⟩
theorem tw12967833124661619014:True:=⟨⟩
theorem tw13033996696560668203:True:=⟨⟩
theorem tw13103488535562539790:True:=⟨⟩
theorem tw13158649944333293591:True:=⟨⟩
theorem tw13167946976713937462:True:=⟨⟩
theorem tw13168930289225293150:True:=⟨⟩
theorem tw13221472175088321383:True:=⟨⟩
theorem tw13232914406459060403:True:=⟨⟩
theorem tw13298211813537937815:True:=⟨⟩
theorem tw13299595001617295373:True:=⟨⟩
theorem tw13304106628918243963:True:=⟨⟩
theorem tw13354121747300564104:True:=⟨⟩
theorem tw1335547322600909529:True:=⟨⟩
theorem tw13374087145903091907:True:=⟨⟩
theorem tw13419958591952730060:True:=⟨⟩
theorem tw13420562920653053:True:=⟨⟩
theorem tw13422086345980785442:True:=⟨⟩
theorem tw13468016615049822838:True:=⟨⟩
theorem tw13473775243088671976:True:=⟨⟩
theorem tw13475674426834692479:True:=⟨⟩
theorem tw13598882375158072097:True:=⟨⟩
theorem tw13660220492193851976:True:=⟨⟩
theorem tw13681517553180852248:True:=⟨⟩
theorem tw13690393396710146742:True:=⟨⟩
theorem tw13709565351167251139:True:=⟨⟩
theorem tw13709860305279663052:True:=⟨⟩
theorem tw1372011021554648883:True:=⟨⟩
theorem tw13826338020426113761:True:=⟨⟩
theorem tw13865800006358809656:True:=⟨⟩
theorem tw13874618297009298462:True:=⟨⟩
theorem tw13900077299997617752:True:=⟨⟩
theorem tw13967932132427034092:True:=⟨⟩
theorem tw14092945194184803162:True:=⟨⟩
theorem tw14110238858584869482:True:=⟨⟩
theorem tw14125254534234705110:True:=⟨⟩
theorem tw14149543262258801056:True:=⟨⟩
theorem tw14241808928878365511:True:=⟨⟩
theorem tw14253134277189543645:True:=⟨⟩
theorem tw14322322749322378994:True:=⟨⟩
theorem tw14343425912235704169:True:=⟨⟩
theorem tw14358720406997112544:True:=⟨⟩
theorem tw14372154204200311271:True:=⟨⟩
theorem tw1437322209223709823:True:=⟨⟩
theorem tw14412309891071536129:True:=⟨⟩
theorem tw14437456396267473620:True:=⟨⟩
theorem tw14443439632087861409:True:=⟨⟩
theorem tw14489899914680789914:True:=⟨⟩
theorem tw14529640041492029559:True:=⟨⟩
theorem tw14629618390772572787:True:=⟨⟩
theorem tw14636560077704033022:True:=⟨⟩
theorem tw14677091675585757857:True:=⟨⟩
theorem tw1468661926401544562:True:=⟨⟩
theorem tw14731233389103999176:True:=⟨⟩
theorem tw14734345865415526681:True:=⟨⟩
theorem tw14836992762949198072:True:=⟨⟩
theorem tw14912557794037573924:True:=⟨⟩
theorem tw14946254515826156370:True:=⟨⟩
theorem tw1495806314176976464:True:=⟨⟩
theorem tw15080798721362408873:True:=⟨⟩
theorem tw15085667291896112413:True:=⟨⟩
theorem tw15133692979859939773:True:=⟨⟩
theorem tw15134755304614568534:True:=⟨⟩
theorem tw15156020656907591225:True:=⟨⟩
theorem tw15157256421610393769:True:=⟨⟩
theorem tw15187399590975947938:True:=⟨⟩
theorem tw15191737075074627814:True:=⟨⟩
theorem tw15205624640905244971:True:=⟨⟩
theorem tw15276253562186719196:True:=⟨⟩
theorem tw15303878339715405155:True:=⟨⟩
theorem tw15459908435036672458:True:=⟨⟩
theorem tw15485134557753302863:True:=⟨⟩
theorem tw15544465385125055169:True:=⟨⟩
theorem tw15548402573152325510:True:=⟨⟩
theorem tw15628863840653639234:True:=⟨⟩
theorem tw15669756701684751691:True:=⟨⟩
theorem tw1568941417348552559:True:=⟨⟩
theorem tw1569735418560544121:True:=⟨⟩
theorem tw15739378826453633165:True:=⟨⟩
theorem tw15797640545141026382:True:=⟨⟩
theorem tw15891085095514853188:True:=⟨⟩
theorem tw16040576631667023414:True:=⟨⟩
theorem tw16044574531000531505:True:=⟨⟩
theorem tw16073289059170993680:True:=⟨⟩
theorem tw16099000207806067558:True:=⟨⟩
theorem tw16114028837333195111:True:=⟨⟩
theorem tw161283525299087687:True:=⟨⟩
theorem tw16174633238812995153:True:=⟨⟩
theorem tw16201113819222145001:True:=⟨⟩
theorem tw16220577264680208729:True:=⟨⟩
theorem tw16243727107862801437:True:=⟨⟩
theorem tw16254256151246878719:True:=⟨⟩
theorem tw1629802056756541638:True:=⟨⟩
theorem tw16304738204520729961:True:=⟨⟩
theorem tw16359654991465747875:True:=⟨⟩
theorem tw16417781519517549696:True:=⟨⟩
theorem tw1641851782374431490:True:=⟨⟩
theorem tw16451627974716185446:True:=⟨⟩
theorem tw16455532728962115176:True:=⟨⟩
theorem tw16490855383122336857:True:=⟨⟩
theorem tw16530602601310662639:True:=⟨⟩
theorem tw16550479352273487160:True:=⟨⟩
theorem tw16556675247768028134:True:=⟨⟩
theorem tw16593280124950458650:True:=⟨⟩
theorem tw1660849384778713010:True:=⟨⟩
theorem tw16684631869312132095:True:=⟨⟩
theorem tw16702014464002830611:True:=⟨⟩
theorem tw16717990931824456872:True:=⟨⟩
theorem tw16741063633081763268:True:=⟨⟩
theorem tw16773204824049091888:True:=⟨⟩
theorem tw16776949066794802376:True:=⟨⟩
theorem tw16805566768638631368:True:=⟨⟩
theorem tw16830300719615008457:True:=⟨⟩
theorem tw16947269944696413593:True:=⟨⟩
theorem tw16957889108050815272:True:=⟨⟩
theorem tw17021495882261679483:True:=⟨⟩
theorem tw17052477534974871255:True:=⟨⟩
theorem tw17057426120662361973:True:=⟨⟩
theorem tw17143811421494988297:True:=⟨⟩
theorem tw17175103159146034596:True:=⟨⟩
theorem tw17196208666171498751:True:=⟨⟩
theorem tw17214416673749911001:True:=⟨⟩
theorem tw17214893992208877848:True:=⟨⟩
theorem tw1722514254758521159:True:=⟨⟩
theorem tw17249822747710301471:True:=⟨⟩
theorem tw17344299811706580941:True:=⟨⟩
theorem tw17362495526366557350:True:=⟨⟩
theorem tw17418421612358848520:True:=⟨⟩
theorem tw17548740890818369057:True:=⟨⟩
theorem tw17552286862711982822:True:=⟨⟩
theorem tw17615048517220608312:True:=⟨⟩
theorem tw17629990946945478482:True:=⟨⟩
theorem tw17633838350297301471:True:=⟨⟩
theorem tw17647533225465404868:True:=⟨⟩
theorem tw17652940635593229146:True:=⟨⟩
theorem tw1770280839601912908:True:=⟨⟩
theorem tw17780807861282455828:True:=⟨⟩
theorem tw17823210659418679440:True:=⟨⟩
theorem tw17844117589994039586:True:=⟨⟩
theorem tw17881440581452666455:True:=⟨⟩
theorem tw18083345694482557431:True:=⟨⟩
theorem tw18099857533010734655:True:=⟨⟩
theorem tw18148547829415314423:True:=⟨⟩
theorem tw18200676845264988563:True:=⟨⟩
theorem tw18220904897469207935:True:=⟨⟩
theorem tw18251136905915338806:True:=⟨⟩
theorem tw18280146011181451139:True:=⟨⟩
theorem tw1839073049252394722:True:=⟨⟩
theorem tw1965000457826345584:True:=⟨⟩
theorem tw197088424353733252:True:=⟨⟩
theorem tw2040813900355207550:True:=⟨⟩
theorem tw2070491884188217590:True:=⟨⟩
theorem tw208233463519707651:True:=⟨⟩
theorem tw2109599696249546630:True:=⟨⟩
theorem tw2194635206463003790:True:=⟨⟩
theorem tw2252170969200475499:True:=⟨⟩
theorem tw2354642882987088234:True:=⟨⟩
theorem tw2362610301568776742:True:=⟨⟩
theorem tw2372891151666778078:True:=⟨⟩
theorem tw2391837923644204262:True:=⟨⟩
theorem tw2400296051325879776:True:=⟨⟩
theorem tw2447311075957141870:True:=⟨⟩
theorem tw2551672919130393346:True:=⟨⟩
theorem tw2592531768389336676:True:=⟨⟩
theorem tw2627566370513297437:True:=⟨⟩
theorem tw2629860971404101248:True:=⟨⟩
theorem tw2686296066169033477:True:=⟨⟩
theorem tw2748317743101111729:True:=⟨⟩
theorem tw2778420049887721378:True:=⟨⟩
theorem tw2841329976590712548:True:=⟨⟩
theorem tw2867774090155588369:True:=⟨⟩
theorem tw2873570698144900323:True:=⟨⟩
theorem tw2892106591335270850:True:=⟨⟩
theorem tw2926892271326644314:True:=⟨⟩
theorem tw2933661650913984292:True:=⟨⟩
theorem tw2944551462555942248:True:=⟨⟩
theorem tw2970566713477525822:True:=⟨⟩
theorem tw2970734933863136641:True:=⟨⟩
theorem tw3045597634285061701:True:=⟨⟩
theorem tw3108278263166666337:True:=⟨⟩
theorem tw3139925393391414494:True:=⟨⟩
theorem tw3194220025935070060:True:=⟨⟩
theorem tw3238329756671980755:True:=⟨⟩
theorem tw3280693283615921522:True:=⟨⟩
theorem tw33106747487670026:True:=⟨⟩
theorem tw3324328012365390371:True:=⟨⟩
theorem tw3326549257284185790:True:=⟨⟩
theorem tw3442281615365995319:True:=⟨⟩
theorem tw3449801169253215019:True:=⟨⟩
theorem tw3457795795556295899:True:=⟨⟩
theorem tw3543508969276223716:True:=⟨⟩
theorem tw3552911502402159278:True:=⟨⟩
theorem tw3641933933771922050:True:=⟨⟩
theorem tw3666188994037697252:True:=⟨⟩
theorem tw369041910934395125:True:=⟨⟩
theorem tw3732179771000727749:True:=⟨⟩
theorem tw3751604996888161402:True:=⟨⟩
theorem tw3765655044975828930:True:=⟨⟩
theorem tw3770498782174872671:True:=⟨⟩
theorem tw3776502631127084591:True:=⟨⟩
theorem tw3785134482715710164:True:=⟨⟩
theorem tw3891550320537204188:True:=⟨⟩
theorem tw4039130158902741159:True:=⟨⟩
theorem tw4120953712077802224:True:=⟨⟩
theorem tw4126474977829025833:True:=⟨⟩
theorem tw4127307562779967806:True:=⟨⟩
theorem tw4135977018436741468:True:=⟨⟩
theorem tw4209983056498494065:True:=⟨⟩
theorem tw4241723060373809349:True:=⟨⟩
theorem tw4290091610026646101:True:=⟨⟩
theorem tw4368264095695208248:True:=⟨⟩
theorem tw4458836041318835955:True:=⟨⟩
theorem tw4470878676275919748:True:=⟨⟩
theorem tw450102290976807419:True:=⟨⟩
theorem tw4523709762023110539:True:=⟨⟩
theorem tw4790405025896001552:True:=⟨⟩
theorem tw4794776867376925955:True:=⟨⟩
theorem tw4810377110257887788:True:=⟨⟩
theorem tw4820682785350857124:True:=⟨⟩
theorem tw4862269185777535928:True:=⟨⟩
theorem tw4871006571246180439:True:=⟨⟩
theorem tw4960335769204101831:True:=⟨⟩
theorem tw5008737956494811820:True:=⟨⟩
theorem tw5027226304546875727:True:=⟨⟩
theorem tw5103082019828026283:True:=⟨⟩
theorem tw5142556005432150462:True:=⟨⟩
theorem tw5260421071253186758:True:=⟨⟩
theorem tw526856517466296794:True:=⟨⟩
theorem tw5272936923876805921:True:=⟨⟩
theorem tw5281000122675284238:True:=⟨⟩
theorem tw5374526166469876081:True:=⟨⟩
theorem tw5386415164613485745:True:=⟨⟩
theorem tw5414333356127763542:True:=⟨⟩
theorem tw5458364619246529283:True:=⟨⟩
theorem tw548234995844299410:True:=⟨⟩
theorem tw5486397884454206080:True:=⟨⟩
theorem tw548901073287593348:True:=⟨⟩
theorem tw5588083386107461403:True:=⟨⟩
theorem tw5595596643411838072:True:=⟨⟩
theorem tw5597764737795624992:True:=⟨⟩
theorem tw5623471622947604071:True:=⟨⟩
theorem tw5630178524658604518:True:=⟨⟩
theorem tw5633688486438548497:True:=⟨⟩
theorem tw5680188782405205346:True:=⟨⟩
theorem tw5723526159465818638:True:=⟨⟩
theorem tw5770793428380785879:True:=⟨⟩
theorem tw5815345567064312806:True:=⟨⟩
theorem tw5859352701933604532:True:=⟨⟩
theorem tw5919579383542897248:True:=⟨⟩
theorem tw5946955344868968629:True:=⟨⟩
theorem tw5950367813144615205:True:=⟨⟩
theorem tw5950700121726602732:True:=⟨⟩
theorem tw5952407723908814810:True:=⟨⟩
theorem tw5966700429710138896:True:=⟨⟩
theorem tw6006316799633139109:True:=⟨⟩
theorem tw600703321921909260:True:=⟨⟩
theorem tw6059209417597690074:True:=⟨⟩
theorem tw609981743009346612:True:=⟨⟩
theorem tw6163389338353510057:True:=⟨⟩
theorem tw616587908502263945:True:=⟨⟩
theorem tw6189910604796633144:True:=⟨⟩
theorem tw6263893448770001551:True:=⟨⟩
theorem tw6314947983828293853:True:=⟨⟩
theorem tw6326904594397921003:True:=⟨⟩
theorem tw6346624816816384050:True:=⟨⟩
theorem tw6413896723188204728:True:=⟨⟩
theorem tw6431181315268018024:True:=⟨⟩
theorem tw6452985055996543899:True:=⟨⟩
theorem tw6582102755028621444:True:=⟨⟩
theorem tw6616191606357900011:True:=⟨⟩
theorem tw6642896972314509765:True:=⟨⟩
theorem tw6653691549590019443:True:=⟨⟩
theorem tw6659631991812547914:True:=⟨⟩
theorem tw6682741030901530681:True:=⟨⟩
theorem tw6703177300308931079:True:=⟨⟩
theorem tw6713004331356030826:True:=⟨⟩
theorem tw6713350765829323130:True:=⟨⟩
theorem tw6744750066896113128:True:=⟨⟩
theorem tw6746900839112520113:True:=⟨⟩
theorem tw6850304193448778390:True:=⟨⟩
theorem tw6966247946651679664:True:=⟨⟩
theorem tw6992861115744642700:True:=⟨⟩
theorem tw7129384515372189442:True:=⟨⟩
theorem tw713827793798156117:True:=⟨⟩
theorem tw7186780590691620469:True:=⟨⟩
theorem tw7195774107303232581:True:=⟨⟩
theorem tw7208098131969050092:True:=⟨⟩
theorem tw721531999911379437:True:=⟨⟩
theorem tw7238538898068617636:True:=⟨⟩
theorem tw7241560360916791253:True:=⟨⟩
theorem tw7330668030540796338:True:=⟨⟩
theorem tw7362703571073089862:True:=⟨⟩
theorem tw7461279761353650003:True:=⟨⟩
theorem tw7463364602659731312:True:=⟨⟩
theorem tw7526758794822967465:True:=⟨⟩
theorem tw7565762860317140362:True:=⟨⟩
theorem tw7572740107976403476:True:=⟨⟩
theorem tw758336690217300687:True:=⟨⟩
theorem tw7595079615200845585:True:=⟨⟩
theorem tw7615423273914190403:True:=⟨⟩
theorem tw7649650656363005804:True:=⟨⟩
theorem tw7689831562135519703:True:=⟨⟩
theorem tw7715778689532312547:True:=⟨⟩
theorem tw7739171316377173683:True:=⟨⟩
theorem tw7766687146039255775:True:=⟨⟩
theorem tw7767401986868520400:True:=⟨⟩
theorem tw7797599019080633814:True:=⟨⟩
theorem tw7837271449183795926:True:=⟨⟩
theorem tw7862879601222644487:True:=⟨⟩
theorem tw789974264712396265:True:=⟨⟩
theorem tw7934404935370992239:True:=⟨⟩
theorem tw7967715605851970507:True:=⟨⟩
theorem tw8160922743204303948:True:=⟨⟩
theorem tw8254938782573523171:True:=⟨⟩
theorem tw8258548829078692723:True:=⟨⟩
theorem tw8281088658496281292:True:=⟨⟩
theorem tw838020568627936564:True:=⟨⟩
theorem tw8386441735560416184:True:=⟨⟩
theorem tw8399881330928854916:True:=⟨⟩
theorem tw8405902675516899129:True:=⟨⟩
theorem tw8426332841197548503:True:=⟨⟩
theorem tw8458758286968501012:True:=⟨⟩
theorem tw8519068173018820733:True:=⟨⟩
theorem tw8751709011035691463:True:=⟨⟩
theorem tw8789602554806659178:True:=⟨⟩
theorem tw8950511612463346698:True:=⟨⟩
theorem tw8955389900117509476:True:=⟨⟩
theorem tw8958131714455100358:True:=⟨⟩
theorem tw8971024071166107636:True:=⟨⟩
theorem tw8980946972638968947:True:=⟨⟩
theorem tw8983200454831730650:True:=⟨⟩
theorem tw8990843383264974526:True:=⟨⟩
theorem tw9049832424788242200:True:=⟨⟩
theorem tw9057319447517282491:True:=⟨⟩
theorem tw9081385321154562725:True:=⟨⟩
theorem tw9142574020752296379:True:=⟨⟩
theorem tw9197850641185279158:True:=⟨⟩
theorem tw9214296206292245536:True:=⟨⟩
theorem tw9245646257451619970:True:=⟨⟩
theorem tw9283213084007381081:True:=⟨⟩
theorem tw9291809590724137363:True:=⟨⟩
theorem tw9304596049463590675:True:=⟨⟩
theorem tw9306632142495547918:True:=⟨⟩
theorem tw9330130111084588027:True:=⟨⟩
theorem tw9356990265255099638:True:=⟨⟩
theorem tw9377646155264751899:True:=⟨⟩
theorem tw9392732677226734453:True:=⟨⟩
theorem tw9470640591104600352:True:=⟨⟩
theorem tw9505420918366754556:True:=⟨⟩
theorem tw953135173914919881:True:=⟨⟩
theorem tw9565813555679928353:True:=⟨⟩
theorem tw9583872475266951645:True:=⟨⟩
theorem tw9671462171948201517:True:=⟨⟩
theorem tw9683107611789733180:True:=⟨⟩
theorem tw971272048725892672:True:=⟨⟩
theorem tw9717889823437880763:True:=⟨⟩
theorem tw9841249872151230385:True:=⟨⟩
theorem tw9939462192226500751:True:=⟨⟩
theorem tw9970265281582839244:True:=⟨⟩
theorem tw9978339726307471710:True:=⟨⟩
theorem tw9981011898417462806:True:=⟨⟩
theorem tw9984612865627068204:True:=⟨⟩
end Mine.Internal.h
open PySem PySem.W PyProof.Rows
set_option maxRecDepth 100000 in
set_option maxHeartbeats 8000000 in
theorem Mine.Internal.h : PySem.Challenge.rw_pc0379_01.Holds := by
  w_on
  o_law
  k_head
  (case hw => w_witness2)
  intro w s₀ s₁ mg mb G Y fa o pm cd doc dV kV ho hd hcd hD hmg hg args vals as hpre hlay hrd hwl hlo
  have KX := km_in_of Y
  have KT := km_tabs_of Y 401 (.head _)
  have hfa := Mine.Internal.mg_fa KX G.T hmg (by kernel_rfl)
  clear hd hmg
  subst hfa
  obtain ⟨O, KB⟩ := Mine.Internal.wdok_of (prog := PySem.Challenge.rw_pc0379_01.row.prog) (w := w) KX G.T (by kernel_rfl) (fun c hc => match c, hc with
    | 0, _ => Mine.Internal.cls_of (by kernel_rfl) (by kernel_rfl) (by kernel_rfl)
    | 1, _ => Mine.Internal.cls_of (by kernel_rfl) (by kernel_rfl) (by kernel_rfl)
    | 2, _ => Mine.Internal.cls_of (by kernel_rfl) (by kernel_rfl) (by kernel_rfl)) KT
  have hcode : CodeHd s₁.heap 403 401 := codeHd_of_K KX (by kernel_rfl)
  clear G Y hD
  wrow_args hpre hlay hrd hwl hlo
  obtain ⟨vs, n, ga, gi⟩ := Mine.Internal.script_obj (by assumption) (by assumption) (by assumption)
  refine wpAny_mono (Mine.Internal.law_run (m := 12) O KT ?P ⟨by decide, by decide⟩ (Mine.Internal.e_law (by omega)) ga gi) (fun v s' hv => ?_) (fun _ _ z => z.elim)
  case P =>
    refine fun f c hc => Mine.Internal.AllC.get (P := Mine.Internal.FnK _) (l := Mine.Internal.codeL) ?_ hc
    unfold Mine.Internal.codeL
    repeat (first | exact .nil | refine .cons ⟨by kernel_rfl, by kernel_rfl, fun S g => by kernel_rfl⟩ ?_)
  obtain ⟨rfl, L⟩ := hv
  refine Mine.Internal.good_true (raisesW_false ?_) ?_ hg KT hcode L
  · wrow_none_raised
  · wrow_post
theorem PySem.Challenge.cw_pc0379_01_holds : PySem.Challenge.rw_pc0379_01.Holds :=
 Mine.Internal.h
