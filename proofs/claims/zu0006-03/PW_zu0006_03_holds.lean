import PyProof.Rows.All
import Wide.All
import OpenK.AllK
import Wide.FinOn
import KE.KItem
import KE.KRevSl
import KE.KDictSum
import ObjForm.ListNI
import Lean
import PySem.Challenge.RW_zu0006_03
set_option Elab.async false
set_option linter.all false
set_option warn.classDefReducibility false
set_option backward.match.sparseCases false
set_option genSizeOf false
set_option genInjectivity false
set_option bootstrap.genMatcherCode false
set_option maxRecDepth 100000
set_option tactic.hygienic false
noncomputable section
namespace Mine
open PySem PySem.W PySem.Calls PySem.Spec PyProof.Rows
theorem oA {A R:Prop}{P:Prop}(h:A∧R)(k:A→R→P):P:=k h.1 h.2
theorem oE {R:a→Prop}{P:Prop}(h:∃x,R x)(k:∀x,R x→P):P:=h.elim λx h1=>k x h1
theorem oAA {A B R:Prop}{P:Prop}(h:A∧B∧R)(k:A→B→R→P):P:=k h.1 h.2.1 h.2.2
theorem oAE {A:Prop}{R:a→Prop}{P:Prop}(h:A∧∃x,R x)(k:A→∀x,R x→P):P:=h.2.elim λx h1=>k h.1 x h1
theorem oEA {A R:a→Prop}{P:Prop}(h:∃x,A x∧R x)(k:∀x,A x→R x→P):P:=h.elim λx h1=>k x h1.1 h1.2
theorem oEE {R:a→b→Prop}{P:Prop}(h:∃x y,R x y)(k:∀x y,R x y→P):P:=h.elim λx h1=>h1.elim λy h2=>k x y h2
theorem oAAA {A B C R:Prop}{P:Prop}(h:A∧B∧C∧R)(k:A→B→C→R→P):P:=k h.1 h.2.1 h.2.2.1 h.2.2.2
theorem oAEA {A:Prop}{B R:a→Prop}{P:Prop}(h:A∧∃x,B x∧R x)(k:A→∀x,B x→R x→P):P:=h.2.elim λx h1=>k h.1 x h1.1 h1.2
theorem oAEE {A:Prop}{R:a→b→Prop}{P:Prop}(h:A∧∃x y,R x y)(k:A→∀x y,R x y→P):P:=h.2.elim λx h1=>h1.elim λy h2=>k h.1 x y h2
theorem Bk4 {A B R:a→Prop}{P:Prop}(h:∃x,A x∧B x∧R x)(k:∀x,A x→B x→R x→P):P:=h.elim λx h1=>k x h1.1 h1.2.1 h1.2.2
theorem oEEA {A R:a→b→Prop}{P:Prop}(h:∃x y,A x y∧R x y)(k:∀x y,A x y→R x y→P):P:=h.elim λx h1=>h1.elim λy h2=>k x y h2.1 h2.2
theorem oEEE {R:a→b→c→Prop}{P:Prop}(h:∃x y z,R x y z)(k:∀x y z,R x y z→P):P:=h.elim λx h1=>h1.elim λy h2=>h2.elim λz h3=>k x y z h3
theorem oEAAA {A B C R:a→Prop}{P:Prop}(h:∃x,A x∧B x∧C x∧R x)(k:∀x,A x→B x→C x→R x→P):P:=h.elim λx h1=>k x h1.1 h1.2.1 h1.2.2.1 h1.2.2.2
theorem By0 {A B:a→Prop}{R:a→b→Prop}{P:Prop}(h:∃x,A x∧B x∧∃y,R x y)(k:∀x,A x→B x→∀y,R x y→P):P:=h.elim λx h1=>h1.2.2.elim λy h2=>k x h1.1 h1.2.1 y h2
theorem Ae3 {A B R:a→b→Prop}{P:Prop}(h:∃x y,A x y∧B x y∧R x y)(k:∀x y,A x y→B x y→R x y→P):P:=h.elim λx h1=>h1.elim λy h2=>k x y h2.1 h2.2.1 h2.2.2
theorem Ai5 {A R:a→b→c→Prop}{P:Prop}(h:∃x y z,A x y z∧R x y z)(k:∀x y z,A x y z→R x y z→P):P:=h.elim λx h1=>h1.elim λy h2=>h2.elim λz h3=>k x y z h3.1 h3.2
theorem oAAAAA {A B C D E R:Prop}{P:Prop}(h:A∧B∧C∧D∧E∧R)(k:A→B→C→D→E→R→P):P:=k h.1 h.2.1 h.2.2.1 h.2.2.2.1 h.2.2.2.2.1 h.2.2.2.2.2
theorem oEAAEA {A B:a→Prop}{C R:a→b→Prop}{P:Prop}(h:∃x,A x∧B x∧∃y,C x y∧R x y)(k:∀x,A x→B x→∀y,C x y→R x y→P):P:=h.elim λx h1=>h1.2.2.elim λy h2=>k x h1.1 h1.2.1 y h2.1 h2.2
theorem oEAEAA {A:a→Prop}{B C R:a→b→Prop}{P:Prop}(h:∃x,A x∧∃y,B x y∧C x y∧R x y)(k:∀x,A x→∀y,B x y→C x y→R x y→P):P:=h.elim λx h1=>h1.2.elim λy h2=>k x h1.1 y h2.1 h2.2.1 h2.2.2
theorem oEEAAA {A B C R:a→b→Prop}{P:Prop}(h:∃x y,A x y∧B x y∧C x y∧R x y)(k:∀x y,A x y→B x y→C x y→R x y→P):P:=h.elim λx h1=>h1.elim λy h2=>k x y h2.1 h2.2.1 h2.2.2.1 h2.2.2.2
theorem Az1 {A B R:a→b→c→Prop}{P:Prop}(h:∃x y z,A x y z∧B x y z∧R x y z)(k:∀x y z,A x y z→B x y z→R x y z→P):P:=h.elim λx h1=>h1.elim λy h2=>h2.elim λz h3=>k x y z h3.1 h3.2.1 h3.2.2
theorem Ch5 {A:Prop}{B C R:a→b→c→Prop}{P:Prop}(h:A∧∃x y z,B x y z∧C x y z∧R x y z)(k:A→∀x y z,B x y z→C x y z→R x y z→P):P:=h.2.elim λx h1=>h1.elim λy h2=>h2.elim λz h3=>k h.1 x y z h3.1 h3.2.1 h3.2.2
theorem Ch3 {A B:a→Prop}{C R:a→b→c→Prop}{P:Prop}(h:∃x,A x∧B x∧∃y z,C x y z∧R x y z)(k:∀x,A x→B x→∀y z,C x y z→R x y z→P):P:=h.elim λx h1=>h1.2.2.elim λy h2=>h2.elim λz h3=>k x h1.1 h1.2.1 y z h3.1 h3.2
theorem Dq7 {A B C R:a→b→c→Prop}{P:Prop}(h:∃x y z,A x y z∧B x y z∧C x y z∧R x y z)(k:∀x y z,A x y z→B x y z→C x y z→R x y z→P):P:=h.elim λx h1=>h1.elim λy h2=>h2.elim λz h3=>k x y z h3.1 h3.2.1 h3.2.2.1 h3.2.2.2
theorem Aq7 {A B R:a→b→c→d→Prop}{P:Prop}(h:∃x y z u,A x y z u∧B x y z u∧R x y z u)(k:∀x y z u,A x y z u→B x y z u→R x y z u→P):P:=h.elim λx h1=>h1.elim λy h2=>h2.elim λz h3=>h3.elim λu h4=>k x y z u h4.1 h4.2.1 h4.2.2
theorem Bc2 {A B C D R:a→b→c→Prop}{P:Prop}(h:∃x y z,A x y z∧B x y z∧C x y z∧D x y z∧R x y z)(k:∀x y z,A x y z→B x y z→C x y z→D x y z→R x y z→P):P:=h.elim λx h1=>h1.elim λy h2=>h2.elim λz h3=>k x y z h3.1 h3.2.1 h3.2.2.1 h3.2.2.2.1 h3.2.2.2.2
theorem Cw6 {A B C R:a→b→c→d→Prop}{P:Prop}(h:∃x y z u,A x y z u∧B x y z u∧C x y z u∧R x y z u)(k:∀x y z u,A x y z u→B x y z u→C x y z u→R x y z u→P):P:=h.elim λx h1=>h1.elim λy h2=>h2.elim λz h3=>h3.elim λu h4=>k x y z u h4.1 h4.2.1 h4.2.2.1 h4.2.2.2
theorem Ch2 {A B C:a→b→Prop}{D E R:a→b→c→Prop}{P:Prop}(h:∃x y,A x y∧B x y∧C x y∧∃z,D x y z∧E x y z∧R x y z)(k:∀x y,A x y→B x y→C x y→∀z,D x y z→E x y z→R x y z→P):P:=h.elim λx h1=>h1.elim λy h2=>h2.2.2.2.elim λz h3=>k x y h2.1 h2.2.1 h2.2.2.1 z h3.1 h3.2.1 h3.2.2
theorem Bg6 {A B C D E R:a→b→c→Prop}{P:Prop}(h:∃x y z,A x y z∧B x y z∧C x y z∧D x y z∧E x y z∧R x y z)(k:∀x y z,A x y z→B x y z→C x y z→D x y z→E x y z→R x y z→P):P:=h.elim λx h1=>h1.elim λy h2=>h2.elim λz h3=>k x y z h3.1 h3.2.1 h3.2.2.1 h3.2.2.2.1 h3.2.2.2.2.1 h3.2.2.2.2.2
theorem Bx9 {A B C R:a→b→c→d→e→f→Prop}{P:Prop}(h:∃x y z u v w,A x y z u v w∧B x y z u v w∧C x y z u v w∧R x y z u v w)(k:∀x y z u v w,A x y z u v w→B x y z u v w→C x y z u v w→R x y z u v w→P):P:=h.elim λx h1=>h1.elim λy h2=>h2.elim λz h3=>h3.elim λu h4=>h4.elim λv h5=>h5.elim λw h6=>k x y z u v w h6.1 h6.2.1 h6.2.2.1 h6.2.2.2
theorem Bg7 {A B C D E F G H I R:a→b→Prop}{P:Prop}(h:∃x y,A x y∧B x y∧C x y∧D x y∧E x y∧F x y∧G x y∧H x y∧I x y∧R x y)(k:∀x y,A x y→B x y→C x y→D x y→E x y→F x y→G x y→H x y→I x y→R x y→P):P:=h.elim λx h1=>h1.elim λy h2=>k x y h2.1 h2.2.1 h2.2.2.1 h2.2.2.2.1 h2.2.2.2.2.1 h2.2.2.2.2.2.1 h2.2.2.2.2.2.2.1 h2.2.2.2.2.2.2.2.1 h2.2.2.2.2.2.2.2.2.1 h2.2.2.2.2.2.2.2.2.2
theorem Ak1 {A B C D R:a→b→c→d→e→f→g→Prop}{P:Prop}(h:∃x y z u v w s,A x y z u v w s∧B x y z u v w s∧C x y z u v w s∧D x y z u v w s∧R x y z u v w s)(k:∀x y z u v w s,A x y z u v w s→B x y z u v w s→C x y z u v w s→D x y z u v w s→R x y z u v w s→P):P:=h.elim λx h1=>h1.elim λy h2=>h2.elim λz h3=>h3.elim λu h4=>h4.elim λv h5=>h5.elim λw h6=>h6.elim λs h7=>k x y z u v w s h7.1 h7.2.1 h7.2.2.1 h7.2.2.2.1 h7.2.2.2.2
@[elab_as_elim] theorem ltE {C:Nat→Prop}{n t:Nat}(h:t<n+1)(k:C n)(r:t<n→C t):C t:=
 (Nat.lt_succ_iff_lt_or_eq.mp h).elim r λe=>e▸k
@[elab_as_elim] theorem n4E {C:Nat→Prop}{t:Nat}(h:t<4)(k0:C 0)(k1:C 1)(k2:C 2)(k3:C 3):C t:=
 ltE h k3 λh=>ltE h k2 λh=>ltE h k1 λh=>ltE h k0 λh=>absurd h (Nat.not_lt_zero _)
@[elab_as_elim] theorem n7E {C:Nat→Prop}{t:Nat}(h:t<7)(k0:C 0)(k1:C 1)(k2:C 2)(k3:C 3)(k4:C 4)(k5:C 5)(k6:C 6):C t:=
 ltE h k6 λh=>ltE h k5 λh=>ltE h k4 λh=>n4E h k0 k1 k2 k3
@[elab_as_elim] theorem n3E {C:Nat→Prop}{t:Nat}(h:0<t∧t<4)(k1:C 1)(k2:C 2)(k3:C 3):C t:=
 ltE h.2 k3 λq=>ltE q k2 λq=>ltE q k1 λq=>absurd h.1 (Nat.not_lt.mpr (Nat.le_of_lt_succ q))
@[elab_as_elim] theorem Bh9 {C:Fin 3→Prop}(q:Fin 3)(k0:C 0)(k1:C 1)(k2:C 2):C q:=
 Fin.cases k0 (λi=>Fin.cases k1 (λi=>Fin.cases k2 (λi=>i.elim0) i) i) q
@[elab_as_elim] theorem l4E {α:Type}{C:List α→Prop}{l:List α}(h:l≠[])(h2:l.length≤4)(k1:∀a,C [a])(k2:∀a b,C [a,b])(k3:∀a b c,C [a,b,c])(k4:∀a b c d,C [a,b,c,d]):C l:=by
 cases l with
 | nil=>exact absurd rfl h
 | cons a l=>cases l with
  | nil=>exact k1 a
  | cons b l=>cases l with
   | nil=>exact k2 a b
   | cons c l=>cases l with
    | nil=>exact k3 a b c
    | cons d l=>cases l with
     | nil=>exact k4 a b c d
     | cons e l=>exact absurd (Nat.le_of_succ_le_succ (Nat.le_of_succ_le_succ (Nat.le_of_succ_le_succ (Nat.le_of_succ_le_succ h2)))) (Nat.not_succ_le_zero _)
@[elab_as_elim] theorem l3E {α:Type}{C:List α→Prop}{l:List α}(h:1≤l.length∧l.length≤3)(k1:∀a,C [a])(k2:∀a b,C [a,b])(k3:∀a b c,C [a,b,c]):C l:=by
 revert h
 by_cases q:l≠[]∧l.length≤4
 ·exact l4E q.1 q.2 (λa u0=>k1 a) (λa b u0=>k2 a b) (λa b c u0=>k3 a b c) λa b c d h=>absurd h.2 (Nat.not_le.mpr (Nat.lt_succ_self 3))
 ·exact λh=>absurd ⟨λe=>absurd h.1 (e▸Nat.not_succ_le_zero 0),Nat.le_succ_of_le h.2⟩ q
section
noncomputable def Bk5:List Nat→List Nat→Bool
 | [],[]=>true
 | a::x,b::y=>match Nat.beq a b with
  | true=>Bk5 x y
  | false=>false
 | _,_=>false
def seq (a b:Str):Bool:=Bk5 a.cps.toList b.cps.toList
inductive TY where
 | list | tuple | int | range | zip | enumerate | dict | frozenset | str
noncomputable def TY.name:TY→String
 | .list=>"list" | .tuple=>"tuple" | .int=>"int" | .range=>"range" | .zip=>"zip" | .enumerate=>"enumerate"
 | .dict=>"dict" | .frozenset=>"frozenset" | .str=>"str"
inductive BI where
 | len | isinstance | max | sorted
noncomputable def BI.name:BI→String
 | .len=>"len" | .isinstance=>"isinstance" | .max=>"max" | .sorted=>"sorted"
inductive MK where
 | s (x:Str)
 | i (n:Int)
 deriving DecidableEq
inductive SV where
 | none
 | bool (b:Bool)
 | int (i:Int)
 | str (s:Str)
 | tup (l:List SV)
 | loc (k:Nat)
 | glb (a:Addr)
 | typ (n:TY)
 | blt (id:BI)
 | val (v:Value)
 | any
 | fset (l:List Int)
 | rng (n:Int)
 | key (k:MK)
 deriving Inhabited
inductive A0 where
 | list (r:List SV) (n:Nat)
 | dict (es:List (SV×SV))
 | idict (m:MK→Option SV) (n:Nat)
 | lst0 (x:SV) (l n:Nat) (ob:Obj)
 | inst (C:Addr) (d:Nat)
 | ns (es:List (Str×SV))
 | cell (v:Option SV)
 | tab (P:Addr)
 deriving Inhabited
inductive A8 where
 | next | brk | cont
 | ret (v:SV)
 deriving Inhabited
inductive Orc where
 | val (v:SV)
 | call (v:SV) (g:List A0→List A0)
 | loop (line:Nat) (f:A8) (g:List A0→List A0) (l:List (Str×SV)→List (Str×SV))
 | item (v:SV)
 | fin
 | turn (line:Nat)
 deriving Inhabited
structure St where
 hp:List A0
 lc:List (Str×SV)
 orc:List Orc
 deriving Inhabited
abbrev X (α:Type):=St→Option (α×St×List Prop)
namespace X
def ret {α:Type}(a:α):X α:=λs=>some (a,s,[])
def bnd {α β:Type}(x:X α)(f:α→X β):X β:=λs=>
 match x s with
 | none=>none
 | some (a,s1,o1)=>match f a s1 with
  | none=>none
  | some (b,s2,o2)=>some (b,s2,o1++o2)
def no {α:Type}:X α:=λu0=>none
def get:X St:=λs=>some (s,s,[])
def put (s:St):X Unit:=λu0=>some ((),s,[])
def lift {α:Type}:Option α→X α
 | some a=>ret a
 | none=>no
end X
open X
structure EC where
 names:List (Str×NameKind)
 cells:List (Str×Nat)
 lam:Option (Nat×Addr):=none
 deriving Inhabited
structure Fn where
 params:List Str
 dflt:List SV
 body:List Stmt
 scope:Scope
 lam:Option (Nat×Addr):=none
 deriving Inhabited
structure Top where
 glob:Str→Option SV
 blt:Str→Option SV
 fn:Addr→Option Fn
 cls:Addr→Bool
 meth:Addr→Str→Option Addr
 free:Addr→Str→Bool
 sum:Addr→Bool
 tab:Addr→Option (List Str)
 code:Addr→Option Addr
 asks:Bool
 deep:Bool
noncomputable def look {α:Type}:List (Str×α)→Str→Option α
 | [],_=>none
 | p::r,n=>match seq p.1 n with
  | true=>some p.2
  | false=>look r n
noncomputable def put1 {α:Type}:List (Str×α)→Str→α→List (Str×α)
 | [],n,v=>[(n,v)]
 | p::r,n,v=>match seq p.1 n with
  | true=>(p.1,v)::r
  | false=>p::put1 r n v
noncomputable def at? {α:Type}:List α→Nat→Option α
 | [],_=>none
 | a::l,n=>match n with
  | 0=>some a
  | n+1=>at? l n
noncomputable def set {α:Type}:List α→Nat→α→List α
 | [],_,_=>[]
 | a::l,n,b=>match n with
  | 0=>b::l
  | n+1=>a::set l n b
noncomputable def Cw3:List Nat→Bool
 | []=>true
 | c::r=>match Nat.blt c 1114112 with
  | true=>Cw3 r
  | false=>false
def Bm1 (s:Str):Bool:=Cw3 s.cps.toList
mutual
noncomputable def Au7:Nat→SV→Bool
 | _,.none=>true
 | _,.bool _=>true
 | _,.int _=>true
 | _,.str s=>Bm1 s
 | n,.tup l=>match n with
  | 0=>false
  | n+1=>svOks n l
 | _,_=>false
noncomputable def svOks:Nat→List SV→Bool
 | _,[]=>true
 | n,a::l=>match Au7 n a with
  | true=>svOks n l
  | false=>false
end
mutual
noncomputable def veq:SV→SV→Bool
 | .none,.none=>true
 | .bool a,.bool b=>a==b
 | .int a,.int b=>decide (a=b)
 | .bool a,.int b=>decide ((if a then 1 else 0)=b)
 | .int a,.bool b=>decide (a=(if b then 1 else 0))
 | .str a,.str b=>seq a b
 | .tup a,.tup b=>veqs a b
 | _,_=>false
noncomputable def veqs:List SV→List SV→Bool
 | [],[]=>true
 | a::x,b::y=>match veq a b with
  | true=>veqs x y
  | false=>false
 | _,_=>false
end
noncomputable def Bh6:SV→Bool
 | .str _=>true
 | .int _=>true
 | _=>false
def keq:SV→SV→Bool
 | .str a,.str b=>seq a b
 | .int a,.int b=>decide (a=b)
 | _,_=>false
noncomputable def Ak5:List (SV×SV)→SV→Option SV
 | [],_=>none
 | p::r,k=>match keq p.1 k with
  | true=>some p.2
  | false=>Ak5 r k
noncomputable def Bk6:List (SV×SV)→SV→SV→List (SV×SV)
 | [],k,v=>[(k,v)]
 | p::r,k,v=>match keq p.1 k with
  | true=>(p.1,v)::r
  | false=>p::Bk6 r k v
noncomputable def ddel:List (SV×SV)→SV→List (SV×SV)
 | [],_=>[]
 | p::r,k=>match keq p.1 k with
  | true=>r
  | false=>p::ddel r k
def obj (k:Nat):X A0:=λs=>match at? s.hp k with
 | some o=>some (o,s,[])
 | none=>none
noncomputable def new (o:A0):X SV:=λs=>some (.loc s.hp.length,{s with hp:=s.hp++[o]},[])
def upd (k:Nat)(o:A0):X Unit:=λs=>some ((),{s with hp:=set s.hp k o},[])
noncomputable def small (n:Nat):Bool:=Nat.ble n 10000000
def fits {α:Type}(n:Nat)(x:X α):X α:=match small n with
 | true=>x
 | false=>no
def newL (r:List SV)(n:Nat):X SV:=fits n (new (.list r n))
noncomputable def ask:X SV:=λs=>match s.orc with
 | .val a::r=>some (a,{s with orc:=r},[])
 | _=>none
noncomputable def owe (p:Prop):X Unit:=λs=>some ((),s,[p])
def idxN (k n r:Nat):Option Nat:=match small k with
 | true=>match Nat.blt k n with
  | true=>some r
  | false=>none
 | false=>none
def idx (i:Int)(n:Nat):Option Nat:=match i with
 | .ofNat k=>idxN k n k
 | .negSucc k=>idxN k n (n-(k+1))
noncomputable def Af3:SV→Option Int
 | .int i=>some i
 | _=>Option.none
def Aj1:SV→Option Nat
 | .loc k=>some k
 | _=>Option.none
noncomputable def Bp3:SV→Option Str
 | .str s=>some s
 | _=>Option.none
noncomputable def Cp8:SV→Option Bool
 | .bool b=>some b
 | _=>Option.none
noncomputable def Dz5:SV→Option TY
 | .typ t=>some t
 | _=>Option.none
noncomputable def Ar8:SV→Option (List SV)
 | .tup l=>some l
 | _=>Option.none
noncomputable def natI:Int→Option Nat
 | .ofNat n=>some n
 | _=>none
def At3 (v:SV):Option Nat:=(Af3 v).bind natI
def Ad8:SV→Bool
 | .none=>true
 | _=>false
noncomputable def Ae9 {α:Type}:List α→Bool
 | []=>true
 | _::_=>false
noncomputable def guard {α:Type}(b:Bool)(x:X α):X α:=match b with
 | true=>x
 | false=>no
def Ae4 (k:Nat):X (List SV×Nat):=(obj k).bnd λo=>match o with
 | .list r n=>ret (r.reverse,n)
 | _=>no
def Bx4 (k:Nat):X (List SV×Nat):=(obj k).bnd λo=>match o with
 | .list r n=>ret (r,n)
 | _=>no
def Ck2 (k:Nat):X (Addr×Nat):=(obj k).bnd λo=>match o with
 | .inst C d=>ret (C,d)
 | _=>no
def nsOf (k:Nat):X (List (Str×SV)):=(obj k).bnd λo=>match o with
 | .ns es=>ret es
 | _=>no
def Di8 (k:Nat):X (List (SV×SV)):=(obj k).bnd λo=>match o with
 | .dict es=>ret es
 | _=>no
inductive SIt where
 | tup (l:List SV)
 | lst (k:Nat) (i:Nat)
 | rng (i n:Int)
 | zipT (l:List SV) (k:Nat) (i:Nat)
 | zipL (j k:Nat) (i:Nat)
 | keys
def Cz4:SV→X SIt
 | .tup l=>ret (.tup l)
 | .loc k=>(obj k).bnd λo=>match o with
  | .list _ _=>ret (.lst k 0)
  | .dict es=>guard (Ae9 es) (ret .keys)
  | _=>no
 | .rng n=>guard (decide (-(2^62)<n)) <|guard (decide (n<2^62)) <|ret (.rng 0 n)
 | _=>no
def zip0 (x y:SV):X SIt:=match x with
 | .tup l=>(lift (Aj1 y)).bnd λk=>(Ae4 k).bnd λu0=>ret (.zipT l k 0)
 | .loc j=>(lift (Aj1 y)).bnd λk=>(Ae4 j).bnd λu0=>(Ae4 k).bnd λu0=>ret (.zipL j k 0)
 | _=>no
def Dr1 (l:List SV)(k i:Nat):X (Option (SV×SIt)):=λs=>match s.orc with
 | .item a::q=>some (some (a,.lst k (i+1)),{s with orc:=q},[l[i]?=some a])
 | .fin::q=>some (none,{s with orc:=q},[l[i]?=none])
 | _=>some ((at? l i).map λa=>(a,.lst k (i+1)),s,[])
def Ay9 (a:SV)(l:List SV)(i:Nat):Option SV:=(at? l i).map λb=>.tup [a,b]
def Bm4:SIt→X (Option (SV×SIt))
 | .tup l=>match l with
  | []=>ret none
  | a::l=>ret (some (a,.tup l))
 | .lst k i=>(Ae4 k).bnd λq=>Dr1 q.1 k i
 | .rng i n=>match decide (i<n) with
  | true=>ret (some (.int i,.rng (i+1) n))
  | false=>ret none
 | .zipT l k i=>match l with
  | []=>(Ae4 k).bnd λu0=>ret none
  | a::l=>(Ae4 k).bnd λq=>ret ((Ay9 a q.1 i).map λv=>(v,.zipT l k (i+1)))
 | .zipL j k i=>(Ae4 j).bnd λp=>(Ae4 k).bnd λq=>ret (((at? p.1 i).bind λa=>Ay9 a q.1 i).map λv=>(v,.zipL j k (i+1)))
 | .keys=>ret none
structure Rec where
 ev:EC→Expr→X SV
 evs:EC→List Expr→X (List SV)
 tr:EC→Expr→X Bool
 asg:EC→Expr→SV→X Unit
 ex:EC→Stmt→X A8
 exs:EC→List Stmt→X A8
 call:SV→List SV→X SV
 forL:EC→Expr→SIt→List Stmt→X A8
 whl:EC→Expr→List Stmt→X A8
 cmpL:EC→Str→Expr→List Expr→SIt→List SV→X (List SV)
noncomputable def Ac1:Expr→Bool
 | .Starred _ _=>false
 | _=>true
def Ai7 (c:EC)(line:Nat):Expr→Option Str
 | .Name id p=>match look c.names id,Nat.beq p.line line with
  | some .local,true=>some id
  | _,_=>none
 | _=>none
noncomputable def Af2 (c:EC)(line:Nat):List Expr→Option (List Str)
 | []=>some []
 | t::ts=>match Ai7 c line t,Af2 c line ts with
  | some n,some l=>some (n::l)
  | _,_=>none
def Bb5:Expr→Bool
 | .Name id _=>!(seq id "__debug__")
 | .Call _ _ _ _=>true
 | .Attribute _ _ _=>true
 | .List _ _=>true
 | .Dict _ _ _=>true
 | .ListComp _ _ _ _=>true
 | .IfExp _ _ _ _=>true
 | .Compare _ _ _ _=>true
 | .Subscript (.Name id _) _ _=>!(seq id "__debug__")
 | .Subscript (.Attribute _ _ _) _ _=>true
 | .Subscript (.Call _ _ _ _) _ _=>true
 | _=>false
def two3 {α β:Type}:List α→List β→Bool
 | [],_=>false
 | _::a,b=>match b with
  | []=>false
  | _::b=>match a with
   | []=>false
   | _::a=>match b with
    | []=>false
    | _::b=>match a with
     | []=>Ae9 b
     | _::a=>match b with
      | []=>false
      | _::b=>match Ae9 a with
       | true=>Ae9 b
       | false=>false
noncomputable def memS (n:Str):List Str→Bool
 | []=>false
 | m::l=>match seq n m with
  | true=>true
  | false=>memS n l
noncomputable def Bj5:List Str→Bool
 | []=>true
 | n::l=>match memS n l with
  | true=>false
  | false=>Bj5 l
noncomputable def Cy3:List Expr→Nat
 | []=>0
 | a::_=>a.pos.line
def Dn2 (c:EC)(ts vs:List Expr):Option (Option (List Str)):=match vs.all Ac1,vs.any Bb5,two3 ts vs with
 | true,true,true=>match Af2 c (Cy3 ts) ts with
  | some ns=>match Bj5 ns with
   | true=>some (some ns)
   | false=>none
  | none=>some none
 | _,_,_=>none
def Bf3 (c:EC)(t e:Expr):Option (Option (List Str)):=match t with
 | .Tuple ts _ _=>match e with
  | .Tuple vs _ _=>Dn2 c ts vs
  | .List _ _=>some none
  | .Name _ _=>some none
  | .Call _ _ _ _=>some none
  | .Subscript _ _ _=>some none
  | .Attribute _ _ _=>some none
  | _=>none
 | .List _ _=>none
 | _=>some none
noncomputable def Am5:Expr→Bool
 | .ListComp _ _ _ _=>true
 | .SetComp _ _ _ _=>true
 | .DictComp _ _ _ _ _=>true
 | _=>false
def locAt (n:Str):X SV:=λs=>lift (look s.lc n) s
def cellAt (k:Nat):X SV:=(obj k).bnd λo=>match o with
 | .cell v=>lift v
 | _=>no
noncomputable def Bt6 (G:Top)(n:Str):Option SV:=match G.glob n with
 | some v=>some v
 | none=>G.blt n
def Cy0 (G:Top)(c:EC)(n:Str):X SV:=(lift (look c.names n)).bnd λk=>match k with
 | .local=>locAt n
 | .cell=>(lift (look c.cells n)).bnd cellAt
 | .globalImplicit=>lift (Bt6 G n)
 | _=>no
def putAt (n:Str)(v:SV):X Unit:=λs=>some ((),{s with lc:=put1 s.lc n v},[])
def Dp3 (k:Nat)(v:SV):X Unit:=(obj k).bnd λo=>match o with
 | .cell _=>upd k (.cell (some v))
 | _=>no
def Cd6 (c:EC)(n:Str)(v:SV):X Unit:=(lift (look c.names n)).bnd λk=>match k with
 | .local=>putAt n v
 | .cell=>(lift (look c.cells n)).bnd λk=>Dp3 k v
 | _=>no
def Ah4 (G:Top)(c:EC)(n:Str):Option TY:=match look c.names n with
 | some .globalImplicit=>match G.glob n with
  | some _=>none
  | none=>match G.blt n with
   | some (.typ t)=>some t
   | _=>none
 | _=>none
noncomputable def Ax1:SV→X Bool
 | .none=>ret false
 | .bool b=>ret b
 | .int i=>ret (decide (i≠0))
 | _=>no
noncomputable def Bg5:SV→Option SV
 | .val _=>none
 | .any=>none
 | .blt _=>none
 | v=>some v
def geta (G:Top)(o:SV)(n:Str):X SV:=(lift (Aj1 o)).bnd λk=>(Ck2 k).bnd λq=>guard (G.free q.1 n) <|(nsOf q.2).bnd λes=>lift ((look es n).bind Bg5)
def seta (G:Top)(o:SV)(n:Str)(v:SV):X Unit:=(lift (Aj1 o)).bnd λk=>(Ck2 k).bnd λq=>guard (G.free q.1 n) <|(nsOf q.2).bnd λes=>fits es.length (upd q.2 (.ns (put1 es n v)))
noncomputable def mkOf:SV→Option MK
 | .str s=>some (.s s)
 | .int i=>some (.i i)
 | .key k=>some k
 | _=>none
def Dk5 (v:SV):Bool:=match At3 v with
 | some n=>match n with
  | 0=>true
  | _+1=>false
 | none=>false
def geti (o i:SV):X SV:=match o with
 | .tup l=>(lift (Af3 i)).bnd λj=>lift ((idx j l.length).bind (at? l))
 | .loc k=>(obj k).bnd λo=>match o with
  | .list r _=>(lift (Af3 i)).bnd λj=>lift ((idx j r.length).bind (at? r.reverse))
  | .dict es=>guard (Bh6 i) (lift (Ak5 es i))
  | .idict m _=>(lift (mkOf i)).bnd λk=>ask.bnd λa=>(owe (m k=some a)).bnd λu0=>ret a
  | .lst0 x l _ _=>guard (Nat.blt 0 l) <|guard (Dk5 i) <|ret x
  | _=>no
 | _=>no
def seti (o i v:SV):X Unit:=(lift (Aj1 o)).bnd λk=>(obj k).bnd λo=>match o with
 | .list r n=>(lift (At3 i)).bnd λi=>(lift (idx (.ofNat i) r.length)).bnd λj=>upd k (.list (set r.reverse j v).reverse n)
 | .dict es=>guard (Bh6 i) <|fits es.length (upd k (.dict (Bk6 es i v)))
 | .idict m n=>(lift (mkOf i)).bnd λq=>fits n (upd k (.idict (λj=>if j=q then some v else m j) (n+1)))
 | _=>no
def cut1 (h:SV)(l:List SV):Option (List SV):=match Ad8 h with
 | true=>some l
 | false=>(At3 h).map l.take
def cut0 (a:SV)(l:List SV):Option (List SV):=match Ad8 a with
 | true=>some l
 | false=>(At3 a).map l.drop
def Ci0 (v:SV):Bool:=match Af3 v with
 | some i=>decide (i = -1)
 | none=>false
def slice (o:SV)(lo hi st:SV):X SV:=match o with
 | .tup l=>guard (Ad8 st) <|fits l.length (lift (((cut1 hi l).bind (cut0 lo)).map .tup))
 | .loc k=>guard (Ci0 st) <|guard (Ad8 lo) <|guard (Ad8 hi) <|(Ae4 k).bnd λq=>newL q.1 q.2
 | _=>no
def Bh7 (a b:SV)(f:Int→Int→X Int):X SV:=(lift (Af3 a)).bnd λi=>(lift (Af3 b)).bnd λj=>(f i j).bnd λr=>ret (.int r)
def addS (a b:SV):X SV:=match a with
 | .tup x=>(lift (Ar8 b)).bnd λy=>fits (x.length+y.length) (ret (.tup (x++y)))
 | .loc j=>(lift (Aj1 b)).bnd λk=>(Bx4 j).bnd λx=>(Bx4 k).bnd λy=>newL (y.1++x.1) (x.2+y.2)
 | _=>Bh7 a b λi j=>ret (i+j)
noncomputable def one {α:Type}:List α→Option α
 | []=>none
 | a::l=>match l with
  | []=>some a
  | _::_=>none
def mulS (a b:SV):X SV:=match a with
 | .tup x=>(lift (one x)).bnd λx=>(lift (At3 b)).bnd λn=>guard (Nat.ble 2 n) <|fits n (ret (.tup (List.replicate n x)))
 | .loc j=>(lift (At3 b)).bnd λn=>(Ae4 j).bnd λq=>(lift (one q.1)).bnd λx=>newL (List.replicate n x) n
 | _=>Bh7 a b λi j=>(owe (i.natAbs<2^64∨j.natAbs<2^64)).bnd λu0=>ret (i*j)
def De2 (op:Operator)(a b:SV):X SV:=match op with
 | .Add=>addS a b
 | .Sub=>Bh7 a b λi j=>ret (i-j)
 | .Mult=>mulS a b
 | .Mod=>Bh7 a b λi j=>(owe (j≠0)).bnd λu0=>ret (Int.fmod i j)
 | .FloorDiv=>Bh7 a b λi j=>(owe (j≠0∧j.natAbs<1073741824)).bnd λu0=>ret (Int.fdiv i j)
 | _=>no
noncomputable def inl (a:SV):List SV→Bool
 | []=>false
 | b::l=>match veq b a with
  | true=>true
  | false=>inl a l
def Bq2 (a b:SV):Option Bool:=(Ar8 a).bind λl=>(Ar8 b).bind λm=>match Ae9 m with
 | true=>some (Ae9 l)
 | false=>none
def Dp9 (a b:SV):X Bool:=guard (Au7 50 a) <|guard (Au7 50 b) <|ret (veq a b)
def Co1 (a b:SV):X Bool:=match Aj1 a with
 | some j=>(lift (Aj1 b)).bnd λk=>(Bx4 j).bnd λx=>(Bx4 k).bnd λy=>guard (Ae9 x.1||Ae9 y.1) <|ret (Ae9 x.1&&Ae9 y.1)
 | none=>match Bq2 a b with
  | some r=>ret r
  | none=>Dp9 a b
def isin (G:Top)(a b:SV):X Bool:=match b with
 | .tup l=>guard (Au7 50 a) <|guard (svOks 50 l) <|ret (inl a l)
 | .fset l=>(lift (Af3 a)).bnd λi=>ret (l.any λj=>decide (j=i))
 | .loc k=>(obj k).bnd λo=>match o with
  | .list r _=>guard (Au7 50 a) <|guard (svOks 50 r.reverse) <|ret (inl a r.reverse)
  | .dict es=>guard (Bh6 a) <|ret (Ak5 es a).isSome
  | _=>no
 | .glb t=>(lift (Bp3 a)).bnd λs=>(lift (G.tab t)).bnd λks=>ret (ks.any (seq s))
 | _=>no
noncomputable def Ch6:SV→Bool
 | .fset _=>false
 | _=>true
noncomputable def isNone:SV→Option Bool
 | .none=>some true
 | .val _=>Option.none
 | .any=>Option.none
 | _=>some false
mutual
inductive SRd (hp:List A0):SV→PyData→Prop
 | int (i:Int):SRd hp (.int i) (.int i)
 | str (s:Str):SRd hp (.str s) (.str s)
 | tup (l:List SV) (ds:List PyData):SRds hp l ds→SRd hp (.tup l) (.tuple ds)
 | lst (k n:Nat) (l:List SV) (ds:List PyData):hp[k]?=some (.list l.reverse n)→SRds hp l ds→SRd hp (.loc k) (.list ds)
inductive SRds (hp:List A0):List SV→List PyData→Prop
 | nil:SRds hp [] []
 | cons (a:SV) (l:List SV) (d:PyData) (ds:List PyData):SRd hp a d→SRds hp l ds→SRds hp (a::l) (d::ds)
end
def DEq (hp:List A0)(a b:SV):Prop:=∃d,PyData.canLay0 d=true∧PyData.depth d≤50∧PyData.eqv d d=true∧SRd hp a d∧SRd hp b d
def told (G:Top)(b:Bool):X Bool:=match G.asks with
 | true=>ask.bnd λa=>(lift (Cp8 a)).bnd λt=>(owe (b=t)).bnd λu0=>ret t
 | false=>ret b
def cmpI (G:Top)(a b:SV)(f:Int→Int→Bool):X Bool:=(lift (Af3 a)).bnd λi=>(lift (Af3 b)).bnd λj=>told G (f i j)
noncomputable def notX (x:X Bool):X Bool:=x.bnd λr=>ret (!r)
def cmp (G:Top)(op:CmpOp)(a b:SV):X Bool:=match op with
 | .Eq=>match G.deep with
  | true=>λs=>some (true,s,[DEq s.hp a b])
  | false=>Co1 a b
 | .NotEq=>notX (Co1 a b)
 | .Is=>guard (Ad8 b) <|lift (isNone a)
 | .IsNot=>guard (Ad8 b) <|notX (lift (isNone a))
 | .In=>isin G a b
 | .NotIn=>guard (Ch6 b) <|notX (isin G a b)
 | .Lt=>cmpI G a b λi j=>decide (i<j)
 | .Gt=>cmpI G a b λi j=>decide (j<i)
 | .GtE=>cmpI G a b λi j=>decide (j≤i)
 | .LtE=>cmpI G a b λi j=>decide (i≤j)
noncomputable def isTS (t:TY)(b c:Bool):Option Bool:=match t with
 | .tuple=>some b
 | .str=>some c
 | _=>none
def isA (v:SV)(t:TY):Option Bool:=match v with
 | .tup _=>isTS t true false
 | .str _=>isTS t false true
 | .int _=>isTS t false false
 | .none=>isTS t false false
 | _=>Option.none
def two {α:Type}:List α→Option (α×α)
 | []=>none
 | a::l=>(one l).map λb=>(a,b)
def keysI:List (SV×SV)→Option (List Int)
 | []=>none
 | p::r=>match r with
  | []=>(Af3 p.1).map λa=>[a]
  | q::r=>match Ae9 r with
   | true=>(Af3 p.1).bind λa=>(Af3 q.1).map λb=>[a,b]
   | false=>none
def lenB (a:SV):X SV:=match a with
 | .tup l=>fits l.length (ret (.int l.length))
 | .loc k=>(obj k).bnd λo=>match o with
  | .list r n=>fits n (ret (.int r.length))
  | .lst0 _ l n _=>fits n (ret (.int l))
  | .dict es=>fits es.length (ret (.int es.length))
  | _=>no
 | _=>no
def isaB (args:List SV):X SV:=(lift (two args)).bnd λp=>(lift (Dz5 p.2)).bnd λt=>(lift (isA p.1 t)).bnd λb=>ret (.bool b)
def maxB (args:List SV):X SV:=(lift (two args)).bnd λp=>(lift (Af3 p.1)).bnd λa=>(lift (Af3 p.2)).bnd λb=>ret (.int (if a<b then b else a))
def sortB (a:SV):X SV:=(lift (Aj1 a)).bnd λk=>(obj k).bnd λo=>match o with
 | .list r _=>(lift (one r)).bnd λx=>(lift (Af3 x)).bnd λi=>newL [.int i] 1
 | .dict es=>guard (Ae9 es) (newL [] 0)
 | _=>no
def listB (a:SV):X SV:=match a with
 | .tup l=>newL l.reverse l.length
 | .loc k=>(Ae4 k).bnd λl=>newL l.1.reverse l.2
 | _=>no
def Df7 (a:SV):X SV:=(lift (Aj1 a)).bnd λk=>(Ae4 k).bnd λl=>fits l.2 (ret (.tup l.1))
noncomputable def intB (a:SV):X SV:=match a with
 | .int i=>ret (.int i)
 | .bool b=>ret (.int (if b then 1 else 0))
 | _=>no
def Dh0 (a:SV):X SV:=(lift (Af3 a)).bnd λn=>guard (decide (-(2^62)<n)) <|guard (decide (n<2^62)) <|ret (.rng n)
def fsetB (a:SV):X SV:=(lift (Aj1 a)).bnd λk=>(Di8 k).bnd λes=>(lift (keysI es)).bnd λl=>ret (.fset l)
def builtin (f:SV)(args:List SV):X SV:=match f with
 | .blt b=>match b with
  | .len=>(lift (one args)).bnd lenB
  | .isinstance=>isaB args
  | .max=>maxB args
  | .sorted=>(lift (one args)).bnd sortB
 | .typ t=>match t with
  | .list=>(lift (one args)).bnd listB
  | .tuple=>(lift (one args)).bnd Df7
  | .int=>(lift (one args)).bnd intB
  | .range=>(lift (one args)).bnd Dh0
  | .frozenset=>(lift (one args)).bnd fsetB
  | _=>no
 | _=>no
def zipAll (x y:SV):X SV:=(lift (Ar8 x)).bnd λl=>(lift (Aj1 y)).bnd λk=>(Ae4 k).bnd λq=>guard (Nat.ble l.length 1) <|guard (Nat.ble l.length q.1.length) <|
 newL (List.zipWith (λu v=>SV.tup [u,v]) l q.1).reverse l.length
noncomputable def ixs (a:SV):List SV→Nat→Option Nat
 | [],_=>none
 | b::l,i=>match veq b a with
  | true=>some i
  | false=>ixs a l (i+1)
noncomputable def Bq6:List SV→Bool
 | []=>true
 | a::l=>match Bp3 a with
  | some s=>match Bm1 s with
   | true=>Bq6 l
   | false=>false
  | none=>false
def Am4 (k:Nat)(n:Str)(args:List SV)(r:List SV)(c:Nat):X SV:=match seq n "append" with
 | true=>(lift (one args)).bnd λv=>fits c <|(upd k (.list (v::r) (c+1))).bnd λu0=>ret .none
 | false=>match seq n "pop" with
  | true=>guard (Ae9 args) <|match r with
   | v::r=>fits c <|(upd k (.list r c)).bnd λu0=>ret v
   | []=>no
  | false=>match seq n "extend" with
   | true=>(lift (one args)).bnd λv=>(lift (Aj1 v)).bnd λj=>(Bx4 j).bnd λq=>fits (c+q.2) <|(upd k (.list (q.1++r) (c+q.2))).bnd λu0=>ret .none
   | false=>guard (seq n "index") <|(lift (one args)).bnd λv=>(lift (Bp3 v)).bnd λs=>guard (Bm1 s) <|guard (Bq6 r.reverse) <|fits c <|(lift (ixs (.str s) r.reverse 0)).bnd λi=>ret (.int (.ofNat i))
def Cy2 (k:Nat)(n:Str)(args:List SV):X SV:=(obj k).bnd λob=>match ob with
 | .list r c=>Am4 k n args r c
 | _=>no
def keyD:List SV→Option (SV×SV)
 | []=>none
 | k::l=>match l with
  | []=>some (k,.none)
  | d::l=>match Ae9 l with
   | true=>some (k,d)
   | false=>none
def Dc4 (k:Nat)(n:Str)(args:List SV):X SV:=guard (seq n "get") <|(obj k).bnd λob=>match ob with
 | .dict es=>(lift (keyD args)).bnd λp=>guard (Bh6 p.1) <|ret ((Ak5 es p.1).getD p.2)
 | .idict m _=>(lift (two args)).bnd λp=>(lift (mkOf p.1)).bnd λk=>ask.bnd λa=>(owe (m k=some a)).bnd λu0=>ret a
 | _=>no
def powr (a b:SV):X SV:=(lift (Af3 a)).bnd λi=>(lift (At3 b)).bnd λn=>guard (Nat.ble n 1000) <|guard (Nat.ble i.natAbs 1000) <|ret (.int (i^n))
noncomputable def Df1 (a:Arguments):List Str:=a.args.map (·.arg)
section
variable (G:Top)(R:Rec)
noncomputable def Bf4:BoolOp→Bool→Bool
 | .And,b=>!b
 | .Or,b=>b
noncomputable def Bi6 (op:BoolOp)(c:EC):List Expr→X SV
 | []=>no
 | e::r=>match Ae9 r with
  | true=>R.ev c e
  | false=>(R.ev c e).bnd λv=>(Ax1 v).bnd λt=>match Bf4 op t with
   | true=>ret v
   | false=>Bi6 op c r
noncomputable def Dl9 (op:BoolOp)(c:EC):List Expr→X Bool
 | []=>ret (match op with | .And=>true | .Or=>false)
 | e::r=>(R.tr c e).bnd λt=>match Bf4 op t with
  | true=>ret t
  | false=>Dl9 op c r
noncomputable def Bd6 (c:EC):List (Option Expr)→List Expr→X (List (SV×SV))
 | [],vs=>guard (Ae9 vs) (ret [])
 | k::ks,vs=>(lift k).bnd λk=>match vs with
  | []=>no
  | v::vs=>(R.ev c k).bnd λk=>(R.ev c v).bnd λv=>(Bd6 c ks vs).bnd λl=>ret ((k,v)::l)
noncomputable def Bz6:List (SV×SV)→List (SV×SV)→Option (List (SV×SV))
 | es,[]=>some es
 | es,(k,v)::r=>match Bh6 k with
  | true=>Bz6 (Bk6 es k v) r
  | false=>none
noncomputable def Cn6:Const→Option SV
 | .none=>some .none
 | .bool b=>some (.bool b)
 | .int i=>some (.int i)
 | .str s=>some (.str s)
 | _=>Option.none
noncomputable def Ah6:Expr→Bool
 | .Call (.Name _ _) _ _ _=>false
 | _=>true
def Af7 (o:Expr)(q p:Pos)(n:Nat):Bool:=match Ah6 o,Nat.beq q.endLine p.line with
 | true,true=>Nat.blt n 30
 | _,_=>false
noncomputable def Ai0 (c:EC):List (Str×NameKind)→Option (List (Str×NameKind))
 | []=>some []
 | (n,k)::r=>match Ai0 c r with
  | none=>none
  | some l=>match k with
   | .free=>match look c.names n with
    | some .cell=>some ((n,.cell)::l)
    | _=>none
   | .local=>some ((n,.local)::l)
   | .globalImplicit=>some ((n,.globalImplicit)::l)
   | _=>none
def Ck0:ScopeKind→Bool
 | .function=>true
 | _=>false
noncomputable def As5:Option NameKind→Bool
 | some .local=>true
 | _=>false
noncomputable def Av8 (all:List (Str×NameKind)):List (Str×NameKind)→Bool
 | []=>true
 | (n,k)::r=>match k with
  | .local=>match As5 (look all n) with
   | true=>Av8 all r
   | false=>false
  | _=>Av8 all r
noncomputable def Ac6 (c:EC):List (Str×NameKind)→List (Str×Nat)
 | []=>[]
 | (n,k)::r=>match k with
  | .free=>match look c.cells n with
   | some i=>(n,i)::Ac6 c r
   | none=>Ac6 c r
  | _=>Ac6 c r
noncomputable def Ai9 (c:EC):List (Str×NameKind)→Bool
 | []=>true
 | (n,k)::r=>match k with
  | .free=>match look c.cells n with
   | some _=>Ai9 c r
   | none=>false
  | _=>Ai9 c r
def Cn8 (s:Scope)(c:EC)(x:Str):Option EC:=match Ck0 s.kind,As5 (look s.names x),look s.names ("__debug__":Str),Av8 s.names s.names,Ai9 c s.names with
 | true,true,none,true,true=>(Ai0 c s.names).map λl=>{names:=l,cells:=Ac6 c s.names}
 | _,_,_,_,_=>none
noncomputable def By1:Expr→Bool
 | .Set _ _ _=>false
 | _=>true
def Bi5 (c:EC)(elt:Expr)(x:Str)(iter:Expr)(ifs:List Expr)(scope:Scope):X SV:=guard (By1 iter) <|
 (lift (Cn8 scope c x)).bnd λcc=>(R.ev c iter).bnd λv=>(Cz4 v).bnd λit=>get.bnd λs=>
  (put {s with lc:=[]}).bnd λu0=>(R.cmpL cc x elt ifs it []).bnd λl=>get.bnd λs'=>
   (put {s' with lc:=s.lc}).bnd λu0=>newL l l.length
def Dm9 (k:Nat):X Addr:=(obj k).bnd λo=>match o with
 | .tab Q=>ret Q
 | _=>no
noncomputable def By9 (a:TY):Option TY→Bool
 | none=>false
 | some b=>match a,b with
  | .list,.list=>true
  | .zip,.zip=>true
  | .dict,.dict=>true
  | .enumerate,.enumerate=>true
  | _,_=>false
noncomputable def Cw7 {α:Type}:Option α→Bool
 | none=>true
 | some _=>false
def Cm0 (c:EC)(o:Expr)(n:Str)(args:List Expr):X SV:=(R.ev c o).bnd λov=>(lift (Aj1 ov)).bnd λk=>(obj k).bnd λob=>match ob with
 | .inst C d=>(lift (G.meth C n)).bnd λf=>(nsOf d).bnd λes=>guard (Cw7 (look es n)) <|(R.evs c args).bnd λvs=>R.call (.glb f) (.loc k::vs)
 | .list _ _=>(R.evs c args).bnd λvs=>Cy2 k n vs
 | .dict _=>(R.evs c args).bnd λvs=>Dc4 k n vs
 | .idict _ _=>(R.evs c args).bnd λvs=>Dc4 k n vs
 | _=>no
def genOf (g:Comprehension):Option (Str×Expr×List Expr):=match g.target with
 | .Name x _=>match natI g.is_async with
  | some n=>match n with
   | 0=>some (x,g.iter,g.ifs)
   | _+1=>none
  | none=>none
 | _=>none
def Bu8 (a:Expr):Option (Str×List Expr):=match a with
 | .Call g as ks _=>match g with
  | .Name g _=>match Ae9 ks with
   | true=>some (g,as)
   | false=>none
  | _=>none
 | _=>none
def Ch8 (args:List Expr):Option (Str×List Expr):=(one args).bind Bu8
noncomputable def Ar3 (c:EC)(f:Expr)(args:List Expr):X SV:=(R.ev c f).bnd λfv=>(R.evs c args).bnd λvs=>R.call fv vs
def Dv0 (c:EC)(as:List Expr):X SV:=(R.evs c as).bnd λl=>(lift (two l)).bnd λp=>zipAll p.1 p.2
def Bu0 (c:EC)(as:List Expr):X SV:=(R.evs c as).bnd λl=>(lift (one l)).bnd λv=>(lift (Aj1 v)).bnd λk=>(Ae4 k).bnd λq=>guard (Ae9 q.1) <|new (.dict [])
def Cl9 (c:EC)(f:Str)(p:Pos)(args:List Expr):X SV:=match Ch8 args with
 | some q=>match By9 .list (Ah4 G c f),By9 .zip (Ah4 G c q.1) with
  | true,true=>Dv0 R c q.2
  | _,_=>match By9 .dict (Ah4 G c f),By9 .enumerate (Ah4 G c q.1) with
   | true,true=>Bu0 R c q.2
   | _,_=>Ar3 R c (.Name f p) args
 | none=>Ar3 R c (.Name f p) args
def Cm2 (c:EC)(f:Expr)(args:List Expr)(t:Pos):X SV:=match f with
 | .Attribute o n q=>guard (Af7 o q t args.length) <|Cm0 G R c o n args
 | .Name f p=>Cl9 G R c f p args
 | f=>Ar3 R c f args
def evF (c:EC)(e:Expr):X SV:=match e with
 | .Constant k _ _=>lift (Cn6 k)
 | .Name n _=>Cy0 G c n
 | .BoolOp op vs _=>Bi6 R op c vs
 | .BinOp l op r _=>(R.ev c l).bnd λa=>(R.ev c r).bnd λb=>match op with
  | .Pow=>powr a b
  | _=>De2 op a b
 | .UnaryOp .Not x _=>(R.ev c x).bnd λv=>(Ax1 v).bnd λb=>ret (.bool (!b))
 | .UnaryOp .USub x _=>(R.ev c x).bnd λv=>(lift (Af3 v)).bnd λi=>ret (.int (-i))
 | .IfExp t a b _=>(R.tr c t).bnd λt=>match t with
  | true=>R.ev c a
  | false=>R.ev c b
 | .Dict ks vs _=>guard (Nat.ble ks.length 15) <|(Bd6 R c ks vs).bnd λl=>(lift (Bz6 [] l)).bnd λes=>fits l.length (new (.dict es))
 | .List es _=>(R.evs c es).bnd λl=>newL l.reverse l.length
 | .Tuple es _ _=>(R.evs c es).bnd λl=>fits l.length (ret (.tup l))
 | .ListComp elt gs scope _=>(lift ((one gs).bind genOf)).bnd λq=>Bi5 R c elt q.1 q.2.1 q.2.2 scope
 | .Compare l ops rs _=>(lift (one ops)).bnd λop=>(lift (one rs)).bnd λr=>guard (By1 r) <|(R.ev c l).bnd λa=>(R.ev c r).bnd λb=>(cmp G op a b).bnd λt=>ret (.bool t)
 | .Call f args ks p=>guard (Ae9 ks) <|Cm2 G R c f args p
 | .Attribute o n _=>guard (Ah6 o) <|(R.ev c o).bnd λov=>geta G ov n
 | .Subscript o (.Slice lo hi st _) _=>(R.ev c o).bnd λov=>
   (evOpt lo).bnd λl=>(evOpt hi).bnd λh=>(evOpt st).bnd λt=>slice ov l h t
 | .Subscript o i _=>(R.ev c o).bnd λov=>(R.ev c i).bnd λiv=>geti ov iv
 | .Lambda ps _ scope _=>guard (Ae9 ps.kw_defaults) <|guard (Ae9 ps.defaults) <|(lift c.lam).bnd λq=>(lift (G.code q.2)).bnd λP=>guard (Ai9 c scope.names) <|(Dm9 q.1).bnd λQ=>guard (Nat.beq P Q) <|ret .any
 | _=>no
where
 evOpt:Option Expr→X SV
  | none=>ret .none
  | some e=>R.ev c e
noncomputable def evsF (c:EC):List Expr→X (List SV)
 | []=>ret []
 | e::r=>(R.ev c e).bnd λv=>(R.evs c r).bnd λl=>ret (v::l)
def trF (c:EC)(e:Expr):X Bool:=match e with
 | .UnaryOp op x _=>match op with
  | .Not=>(R.tr c x).bnd λb=>ret (!b)
  | _=>(R.ev c e).bnd Ax1
 | .BoolOp op vs _=>Dl9 R op c vs
 | .IfExp t a b _=>(R.tr c t).bnd λt=>match t with
  | true=>R.tr c a
  | false=>R.tr c b
 | .Compare l ops rs _=>(lift (one ops)).bnd λop=>(lift (one rs)).bnd λr=>guard (By1 r) <|(R.ev c l).bnd λa=>(R.ev c r).bnd λb=>cmp G op a b
 | _=>(R.ev c e).bnd Ax1
noncomputable def asgs (c:EC):List Expr→List SV→X Unit
 | [],vs=>guard (Ae9 vs) (ret ())
 | t::ts,vs=>match vs with
  | []=>no
  | v::vs=>(R.asg c t v).bnd λu0=>asgs c ts vs
def asgF (c:EC)(t:Expr)(v:SV):X Unit:=match t with
 | .Name n _=>Cd6 c n v
 | .Attribute o n _=>(R.ev c o).bnd λov=>seta G ov n v
 | .Subscript o i _=>(R.ev c o).bnd λov=>(R.ev c i).bnd λiv=>seti ov iv v
 | .Tuple ts _ _=>match v with
  | .tup l=>asgs R c ts l
  | .loc k=>(Ae4 k).bnd λq=>asgs R c ts q.1
  | _=>no
 | _=>no
noncomputable def Ay5 (c:EC):List Str→List SV→X Unit
 | [],vs=>guard (Ae9 vs) (ret ())
 | n::ns,vs=>match vs with
  | []=>no
  | v::vs=>(Cd6 c n v).bnd λu0=>Ay5 c ns vs
def Dv1 (c:EC)(t i:Expr)(b:List Stmt):X A8:=guard (By1 i) <|(R.ev c i).bnd λv=>(Cz4 v).bnd λit=>R.forL c t it b
def exAsg (c:EC)(t e:Expr):X A8:=(lift (Bf3 c t e)).bnd λr=>match r with
 | none=>(R.ev c e).bnd λv=>(R.asg c t v).bnd λu0=>ret .next
 | some ns=>(R.ev c e).bnd λv=>(lift (Ar8 v)).bnd λl=>(Ay5 c ns.reverse l.reverse).bnd λu0=>ret .next
def Du5 (c:EC)(t i:Expr)(b:List Stmt):X A8:=match Bu8 i with
 | some q=>match By9 .zip (Ah4 G c q.1) with
  | true=>(R.evs c q.2).bnd λl=>(lift (two l)).bnd λp=>(zip0 p.1 p.2).bnd λit=>R.forL c t it b
  | false=>Dv1 R c t i b
 | none=>Dv1 R c t i b
def exF (c:EC)(s:Stmt):X A8:=match s with
 | .Expr e _=>guard (!Am5 e) <|(R.ev c e).bnd λu0=>ret .next
 | .Pass _=>ret .next
 | .Continue _=>ret .cont
 | .Return e _=>(lift e).bnd λe=>(R.ev c e).bnd λv=>ret (.ret v)
 | .Assign ts e _=>(lift (one ts)).bnd λt=>exAsg R c t e
 | .If t a b _=>(R.tr c t).bnd λt=>match t with
  | true=>R.exs c a
  | false=>R.exs c b
 | .While t b els _=>guard (Ae9 els) <|R.whl c t b
 | .For t i b els _=>guard (Ae9 els) <|Du5 G R c t i b
 | _=>no
noncomputable def exsF (c:EC):List Stmt→X A8
 | []=>ret .next
 | s::r=>(R.ex c s).bnd λf=>match f with
  | .next=>R.exs c r
  | f=>ret f
structure A7 where
 ok:Addr→List SV→List A0→SV→List A0→Prop
 whl:EC→Expr→List Stmt→List A0→List (Str×SV)→A8→List A0→List (Str×SV)→Prop
 forL:EC→Expr→SIt→List Stmt→List A0→List (Str×SV)→A8→List A0→List (Str×SV)→Prop
noncomputable def Dy6 (x:X A8)(f:A8):X A8:=match f with
 | .next=>x
 | .cont=>x
 | .brk=>ret .next
 | .ret v=>ret (.ret v)
def Cb7 (c:EC)(t:Expr)(b:List Stmt):X A8:=(R.tr c t).bnd λx=>match x with
 | false=>ret .next
 | true=>(R.exs c b).bnd λf=>Dy6 (R.whl c t b) f
def whlF (T:A7)(c:EC)(t:Expr)(b:List Stmt):X A8:=λs=>match s.orc with
 | .loop n f g l::r=>match Nat.beq n t.pos.line with
  | true=>some (f,{hp:=g s.hp,lc:=l s.lc,orc:=r},[T.whl c t b s.hp s.lc f (g s.hp) (l s.lc)])
  | false=>Cb7 R c t b s
 | .turn n::r=>match Nat.beq n t.pos.line with
  | true=>Cb7 R c t b {s with orc:=r}
  | false=>Cb7 R c t b s
 | _=>Cb7 R c t b s
def isList:SIt→Bool
 | .lst _ _=>true
 | _=>false
noncomputable def goOk (t:Expr):SIt→Bool
 | .zipT _ _ _=>match t with
  | .Tuple _ _ _=>true
  | _=>false
 | .zipL _ _ _=>match t with
  | .Tuple _ _ _=>true
  | _=>false
 | _=>true
def Ax7 (c:EC)(t:Expr)(it:SIt)(b:List Stmt):X A8:=guard (goOk t it) <|(Bm4 it).bnd λx=>match x with
 | none=>ret .next
 | some (v,it')=>(R.asg c t v).bnd λu0=>(R.exs c b).bnd λf=>Dy6 (R.forL c t it' b) f
def Da9 (T:A7)(c:EC)(t:Expr)(it:SIt)(b:List Stmt):X A8:=λs=>match s.orc with
 | .loop n f g l::r=>match Nat.beq n t.pos.line,isList it with
  | true,true=>some (f,{hp:=g s.hp,lc:=l s.lc,orc:=r},[T.forL c t it b s.hp s.lc f (g s.hp) (l s.lc)])
  | true,false=>none
  | _,_=>Ax7 R c t it b s
 | _=>Ax7 R c t it b s
noncomputable def Dm7 (c:EC):List Expr→X Bool
 | []=>ret true
 | e::r=>(R.tr c e).bnd λt=>match t with
  | true=>Dm7 c r
  | false=>ret false
def Cn9 (c:EC)(x:Str)(elt:Expr)(ifs:List Expr)(it:SIt)(acc:List SV):X (List SV):=(Bm4 it).bnd λy=>match y with
 | none=>ret acc
 | some (v,it')=>(Cd6 c x v).bnd λu0=>(Dm7 R c ifs).bnd λt=>match t with
  | true=>(R.ev c elt).bnd λu=>fits acc.length (R.cmpL c x elt ifs it' (u::acc))
  | false=>R.cmpL c x elt ifs it' acc
noncomputable def bind (names:List (Str×NameKind)):List (Str×SV)→St→Option St
 | [],s=>some s
 | (n,v)::r,s=>match look names n with
  | some .local=>bind names r {s with lc:=s.lc++[(n,v)]}
  | some .cell=>bind names r s
  | _=>none
noncomputable def Ae7:List (Str×NameKind)→List (Str×SV)→Nat→List (Str×Nat)×List A0
 | [],_,_=>([],[])
 | (n,k)::r,ps,i=>match k with
  | .cell=>let q:=Ae7 r ps (i+1);((n,i)::q.1,.cell (look ps n)::q.2)
  | _=>Ae7 r ps i
noncomputable def fill (ps:List Str)(dflt args:List SV):Option (List (Str×SV)):=
 let m:=args.length
 match Nat.ble m ps.length,Nat.ble ps.length (m+dflt.length) with
 | true,true=>some (ps.zip (args++dflt.drop (m+dflt.length-ps.length)))
 | _,_=>none
def Cn0 (f:Fn)(args:List SV):X SV:=λs=>
 match fill f.params f.dflt args with
 | none=>none
 | some ps=>
  let q:=Ae7 f.scope.names ps s.hp.length
  match bind f.scope.names ps {s with hp:=s.hp++q.2,lc:=[]} with
  | none=>none
  | some s1=>match R.exs {names:=f.scope.names,cells:=q.1,lam:=f.lam} f.body s1 with
   | some (.ret v,s2,o)=>some (v,{s2 with lc:=s.lc},o)
   | some (.next,s2,o)=>some (.none,{s2 with lc:=s.lc},o)
   | _=>none
def Dd8 (T:A7)(f:SV)(args:List SV):X SV:=match f with
 | .glb a=>match G.sum a with
  | true=>λs=>match s.orc with
   | .call v g::r=>some (v,{s with hp:=g s.hp,orc:=r},[T.ok a args s.hp v (g s.hp)])
   | _=>none
  | false=>match G.fn a with
   | some f=>Cn0 R f args
   | none=>guard (G.cls a) <|(lift (G.meth a "__init__")).bnd λi=>(lift (G.fn i)).bnd λf=>(new (.ns [])).bnd λd=>(lift (Aj1 d)).bnd λd=>(new (.inst a d)).bnd λx=>(Cn0 R f (x::args)).bnd λr=>guard (Ad8 r) (ret x)
 | _=>builtin f args
end
noncomputable def nay:Rec:=⟨λu0 u0=>no,λu0 u0=>no,λu0 u0=>no,λu0 u0 u0=>no,λu0 u0=>no,λu0 u0=>no,λu0 u0=>no,λu0 u0 u0 u0=>no,λu0 u0 u0=>no,λu0 u0 u0 u0 u0 u0=>no⟩
noncomputable def callD (c:SV→List SV→X SV):Nat→SV→List SV→X SV
 | 0=>λu0 u0=>no
 | _+1=>c
noncomputable def Ae2 (G:Top)(T:A7):Nat→Nat→Rec
 | 0,_=>nay
 | n+1,d=>
  let R:=Ae2 G T n d
  ⟨evF G R,evsF R,trF G R,asgF G R,exF G R,exsF R,callD (λf args=>Dd8 G (Ae2 G T n (d-1)) T f args) d,Da9 R T,whlF R T,Cn9 R⟩
end
section
theorem no1 {α:Type}{a:α}{P:Prop}(e:(none:Option α)=some a):P:=by cases e
theorem Ao8 {x:List Nat}:∀{y:List Nat},Bk5 x y=true↔x=y:=by
 induction x with
 | nil=>intro y;cases y with
  | nil=>exact ⟨λu0=>rfl,λu0=>rfl⟩
  | cons b y=>exact ⟨λe=>Bool.noConfusion e,λe=>absurd (congrArg List.length e) (Nat.ne_of_lt (Nat.succ_pos _))⟩
 | cons a x ih=>intro y;cases y with
  | nil=>exact ⟨λe=>Bool.noConfusion e,λe=>absurd (congrArg List.length e) (Nat.succ_ne_zero _)⟩
  | cons b y=>
   show (match Nat.beq a b with | true=>Bk5 x y | false=>false)=true↔_
   cases h:Nat.beq a b with
   | true=>exact (Nat.eq_of_beq_eq_true h)▸ih.trans ⟨λe=>congrArg _ e,λe=>(List.cons.inj e).2⟩
   | false=>exact ⟨λe=>Bool.noConfusion e,λe=>absurd (List.cons.inj e).1 (Nat.ne_of_beq_eq_false h)⟩
theorem Ab0 {a b:Str}:seq a b=true↔a=b:=by
 unfold seq
 rw [Ao8]
 constructor
 ·intro h
  cases a;cases b
  simp only [Str.mk.injEq]
  exact Array.toList_inj.mp h
 ·rintro rfl;rfl
theorem Bq9 (a:Str):seq a a=true:=Ab0.mpr rfl
theorem seq_false {a b:Str}(h:seq a b=false):a≠b:=λe=>by replace h:=(Ab0.mpr e).symm.trans h;exact nomatch h
theorem Aq3 (a b:Str):seq a b=(a==b):=by
 rw [Bool.eq_iff_iff,Ab0,beq_iff_eq]
theorem at?_eq {α:Type}(l:List α):∀n:Nat,at? l n=l[n]?:=by
 induction l with
 | nil=>exact λu0=>rfl
 | cons a l ih=>exact λn=>by cases n with
  | zero=>rfl
  | succ n=>exact ih n
theorem Bq8 {α:Type}(l:List α):∀(n:Nat) (b:α),set l n b=l.set n b:=by
 induction l with
 | nil=>exact λu0 u0=>rfl
 | cons a l ih=>exact λn b=>by cases n with
  | zero=>rfl
  | succ n=>exact congrArg _ (ih n b)
theorem Aa7 {α:Type}(p:Str×α)(r:List (Str×α))(n:Str):look (p::r) n=match seq p.1 n with | true=>some p.2 | false=>look r n:=rfl
theorem Bc7 {α:Type}(l:List (Str×α))(n:Str):look l n=l.lookup n:=by
 induction l with
 | nil=>rfl
 | cons p r ih=>
  rw [Aa7,List.lookup_cons,Aq3,Bool.beq_comm,ih]
  cases n==p.1<;>rfl
theorem Ap8 {α β:Type}{x:X α}{f:α→X β}{st st2:St}{b:β}{ob:List Prop}(h:X.bnd x f st=some (b,st2,ob)):
  ∃a st1 o1 o2,x st=some (a,st1,o1)∧f a st1=some (b,st2,o2)∧ob=o1++o2:=by
 unfold X.bnd at h
 cases hx:x st with
 | none=>replace h:=hx▸h;exact no1 h
 | some r=>
  obtain ⟨a,st1,o1⟩:=r
  replace h:=hx▸h
  dsimp only at h
  cases hf:f a st1 with
  | none=>rw [hf] at h;exact no1 h
  | some q=>
   obtain ⟨b',s2,o2⟩:=q
   simp only [hf] at h
   cases h
   exact ⟨a,st1,o1,o2,rfl,hf,rfl⟩
theorem ret_some {α:Type}{a b:α}{st st2:St}{ob:List Prop}(h:X.ret a st=some (b,st2,ob)):b=a∧st2=st∧ob = []:=by
 cases h;exact ⟨rfl,rfl,rfl⟩
theorem lift_some {α:Type}{x:Option α}{b:α}{st st2:St}{ob:List Prop}(h:X.lift x st=some (b,st2,ob)):x=some b∧st2=st∧ob = []:=by
 cases x with
 | none=>exact no1 h
 | some a=>cases h;exact ⟨rfl,rfl,rfl⟩
theorem Cw4 {k:Nat}{o:A0}{st st2:St}{ob:List Prop}(h:obj k st=some (o,st2,ob)):st.hp[k]?=some o∧st2=st∧ob = []:=by
 unfold obj at h
 rw [at?_eq] at h
 cases q:st.hp[k]? with
 | none=>rw [q] at h;exact no1 h
 | some o'=>replace h:=q▸h;cases h;exact ⟨rfl,rfl,rfl⟩
theorem objb {α:Type}{k:Nat}{f:A0→X α}{st:St}{r:α×St×List Prop}(e:X.bnd (obj k) f st=some r):∃o,st.hp[k]?=some o∧f o st=some r:=by
 obtain ⟨v,s,ob⟩:=r
 refine Aq7 (Ap8 e) λo st1 o1 o2 h1 e2 z6=>?_;subst z6
 refine oAA (Cw4 h1) λhx z1 z2=>?_;subst z1;subst z2
 exact ⟨o,hx,e2⟩
def All (ob:List Prop):Prop:=∀p∈ob,p
theorem All.left {a b:List Prop}(h:All (a++b)):All a:=λp hp=>h p (List.mem_append_left _ hp)
theorem All.right {a b:List Prop}(h:All (a++b)):All b:=λp hp=>h p (List.mem_append_right _ hp)
def Imm (o:Obj):Prop:=(o.cls = .type "tuple"∧∃xs n,o.data = .seq xs n)∨(o.cls = .type "frozenset"∧∃es n t,o.data = .set es n t)∨(o.cls = .type "range"∧∃vs,o.data = .fields vs)
theorem Al6 {o:Obj}{es:Array DictEntry}{n:Nat}(h:o.data = .dict es n):¬ Imm o:=by
 rintro (⟨_,_,_,e⟩ | ⟨_,_,_,_,e⟩ | ⟨_,_,e⟩)<;>rw [h] at e<;>cases e
theorem Bt1 {o:Obj}{v:Option Value}(h:o.data = .cell v):¬ Imm o:=by
 rintro (⟨_,_,_,e⟩ | ⟨_,_,_,_,e⟩ | ⟨_,_,e⟩)<;>rw [h] at e<;>cases e
theorem Ah0 {o:Obj}(h:o.cls = .type "list"):¬ Imm o:=by
 rintro (⟨e,_⟩ | ⟨e,_⟩ | ⟨e,_⟩)<;>rw [h] at e<;>revert e<;>decide
theorem Cz6 {o:Obj}(h:o.cls = .none):¬ Imm o:=by
 rintro (⟨e,_⟩ | ⟨e,_⟩ | ⟨e,_⟩)<;>rw [h] at e<;>cases e
theorem Ck4 {o:Obj}(h:o.data = .plain):¬ Imm o:=by
 rintro (⟨_,_,_,e⟩ | ⟨_,_,_,_,e⟩ | ⟨_,_,e⟩)<;>rw [h] at e<;>cases e
class Hid where
 off:List Addr
variable [HI:Hid]
def B2 (h h':Heap):Prop:=∀a o,h.get? a=some o→Imm o→(o.cls = .type "tuple"→a∉Hid.off)→h'.get? a=some o
theorem B2.refl (h:Heap):B2 h h:=λu0 u0 e u0 u0=>e
theorem B2.trans {h₁ h₂ h₃:Heap}(x:B2 h₁ h₂)(y:B2 h₂ h₃):B2 h₁ h₃:=λa o e i q=>y a o (x a o e i q) i q
theorem B2.of_keep {h h':Heap}(k:∀b o,h.get? b=some o→h'.get? b=some o):B2 h h':=λa o e u0 u0=>k a o e
theorem B2.same {h h':Heap}{a:Addr}{o:Obj}(hs:Heap.SameBut a h h')(ho:h.get? a=some o)(hn:¬ Imm o):B2 h h':=λb o' e i u0=>by
 by_cases q:b=a
 ·subst q;replace e:=ho.symm.trans e;cases e;exact absurd i hn
 ·exact (hs.2 b q).trans e
def FSet (h:Heap)(a:Addr)(l:List Int):Prop:=
 ∃o es n t,h.get? a=some o∧o.cls = .type "frozenset"∧o.data = .set es n t∧
  ∀(prog:Program) (w:World) (i:Int) (tk:Tok) (A:Around) (Q:Value→Shared→Prop) (E:Value→Shared→Prop) (s:Shared),s.heap.get? a=some o→
   (∀tk',Q (.bool (l.any λj=>decide (j=i))) {s with toks:=tk'})→wpAny (model prog w) A (compareOp .In (.int i tk) (.ref a)) Q E s
noncomputable def MK.is:MK→Value→Bool
 | .s x,.str y _=>decide (x=y)
 | .i n,.int m _=>decide (n=m)
 | _,_=>false
noncomputable abbrev Dl7 (vs:List Value)(n:Nat):Obj:={cls:=.type "tuple",dict:=none,data:=.seq vs.toArray n,slots:=#[]}
def Ab6 (h:Heap)(a:Addr)(vs:List Value):Prop:=a∉Hid.off∧∃n,h.get? a=some (Dl7 vs n)
theorem Ab6.tup {h:Heap}{a:Addr}{vs:List Value}(x:Ab6 h a vs):IsTup h a vs.toArray:=let ⟨_,n,e⟩:=x;⟨_,e,rfl,n,rfl⟩
theorem Ab6.tuple {h:Heap}{a:Addr}{vs:List Value}(x:Ab6 h a vs):h.IsTuple a vs.toArray:=let ⟨_,n,e⟩:=x;⟨_,e,rfl,n,rfl⟩
inductive VR (as:List Addr)(h:Heap):SV→Value→Prop
 | none:VR as h .none .none
 | bool (b:Bool):VR as h (.bool b) (.bool b)
 | int (i:Int) (t:Tok):VR as h (.int i) (.int i t)
 | str (s:Str) (t:Tok):VR as h (.str s) (.str s t)
 | tup (l:List SV) (vs:List Value) (a:Addr):Ab6 h a vs→l.length=vs.length→(∀(i:Nat) (sv:SV) (v:Value),l[i]?=some sv→vs[i]?=some v→VR as h sv v)→VR as h (.tup l) (.ref a)
 | loc (k:Nat) (a:Addr):as[k]?=some a→VR as h (.loc k) (.ref a)
 | glb (a:Addr):VR as h (.glb a) (.ref a)
 | typ (n:TY):VR as h (.typ n) (.type n.name)
 | blt (i:BI):VR as h (.blt i) (.builtin i.name)
 | val (v:Value):VR as h (.val v) v
 | any (v:Value):VR as h .any v
 | fset (l:List Int) (a:Addr):FSet h a l→VR as h (.fset l) (.ref a)
 | rng (n:Int) (a:Addr) (t u v:Tok):IsRange h a 0 n 1 t u v→VR as h (.rng n) (.ref a)
 | key (k:MK) (v:Value):k.is v=true→VR as h (.key k) v
def VRs (as:List Addr)(h:Heap)(l:List SV)(vs:List Value):Prop:=l.length=vs.length∧∀(i:Nat) (sv:SV) (v:Value),l[i]?=some sv→vs[i]?=some v→VR as h sv v
theorem VRs.nil {as:List Addr}{h:Heap}:VRs as h [] []:=⟨rfl,λu0 u0 u0 e=>by simp at e⟩
theorem VRs.cons {as:List Addr}{h:Heap}{a:SV}{v:Value}{l:List SV}{vs:List Value}(x:VR as h a v)(y:VRs as h l vs):VRs as h (a::l) (v::vs):=by
 refine ⟨by simp [y.1],λi sv w e e'=>?_⟩
 cases i with
 | zero=>simp at e e';subst e e';exact x
 | succ i=>simp at e e';exact y.2 i sv w e e'
theorem VRs.cons_inv {as:List Addr}{h:Heap}{a:SV}{l:List SV}{vs:List Value}(x:VRs as h (a::l) vs):∃v ws,vs=v::ws∧VR as h a v∧VRs as h l ws:=by
 refine oA x ?_;clear x;intro hl hx
 cases vs with
 | nil=>simp at hl
 | cons v ws=>exact ⟨v,ws,rfl,hx 0 a v rfl rfl,by simpa using hl,λi sv w e e'=>hx (i+1) sv w (by simpa using e) (by simpa using e')⟩
theorem VRs.nil_inv {as:List Addr}{h:Heap}{vs:List Value}(x:VRs as h [] vs):vs = []:=by
 cases vs with
 | nil=>rfl
 | cons v ws=>have:=x.1;simp at this
theorem VRs.append {as:List Addr}{h:Heap}:∀{l:List SV} {vs:List Value} {k:List SV} {ws:List Value},VRs as h l vs→VRs as h k ws→VRs as h (l++k) (vs++ws)
 | [],vs,k,ws,x,y=>by rw [x.nil_inv];exact y
 | a::l,vs,k,ws,x,y=>by
  obtain ⟨v,us,rfl,p,q⟩:=x.cons_inv
  exact VRs.cons p (VRs.append q y)
theorem VRs.reverse {as:List Addr}{h:Heap}:∀{l:List SV} {vs:List Value},VRs as h l vs→VRs as h l.reverse vs.reverse
 | [],vs,x=>by rw [x.nil_inv];exact VRs.nil
 | a::l,vs,x=>by
  obtain ⟨v,us,rfl,p,q⟩:=x.cons_inv
  simp only [List.reverse_cons,List.reverse_cons]
  exact VRs.append q.reverse (VRs.cons p VRs.nil)
theorem VRs.at {as:List Addr}{h:Heap}{l:List SV}{vs:List Value}(x:VRs as h l vs){i:Nat}{sv:SV}(e:l[i]?=some sv):∃v,vs[i]?=some v∧VR as h sv v:=by
 obtain ⟨hl,_⟩:=List.getElem?_eq_some_iff.mp e
 have:i<vs.length:=x.1▸hl
 exact ⟨vs[i],List.getElem?_eq_getElem this,x.2 i sv _ e (List.getElem?_eq_getElem this)⟩
theorem Ag0 {h h':Heap}(k:B2 h h'){a:Addr}{vs:List Value}(x:Ab6 h a vs):Ab6 h' a vs:=by
 refine oAE x λhn n ho=>?_
 exact ⟨hn,n,k a _ ho (.inl ⟨rfl,_,_,rfl⟩) λu0=>hn⟩
theorem VR.mono {as as':List Addr}{h h':Heap}(k:B2 h h')(p:∃ns,as'=as++ns){sv:SV}{v:Value}(x:VR as h sv v):VR as' h' sv v:=by
 refine oE p ?_;clear p;intro ns z1;subst z1
 induction x with
 | none=>exact .none
 | bool b=>exact .bool b
 | int i t=>exact .int i t
 | str s t=>exact .str s t
 | tup l vs a ht hl _ ih=>exact .tup l vs a (Ag0 k ht) hl ih
 | loc j a e=>exact .loc j a (by exact (List.getElem?_append_left (List.getElem?_eq_some_iff.mp e).1)▸e)
 | glb a=>exact .glb a
 | typ n=>exact .typ n
 | blt i=>exact .blt i
 | val v=>exact .val v
 | any v=>exact .any v
 | fset l a f=>
  obtain ⟨o,es,n,t,ho,hc,hd,r⟩:=f
  exact .fset l a ⟨o,es,n,t,k a o ho (.inr (.inl ⟨hc,_,_,_,hd⟩)) (λq=>by replace q:=hc.symm.trans q;exact absurd q (by decide)),hc,hd,r⟩
 | key k v q=>exact .key k v q
 | rng n a t u v r=>
  exact .rng n a t u v (k a _ r (.inr (.inr ⟨rfl,_,rfl⟩)) λq=>absurd (show (Value.type "range") = .type "tuple" from q) (by decide))
def VRi (as:List Addr)(h:Heap):SV→Value→Prop
 | .none,v=>v = .none
 | .bool b,v=>v = .bool b
 | .int i,v=>∃t,v = .int i t
 | .str s,v=>∃t,v = .str s t
 | .tup l,v=>∃a vs,v = .ref a∧Ab6 h a vs∧VRs as h l vs
 | .loc k,v=>∃a,v = .ref a∧as[k]?=some a
 | .glb a,v=>v = .ref a
 | .typ n,v=>v = .type n.name
 | .blt i,v=>v = .builtin i.name
 | .key k,v=>k.is v=true
 | .fset l,v=>∃a,v = .ref a∧FSet h a l
 | .rng n,v=>∃a t u w,v = .ref a∧IsRange h a 0 n 1 t u w
 | .val u,v=>v=u
 | .any,_=>True
theorem VR.inv {as:List Addr}{h:Heap}{sv:SV}{v:Value}(x:VR as h sv v):VRi as h sv v:=by
 cases x with
 | none=>rfl
 | bool b=>rfl
 | int i t=>exact ⟨t,rfl⟩
 | str s t=>exact ⟨t,rfl⟩
 | tup l vs a ht hl hx=>exact ⟨a,vs,rfl,ht,hl,hx⟩
 | loc k a e=>exact ⟨a,rfl,e⟩
 | glb a=>rfl
 | typ n=>rfl
 | blt i=>rfl
 | val v=>rfl
 | any v=>trivial
 | fset l a f=>exact ⟨a,rfl,f⟩
 | rng n a t u w r=>exact ⟨a,t,u,w,rfl,r⟩
 | key k v q=>exact q
theorem VR.intI {as:List Addr}{h:Heap}{i:Int}{v:Value}(x:VR as h (.int i) v):∃t,v = .int i t:=x.inv
theorem VR.tupI {as:List Addr}{h:Heap}{l:List SV}{v:Value}(x:VR as h (.tup l) v):∃a vs,v = .ref a∧Ab6 h a vs∧VRs as h l vs:=x.inv
theorem VR.strI {as:List Addr}{h:Heap}{i:Str}{v:Value}(x:VR as h (.str i) v):∃t,v = .str i t:=x.inv
theorem VR.noneI {as:List Addr}{h:Heap}{v:Value}(x:VR as h .none v):v = .none:=x.inv
theorem VR.boolI {as:List Addr}{h:Heap}{b:Bool}{v:Value}(x:VR as h (.bool b) v):v = .bool b:=x.inv
theorem VR.glbI {as:List Addr}{h:Heap}{b:Addr}{v:Value}(x:VR as h (.glb b) v):v = .ref b:=x.inv
theorem VR.typI {as:List Addr}{h:Heap}{b:TY}{v:Value}(x:VR as h (.typ b) v):v = .type b.name:=x.inv
theorem VR.bltI {as:List Addr}{h:Heap}{b:BI}{v:Value}(x:VR as h (.blt b) v):v = .builtin b.name:=x.inv
theorem VRs.mono {as as':List Addr}{h h':Heap}(k:B2 h h')(p:∃ns,as'=as++ns){l:List SV}{vs:List Value}(x:VRs as h l vs):VRs as' h' l vs:=
 ⟨x.1,λi sv v e e'=>(x.2 i sv v e e').mono k p⟩
end
@[elab_as_elim] theorem B5 {α β:Type}{x:X α}{f:α→X β}{st st2:St}{b:β}{ob:List Prop}{P:List Prop→Prop}(e:X.bnd x f st=some (b,st2,ob))
  (k:∀a st1 o1 o2,x st=some (a,st1,o1)→f a st1=some (b,st2,o2)→P (o1++o2)):P ob:=by
 refine Aq7 (Ap8 e) λa st1 o1 o2 h1 h2 z6=>?_;subst z6
 exact k a st1 o1 o2 h1 h2
@[elab_as_elim] theorem A4 {α β γ:Type}{a a':α}{b b':β}{c c':γ}{P:α→β→γ→Prop}(e:some (a,b,c)=some (a',b',c'))(k:P a b c):P a' b' c':=by
 cases e;exact k
@[elab_as_elim] theorem some1E {α:Type}{a a':α}{P:α→Prop}(e:some a=some a')(k:P a):P a':=by
 cases e;exact k
theorem A9 {α:Type}{a b:α}(e:some a=some b):a=b:=by cases e;rfl
theorem Ca9 {α β:Type}{a c:α}{b d:β}(e:(a,b)=(c,d)):a=c∧b=d:=by cases e;exact ⟨rfl,rfl⟩
theorem injs2 {α β:Type}{a c:α}{b d:β}(e:some (a,b)=some (c,d)):a=c∧b=d:=by cases e;exact ⟨rfl,rfl⟩
theorem inj3 {α β γ:Type}{a a':α}{b b':β}{c c':γ}(e:some (a,b,c)=some (a',b',c')):a=a'∧b=b'∧c=c':=by cases e;exact ⟨rfl,rfl,rfl⟩
theorem Cz5 {α:Type}{a b:α}{l m:List α}(e:a::l=b::m):a=b∧l=m:=by cases e;exact ⟨rfl,rfl⟩
theorem no3 {α:Type}{a:α}{P:Prop}(e:some a=none):P:=by cases e
theorem noB {P:Prop}(e:true=false):P:=by cases e
theorem B3 {P:Prop}(e:false=true):P:=by cases e
theorem noL {α:Type}{a:α}{l:List α}{P:Prop}(e:[]=a::l):P:=by cases e
theorem noL' {α:Type}{a:α}{l:List α}{P:Prop}(e:a::l = []):P:=by cases e
theorem cpsP {G:Prop}(h:∀P:Prop,(G→P)→P):G:=h G id
section
variable {α β:Type}{st st2:St}{r:β×St×List Prop}{b:β}{ob:List Prop}{P:Prop}
theorem Ak7 {y:Option (β×St×List Prop)}(h:(match y with | none=>none | some (b,s2,o2)=>some (b,s2,[]++o2))=some r):y=some r:=by
 cases y with
 | none=>exact no1 h
 | some z=>exact h
theorem retB {a:α}{f:α→X β}(e:X.bnd (X.ret a) f st=some r):f a st=some r:=Ak7 e
theorem updB {k:Nat}{o:A0}{f:Unit→X β}(e:X.bnd (upd k o) f st=some r):f () {st with hp:=set st.hp k o}=some r:=Ak7 e
theorem newB {o:A0}{f:SV→X β}(e:X.bnd (new o) f st=some r):f (.loc st.hp.length) {st with hp:=st.hp++[o]}=some r:=Ak7 e
theorem getB {f:St→X β}(e:X.bnd X.get f st=some r):f st st=some r:=Ak7 e
theorem putB {s:St}{f:Unit→X β}(e:X.bnd (X.put s) f st=some r):f () s=some r:=Ak7 e
theorem A6 {y:Option α}{f:α→X β}(e:X.bnd (X.lift y) f st=some r)(k:∀a,y=some a→f a st=some r→P):P:=by
 cases y with
 | none=>exact no1 e
 | some a=>exact k a rfl (Ak7 e)
theorem Aa3 {b:Bool}{x:X β}(e:guard b x st=some r)(k:b=true→x st=some r→P):P:=by
 cases b with
 | false=>exact no1 e
 | true=>exact k rfl e
theorem Ag1 {b c:Bool}{x:X β}(e:guard b (guard c x) st=some r)(k:b=true→c=true→x st=some r→P):P:=
 Aa3 e λh e=>Aa3 e λh' e=>k h h' e
theorem Ad6 {n:Nat}{x:X β}(e:fits n x st=some r)(k:small n=true→x st=some r→P):P:=by
 unfold fits at e
 cases h:small n with
 | false=>rw [h] at e;exact no1 e
 | true=>rw [h] at e;exact k h e
theorem Cw5 {i:Nat}{f:A0→X β}(e:X.bnd (obj i) f st=some r)(k:∀o,st.hp[i]?=some o→f o st=some r→P):P:=by
 refine oEA (objb e) λo h e=>?_
 exact k o h e
theorem Bx5 {x:X α}{f:α→X β}{Q:α→Prop}(h:∀a s o,x st=some (a,s,o)→s=st∧o = []∧Q a)(e:X.bnd x f st=some r)(k:∀a,Q a→f a st=some r→P):P:=by
 unfold X.bnd at e
 cases hx:x st with
 | none=>rw [hx] at e;exact no1 e
 | some z=>
  obtain ⟨a,s,o⟩:=z
  rw [hx] at e
  refine oAA (h _ _ _ hx) λz0 z1 q=>?_;subst z0;subst z1
  exact k a q (Ak7 e)
theorem Aq6 {i:Nat}{g:A0→X α}{Q:α→Prop}(h:∀o a s ob,st.hp[i]?=some o→g o st=some (a,s,ob)→s=st∧ob = []∧Q a)(a:α)(s:St)(ob:List Prop)(e:X.bnd (obj i) g st=some (a,s,ob)):s=st∧ob = []∧Q a:=by
 refine oEA (objb e) λo hx e=>?_
 exact h o a s ob hx e
theorem listE {i:Nat}{f:List SV×Nat→X β}(e:X.bnd (Ae4 i) f st=some r)(k:∀l n,st.hp[i]?=some (.list l n)→f (l.reverse,n) st=some r→P):P:=
 Bx5 (Q:=λa=>∃l,st.hp[i]?=some (.list l a.2)∧a.1=l.reverse) (Aq6 λo a s ob hx e=>by
  cases o with
  | list l n=>refine A4 e ?_;exact ⟨rfl,rfl,l,hx,rfl⟩
  | _=>exact no1 e) e λa h e=>h.elim λl h=>k l a.2 h.1 (h.2▸e)
theorem rawE {i:Nat}{f:List SV×Nat→X β}(e:X.bnd (Bx4 i) f st=some r)(k:∀l n,st.hp[i]?=some (.list l n)→f (l,n) st=some r→P):P:=
 Bx5 (Q:=λa=>st.hp[i]?=some (.list a.1 a.2)) (Aq6 λo a s ob hx e=>by
  cases o with
  | list l n=>refine A4 e ?_;exact ⟨rfl,rfl,hx⟩
  | _=>exact no1 e) e λa h e=>k a.1 a.2 h e
theorem instE {i:Nat}{f:Addr×Nat→X β}(e:X.bnd (Ck2 i) f st=some r)(k:∀C d,st.hp[i]?=some (.inst C d)→f (C,d) st=some r→P):P:=
 Bx5 (Q:=λa=>st.hp[i]?=some (.inst a.1 a.2)) (Aq6 λo a s ob hx e=>by
  cases o with
  | inst C d=>refine A4 e ?_;exact ⟨rfl,rfl,hx⟩
  | _=>exact no1 e) e λa h e=>k a.1 a.2 h e
theorem nsE {i:Nat}{f:List (Str×SV)→X β}(e:X.bnd (nsOf i) f st=some r)(k:∀es,st.hp[i]?=some (.ns es)→f es st=some r→P):P:=
 Bx5 (Q:=λa=>st.hp[i]?=some (.ns a)) (Aq6 λo a s ob hx e=>by
  cases o with
  | ns es=>refine A4 e ?_;exact ⟨rfl,rfl,hx⟩
  | _=>exact no1 e) e k
theorem dictE {i:Nat}{f:List (SV×SV)→X β}(e:X.bnd (Di8 i) f st=some r)(k:∀es,st.hp[i]?=some (.dict es)→f es st=some r→P):P:=
 Bx5 (Q:=λa=>st.hp[i]?=some (.dict a)) (Aq6 λo a s ob hx e=>by
  cases o with
  | dict es=>refine A4 e ?_;exact ⟨rfl,rfl,hx⟩
  | _=>exact no1 e) e k
theorem askE {f:SV→X β}(e:X.bnd ask f st=some r)(k:∀a o,f a {st with orc:=o}=some r→P):P:=by
 unfold X.bnd ask at e
 cases h:st.orc with
 | nil=>rw [h] at e;exact no1 e
 | cons q l=>
  rw [h] at e
  cases q with
  | val a=>exact k a l (Ak7 e)
  | _=>exact no1 e
@[elab_as_elim] theorem oweE {p:Prop}{f:Unit→X β}{Q:List Prop→Prop}(e:X.bnd (owe p) f st=some (b,st2,ob))(k:∀o,f () st=some (b,st2,o)→Q (p::o)):Q ob:=
 B5 e λa s o1 o2 h e=>by cases h;exact k o2 e
@[elab_as_elim] theorem Ax4 {y:Option β}{Q:St→List Prop→Prop}(e:X.lift y st=some (b,st2,ob))(k:y=some b→Q st []):Q st2 ob:=by
 cases y with
 | none=>exact no1 e
 | some a=>cases e;exact k rfl
end
theorem Ab2 {v:SV}{i:Int}(e:Af3 v=some i):v = .int i:=by
 cases v with
 | int j=>exact congrArg _ (A9 e)
 | _=>exact no1 e
theorem Ab9 {v:SV}{i:Nat}(e:Aj1 v=some i):v = .loc i:=by
 cases v with
 | loc j=>exact congrArg _ (A9 e)
 | _=>exact no1 e
theorem Au2 {v:SV}{i:Str}(e:Bp3 v=some i):v = .str i:=by
 cases v with
 | str j=>exact congrArg _ (A9 e)
 | _=>exact no1 e
theorem Cp7 {v:SV}{i:Bool}(e:Cp8 v=some i):v = .bool i:=by
 cases v with
 | bool j=>exact congrArg _ (A9 e)
 | _=>exact no1 e
theorem Bv1 {v:SV}{i:TY}(e:Dz5 v=some i):v = .typ i:=by
 cases v with
 | typ j=>exact congrArg _ (A9 e)
 | _=>exact no1 e
theorem Al8 {v:SV}{i:List SV}(e:Ar8 v=some i):v = .tup i:=by
 cases v with
 | tup j=>exact congrArg _ (A9 e)
 | _=>exact no1 e
theorem Al9 {v:SV}{n:Nat}(e:At3 v=some n):v = .int (.ofNat n):=by
 unfold At3 at e
 cases h:Af3 v with
 | none=>rw [h] at e;exact no1 e
 | some i=>
  rw [h] at e
  rw [Ab2 h]
  cases i with
  | ofNat m=>exact congrArg _ (congrArg _ (A9 e))
  | negSucc m=>exact no1 e
theorem Ad0 {v:SV}(e:Ad8 v=true):v = .none:=by
 cases v with
 | none=>rfl
 | _=>exact B3 e
theorem Ab8 {α:Type}{l:List α}(e:Ae9 l=true):l = []:=by
 cases l with
 | nil=>rfl
 | cons _ _=>exact B3 e
theorem Ad7 {α:Type}{l:List α}{a:α}(e:one l=some a):l = [a]:=by
 cases l with
 | nil=>exact no1 e
 | cons b l=>cases l with
  | nil=>exact congrArg (λx=>[x]) (A9 e)
  | cons _ _=>exact no1 e
theorem Bf0 {α:Type}{l:List α}{a:α×α}(e:two l=some a):l = [a.1,a.2]:=by
 cases l with
 | nil=>exact no1 e
 | cons b l=>
  unfold two at e
  dsimp only at e
  cases h:one l with
  | none=>rw [h] at e;exact no1 e
  | some c=>simp only [h] at e;rw [Ad7 h,← A9 e]
section
@[simp] theorem MK.s_inj {x y:Str}:(MK.s x=MK.s y)=(x=y):=propext ⟨λh=>by cases h;rfl,λh=>h▸rfl⟩
@[simp] theorem MK.i_inj {x y:Int}:(MK.i x=MK.i y)=(x=y):=propext ⟨λh=>by cases h;rfl,λh=>h▸rfl⟩
variable [HI:Hid]
abbrev pw:Program:=PySem.Challenge.pw_zu0006_03
noncomputable def MK.sv:MK→SV
 | .s x=>.str x
 | .i n=>.int n
theorem MK.is_inv {k:MK}{v:Value}(h:k.is v=true):(∃x t,k = .s x∧v = .str x t)∨(∃n t,k = .i n∧v = .int n t):=by
 cases k with
 | s x=>cases v with
  | str y t=>exact .inl ⟨x,t,rfl,of_decide_eq_true h▸rfl⟩
  | _=>exact B3 h
 | i n=>cases v with
  | int m t=>exact .inr ⟨n,t,rfl,of_decide_eq_true h▸rfl⟩
  | _=>exact B3 h
section
variable {A:Around}{E:Value→Shared→Prop}{s:Shared}{w:World}
theorem Cm7 {x:Str}{t:Tok}{n:Int}{u:Tok}{Q:Bool→Shared→Prop}(h:Q false s):wpAny (model pw w) A (eqBool (.str x t) (.int n u)) Q E s:=by
 refine wpAny_holding ?_
 exact wpAny_bind (EqMixed.eq_str_int (prog:=pw) (w:=w) (wpAny_truthy_bool h))
theorem Cm8 {x:Str}{t:Tok}{n:Int}{u:Tok}{Q:Bool→Shared→Prop}(h:Q false s):wpAny (model pw w) A (eqBool (.int n u) (.str x t)) Q E s:=by
 refine wpAny_holding ?_
 exact wpAny_bind (EqMixed.eq_int_str (prog:=pw) (w:=w) (wpAny_truthy_bool h))
end
def Aa1 (w:World):KeyKind pw w MK where
 is:=MK.is
 hash k:=match k with
  | .s x=>(PySem.strKind pw w).hash x
  | .i n=>(PySem.intKind pw w).hash n
 inj v a b ha hb:=by
  rcases MK.is_inv ha with ⟨x,t,rfl,rfl⟩ | ⟨n,t,rfl,rfl⟩<;>rcases MK.is_inv hb with ⟨y,u,rfl,h⟩ | ⟨m,u,rfl,h⟩<;>cases h<;>rfl
 byValue k v h:=by rcases MK.is_inv h with ⟨x,t,rfl,rfl⟩ | ⟨n,t,rfl,rfl⟩<;>rfl
 pyHash hv h:=by
  rcases MK.is_inv hv with ⟨x,t,rfl,rfl⟩ | ⟨n,t,rfl,rfl⟩
  ·exact (PySem.strKind pw w).pyHash (k:=x) (by simp [PySem.strKind,Value.isStrOf]) h
  ·exact (PySem.intKind pw w).pyHash (k:=n) (by simp [PySem.intKind,Value.isInt]) h
 eqBool hu hv h:=by
  rcases MK.is_inv hu with ⟨x,t,rfl,rfl⟩ | ⟨n,t,rfl,rfl⟩<;>rcases MK.is_inv hv with ⟨y,u,rfl,rfl⟩ | ⟨m,u,rfl,rfl⟩
  ·exact (PySem.strKind pw w).eqBool (a:=x) (b:=y) (by simp [PySem.strKind,Value.isStrOf]) (by simp [PySem.strKind,Value.isStrOf]) (by simpa using h)
  ·exact Cm7 (by simpa using h)
  ·exact Cm8 (by simpa using h)
  ·exact (PySem.intKind pw w).eqBool (a:=n) (b:=m) (by simp [PySem.intKind,Value.isInt]) (by simp [PySem.intKind,Value.isInt]) (by simpa using h)
 «strs» k x t v h:=by
  rcases MK.is_inv h with ⟨y,u,rfl,e⟩ | ⟨n,u,rfl,e⟩
  ·injection e with e;subst e
   cases v with
   | str z t=>show decide _=(_==_);rw [Bool.eq_iff_iff,decide_eq_true_eq,beq_iff_eq];exact ⟨Eq.symm,Eq.symm⟩
   | _=>rfl
  ·cases e
def DRs (as:List Addr)(h:Heap)(es:List (SV×SV))(kvs:List (MK×Value)):Prop:=
 es.length=kvs.length∧∀(i:Nat) (p:SV×SV) (q:MK×Value),es[i]?=some p→kvs[i]?=some q→p.1=q.1.sv∧VR as h p.2 q.2
theorem DRs.nil {as:List Addr}{h:Heap}:DRs as h [] []:=⟨rfl,λu0 u0 u0 e=>by simp at e⟩
theorem DRs.cons {as:List Addr}{h:Heap}{k:MK}{a:SV}{v:Value}{l:List (SV×SV)}{vs:List (MK×Value)}(x:VR as h a v)(y:DRs as h l vs):DRs as h ((k.sv,a)::l) ((k,v)::vs):=by
 refine ⟨by simp [y.1],λi p q e e'=>?_⟩
 cases i with
 | zero=>simp at e e';subst e e';exact ⟨rfl,x⟩
 | succ i=>simp at e e';exact y.2 i p q e e'
theorem DRs.cons_inv {as:List Addr}{h:Heap}{p:SV×SV}{l:List (SV×SV)}{vs:List (MK×Value)}(x:DRs as h (p::l) vs):∃k v ws,vs=(k,v)::ws∧p.1=k.sv∧VR as h p.2 v∧DRs as h l ws:=by
 refine oA x ?_;clear x;intro hl hx
 cases vs with
 | nil=>simp at hl
 | cons q ws=>exact ⟨q.1,q.2,ws,rfl,(hx 0 p q rfl rfl).1,(hx 0 p q rfl rfl).2,by simpa using hl,λi sv w e e'=>hx (i+1) sv w (by simpa using e) (by simpa using e')⟩
theorem DRs.nil_inv {as:List Addr}{h:Heap}{vs:List (MK×Value)}(x:DRs as h [] vs):vs = []:=by
 cases vs with
 | nil=>rfl
 | cons v ws=>have:=x.1;simp at this
theorem DRs.mono {as as':List Addr}{h h':Heap}(k:B2 h h')(p:∃ns,as'=as++ns){l:List (SV×SV)}{vs:List (MK×Value)}(x:DRs as h l vs):DRs as' h' l vs:=
 ⟨x.1,λi a b e e'=>⟨(x.2 i a b e e').1,(x.2 i a b e e').2.mono k p⟩⟩
theorem Av9 (a b:MK):keq a.sv b.sv=decide (a=b):=by
 cases a with
 | s x=>cases b with
  | s y=>exact Bool.eq_iff_iff.mpr (Ab0.trans (MK.s_inj▸decide_eq_true_iff.symm))
  | i n=>exact (decide_eq_false λh=>MK.noConfusion h).symm
 | i n=>cases b with
  | s y=>exact (decide_eq_false λh=>MK.noConfusion h).symm
  | i m=>exact Bool.eq_iff_iff.mpr (decide_eq_true_iff.trans (MK.i_inj▸decide_eq_true_iff.symm))
theorem DRs.get {as:List Addr}{h:Heap}:∀{l:List (SV×SV)} {vs:List (MK×Value)} {k:MK},DRs as h l vs→(∀v,Ak5 l k.sv=some v→∃u,valueAt vs k=some u∧VR as h v u)∧(Ak5 l k.sv=none→valueAt vs k=none)
 | [],vs,k,x=>by rw [x.nil_inv];exact ⟨λv e=>(by exact no1 e),λu0=>rfl⟩
 | p::l,vs,k,x=>by
  obtain ⟨j,v,ws,rfl,e,hv,r⟩:=x.cons_inv
  rw [show Ak5 (p::l) k.sv=(match keq p.1 k.sv with | true=>some p.2 | false=>Ak5 l k.sv) from rfl]
  unfold valueAt
  rw [e,Av9,List.find?_cons]
  by_cases q:j=k
  ·subst q
   simp only [decide_true,Option.map_some]
   exact ⟨λu z=>by cases z;exact ⟨v,rfl,hv⟩,λz=>by exact no3 z⟩
  ·simp only [q,decide_false]
   exact r.get
theorem Bl4 (j k:MK)(v u:Value)(ws:List (MK×Value))(hn:(((j,v)::ws).map (·.1)).Nodup):stored ((j,v)::ws) k u=if j=k then (j,u)::ws else (j,v)::stored ws k u:=by
 unfold stored
 refine (List.any_cons)▸?_
 by_cases q:j=k
 ·subst q
  rw [if_pos (by simp),if_pos rfl,List.map_cons,if_pos rfl]
  refine congrArg _ ?_
  have:j∉ws.map (·.1):=by
   rw [List.map_cons,List.nodup_cons] at hn;exact hn.1
  exact map_store_of_not_mem ws j u this
 ·rw [if_neg q]
  simp only [q,decide_false,Bool.false_or]
  split
  ·rw [List.map_cons,if_neg q]
  ·rfl
theorem DRs.put {as:List Addr}{h:Heap}:∀{l:List (SV×SV)} {vs:List (MK×Value)} {k:MK} {a:SV} {u:Value},DRs as h l vs→(vs.map (·.1)).Nodup→VR as h a u→DRs as h (Bk6 l k.sv a) (stored vs k u)
 | [],vs,k,a,u,x,_,y=>by rw [x.nil_inv];exact DRs.cons y DRs.nil
 | p::l,vs,k,a,u,x,hn,y=>by
  obtain ⟨j,v,ws,rfl,e,hv,r⟩:=x.cons_inv
  rw [Bl4 _ _ _ _ _ hn]
  rw [show Bk6 (p::l) k.sv a=(match keq p.1 k.sv with | true=>(p.1,a)::l | false=>p::Bk6 l k.sv a) from rfl]
  rw [e,Av9]
  by_cases q:j=k
  ·subst q
   simp only [decide_true,if_true]
   exact DRs.cons y r
  ·simp only [q,decide_false,if_false]
   have:p=(j.sv,p.2):=by exact e▸rfl
   exact this▸DRs.cons hv (r.put (by rw [List.map_cons,List.nodup_cons] at hn;exact hn.2) y)
theorem Ap0 {k:SV}(h:Bh6 k=true):∃m:MK,k=m.sv:=by
 cases k<;>first | (exact ⟨.s _,rfl⟩) | (exact ⟨.i _,rfl⟩) | exact B3 h
theorem VR.mkey {as:List Addr}{h:Heap}{m:MK}{v:Value}(x:VR as h m.sv v):m.is v=true:=by
 cases m with
 | s y=>cases x;exact decide_eq_true rfl
 | i n=>cases x;exact decide_eq_true rfl
theorem Bm5 {as:List Addr}{h:Heap}{a:SV}{k:MK}{v:Value}(e:mkOf a=some k)(x:VR as h a v):k.is v=true:=by
 cases a with
 | str s=>cases e;exact VR.mkey (m:=.s s) x
 | int i=>(replace e:=A9 e;subst e);exact VR.mkey (m:=.i i) x
 | key q=>cases e;cases x with | key _ _ h=>exact h
 | _=>exact no1 e
noncomputable abbrev Ar0 (vs:List Value)(n:Nat):Obj:={cls:=.type "list",data:=.seq vs.toArray n}
def OR (w:World)(as:List Addr)(h:Heap):A0→Addr→Prop
 | .list r n,a=>r.length≤n∧∃vs ep,h.get? a=some (Ar0 vs ep)∧VRs as h r.reverse vs
 | .dict es,a=>∃kvs,h.DictOf (Aa1 w) a kvs∧DRs as h es kvs
 | .idict m n,a=>∃kvs es,h.DictOf (Aa1 w) a kvs∧DRs as h es kvs∧(m=λi=>Ak5 es i.sv)∧es.length≤n
 | .lst0 x l n ob,a=>l≤n∧h.get? a=some ob∧∃vs ep,ob=Ar0 vs ep∧vs.length=l∧∀v ws,vs=v::ws→VR as h x v
 | .inst C d,a=>∃dx,as[d]?=some dx∧h.get? a=some {cls:=.ref C,dict:=some dx,data:=.plain}
 | .ns es,a=>∃m,h.Ns1 a m∧(∀n v,look es n=some v→∃u,m n=some u∧VR as h v u)∧(∀n,look es n=none→m n=none)
 | .cell v,a=>∃cv,h.IsCell a cv∧(match v with | some v=>∃u,cv=some u∧VR as h v u | none=>True)
 | .tab P,a=>a=P∧∃ps,h.get? a=some (tabObj ps)∧TriplesOk ps.toList
theorem Al7 {w:World}{h:Heap}{a:Addr}{kvs:List (MK×Value)}(x:h.DictOf (Aa1 w) a kvs):∃o,h.get? a=some o∧¬ Imm o:=
 x.elim λo q=>q.elim λes q=>q.elim λep q=>⟨o,q.1,Al6 q.2.2.1⟩
theorem Bi9 {w:World}{h h':Heap}{a:Addr}{kvs:List (MK×Value)}(e:∀ob,h.get? a=some ob→h'.get? a=some ob)(x:h.DictOf (Aa1 w) a kvs):h'.DictOf (Aa1 w) a kvs:=
 x.imp λo q=>q.imp λes q=>q.imp λep q=>⟨e _ q.1,q.2⟩
theorem OR.there {w:World}{as:List Addr}{h:Heap}{o:A0}{a:Addr}(x:OR w as h o a):∃ob,h.get? a=some ob∧¬ Imm ob:=by
 cases o with
 | list r n=>exact x.2.elim λvs q=>q.elim λep q=>⟨_,q.1,Ah0 rfl⟩
 | dict es=>exact x.elim λkvs q=>Al7 q.1
 | idict m n=>exact x.elim λkvs q=>q.elim λes q=>Al7 q.1
 | lst0 x l n ob=>exact x.2.2.elim λvs q=>q.elim λep q=>⟨_,x.2.1,Ah0 (q.1▸rfl)⟩
 | inst C d=>exact x.elim λdx q=>⟨_,q.2,Ck4 rfl⟩
 | cell v=>exact x.elim λcv q=>q.1.elim λo q=>⟨o,q.1,Bt1 q.2⟩
 | tab P=>exact x.2.elim λps q=>⟨_,q.1,Cz6 rfl⟩
 | ns es=>exact x.elim λm q=>q.1.elim λo q=>q.elim λes' q=>q.elim λep q=>⟨o,q.1,Al6 q.2.1⟩
theorem OR.mono {w:World}{as as':List Addr}{h h':Heap}{o:A0}{a:Addr}(k:B2 h h')(p:∃ns,as'=as++ns)(e:∀ob,h.get? a=some ob→h'.get? a=some ob)(x:OR w as h o a):OR w as' h' o a:=by
 cases o with
 | list r n=>exact ⟨x.1,x.2.imp λvs q=>q.imp λep q=>⟨e _ q.1,q.2.mono k p⟩⟩
 | dict es=>exact x.imp λkvs q=>⟨Bi9 e q.1,q.2.mono k p⟩
 | idict m n=>exact x.imp λkvs q=>q.imp λes q=>⟨Bi9 e q.1,q.2.1.mono k p,q.2.2⟩
 | lst0 y l n ob=>exact ⟨x.1,e _ x.2.1,x.2.2.imp λvs q=>q.imp λep q=>⟨q.1,q.2.1,λv ws r=>(q.2.2 v ws r).mono k p⟩⟩
 | inst C d=>exact x.imp λdx q=>⟨p.elim λns r=>r▸(List.getElem?_append_left (List.getElem?_eq_some_iff.mp q.1).1).trans q.1,e _ q.2⟩
 | ns es=>exact x.imp λm q=>⟨q.1.imp λo q=>q.imp λes' q=>q.imp λep q=>⟨e _ q.1,q.2⟩,λn v z=>(q.2.1 n v z).imp λu z=>⟨z.1,z.2.mono k p⟩,q.2.2⟩
 | cell v=>
  refine x.imp λcv q=>⟨q.1.imp λo q=>⟨e _ q.1,q.2⟩,?_⟩
  cases v with
  | none=>trivial
  | some v=>exact q.2.imp λu z=>⟨z.1,z.2.mono k p⟩
 | tab P=>exact ⟨x.1,x.2.imp λps q=>⟨e _ q.1,q.2⟩⟩
structure HR (w:World)(g0:Heap)(as:List Addr)(hp:List A0)(h:Heap):Prop where
 len:as.length=hp.length
 nd:as.Nodup
 lo:∀a∈as,g0.get? a=none
 base:∀b o,g0.get? b=some o→h.get? b=some o
 at_:∀(k:Nat) (o:A0),hp[k]?=some o→∃a,as[k]?=some a∧OR w as h o a
 hid:∀a∈Hid.off,g0.get? a=none∧∃o,h.get? a=some o
def Bk7 (h h':Heap):Prop:=∀a∈Hid.off,(∃o,h.get? a=some o)→∃o,h'.get? a=some o
theorem Bk7.of_keep {h h':Heap}(k:∀b o,h.get? b=some o→h'.get? b=some o):Bk7 h h':=λa _ ⟨o,e⟩=>⟨o,k a o e⟩
theorem Bk7.same {h h':Heap}{a:Addr}(hs:Heap.SameBut a h h')(hl:∃o,h'.get? a=some o):Bk7 h h':=λb _ ⟨o,e⟩=>by
 by_cases q:b=a
 ·subst q;exact hl
 ·exact ⟨o,(hs.2 b q).trans e⟩
theorem HR.hidL {w:World}{g0 h h':Heap}{as:List Addr}{hp:List A0}(x:HR w g0 as hp h)(k:Bk7 h h'):∀a∈Hid.off,g0.get? a=none∧∃o,h'.get? a=some o:=λa m=>⟨(x.hid a m).1,k a m (x.hid a m).2⟩
theorem HR.shown {w:World}{g0 h:Heap}{as:List Addr}{hp:List A0}(x:HR w g0 as hp h){a:Addr}(e:h.get? a=none):a∉Hid.off:=λm=>by
 refine oAE (x.hid a m) λu0 o q=>?_
 exact no1 (e.symm.trans q)
theorem HR.shown0 {w:World}{g0 h:Heap}{as:List Addr}{hp:List A0}(x:HR w g0 as hp h){a:Addr}{o:Obj}(e:g0.get? a=some o):a∉Hid.off:=λm=>by
 refine oA (x.hid a m) λq u0=>?_
 replace q:=e.symm.trans q;exact no3 q
theorem HR.mem {w:World}{g0 h:Heap}{as:List Addr}{hp:List A0}(x:HR w g0 as hp h){a:Addr}(ha:a∈as):∃(k:Nat) (o:A0),hp[k]?=some o∧as[k]?=some a∧OR w as h o a:=by
 obtain ⟨k,hk,e⟩:=List.getElem_of_mem ha
 have hk':k<hp.length:=x.len▸hk
 refine oEA (x.at_ k hp[k] (List.getElem?_eq_getElem hk')) λb hb r=>?_
 have e':as[k]?=some a:=by simp only [List.getElem?_eq_getElem hk,e]
 replace hb:=e'.symm.trans hb;cases hb
 exact ⟨k,hp[k],List.getElem?_eq_getElem hk',e',r⟩
theorem HR.lt {w:World}{g0 h:Heap}{as:List Addr}{hp:List A0}(x:HR w g0 as hp h){a:Addr}(ha:a∈as):a<h.objs.size:=by
 refine Ae3 (x.mem ha) λu0 u0 u0 u0 r=>?_
 obtain ⟨ob,ho,_⟩:=r.there
 exact Heap.lt_size ho
structure Stp (L:Option Addr)(as:List Addr)(h:Heap)(as':List Addr)(h':Heap):Prop where
 ext:∃ns,as'=as++ns∧∀a∈ns,h.get? a=none
 live:∀a o,h.get? a=some o→∃o',h'.get? a=some o'
 keep:∀a o,h.get? a=some o→a∉as→L≠some a→h'.get? a=some o
 imm:B2 h h'
theorem Stp.pre {L:Option Addr}{as as':List Addr}{h h':Heap}(x:Stp L as h as' h'):∃ns,as'=as++ns:=let ⟨ns,e,_⟩:=x.ext;⟨ns,e⟩
theorem Stp.refl (L:Option Addr)(as:List Addr)(h:Heap):Stp L as h as h:=⟨⟨[],by simp,λu0 h=>(nomatch h)⟩,λu0 o e=>⟨o,e⟩,λu0 u0 e u0 u0=>e,B2.refl h⟩
theorem Stp.trans {L:Option Addr}{as₁ as₂ as₃:List Addr}{h₁ h₂ h₃:Heap}(x:Stp L as₁ h₁ as₂ h₂)(y:Stp L as₂ h₂ as₃ h₃):Stp L as₁ h₁ as₃ h₃:=by
 refine oEA (x.ext) λns e l=>?_
 refine oEA (y.ext) λms e' l'=>?_
 refine ⟨⟨ns++ms,by rw [e',e,List.append_assoc],λa ha=>?_⟩,λa o e=>let ⟨o',e'⟩:=x.live a o e;y.live a o' e',λa o ho hn hL=>?_,x.imm.trans y.imm⟩
 ·rcases List.mem_append.mp ha with h | h
  ·exact l a h
  ·cases q:h₁.get? a with
   | none=>rfl
   | some o=>
    obtain ⟨o',q'⟩:=x.live a o q
    exact no1 ((l' a h).symm.trans q')
 ·refine y.keep a o (x.keep a o ho hn hL) (λhm=>?_) hL
  rw [e] at hm
  rcases List.mem_append.mp hm with h | h
  ·exact hn h
  ·exact no1 ((l a h).symm.trans ho)
theorem Stp.any {L:Option Addr}{as as':List Addr}{h h':Heap}(x:Stp none as h as' h'):Stp L as h as' h':=⟨x.ext,x.live,λa o e n u0=>x.keep a o e n λh=>no1 h,x.imm⟩
theorem Stp.of_keep {as:List Addr}{h h':Heap}(k:∀b o,h.get? b=some o→h'.get? b=some o):Stp none as h as h':=
 ⟨⟨[],by simp,λu0 h=>(nomatch h)⟩,λu0 u0 e=>⟨_,k _ _ e⟩,λa o e u0 u0=>k a o e,B2.of_keep k⟩
theorem Stp.same {as:List Addr}{h h':Heap}{a:Addr}{ob:Obj}(ha:a∈as)(hob:h.get? a=some ob)(hni:¬ Imm ob)(hs:Heap.SameBut a h h')(hl:∃o',h'.get? a=some o'):Stp none as h as h':=
 ⟨⟨[],by simp,λu0 h=>(nomatch h)⟩,λb o e=>by
  by_cases q:b=a
  ·subst q;exact hl
  ·exact ⟨o,(hs.2 b q).trans e⟩,λb o' e hn u0=>(hs.2 b λq=>hn (q▸ha)).trans e,B2.same hs hob hni⟩
theorem VR.step {L:Option Addr}{as as':List Addr}{h h':Heap}{sv:SV}{v:Value}(x:VR as h sv v)(S:Stp L as h as' h'):VR as' h' sv v:=x.mono S.imm S.pre
theorem VRs.step {L:Option Addr}{as as':List Addr}{h h':Heap}{l:List SV}{vs:List Value}(x:VRs as h l vs)(S:Stp L as h as' h'):VRs as' h' l vs:=x.mono S.imm S.pre
def FR (as:List Addr)(h:Heap)(L:Addr)(lc:List (Str×SV)):Prop:=
 ∃m,h.Ns L m∧∀n sv,look lc n=some sv→∃v,m n=some v∧VR as h sv v
structure EOk (env:Env)(c:EC):Prop where
 kind:env.scope.kind = .function
 names:∀n,env.kindOf n=look c.names n
 dbg:look c.names ("__debug__":Str)=none
 globals:env.globals=mainGlobals
 builtins:env.builtins=builtinsNs
 lam:∀k a,c.lam=some (k,a)→env.code = .ref a
structure In (w:World)(g0:Heap)(env:Env)(c:EC)(as:List Addr)(st:St)(h:Heap):Prop where
 hr:HR w g0 as st.hp h
 fr:FR as h env.locals st.lc
 off:env.locals∉as
 lo:g0.get? env.locals=none
 cells:∀n k,look c.cells n=some k→∃a,as[k]?=some a∧env.cells.lookup n=some a
theorem In.ltL {w:World}{g0 h:Heap}{env:Env}{c:EC}{as:List Addr}{st:St}(x:In w g0 env c as st h):env.locals<h.objs.size:=let ⟨_,hn,_⟩:=x.fr;hn.lt
section
variable {w:World}{g0 h h':Heap}{env:Env}{c:EC}{as:List Addr}{st:St}
theorem At6 {l:List Addr}(hn:l.Nodup){i j:Nat}{a b:Addr}(hi:l[i]?=some a)(hj:l[j]?=some b)(ne:i≠j):a≠b:=by
 intro e
 subst e
 obtain ⟨hi',ei⟩:=List.getElem?_eq_some_iff.mp hi
 obtain ⟨hj',ej⟩:=List.getElem?_eq_some_iff.mp hj
 exact ne ((List.getElem_inj hn).mp (ei.trans ej.symm))
theorem HR.upd {hp:List A0}{k:Nat}{a:Addr}{o:A0}(x:HR w g0 as hp h)(hk:as[k]?=some a)(hs:Heap.SameBut a h h')(ho:OR w as h' o a):HR w g0 as (set hp k o) h':=by
 refine Ae3 (x.mem (List.mem_of_getElem? hk)) λu0 u0 u0 u0 r=>?_
 obtain ⟨ob,hob,hni⟩:=r.there
 have im:=B2.same hs hob hni
 rw [Bq8]
 refine ⟨by simp only [List.length_set];exact x.len,x.nd,x.lo,λb o' e=>?_,λj p e=>?_,x.hidL (Bk7.same hs (let ⟨o',e,_⟩:=ho.there;⟨o',e⟩))⟩
 ·have hb:=x.base b o' e
  refine (hs.2 b λq=>?_).trans hb
  subst q
  exact no1 ((x.lo b (List.mem_of_getElem? hk)).symm.trans e)
 ·rw [List.getElem?_set] at e
  by_cases q:k=j
  ·subst q
   rw [if_pos rfl] at e
   split at e
   ·replace e:=A9 e;subst e;exact ⟨a,hk,ho⟩
   ·exact no1 e
  ·rw [if_neg q] at e
   refine oEA (x.at_ j p e) λb hb rb=>?_
   exact ⟨b,hb,rb.mono im ⟨[],by simp⟩ λob' e'=>(hs.2 b (At6 x.nd hb hk (Ne.symm q))).trans e'⟩
theorem FR.same {L a:Addr}{lc:List (Str×SV)}(x:FR as h L lc)(hs:Heap.SameBut a h h')(ne:L≠a)(im:B2 h h'):FR as h' L lc:=by
 refine oEA x λm hn hv=>?_
 exact ⟨m,hn.sameBut hs ne,λn sv e=>let ⟨v,a,b⟩:=hv n sv e;⟨v,a,b.mono im ⟨[],by simp⟩⟩⟩
theorem FR.keep {as':List Addr}{L:Addr}{lc:List (Str×SV)}(x:FR as h L lc)(k:∀o,h.get? L=some o→h'.get? L=some o)(im:B2 h h')(p:∃ns,as'=as++ns):FR as' h' L lc:=by
 refine oEA x λm z1 hv=>?_;obtain ⟨o,es,ep,ho,r⟩:=z1
 exact ⟨m,⟨o,es,ep,k _ ho,r⟩,λn sv e=>let ⟨v,a,b⟩:=hv n sv e;⟨v,a,b.mono im p⟩⟩
theorem In.upd {k:Nat}{a:Addr}{o:A0}(x:In w g0 env c as st h)(hk:as[k]?=some a)(hs:Heap.SameBut a h h')(ho:OR w as h' o a):
  In w g0 env c as {st with hp:=set st.hp k o} h'∧Stp none as h as h':=by
 have ha:=List.mem_of_getElem? hk
 refine Ae3 (x.hr.mem ha) λu0 u0 u0 u0 r=>?_
 obtain ⟨ob,hob,hni⟩:=r.there
 exact ⟨⟨x.hr.upd hk hs ho,x.fr.same hs (λe=>x.off (e▸ha)) (B2.same hs hob hni),x.off,x.lo,x.cells⟩,Stp.same ha hob hni hs (let ⟨o',e,_⟩:=ho.there;⟨o',e⟩)⟩
theorem HR.push {hp:List A0}{ob:Obj}{o:A0}(x:HR w g0 as hp h)(ho:OR w (as++[h.objs.size]) (h.push ob) o h.objs.size):HR w g0 (as++[h.objs.size]) (hp++[o]) (h.push ob):=by
 have kp:∀b o',h.get? b=some o'→(h.push ob).get? b=some o':=λb o' e=>Heap.get?_push_of_some _ e
 have hsz:g0.get? h.objs.size=none:=by
  cases q:g0.get? h.objs.size with
  | none=>rfl
  | some o=>exact absurd (Heap.lt_size (x.base _ _ q)) (Nat.lt_irrefl _)
 refine ⟨by simp [x.len],?_,λa ha=>?_,λb o' e=>kp _ _ (x.base b o' e),λj p e=>?_,x.hidL (Bk7.of_keep kp)⟩
 ·rw [List.nodup_append]
  refine ⟨x.nd,by simp,λa ha b hb e=>?_⟩
  have:=x.lt ha
  rw [List.mem_singleton] at hb
  exact absurd (e.trans hb) (Nat.ne_of_lt this)
 ·refine (List.mem_append.mp ha).elim (λq=>?_) λq=>?_
  ·exact x.lo a q
  ·exact (List.mem_singleton.mp q)▸hsz
 ·by_cases q:j<hp.length
  ·replace e:=(List.getElem?_append_left q).symm.trans e
   refine oEA (x.at_ j p e) λb hb rb=>?_
   exact ⟨b,by refine Eq.trans (List.getElem?_append_left (List.getElem?_eq_some_iff.mp hb).1) ?_;exact hb,rb.mono (B2.of_keep kp) ⟨_,rfl⟩ λob' e'=>kp _ _ e'⟩
  ·replace e:=(List.getElem?_append_right (Nat.le_of_not_lt q)).symm.trans e
   have:j-hp.length=0:=by
    cases z:j-hp.length with
    | zero=>rfl
    | succ n=>rw [z] at e;simp at e
   replace e:=this▸e
   cases e
   have hj:j=as.length:=by simp only [x.len];grind
   exact ⟨h.objs.size,by rw [hj,List.getElem?_append_right (Nat.le_refl _)];simp,ho⟩
end
end
section
variable [HI:Hid]
def AOk (A:Around)(n:Nat):Prop:=A.handled=none∧A.depth+n≤1000∧A.units+3*n+64≤9900
theorem AOk.le {A:Around}{n m:Nat}(x:AOk A n)(h:m≤n):AOk A m:=⟨x.1,by have:=x.2.1;lia,by have:=x.2.2;lia⟩
theorem AOk.deeper {A:Around}{n:Nat}(x:AOk A (n+1))(env:Env):AOk (A.deeper env) n:=
 ⟨x.1,by have:=x.2.1;show A.depth+1+n≤1000;lia,by have:=x.2.2;show A.units+3+3*n+64≤9900;lia⟩
theorem AOk.in1 {A:Around}{n:Nat}(x:AOk A (n+1)):AOk A.in1 n:=
 ⟨x.1,by have:=x.2.1;exact Nat.le_of_lt ‹_›,by have:=x.2.2;show A.units+1+3*n+64≤9900;lia⟩
theorem AOk.room {A:Around}{n:Nat}(x:AOk A (n+1)):A.depth<recursionLimit:=by have:=x.2.1;show A.depth<1000;lia
theorem AOk.unit {A:Around}{n:Nat}(x:AOk A n):A.units<cLine:=by have:=x.2.2;show A.units<9900;lia
section
variable {β γ:Type}{w:World}{g0:Heap}{env:Env}{c:EC}{A:Around}{as:List Addr}{st st1 st2:St}{s:Shared}
structure Ak8 (w:World)(G:Top)(g0:Heap):Prop where
 big:∃o,g0.get? sysModules=some o
 tab:∀t ks,G.tab t=some ks→t≠sysModules∧∃kvs:List (MK×Value),g0.DictOf (Aa1 w) t kvs∧kvs.map (·.1)=ks.map MK.s
def HT (w:World)(g0:Heap)(A:Around)(as:List Addr)(s:Shared)(hp':List A0)(P:List Addr→Heap→β→Prop)(t:Sem β):Prop:=
 ∀(Q:β→Shared→Prop) (E:Value→Shared→Prop),
  (∀as' h' tk b,HR w g0 as' hp' h'→Stp none as s.heap as' h'→P as' h' b→Q b {s with heap:=h',toks:=tk})→wpAny (model pw w) A t Q E s
def Tr (w:World)(g0:Heap)(env:Env)(c:EC)(A:Around)(as:List Addr)(s:Shared)(st':St)(P:List Addr→Heap→β→Prop)(t:Sem β):Prop:=
 ∀(Q:β→Shared→Prop) (E:Value→Shared→Prop),
  (∀as' h' tk b,In w g0 env c as' st' h'→Stp (some env.locals) as s.heap as' h'→P as' h' b→Q b {s with heap:=h',toks:=tk})→wpAny (model pw w) A t Q E s
abbrev PV (v:SV):List Addr→Heap→Value→Prop:=λas h x=>VR as h v x
abbrev PVs (l:List SV):List Addr→Heap→List Value→Prop:=λas h x=>VRs as h l x
abbrev PE (b:β):List Addr→Heap→β→Prop:=λu0 u0 x=>x=b
abbrev PU:List Addr→Heap→Unit→Prop:=λu0 u0 u0=>True
theorem HT.now {P:List Addr→Heap→β→Prop}{b:β}{hp:List A0}(x:HR w g0 as hp s.heap)(p:P as s.heap b):HT w g0 A as s hp P (pure b):=
 λQ E k=>wpAny_pure (k as s.heap s.toks b x (Stp.refl _ _ _) p)
theorem In.heap {as':List Addr}{h h':Heap}(x:In w g0 env c as st h)(y:HR w g0 as' st2.hp h')(S:Stp none as h as' h')(hl:st2.lc=st.lc):In w g0 env c as' st2 h':=by
 refine ⟨y,?_,λhm=>?_,x.lo,λn k e=>?_⟩
 ·simp only [hl]
  exact x.fr.keep (λo e=>S.keep _ _ e x.off λh=>no1 h) S.imm S.pre
 ·refine oEA (S.ext) λns e hb=>?_
  rw [e] at hm
  rcases List.mem_append.mp hm with q | q
  ·exact x.off q
  ·refine oEA (x.fr) λu0 z1 u0=>?_;obtain ⟨o,_,_,ho,_⟩:=z1
   exact no1 ((hb _ q).symm.trans ho)
 ·refine oEA (x.cells n k e) λa ha hc=>?_
  refine oEA (S.ext) λns e u0=>?_
  exact ⟨a,by rw [e,List.getElem?_append_left (List.getElem?_eq_some_iff.mp ha).1];exact ha,hc⟩
theorem Tr.of_HT {P:List Addr→Heap→β→Prop}{t:Sem β}(x:In w g0 env c as st s.heap)(hl:st2.lc=st.lc)(H:HT w g0 A as s st2.hp P t):Tr w g0 env c A as s st2 P t:=
 λQ E k=>H Q E λas' h' tk b y S p=>k as' h' tk b (x.heap y S hl) S.any p
theorem Tr.now {P:List Addr→Heap→β→Prop}{b:β}(x:In w g0 env c as st s.heap)(p:P as s.heap b):Tr w g0 env c A as s st P (pure b):=
 λQ E k=>wpAny_pure (k as s.heap s.toks b x (Stp.refl _ _ _) p)
theorem Tr.thn {P:List Addr→Heap→β→Prop}{P':List Addr→Heap→γ→Prop}{t:Sem β}{f:β→Sem γ}(x:Tr w g0 env c A as s st1 P t)
  (y:∀as1 h1 tk1 b,In w g0 env c as1 st1 h1→Stp (some env.locals) as s.heap as1 h1→P as1 h1 b→Tr w g0 env c A as1 {s with heap:=h1,toks:=tk1} st2 P' (f b)):Tr w g0 env c A as s st2 P' (t>>=f):=
 λQ E k=>wpAny_bind (x _ E λas1 h1 tk1 b i S p=>y as1 h1 tk1 b i S p Q E λas2 h2 tk2 b2 i2 S2 p2=>k as2 h2 tk2 b2 i2 (S.trans S2) p2)
theorem HT.thn {P:List Addr→Heap→β→Prop}{P':List Addr→Heap→γ→Prop}{t:Sem β}{f:β→Sem γ}{hp1 hp2:List A0}(x:HT w g0 A as s hp1 P t)
  (y:∀as1 h1 tk1 b,HR w g0 as1 hp1 h1→Stp none as s.heap as1 h1→P as1 h1 b→HT w g0 A as1 {s with heap:=h1,toks:=tk1} hp2 P' (f b)):HT w g0 A as s hp2 P' (t>>=f):=
 λQ E k=>wpAny_bind (x _ E λas1 h1 tk1 b i S p=>y as1 h1 tk1 b i S p Q E λas2 h2 tk2 b2 i2 S2 p2=>k as2 h2 tk2 b2 i2 (S.trans S2) p2)
theorem Tr.run {P:List Addr→Heap→β→Prop}{P':List Addr→Heap→γ→Prop}{t:Sem β}{Q:γ→Shared→Prop}{E:Value→Shared→Prop}{f:β→Sem γ}(x:Tr w g0 env c A as s st1 P t)
  (k:∀as' h' tk b,In w g0 env c as' st2 h'→Stp (some env.locals) as s.heap as' h'→P' as' h' b→Q b {s with heap:=h',toks:=tk})
  (y:∀as1 h1 tk1 b,In w g0 env c as1 st1 h1→Stp (some env.locals) as s.heap as1 h1→P as1 h1 b→Tr w g0 env c A as1 {s with heap:=h1,toks:=tk1} st2 P' (f b)):
  wpAny (model pw w) A t (λb s1=>wpAny (model pw w) A (f b) Q E s1) E s:=
 x _ E λas1 h1 tk1 b i S p=>y as1 h1 tk1 b i S p Q E λas2 h2 tk2 b2 i2 S2 p2=>k as2 h2 tk2 b2 i2 (S.trans S2) p2
theorem HR.grow {hp:List A0}{h h':Heap}(x:HR w g0 as hp h)(k:∀b o,h.get? b=some o→h'.get? b=some o):HR w g0 as hp h':=
 ⟨x.len,x.nd,x.lo,λb o e=>k _ _ (x.base b o e),λj p e=>let ⟨a,ha,r⟩:=x.at_ j p e;⟨a,ha,r.mono (B2.of_keep k) ⟨[],by simp⟩ λob e'=>k _ _ e'⟩,x.hidL (Bk7.of_keep k)⟩
theorem Ac2 (h:Heap):h.get? h.objs.size=none:=by
 cases q:h.get? h.objs.size with
 | none=>rfl
 | some o=>exact absurd (Heap.lt_size q) (Nat.lt_irrefl _)
theorem Stp.push {as:List Addr}{h:Heap}{ob:Obj}:Stp none as h (as++[h.objs.size]) (h.push ob):=
 ⟨⟨_,rfl,λa ha=>by exact (List.mem_singleton.mp ha)▸Ac2 h⟩,λu0 u0 e=>⟨_,Heap.get?_push_of_some _ e⟩,λu0 u0 e u0 u0=>Heap.get?_push_of_some _ e,B2.of_keep λu0 u0 e=>Heap.get?_push_of_some _ e⟩
theorem HR.set_ {hp:List A0}{k:Nat}{a:Addr}{o:A0}{h h':Heap}(x:HR w g0 as hp h)(hk:as[k]?=some a)(hs:Heap.SameBut a h h')(ho:OR w as h' o a):
  HR w g0 as (set hp k o) h'∧Stp none as h as h':=by
 refine Ae3 (x.mem (List.mem_of_getElem? hk)) λu0 u0 u0 u0 r=>?_
 obtain ⟨ob,hob,hni⟩:=r.there
 exact ⟨x.upd hk hs ho,Stp.same (List.mem_of_getElem? hk) hob hni hs (let ⟨o',e,_⟩:=ho.there;⟨o',e⟩)⟩
theorem HT.list {hp:List A0}{l:List SV}{vs:List Value}{n:Nat}(x:HR w g0 as hp s.heap)(v:VRs as s.heap l vs)(hn:l.length≤n)(hz:vs.length≤sizeLine):
  HT w g0 A as s (hp++[.list l.reverse n]) (PV (.loc hp.length)) (newList vs):=λQ E k=>by
 refine wpAny_newList ?_ hz
 have kp:∀b o',s.heap.get? b=some o'→(s.heap.push (Ar0 vs 0)).get? b=some o':=λb o' e=>Heap.get?_push_of_some _ e
 refine k (as++[s.heap.objs.size]) (s.heap.push (Ar0 vs 0)) s.toks _ (x.push ⟨by simpa using hn,vs,_,Heap.get?_push_size _ rfl,?_⟩) Stp.push (.loc _ _ ?_)
 ·rw [List.reverse_reverse];exact v.mono (B2.of_keep kp) ⟨_,rfl⟩
 ·rw [← x.len,List.getElem?_append_right (Nat.le_refl _)];simp
theorem HT.tuple {hp:List A0}{l:List SV}{vs:List Value}(x:HR w g0 as hp s.heap)(v:VRs as s.heap l vs)(hz:vs.length≤sizeLine):
  HT w g0 A as s hp (PV (.tup l)) (newTuple vs):=λQ E k=>by
 refine wpAny_newTuple ?_ hz
 have kp:∀b o',s.heap.get? b=some o'→(s.heap.push ({cls:=.type "tuple",data:=.seq vs.toArray}:Obj)).get? b=some o':=λb o' e=>Heap.get?_push_of_some _ e
 refine k as _ s.toks _ (x.grow kp) (Stp.of_keep kp) (.tup l vs _ ⟨x.shown (Ac2 _),_,Heap.get?_push_size _ rfl⟩ v.1 λi sv u e e'=>(v.2 i sv u e e').mono (B2.of_keep kp) ⟨[],by simp⟩)
theorem Aa6 {n:Nat}(h:small n=true):n≤sizeLine:=Nat.le_trans (Nat.le_of_ble_eq_true h) (by decide)
theorem Cl3 {α:Type}{n:Nat}{x:X α}{b:α}{ob:List Prop}(h:fits n x st=some (b,st2,ob)):small n=true∧x st=some (b,st2,ob):=by
 unfold fits at h
 cases e:small n with
 | true=>rw [e] at h;exact ⟨rfl,h⟩
 | false=>rw [e] at h;exact no1 h
theorem Cx3 {o:A0}{v:SV}{ob:List Prop}(h:new o st=some (v,st2,ob)):v = .loc st.hp.length∧st2 = {st with hp:=st.hp++[o]}∧ob = []:=by
 refine A4 h ?_;exact ⟨rfl,rfl,rfl⟩
theorem newL_some {r:List SV}{n:Nat}{v:SV}{ob:List Prop}(h:newL r n st=some (v,st2,ob)):small n=true∧v = .loc st.hp.length∧st2 = {st with hp:=st.hp++[.list r n]}∧ob = []:=by
 refine oA (Cl3 h) λa b=>?_
 exact ⟨a,Cx3 b⟩
theorem upd_some {k:Nat}{o:A0}{u:Unit}{ob:List Prop}(h:upd k o st=some (u,st2,ob)):st2 = {st with hp:=set st.hp k o}∧ob = []:=by
 cases h;exact ⟨rfl,rfl⟩
theorem owe_some {p:Prop}{u:Unit}{ob:List Prop}(h:owe p st=some (u,st2,ob)):st2=st∧ob = [p]:=by
 refine A4 h ?_;exact ⟨rfl,rfl⟩
theorem ask_some {a:SV}{ob:List Prop}(h:ask st=some (a,st2,ob)):st2.hp=st.hp∧st2.lc=st.lc∧ob = []:=by
 unfold ask at h
 cases ho:st.orc with
 | nil=>rw [ho] at h;exact no1 h
 | cons q l=>
  rw [ho] at h
  cases q with
  | val a=>cases h;exact ⟨rfl,rfl,rfl⟩
  | _=>exact no1 h
end
mutual
noncomputable def toPy:SV→PyData
 | .none=>.none
 | .bool b=>.bool b
 | .int i=>.int i
 | .str s=>.str s
 | .tup l=>.tuple (toPys l)
 | _=>.none
noncomputable def toPys:List SV→List PyData
 | []=>[]
 | a::l=>toPy a::toPys l
end
theorem Ch1 (l:List Nat):Cw3 l=true→l.all (· < 0x110000)=true:=by
 induction l with
 | nil=>exact λu0=>rfl
 | cons c r ih=>
  intro h
  change (match Nat.blt c 1114112 with | true=>Cw3 r | false=>false)=true at h
  cases e:Nat.blt c 1114112 with
  | true=>
   rw [e] at h
   simp only [List.all_cons,ih h,Bool.and_true]
   exact decide_eq_true (Nat.le_of_ble_eq_true e)
  | false=>rw [e] at h;exact B3 h
theorem An2 {s:Str}(h:Bm1 s=true):PyData.strOk s=true:=by
 unfold PyData.strOk
 exact (Array.all_toList)▸Ch1 _ h
theorem Ab3 {n:Nat}{a:SV}{l:List SV}(h:svOks n (a::l)=true):Au7 n a=true∧svOks n l=true:=by
 change (match Au7 n a with | true=>svOks n l | false=>false)=true at h
 cases e:Au7 n a with
 | true=>rw [e] at h;exact ⟨rfl,h⟩
 | false=>rw [e] at h;exact B3 h
def Ea4 (n:Nat)(d:PyData):Prop:=PyData.canLay0 d=true∧PyData.depth d≤n
def Cq6 (n:Nat)(d:List PyData):Prop:=PyData.canLayAll0 d=true∧PyData.depthAll d≤n
theorem Bs8 {n:Nat}(ih:∀v,Au7 n v=true→Ea4 n (toPy v))(l:List SV):svOks n l=true→Cq6 n (toPys l):=by
 induction l with
 | nil=>exact λu0=>⟨rfl,Nat.zero_le _⟩
 | cons a l il=>
  intro h
  have h2:=il (Ab3 h).2
  exact ⟨show (_&&_)=true by rw [(ih a (Ab3 h).1).1,h2.1];rfl,Nat.max_le.mpr ⟨(ih a (Ab3 h).1).2,h2.2⟩⟩
theorem Bs7 {n:Nat}(ih:∀m l,n=m+1→svOks m l=true→Cq6 m (toPys l))(v:SV)(h:Au7 n v=true):Ea4 n (toPy v):=by
 cases v with
 | none=>exact ⟨rfl,Nat.zero_le _⟩
 | bool _=>exact ⟨rfl,Nat.zero_le _⟩
 | int _=>exact ⟨rfl,Nat.zero_le _⟩
 | str s=>exact ⟨An2 h,Nat.zero_le _⟩
 | tup l=>cases n with
  | zero=>exact B3 h
  | succ n=>exact ⟨(ih n l rfl h).1,Nat.succ_le_succ (ih n l rfl h).2⟩
 | _=>exact B3 h
theorem Ag6 (n:Nat):∀v:SV,Au7 n v=true→Ea4 n (toPy v):=by
 induction n with
 | zero=>exact Bs7 λu0 u0 e=>Nat.noConfusion e
 | succ n ih=>exact Bs7 λm l e=>by cases e;exact Bs8 ih l
theorem Ao1 (n:Nat)(l:List SV):svOks n l=true→Cq6 n (toPys l):=Bs8 (Ag6 n) l
def Df3 (n:Nat):Prop:=∀(m:Nat) (a b:SV),Au7 n a=true→Au7 m b=true→veq a b=PyData.eqv (toPy a) (toPy b)
theorem Cs1 {n:Nat}(ih:Df3 n)(m:Nat)(a:List SV):∀b:List SV,svOks n a=true→svOks m b=true→veqs a b=PyData.eqvAll (toPys a) (toPys b):=by
 induction a with
 | nil=>exact λb u0 u0=>by cases b<;>rfl
 | cons a l il=>
  intro b ha hb
  cases b with
  | nil=>rfl
  | cons b k=>
   show (match veq a b with | true=>veqs l k | false=>false)=(PyData.eqv (toPy a) (toPy b)&&PyData.eqvAll (toPys l) (toPys k))
   rw [← ih m a b (Ab3 ha).1 (Ab3 hb).1,← il k (Ab3 ha).2 (Ab3 hb).2]
   cases veq a b<;>rfl
theorem Bo5 {α:Type}[DecidableEq α](a b:α):decide (a=b)=(a==b):=by rw [Bool.eq_iff_iff,decide_eq_true_eq,beq_iff_eq]
theorem Bp9 {n:Nat}(ih:∀k,n=k+1→Df3 k):Df3 n:=by
 intro m a b ha hb
 cases a with
 | none=>cases b<;>first | rfl | exact B3 hb
 | bool a=>cases b<;>first | rfl | exact Bo5 _ _ | exact B3 hb
 | int a=>cases b<;>first | rfl | exact Bo5 _ _ | exact B3 hb
 | str a=>cases b<;>first | rfl | exact Aq3 _ _ | exact B3 hb
 | tup l=>cases n with
  | zero=>exact B3 ha
  | succ n=>cases b with
   | tup k=>cases m with
    | zero=>exact B3 hb
    | succ m=>exact Cs1 (ih n rfl) m l k ha hb
   | _=>first | rfl | exact B3 hb
 | _=>exact B3 ha
theorem veq_ok (n:Nat):Df3 n:=by
 induction n with
 | zero=>exact Bp9 λu0 e=>Nat.noConfusion e
 | succ n ih=>exact Bp9 λk e=>by cases e;exact ih
theorem Cc0 (n m:Nat)(a b:SV):Au7 n a=true→Au7 m b=true→veq a b=PyData.eqv (toPy a) (toPy b):=veq_ok n m a b
theorem Ck3 {n m:Nat}{a:SV}(ha:Au7 n a=true){l:List SV}:svOks m l=true→inl a l=(toPys l).any λy=>PyData.eqv y (toPy a):=by
 induction l with
 | nil=>exact λu0=>rfl
 | cons b l ih=>
  intro h
  show (match veq b a with | true=>true | false=>inl a l)=(toPy b::toPys l).any _
  rw [List.any_cons,← Cc0 m n b a (Ab3 h).1 ha,← ih (Ab3 h).2]
  cases veq b a<;>rfl
def Cq5 (as:List Addr)(h:Heap)(n:Nat):Prop:=∀(v:SV) (x:Value),Au7 n v=true→VR as h v x→∃ads,Reads h x (toPy v) ads
theorem Ay7 {as:List Addr}{h:Heap}{n:Nat}(ih:Cq5 as h n)(l:List SV):∀vs:List Value,svOks n l=true→VRs as h l vs→∃ads,ReadsAll h vs (toPys l) ads:=by
 induction l with
 | nil=>exact λvs u0 x=>by exact (x.nil_inv)▸⟨[],ReadsAll.nil⟩
 | cons a l il=>
  intro vs e x
  obtain ⟨v,ws,rfl,p,q⟩:=x.cons_inv
  exact (ih a v (Ab3 e).1 p).elim λas1 r1=>(il ws (Ab3 e).2 q).elim λas2 r2=>⟨as1++as2,ReadsAll.cons r1 r2⟩
theorem Ay6 {as:List Addr}{h:Heap}{n:Nat}(ih:∀m,n=m+1→Cq5 as h m):Cq5 as h n:=by
 intro v x e r
 cases v with
 | none=>obtain rfl:=VR.noneI r;exact ⟨[],Reads.none⟩
 | bool b=>obtain rfl:=VR.boolI r;exact ⟨[],Reads.bool b⟩
 | int i=>obtain ⟨t,rfl⟩:=VR.intI r;exact ⟨[],Reads.int i t⟩
 | str s=>obtain ⟨t,rfl⟩:=VR.strI r;exact ⟨[],Reads.str s t⟩
 | tup l=>cases n with
  | zero=>exact B3 e
  | succ n=>
   refine Ae3 (r.tupI) λa vs z2 z3 hv=>?_;subst z2;obtain ⟨_,k,ho⟩:=z3
   exact (Ay7 (ih n rfl) l vs e hv).elim λads r=>⟨ads,Reads.tuple ho rfl rfl r⟩
 | _=>exact B3 e
theorem VR.reads {as:List Addr}{h:Heap}(n:Nat):∀(v:SV) (x:Value),Au7 n v=true→VR as h v x→∃ads,Reads h x (toPy v) ads:=by
 induction n with
 | zero=>exact Ay6 λu0 e=>Nat.noConfusion e
 | succ n ih=>exact Ay6 λm e=>by cases e;exact ih
theorem VRs.reads {as:List Addr}{h:Heap}(n:Nat)(l:List SV)(vs:List Value):svOks n l=true→VRs as h l vs→∃ads,ReadsAll h vs (toPys l) ads:=Ay7 (VR.reads n) l vs
section
variable {w:World}{g0:Heap}{A:Around}{as:List Addr}{st st':St}{s:Shared}{n:Nat}
theorem HT.of_ {β:Type}{P:List Addr→Heap→β→Prop}{t:Sem β}{hp:List A0}{b:β}(x:HR w g0 as hp s.heap)(p:P as s.heap b)
  (r:∀(Q:β→Shared→Prop) (E:Value→Shared→Prop),(∀tk,Q b {s with toks:=tk})→wpAny (model pw w) A t Q E s):HT w g0 A as s hp P t:=
 λQ E k=>r Q E λtk=>k as s.heap tk b x (Stp.refl _ _ _) p
def TruthC (w:World)(g0:Heap)(st st':St)(v:SV)(b:Bool):Prop:=st'=st∧∀{A as s x},HR w g0 as st.hp s.heap→VR as s.heap v x→HT w g0 A as s st.hp (PE b) (truthy x)
theorem Bb4 {v:SV}{b:Bool}{ob:List Prop}(e:Ax1 v st=some (b,st',ob)):TruthC w g0 st st' v b:=by
 cases v with
 | none=>refine A4 e ⟨rfl,λhr v=>?_⟩;rw [VR.noneI v];exact HT.of_ hr rfl λQ E k=>λu0 u0 u0=>k _
 | bool c=>refine A4 e ⟨rfl,λhr v=>?_⟩;simp only [VR.boolI v];exact HT.of_ hr rfl λQ E k=>wpAny_truthy_bool (k _)
 | int i=>refine A4 e ⟨rfl,λhr v=>?_⟩;refine oE (VR.intI v) λu0 z1=>?_;subst z1;exact HT.of_ hr rfl λQ E k=>truthy_int (by
   have:(i != 0)=decide (i≠0):=by rw [Bool.eq_iff_iff,bne_iff_ne,decide_eq_true_eq]
   rw [this];exact k _)
 | _=>exact no1 e
theorem OR.isList {h:Heap}{r:List SV}{m:Nat}{a:Addr}(x:OR w as h (.list r m) a):∃vs ep,h.get? a=some (Ar0 vs ep)∧VRs as h r.reverse vs:=x.2
theorem Aa4 {h:Heap}{a:Addr}{vs:List Value}{ep:Nat}(x:h.get? a=some (Ar0 vs ep)):h.IsList a vs.toArray:=⟨_,x,rfl,ep,rfl⟩
theorem HR.loc {hp:List A0}{h:Heap}{k:Nat}{o:A0}{x:Value}(y:HR w g0 as hp h)(v:VR as h (.loc k) x)(e:hp[k]?=some o):∃a,x = .ref a∧as[k]?=some a∧OR w as h o a:=
 v.inv.elim λa q=>(y.at_ k o e).elim λb r=>⟨a,q.1,q.2,A9 (r.1.symm.trans q.2)▸r.2⟩
@[elab_as_elim] theorem HR.locE {hp:List A0}{h:Heap}{k:Nat}{o:A0}{x:Value}{P:Value→Prop}(y:HR w g0 as hp h)(v:VR as h (.loc k) x)(e:hp[k]?=some o)(q:∀a,as[k]?=some a→OR w as h o a→P (.ref a)):P x:=
 (y.loc v e).elim λa r=>r.1▸q a r.2.1 r.2.2
@[elab_as_elim] theorem HR.listE {hp:List A0}{h:Heap}{k m:Nat}{r:List SV}{x:Value}{P:Value→Prop}(y:HR w g0 as hp h)(v:VR as h (.loc k) x)(e:hp[k]?=some (.list r m))
  (q:∀a vs ep,as[k]?=some a→r.length≤m→h.get? a=some (Ar0 vs ep)→VRs as h r.reverse vs→P (.ref a)):P x:=
 y.locE v e λa ha x=>x.2.elim λvs z=>z.elim λep z=>q a vs ep ha x.1 z.1 z.2
@[elab_as_elim] theorem VR.intE {h:Heap}{i:Int}{x:Value}{P:Value→Prop}(v:VR as h (.int i) x)(q:∀t,P (.int i t)):P x:=v.inv.elim λt e=>e▸q t
@[elab_as_elim] theorem VR.strE {h:Heap}{i:Str}{x:Value}{P:Value→Prop}(v:VR as h (.str i) x)(q:∀t,P (.str i t)):P x:=v.inv.elim λt e=>e▸q t
@[elab_as_elim] theorem VR.tupE {h:Heap}{l:List SV}{x:Value}{P:Value→Prop}(v:VR as h (.tup l) x)(q:∀a vs,Ab6 h a vs→VRs as h l vs→P (.ref a)):P x:=
 v.inv.elim λa z=>z.elim λvs z=>z.1▸q a vs z.2.1 z.2.2
theorem Aq2 {m:Nat}(x:AOk A n)(h:m≤63):A.units+m<cLine:=Nat.lt_of_lt_of_le (Nat.add_lt_add_left (Nat.lt_succ_of_le h) _) (Nat.le_trans (Nat.add_le_add_right (Nat.le_add_right _ (3*n)) 64) x.2.2)
theorem unit64 (x:AOk A n):A.units+64<cLine∨A.units+64=cLine:=Nat.lt_or_eq_of_le (Nat.le_trans (Nat.add_le_add_right (Nat.le_add_right _ (3*n)) 64) x.2.2)
theorem unit52 (x:AOk A n):A.units+52<cLine:=Aq2 x (by decide)
abbrev EqC (w:World)(g0:Heap)(A:Around)(as:List Addr)(s:Shared)(hp:List A0)(r:Bool)(x y:Value):Prop:=
 HT w g0 A as s hp (PV (.bool r)) (compareOp .Eq x y)∧HT w g0 A as s hp (PV (.bool !r)) (compareOp .NotEq x y)
variable {hp:List A0}{x y:Value}{a b:SV}
theorem Db9 (ea:Au7 50 a=true)(eb:Au7 50 b=true)(ok:AOk A n)(hr:HR w g0 as hp s.heap)(va:VR as s.heap a x)(vb:VR as s.heap b y):EqC w g0 A as s hp (veq a b) x y:=
 (VR.reads 50 a x ea va).elim λu0 ra=>(VR.reads 50 b y eb vb).elim λu0 rb=>by
  have la:=Ag6 50 a ea
  have lb:=Ag6 50 b eb
  exact (Cc0 50 50 a b ea eb)▸⟨HT.of_ hr (.bool _) λQ E k=>SeqAt.compareEq_reads ra rb la.1 lb.1 (Aq2 ok (Nat.le_trans (Nat.min_le_left _ _) (Nat.le_trans la.2 (by decide)))) (k _),HT.of_ hr (.bool _) λQ E k=>SeqAt.compareNe_reads ra rb la.1 lb.1 (Aq2 ok (Nat.le_trans (Nat.min_le_left _ _) (Nat.le_trans la.2 (by decide)))) (k _)⟩
theorem Bc5 {α:Type}(l:List α):Ae9 l=decide (l.length=0):=by cases l<;>rfl
theorem Dc0 {q p:List SV}{c d j k:Nat}(hx:hp[j]?=some (.list q c))(hy:hp[k]?=some (.list p d))(hn:(Ae9 q||Ae9 p)=true)(ok:AOk A n)(hr:HR w g0 as hp s.heap)(va:VR as s.heap (.loc j) x)(vb:VR as s.heap (.loc k) y):
  EqC w g0 A as s hp (Ae9 q&&Ae9 p) x y:=by
 refine hr.listE va hx λa vs ep ha hl ho hv=>?_
 refine hr.listE vb hy λb ws ep' hb hl' ho' hw=>?_
 have l1:=Aa4 ho
 have l2:=Aa4 ho'
 rw [Bc5,Bc5,← List.length_reverse (as:=q),← List.length_reverse (as:=p),hv.1,hw.1] at hn ⊢
 by_cases z:vs.length=ws.length
 ·have zv:vs.length=0:=by
   cases h:decide (vs.length=0) with
   | true=>exact of_decide_eq_true h
   | false=>rw [h] at hn;exact z.trans (of_decide_eq_true hn)
  have zw:=z▸zv
  obtain rfl:=List.eq_nil_of_length_eq_zero zv
  obtain rfl:=List.eq_nil_of_length_eq_zero zw
  exact ⟨HT.of_ hr (.bool _) λQ E k=>SeqAt.RcAt.lists (e:=λu0=>true) l1 l2 rfl ok.unit (λj h1 u0=>absurd h1 (Nat.not_lt_zero j)) pw w E Q (k _),
   HT.of_ hr (.bool _) λQ E k=>SeqAt.RcNeAt.lists (e:=λu0=>true) l1 l2 rfl ok.unit (λj h1 u0=>absurd h1 (Nat.not_lt_zero j)) pw w E Q (k _)⟩
 ·have hf:(decide (vs.length=0)&&decide (ws.length=0))=false:=by
   cases h:decide (vs.length=0) with
   | false=>rfl
   | true=>exact decide_eq_false λe=>z ((of_decide_eq_true h).trans e.symm)
  refine hf▸?_
  have sz:=bne_iff_ne.mpr z
  exact ⟨HT.of_ hr (.bool _) λQ E k=>SeqAt.RcAt.lists_lengths l1 l2 sz ok.unit pw w E Q (k _),HT.of_ hr (.bool _) λQ E k=>SeqAt.RcNeAt.lists_lengths l1 l2 sz ok.unit pw w E Q (k _)⟩
theorem Cm6 {l:List SV}(ok:AOk A n)(hr:HR w g0 as hp s.heap)(va:VR as s.heap (.tup l) x)(vb:VR as s.heap (.tup []) y):EqC w g0 A as s hp (Ae9 l) x y:=by
 refine va.tupE λa vs ht hv=>?_
 refine vb.tupE λb ws ht' hw=>?_
 obtain rfl:=hw.nil_inv
 have key:Ae9 l=((List.range (min vs.toArray.size ([]:List Value).toArray.size)).all (λu0=>true)&&vs.toArray.size==([]:List Value).toArray.size):=by
  rw [Bc5,hv.1]
  show _=((List.range (min vs.length 0)).all (λu0=>true)&&vs.length==0)
  rw [Nat.min_zero];exact Bo5 _ _
 rw [key]
 exact ⟨HT.of_ hr (.bool _) λQ E k=>SeqAt.RcAt.tuples (e:=λu0=>true) ht.tuple ht'.tuple ok.unit (λj u0 h=>absurd h (Nat.not_lt_zero j)) pw w E Q (k _),
  HT.of_ hr (.bool _) λQ E k=>SeqAt.RcNeAt.tuples (e:=λu0=>true) ht.tuple ht'.tuple ok.unit (λj u0 h=>absurd h (Nat.not_lt_zero j)) pw w E Q (k _)⟩
theorem Bl0 {r:Bool}(e:Bq2 a b=some r){P:Prop}(k:∀l,a = .tup l→b = .tup []→r=Ae9 l→P):P:=by
 unfold Bq2 at e
 cases ha:Ar8 a with
 | none=>rw [ha] at e;exact no1 e
 | some l=>cases hb:Ar8 b with
  | none=>rw [ha,hb] at e;exact no1 e
  | some m=>
   rw [ha,hb] at e
   cases m with
   | nil=>exact k l (Al8 ha) (Al8 hb) (A9 e).symm
   | cons _ _=>exact no1 e
def CmpEqC (w:World)(g0:Heap)(st st':St)(a b:SV)(r:Bool):Prop:=st'=st∧∀{A as s x y n},AOk A n→HR w g0 as st.hp s.heap→VR as s.heap a x→VR as s.heap b y→EqC w g0 A as s st.hp r x y
theorem Co0 {r:Bool}{ob:List Prop}(e:Co1 a b st=some (r,st',ob)):CmpEqC w g0 st st' a b r:=by
 unfold Co1 at e
 cases hj:Aj1 a with
 | some j=>
  rw [hj] at e
  refine A6 e λk hk e=>rawE e λp c hx e=>rawE e λq d hy e=>Aa3 e λh e=>?_
  simp only [Ab9 hj,Ab9 hk]
  exact A4 e ⟨rfl,λok hr va vb=>Dc0 hx hy h ok hr va vb⟩
 | none=>
  rw [hj] at e
  cases ht:Bq2 a b with
  | some z=>
   replace e:=ht▸e
   refine Bl0 ht λl ha hb hz=>?_
   simp only [ha,hb]
   exact A4 e ⟨rfl,λok hr va vb=>hz▸Cm6 ok hr va vb⟩
  | none=>
   rw [ht] at e
   exact Ag1 e λh1 h2 e=>A4 e ⟨rfl,λok hr va vb=>Db9 h1 h2 ok hr va vb⟩
end
section
variable {w:World}{g0:Heap}{G:Top}{A:Around}{as:List Addr}{st st':St}{s:Shared}{n:Nat}
theorem Ci1 {a b:Addr}(h:a≠b):(a==b)=false:=beq_eq_false_iff_ne.mpr h
theorem Am3 (T:Ak8 w G g0){hp:List A0}{h:Heap}(y:HR w g0 as hp h){k:Nat}{a:Addr}(e:as[k]?=some a):(a==sysModules)=false:=
 Ci1 λq=>T.big.elim λo h2=>no3 (h2.symm.trans (q▸y.lo a (List.mem_of_getElem? e)))
theorem Ag7 {a:SV}(ok:AOk A n)(ea:Au7 50 a=true)(l:Nat):A.units+1+min l (toPy a).depth<cLine:=by
 rw [Nat.add_assoc]
 exact Aq2 ok (Nat.le_trans (Nat.add_le_add_left (Nat.le_trans (Nat.min_le_right _ _) (Ag6 50 a ea).2) 1) (by decide))
theorem Cz2 {kvs:List (MK×Value)}{ks:List Str}(e:kvs.map (·.1)=ks.map MK.s)(s:Str):(valueAt kvs (MK.s s)).isSome=ks.any (seq s):=by
 unfold valueAt
 rw [Option.isSome_map,show (List.find? (λkv=>decide (kv.1=MK.s s)) kvs).isSome=kvs.any (λx=>decide (x.1=MK.s s)) from by rw [Bool.eq_iff_iff,List.find?_isSome,List.any_eq_true]]
 have:kvs.any (λx=>decide (x.1=MK.s s))=(kvs.map (·.1)).any (λx=>decide (x=MK.s s)):=by simp only [List.any_map];rfl
 simp only [this,e,List.any_map]
 refine congrArg (λf=>ks.any f) (funext λt=>?_)
 show decide (MK.s t=MK.s s)=seq s t
 rw [Bool.eq_iff_iff,Ab0,decide_eq_true_eq,MK.s_inj];exact eq_comm
abbrev InP (w:World)(g0:Heap)(A:Around)(as:List Addr)(s:Shared)(hp:List A0)(b:SV)(r:Bool)(x y:Value):Prop:=
 HT w g0 A as s hp (PV (.bool r)) (compareOp .In x y)∧(Ch6 b=true→HT w g0 A as s hp (PV (.bool !r)) (compareOp .NotIn x y))
variable {hp:List A0}{x y:Value}{a b:SV}
theorem in_tup {l:List SV}(ea:Au7 50 a=true)(el:svOks 50 l=true)(ok:AOk A n)(hr:HR w g0 as hp s.heap)(va:VR as s.heap a x)(vb:VR as s.heap (.tup l) y):InP w g0 A as s hp (.tup l) (inl a l) x y:=by
 refine (VR.reads 50 a x ea va).elim λu0 ra=>?_
 refine vb.tupE λb vs ht hv=>?_
 refine (VRs.reads 50 l vs el hv).elim λu0 rb=>?_
 obtain ⟨_,k,ho⟩:=ht
 have rt:=Reads.tuple ho rfl rfl rb
 refine (Ck3 ea el)▸?_
 exact ⟨HT.of_ hr (.bool _) λQ E k=>SeqAt.in_tuple_reads rt ra (Ao1 50 l el).1 (Ag6 50 a ea).1 (Ag7 ok ea _) (k _),
  λu0=>HT.of_ hr (.bool _) λQ E k=>SeqAt.notIn_tuple_reads rt ra (Ao1 50 l el).1 (Ag6 50 a ea).1 (Ag7 ok ea _) (k _)⟩
theorem Dt2 {k c:Nat}{l:List SV}(hx:hp[k]?=some (.list l c))(ea:Au7 50 a=true)(el:svOks 50 l.reverse=true)(ok:AOk A n)(hr:HR w g0 as hp s.heap)(va:VR as s.heap a x)(vb:VR as s.heap (.loc k) y):InP w g0 A as s hp (.loc k) (inl a l.reverse) x y:=by
 refine (VR.reads 50 a x ea va).elim λu0 ra=>?_
 refine hr.listE vb hx λb vs ep hb hl ho hv=>?_
 refine (VRs.reads 50 _ vs el hv).elim λu0 rl=>?_
 have rt:=Reads.list ho rfl rfl rl
 refine (Ck3 ea el)▸?_
 exact ⟨HT.of_ hr (.bool _) λQ E k=>SeqAt.in_list_reads rt ra (Ao1 50 _ el).1 (Ag6 50 a ea).1 (Ag7 ok ea _) (k _),
  λu0=>HT.of_ hr (.bool _) λQ E k=>SeqAt.notIn_list_reads rt ra (Ao1 50 _ el).1 (Ag6 50 a ea).1 (Ag7 ok ea _) (k _)⟩
theorem DRs.sameS {h:Heap}{es:List (SV×SV)}{kvs:List (MK×Value)}{m:MK}(dr:DRs as h es kvs):(Ak5 es m.sv).isSome=(valueAt kvs m).isSome:=by
 cases z:Ak5 es m.sv with
 | none=>rw [(dr.get (k:=m)).2 z];rfl
 | some v=>exact ((dr.get (k:=m)).1 v z).elim λu hu=>by rw [hu.1];rfl
theorem Dt4 {k:Nat}{es:List (SV×SV)}{m:MK}(T:Ak8 w G g0)(hx:hp[k]?=some (.dict es))(hr:HR w g0 as hp s.heap)(va:VR as s.heap m.sv x)(vb:VR as s.heap (.loc k) y):InP w g0 A as s hp (.loc k) (Ak5 es m.sv).isSome x y:=by
 refine hr.locE vb hx λb hb rb=>rb.elim λkvs rb=>?_
 refine (DRs.sameS rb.2)▸?_
 exact ⟨HT.of_ hr (.bool _) λQ E k=>wpAny_in_of (knd:=Aa1 w) va.mkey (Am3 T hr hb) rb.1.mapOf (k _),
  λu0=>HT.of_ hr (.bool _) λQ E k=>wpAny_notIn_of (knd:=Aa1 w) va.mkey (Am3 T hr hb) rb.1.mapOf (k _)⟩
theorem in_tab {t:Addr}{z:Str}{ks:List Str}(T:Ak8 w G g0)(hx:G.tab t=some ks)(hr:HR w g0 as hp s.heap)(va:VR as s.heap (.str z) x)(vb:VR as s.heap (.glb t) y):InP w g0 A as s hp (.glb t) (ks.any (seq z)) x y:=by
 refine oAEA (T.tab t ks hx) λne kvs hd hk=>?_
 simp only [vb.glbI,← Cz2 hk z]
 have hd':=(hd.keep hr.base).mapOf
 exact ⟨HT.of_ hr (.bool _) λQ E k=>wpAny_in_of (knd:=Aa1 w) (va.mkey (m:=.s z)) (Ci1 ne) hd' (k _),λu0=>HT.of_ hr (.bool _) λQ E k=>wpAny_notIn_of (knd:=Aa1 w) (va.mkey (m:=.s z)) (Ci1 ne) hd' (k _)⟩
theorem Dt3 {l:List Int}{i:Int}(hr:HR w g0 as hp s.heap)(va:VR as s.heap (.int i) x)(vb:VR as s.heap (.fset l) y):InP w g0 A as s hp (.fset l) (l.any λj=>decide (j=i)) x y:=
 va.intE λt=>vb.inv.elim λb z=>by
  simp only [z.1]
  refine Cw6 (z.2) λo es m t' ho hc hd hin=>?_
  exact ⟨HT.of_ hr (.bool _) λQ E k=>hin pw w i t A Q E s ho k,λh=>B3 h⟩
def IsinC (w:World)(g0:Heap)(st st':St)(a b:SV)(r:Bool):Prop:=st'=st∧∀{A as s x y n},AOk A n→HR w g0 as st.hp s.heap→VR as s.heap a x→VR as s.heap b y→InP w g0 A as s st.hp b r x y
theorem Di0 (T:Ak8 w G g0){r:Bool}{ob:List Prop}(e:isin G a b st=some (r,st',ob)):IsinC w g0 st st' a b r:=by
 unfold isin at e
 cases b with
 | tup l=>exact Ag1 e λea el e=>A4 e ⟨rfl,λok hr va vb=>in_tup ea el ok hr va vb⟩
 | fset l=>exact A6 e λi hi e=>A4 e ⟨rfl,λok hr va vb=>Dt3 hr (Ab2 hi▸va) vb⟩
 | loc k=>
  refine Cw5 e λo hx e=>?_
  cases o with
  | list q c=>exact Ag1 e λea el e=>A4 e ⟨rfl,λok hr va vb=>Dt2 hx ea el ok hr va vb⟩
  | dict es=>
   refine Aa3 e λek e=>?_
   refine oE (Ap0 ek) λm z1=>?_;subst z1
   exact A4 e ⟨rfl,λok hr va vb=>Dt4 T hx hr va vb⟩
  | _=>exact no1 e
 | glb t=>exact A6 e λz hz e=>A6 e λks hk e=>A4 e ⟨rfl,λok hr va vb=>in_tab T hk hr (Au2 hz▸va) vb⟩
 | _=>exact no1 e
theorem Bs9 {r:Bool}(e:isNone a=some r){h:Heap}(v:VR as h a x):(x == .none)=r:=by
 have go:∀{y:Value},(y == .none)=false→x=y→isNone a=some r→isNone a=some false→(x == .none)=r:=λh e q q'=>by rw [e,h];exact A9 (q'.symm.trans q)
 cases a with
 | none=>rw [v.noneI];exact A9 e
 | bool b=>exact go rfl v.boolI e rfl
 | int i=>exact v.intI.elim λt q=>go rfl q e rfl
 | str i=>exact v.strI.elim λt q=>go rfl q e rfl
 | tup l=>exact v.inv.elim λt q=>q.elim λu0 q=>go rfl q.1 e rfl
 | loc l=>exact v.inv.elim λt q=>go rfl q.1 e rfl
 | glb l=>exact go rfl v.glbI e rfl
 | typ l=>exact go rfl v.typI e rfl
 | blt l=>exact go rfl v.bltI e rfl
 | fset l=>exact v.inv.elim λt q=>go rfl q.1 e rfl
 | rng l=>exact v.inv.elim λt q=>q.elim λu0 q=>q.elim λu0 q=>q.elim λu0 q=>go rfl q.1 e rfl
 | key k=>rcases MK.is_inv v.inv with ⟨_,_,_,q⟩ | ⟨_,_,_,q⟩<;>exact go rfl q e rfl
 | _=>exact no1 e
theorem SRd.reads {h:Heap}(hr:HR w g0 as hp h){d:PyData}(q:SRd hp a d):∀{x:Value},VR as h a x→∃ads,Reads h x d ads:=
 SRd.rec (motive_1:=λa d u0=>∀{x:Value},VR as h a x→∃ads,Reads h x d ads) (motive_2:=λl ds u0=>∀{vs:List Value},VRs as h l vs→∃ads,ReadsAll h vs ds ads)
  (λi x v=>v.intE λt=>⟨[],.int i t⟩) (λi x v=>v.strE λt=>⟨[],.str i t⟩)
  (λl ds q ih x v=>v.tupE λa vs ht hv=>(ih hv).elim λads r=>ht.2.elim λk ho=>⟨ads,Reads.tuple ho rfl rfl r⟩)
  (λk n l ds e q ih x v=>hr.listE v e λa vs ep ha hl ho hv=>(ih (l.reverse_reverse▸hv)).elim λads r=>⟨a::ads,Reads.list ho rfl rfl r⟩)
  (λv=>by exact (v.nil_inv)▸⟨[],.nil⟩)
  (λa l d ds p q ip iq vs v=>by
   refine Ae3 (v.cons_inv) λv ws z2 y z=>?_;subst z2
   exact (ip y).elim λas1 r1=>(iq z).elim λas2 r2=>⟨as1++as2,.cons r1 r2⟩) q
def ToldC (st st':St)(t r:Bool)(ob:List Prop):Prop:=st'.hp=st.hp∧st'.lc=st.lc∧(All ob→r=t)
theorem Cc6 {t r:Bool}{ob:List Prop}(e:told G t st=some (r,st',ob)):ToldC st st' t r ob:=by
 unfold told at e
 cases ha:G.asks with
 | false=>rw [ha] at e;exact A4 e ⟨rfl,rfl,λu0=>rfl⟩
 | true=>
  rw [ha] at e
  refine askE e λa o e=>A6 e λu hu e=>?_
  refine oweE e λo e=>?_
  exact A4 e ⟨rfl,rfl,λh=>(h _ List.mem_cons_self).symm⟩
def Dj9 (w:World)(g0:Heap)(st st':St)(op:CmpOp)(a b:SV)(r:Bool):Prop:=st'.hp=st.hp∧st'.lc=st.lc∧
  ∀{A as s x y n},AOk A n→HR w g0 as st.hp s.heap→VR as s.heap a x→VR as s.heap b y→HT w g0 A as s st'.hp (PV (.bool r)) (compareOp op x y)
theorem Bu6 {op:CmpOp}{f:Int→Int→Bool}(hf:∀{A:Around} {E:Value→Shared→Prop} {s:Shared} {i j:Int} {t u:Tok} {Q:Value→Shared→Prop},Q (.bool (f i j)) s→wpAny (model pw w) A (compareOp op (.int i t) (.int j u)) Q E s)
  {r:Bool}{ob:List Prop}(e:cmpI G a b f st=some (r,st',ob))(hob:All ob):Dj9 w g0 st st' op a b r:=by
 refine A6 e λi hi e=>A6 e λj hj e=>?_
 have t:=Cc6 e
 simp only [Ab2 hi,Ab2 hj,t.2.2 hob]
 refine ⟨t.1,t.2.1,λ{A as s x y n} ok hr va vb=>?_⟩
 exact (t.1)▸va.intE λu0=>vb.intE λu0=>HT.of_ hr (.bool _) λQ E k=>hf (k s.toks)
theorem Dj9.not {op op':CmpOp}{r:Bool}{ob:List Prop}{m:X Bool}(e:notX m st=some (r,st',ob))(hob:All ob)(k:∀{q st1 o1},m st=some (q,st1,o1)→All o1→Dj9 w g0 st st1 op' a b (!q)):Dj9 w g0 st st' op' a b r:=by
 revert hob
 refine B5 e λq st1 o1 o2 h1 e hob=>?_
 exact A4 e (k h1 hob.left)
theorem cmp_s (T:Ak8 w G g0){op:CmpOp}{r:Bool}{ob:List Prop}(e:cmp G op a b st=some (r,st',ob))(hob:All ob):Dj9 w g0 st st' op a b r:=by
 cases op with
 | Eq=>
  change (match G.deep with | true=>λs:St=>some (true,s,[DEq s.hp a b]) | false=>Co1 a b) st=_ at e
  cases hd:G.deep with
  | false=>rw [hd] at e;exact have c:=Co0 (w:=w) (g0:=g0) e;⟨congrArg _ c.1,congrArg _ c.1,λok hr va vb=>c.1▸(c.2 ok hr va vb).1⟩
  | true=>
   rw [hd] at e
   revert hob;refine A4 e λhob=>?_
   obtain ⟨d,d1,d2,d3,d4,d5⟩:=hob _ List.mem_cons_self
   exact ⟨rfl,rfl,λ{A as s x y n} ok hr va vb=>(SRd.reads hr d4 va).elim λads ra=>(SRd.reads hr d5 vb).elim λbds rb=>
    HT.of_ hr (.bool _) λQ E k=>SeqAt.compareEq_reads ra rb d1 d1 (Aq2 ok (Nat.le_trans (Nat.min_le_left _ _) (Nat.le_trans d2 (by decide)))) (by exact d3▸k _)⟩
 | NotEq=>exact Dj9.not (op:=.Eq) e hob λh u0=>have c:=Co0 (w:=w) (g0:=g0) h;⟨congrArg _ c.1,congrArg _ c.1,λok hr va vb=>c.1▸(c.2 ok hr va vb).2⟩
 | Is=>
  refine Aa3 e λhn e=>?_
  refine (Ad0 hn)▸?_
  refine Ax4 e λh=>⟨rfl,rfl,λok hr va vb=>?_⟩
  rw [vb.noneI]
  exact HT.of_ hr (.bool _) λQ E k=>is_none (by exact (Bs9 h va)▸k _)
 | IsNot=>
  refine Aa3 e λhn e=>?_
  refine (Ad0 hn)▸?_
  refine Dj9.not (op:=.Is) e hob λh u0=>?_
  refine Ax4 h λh=>⟨rfl,rfl,λok hr va vb=>?_⟩
  rw [vb.noneI]
  exact HT.of_ hr (.bool _) λQ E k=>isNot_none (by exact (Bs9 h va)▸k _)
 | In=>exact have c:=Di0 (w:=w) T e;⟨congrArg _ c.1,congrArg _ c.1,λok hr va vb=>c.1▸(c.2 ok hr va vb).1⟩
 | NotIn=>exact Aa3 e λhn e=>Dj9.not (op:=.In) e hob λh u0=>have c:=Di0 (w:=w) T h;⟨congrArg _ c.1,congrArg _ c.1,λok hr va vb=>c.1▸(c.2 ok hr va vb).2 hn⟩
 | Lt=>exact Bu6 lt_int e hob
 | Gt=>exact Bu6 gt_int e hob
 | GtE=>exact Bu6 ge_int e hob
 | LtE=>exact Bu6 le_int e hob
end
end
section
set_option tactic.hygienic true
variable [HI:Hid]
section
variable {w:World}{g0:Heap}{G:Top}{A:Around}{as:List Addr}{st st':St}{s:Shared}{n:Nat}
theorem Dj5 {i:Int}(h:i.natAbs<2^64):Builtin.Int.intBits i≤64:=by
 unfold Builtin.Int.intBits
 split
 ·exact Nat.zero_le _
 ·rename_i z
  have hz:i.natAbs≠0:=by
   intro q;apply z;simpa using q
  have:=(Nat.log2_lt hz).mpr h
  assumption
theorem VR.tupAt {h:Heap}{l:List SV}{x:Value}(v:VR as h (.tup l) x):∃a vs,x = .ref a∧Ab6 h a vs∧VRs as h l vs:=by
 cases v with
 | tup _ vs a ht hl hx=>exact ⟨a,vs,rfl,ht,hl,hx⟩
theorem HR.pushT {h:Heap}{l:List SV}{vs:List Value}{hp:List A0}(x:HR w g0 as hp h)(v:VRs as h l vs):
  HR w g0 as hp (h.push (Dl7 vs 0))∧Stp none as h as (h.push (Dl7 vs 0))∧VR as (h.push (Dl7 vs 0)) (.tup l) (.ref h.objs.size):=by
 have kp:∀b o',h.get? b=some o'→(h.push (Dl7 vs 0)).get? b=some o':=λb o' e=>Heap.get?_push_of_some _ e
 exact ⟨x.grow kp,Stp.of_keep kp,.tup l vs _ ⟨x.shown (Ac2 _),_,Heap.get?_push_size _ rfl⟩ v.1 λi sv u e e'=>(v.2 i sv u e e').mono (B2.of_keep kp) ⟨[],by simp⟩⟩
theorem HR.pushL {h:Heap}{l:List SV}{vs:List Value}{hp:List A0}{n:Nat}(x:HR w g0 as hp h)(v:VRs as h l vs)(hn:l.length≤n):
  HR w g0 (as++[h.objs.size]) (hp++[.list l.reverse n]) (h.push (Ar0 vs 0))∧Stp none as h (as++[h.objs.size]) (h.push (Ar0 vs 0))∧VR (as++[h.objs.size]) (h.push (Ar0 vs 0)) (.loc hp.length) (.ref h.objs.size):=by
 have kp:∀b o',h.get? b=some o'→(h.push (Ar0 vs 0)).get? b=some o':=λb o' e=>Heap.get?_push_of_some _ e
 refine ⟨x.push ⟨by simpa using hn,vs,_,Heap.get?_push_size _ rfl,?_⟩,Stp.push,.loc _ _ ?_⟩
 ·rw [List.reverse_reverse];exact v.mono (B2.of_keep kp) ⟨_,rfl⟩
 ·rw [← x.len,List.getElem?_append_right (Nat.le_refl _)];simp
theorem HT.mkT {l:List SV}{vs:List Value}{t:Sem Value}{hp:List A0}(x:HR w g0 as hp s.heap)(v:VRs as s.heap l vs)
  (r:∀(Q:Value→Shared→Prop) (E:Value→Shared→Prop),Q (.ref s.heap.objs.size) {s with heap:=s.heap.push (Dl7 vs 0)}→wpAny (model pw w) A t Q E s):HT w g0 A as s hp (PV (.tup l)) t:=λQ E k=>
 r Q E (k as _ s.toks _ (x.pushT v).1 (x.pushT v).2.1 (x.pushT v).2.2)
theorem HT.mkL {l:List SV}{vs:List Value}{t:Sem Value}{hp:List A0}{n:Nat}(x:HR w g0 as hp s.heap)(v:VRs as s.heap l vs)(hn:l.length≤n)
  (r:∀(Q:Value→Shared→Prop) (E:Value→Shared→Prop),Q (.ref s.heap.objs.size) {s with heap:=s.heap.push (Ar0 vs 0)}→wpAny (model pw w) A t Q E s):HT w g0 A as s (hp++[.list l.reverse n]) (PV (.loc hp.length)) t:=λQ E k=>
 r Q E (k _ _ s.toks _ (x.pushL v hn).1 (x.pushL v hn).2.1 (x.pushL v hn).2.2)
theorem Cq2 {hp:List A0}{x y:List SV}{a b:Value}(hr:HR w g0 as hp s.heap)(va:VR as s.heap (.tup x) a)(vb:VR as s.heap (.tup y) b)(hz:x.length+y.length≤sizeLine):
  HT w g0 A as s hp (PV (.tup (x++y))) (binaryOp .Add a b):=by
 obtain ⟨t,vs,rfl,⟨_,n,ho⟩,hv⟩:=va.tupAt
 obtain ⟨u,ws,rfl,⟨_,n2,ho2⟩,hw⟩:=vb.tupAt
 have e:vs.toArray++ws.toArray=(vs++ws).toArray:=by simp
 by_cases hv0:vs = []
 ·subst hv0
  have:x = []:=List.eq_nil_of_length_eq_zero hv.1
  subst this
  exact HT.of_ hr vb λQ E k=>concat_meets ⟨_,ho,rfl⟩ ⟨_,ho2,rfl⟩ noFill_tuple_add seq_tuple_add PySem.F.slot_tuple_add PySem.F.entry_tuple_add (PySem.F.args_tuple_add_2 _ _)
   (tuple_addW0 t u ([]:List Value).toArray ws.toArray n n2 none none #[] #[] (by simp)) ⟨ho,ho2,k _⟩
 ·by_cases hw0:ws = []
  ·subst hw0
   have:y = []:=List.eq_nil_of_length_eq_zero hw.1
   subst this
   rw [List.append_nil]
   exact HT.of_ hr va λQ E k=>concat_meets ⟨_,ho,rfl⟩ ⟨_,ho2,rfl⟩ noFill_tuple_add seq_tuple_add PySem.F.slot_tuple_add PySem.F.entry_tuple_add (PySem.F.args_tuple_add_2 _ _)
    (tuple_addW1 t u vs.toArray ([]:List Value).toArray n n2 none none #[] #[] (by simpa using hv0) (by simp)) ⟨ho,ho2,k _⟩
  ·refine HT.mkT hr (hv.append hw) λQ E k=>?_
   refine concat_meets ⟨_,ho,rfl⟩ ⟨_,ho2,rfl⟩ noFill_tuple_add seq_tuple_add PySem.F.slot_tuple_add PySem.F.entry_tuple_add (PySem.F.args_tuple_add_2 _ _)
    (tuple_addW2 t u vs.toArray ws.toArray n n2 none none #[] #[] (by simpa using hv0) (by simpa using hw0) (by rw [List.size_toArray,List.size_toArray,← hv.1,← hw.1];exact hz)) ⟨ho,ho2,?_⟩
   rw [e];exact k
theorem Aw3 (v:Value):∀(n:Nat) (b:Array Value),(List.replicate n #[v]).foldl (λx1 x2=>x1++x2) b=b++(List.replicate n v).toArray
 | 0,b=>by simp
 | n+1,b=>by
  rw [List.replicate_succ,List.foldl_cons,Aw3 v n]
  rw [List.replicate_succ,Array.append_assoc]
  congr 1
  simp
theorem VRs.replicate {h:Heap}{a:SV}{v:Value}(x:VR as h a v):∀n,VRs as h (List.replicate n a) (List.replicate n v)
 | 0=>VRs.nil
 | n+1=>VRs.cons x (VRs.replicate x n)
theorem Ci6 {hp:List A0}{k c n:Nat}{v:SV}{a b:Value}(hr:HR w g0 as hp s.heap)(va:VR as s.heap (.loc k) a)(ho:hp[k]?=some (.list [v] c))(vb:VR as s.heap (.int (.ofNat n)) b)(hz:n≤10000000):
  HT w g0 A as s (hp++[.list (List.replicate n v) n]) (PV (.loc hp.length)) (binaryOp .Mult a b):=by
 obtain ⟨a,rfl,ha,ra⟩:=hr.loc va ho
 obtain ⟨vs,ep,hl,hv⟩:=ra.isList
 obtain ⟨u,ws,rfl,hu,hws⟩:=hv.cons_inv
 have:ws = []:=hws.nil_inv
 subst this
 cases vb with
 | int _ t=>
  have hv':VRs as s.heap (List.replicate n v) (List.replicate n u):=VRs.replicate hu n
  have h0:(Int.ofNat n).toNat=n:=rfl
  have hb:Int.ofNat n≤10000000:=by have:Int.ofNat n=(n:Int):=rfl;lia
  have hb0:0≤Int.ofNat n:=by have:Int.ofNat n=(n:Int):=rfl;simp +arith
  generalize Int.ofNat n=x at h0 hb hb0 ⊢
  have e1:¬ ((!Builtin.List.listFitsIndex x)=true):=by
   have h1:-(2^63:Int)≤x:=by lia
   have h2:x<(2^63:Int):=by lia
   unfold Builtin.List.listFitsIndex
   rw [decide_eq_true h1,decide_eq_true h2]
   exact Bool.false_ne_true
  have e2:¬ ([u].toArray.size*x.toNat>(2^63-1) / 8):=by
   rw [h0]
   show ¬ (1*n>_)
   lia
  have e3:¬ (Builtin.List.listTooLong ([u].toArray.size*x.toNat)=true):=by
   rw [h0]
   show ¬ (decide (1*n>sizeLine)=true)
   rw [decide_eq_false (by show ¬ (1*n>2^24);lia)]
   exact Bool.false_ne_true
  have key:=AutoListH.list___mul___list_int_3 a [u].toArray ep x t e1 e2 e3
  have:=HT.mkL (A:=A) (t:=binaryOp .Mult (.ref a) (.int x t)) hr hv' (Nat.le_of_eq (List.length_replicate ..)) λQ E k=>by
   refine wpAny_binaryOp_repeat_ref (T:="list") (U:="int") (by decide) ⟨_,hl,rfl⟩ (λs'=>typeIs_int s' _ t) noFill_list_mul F.fills_int_mul F.slot_int_rmul repeat_list F.slot_int_index.lookup
    (call_meets F.slot_int_rmul (typeIs_int s _ t) F.entry_int_rmul (F.args_int_rmul_2 _ _) (int___rmul___int_list _ t a _ ep)
     ⟨hl,rfl,⟨_,hl,rfl⟩,call_meets F.slot_list_mul ⟨_,hl,rfl⟩ F.entry_list_mul (F.args_list_mul_2 _ _)
      key
      ⟨hl,?_⟩⟩)
   rw [if_neg (by simp),h0]
   rw [show [u].toArray = #[u] from rfl,Aw3,Array.empty_append]
   exact k
  rwa [List.reverse_replicate] at this
theorem At0:fillsNumberSlot (.type "tuple") "mul"=pure false:=
 PySem.fillsNumberSlot_seq (id:="tuple.__mul__") (r:=some (.builtin "tuple.__rmul__")) F.slot_tuple_mul.lookup (by decide +kernel) F.slot_tuple_rmul.lookup (by decide +kernel)
theorem Bg1:seqRepeat? (.type "tuple")=pure (some (.builtin "tuple.__mul__")):=by
 unfold seqRepeat?
 rw [PySem.seqSlot_of (T:="tuple") (name:="__mul__") (id:="tuple.__mul__") F.slot_tuple_mul.lookup (by decide +kernel),PySem.seqSlot_of (T:="tuple") (name:="__rmul__") (id:="tuple.__rmul__") F.slot_tuple_rmul.lookup (by decide +kernel)]
 rfl
theorem Ax6 (a:Int)(t:Tok)(l:Addr)(items:Array Value)(n:Nat):
  Meets (Builtin.«int.__rmul__» ⟨[.int a t,.ref l],[]⟩) (λu0 R s=>s.heap.get? l=some {cls:=.type "tuple",dict:=none,data:=.seq items n,slots:=#[]}∧R (.ok (.ret Value.notImplemented)) s):=
 .of_wp λprog w A R s h=>by obtain ⟨hp,g,d,tk,os⟩:=s;obtain ⟨hl,h⟩:=h;wp_walk;exact ⟨_,rfl,h⟩
theorem Bw0 (l:Addr)(v:Value)(n:Nat)(x:Int)(u:Tok)(h0:2≤x)(h1:x≤10000000):
  Meets (Builtin.«tuple.__mul__» ⟨[.ref l,.int x u],[]⟩) (λu0 R s=>s.heap.get? l=some {cls:=.type "tuple",dict:=none,data:=.seq #[v] n,slots:=#[]}∧R (.ok (.ret (Value.ref s.heap.objs.size)))
   {s with heap:=s.heap.push {cls:=Value.type "tuple",data:=Data.seq (List.replicate x.toNat v).toArray}}):=
 .of_wp λprog w A R s h=>by
  obtain ⟨hp,g,d,tk,os⟩:=s;obtain ⟨hl,h⟩:=h
  wp_walk
  have c1:¬ ((decide (x < -2^63)||decide (x≥2^63))=true):=by
   rw [decide_eq_false (by lia),decide_eq_false (by lia)];exact Bool.false_ne_true
  have c2:¬ (((#[v]:Array Value).isEmpty||x==1)=true):=by
   rw [show (x==1)=false from beq_eq_false_iff_ne.mpr (by lia)];exact Bool.false_ne_true
  have c3:¬ ((decide (x≤0)||(#[v]:Array Value).isEmpty)=true):=by
   rw [decide_eq_false (by lia)];exact Bool.false_ne_true
  have c4:¬ (((#[v]:Array Value).size:Int)*x>(2^63-1) / 8):=by
   show ¬ ((1:Int)*x>_);lia
  have c5:¬ (Builtin.Tuple.tupleTooMany (((#[v]:Array Value).size:Int)*x)=true):=by
   show ¬ (decide ((1:Int)*x>sizeLine)=true)
   rw [decide_eq_false (by show ¬ ((1:Int)*x>((2^24:Nat):Int));lia)];exact Bool.false_ne_true
  rw [if_neg c1]
  show wpAny _ _ (Builtin.Tuple.tupleItemsOf (.ref l)>>=_) _ _ _
  refine wpAny_bind (tupleItemsOf_ ⟨_,hl,rfl,n,rfl⟩ ?_)
  dsimp only
  rw [if_neg c2,if_neg c3,if_neg c4,if_neg c5,Aw3,Array.empty_append]
  exact wpAny_bind (m:=Builtin.Tuple.tupleExact _) (wpAny_newObj_type (wpAny_pure ⟨_,rfl,h⟩) (by show (List.replicate x.toNat v).toArray.size≤2^24;rw [List.size_toArray,List.length_replicate];lia))
theorem Ci5 {hp:List A0}{n:Nat}{v:SV}{a b:Value}(hr:HR w g0 as hp s.heap)(va:VR as s.heap (.tup [v]) a)(vb:VR as s.heap (.int (.ofNat n)) b)(h2:2≤n)(hz:n≤10000000):
  HT w g0 A as s hp (PV (.tup (List.replicate n v))) (binaryOp .Mult a b):=by
 obtain ⟨l,vs,rfl,⟨_,m,ho⟩,hv⟩:=va.tupAt
 obtain ⟨u,ws,rfl,hu,hws⟩:=hv.cons_inv
 have:ws = []:=hws.nil_inv
 subst this
 cases vb with
 | int _ t=>
  have h0:(Int.ofNat n).toNat=n:=rfl
  have hb:Int.ofNat n≤10000000:=by have:Int.ofNat n=(n:Int):=rfl;lia
  have hb0:2≤Int.ofNat n:=by have:Int.ofNat n=(n:Int):=rfl;lia
  generalize Int.ofNat n=x at h0 hb hb0 ⊢
  subst h0
  exact HT.mkT hr (VRs.replicate hu x.toNat) λQ E k=>
   wpAny_binaryOp_repeat_ref (T:="tuple") (U:="int") (by decide) ⟨_,ho,rfl⟩ (λs'=>typeIs_int s' _ t) At0 F.fills_int_mul F.slot_int_rmul Bg1 F.slot_int_index.lookup
    (call_meets F.slot_int_rmul (typeIs_int s _ t) F.entry_int_rmul (F.args_int_rmul_2 _ _) (Ax6 _ t l _ m)
     ⟨ho,rfl,⟨_,ho,rfl⟩,call_meets F.slot_tuple_mul ⟨_,ho,rfl⟩ F.entry_tuple_mul (F.args_tuple_mul_2 _ _) (Bw0 l u m x t hb0 hb) ⟨ho,k⟩⟩)
end
end
section
variable [HI:Hid]
section
variable {w:World}{g0:Heap}{G:Top}{A:Around}{as:List Addr}{st st':St}{s:Shared}{n:Nat}
theorem All.one {p:Prop}{l:List Prop}(h:All (p::l)):p:=h p List.mem_cons_self
theorem All.tl {p:Prop}{l:List Prop}(h:All (p::l)):All l:=λq m=>h q (List.mem_cons_of_mem _ m)
def Dk0 (w:World)(g0:Heap)(st st':St)(op:Operator)(a b v:SV):Prop:=st'.lc=st.lc∧
  ∀{A as s x y n},AOk A n→HR w g0 as st.hp s.heap→VR as s.heap a x→VR as s.heap b y→HT w g0 A as s st'.hp (PV v) (binaryOp op x y)
def IntOk (w:World)(op:Operator)(i j r:Int):Prop:=∀{A:Around} {s:Shared} {t u:Tok} {Q:Value→Shared→Prop} {E:Value→Shared→Prop},A.handled=none→
 (∀tk tk',Q (.int r tk) {s with toks:=tk'})→wpAny (model pw w) A (binaryOp op (.int i t) (.int j u)) Q E s
variable {a b v:SV}{ob:List Prop}{op:Operator}
theorem Dk0.int {i j r:Int}(q:IntOk w op i j r):Dk0 w g0 st st op (.int i) (.int j) (.int r):=
 ⟨rfl,λok hr va vb=>va.intE λu0=>vb.intE λu0=>λQ E k=>q ok.1 λtk tk'=>k _ _ _ _ hr (Stp.refl _ _ _) (.int _ _)⟩
theorem Aw1 {f:Int→Int→X Int}(hf:∀{i j r st1 ob},f i j st=some (r,st1,ob)→All ob→st1=st∧IntOk w op i j r)
  (e:Bh7 a b f st=some (v,st',ob))(hob:All ob):Dk0 w g0 st st' op a b v:=
 A6 e λi hi e=>A6 e λj hj e=>by
  simp only [Ab2 hi,Ab2 hj]
  revert hob;refine B5 e λr st1 o1 o2 h e hob=>?_
  have q:=hf h hob.left
  refine A4 e ?_
  exact (q.1)▸.int q.2
theorem Cq3 {hp:List A0}{j k c d:Nat}{r q:List SV}{x y:Value}(hx:hp[j]?=some (.list r c))(hy:hp[k]?=some (.list q d))(hz:small (c+d)=true)(hr:HR w g0 as hp s.heap)(va:VR as s.heap (.loc j) x)(vb:VR as s.heap (.loc k) y):
  HT w g0 A as s (hp++[.list (q++r) (c+d)]) (PV (.loc hp.length)) (binaryOp .Add x y):=by
 refine hr.listE va hx λa vs ep ha hl ho hv=>?_
 refine hr.listE vb hy λb ws ep' hb hl' ho' hw=>?_
 have hn:(r.reverse++q.reverse).length≤c+d:=by simp only [List.length_append,List.length_reverse,List.length_reverse];exact Nat.add_le_add hl hl'
 rw [show q++r=(r.reverse++q.reverse).reverse by rw [← List.reverse_append,List.reverse_reverse]]
 refine HT.mkL hr (hv.append hw) hn λQ E k=>P.add_list ho ho' ?_ ?_
 ·rw [List.append_toArray];exact k
 ·rw [List.size_toArray,List.size_toArray,← List.length_append,← (hv.append hw).1];exact Nat.le_trans hn (Aa6 hz)
theorem Dz3 (e:De2 op a b st=some (v,st',ob))(hob:All ob):Dk0 w g0 st st' op a b v:=by
 cases op with
 | Add=>
  have int:Bh7 a b (λi j=>X.ret (i+j)) st=some (v,st',ob)→Dk0 w g0 st st' .Add a b v:=λe=>Aw1 (λh u0=>by refine A4 h ?_;exact ⟨rfl,λu0 k=>P.add_int (k _ _)⟩) e hob
  cases a with
  | tup x=>exact A6 e λy hy e=>Ad6 e λhz e=>A4 e (Al8 hy▸⟨rfl,λok hr va vb=>Cq2 hr va vb (Aa6 hz)⟩)
  | loc j=>
   refine A6 e λk hk e=>rawE e λr c hx e=>rawE e λq d hy e=>Ad6 e λhz e=>?_
   exact (Ab9 hk)▸A4 e ⟨rfl,λok hr va vb=>Cq3 hx hy hz hr va vb⟩
  | _=>exact int e
 | Sub=>exact Aw1 (λh u0=>by refine A4 h ?_;exact ⟨rfl,λu0 k=>P.sub_int (k _ _)⟩) e hob
 | Mult=>
  have int:Bh7 a b (λi j=>(owe (i.natAbs<2^64∨j.natAbs<2^64)).bnd λu0=>X.ret (i*j)) st=some (v,st',ob)→Dk0 w g0 st st' .Mult a b v:=
   λe=>Aw1 (λ{i j r st1 ob} h ho=>by
    revert ho;refine oweE h λo h ho=>?_
    exact A4 h ⟨rfl,λu0 k=>P.mul_int (k _ _) (ho.one.elim (λh=>IntMulOk.of_left (Dj5 h)) λh=>IntMulOk.of_right (Dj5 h))⟩) e hob
  cases a with
  | tup x=>
   refine A6 e λx hx e=>A6 e λn hn e=>Aa3 e λh2 e=>Ad6 e λhz e=>?_
   simp only [Ad7 hx,Al9 hn]
   exact A4 e ⟨rfl,λok hr va vb=>Ci5 hr va vb (Nat.le_of_ble_eq_true h2) (Nat.le_of_ble_eq_true hz)⟩
  | loc j=>
   refine A6 e λn hn e=>listE e λr c hx e=>A6 e λx hq e=>Ad6 e λhz e=>?_
   refine (Al9 hn)▸?_
   have hr:r = [x]:=by rw [← List.reverse_reverse r,Ad7 (l:=r.reverse) hq];rfl
   exact A4 e ⟨rfl,λok hr' va vb=>Ci6 hr' va (hr▸hx) vb (Nat.le_of_ble_eq_true hz)⟩
  | _=>exact int e
 | Mod=>
  exact Aw1 (λ{i j r st1 ob} h ho=>by
   revert ho;refine oweE h λo h ho=>?_
   exact A4 h ⟨rfl,λh k=>mod_int_or h (λz=>absurd z ho.one) λu0=>k _ _⟩) e hob
 | FloorDiv=>
  exact Aw1 (λ{i j r st1 ob} h ho=>by
   revert ho;refine oweE h λo h ho=>?_
   exact A4 h ⟨rfl,λh k=>floordiv_int_or h (λz=>absurd z ho.one.1) (λu0=>k _ _) λu0=>.inl (PyProof.noPylong_small ho.one.2)⟩) e hob
 | _=>exact no1 e
theorem Dh2 (e:powr a b st=some (v,st',ob)):st'=st∧Dk0 w g0 st st .Pow a b v:=
 A6 e λi hi e=>A6 e λn hn e=>Ag1 e λh1 h2 e=>by
  simp only [Ab2 hi,Al9 hn]
  have l1:=Nat.le_of_ble_eq_true h1
  have l2:=Nat.le_of_ble_eq_true h2
  have e0:(Int.ofNat n)=(n:Int):=rfl
  exact A4 e ⟨rfl,.int λu0 k=>pow_int_small (by simp +arith) (by lia) (by omega) (k _ _)⟩
theorem Bh8 {k n r j:Nat}(e:idxN k n r=some j):k≤10000000∧k<n∧r=j:=by
 unfold idxN at e
 cases h1:small k with
 | false=>replace e:=h1▸e;exact no1 e
 | true=>cases h2:Nat.blt k n with
  | false=>rw [h1,h2] at e;exact no1 e
  | true=>rw [h1,h2] at e;exact ⟨Nat.le_of_ble_eq_true h1,Nat.le_of_ble_eq_true h2,A9 e⟩
structure IdxOk (i:Int)(n k:Nat):Prop where
 lt:k<n
 lo:-(10000001:Int)≤i
 hi:i≤10000000
 at_:seqIndex? i n=some k
 pos:0≤i→i.toNat=k
 neg:i<0→(i+n).toNat=k∧-(n:Int)≤i
theorem Au9 {i:Int}{n k:Nat}(h:(if i<0 then i+n else i)=(k:Int))(l:k<n):seqIndex? i n=some k:=by
 unfold seqIndex?
 dsimp only
 rw [h,decide_eq_true (Int.natCast_nonneg k),decide_eq_true (Int.ofNat_lt.mpr l)];exact if_pos rfl
theorem Cz7 {i:Int}{n k:Nat}(e:idx i n=some k):IdxOk i n k:=by
 cases i with
 | ofNat m=>
  refine oAA (Bh8 e) λl1 l2 z2=>?_;subst z2
  exact ⟨l2,by lia,by lia,Au9 (if_neg (Int.not_lt.mpr (Int.natCast_nonneg m))) l2,λu0=>rfl,λh=>absurd h (Int.not_lt.mpr (Int.natCast_nonneg m))⟩
 | negSucc m=>
  refine oAA (Bh8 e) λl1 l2 z2=>?_;subst z2
  have l3:n-(m+1)<n:=Nat.sub_lt (Nat.lt_of_le_of_lt (Nat.zero_le _) l2) (Nat.succ_pos _)
  have l4:Int.negSucc m+n=((n-(m+1):Nat):Int):=by omega
  exact ⟨l3,by lia,by lia,Au9 ((if_pos (Int.negSucc_lt_zero m)).trans l4) l3,λh=>absurd h (Int.not_le.mpr (Int.negSucc_lt_zero m)),λu0=>⟨by refine Eq.trans (congrArg _ l4) ?_;rfl,by lia⟩⟩
end
section
variable {w:World}{g0:Heap}{G:Top}{A:Around}{as:List Addr}{st st':St}{s:Shared}{n:Nat}
def Subs (s:Shared)(x:Value):Prop:=∃T id,typeLookup (.type T) "__getitem__"=pure (some (.builtin id))∧s.TypeIs x T
abbrev GetP (w:World)(g0:Heap)(A:Around)(as:List Addr)(s:Shared)(hp:List A0)(v:SV)(x y:Value):Prop:=Subs s x∧HT w g0 A as s hp (PV v) (getItem x y)
variable {hp:List A0}{x y:Value}{i v:SV}{k:Nat}
theorem Dt7 {l:List SV}{i:Int}{k:Nat}(hk:idx i l.length=some k)(hv:l[k]?=some v)(hr:HR w g0 as hp s.heap)(va:VR as s.heap (.tup l) x)(vb:VR as s.heap (.int i) y):GetP w g0 A as s hp v x y:=by
 refine va.tupE λa vs ht hvs=>vb.intE λt=>(hvs.at hv).elim λu hu=>?_
 have q:=Cz7 hk
 exact ⟨⟨_,_,slot_tuple_getitem.lookup,ht.tup.typeIs⟩,HT.of_ hr hu.2 λQ E k=>
  PyProof.Rows.getItem_tuple ht.tup (Int.le_trans (by decide) q.lo) (Int.lt_of_le_of_lt q.hi (by decide)) (by rw [List.size_toArray,← hvs.1];exact q.at_) (by refine Eq.trans (List.getElem?_toArray) ?_;exact hu.1) (k _)⟩
theorem Da3 {r:List SV}{c:Nat}{i:Int}{j:Nat}(hx:hp[k]?=some (.list r c))(hk:idx i r.length=some j)(hv:r.reverse[j]?=some v)(hr:HR w g0 as hp s.heap)(va:VR as s.heap (.loc k) x)(vb:VR as s.heap (.int i) y):GetP w g0 A as s hp v x y:=by
 refine hr.listE va hx λa vs ep ha hl ho hvs=>vb.intE λt=>(hvs.at hv).elim λu hu=>?_
 have q:=Cz7 hk
 have hl:=Aa4 ho
 have hlen:r.length=vs.length:=r.length_reverse▸hvs.1
 refine ⟨⟨_,_,F.slot_list_getitem.lookup,hl.typeIs⟩,HT.of_ hr hu.2 λQ E k=>?_⟩
 by_cases hi:0≤i
 ·exact wpAny_getItem_list hl hi (Int.lt_of_le_of_lt q.hi (by decide)) (by simp only [q.pos hi,List.getElem?_toArray];exact hu.1) (k _)
 ·obtain ⟨h7,h8⟩:=q.neg (Int.not_le.mp hi)
  refine wpAny_getItem_list_neg hl (Int.not_le.mp hi) (by simp only [List.size_toArray,← hlen];exact h8) (Int.le_trans (by decide) q.lo) (x:=u) ?_ (k _)
  simp only [List.size_toArray,← hlen,h7,List.getElem?_toArray];exact hu.1
theorem Da4 {es:List (SV×SV)}{m:MK}(hx:hp[k]?=some (.dict es))(hv:Ak5 es m.sv=some v)(hr:HR w g0 as hp s.heap)(va:VR as s.heap (.loc k) x)(vb:VR as s.heap m.sv y):GetP w g0 A as s hp v x y:=
 hr.locE va hx λa ha z=>z.elim λkvs z=>((z.2.get (k:=m)).1 v hv).elim λu hu=>
  ⟨⟨_,_,F.slot_dict_getitem.lookup,z.1.mapOf.typeIs⟩,HT.of_ hr hu.2 λQ E k=>wpAny_getItem_of (knd:=Aa1 w) vb.mkey z.1.mapOf hu.1 (k _)⟩
theorem Cl0 {m:MK→Option SV}{c:Nat}{q:MK}(hx:hp[k]?=some (.idict m c))(hq:mkOf i=some q)(hm:m q=some v)(hr:HR w g0 as hp s.heap)(va:VR as s.heap (.loc k) x)(vb:VR as s.heap i y):GetP w g0 A as s hp v x y:=by
 refine hr.locE va hx λa ha z=>?_
 obtain ⟨kvs,es,hd,dr,hm',_⟩:=z
 replace hm:=hm'▸hm
 exact ((dr.get (k:=q)).1 v hm).elim λu hu=>⟨⟨_,_,F.slot_dict_getitem.lookup,hd.mapOf.typeIs⟩,HT.of_ hr hu.2 λQ E k=>wpAny_getItem_of (knd:=Aa1 w) (Bm5 hq vb) hd.mapOf hu.1 (k _)⟩
theorem Da2 {l c:Nat}{ob:Obj}(hx:hp[k]?=some (.lst0 v l c ob))(hl:0<l)(hr:HR w g0 as hp s.heap)(va:VR as s.heap (.loc k) x)(vb:VR as s.heap (.int 0) y):GetP w g0 A as s hp v x y:=by
 refine hr.locE va hx λa ha z=>vb.intE λt=>?_
 obtain ⟨_,ho,vs,ep,e,hlen,hvu⟩:=z
 cases vs with
 | nil=>simp only [← hlen] at hl;exact absurd hl (Nat.lt_irrefl 0)
 | cons u ws=>
 exact ⟨⟨_,_,F.slot_list_getitem.lookup,(Aa4 (e▸ho)).typeIs⟩,HT.of_ hr (hvu u ws rfl) λQ E k=>wpAny_getItem_list (Aa4 (e▸ho)) (Int.le_refl 0) (by decide) rfl (k _)⟩
theorem Cr6 (e:Dk5 v=true):v = .int 0:=by
 unfold Dk5 at e
 cases h:At3 v with
 | none=>rw [h] at e;exact B3 e
 | some n=>cases n with
  | zero=>exact Al9 h
  | succ n=>rw [h] at e;exact B3 e
def GetC (w:World)(g0:Heap)(st st':St)(o i v:SV):Prop:=st'.hp=st.hp∧st'.lc=st.lc∧
  ∀{A as s x y n},AOk A n→HR w g0 as st.hp s.heap→VR as s.heap o x→VR as s.heap i y→GetP w g0 A as s st'.hp v x y
theorem Bt7 {o:SV}{ob:List Prop}{l:List SV}{n:Nat}(e:((X.lift (Af3 i)).bnd λj=>X.lift ((idx j n).bind (at? l))) st=some (v,st',ob))
  (k:∀j m,i = .int j→idx j n=some m→l[m]?=some v→GetC w g0 st st o i v):GetC w g0 st st' o i v:=
 A6 e λj hj e=>by
  refine Ax4 e λh=>?_
  refine oEA (Option.bind_eq_some_iff.mp h) λm h1 h2=>?_
  exact k j m (Ab2 hj) h1 (at?_eq l m▸h2)
theorem geti_s {o:SV}{ob:List Prop}(e:geti o i st=some (v,st',ob))(hob:All ob):GetC w g0 st st' o i v:=by
 cases o with
 | tup l=>exact Bt7 e λj m hi h1 h2=>⟨rfl,rfl,λok hr va vb=>Dt7 h1 h2 hr va (hi▸vb)⟩
 | loc k=>
  refine Cw5 e λo hx e=>?_
  cases o with
  | list r c=>exact Bt7 e λj m hi h1 h2=>⟨rfl,rfl,λok hr va vb=>Da3 hx h1 h2 hr va (hi▸vb)⟩
  | dict es=>
   refine Aa3 e λh e=>?_
   refine oE (Ap0 h) λm z1=>?_;subst z1
   refine Ax4 e λh=>⟨rfl,rfl,λok hr va vb=>Da4 hx h hr va vb⟩
  | idict m c=>
   refine A6 e λq hq e=>askE e λa o e=>?_
   revert hob;refine oweE e λob e hob=>?_
   exact A4 e (λh=>⟨rfl,rfl,λok hr va vb=>Cl0 hx hq h hr va vb⟩) hob.one
  | lst0 x l c ob=>exact Ag1 e λh1 h2 e=>Cr6 h2▸A4 e ⟨rfl,rfl,λok hr va vb=>Da2 hx (Nat.le_of_ble_eq_true h1) hr va vb⟩
  | _=>exact no1 e
 | _=>exact no1 e
end
section
variable {w:World}{g0:Heap}{G:Top}{A:Around}{as:List Addr}{st st':St}{s:Shared}{n:Nat}
theorem Ce0 {α:Type}{l:List α}{k i:Nat}{a b:α}(e:(l.set k a)[i]?=some b):(k=i∧b=a)∨(k≠i∧l[i]?=some b):=by
 by_cases q:k=i
 ·subst q
  have h:k<l.length:=(List.length_set (as:=l) (i:=k) (a:=a))▸(List.getElem?_eq_some_iff.mp e).1
  rw [List.getElem?_set_self h] at e;exact .inl ⟨rfl,(A9 e).symm⟩
 ·rw [List.getElem?_set_ne q] at e;exact .inr ⟨q,e⟩
theorem VRs.set {h:Heap}{l:List SV}{vs:List Value}{a:SV}{v:Value}(x:VRs as h l vs)(y:VR as h a v)(k:Nat):VRs as h (l.set k a) (vs.set k v):=
 ⟨by rw [List.length_set,List.length_set,x.1],λi sv u e e'=>(Ce0 e).elim
  (λp=>(Ce0 e').elim (λq=>p.2▸q.2▸y) λq=>absurd p.1 q.1) λp=>(Ce0 e').elim (λq=>absurd q.1 p.1) λq=>x.2 i sv u p.2 q.2⟩
theorem Ah9 (p:SV×SV)(r:List (SV×SV))(k:SV):Ak5 (p::r) k=match keq p.1 k with | true=>some p.2 | false=>Ak5 r k:=rfl
theorem Bi7 (p:SV×SV)(r:List (SV×SV))(k v:SV):Bk6 (p::r) k v=match keq p.1 k with | true=>(p.1,v)::r | false=>p::Bk6 r k v:=rfl
theorem Ds6 {a:SV}{i:MK}(h:keq a i.sv=true):a=i.sv:=by
 cases i with
 | s x=>cases a with
  | str y=>exact congrArg _ (Ab0.mp h)
  | _=>exact B3 h
 | i n=>cases a with
  | int y=>exact congrArg _ (of_decide_eq_true h)
  | _=>exact B3 h
theorem Dc3 (i j:MK)(v:SV)(es:List (SV×SV)):(if j=i then some v else Ak5 es j.sv)=Ak5 (Bk6 es i.sv v) j.sv:=by
 have one:∀(k:SV) (r:List (SV×SV)),k=i.sv→Ak5 ((k,v)::r) j.sv=if j=i then some v else Ak5 r j.sv:=λk r h=>by
  rw [Ah9];simp only [h,Av9]
  by_cases q:j=i
  ·rw [if_pos q,decide_eq_true q.symm]
  ·rw [if_neg q,decide_eq_false λh=>q h.symm]
 induction es with
 | nil=>exact (one _ [] rfl).symm
 | cons p r ih=>
  simp only [Bi7,Ah9]
  cases hk:keq p.1 i.sv with
  | true=>
   have h:=Ds6 hk
   refine Eq.trans ?_ (one _ r h).symm
   by_cases q:j=i
   ·rw [if_pos q,if_pos q]
   ·rw [if_neg q,if_neg q,h,Av9,decide_eq_false λh=>q h.symm]
  | false=>
   show _=Ak5 (p::Bk6 r i.sv v) j.sv
   simp only [Ah9,← ih]
   by_cases q:j=i
   ·rw [if_pos q,if_pos q];simp only [q,hk]
   ·rw [if_neg q,if_neg q]
theorem Dc2 (k v:SV)(es:List (SV×SV)):(Bk6 es k v).length≤es.length+1:=by
 induction es with
 | nil=>exact Nat.le_refl _
 | cons p r ih=>
  rw [Bi7]
  cases keq p.1 k with
  | true=>exact Nat.le_succ _
  | false=>exact Nat.succ_le_succ ih
theorem HR.idict_put {h':Heap}{m:MK→Option SV}{c:Nat}{a:Addr}{kvs:List (MK×Value)}{es:List (SV×SV)}{i:MK}{v:SV}{u:Value}
  (hd:h'.DictOf (Aa1 w) a (stored kvs i u))(dr:DRs as h' es kvs)(hn:(kvs.map (·.1)).Nodup)(hm:m=λj=>Ak5 es j.sv)(hl:es.length≤c)(hv:VR as h' v u):
  OR w as h' (.idict (λj=>if j=i then some v else m j) (c+1)) a:=
 ⟨_,Bk6 es i.sv v,hd,dr.put (k:=i) hn hv,hm▸funext λj=>Dc3 i j v es,Nat.le_trans (Dc2 _ _ _) (Nat.succ_le_succ hl)⟩
theorem Ae5 {h:Heap}{a:Addr}{kvs:List (MK×Value)}(x:h.DictOf (Aa1 w) a kvs):(kvs.map (·.1)).Nodup:=by
 refine Bg6 x λu0 u0 u0 u0 u0 u0 u0 u0 q=>?_;exact q
abbrev SetP (w:World)(g0:Heap)(A:Around)(as:List Addr)(s:Shared)(hp:List A0)(x y z:Value):Prop:=HT w g0 A as s hp PU (setItem x y z)
variable {hp:List A0}{x y z:Value}{i v:SV}{k:Nat}
theorem VRs.same {h h':Heap}{l:List SV}{vs:List Value}(x:VRs as h l vs)(im:B2 h h'):VRs as h' l vs:=x.mono im ⟨[],(List.append_nil _).symm⟩
theorem DRs.same {h h':Heap}{l:List (SV×SV)}{vs:List (MK×Value)}(x:DRs as h l vs)(im:B2 h h'):DRs as h' l vs:=x.mono im ⟨[],(List.append_nil _).symm⟩
theorem VR.same {h h':Heap}{l:SV}{v:Value}(x:VR as h l v)(im:B2 h h'):VR as h' l v:=x.mono im ⟨[],(List.append_nil _).symm⟩
theorem Cu1 {r:List SV}{c m:Nat}(hx:hp[k]?=some (.list r c))(hk:idx (.ofNat m) r.length=some m)(hr:HR w g0 as hp s.heap)(va:VR as s.heap (.loc k) x)(vb:VR as s.heap (.int (.ofNat m)) y)(vc:VR as s.heap v z):
  SetP w g0 A as s (Mine.set hp k (.list (Mine.set r.reverse m v).reverse c)) x y z:=by
 refine hr.listE va hx λa vs ep ha hl ho hvs=>vb.intE λt=>?_
 have q:=Cz7 hk
 have hlen:r.length=vs.length:=r.length_reverse▸hvs.1
 refine λQ E K=>ki_setAt (items:=vs.toArray) (n:=ep) ho (Int.natCast_nonneg m) (Int.lt_of_le_of_lt q.hi (by decide)) (by simp only [List.size_toArray,← hlen];exact Int.ofNat_lt.mpr q.lt) ?_
 have hs:Heap.SameBut a s.heap (s.heap.update a (Obj.mapSeq (·.setIfInBounds (Int.toNat (Int.ofNat m)) z))):=Heap.SameBut.update ..
 have ho':(s.heap.update a (Obj.mapSeq (·.setIfInBounds (Int.toNat (Int.ofNat m)) z))).get? a=some (Ar0 (vs.set m z) ep):=by
  refine Eq.trans (Heap.get?_update_self _ ho rfl) ?_
  simp [Obj.mapSeq]
 obtain ⟨hr',S⟩:=hr.set_ (o:=.list (Mine.set r.reverse m v).reverse c) ha hs ⟨by simp only [List.length_reverse,Bq8,List.length_set,List.length_reverse];exact hl,_,_,ho',by
  rw [List.reverse_reverse,Bq8]
  exact (hvs.same (B2.same hs ho (Ah0 rfl))).set (vc.same (B2.same hs ho (Ah0 rfl))) m⟩
 exact K as _ s.toks () hr' S trivial
theorem Cu2 {es:List (SV×SV)}{m:MK}(hx:hp[k]?=some (.dict es))(hz:small es.length=true)(hr:HR w g0 as hp s.heap)(va:VR as s.heap (.loc k) x)(vb:VR as s.heap m.sv y)(vc:VR as s.heap v z):
  SetP w g0 A as s (Mine.set hp k (.dict (Bk6 es m.sv v))) x y z:=
 hr.locE va hx λa ha q=>q.elim λkvs q=>(Al7 q.1).elim λo ho=>λQ E K=>
  wpAny_setItem_pairs (knd:=Aa1 w) vb.mkey q.1 (λh' hd' hs=>by
   have im:B2 s.heap h':=B2.same hs ho.1 ho.2
   exact K as _ _ () (hr.set_ (o:=.dict (Bk6 es m.sv v)) ha hs ⟨_,hd',(q.2.same im).put (Ae5 q.1) (vc.same im)⟩).1 (hr.set_ (o:=.dict (Bk6 es m.sv v)) ha hs ⟨_,hd',(q.2.same im).put (Ae5 q.1) (vc.same im)⟩).2 trivial) (by exact (q.2.1)▸Aa6 hz)
theorem Cd9 {m:MK→Option SV}{c:Nat}{q:MK}(hx:hp[k]?=some (.idict m c))(hq:mkOf i=some q)(hz:small c=true)(hr:HR w g0 as hp s.heap)(va:VR as s.heap (.loc k) x)(vb:VR as s.heap i y)(vc:VR as s.heap v z):
  SetP w g0 A as s (Mine.set hp k (.idict (λj=>if j=q then some v else m j) (c+1))) x y z:=by
 refine hr.locE va hx λa ha d=>?_
 obtain ⟨kvs,es,hd,dr,hm,hl⟩:=d
 exact (Al7 hd).elim λo ho=>λQ E K=>wpAny_setItem_pairs (knd:=Aa1 w) (Bm5 hq vb) hd (λh' hd' hs=>by
   have im:B2 s.heap h':=B2.same hs ho.1 ho.2
   exact K as _ _ () (hr.set_ (o:=.idict (λj=>if j=q then some v else m j) (c+1)) ha hs (HR.idict_put hd' (dr.same im) (Ae5 hd) hm hl (vc.same im))).1 (hr.set_ (o:=.idict (λj=>if j=q then some v else m j) (c+1)) ha hs (HR.idict_put hd' (dr.same im) (Ae5 hd) hm hl (vc.same im))).2 trivial) (by exact (dr.1)▸Nat.le_trans hl (Aa6 hz))
def SetC (w:World)(g0:Heap)(st st':St)(o i v:SV):Prop:=st'.lc=st.lc∧
  ∀{A as s x y z n},AOk A n→HR w g0 as st.hp s.heap→VR as s.heap o x→VR as s.heap i y→VR as s.heap v z→SetP w g0 A as s st'.hp x y z
theorem Dg5 {o:SV}{u:Unit}{ob:List Prop}(e:seti o i v st=some (u,st',ob)):SetC w g0 st st' o i v:=
 A6 e λk hk e=>Cw5 e λo hx e=>by
  refine (Ab9 hk)▸?_
  cases o with
  | list r c=>
   refine A6 e λm hm e=>A6 e λj hj e=>?_
   have q:m=j:=(Cz7 hj).pos (Int.natCast_nonneg m)
   refine (Al9 hm)▸?_
   subst q
   exact A4 e ⟨rfl,λok hr va vb vc=>Cu1 hx hj hr va vb vc⟩
  | dict es=>
   refine Aa3 e λh e=>Ad6 e λhz e=>?_
   refine oE (Ap0 h) λm z1=>?_;subst z1
   exact A4 e ⟨rfl,λok hr va vb vc=>Cu2 hx hz hr va vb vc⟩
  | idict m c=>exact A6 e λq hq e=>Ad6 e λhz e=>A4 e ⟨rfl,λok hr va vb vc=>Cd9 hx hq hz hr va vb vc⟩
  | _=>exact no1 e
end
section
variable {w:World}{g0:Heap}{G:Top}{A:Around}{E:Value→Shared→Prop}{as:List Addr}{st st':St}{s:Shared}{n:Nat}
inductive Bd:SV→Value→Option Nat→Prop
 | none:Bd .none .none none
 | nat (k:Nat) (t:Tok):Bd (.int (.ofNat k)) (.int (.ofNat k) t) (some k)
theorem Cp5 {b:SV}{v:Value}{k:Option Nat}(x:Bd b v k){Q:Option Int→Shared→Prop}(h:Q (k.map Int.ofNat) s):wpAny (model pw w) A (Builtin.Slice.slicePartIndex v) Q E s:=by
 cases x with
 | none=>exact slicePart_none h
 | nat k t=>exact slicePart_int h
noncomputable def lowB (lo:Option Nat)(n:Nat):Nat:=match lo with | none=>0 | some k=>min k n
noncomputable def highB (hi:Option Nat)(n:Nat):Nat:=match hi with | none=>n | some k=>min k n
theorem adj_pos {k n:Nat}{a b:Int}:(if (k:Int)<0 then a else if (k:Int)>n then b else k)=if (k:Int)>n then b else k:=if_neg (Int.not_lt.mpr (Int.natCast_nonneg k))
theorem Ca5 (lo hi:Option Nat)(n:Nat):Builtin.Slice.sliceAdjust (lo.map Int.ofNat) (hi.map Int.ofNat) 1 (n:Int)=((lowB lo n:Int),(highB hi n:Int)):=by
 unfold Builtin.Slice.sliceAdjust
 have h1:¬ ((1:Int)<0):=by decide
 have hk:∀k:Nat,(Int.ofNat k)=(k:Int):=λu0=>rfl
 cases lo<;>cases hi<;>simp only [Option.map_none,Option.map_some,h1,if_false,hk,(λk=>Int.not_lt.mpr (Int.natCast_nonneg k)),lowB,highB]<;>(refine Prod.ext ?_ ?_<;>dsimp only<;>omega)
theorem Bx6 (a b:Nat):Builtin.Slice.slicePlaces (a:Int) (b:Int) 1=b-a:=by
 unfold Builtin.Slice.slicePlaces
 have h1:(1:Int)>0:=by decide
 simp only [h1,if_true,Int.ediv_one]
 by_cases q:(a:Int)<b
 ·rw [if_pos q];lia
 ·rw [if_neg q];lia
theorem Cv9 (xs:Array Value)(a b:Nat)(hb:b≤xs.size):((List.range (b-a)).filterMap λ(k:Nat)=>xs[((a:Int)+(k:Int)*1).toNat]?)=(xs.toList.take b).drop a:=by
 have e:(λ(k:Nat)=>xs[((a:Int)+(k:Int)*1).toNat]?)=λk=>xs[a+k]?:=by
  funext k
  have:((a:Int)+(k:Int)*1).toNat=a+k:=by lia
  rw [this]
 rw [e]
 have:=pick_run xs a (b-a)
 rw [List.filterMap_map] at this
 have e2:((λx=>xs[x]?)∘λx=>a+x)=λk=>xs[a+k]?:=rfl
 rw [e2] at this
 simp only [this,List.drop_take]
theorem As9 {sl:Addr}{b1 b2:SV}{vl vu:Value}{lo hi:Option Nat}{n:Nat}{Q:Int×Int×Nat→Shared→Prop}(hs:s.heap.IsSliceOf sl vl vu .none)(x:Bd b1 vl lo)(y:Bd b2 vu hi)
  (h:Q ((lowB lo n:Int),1,highB hi n-lowB lo n) s):wpAny (model pw w) A (Builtin.Slice.sliceApplied (.ref sl) (pure (n:Int))) Q E s:=by
 refine Bk4 (id hs) λos hos hcs hds=>?_
 refine wpAny_bind (wpAny_bind (wpAny_field hos hds (x:=vl) rfl (wpAny_bind (wpAny_field hos hds (x:=vu) rfl (wpAny_bind (wpAny_field hos hds (x:=.none) rfl (wpAny_pure ?_)))))))
 refine wpAny_bind (slicePart_none ?_)
 refine wpAny_bind (Cp5 x (wpAny_bind (Cp5 y (wpAny_bind (wpAny_pure ?_)))))
 show wpAny _ _ (match Builtin.Slice.sliceAdjust (lo.map Int.ofNat) (hi.map Int.ofNat) 1 (n:Int) with | (lo,hi)=>pure (lo,(1:Int),Builtin.Slice.slicePlaces lo hi 1)) _ _ s
 rw [Ca5]
 show wpAny _ _ (pure ((lowB lo n:Int),(1:Int),Builtin.Slice.slicePlaces (lowB lo n:Int) (highB hi n:Int) 1)) _ _ s
 rw [Bx6]
 exact wpAny_pure h
abbrev cutL (l:List Value)(lo hi:Option Nat)(n:Nat):List Value:=(l.take (highB hi n)).drop (lowB lo n)
theorem Bd3 (hi:Option Nat)(n:Nat):highB hi n≤n:=by
 cases hi with
 | none=>exact Nat.le_refl _
 | some k=>exact Nat.min_le_right _ _
theorem Dd6 {lo hi:Option Nat}{items:Array Value}(hw:((lowB lo items.size:Int)==0&&(1:Int)==1&&(highB hi items.size-lowB lo items.size)==items.size)=true):cutL items.toList lo hi items.size=items.toList:=by
 have h1:=(Bool.and_eq_true_iff.mp hw)
 have h2:lowB lo items.size=0:=Int.ofNat_eq_zero.mp (eq_of_beq (Bool.and_eq_true_iff.mp h1.1).1)
 have h3:highB hi items.size=items.size:=by rw [h2] at h1;exact eq_of_beq h1.2
 unfold cutL
 simp only [h2,h3,List.drop_zero];exact List.take_of_length_le (Nat.le_of_eq (Array.length_toList ..))
theorem Bf1 {t sl:Addr}{items:Array Value}{b1 b2:SV}{vl vu:Value}{lo hi:Option Nat}{Q:Value→Shared→Prop}(ht:IsTup s.heap t items)(hs:s.heap.IsSliceOf sl vl vu .none)(x:Bd b1 vl lo)(y:Bd b2 vu hi)
  (hsz:items.size≤sizeLine)
  (h1:cutL items.toList lo hi items.size=items.toList→Q (.ref t) s)
  (h2:Q (.ref s.heap.objs.size) {s with heap:=s.heap.push (Dl7 (cutL items.toList lo hi items.size) 0)}):wpAny (model pw w) A (getItem (.ref t) (.ref sl)) Q E s:=by
 have hdrop:sizeOk (.seq (cutL items.toList lo hi items.size).toArray):=by
  show Array.size _≤sizeLine
  simp only [List.size_toArray,List.length_drop]
  exact Nat.le_trans (Nat.sub_le _ _) (Nat.le_trans (List.length_take_le ..) (Nat.le_trans (Bd3 _ _) hsz))
 refine Bk4 (id hs) λos hos hcs hds=>?_
 have hTs:s.TypeIs (.ref sl) "slice":=⟨os,hos,hcs⟩
 unfold getItem
 try with_reducible refine wpAny_holding ?_
 first | refine wpAny_bind (wpAny_pure ?_) | skip
 refine wpAny_bind (wpAny_sequenceKey ht.typeIs (by decide) ?_)
 refine wpAny_bind (wpAny_callSpecial?_slot (name:=Str.ofString "__getitem__") ht.typeIs slot_tuple_getitem
  (wpAny_call_entry slot_tuple_getitem ht.typeIs entry_tuple_getitem ?_ (args_tuple_getitem _ _)))
 refine wpAny_bind (m:=Builtin.Tuple.tupleItemsOf (.ref t)) (tupleItemsOf_ ht ?_)
 refine wpAny_bind (wpAny_typeOf hTs ?_)
 refine wpAny_bind (As9 hs x y ?_)
 by_cases hw:((lowB lo items.size:Int)==0&&(1:Int)==1&&(highB hi items.size-lowB lo items.size)==items.size)=true
 ·show wpAny _ _ (if ((lowB lo items.size:Int)==0&&(1:Int)==1&&(highB hi items.size-lowB lo items.size)==items.size)=true then _ else _) _ _ s
  rw [if_pos hw]
  refine wpAny_bind (m:=Builtin.Tuple.tupleIsExact (.ref t)) ?_
  unfold Builtin.Tuple.tupleIsExact
  refine wpAny_bind (wpAny_typeOf ht.typeIs (wpAny_pure ?_))
  rw [if_pos (by rfl)]
  exact wpAny_bind (wpAny_rule (wpAny_pure ⟨_,rfl,wpAny_pure (h1 (Dd6 hw))⟩))
 ·show wpAny _ _ (if ((lowB lo items.size:Int)==0&&(1:Int)==1&&(highB hi items.size-lowB lo items.size)==items.size)=true then _ else _) _ _ s
  rw [if_neg hw,(λb hb=>Cv9 items _ b hb) _ (Bd3 _ _)]
  exact wpAny_bind (m:=Builtin.Tuple.tupleExact _) (wpAny_newObj_type (wpAny_pure ⟨_,rfl,wpAny_pure h2⟩) hdrop)
theorem VRs.take {h:Heap}{l:List SV}{vs:List Value}(x:VRs as h l vs)(k:Nat):VRs as h (l.take k) (vs.take k):=by
 refine ⟨by rw [List.length_take,List.length_take,x.1],λi sv u e e'=>?_⟩
 rw [List.getElem?_take] at e e'
 by_cases q:i<k
 ·rw [if_pos q] at e e';exact x.2 i sv u e e'
 ·rw [if_neg q] at e;exact no1 e
theorem VRs.drop {h:Heap}{l:List SV}{vs:List Value}(x:VRs as h l vs)(k:Nat):VRs as h (l.drop k) (vs.drop k):=
 ⟨by rw [List.length_drop,List.length_drop,x.1],λi sv u e e'=>x.2 _ sv u (List.getElem?_drop▸e) (List.getElem?_drop▸e')⟩
def IsBd (h:SV)(k:Option Nat):Prop:=∀{x:Value} {as:List Addr} {hp:Heap},VR as hp h x→Bd h x k
theorem bd_of {α:Type}{h:SV}{d:α}{f:Nat→α}{r:α}(e:(match Ad8 h with | true=>some d | false=>(At3 h).map f)=some r){P:Prop}(k:∀b,IsBd h b→(match b with | none=>d | some n=>f n)=r→P):P:=by
 cases q:Ad8 h with
 | true=>rw [q] at e;rw [Ad0 q] at k;exact k none (λv=>by exact (v.noneI)▸.none) (A9 e)
 | false=>
  rw [q] at e
  cases n:At3 h with
  | none=>rw [n] at e;exact no1 e
  | some n'=>rw [n] at e;rw [Al9 n] at k;exact k (some n') (λv=>v.intE λt=>.nat _ _) (A9 e)
theorem cut1_s {h:SV}{l l':List SV}(e:cut1 h l=some l'){P:Prop}(k:∀b,IsBd h b→l.take (highB b l.length)=l'→P):P:=
 bd_of e λb hb q=>k b hb (by
  rw [← q]
  cases b with
  | none=>exact List.take_of_length_le (Nat.le_refl _)
  | some n=>exact (List.take_eq_take_min ..).symm)
theorem cut0_s {h:SV}{l l':List SV}{m:Nat}(hm:l.length≤m)(e:cut0 h l=some l'){P:Prop}(k:∀b,IsBd h b→l.drop (lowB b m)=l'→P):P:=
 bd_of e λb hb q=>k b hb (by
  rw [← q]
  cases b with
  | none=>exact List.drop_zero
  | some n=>
   show l.drop (min n m)=l.drop n
   by_cases z:n≤m
   ·rw [Nat.min_eq_left z]
   ·rw [Nat.min_eq_right (Nat.le_of_not_le z),List.drop_of_length_le hm,List.drop_of_length_le (Nat.le_trans hm (Nat.le_of_not_le z))])
abbrev SlcP (w:World)(g0:Heap)(A:Around)(as:List Addr)(s:Shared)(hp:List A0)(v:SV)(x:Value)(sl:Addr):Prop:=Subs s x∧HT w g0 A as s hp (PV v) (getItem x (.ref sl))
variable {hp:List A0}{x a b c:Value}{sl:Addr}{lo hi sp v:SV}{k:Nat}
theorem Do0 {l:List SV}{k0 k1:Option Nat}(b0:IsBd lo k0)(b1:IsBd hi k1)(hz:small l.length=true)(hr:HR w g0 as hp s.heap)(vo:VR as s.heap (.tup l) x)(va:VR as s.heap lo a)(vb:VR as s.heap hi b)(hs:s.heap.IsSliceOf sl a b .none):
  SlcP w g0 A as s hp (.tup ((l.take (highB k1 l.length)).drop (lowB k0 l.length))) x sl:=by
 refine vo.tupE λt vs ht hv=>⟨⟨_,_,slot_tuple_getitem.lookup,ht.tup.typeIs⟩,λQ E k=>?_⟩
 have hv':=(hv.take (highB k1 l.length)).drop (lowB k0 l.length)
 have hlen:vs.toArray.size=l.length:=hv.1.symm
 refine Bf1 ht.tup hs (b0 va) (b1 vb) (by rw [hlen];exact Aa6 hz) (λhe=>?_) ?_
 ·rw [hlen] at he
  simp only [show (vs.take (highB k1 l.length)).drop (lowB k0 l.length)=vs from he] at hv'
  exact k as _ _ _ hr (Stp.refl _ _ _) (.tup _ vs t ht hv'.1 hv'.2)
 ·exact hlen▸k as _ s.toks _ (hr.pushT hv').1 (hr.pushT hv').2.1 (hr.pushT hv').2.2
theorem Ct8 {r:List SV}{m:Nat}(hx:hp[k]?=some (.list r m))(hz:small m=true)(hr:HR w g0 as hp s.heap)(vo:VR as s.heap (.loc k) x)(vc:VR as s.heap (.int (-1)) c)(hs:s.heap.IsSliceOf sl .none .none c):
  SlcP w g0 A as s (hp++[.list r.reverse m]) (.loc hp.length) x sl:=by
 revert hs
 refine hr.listE vo hx λt vs ep ha hl ho hv=>vc.intE λu hs=>?_
 have hlt:=Aa4 ho
 refine ⟨⟨_,_,F.slot_list_getitem.lookup,hlt.typeIs⟩,?_⟩
 rw [← r.reverse_reverse] at hl
 refine r.reverse_reverse▸HT.mkL hr hv.reverse hl λQ E k=>?_
 refine wpAny_getItem_list_slice (st:=some (Int.negSucc 0)) hlt hs .none .none (IsPart.int (Int.negSucc 0) u) (by decide) ?_ (by simp only [List.size_toArray,← hv.1,List.length_reverse];exact Nat.le_trans (r.reverse_reverse▸hl) (Aa6 hz))
 exact (show slicePick vs.toArray none none (some (Int.negSucc 0))=vs.toArray.toList.reverse.toArray from krv_pick vs.toArray)▸k
theorem Ch9 (e:Ci0 v=true):v = .int (-1):=by
 unfold Ci0 at e
 cases h:Af3 v with
 | none=>rw [h] at e;exact B3 e
 | some i=>rw [h] at e;simp only [Ab2 h,of_decide_eq_true e]
def SlcC (w:World)(g0:Heap)(st st':St)(o lo hi sp v:SV):Prop:=st'.lc=st.lc∧
  ∀{A as s x a b c sl n},AOk A n→HR w g0 as st.hp s.heap→VR as s.heap o x→VR as s.heap lo a→VR as s.heap hi b→VR as s.heap sp c→s.heap.IsSliceOf sl a b c→SlcP w g0 A as s st'.hp v x sl
theorem Dn9 {o:SV}{ob:List Prop}(e:slice o lo hi sp st=some (v,st',ob)):SlcC w g0 st st' o lo hi sp v:=by
 cases o with
 | tup l=>
  refine Aa3 e λhn e=>Ad6 e λhz e=>?_
  rw [Ad0 hn]
  refine Ax4 e λh1=>?_
  refine oEA (Option.map_eq_some_iff.mp h1) λl' hl' z2=>?_;subst z2
  refine oEA (Option.bind_eq_some_iff.mp hl') λl1 hl1 hl2=>?_
  exact cut1_s hl1 λk1 b1 q1=>cut0_s (m:=l.length) (q1▸Nat.le_trans (List.length_take_le ..) (Bd3 _ _)) hl2 λk0 b0 q0=>
   q0▸q1▸⟨rfl,λok hr vo va vb vc hs=>Do0 b0 b1 hz hr vo va vb (vc.noneI▸hs)⟩
 | loc k=>
  refine Aa3 e λh1 e=>Ag1 e λh2 h3 e=>listE e λr m hx e=>Ad6 e λhz e=>?_
  simp only [Ch9 h1,Ad0 h2,Ad0 h3]
  exact A4 e ⟨rfl,λok hr vo va vb vc hs=>Ct8 hx hz hr vo vc (by simp only [va.noneI,vb.noneI] at hs;exact hs)⟩
 | _=>exact no1 e
end
section
variable {w:World}{g0:Heap}{G:Top}{A:Around}{E:Value→Shared→Prop}{as:List Addr}{st st':St}{s:Shared}{n:Nat}
theorem HT.grown {β:Type}{P:List Addr→Heap→β→Prop}{t:Sem β}{hp:List A0}(x:HR w g0 as hp s.heap)
  (r:∀(Q:β→Shared→Prop) (E:Value→Shared→Prop),(∀h' tk b,(∀c o,s.heap.get? c=some o→h'.get? c=some o)→(HR w g0 as hp h'→Stp none as s.heap as h'→B2 s.heap h'→P as h' b)→Q b {s with heap:=h',toks:=tk})→wpAny (model pw w) A t Q E s):HT w g0 A as s hp P t:=
 λQ E k=>r Q E λh' tk b kp p=>k as h' tk b (x.grow kp) (Stp.of_keep kp) (p (x.grow kp) (Stp.of_keep kp) (B2.of_keep kp))
theorem Ba7 {α:Type}{l:List α}{n:Nat}(h:l.length=n)(a:α):(l++[a])[n]?=some a:=by
 simp only [← h,List.getElem?_append_right (Nat.le_refl _),Nat.sub_self];rfl
theorem app_at {α:Type}{l:List α}{a b:α}{n:Nat}(e:(l++[a])[n]?=some b):l[n]?=some b∨(n=l.length∧b=a):=by
 by_cases q:n<l.length
 ·rw [List.getElem?_append_left q] at e;exact .inl e
 ·replace e:=(List.getElem?_append_right (Nat.le_of_not_lt q)).symm.trans e
  cases z:n-l.length with
  | zero=>replace e:=z▸e;exact .inr ⟨Nat.le_antisymm (Nat.sub_eq_zero_iff_le.mp z) (Nat.le_of_not_lt q),(A9 e).symm⟩
  | succ m=>rw [z] at e;exact no1 e
theorem HR.newO {h h':Heap}{o:A0}{hp:List A0}{D:Addr}(x:HR w g0 as hp h)(kp:∀c o,h.get? c=some o→h'.get? c=some o)(hD:h.get? D=none)
  (ho:OR w (as++[D]) h' o D):HR w g0 (as++[D]) (hp++[o]) h'∧Stp none as h (as++[D]) h'∧VR (as++[D]) h' (.loc hp.length) (.ref D):=by
 refine ⟨⟨by simp only [List.length_append,List.length_append,x.len];rfl,?_,λa ha=>?_,λb o' e=>kp _ _ (x.base b o' e),λj p e=>?_,x.hidL (Bk7.of_keep kp)⟩,
  ⟨⟨[D],rfl,λa ha=>by exact (List.mem_singleton.mp ha)▸hD⟩,λu0 u0 e=>⟨_,kp _ _ e⟩,λu0 u0 e u0 u0=>kp _ _ e,(B2.of_keep kp)⟩,.loc _ _ (Ba7 x.len D)⟩
 ·refine List.nodup_append.mpr ⟨x.nd,List.nodup_cons.mpr ⟨List.not_mem_nil,List.nodup_nil⟩,λa ha b hb e=>?_⟩
  simp only [e,List.mem_singleton.mp hb] at ha
  refine Ae3 (x.mem ha) λu0 u0 u0 u0 r=>?_
  exact r.there.elim λob ho=>no1 (hD.symm.trans ho.1)
 ·rcases List.mem_append.mp ha with q | q
  ·exact x.lo a q
  ·rw [List.mem_singleton.mp q]
   cases q:g0.get? D with
   | none=>rfl
   | some o=>exact no1 (hD.symm.trans (x.base _ _ q))
 ·rcases app_at e with e | e
  ·exact (x.at_ j p e).elim λb r=>⟨b,by rw [List.getElem?_append_left (List.getElem?_eq_some_iff.mp r.1).1];exact r.1,r.2.mono (B2.of_keep kp) ⟨_,rfl⟩ λob' e'=>kp _ _ e'⟩
  ·exact ⟨D,by rw [e.1];exact Ba7 x.len D,e.2▸ho⟩
theorem HR.newL {h h':Heap}{l:List SV}{vs:List Value}{hp:List A0}{n ep:Nat}{D:Addr}(x:HR w g0 as hp h)(v:VRs as h l vs)(hn:l.length≤n)(kp:∀c o,h.get? c=some o→h'.get? c=some o)(hD:h.get? D=none)
  (hl:h'.get? D=some (Ar0 vs ep)):HR w g0 (as++[D]) (hp++[.list l.reverse n]) h'∧Stp none as h (as++[D]) h'∧VR (as++[D]) h' (.loc hp.length) (.ref D):=
 x.newO kp hD ⟨by rw [List.length_reverse];exact hn,vs,ep,hl,by rw [List.reverse_reverse];exact v.mono (B2.of_keep kp) ⟨_,rfl⟩⟩
theorem Bh1 {hp:List A0}{it:Addr}{o:Obj}{T:String}{l:List SV}{vs:List Value}{c m:Nat}(hr:HR w g0 as hp s.heap)(hT:T = "list"∨T = "tuple")(ho:s.heap.get? it=some o)(hc:o.cls = .type T)(hd:o.data = .seq vs.toArray m)
  (v:VRs as s.heap l vs)(hn:l.length≤c)(hz:l.length≤sizeLine):HT w g0 A as s (hp++[.list l.reverse c]) (PV (.loc hp.length)) (call (.type "list") [.ref it]):=λQ E k=>
 call_list_seq it hT ho hc hd (λh' c' kp hl=>by
  refine oAA (hr.newL (ep:=c') v hn kp (Ac2 _) hl) λa b d=>?_
  exact k _ _ s.toks _ a b d) (by simp only [List.size_toArray,← v.1];exact hz)
theorem Ao9 {t:TY}{b c r:Bool}(e:isTS t b c=some r){P:TY→Prop}(h1:r=b→P .tuple)(h2:r=c→P .str):P t:=by
 cases t with
 | tuple=>exact h1 (A9 e).symm
 | str=>exact h2 (A9 e).symm
 | _=>exact no1 e
abbrev IsaC (w:World)(g0:Heap)(A:Around)(as:List Addr)(s:Shared)(hp:List A0)(b:Bool)(x:Value)(t:TY):Prop:=HT w g0 A as s hp (PV (.bool b)) (call (.builtin "isinstance") [x,.type t.name])
theorem isA_s {hp:List A0}{v:SV}{t:TY}{b:Bool}(e:isA v t=some b){x:Value}(hr:HR w g0 as hp s.heap)(vx:VR as s.heap v x):IsaC w g0 A as s hp b x t:=by
 cases v with
 | tup l=>
  exact vx.tupE λa vs ht u0=>ht.2.elim λm ho=>Ao9 (P:=λt=>IsaC w g0 A as s hp b (.ref a) t) e
   (λh=>h▸HT.of_ hr (.bool _) λQ E k=>IsiPair.tuple_tuple ho rfl (k _)) λh=>h▸HT.of_ hr (.bool _) λQ E k=>IsiPair.tuple_str ho rfl (k _)
 | str x=>exact vx.strE λu0=>Ao9 (P:=λt=>IsaC w g0 A as s hp b (.str x _) t) e (λh=>h▸HT.of_ hr (.bool _) λQ E k=>IsiPair.str_tuple (k _)) λh=>h▸HT.of_ hr (.bool _) λQ E k=>IsiPair.str_str (k _)
 | int i=>exact vx.intE λu0=>Ao9 (P:=λt=>IsaC w g0 A as s hp b (.int i _) t) e (λh=>h▸HT.of_ hr (.bool _) λQ E k=>IsiPair.int_tuple (k _)) λh=>h▸HT.of_ hr (.bool _) λQ E k=>IsiPair.int_str (k _)
 | none=>exact (vx.noneI)▸Ao9 (P:=λt=>IsaC w g0 A as s hp b .none t) e (λh=>h▸HT.of_ hr (.bool _) λQ E k=>IsiPair.NoneType_tuple (k _)) λh=>h▸HT.of_ hr (.bool _) λQ E k=>IsiPair.NoneType_str (k _)
 | _=>exact no1 e
end
end
namespace Fro
theorem mro:mroOf (.type "frozenset")=pure [.type "frozenset",.type "object"]:=by kernel_rfl
theorem By7:typeLookup (.type "frozenset") "__new__"=pure (some (.builtin "frozenset.__new__")):=by kernel_rfl
theorem slot_init:Slot "frozenset" "__init__" "object.__init__":=
 .of (owner:="object") (n:="__init__") (by kernel_rfl) (by decide +kernel) (by decide +kernel) (by decide +kernel)
  (by first | exact .inl (by decide +kernel) | exact .inr (by decide +kernel)) (by kernel_rfl)
theorem called:TypeCalled "frozenset" "frozenset.__new__" "object.__init__":=
 ⟨by decide +kernel,by decide +kernel,⟨_,_,mro⟩,madeBy_type mro By7 (by decide +kernel),by decide +kernel,by kernel_rfl,slot_init⟩
theorem typeCall (a:Value):checkTypeCall "frozenset" ⟨[a],[]⟩=pure ():=by kernel_rfl
theorem newCall (a:Value):checkBuiltinCall "frozenset.__new__" ⟨[.type "frozenset",a],[]⟩=pure ():=by kernel_rfl
theorem entry:entryFor table "frozenset.__new__"=some Builtin.«frozenset.__new__»:=entryFor_of_tree (by kernel_rfl)
theorem plain:plainId "frozenset.__new__"=true:=by decide +kernel
theorem sub_self:isSubtype (.type "frozenset") (.type "frozenset")=pure true:=by kernel_rfl
theorem dict_set:isSubtype (.type "dict") (.type "set")=pure false:=by kernel_rfl
theorem dict_froz:isSubtype (.type "dict") (.type "frozenset")=pure false:=by kernel_rfl
end Fro
section
variable {w:World}{A:Around}{E:Value→Shared→Prop}{s:Shared}
noncomputable abbrev frO (es:Array (Int×Value))(ep:Nat)(t:SetTable):Obj:={cls:=.type "frozenset",data:=.set es ep t}
def FrS (w:World)(h:Heap)(a:Addr)(S:Int→Bool)(n:Nat):Prop:=
 ∃es ep t,h.get? a=some (frO es ep t)∧ElemsOf (intKind pw w) es.toList∧(∀k,S k=true↔∃e∈es.toList,(intKind pw w).is k e.2=true)∧es.size≤n∧t.fits es.size=true
theorem FrS.put {h:Heap}{a:Addr}{es:Array (Int×Value)}{ep:Nat}{t:SetTable}{es':Array (Int×Value)}{t':SetTable}(ho:h.get? a=some (frO es ep t)):(h.update a (Obj.putSet es' t')).get? a=some (frO es' (ep+1) t'):=by
 have:=Heap.get?_update_self (Obj.putSet es' t') ho (by rfl)
 exact this
theorem add_f {a:Addr}{S:Int→Bool}{n:Nat}{k:Int}{tk:Tok}{Q:Bool→Shared→Prop}(hS:FrS w s.heap a S n)(hn:n+1<scanBound)
  (h:∀h' b,Heap.SameBut a s.heap h'→FrS w h' a (λi=>S i||decide (i=k)) (n+1)→Q b {s with heap:=h'}):wpAny (model pw w) A (setAddHashed a (.int k tk) ((intKind pw w).hash k)) Q E s:=by
 refine Bc2 hS ?_;clear hS;intro es ep t ho hel hmem hsz hf
 have hkey:(intKind pw w).is k (.int k tk)=true:=intKind_is _ _ _ _
 have hsc:(Value.int k tk).scannable=true:=rfl
 have hb:es.size<scanBound:=by lia
 have gw:∀(b:Bool) {s₁:Shared} {Q':Unit→Shared→Prop},Q' () s₁→wpAny (model pw w) A (match b with | true=>rule "set.scan.the-table-gave-way" | false=>pure ()) Q' E s₁:=
  λb s₁ Q' hq=>by cases b<;>first | exact wpAny_pure hq | exact wpAny_rule hq
 refine wpAny_holding (wpAny_bind (wpAny_setState_of ho rfl hf ?_))
 dsimp only
 refine (byScan_of hsc hb hel).symm▸?_
 refine wpAny_bind (wpAny_bind (wpAny_rule (wpAny_bind (wpAny_setScan_of hkey ho rfl hf hel ?_))))
 cases hr:List.findIdx? (λe=>(intKind pw w).is k e.2) es.toList with
 | some j=>
  dsimp only
  obtain ⟨hj,hpj,_⟩:=List.findIdx?_eq_some_iff_getElem.mp hr
  refine wpAny_pure (wpAny_pure ?_)
  have:=h s.heap (false) (Heap.SameBut.refl a s.heap) ⟨es,ep,t,ho,hel,λi=>by
   simp only [Bool.or_eq_true,decide_eq_true_eq,← hmem i]
   exact ⟨λq=>q.elim id λe=>e▸(hmem k).mpr ⟨es.toList[j],List.getElem_mem hj,hpj⟩,.inl⟩,by lia,hf⟩
  exact this
 | none=>
  have hperm:=layNew_perm t es ((intKind pw w).hash k) (.int k tk)
  have hfits:=layNew_fits t es ((intKind pw w).hash k) (.int k tk)
  generalize layNew t es ((intKind pw w).hash k) (.int k tk)=L at hperm hfits ⊢
  obtain ⟨es1,t1,wasDummy,gave⟩:=L
  simp only [Array.toList_push] at hperm
  have hel1:ElemsOf (intKind pw w) es1.toList:=(hel.push hkey hsc).perm hperm
  have hmem1:=mem_push_iff hkey hmem hperm
  have hs1:es1.size≤n+1:=by rw [← Array.length_toList];simp only [hperm.length_eq,List.length_append,Array.length_toList];simp;omega
  have tail:∀t2:SetTable,t2.fits es1.size=true→wpAny (model pw w) A (do
    storeSet a es1 t2
    if (!wasDummy&&t2.tooFull)=true then do
      (match (relayAll t2 es1 (SetTable.grown es1.size)).2.2 with | true=>rule "set.scan.the-table-gave-way" | false=>pure ())
      storeSet a (relayAll t2 es1 (SetTable.grown es1.size)).1 (relayAll t2 es1 (SetTable.grown es1.size)).2.1
      pure (some true)
     else pure (some true)) (λr s'=>∃h' b,r=some b∧s' = {s with heap:=h'}∧Q b {s with heap:=h'}) E s:=λt2 hf2=>by
   refine wpAny_bind (wpAny_storeSet_of ho rfl ?_ (fits_of_scanBound (by lia)))
   have ho1:=FrS.put (es':=es1) (t':=t2) ho
   split
   ·have hp:=relayAll_perm t2 es1 (SetTable.grown es1.size)
    have hfr:=relayAll_fits t2 es1 (SetTable.grown es1.size)
    generalize relayAll t2 es1 (SetTable.grown es1.size)=Rl at hp hfr ⊢
    obtain ⟨es2,t3,gave2⟩:=Rl
    dsimp only at hp hfr ⊢
    have hz:es2.size=es1.size:=by rw [← Array.length_toList,hp.length_eq,Array.length_toList]
    refine wpAny_bind (gw _ (wpAny_bind (wpAny_storeSet_of ho1 rfl ?_ (fits_of_scanBound (by lia)))))
    exact wpAny_pure ⟨_,true,rfl,rfl,h _ true ((Heap.SameBut.update s.heap a (Obj.putSet es1 t2)).trans (Heap.SameBut.update _ a _)) ⟨es2,_,_,FrS.put ho1,hel1.perm hp,λi=>(hmem1 i).trans ⟨λ⟨e,he,q⟩=>⟨e,hp.mem_iff.mpr he,q⟩,λ⟨e,he,q⟩=>⟨e,hp.mem_iff.mp he,q⟩⟩,by lia,by exact hz▸hz▸hfr⟩⟩
   ·exact wpAny_pure ⟨_,true,rfl,rfl,h _ true (Heap.SameBut.update s.heap a (Obj.putSet es1 t2)) ⟨es1,_,_,ho1,hel1,hmem1,hs1,hf2⟩⟩
  refine wpAny_bind (gw _ ?_)
  split
  ·refine wpAny_bind ?_
   refine wpAny_pure (wpAny_mono (tail _ ?_) (λr s' ⟨h',b,e1,e2,q⟩=>?_) λu0 u0 e=>e)
   ·split
    ·exact hfits
    ·exact SetTable.fits_plain_off hfits
   ·subst e1 e2;exact wpAny_pure q
  ·refine wpAny_bind (wpAny_pure ?_)
   refine wpAny_mono (tail _ hfits) (λr s' ⟨h',b,e1,e2,q⟩=>?_) λu0 u0 e=>e
   subst e1 e2;exact wpAny_pure q
theorem Cq0 {l:List Int}{i:Nat}{k:Int}(e:l[i]?=some k)(j:Int):((l.take i).any (λx=>decide (x=j))||decide (j=k))=(l.take (i+1)).any λx=>decide (x=j):=by
 simp only [List.take_add_one,e,List.any_append]
 simp [eq_comm]
theorem upd_f {a S:Addr}{es:Array DictEntry}{ep:Nat}{oo:Obj}{l:List Int}{led:Bool}{id:String}{Q:Unit→Shared→Prop}(hoo:s.heap.get? a=some oo)(hc:oo.ExactDict)(hd:oo.data = .dict es ep)
  (hk:∀(i:Nat) (e:DictEntry),es[i]?=some e→∃k t,l[i]?=some k∧e.key = .int k t∧e.hash=(intKind pw w).hash k)(hn:es.size=l.length)(hl:l.length≤2)(hS:s.heap.get? S=some (frO #[] 0 (.fresh 0 0 led)))(hne:a≠S)(hm:(a==sysModules)=false)
  (h:∀h',Heap.SameBut S s.heap h'→FrS w h' S (λj=>l.any λx=>decide (x=j)) l.length→Q () {s with heap:=h'}):wpAny (model pw w) A (Builtin.Frozenset.updateFrom id S (.ref a)) Q E s:=by
 have hT:s.TypeIs (.ref a) "dict":=⟨_,hoo,hc.1⟩
 refine wpAny_bind (wpAny_bind (wpAny_isInstance hT Fro.dict_set ?_))
 refine wpAny_isInstance hT Fro.dict_froz ?_
 refine wpAny_bind (wpAny_typeOf hT ?_)
 have e1:(Value.type "dict" == Value.type "dict")=true:=by decide
 refine wpAny_bind (wpAny_rule ?_)
 refine wpAny_bind (wpAny_pure ?_)
 refine (if_neg (by exact hm▸Bool.false_ne_true))▸?_
 refine wpAny_bind (wpAny_dictEpoch hoo hd ?_)
 refine wpAny_bind (wpAny_dictEntries hoo hd ?_)
 refine wpAny_bind (wpAny_bind (wpAny_setState_of hS rfl rfl ?_))
 have hr:(SetTable.fresh 0 0 led).roomFor es.size=none:=by
  unfold SetTable.roomFor SetTable.fresh SetTable.fill
  simp
  lia
 rw [hr]
 refine wpAny_pure ?_
 refine wpAny_bind (wpAny_dictEntries hoo hd ?_)
 refine wpAny_bind ?_
 simp only [Std.Legacy.Range.forIn_eq_forIn_range']
 refine wpAny_forIn_list _ (λrest u0 s'=>∃h' i,s' = {s with heap:=h'}∧rest=List.range' i (es.size-i)∧i≤es.size∧FrS w h' S (λj=>(l.take i).any λx=>decide (x=j)) i∧h'.get? a=some oo∧Heap.SameBut S s.heap h')
  _ ?_ ?_ _ _ ⟨s.heap,0,rfl,by simp,Nat.zero_le _,⟨_,_,_,hS,λu0 q=>by simp at q,λk=>by simp,Nat.zero_le _,rfl⟩,hoo,Heap.SameBut.refl _ _⟩
 ·rintro x rest b s' ⟨h',i,rfl,hr,hi,hF,hoo',hs'⟩
  have hlt:i<es.size:=by
   refine (Nat.lt_or_ge i es.size).elim (λq=>?_) λq=>?_
   ·exact q
   ·rw [Nat.sub_eq_zero_of_le q] at hr;simp at hr
  obtain ⟨rfl,hrest⟩:x=i∧rest=List.range' (i+1) (es.size-(i+1)):=by
   rw [show es.size-i=(es.size-(i+1))+1 by grind,List.range'_succ] at hr
   injection hr with h1 h2
   exact ⟨h1,h2⟩
  refine wpAny_bind (wpAny_dictEntries hoo' hd ?_)
  rw [Array.getElem?_eq_getElem hlt]
  refine Ae3 (hk x _ (Array.getElem?_eq_getElem hlt)) λk t k1 k2 k3=>?_
  show wpAny _ _ (holding [es[x].key] (setAddHashed S es[x].key es[x].hash)>>=_) _ _ _
  rw [k2,k3]
  refine wpAny_bind (wpAny_holding (add_f hF (by unfold scanBound;lia) λh'' b hs'' hF'=>?_))
  have hoo'':h''.get? a=some oo:=(hs''.2 a hne).trans hoo'
  refine wpAny_bind (wpAny_dictEpoch hoo'' hd ?_)
  rw [if_neg (by simp)]
  refine wpAny_pure ⟨h'',x+1,rfl,hrest,hlt,?_,hoo'',hs'.trans hs''⟩
  obtain ⟨es',ep',t',q1,q2,q3,q4,q5⟩:=hF'
  exact ⟨es',ep',t',q1,q2,λj=>by show ((l.take (x+1)).any λx=>decide (x=j))=true↔_;rw [← Cq0 k1];exact q3 j,q4,q5⟩
 ·rintro b s' ⟨h',i,rfl,hr,hi,hF,hoo',hs'⟩
  have hin:i=es.size:=by
   have:=congrArg List.length hr
   simp at this;grind
  subst hin
  rw [hn,List.take_length] at hF
  exact wpAny_pure (h h' hs' hF)
theorem new_f {a:Addr}{es:Array DictEntry}{ep:Nat}{oo:Obj}{l:List Int}{Q₁:Value→Shared→Prop}(hoo:s.heap.get? a=some oo)(hc:oo.ExactDict)(hd:oo.data = .dict es ep)
  (hk:∀(i:Nat) (e:DictEntry),es[i]?=some e→∃k t,l[i]?=some k∧e.key = .int k t∧e.hash=(intKind pw w).hash k)(hn:es.size=l.length)(hl:l.length≤2)(hm:(a==sysModules)=false)
  (h:∀h',(∀b o,s.heap.get? b=some o→h'.get? b=some o)→FrS w h' s.heap.objs.size (λj=>l.any λx=>decide (x=j)) l.length→Q₁ (.ref s.heap.objs.size) {s with heap:=h'}):
  codeAny (model pw w) A (.call (.builtin "frozenset.__new__") ⟨[.type "frozenset",.ref a],[]⟩) (wants Q₁ E) s:=by
 refine codeAny_of_tree ?_
 show wpAny _ A.in1 (do checkBuiltinCall "frozenset.__new__" ⟨[.type "frozenset",.ref a],[]⟩;again (.builtin "frozenset.__new__" ⟨[.type "frozenset",.ref a],[]⟩)) _ _ s
 refine wpAny_bind (wpAny_of_eq (Fro.newCall _) (wpAny_pure ⟨plainId_quiet Fro.plain _,codeAny_builtin Fro.entry ?_⟩))
 rw [Around.under_plainId Fro.plain _]
 have hT:s.TypeIs (.ref a) "dict":=⟨_,hoo,hc.1⟩
 have hsub:=Fro.sub_self
 have hinit:=Fro.slot_init.lookup
 unfold Builtin.«frozenset.__new__» Builtin.Frozenset.newClass
 generalize hNF:Builtin.Frozenset.newFrom=NF
 wp_walk using wpAny_typeOf hT
 subst hNF
 unfold Builtin.Frozenset.newFrom newSet
 refine wpAny_bind (wpAny_bind ?_)
 unfold setsByText
 refine wpAny_bind (wpAny_askSetting (wpAny_pure ?_))
 dsimp only
 simp only [newObj]
 refine wpAny_bind (wpAny_alloc (wpAny_pure ?_))
 unfold Builtin.Frozenset.addrOf
 refine wpAny_bind (wpAny_pure ?_)
 have hlt:a<s.heap.objs.size:=Heap.lt_size hoo
 refine wpAny_bind (wpAny_holding (upd_f (s:={s with heap:=s.heap.push _}) (Heap.get?_push_of_some _ hoo) hc hd hk hn hl (Heap.get?_push_size _ rfl) (Nat.ne_of_lt hlt) hm λh' sb F=>?_))
 refine wpAny_pure (wpAny_pure (h h' (λb o e=>?_) F))
 exact (sb.2 b (Nat.ne_of_lt (Heap.lt_size e))).trans (Heap.get?_push_of_some _ e)
theorem call_f {a:Addr}{es:Array DictEntry}{ep:Nat}{oo:Obj}{l:List Int}{Q:Value→Shared→Prop}(hoo:s.heap.get? a=some oo)(hc:oo.ExactDict)(hd:oo.data = .dict es ep)
  (hk:∀(i:Nat) (e:DictEntry),es[i]?=some e→∃k t,l[i]?=some k∧e.key = .int k t∧e.hash=(intKind pw w).hash k)(hn:es.size=l.length)(hl:l.length≤2)(hm:(a==sysModules)=false)
  (h:∀h',(∀b o,s.heap.get? b=some o→h'.get? b=some o)→FrS w h' s.heap.objs.size (λj=>l.any λx=>decide (x=j)) l.length→Q (.ref s.heap.objs.size) {s with heap:=h'}):
  wpAny (model pw w) A (call (.type "frozenset") [.ref a]) Q E s:=by
 refine callType_codes (Q₁:=λobj s₁=>s₁.TypeIs obj "frozenset"∧Q obj s₁) Fro.called (Fro.typeCall _) PySem.F.entry_object_init
  (new_f hoo hc hd hk hn hl hm λh' k F=>⟨?_,h h' k F⟩) λobj s₁ h₁=>?_
 ·obtain ⟨es',ep',t',q,_⟩:=F
  exact ⟨_,q,rfl⟩
 ·exact ⟨h₁.1,PySem.F.args_object_init_2 obj _,object_init_meets Fro.called.init.lookup Fro.called.made (by decide) pw w A.in1 _ s₁ ⟨h₁.1,rfl,h₁.2⟩⟩
theorem in_f {prog:Program}{w':World}{A:Around}{E:Value→Shared→Prop}{s:Shared}{a:Addr}{es:Array (Int×Value)}{ep:Nat}{t:SetTable}{k:Int}{tk:Tok}{S:Int→Bool}{Q:Value→Shared→Prop}(ho:s.heap.get? a=some (frO es ep t))
  (hel:ElemsOf (intKind prog w') es.toList)(hmem:∀i,S i=true↔∃e∈es.toList,(intKind prog w').is i e.2=true)(hb:es.size<scanBound)(hf:t.fits es.size=true)(h:Q (.bool (S k)) {s with toks:=s.toks+1}):
  wpAny (model prog w') A (compareOp .In (.int k tk) (.ref a)) Q E s:=by
 have hT:s.TypeIs (.ref a) "frozenset":=⟨_,ho,rfl⟩
 refine wpAny_bind ?_
 unfold contains
 try with_reducible refine wpAny_holding ?_
 refine wpAny_bind (wpAny_specialOf hT FB.slot_frozenset_contains.lookup ?_)
 refine wpAny_bind (wpAny_callSpecialUnlessNone?_slot (name:=Str.ofString "__contains__") hT FB.slot_frozenset_contains
  (wpAny_call_entry FB.slot_frozenset_contains hT FB.entry_frozenset_contains ?_ (FB.args_frozenset_contains_2 _ _)))
 unfold Builtin.«frozenset.__contains__» Builtin.Frozenset.oneOther
 simp only [List.isEmpty_nil,bind_assoc]
 refine wpAny_bind (wpAny_pure ?_)
 try dsimp only
 refine wpAny_bind (wpAny_pure ?_)
 try dsimp only
 refine wpAny_bind (wpAny_tryCatch (wpAny_holding (wpAny_bind ((intKind prog w').pyHash (intKind_is _ _ _ _) ?_))))
 refine wpAny_bind (setFind_any (s:={s with toks:=s.toks+1}) (intKind_is _ _ _ _) rfl ho rfl hel hmem hb hf λr hr=>wpAny_pure ?_)
 show wpAny _ _ (ret (Value.bool r.isSome)) _ _ _
 exact hr▸wpAny_pure ⟨_,rfl,wpAny_truthy_bool (wpAny_pure h)⟩
theorem FrS.fset {h:Heap}{a:Addr}{l:List Int}{n:Nat}(x:FrS w h a (λj=>l.any λx=>decide (x=j)) n)(hn:n<scanBound):FSet h a l:=by
 refine Bc2 x λes ep t ho hel hmem hs hf=>?_
 exact ⟨_,es,ep,t,ho,rfl,rfl,λp w' i tk A Q E s hs' k=>in_f (S:=λj=>l.any λx=>decide (x=j)) hs' hel hmem (by lia) hf (k _)⟩
end
section
variable [HI:Hid]
section
variable {w:World}{g0:Heap}{G:Top}{A:Around}{E:Value→Shared→Prop}{as:List Addr}{st st':St}{s:Shared}{n:Nat}
theorem Dt0 {l:List Int}:∀{es:List DictEntry} {kvs:List (MK×Value)},Pairs (Aa1 w) es kvs→(∀e∈es,∃k,(Aa1 w).is k e.key=true∧e.hash=(Aa1 w).hash k)→kvs.map (·.1)=l.map MK.i→
  es.length=l.length∧∀(i:Nat) (e:DictEntry),es[i]?=some e→∃k t,l[i]?=some k∧e.key = .int k t∧e.hash=(intKind pw w).hash k:=by
 induction l with
 | nil=>
  intro es kvs P _ hk
  cases P with
  | nil=>exact ⟨rfl,λi e q=>by simp at q⟩
  | cons _ _ _=>exact noL' hk
 | cons k l ih=>
  intro es kvs P hK hk
  cases P with
  | nil=>exact nomatch hk
  | @cons e kv es kvs p1 p2 P=>
   simp only [List.map_cons,List.map_cons] at hk
   injection hk with k1 k2
   refine oA (ih P (λe' m=>hK e' (List.mem_cons_of_mem _ m)) k2) λi1 i2=>?_
   refine ⟨congrArg (· + 1) i1,λi e' q=>?_⟩
   cases i with
   | zero=>
    replace q:=A9 q;subst q
    rw [k1] at p1
    refine oEA (hK e (List.mem_cons_self ..)) λk' q1 q2=>?_
    have:=(Aa1 w).inj _ _ _ q1 p1
    subst this
    rcases MK.is_inv q1 with ⟨x,t,q,_⟩ | ⟨n,t,q,e1⟩
    ·cases q
    ·injection q with q;subst q;exact ⟨k,t,rfl,e1,q2⟩
   | succ i=>exact i2 i e' q
theorem Da5 (T:Ak8 w G g0){hp:List A0}{j:Nat}{a:Addr}{kvs:List (MK×Value)}{l:List Int}(hr:HR w g0 as hp s.heap)(hj:as[j]?=some a)(hd:s.heap.DictOf (Aa1 w) a kvs)(hk:kvs.map (·.1)=l.map MK.i)(hl:l.length≤2):
  HT w g0 A as s hp (PV (.fset l)) (call (.type "frozenset") [.ref a]):=λQ E k=>by
 refine Bg6 hd λo es ep ho hc hd hK P u0=>?_
 refine oA (Dt0 P (λe m=>hK e (Array.mem_toList_iff.mp m)) hk) λi1 i2=>?_
 refine call_f ho hc hd (λi e q=>i2 i e (by exact (Array.getElem?_toList)▸q)) (by exact i1) hl (Am3 T hr hj) λh' kp F=>?_
 exact k as h' s.toks _ (hr.grow kp) (Stp.of_keep kp) (.fset _ _ (F.fset (by unfold scanBound;lia)))
theorem ints1 {vs:List Value}{i:Int}(h:IntsAre vs [i]):∃t,vs = [.int i t]:=by
 cases h with
 | cons n t h=>cases h;exact ⟨t,rfl⟩
theorem Cd3 {hp:List A0}{a:Addr}{i:Int}{t:Tok}{ep:Nat}(hr:HR w g0 as hp s.heap)(ho:s.heap.get? a=some (Ar0 [.int i t] ep)):
  HT w g0 A as s (hp++[.list [.int i] 1]) (PV (.loc hp.length)) (call (.builtin "sorted") [.ref a]):=λQ E k=>
 sorted_ints (ns:=[i]) (Aa4 ho) (IntsAre.cons i t IntsAre.nil) (by show 1<64;decide) λout ns' a1 a2 a3=>by
  have:ns' = [i]:=List.perm_singleton.mp a2
  subst this
  obtain ⟨e,he⟩:=sortedAll_at s.heap [.int i t] out
  obtain ⟨u,hu⟩:=ints1 a1
  have hD:s.heap.get? (s.heap.objs.size+1)=none:=by
   cases q:s.heap.get? (s.heap.objs.size+1) with
   | none=>rfl
   | some o=>exact absurd (Heap.lt_size q) (Nat.not_lt.mpr (Nat.le_succ _))
  have hl:(sortedAll s.heap [.int i t] out).get? (s.heap.objs.size+1)=some (Ar0 [.int i u] e):=by
   refine Eq.trans he ?_
   have:out = [Value.int i u].toArray:=by exact hu▸rfl
   exact this▸rfl
  refine oAA (hr.newL (n:=1) (VRs.cons (.int i u) VRs.nil) (Nat.le_refl _) (λu0 u0=>sortedAll_old) hD hl) λb1 b2 b3=>?_
  exact k _ _ s.toks _ b1 b2 b3
theorem Cd4 (T:Ak8 w G g0){hp:List A0}{j:Nat}{a:Addr}(ok:AOk A (n+1))(hr:HR w g0 as hp s.heap)(hj:as[j]?=some a)(hd:s.heap.DictOf (Aa1 w) a []):
  HT w g0 A as s (hp++[.list [] 0]) (PV (.loc hp.length)) (call (.builtin "sorted") [.ref a]):=λQ E k=>by
 obtain ⟨o,es,ep,r⟩:=hd
 have hok:s.heap.DictAt (Aa1 w) a [] ep:=⟨o,es,r⟩
 refine call_function_entry kind_sorted plain_sorted entry_sorted (args_sorted1 _) ?_
 unfold Builtin.«sorted»
 refine wpAny_bind (m:=checkCount "sorted" 1 1 _) (wpAny_pure ?_)
 refine wpAny_bind (kdu_collect (A:=A.in1) (kdl_dict (knd:=Aa1 w) (kvs:=[]) (ep:=ep) (Am3 T hr hj)) ok.1 hok (by show 0≤_;exact Nat.zero_le _) λh' tk acc hk hacc=>?_)
 have hl:acc.toList = []:=List.eq_nil_of_length_eq_zero (by rw [Array.length_toList];exact hacc.1)
 rw [hl]
 refine wpAny_bind (wpAny_newList ?_ (by exact Nat.zero_le _))
 have ho:(h'.push {cls:=.type "list",data:=.seq ([]:List Value).toArray}).get? h'.objs.size=some (seqObj "list" ([]:List Value).toArray 0):=Heap.get?_push_size _ rfl
 refine wpAny_bind (wpAny_holding (wpAny_call_entry slot_list_sort ⟨_,ho,rfl⟩ entry_list_sort (list_sort_tree ho IntsAre.nil (by show 0<64;decide) λout ns' a1 a2 a3=>⟨_,rfl,?_⟩) (args_list_sort _)))
 refine wpAny_pure ⟨_,rfl,?_⟩
 have:ns' = []:=List.perm_nil.mp a2
 subst this
 have ho':out=([]:List Value).toArray:=by
  cases h:out.toList with
  | nil=>simpa using h
  | cons _ _=>rw [h] at a1;exact nomatch a1
 refine oE (sortedHeap_at (out:=out) ho) λe he=>?_
 have kp:∀c o,s.heap.get? c=some o→(sortedHeap (h'.push {cls:=.type "list",data:=.seq ([]:List Value).toArray}) h'.objs.size [] out).get? c=some o:=λc o e=>by
  have e1:=hk c o e
  rw [sortedHeap_old (Nat.ne_of_lt (Heap.lt_size e1)) (by simp only [Heap.size_push];exact Nat.lt_succ_of_lt (Heap.lt_size e1))]
  exact Heap.get?_push_of_some _ e1
 have hD:s.heap.get? h'.objs.size=none:=by
  cases q:s.heap.get? h'.objs.size with
  | none=>rfl
  | some o=>exact absurd (Heap.lt_size (hk _ _ q)) (Nat.lt_irrefl _)
 refine oAA (hr.newL (n:=0) VRs.nil (Nat.le_refl _) kp hD (by rw [he,ho'])) λb1 b2 b3=>?_
 exact k _ _ _ _ b1 b2 b3
end
section
variable {w:World}{g0:Heap}{G:Top}{A:Around}{E:Value→Shared→Prop}{as:List Addr}{st st':St}{s:Shared}{n:Nat}
theorem Ds4 {h:Heap}{es:List (SV×SV)}{kvs:List (MK×Value)}(x:DRs as h es kvs):es.map (·.1)=kvs.map λq=>q.1.sv:=by
 induction es generalizing kvs with
 | nil=>refine (x.nil_inv)▸?_;rfl
 | cons p l ih=>
  obtain ⟨j,v,ws,rfl,e,hv,r⟩:=x.cons_inv
  simp only [List.map_cons,List.map_cons,e,ih r]
theorem sv_inj {a:MK}{i:Int}(h:a.sv = .int i):a = .i i:=by
 cases a with
 | i n=>cases h;rfl
 | s _=>exact SV.noConfusion h
def Un (w:World)(g0:Heap)(st st':St)(F:Value)(a v:SV):Prop:=st'.lc=st.lc∧∀{A as s x n},AOk A (n+1)→HR w g0 as st.hp s.heap→VR as s.heap a x→HT w g0 A as s st'.hp (PV v) (call F [x])
def Cq8 (w:World)(g0:Heap)(st st':St)(f:SV)(args:List SV)(v:SV):Prop:=st'.lc=st.lc∧
  ∀{A as s fv vs n},AOk A (n+1)→HR w g0 as st.hp s.heap→VR as s.heap f fv→VRs as s.heap args vs→HT w g0 A as s st'.hp (PV v) (call fv vs)
variable {f a v:SV}{args:List SV}{ob:List Prop}{F:Value}
theorem VRs.one {h:Heap}{vs:List Value}(x:VRs as h [a] vs):∃u,vs = [u]∧VR as h a u:=by
 refine Ae3 (x.cons_inv) λu ws z2 y z=>?_;subst z2
 exact ⟨u,by rw [z.nil_inv],y⟩
theorem VRs.two {b:SV}{h:Heap}{vs:List Value}(x:VRs as h [a,b] vs):∃u v,vs = [u,v]∧VR as h a u∧VR as h b v:=by
 refine Ae3 (x.cons_inv) λu ws z2 y z=>?_;subst z2
 exact z.one.elim λv q=>⟨u,v,by rw [q.1],y,q.2⟩
theorem Un.call (x:Un w g0 st st' F a v)(hf:∀{as h u},VR as h f u→u=F):Cq8 w g0 st st' f [a] v:=
 ⟨x.1,λok hr vf va=>va.one.elim λu q=>by simp only [hf vf,q.1];exact x.2 ok hr q.2⟩
theorem Dl5 {g:SV→X SV}(e:((X.lift (one args)).bnd g) st=some (v,st',ob))(hf:∀{as h u},VR as h f u→u=F)(k:∀a,g a st=some (v,st',ob)→Un w g0 st st' F a v):Cq8 w g0 st st' f args v:=
 A6 e λa ha e=>Ad7 ha▸(k a e).call hf
theorem lt63 {m:Nat}(h:m≤sizeLine):(m:Int)<2^63:=Int.lt_of_le_of_lt (Int.ofNat_le.mpr h) (by decide)
theorem lenB_s (T:Ak8 w G g0)(e:lenB a st=some (v,st',ob)):Un w g0 st st' (.builtin "len") a v:=by
 cases a with
 | tup l=>
  refine Ad6 e λhz e=>A4 e ⟨rfl,λ{A as s x n} ok hr va=>va.tupE λa us ht hu=>?_⟩
  have hl:us.toArray.size=l.length:=hu.1.symm
  exact HT.of_ (b:=Value.int _ (s.toks+1)) hr (.int _ _) λQ E k=>PyProof.Rows.len_tuple ht.tup (by rw [hl];exact lt63 (Aa6 hz)) (by rw [hl];exact k _)
 | loc k=>
  refine Cw5 e λo hx e=>?_
  cases o with
  | list r c=>
   refine Ad6 e λhz e=>A4 e ⟨rfl,λ{A as s x n} ok hr va=>hr.listE va hx λa us ep ha hl ho hu=>?_⟩
   have hl':us.toArray.size=r.length:=r.length_reverse▸hu.1.symm
   exact HT.of_ (b:=Value.int _ (s.toks+1)) hr (.int _ _) λQ E k=>PyProof.Rows.len_list (Aa4 ho) (by exact hl'▸lt63 (Nat.le_trans hl (Aa6 hz))) (by exact hl'▸k _)
  | lst0 x0 l c ob=>
   refine Ad6 e λhz e=>A4 e ⟨rfl,λ{A as s x n} ok hr va=>hr.locE va hx λa ha q=>?_⟩
   obtain ⟨hl,ho,us,ep,q,hu,_⟩:=q
   have hl':us.toArray.size=l:=hu
   exact HT.of_ (b:=Value.int _ (s.toks+1)) hr (.int _ _) λQ E k=>PyProof.Rows.len_list (Aa4 (q▸ho)) (by exact hl'▸lt63 (Nat.le_trans hl (Aa6 hz))) (by exact hl'▸k _)
  | dict es=>
   exact Ad6 e λhz e=>A4 e ⟨rfl,λ{A as s x n} ok hr va=>hr.locE va hx λa ha q=>q.elim λkvs q=>
    HT.of_ (b:=Value.int _ (s.toks+1)) hr (.int _ _) λQ E k=>call_len_dict (knd:=Aa1 w) (Am3 T hr ha) q.1 (by exact (q.2.1)▸lt63 (Aa6 hz)) (by rw [← q.2.1];exact k _)⟩
  | _=>exact no1 e
 | _=>exact no1 e
theorem isaB_s (e:isaB args st=some (v,st',ob)):Cq8 w g0 st st' (.blt .isinstance) args v:=
 A6 e λp hp e=>A6 e λt ht e=>A6 e λb hb e=>by
  rw [Bf0 hp,Bv1 ht]
  refine A4 e ⟨rfl,λok hr vf va=>?_⟩
  obtain ⟨x,y,rfl,hx,hy⟩:=va.two
  rw [vf.bltI,hy.typI]
  exact isA_s hb hr hx
theorem maxB_s (e:maxB args st=some (v,st',ob)):Cq8 w g0 st st' (.blt .max) args v:=
 A6 e λp hp e=>A6 e λa ha e=>A6 e λb hb e=>by
  simp only [Bf0 hp,Ab2 ha,Ab2 hb]
  refine A4 e ⟨rfl,λok hr vf va=>?_⟩
  obtain ⟨x,y,rfl,hx,hy⟩:=va.two
  refine (vf.bltI)▸?_
  refine hx.intE λt=>hy.intE λu=>HT.grown hr λQ E k=>max_two_ints ok.1 λh' tk kp=>k h' tk _ kp λu0 u0 u0=>?_
  by_cases q:a<b
  ·rw [if_pos q,if_pos (show b>a from q)];exact .int _ _
  ·rw [if_neg q,if_neg (show ¬ b>a from q)];exact .int _ _
theorem Dn8 (T:Ak8 w G g0)(e:sortB a st=some (v,st',ob)):Un w g0 st st' (.builtin "sorted") a v:=
 A6 e λk hk e=>Cw5 e λo hx e=>by
  refine (Ab9 hk)▸?_
  cases o with
  | list r c=>
   refine A6 e λy hy e=>A6 e λi hi e=>Ad6 e λhz e=>?_
   rw [Ad7 hy,Ab2 hi] at hx
   refine A4 e ⟨rfl,λok hr va=>hr.listE va hx λa us ep ha hl ho hu=>?_⟩
   refine oEA (VRs.one hu) λy z1 hy=>?_;subst z1
   obtain ⟨_,rfl⟩:=hy.intI
   exact Cd3 hr ho
  | dict es=>
   refine Aa3 e λhn e=>Ad6 e λhz e=>?_
   rw [Ab8 hn] at hx
   refine A4 e ⟨rfl,λok hr va=>hr.locE va hx λa ha q=>q.elim λkvs q=>?_⟩
   obtain rfl:=q.2.nil_inv
   exact Cd4 T ok hr ha q.1
  | _=>exact no1 e
theorem Ds2 (e:listB a st=some (v,st',ob)):Un w g0 st st' (.type "list") a v:=by
 cases a with
 | tup l=>exact Ad6 e λhz e=>A4 e ⟨rfl,λok hr va=>va.tupE λa us ht hu=>ht.2.elim λm ho=>Bh1 hr (.inr rfl) ho rfl rfl hu (Nat.le_refl _) (Aa6 hz)⟩
 | loc k=>
  exact listE e λr c hx e=>Ad6 e λhz e=>A4 e ⟨rfl,λok hr va=>hr.listE va hx λa us ep ha hl ho hu=>
   Bh1 hr (.inl rfl) ho rfl rfl hu (by rw [List.length_reverse];exact hl) (by rw [List.length_reverse];exact Nat.le_trans hl (Aa6 hz))⟩
 | _=>exact no1 e
theorem Cs7 (e:Df7 a st=some (v,st',ob)):Un w g0 st st' (.type "tuple") a v:=
 A6 e λk hk e=>listE e λr c hx e=>Ad6 e λhz e=>by
  refine (Ab9 hk)▸?_
  refine A4 e ⟨rfl,λ{A as s x n} ok hr va=>hr.listE va hx λa us ep ha hl ho hu=>λQ E k=>
   call_tuple_list (Aa4 ho) (λh' kp=>?_) (by simp only [List.size_toArray,← hu.1,List.length_reverse];exact Nat.le_trans hl (Aa6 hz))⟩
  have r:=(hr.grow kp).pushT (hu.same (B2.of_keep kp))
  exact k as _ s.toks _ r.1 ((Stp.of_keep kp).trans r.2.1) r.2.2
theorem intB_s (e:intB a st=some (v,st',ob)):Un w g0 st st' (.type "int") a v:=by
 cases a with
 | int i=>exact A4 e ⟨rfl,λok hr va=>va.intE λu0=>HT.of_ hr (.int _ _) λQ E k=>call_int_int (k _)⟩
 | bool b=>refine A4 e ⟨rfl,λok hr va=>?_⟩;rw [va.boolI];exact HT.of_ hr (.int _ _) λQ E k=>call_int_bool (k _)
 | _=>exact no1 e
theorem Cv4 (e:Dh0 a st=some (v,st',ob)):Un w g0 st st' (.type "range") a v:=
 A6 e λm hm e=>Ag1 e λu0 u0 e=>by
  refine (Ab2 hm)▸?_
  refine A4 e ⟨rfl,λ{A as s x n} ok hr va=>va.intE λt=>λQ E k=>call_range_1 ?_⟩
  have kp:∀b o',s.heap.get? b=some o'→(s.heap.push {cls:=.type "range",data:=.fields #[.int 0 s.toks,.int m t,.int 1 (s.toks+1)]}).get? b=some o':=λb o' e=>Heap.get?_push_of_some _ e
  exact k as _ _ _ (hr.grow kp) (Stp.of_keep kp) (.rng m _ _ _ _ (Heap.get?_push_size _ rfl))
theorem Az6 {es:List (SV×SV)}{l:List Int}(e:keysI es=some l):es.map (·.1)=l.map SV.int∧l.length≤2:=by
 cases es with
 | nil=>exact no1 e
 | cons p r=>cases r with
  | nil=>
   refine oEA (Option.map_eq_some_iff.mp e) λa ha z2=>?_;subst z2
   exact ⟨congrArg (λx=>[x]) (Ab2 ha),Nat.le_succ 1⟩
  | cons q r=>cases r with
   | nil=>
    refine oEA (Option.bind_eq_some_iff.mp e) λa ha h=>?_
    refine oEA (Option.map_eq_some_iff.mp h) λb hb z2=>?_;subst z2
    exact ⟨by simp only [List.map_cons,List.map_cons,Ab2 ha,Ab2 hb];rfl,Nat.le_refl 2⟩
   | cons _ _=>exact no1 e
theorem map_sv {l:List Int}:∀{kvs:List (MK×Value)},(kvs.map λq=>q.1.sv)=l.map SV.int→kvs.map (·.1)=l.map MK.i:=by
 induction l with
 | nil=>intro kvs h;cases kvs with
  | nil=>rfl
  | cons _ _=>exact noL' h
 | cons i l ih=>intro kvs h;cases kvs with
  | nil=>exact noL h
  | cons p r=>exact congr (congrArg List.cons (sv_inj (Cz5 h).1)) (ih (Cz5 h).2)
theorem Du0 (T:Ak8 w G g0)(e:fsetB a st=some (v,st',ob)):Un w g0 st st' (.type "frozenset") a v:=
 A6 e λk hk e=>dictE e λes hx e=>A6 e λl hl e=>by
  simp only [Ab9 hk]
  exact A4 e ⟨rfl,λok hr va=>hr.locE va hx λa ha d=>d.elim λkvs d=>Da5 T hr ha d.1 (map_sv ((Ds4 d.2).symm.trans (Az6 hl).1)) (Az6 hl).2⟩
theorem Cp0 (T:Ak8 w G g0)(e:builtin f args st=some (v,st',ob))(hob:All ob):Cq8 w g0 st st' f args v:=by
 cases f with
 | blt b=>cases b with
  | len=>exact Dl5 e VR.bltI λa e=>lenB_s T e
  | isinstance=>exact isaB_s e
  | max=>exact maxB_s e
  | sorted=>exact Dl5 e VR.bltI λa e=>Dn8 T e
 | typ t=>cases t with
  | list=>exact Dl5 e VR.typI λa e=>Ds2 e
  | tuple=>exact Dl5 e VR.typI λa e=>Cs7 e
  | int=>exact Dl5 e VR.typI λa e=>intB_s e
  | range=>exact Dl5 e VR.typI λa e=>Cv4 e
  | frozenset=>exact Dl5 e VR.typI λa e=>Du0 T e
  | _=>exact no1 e
 | _=>exact no1 e
end
def Aj5 (w:World)(g0:Heap)(M:Nat)(a:Addr)(args:List SV)(hp:List A0)(v:SV)(hp':List A0):Prop:=
 ∀(A:Around) (as:List Addr) (s:Shared) (vs:List Value),AOk A M→HR w g0 as hp s.heap→VRs as s.heap args vs→HT w g0 A as s hp' (PV v) (call (.ref a) vs)
noncomputable def cn:List (Str×NameKind)→List Str
 | []=>[]
 | (n,k)::r=>match k with
  | .cell=>n::cn r
  | _=>cn r
structure Ea7 (g0:Heap)(a:Addr)(f:Fn)(o:Obj)(fd:FuncData):Prop where
 at_:g0.get? a=some o
 data:o.data = .func fd
 body:fd.body = .stmts f.body
 clo:fd.closure = []
 scope:fd.scope=f.scope
 co:f.scope.isCoroutine=false
 gen:f.scope.isGenerator=false
 kind:f.scope.kind = .function
 code:g0.CodeRec fd.code fd.qualname
 glo:fd.globals=mainGlobals
 blt:fd.builtins=builtinsNs
 dbg:look f.scope.names ("__debug__":Str)=none
 lam:∀k a,f.lam=some (k,a)→fd.code = .ref a
 nd:(cn f.scope.names).Nodup
 pnd:f.params.Nodup
 cl:∀x∈cn f.scope.names,look f.scope.names x≠some .local
 bind:∀(as:List Addr) (h:Heap) (args:List SV) (vs:List Value) (ps:List (Str×SV)),(∀b o,g0.get? b=some o→h.get? b=some o)→VRs as h args vs→fill f.params f.dflt args=some ps→
  ∃us:List Value,us.length=f.params.length∧(∀s:Shared,s.heap=h→BindsTo s fd ⟨vs,[]⟩ (f.params.zip us))∧∃l,ps=f.params.zip l∧VRs as h l us
structure GOk (w:World)(G:Top)(K:Frag)(g0:Heap)(mg mb:Str→Option Value):Prop where
 tab:Ak8 w G g0
 kin:K.In g0
 lim:g0.NoLimit
 ns:g0.Ns mainGlobals mg
 nb:g0.Ns builtinsNs mb
 glob:∀n v,G.glob n=some v→∃u,mg n=some u∧VR [] g0 v u
 blt:∀n v,G.glob n=none→G.blt n=some v→mg n=none∧∃u,mb n=some u∧VR [] g0 v u
 free:∀C n,G.free C n=true→plainGet K C n=true∧hasDictIn K C=true∧(∃attr,findIn K (.ref C) n=some attr∧noGet K attr=true)∧
  findIn K (.ref C) "__setattr__"=some (some (.builtin "object.__setattr__"))∧plainOver K C=true∧takerIn K C n=some none
 meth:∀C n f,G.meth C n=some f→plainGet K C n=true∧findIn K (.ref C) n=some (some (.ref f))∧typeIn K (.ref f)=some (.type "function")∧fnIn K f=true
 fn:∀a f,G.fn a=some f→keepIn K (.ref a)=true∧∃o fd,Ea7 g0 a f o fd
 sum:∀a,G.sum a=true→keepIn K (.ref a)=true
 cls:∀a,G.cls a=true→keepIn K (.ref a)=true∧makesIn K a=true
 code:∀a P,G.code a=some P→CodeHd g0 a P∧g0.BuiltinsAt mg P∧g0.get? P=none
section
variable {w:World}{G:Top}{K:Frag}{g0:Heap}{mg mb:Str→Option Value}{env:Env}{c:EC}{A:Around}{as:List Addr}{st st':St}{s:Shared}{n:Nat}
theorem VR.up {hp:List A0}{h:Heap}{v:SV}{u:Value}(x:HR w g0 as hp h)(r:VR [] g0 v u):VR as h v u:=r.mono (B2.of_keep x.base) ⟨as,rfl⟩
def Ea2 (w:World)(g0:Heap)(env:Env)(c:EC)(A:Around)(as:List Addr)(s:Shared)(st st':St)(v:SV)(x:Str)(p:Pos):Prop:=st'=st∧Tr w g0 env c A as s st (PV v) (eval (.Name x p) env)
theorem Ea2.of {x:Str}{v:SV}{u:Value}{p:Pos}(I:In w g0 env c as st s.heap)(hu:VR as s.heap v u)
  (k:∀{Q E},Q u s→wpAny (model pw w) A (eval (.Name x p) env) Q E s):Ea2 w g0 env c A as s st st v x p:=
 ⟨rfl,λQ E q=>k (q as s.heap s.toks _ I (Stp.refl _ _ _) hu)⟩
theorem Dd5 {kd:NameKind}{x:Str}(O:EOk env c)(hk:look c.names x=some kd):(x==("__debug__":Str))=false:=
 beq_eq_false_iff_ne.mpr λe=>no1 (O.dbg.symm.trans (e▸hk))
theorem Bm9 (H:GOk w G K g0 mg mb){x:Str}{v:SV}{ob:List Prop}(e:Cy0 G c x st=some (v,st',ob))(O:EOk env c)(I:In w g0 env c as st s.heap)(p:Pos):Ea2 w g0 env c A as s st st' v x p:=
 A6 e λkd hk e=>by
  have hd:=Dd5 O hk
  have hkd:env.kindOf x=some kd:=(O.names x).trans hk
  cases kd with
  | «local»=>
   refine Ax4 e λhl=>?_
   obtain ⟨m,hn,hv⟩:=I.fr
   exact (hv x v hl).elim λy hy=>.of I hy.2 λq=>wpAny_Name (wpAny_loadName_local O.kind hkd hn hy.1 q) hd
  | cell=>
   refine A6 e λj hc e=>?_
   obtain ⟨o,ho,e⟩:=objb e
   cases o with
   | cell cv=>
    refine Ax4 e λh=>?_
    subst h
    obtain ⟨a,ha,hla⟩:=I.cells x j hc
    obtain ⟨b,hb,cv,hcell,y,hy,hyv⟩:=I.hr.at_ j _ ho
    obtain rfl:=A9 (ha.symm.trans hb)
    exact .of I hyv λq=>wpAny_Name (wpAny_loadName_cell O.kind hkd hla (hy▸hcell) q) hd
   | _=>exact no1 e
  | globalImplicit=>
   refine Ax4 e λh=>?_
   have hns:s.heap.Ns env.globals mg:=by rw [O.globals];exact H.ns.keeps I.hr.base
   have hnb:s.heap.Ns env.builtins mb:=by rw [O.builtins];exact H.nb.keeps I.hr.base
   unfold Bt6 at h
   cases hg:G.glob x with
   | some u=>
    simp only [hg] at h
    obtain rfl:=A9 h
    exact (H.glob x u hg).elim λy hy=>.of I (hy.2.up I.hr) λq=>Name_function_global O.kind hkd (loadGlobal_global hns hy.1 q) hd
   | none=>
    replace h:=hg▸h
    refine oAEA (H.blt x v hg h) λhm y hy hyv=>?_
    exact .of I (hyv.up I.hr) λq=>Name_function_global O.kind hkd (loadGlobal_builtin hns hm hnb hy q) hd
  | _=>exact no1 e
end
section
variable {w:World}{G:Top}{K:Frag}{g0:Heap}{mg mb:Str→Option Value}{env:Env}{c:EC}{A:Around}{as:List Addr}{st st':St}{s:Shared}{n:Nat}
theorem Cf7 (p:Str×SV)(r:List (Str×SV))(x:Str)(v:SV):put1 (p::r) x v=match seq p.1 x with | true=>(p.1,v)::r | false=>p::put1 r x v:=rfl
theorem Bg9 {x z:Str}{v:SV}(l:List (Str×SV)):look (put1 l x v) z=if z=x then some v else look l z:=by
 have one:∀(k:Str) (r:List (Str×SV)),k=x→look ((k,v)::r) z=if z=x then some v else look r z:=λk r h=>by
  rw [Aa7,h]
  by_cases q:z=x
  ·rw [if_pos q];simp only [q,Bq9]
  ·rw [if_neg q]
   cases q':seq x z with
   | true=>exact absurd (Ab0.mp q').symm q
   | false=>rfl
 induction l with
 | nil=>exact one x [] rfl
 | cons p r ih=>
  rw [Cf7]
  cases hp:seq p.1 x with
  | true=>
   refine (one _ r (Ab0.mp hp)).trans ?_
   by_cases q:z=x
   ·rw [if_pos q,if_pos q]
   ·rw [if_neg q,if_neg q,Aa7,Ab0.mp hp]
    cases q':seq x z with
    | true=>exact absurd (Ab0.mp q').symm q
    | false=>rfl
  | false=>
   show look (p::put1 r x v) z=_
   rw [Aa7,Aa7,ih]
   by_cases q:z=x
   ·rw [if_pos q,if_pos q];simp only [q,hp]
   ·rw [if_neg q,if_neg q]
theorem Bg3 {h h':Heap}{lc:List (Str×SV)}{m:Str→Option Value}{x:Str}{v:SV}{y:Value}(hv:∀n sv,look lc n=some sv→∃u,m n=some u∧VR as h sv u)(im:B2 h h')(hy:VR as h v y):
  ∀n sv,look (put1 lc x v) n=some sv→∃u,(if n=x then some y else m n)=some u∧VR as h' sv u:=λn sv q=>by
 rw [Bg9] at q
 by_cases z:n=x
 ·rw [if_pos z] at q ⊢
  exact ⟨y,rfl,A9 q▸hy.mono im ⟨[],(List.append_nil _).symm⟩⟩
 ·rw [if_neg z] at q ⊢
  exact (hv n sv q).elim λt ht=>⟨t,ht.1,ht.2.mono im ⟨[],(List.append_nil _).symm⟩⟩
theorem In.put {x:Str}{v:SV}{y:Value}{h h':Heap}{m:Str→Option Value}(I:In w g0 env c as st h)(hs:Heap.SameBut env.locals h h')(hn:h.Ns env.locals m)(hn':h'.Ns env.locals λn=>if n=x then some y else m n)
  (hv:∀n sv,look st.lc n=some sv→∃u,m n=some u∧VR as h sv u)(hy:VR as h v y):In w g0 env c as {st with lc:=put1 st.lc x v} h'∧Stp (some env.locals) as h as h':=by
 refine Az1 (id hn) λo es ep ho hd u0=>?_
 have im:B2 h h':=B2.same hs ho (Al6 hd)
 have key:∃o',h'.get? env.locals=some o':=by refine Ai5 hn' λo' u0 u0 ho' u0=>?_;exact ⟨o',ho'⟩
 refine ⟨⟨⟨I.hr.len,I.hr.nd,I.hr.lo,λb o e=>(hs.2 b λq=>no1 (I.lo.symm.trans (q▸e))).trans (I.hr.base b o e),λj p e=>?_,I.hr.hidL (Bk7.same hs key)⟩,⟨_,hn',Bg3 hv im hy⟩,I.off,I.lo,I.cells⟩,
  ⟨⟨[],(List.append_nil _).symm,λu0 h=>(nomatch h)⟩,λb o e=>?_,λb o e hb hL=>(hs.2 b λq=>hL (q▸rfl)).trans e,im⟩⟩
 ·exact (I.hr.at_ j p e).elim λa r=>⟨a,r.1,r.2.mono im ⟨[],(List.append_nil _).symm⟩ λob e'=>(hs.2 a λq=>I.off (q▸List.mem_of_getElem? r.1)).trans e'⟩
 ·by_cases q:b=env.locals
  ·exact q▸key
  ·exact ⟨o,(hs.2 b q).trans e⟩
theorem Bl5 {x:Str}{v:SV}{u:Unit}{ob:List Prop}(e:Cd6 c x v st=some (u,st',ob))(O:EOk env c)(I:In w g0 env c as st s.heap){y:Value}(hy:VR as s.heap v y):
  Tr w g0 env c A as s st' PU (storeName env x y):=
 A6 e λkd hk e=>by
  cases kd with
  | «local»=>
   refine A4 e ?_
   refine oEA (I.fr) λm hn hv=>?_
   exact λQ E k=>wpAny_storeName_local ((O.names x).trans hk) hn (λh' hn' hs=>have q:=I.put hs hn hn' hv hy;k as h' _ () q.1 q.2 trivial) (by rw [O.kind];rfl)
  | cell=>
   refine A6 e λj hc e=>?_
   refine oEA (objb e) λo ho e=>?_
   cases o with
   | cell cv=>
    refine A4 e ?_
    refine oEA (I.cells x j hc) λa ha hla=>?_
    obtain ⟨b,hb,cv',hcell,_⟩:=I.hr.at_ j _ ho
    obtain rfl:=A9 (ha.symm.trans hb)
    refine λQ E k=>wpAny_storeName_cell O.kind ((O.names x).trans hk) hla hcell λh' hc' hs=>?_
    obtain ⟨ob,hob,hdd⟩:=hcell
    have im:B2 s.heap h':=B2.same hs hob (Bt1 hdd)
    exact k as h' s.toks () (I.upd (o:=.cell (some v)) ha hs ⟨_,hc',y,rfl,hy.mono im ⟨[],(List.append_nil _).symm⟩⟩).1 (I.upd (o:=.cell (some v)) ha hs ⟨_,hc',y,rfl,hy.mono im ⟨[],(List.append_nil _).symm⟩⟩).2.any trivial
   | _=>exact no1 e
  | _=>exact no1 e
theorem Bd5 {o:Obj}{es:Array DictEntry}{ep:Nat}{m:Str→Option Value}{x:Str}(hd:o.data = .dict es ep)(hk:StrKeys es)(hm:∀name,nsFind es name=m name):lookIn x o=some (m x):=by
 unfold lookIn
 rw [hd,← hm]
 unfold nsFind findBy
 dsimp only
 refine (Array.find?_toList)▸?_
 cases q:es.toList.find? (λe=>e.key.isStr x) with
 | some e=>rfl
 | none=>
  have:es.toList.any (·.refKey)=false:=List.any_eq_false.mpr λe he=>by
   refine oEE (hk e (Array.mem_toList_iff.mp he)) λn t h=>?_
   unfold DictEntry.refKey;exact h▸Bool.false_ne_true
  refine this▸?_
  rfl
theorem Ax3 {v u:SV}(e:Bg5 v=some u):u=v∧∀{as:List Addr} {h:Heap} {x:Value},VR as h v x→handedIn x=true:=by
 have ok:∀{v:SV},some v=some u→(∀{as:List Addr} {h:Heap} {x:Value},VR as h v x→handedIn x=true)→u=v∧∀{as:List Addr} {h:Heap} {x:Value},VR as h v x→handedIn x=true:=λe k=>⟨(A9 e).symm,k⟩
 cases v with
 | val v=>exact no1 e
 | any=>exact no1 e
 | blt v=>exact no1 e
 | none=>exact ok e λh=>by exact congrArg _ (h.noneI)
 | bool b=>exact ok e λh=>by exact congrArg _ (h.boolI)
 | int b=>exact ok e λh=>h.inv.elim λu0 q=>by exact congrArg _ q
 | str b=>exact ok e λh=>h.inv.elim λu0 q=>by exact congrArg _ q
 | tup b=>exact ok e λh=>h.inv.elim λu0 q=>q.elim λu0 q=>by exact congrArg _ (q.1)
 | loc b=>exact ok e λh=>h.inv.elim λu0 q=>by rw [q.1];rfl
 | glb b=>exact ok e λh=>by exact congrArg _ (h.glbI)
 | typ b=>exact ok e λh=>by exact congrArg _ (h.typI)
 | fset b=>exact ok e λh=>h.inv.elim λu0 q=>by rw [q.1];rfl
 | rng b=>exact ok e λh=>h.inv.elim λu0 q=>q.elim λu0 q=>q.elim λu0 q=>q.elim λu0 q=>by exact congrArg _ (q.1)
 | key b=>exact ok e λh=>by rcases MK.is_inv h.inv with ⟨_,_,_,q⟩ | ⟨_,_,_,q⟩<;>rw [q]<;>rfl
theorem Cx8 {α:Type}{n:Str}{l:List (Str×α)}{v:α}(e:look l n=some v):n∈l.map (·.1):=by
 induction l with
 | nil=>exact no1 e
 | cons p r ih=>
  rw [Aa7] at e
  cases q:seq p.1 n with
  | true=>simp only [← Ab0.mp q];exact List.mem_cons_self
  | false=>rw [q] at e;exact List.mem_cons_of_mem _ (ih e)
structure InstN (as:List Addr)(h:Heap)(d:Nat)(C:Addr)(es:List (Str×SV))(a dx:Addr)(od:Obj)(m:Str→Option Value):Prop where
 dx_:as[d]?=some dx
 od_:h.get? dx=some od
 at_:InstAt h a {cls:=.ref C,dict:=some dx,data:=.plain} C (some od)
 ns:h.Ns1 dx m
 imm:¬ Imm od
 find:∀x,lookIn x od=some (m x)
 on:∀n v,look es n=some v→∃u,m n=some u∧VR as h v u
 off:∀n,look es n=none→m n=none
@[elab_as_elim] theorem Bn3 {hp:List A0}{h:Heap}(y:HR w g0 as hp h){k d:Nat}{C:Addr}{es:List (Str×SV)}{x:Value}{P:Value→Prop}(v:VR as h (.loc k) x)(e:hp[k]?=some (.inst C d))(e':hp[d]?=some (.ns es))
  (q:∀a dx od m,InstN as h d C es a dx od m→P (.ref a)):P x:=
 y.locE v e λa ha z=>z.elim λdx z=>by
  refine oEAEAA (y.at_ d _ e') λb hb m hn hv hz=>?_
  obtain rfl:=A9 (z.1.symm.trans hb)
  obtain ⟨od,es',ep,hod,hdd,hk,_,hm⟩:=id hn
  exact q a dx od m ⟨z.1,hod,⟨z.2,rfl,rfl,hod⟩,hn,Al6 hdd,λx=>Bd5 hdd hk hm,hv,hz⟩
abbrev GetaC (w:World)(g0:Heap)(st st':St)(o v:SV)(x:Str):Prop:=st'=st∧∀{A as s y},HR w g0 as st.hp s.heap→VR as s.heap o y→∀ex,HT w g0 A as s st.hp (PV v) (getAttr y x ex)
theorem geta_s (H:GOk w G K g0 mg mb){o v:SV}{x:Str}{ob:List Prop}(e:geta G o x st=some (v,st',ob)):GetaC w g0 st st' o v x:=
 A6 e λk hk e=>instE e λC d hx e=>Aa3 e λhf e=>nsE e λes hd e=>by
  refine (Ab9 hk)▸?_
  refine Ax4 e λh3=>⟨rfl,λ{A as s y} hr vy ex=>Bn3 hr vy hx hd λa dx od m N=>?_⟩
  refine oEA (Option.bind_eq_some_iff.mp h3) λu hu hu2=>?_
  have p:=Ax3 hu2
  rw [← p.1] at hu p
  obtain ⟨z,hmz,hvz⟩:=N.on x v hu
  refine oAAA (H.free C x hf) λg1 g2 z2 u0=>?_;obtain ⟨attr,g3,g4⟩:=z2
  exact HT.of_ hr hvz λQ E k=>get_value (H.kin.keeps hr.base) N.at_ (plainGet_of g1).1 (findObj_own g2 g3 g4 (by rw [N.find,hmz])) (p.2 hvz) (k _)
abbrev SetaC (w:World)(g0:Heap)(st st':St)(o v:SV)(x:Str):Prop:=st'.lc=st.lc∧∀{A as s y z},HR w g0 as st.hp s.heap→VR as s.heap o y→VR as s.heap v z→HT w g0 A as s st'.hp PU (setAttr y x z)
theorem seta_s (H:GOk w G K g0 mg mb){o v:SV}{x:Str}{u:Unit}{ob:List Prop}(e:seta G o x v st=some (u,st',ob)):SetaC w g0 st st' o v x:=
 A6 e λk hk e=>instE e λC d hx e=>Aa3 e λhf e=>nsE e λes hd e=>Ad6 e λhsz e=>by
  refine (Ab9 hk)▸?_
  refine A4 e ⟨rfl,λ{A as s y z} hr vy vz=>Bn3 hr vy hx hd λa dx od m N Q E K=>?_⟩
  refine oAAAAA (H.free C x hf) λu0 g2 u0 g5 g6 g7=>?_
  have X:=H.kin.keeps hr.base
  refine oEA (any_some g2) λcd hc hd'=>?_
  refine set_plain X N.at_ g5 (osa_open (s:={s with toks:=s.toks+1}) X N.at_ g6 g7 λb=>?_)
  refine wpAny_bind (wpAny_pure (wpAny_bind (wpAny_bind (wpAny_loadPart N.at_.at_ (wpAny_bind (Looks.here (s:={s with toks:=s.toks+1}) (looks_clsIn X hc) ?_))))))
  refine hd'.symm▸?_
  refine wpAny_pure (a:=some dx) (wpAny_bind (wpAny_pure (wpAny_bind ?_)))
  refine wpAny_nsSet1 (s:={s with toks:=s.toks+1}) N.ns λh' hn' hs=>?_
  have r:=hr.set_ (o:=.ns (put1 es x v)) N.dx_ hs ⟨_,hn',Bg3 N.on (B2.same hs N.od_ N.imm) vz,λn q=>by
   rw [Bg9] at q
   by_cases z':n=x
   ·rw [if_pos z'] at q;exact no3 q
   ·rw [if_neg z'] at q ⊢;exact N.off n q⟩
  have hle:Within (λn=>if n=x then some z else m n) (x::es.map (·.1)):=Within.cons x z λn hnn=>by
   cases q:look es n with
   | none=>exact absurd (N.off n q) hnn
   | some u=>exact Cx8 q
  obtain ⟨o',es₂,ep₂,ho',hd',hc'⟩:=hn'.count hle
  simp only [List.length_cons,List.length_map] at hc'
  refine wpAny_bind (wpAny_lookBehind ho' (by refine Eq.trans (congrArg _ hd') ?_;exact pastItsLine_dict (Nat.le_trans hc' (Nat.succ_le_succ (Aa6 hsz)))) ?_)
  exact wpAny_pure (K as h' _ () r.1 r.2 trivial)
end
inductive FlR (as:List Addr)(h:Heap):A8→Flow→Prop
 | next:FlR as h .next .next
 | brk:FlR as h .brk .brk
 | cont:FlR as h .cont .cont
 | ret (v:SV) (x:Value):VR as h v x→FlR as h (.ret v) (.ret x)
abbrev PF (f:A8):List Addr→Heap→Flow→Prop:=λas h x=>FlR as h f x
def FlI (as:List Addr)(h:Heap):A8→Flow→Prop
 | .next,x=>x = .next
 | .brk,x=>x = .brk
 | .cont,x=>x = .cont
 | .ret v,x=>∃y,x = .ret y∧VR as h v y
theorem FlR.inv {as:List Addr}{h:Heap}{f:A8}{x:Flow}(r:FlR as h f x):FlI as h f x:=by
 cases r with
 | ret v x q=>exact ⟨x,rfl,q⟩
 | _=>rfl
def Ba8 (b:Bool)(h:Heap)(it l:Addr)(k:Nat):Prop:=match b with
 | true=>h.IsTupleIter it l k
 | false=>h.IsListIter it l k
def Be6 (b:Bool)(h:Heap)(l:Addr)(xs:Array Value):Prop:=match b with
 | true=>h.IsTuple l xs
 | false=>h.IsList l xs
theorem Ba8.to {b:Bool}{h h':Heap}{it l:Addr}{k:Nat}(x:Ba8 b h it l k)(e:∀o,h.get? it=some o→h'.get? it=some o):Ba8 b h' it l k:=by
 cases b with
 | true=>obtain ⟨o,ho,r⟩:=x;exact ⟨o,e o ho,r⟩
 | false=>obtain ⟨o,ho,r⟩:=x;exact ⟨o,e o ho,r⟩
theorem Be6.to {b:Bool}{h h':Heap}{l:Addr}{xs:Array Value}(x:Be6 b h l xs)(e:∀o,h.get? l=some o→h'.get? l=some o):Be6 b h' l xs:=by
 cases b with
 | true=>obtain ⟨o,ho,r⟩:=x;exact ⟨o,e o ho,r⟩
 | false=>obtain ⟨o,ho,r⟩:=x;exact ⟨o,e o ho,r⟩
structure Ar9 (b:Bool)(h:Heap)(z TI TO i1 i2 l1 l2:Addr)(i:Nat)(f0:Value):Prop where
 D:ZipApart z TI TO i1 i2 l1 l2
 hidI:TI∈Hid.off
 hidO:TO∈Hid.off
 shz:z∉Hid.off
 sh1:i1∉Hid.off
 sh2:i2∉Hid.off
 hz:IsZip h z TI TO f0
 hTI:IsPair h TI (.ref i1) (.ref i2)
 hTO:∃p q,IsPair h TO p q
 h1:Ba8 b h i1 l1 i
 h2:h.IsListIter i2 l2 i
def ItR (w:World)(as:List Addr)(h:Heap):SIt→Addr→List Addr→Prop
 | .tup l,I,own=>own = [I]∧∃t vs i,h.IsTupleIter I t i∧Ab6 h t vs∧VRs as h l (vs.drop i)
 | .lst k i,I,own=>own = [I]∧∃a,as[k]?=some a∧h.IsListIter I a i
 | .rng i n,I,own=>own = [I]∧IsRangeIter h I i (max 0 (n-i)) 1
 | .keys,I,own=>own = [I]∧∃d ep,(d==sysModules)=false∧h.IsKeyIter I d 0 0 ep∧h.DictAt (Aa1 w) d [] ep
 | .zipT l k i,I,own=>∃TI TO i1 i2 l1 l2 vs,own = [I,TI,TO,i1,i2]∧Ar9 true h I TI TO i1 i2 l1 l2 i .none∧as[k]?=some l2∧Ab6 h l1 vs∧VRs as h l (vs.drop i)
 | .zipL j k i,I,own=>∃TI TO i1 i2 l1 l2,own = [I,TI,TO,i1,i2]∧Ar9 false h I TI TO i1 i2 l1 l2 i .none∧as[k]?=some l2∧as[j]?=some l1
noncomputable def Ah8:SIt→Bool
 | .zipT _ _ _=>true
 | .zipL _ _ _=>true
 | _=>false
def Az7:SIt→Bool
 | .keys=>true
 | _=>false
structure Aj3 (g0:Heap)(L:Addr)(as:List Addr)(own:List Addr):Prop where
 as:∀a∈own,a∉as
 fr:L∉own
 base:∀a∈own,g0.get? a=none
structure Aj7 (own:List Addr)(L:Addr)(as:List Addr)(h:Heap)(as':List Addr)(h':Heap):Prop where
 ext:∃ns,as'=as++ns∧∀a∈ns,h.get? a=none
 live:∀a o,h.get? a=some o→a∉own→∃o',h'.get? a=some o'
 keep:∀a o,h.get? a=some o→a∉as→a≠L→a∉own→h'.get? a=some o
 imm:B2 h h'
def Ad1 (K:Frag)(fv:Value):Prop:=∀(M:Model) (h:Heap),K.In h→∃k,(k=Keeper.frame∨k=Keeper.machine∨k=Keeper.boundFrame)∧Looks M h (keeperOf fv) k
theorem Ad1.of {K:Frag}{fv:Value}(h:keepIn K fv=true):Ad1 K fv:=λM hp X=>keeps_K h hp X
theorem Ad1.typ {K:Frag}{n:String}:Ad1 K (.type n):=λM hp X=>⟨_,.inr (.inl rfl),Looks.now⟩
theorem Ad1.blt {K:Frag}{n:String}:Ad1 K (.builtin n):=λM hp X=>⟨_,.inr (.inl rfl),Looks.now⟩
def Dz9 (w:World)(g0:Heap)(env:Env)(c:EC)(A:Around)(as:List Addr)(s:Shared)(st':St)(v:SV)(e:Expr):Prop:=
 ∀(u:Value→Sem Unit) (st2:St) (Q:Unit→Shared→Prop) (E:Value→Shared→Prop),
  (∀as' h' tk x,In w g0 env c as' st' h'→Stp (some env.locals) as s.heap as' h'→VR as' h' v x→Tr w g0 env c A as' {s with heap:=h',toks:=tk} st2 PU (u x))→
  (∀as' h' tk,In w g0 env c as' st2 h'→Stp (some env.locals) as s.heap as' h'→Q () {s with heap:=h',toks:=tk})→wpAny (model pw w) A (evalThenUse e env u) Q E s
structure Snd (w:World)(K:Frag)(g0:Heap)(M n:Nat)(R:Rec):Prop where
 ev:∀{c e st v st' ob},R.ev c e st=some (v,st',ob)→All ob→Ac1 e=true∧∀{env A as s},EOk env c→AOk A (M+4*n)→In w g0 env c as st s.heap→Tr w g0 env c A as s st' (PV v) (eval e env)
 use:∀{c e st v st' ob},R.ev c e st=some (v,st',ob)→All ob→Am5 e=true→∀{env A as s},EOk env c→AOk A (M+4*n)→In w g0 env c as st s.heap→Dz9 w g0 env c A as s st' v e
 evs:∀{c es st l st' ob},R.evs c es st=some (l,st',ob)→All ob→es.all Ac1=true∧∀{env A as s},EOk env c→AOk A (M+4*n)→In w g0 env c as st s.heap→∀pos,Tr w g0 env c A as s st' (PVs l) (spliced (backTo pos (starEach es env)))
 tr:∀{c e st b st' ob},R.tr c e st=some (b,st',ob)→All ob→∀{env A as s},EOk env c→AOk A (M+4*n)→In w g0 env c as st s.heap→Tr w g0 env c A as s st' (PE b) (isTrue e env (eval e env))
 asg:∀{c t v st u st' ob},R.asg c t v st=some (u,st',ob)→All ob→Ac1 t=true∧∀{env A as s y},EOk env c→AOk A (M+4*n)→In w g0 env c as st s.heap→VR as s.heap v y→Tr w g0 env c A as s st' PU (assign t env y)
 ex:∀{c t st f st' ob},R.ex c t st=some (f,st',ob)→All ob→∀{env A as s},EOk env c→AOk A (M+4*n)→In w g0 env c as st s.heap→Tr w g0 env c A as s st' (PF f) (exec t env)
 exs:∀{c b st f st' ob},R.exs c b st=some (f,st',ob)→All ob→∀{env A as s},EOk env c→AOk A (M+4*n)→In w g0 env c as st s.heap→Tr w g0 env c A as s st' (PF f) (execs b env)
 call:∀{f args st v st' ob},R.call f args st=some (v,st',ob)→All ob→st'.lc=st.lc∧(∀{as h fv},VR as h f fv→Ad1 K fv)∧
  ∀{A as s fv vs},AOk A (M+4*n)→HR w g0 as st.hp s.heap→VR as s.heap f fv→VRs as s.heap args vs→HT w g0 A as s st'.hp (PV v) (call fv vs)
 forL:∀{c t it b st f st' ob},R.forL c t it b st=some (f,st',ob)→All ob→∀{env A as s I own},EOk env c→AOk A (M+4*n)→In w g0 env c as st s.heap→ItR w as s.heap it I own→Aj3 g0 env.locals as own→(Ah8 it=false→∀a∈own,a∉Hid.off)→
  ∀RR:Result→Shared→Prop,(∀as' h' tk x,In w g0 env c as' st' h'→Aj7 own env.locals as s.heap as' h'→FlR as' h' f x→RR (.ok x) {s with heap:=h',toks:=tk})→codeAny (model pw w) A (.forLoop t (.ref I) b [] env) RR s
 whl:∀{c t b st f st' ob},R.whl c t b st=some (f,st',ob)→All ob→∀{env A as s},EOk env c→AOk A (M+4*n)→In w g0 env c as st s.heap→
  ∀RR:Result→Shared→Prop,(∀as' h' tk x,In w g0 env c as' st' h'→Stp (some env.locals) as s.heap as' h'→FlR as' h' f x→RR (.ok x) {s with heap:=h',toks:=tk})→codeAny (model pw w) A (.whileLoop t b [] env) RR s
 cmpL:∀{c x elt ifs it acc st l st' ob},R.cmpL c x elt ifs it acc st=some (l,st',ob)→All ob→∀{env A as s I own D vs ep},EOk env c→AOk A (M+4*n)→In w g0 env c as st s.heap→ItR w as s.heap it I own→Aj3 g0 env.locals as (D::own)→D∉own→(∀a∈own,a∉Hid.off)→
  s.heap.get? D=some (Ar0 vs ep)→VRs as s.heap acc.reverse vs→Ah8 it=false→∀{px iter scope pos},
  ∀RR:Result→Shared→Prop,(∀as' h' tk vs' ep',In w g0 env c as' st' h'→Aj7 (D::own) env.locals as s.heap as' h'→D∉as'→h'.get? D=some (Ar0 vs' ep')→VRs as' h' l.reverse vs'→RR (.ok .next) {s with heap:=h',toks:=tk})→
   codeAny (model pw w) A (.compLoop (.ListComp elt [⟨.Name x px,iter,ifs,0⟩] scope pos) 0 (.ref I) (.ref D) env) RR s
section
variable {w:World}{G:Top}{K:Frag}{g0:Heap}{mg mb:Str→Option Value}{env:Env}{c:EC}{A:Around}{as:List Addr}{st st1 st2 st':St}{s:Shared}{M n:Nat}{R:Rec}
theorem Tr.two {β γ:Type}{P:List Addr→Heap→β→Prop}{P':List Addr→Heap→γ→Prop}{t:Sem β}{f:β→Sem γ}{r:Sem γ}
  (rule:∀(Q:γ→Shared→Prop) (E:Value→Shared→Prop),wpAny (model pw w) A t (λb s1=>wpAny (model pw w) A (f b) Q E s1) E s→wpAny (model pw w) A r Q E s)
  (x:Tr w g0 env c A as s st1 P t)
  (y:∀as1 h1 tk1 b,In w g0 env c as1 st1 h1→Stp (some env.locals) as s.heap as1 h1→P as1 h1 b→Tr w g0 env c A as1 {s with heap:=h1,toks:=tk1} st2 P' (f b)):Tr w g0 env c A as s st2 P' r:=
 λQ E k=>rule Q E (x.run k y)
theorem Tr.mono {β:Type}{P P':List Addr→Heap→β→Prop}{t:Sem β}(x:Tr w g0 env c A as s st1 P t)(h:∀as h b,P as h b→P' as h b):Tr w g0 env c A as s st1 P' t:=
 λQ E k=>x Q E λas' h' tk b i S p=>k as' h' tk b i S (h _ _ _ p)
theorem Tr.eq {β:Type}{P:List Addr→Heap→β→Prop}{t r:Sem β}(x:Tr w g0 env c A as s st1 P t)(h:r=t):Tr w g0 env c A as s st1 P r:=h▸x
theorem Ad3 {e:Expr}{rest:List Expr}(h:Ac1 e=true):starEach (e::rest) env=(false,eval e env)::starEach rest env:=by
 cases e<;>first | rfl | cases h
theorem Ae1 {pos:Pos}:∀{es:List Expr},es.all Ac1=true→(backTo pos (starEach es env)).any (·.1)=false
 | [],_=>rfl
 | e::r,h=>by
  simp only [List.all_cons,Bool.and_eq_true] at h
  rw [Ad3 h.1]
  exact Ae1 h.2
theorem Ak4 {M:Model}{f:Value}{E:Value→Shared→Prop}{Q:Args→Shared→Prop}(h:wpAny M A (spliced []) (λvs s'=>Q ⟨vs,[]⟩ s') E s):wpAny M A (evalArgs f true [] []) Q E s:=by
 refine wpAny_bind (wpAny_mono h (λvs s' h'=>?_) λu0 u0 x=>x)
 refine wpAny_holding ?_
 exact wpAny_bind (wpAny_pure (wpAny_bind (wpAny_pure (wpAny_pure h'))))
theorem Ar6 {pos:Pos}{fv:Value}{first:List Value}{es:List Expr}{l:List SV}{v:SV}
  (H:GOk w G K g0 mg mb)(hn:es.all Ac1=true)(hk:Ad1 K fv)(a:Tr w g0 env c A as s st1 (PVs l) (spliced (backTo pos (starEach es env))))
  (y:∀as1 h1 tk1 vs,In w g0 env c as1 st1 h1→Stp (some env.locals) as s.heap as1 h1→VRs as1 h1 l vs→Tr w g0 env c A as1 {s with heap:=h1,toks:=tk1} st2 (PV v) (call fv (first++vs))):
  Tr w g0 env c A as s st2 (PV v) (callWith pos fv first (backTo pos (starEach es env)) []):=λQ E k=>by
 refine callWith_of (P:=K.In) (by rw [Ae1 hn];rfl) (hk _) ?_
 have go:wpAny (model pw w) A (spliced (backTo pos (starEach es env))) (λvs s₁=>K.In s₁.heap∧wpAny (model pw w) A (call fv (first++vs)) Q E s₁) E s:=
  a _ E λas1 h1 tk1 vs i S p=>⟨H.kin.keeps i.hr.base,y as1 h1 tk1 vs i S p Q E λas2 h2 tk2 b i2 S2 p2=>k as2 h2 tk2 b i2 (S.trans S2) p2⟩
 cases es with
 | nil=>exact Ak4 go
 | cons e r=>
  rw [List.all_cons,Bool.and_eq_true] at hn
  have e1:backTo pos (starEach (e::r) env)=(false,eval e env)::backTo pos (starEach r env):=by exact congrArg _ (Ad3 hn.1)
  rw [e1] at go ⊢
  exact Calls.evalArgs_plain go
end
section
variable {w:World}{G:Top}{K:Frag}{g0:Heap}{mg mb:Str→Option Value}{env:Env}{c:EC}{A:Around}{as:List Addr}{st st1 st2 st':St}{s:Shared}{M n:Nat}{R:Rec}
theorem Dw6 {k:Const}{v:SV}{i:Nat}{p:Pos}(e:Cn6 k=some v)(I:In w g0 env c as st s.heap):Tr w g0 env c A as s st (PV v) (eval (.Constant k i p) env):=by
 cases k with
 | none=>(replace e:=A9 e;subst e);exact λQ E k=>wpAny_Constant_none (k as _ _ _ I (Stp.refl _ _ _) .none)
 | bool b=>cases e;exact λQ E k=>wpAny_Constant_bool (k as _ _ _ I (Stp.refl _ _ _) (.bool _))
 | int b=>(replace e:=A9 e;subst e);exact λQ E k=>wpAny_Constant_int (k as _ _ _ I (Stp.refl _ _ _) (.int _ _))
 | str b=>cases e;exact λQ E k=>PySem.wpAny_Constant_str (k as _ _ _ I (Stp.refl _ _ _) (.str _ _))
 | _=>exact no1 e
theorem Tr.heap {β:Type}{P:List Addr→Heap→β→Prop}{t:Sem β}{hp':List A0}(I:In w g0 env c as st s.heap)(e:st1.lc=st.lc)(h:HT w g0 A as s st1.hp P t):Tr w g0 env c A as s st1 P t:=Tr.of_HT I e h
theorem Cg1 {op:Operator}{a b v:SV}{ob:List Prop}(e:(match op with | .Pow=>powr a b | _=>De2 op a b) st=some (v,st',ob))(hob:All ob):Dk0 w g0 st st' op a b v:=by
 cases op with
 | Pow=>exact ((Dh2 (w:=w) (g0:=g0) e).1).symm▸(Dh2 (w:=w) (g0:=g0) e).2
 | _=>exact Dz3 e hob
theorem Db5 (S:Snd w K g0 M n R){l r:Expr}{op:Operator}{p:Pos}{v:SV}{ob:List Prop}
  (e:((R.ev c l).bnd λa=>(R.ev c r).bnd λb=>match op with | .Pow=>powr a b | _=>De2 op a b) st=some (v,st',ob))(hob:All ob)
  (O:EOk env c)(ok:AOk A (M+4*n))(I:In w g0 env c as st s.heap):Tr w g0 env c A as s st' (PV v) (eval (.BinOp l op r p) env):=by
 revert hob;refine B5 e ?_;clear e;intro a st1 o1 o2 h1 e hob
 revert hob;refine B5 e ?_;clear e;intro b st2 o3 o4 h2 e hob
 refine λQ E k=>wpAny_BinOp (((S.ev h1 hob.left).2 O ok I) _ E λas1 h1' tk1 x i1 S1 vx=>(S.ev h2 hob.right.left).2 O ok (s:={s with heap:=h1',toks:=tk1}) i1 _ E λas2 h2' tk2 y i2 S2 vy=>?_)
 exact Tr.of_HT (s:={s with heap:=h2',toks:=tk2}) i2 (Cg1 (w:=w) (g0:=g0) e hob.right.right).1 ((Cg1 (w:=w) (g0:=g0) e hob.right.right).2 ok i2.hr (vx.step S2) vy) Q E λas3 h3 tk3 z i3 S3 vz=>k as3 h3 tk3 z i3 ((S1.trans S2).trans S3) vz
theorem ev_Not (S:Snd w K g0 M n R){x:Expr}{p:Pos}{v:SV}{ob:List Prop}(e:((R.ev c x).bnd λv=>(Ax1 v).bnd λb=>X.ret (.bool (!b))) st=some (v,st',ob))(hob:All ob)
  (O:EOk env c)(ok:AOk A (M+4*n))(I:In w g0 env c as st s.heap):Tr w g0 env c A as s st' (PV v) (eval (.UnaryOp .Not x p) env):=by
 revert hob;refine B5 e ?_;clear e;intro a st1 o1 o2 h1 e hob
 revert hob;refine B5 e ?_;clear e;intro b st2 o3 o4 h2 e hob
 refine A4 e ?_
 refine oA (Bb4 (w:=w) (g0:=g0) h2) λz0 h=>?_;subst z0
 refine λQ E k=>wpAny_UnaryOp (((S.ev h1 hob.left).2 O ok I) _ E λas1 h1' tk1 x i1 S1 vx=>not_value ?_)
 exact Tr.of_HT (s:={s with heap:=h1',toks:=tk1}) i1 rfl (h (s:={s with heap:=h1',toks:=tk1}) i1.hr vx) _ E λas3 h3 tk3 z i3 S3 vz=>by
  cases vz;exact k as3 h3 tk3 _ i3 (S1.trans S3) (.bool _)
theorem Du6 (S:Snd w K g0 M n R){x:Expr}{p:Pos}{v:SV}{ob:List Prop}(e:((R.ev c x).bnd λv=>(X.lift (Af3 v)).bnd λi=>X.ret (.int (-i))) st=some (v,st',ob))(hob:All ob)
  (O:EOk env c)(ok:AOk A (M+4*n))(I:In w g0 env c as st s.heap):Tr w g0 env c A as s st' (PV v) (eval (.UnaryOp .USub x p) env):=by
 revert hob;refine B5 e ?_;clear e;intro a st1 o1 o2 h1 e hob
 refine A6 e λi hi e=>?_
 refine A4 e λQ E k=>wpAny_UnaryOp (((S.ev h1 hob.left).2 O ok I) _ E λas1 h1' tk1 x i1 S1 vx=>?_)
 rw [Ab2 hi] at vx
 exact vx.intE λt=>P.neg_int (k as1 h1' _ _ i1 S1 (.int _ _))
theorem Db4 (S:Snd w K g0 M n R){t a b:Expr}{p:Pos}{v:SV}{ob:List Prop}(e:((R.tr c t).bnd λt=>match t with | true=>R.ev c a | false=>R.ev c b) st=some (v,st',ob))(hob:All ob)
  (O:EOk env c)(ok:AOk A (M+4*n))(I:In w g0 env c as st s.heap):Tr w g0 env c A as s st' (PV v) (eval (.IfExp t a b p) env):=by
 revert hob;refine B5 e ?_;clear e;intro q st1 o1 o2 h1 e hob
 refine λQ E k=>wpAny_IfExp ((S.tr h1 hob.left O ok I) _ E λas1 h1' tk1 x i1 S1 vx=>?_)
 cases vx
 cases q with
 | true=>exact (S.ev e hob.right).2 O ok (s:={s with heap:=h1',toks:=tk1}) i1 Q E λas3 h3 tk3 z i3 S3 vz=>k as3 h3 tk3 z i3 (S1.trans S3) vz
 | false=>exact (S.ev e hob.right).2 O ok (s:={s with heap:=h1',toks:=tk1}) i1 Q E λas3 h3 tk3 z i3 S3 vz=>k as3 h3 tk3 z i3 (S1.trans S3) vz
theorem Du7 (S:Snd w K g0 M n R){es:List Expr}{p:Pos}{v:SV}{ob:List Prop}(e:((R.evs c es).bnd λl=>newL l.reverse l.length) st=some (v,st',ob))(hob:All ob)
  (O:EOk env c)(ok:AOk A (M+4*n))(I:In w g0 env c as st s.heap):Tr w g0 env c A as s st' (PV v) (eval (.List es p) env):=by
 revert hob;refine B5 e ?_;clear e;intro l st1 o1 o2 h1 e hob
 refine Ad6 e ?_;clear e;intro hz e;refine A4 e ?_
 refine λQ E k=>wpAny_List (((S.evs h1 hob.left).2 O ok I p) _ E λas1 h1' tk1 vs i1 S1 hv=>?_)
 obtain ⟨b1,b2,b3⟩:=i1.hr.pushL hv (Nat.le_refl _)
 exact ⟨by exact (hv.1)▸Aa6 hz,k _ _ _ _ (i1.heap (st2:={st1 with hp:=st1.hp++[.list l.reverse l.length]}) b1 b2 rfl) (S1.trans b2.any) b3⟩
theorem Db2 (S:Snd w K g0 M n R){es:List Expr}{i:Nat}{p:Pos}{v:SV}{ob:List Prop}(e:((R.evs c es).bnd λl=>fits l.length (X.ret (.tup l))) st=some (v,st',ob))(hob:All ob)
  (O:EOk env c)(ok:AOk A (M+4*n))(I:In w g0 env c as st s.heap):Tr w g0 env c A as s st' (PV v) (eval (.Tuple es i p) env):=by
 revert hob;refine B5 e ?_;clear e;intro l st1 o1 o2 h1 e hob
 refine Ad6 e ?_;clear e;intro hz e
 refine A4 e ?_
 refine λQ E k=>wpAny_Tuple (((S.evs h1 hob.left).2 O ok I p) _ E λas1 h1' tk1 vs i1 S1 hv=>?_)
 obtain ⟨b1,b2,b3⟩:=i1.hr.pushT hv
 exact ⟨by exact (hv.1)▸Aa6 hz,k _ _ _ _ (i1.heap b1 b2 rfl) (S1.trans b2.any) b3⟩
theorem Bs2 (H:GOk w G K g0 mg mb)(S:Snd w K g0 M n R){op:CmpOp}{r:Expr}(hr:∀es k p,r≠.Set es k p):behindInMarks op r=false:=by
 cases r<;>first | rfl | exact absurd rfl (hr _ _ _)
theorem Bz3 (H:GOk w G K g0 mg mb)(S:Snd w K g0 M n R){l r:Expr}(hset:∀es k p,r≠.Set es k p){op:CmpOp}{p:Pos}{v:SV}{ob:List Prop}(e:((R.ev c l).bnd λa=>(R.ev c r).bnd λb=>(cmp G op a b).bnd λt=>X.ret (.bool t)) st=some (v,st',ob))(hob:All ob)
  (O:EOk env c)(ok:AOk A (M+4*n))(I:In w g0 env c as st s.heap):Tr w g0 env c A as s st' (PV v) (eval (.Compare l [op] [r] p) env):=by
 revert hob;refine B5 e ?_;clear e;intro a st1 o1 o2 h1 e hob
 revert hob;refine B5 e ?_;clear e;intro b st2 o3 o4 h2 e hob
 revert hob;refine B5 e ?_;clear e;intro t st3 o5 o6 h3 e hob
 refine A4 e ?_
 refine oAA (cmp_s H.tab h3 hob.right.right.left) λc1 c2 h=>?_
 refine λQ E k=>wpAny_Compare1 (((S.ev h1 hob.left).2 O ok I) _ E λas1 h1' tk1 x i1 S1 vx=>(S.ev h2 hob.right.left).2 O ok (s:={s with heap:=h1',toks:=tk1}) i1 _ E λas2 h2' tk2 y i2 S2 vy=>?_) (Bs2 H S hset)
 exact Tr.of_HT (s:={s with heap:=h2',toks:=tk2}) i2 c2 (h (s:={s with heap:=h2',toks:=tk2}) ok i2.hr (vx.step S2) vy) Q E λas3 h3 tk3 z i3 S3 vz=>k as3 h3 tk3 z i3 ((S1.trans S2).trans S3) vz
theorem Bw1 (H:GOk w G K g0 mg mb)(S:Snd w K g0 M n R){l r:Expr}(hset:∀es k p,r≠.Set es k p){op:CmpOp}{p:Pos}{v:Bool}{ob:List Prop}(e:((R.ev c l).bnd λa=>(R.ev c r).bnd λb=>cmp G op a b) st=some (v,st',ob))(hob:All ob)
  (O:EOk env c)(ok:AOk A (M+4*n))(I:In w g0 env c as st s.heap){whole:Sem Value}:Tr w g0 env c A as s st' (PE v) (isTrue (.Compare l [op] [r] p) env whole):=by
 revert hob;refine B5 e ?_;clear e;intro a st1 o1 o2 h1 e hob
 revert hob;refine B5 e ?_;clear e;intro b st2 o3 o4 h2 e hob
 refine oAA (cmp_s H.tab e hob.right.right) λc1 c2 h=>?_
 refine λQ E k=>wpAny_isTrue_Compare1 (((S.ev h1 hob.left).2 O ok I) _ E λas1 h1' tk1 x i1 S1 vx=>(S.ev h2 hob.right.left).2 O ok (s:={s with heap:=h1',toks:=tk1}) i1 _ E λas2 h2' tk2 y i2 S2 vy=>?_) (Bs2 H S hset)
 exact Tr.of_HT (s:={s with heap:=h2',toks:=tk2}) i2 c2 (h (s:={s with heap:=h2',toks:=tk2}) ok i2.hr (vx.step S2) vy) _ E λas3 h3 tk3 z i3 S3 vz=>by
  obtain rfl:=VR.boolI vz;exact wpAny_truthy_bool (k as3 h3 tk3 _ i3 ((S1.trans S2).trans S3) rfl)
end
section
variable {w:World}{G:Top}{K:Frag}{g0:Heap}{mg mb:Str→Option Value}{env:Env}{c:EC}{A:Around}{as:List Addr}{st st1 st2 st':St}{s:Shared}{M n:Nat}{R:Rec}
theorem Ba6 {o:Expr}{x:Str}{t:Sem Value}(h:Ah6 o=true):attributeBase o x env t=t:=by
 cases o with
 | Call f args kws p=>cases f<;>first | rfl | exact B3 h
 | _=>rfl
theorem Bi3 (H:GOk w G K g0 mg mb)(S:Snd w K g0 M n R){o:Expr}{x:Str}{p:Pos}{v:SV}{ob:List Prop}(e:(Mine.guard (Ah6 o) <|(R.ev c o).bnd λov=>geta G ov x) st=some (v,st',ob))(hob:All ob)
  (O:EOk env c)(ok:AOk A (M+4*n))(I:In w g0 env c as st s.heap):Tr w g0 env c A as s st' (PV v) (eval (.Attribute o x p) env):=by
 refine Aa3 e ?_;clear e;intro hb e
 revert hob;refine B5 e ?_;clear e;intro a st1 o1 o2 h1 e hob
 refine oA (geta_s H e) λz0 h=>?_;subst z0
 intro Q E k
 simp only [arm_eval_Attribute,Ba6 hb]
 refine wpAny_bind (((S.ev h1 hob.left).2 O ok I) _ E λas1 h1' tk1 y i1 S1 vy=>wpAny_bind (wpAny_standAt (wpAny_bind (wpAny_holding ?_))))
 exact Tr.of_HT (s:={s with heap:=h1',toks:=tk1}) i1 rfl (h (s:={s with heap:=h1',toks:=tk1}) i1.hr vy true) _ E λas3 h3 tk3 z i3 S3 vz=>
  wpAny_bind (wpAny_letTemporaryGo (wpAny_pure (k as3 h3 tk3 z i3 (S1.trans S3) vz)))
theorem Dn3 (slice:Expr)(o i:Value):∃l,subscripted slice false o i=operate l (getItem o i):=by
 cases slice with
 | Slice a b st p=>cases st<;>exact ⟨_,rfl⟩
 | _=>exact ⟨_,rfl⟩
theorem Df9 {value slice:Expr}{o i:Value}{Q:Value→Shared→Prop}{E:Value→Shared→Prop}(hT:Subs s o)(h:wpAny (model pw w) A (getItem o i) Q E s):wpAny (model pw w) A (subscriptTail value slice o i) Q E s:=by
 refine oEEA hT λT id hl hT=>?_
 refine wpAny_bind ?_
 refine wpAny_bind (wpAny_specialOf hT hl ?_)
 have fin:wpAny (model pw w) A (subscripted slice false o i) (λr s₃=>wpAny (model pw w) A (letTemporaryGo value o r>>=λu0=>pure r) Q E s₃) E s:=by
  have hg:wpAny (model pw w) A (getItem o i) (λr s₃=>wpAny (model pw w) A (letTemporaryGo value o r>>=λu0=>pure r) Q E s₃) E s:=
   wpAny_mono h (λr s₃ h₃=>wpAny_bind (wpAny_letTemporaryGo (wpAny_pure h₃))) λu0 u0 x=>x
  exact (Dn3 slice o i).elim λl e=>e▸wpAny_operate' hg
 first
  | exact wpAny_pure (wpAny_bind fin)
  | exact wpAny_bind (wpAny_pure (wpAny_bind fin))
  | exact wpAny_bind fin
theorem Bi2 (H:GOk w G K g0 mg mb)(S:Snd w K g0 M n R){o i:Expr}{p:Pos}{v:SV}{ob:List Prop}(e:((R.ev c o).bnd λov=>(R.ev c i).bnd λiv=>geti ov iv) st=some (v,st',ob))(hob:All ob)
  (O:EOk env c)(ok:AOk A (M+4*n))(I:In w g0 env c as st s.heap):Tr w g0 env c A as s st' (PV v) (eval (.Subscript o i p) env):=by
 revert hob;refine B5 e ?_;clear e;intro a st1 o1 o2 h1 e hob
 revert hob;refine B5 e ?_;clear e;intro b st2 o3 o4 h2 e hob
 refine oAA (geti_s (w:=w) (g0:=g0) e hob.right.right) λe1 e2 h=>?_
 refine λQ E k=>Subscript_ (((S.ev h1 hob.left).2 O ok I) _ E λas1 h1' tk1 x i1 S1 vx=>(S.ev h2 hob.right.left).2 O ok (s:={s with heap:=h1',toks:=tk1}) i1 _ E λas2 h2' tk2 y i2 S2 vy=>?_)
 obtain ⟨hs,hh⟩:=h (s:={s with heap:=h2',toks:=tk2}) ok i2.hr (vx.step S2) vy
 exact Df9 (s:={s with heap:=h2',toks:=tk2}) hs (Tr.of_HT (s:={s with heap:=h2',toks:=tk2}) i2 e2 hh Q E λas3 h3 tk3 z i3 S3 vz=>k as3 h3 tk3 z i3 ((S1.trans S2).trans S3) vz)
theorem Bo1 (S:Snd w K g0 M n R){x:Option Expr}{v:SV}{ob:List Prop}(e:evF.evOpt R c x st=some (v,st',ob))(hob:All ob)
  (O:EOk env c)(ok:AOk A (M+4*n))(I:In w g0 env c as st s.heap):Tr w g0 env c A as s st' (PV v) (evalPart x env):=by
 cases x with
 | none=>cases e;exact λQ E k=>wpAny_pure (k as s.heap s.toks _ I (Stp.refl _ _ _) .none)
 | some x=>exact (S.ev e hob).2 O ok I
theorem Db3 (H:GOk w G K g0 mg mb)(S:Snd w K g0 M n R){o:Expr}{lo hi sp:Option Expr}{p q:Pos}{v:SV}{ob:List Prop}
  (e:((R.ev c o).bnd λov=>(evF.evOpt R c lo).bnd λl=>(evF.evOpt R c hi).bnd λh=>(evF.evOpt R c sp).bnd λt=>Mine.slice ov l h t) st=some (v,st',ob))(hob:All ob)
  (O:EOk env c)(ok:AOk A (M+4*n))(I:In w g0 env c as st s.heap):Tr w g0 env c A as s st' (PV v) (eval (.Subscript o (.Slice lo hi sp q) p) env):=by
 revert hob;refine B5 e ?_;clear e;intro a st1 o1 o2 h1 e hob
 revert hob;refine B5 e ?_;clear e;intro b st2 o3 o4 h2 e hob
 revert hob;refine B5 e ?_;clear e;intro d st3 o5 o6 h3 e hob
 revert hob;refine B5 e ?_;clear e;intro t st4 o7 o8 h4 e hob
 refine oA (Dn9 (w:=w) (g0:=g0) e) λe2 h=>?_
 refine λQ E k=>Subscript_ (((S.ev h1 hob.left).2 O ok I) _ E λas1 h1' tk1 x i1 S1 vx=>wpAny_Slice ?_)
 refine Bo1 S h2 hob.right.left O ok (s:={s with heap:=h1',toks:=tk1}) i1 _ E λas2 h2' tk2 y i2 S2 vy=>?_
 refine Bo1 S h3 hob.right.right.left O ok (s:={s with heap:=h2',toks:=tk2}) i2 _ E λas3 h3' tk3 z i3 S3 vz=>?_
 refine Bo1 S h4 hob.right.right.right.left O ok (s:={s with heap:=h3',toks:=tk3}) i3 _ E λas4 h4' tk4 u i4 S4 vu=>?_
 have kp:∀b o',h4'.get? b=some o'→(h4'.push {cls:=.type "slice",data:=.fields #[y,z,u]}).get? b=some o':=λb o' e=>Heap.get?_push_of_some _ e
 have hr5:=i4.hr.grow kp
 have S5:Stp none as4 h4' as4 (h4'.push {cls:=.type "slice",data:=.fields #[y,z,u]}):=Stp.of_keep kp
 obtain ⟨hs,hh⟩:=h (s:={s with heap:=h4'.push {cls:=.type "slice",data:=.fields #[y,z,u]},toks:=tk4}) ok hr5 ((((vx.step S2).step S3).step S4).step S5) (((vy.step S3).step S4).step S5) ((vz.step S4).step S5) (vu.step S5) (Heap.IsSliceOf.new _ _ _ _)
 exact Df9 hs (Tr.of_HT (s:={s with heap:=h4'.push {cls:=.type "slice",data:=.fields #[y,z,u]},toks:=tk4}) (i4.heap hr5 S5 rfl) e2 hh Q E λas6 h6 tk6 z i6 S6 vz=>k as6 h6 tk6 z i6 (((((S1.trans S2).trans S3).trans S4).trans S5.any).trans S6) vz)
theorem By2 {α:Type}{l:List α}(h:Ae9 l=false):∃a r,l=a::r:=by
 cases l with
 | nil=>exact noB h
 | cons a r=>exact ⟨a,r,rfl⟩
set_option backward.match.sparseCases true in
theorem Db8 (S:Snd w K g0 M n R){op:BoolOp}{p:Pos}{v:SV}(vs:List Expr):∀{st:St} {ob:List Prop},Bi6 R op c vs st=some (v,st',ob)→All ob→∀{as s},
  EOk env c→AOk A (M+4*n)→In w g0 env c as st s.heap→Tr w g0 env c A as s st' (PV v) (boolOp p op (evalEach vs env)):=by
 induction vs with
 | nil=>exact λe=>no1 e
 | cons x r ih=>
  intro st ob e hob as s O ok I
  change (match Ae9 r with | true=>R.ev c x | false=>(R.ev c x).bnd λv=>(Ax1 v).bnd λt=>match Bf4 op t with | true=>X.ret v | false=>Bi6 R op c r) st=_ at e
  cases hr:Ae9 r with
  | true=>rw [hr] at e;rw [Ab8 hr];exact (S.ev e hob).2 O ok I
  | false=>
   obtain ⟨y,r,rfl⟩:=By2 hr
   revert hob;refine B5 e ?_;clear e;intro a st1 o1 o2 h1 e hob
   revert hob;refine B5 e ?_;clear e;intro b st2 o3 o4 h2 e hob
   rw [(Bb4 (w:=w) (g0:=g0) h2).1] at e
   intro Q E k
   show wpAny _ _ (do
    let v ← eval x env
    standAt p
    let t ← holding [v] (truthy v)
    match op,t with
    | .And,false | .Or,true=>pure v
    | _,_=>boolOp p op (evalEach (y::r) env)) Q E s
   refine wpAny_bind (((S.ev h1 hob.left).2 O ok I) _ E λas1 h1' tk1 z i1 S1 vz=>wpAny_bind (wpAny_standAt (wpAny_bind (wpAny_holding ?_))))
   refine Tr.of_HT (s:={s with heap:=h1',toks:=tk1}) i1 rfl ((Bb4 (w:=w) (g0:=g0) h2).2 (s:={s with heap:=h1',toks:=tk1}) i1.hr vz) _ E λas3 h3 tk3 u i3 S3 hu=>?_
   rw [show u=b from hu]
   have fin:(match Bf4 op b with | true=>X.ret a | false=>Bi6 R op c (y::r)) st1=some (v,st',o4)→wpAny (model pw w) A (match Bf4 op b with | true=>pure z | false=>boolOp p op (evalEach (y::r) env)) Q E {s with heap:=h3,toks:=tk3}:=λe=>by
    cases hs:Bf4 op b with
    | true=>rw [hs] at e;exact wpAny_pure (A4 (P:=λv st' u0=>(∀as' h' tk b,In w g0 env c as' st' h'→Stp (some env.locals) as s.heap as' h'→PV v as' h' b→Q b {s with heap:=h',toks:=tk})→Q z {s with heap:=h3,toks:=tk3}) e (λk=>k as3 h3 tk3 z i3 (S1.trans S3) (vz.step S3)) k)
    | false=>rw [hs] at e;exact ih e hob.right.right O ok (s:={s with heap:=h3,toks:=tk3}) i3 Q E λas4 h4 tk4 u i4 S4 hu=>k as4 h4 tk4 u i4 ((S1.trans S3).trans S4) hu
   cases op<;>cases b<;>exact (fin e)
theorem Dl8 (S:Snd w K g0 M n R){op:BoolOp}{v:Bool}(vs:List Expr):∀{st:St} {ob:List Prop},Dl9 R op c vs st=some (v,st',ob)→All ob→∀{as s},
  EOk env c→AOk A (M+4*n)→In w g0 env c as st s.heap→Tr w g0 env c A as s st' (PE v) (allTrue op vs env):=by
 induction vs with
 | nil=>
  intro st ob e _ as s _ _ I
  refine A4 e ?_
  cases op with
  | And=>exact λQ E k=>wpAny_allTrue_And_nil (k as s.heap s.toks _ I (Stp.refl _ _ _) rfl)
  | Or=>exact λQ E k=>wpAny_allTrue_Or_nil (k as s.heap s.toks _ I (Stp.refl _ _ _) rfl)
 | cons x r ih=>
  intro st ob e hob as s O ok I
  revert hob;refine B5 e ?_;clear e;intro b st1 o1 o2 h1 e hob
  intro Q E k
  have fin:∀{as1 h1' tk1},In w g0 env c as1 st1 h1'→Stp (some env.locals) as s.heap as1 h1'→(Bf4 op b=true→Q b {s with heap:=h1',toks:=tk1})∧(Bf4 op b=false→wpAny (model pw w) A (allTrue op r env) Q E {s with heap:=h1',toks:=tk1}):=λ{as1 h1' tk1} i1 S1=>
   ⟨λhs=>by rw [hs] at e;exact A4 (P:=λv st' u0=>(∀as' h' tk b,In w g0 env c as' st' h'→Stp (some env.locals) as s.heap as' h'→PE v as' h' b→Q b {s with heap:=h',toks:=tk})→Q b {s with heap:=h1',toks:=tk1}) e (λk=>k as1 h1' tk1 b i1 S1 rfl) k,
   λhs=>by rw [hs] at e;exact ih e hob.right O ok (s:={s with heap:=h1',toks:=tk1}) i1 Q E λas4 h4 tk4 u i4 S4 hu=>k as4 h4 tk4 u i4 (S1.trans S4) hu⟩
  cases op with
  | And=>
   refine wpAny_allTrue_And_cons ((S.tr h1 hob.left O ok I) _ E λas1 h1' tk1 z i1 S1 hz=>?_)
   rw [show z=b from hz]
   have fin:=fin (tk1:=tk1) i1 S1
   cases b with
   | true=>exact fin.2 rfl
   | false=>exact fin.1 rfl
  | Or=>
   refine wpAny_allTrue_Or_cons ((S.tr h1 hob.left O ok I) _ E λas1 h1' tk1 z i1 S1 hz=>?_)
   rw [show z=b from hz]
   have fin:=fin (tk1:=tk1) i1 S1
   cases b with
   | true=>exact fin.1 rfl
   | false=>exact fin.2 rfl
end
section
variable {w:World}{G:Top}{K:Frag}{g0:Heap}{mg mb:Str→Option Value}{env:Env}{c:EC}{A:Around}{as:List Addr}{st st1 st2 st':St}{s:Shared}{M n:Nat}{R:Rec}
theorem Aj2 {α:Type}{l m:List α}{n:Nat}{a:α}(e:l[n]?=some a):(l++m)[n]?=some a:=by refine Eq.trans (List.getElem?_append_left (List.getElem?_eq_some_iff.mp e).1) ?_;exact e
theorem HR.adopt {hp:List A0}{h h':Heap}{D:Addr}{o:A0}(x:HR w g0 as hp h)(hD:D∉as)(hz:g0.get? D=none){ob:Obj}(hob:h.get? D=some ob)(hni:¬ Imm ob)(hs:Heap.SameBut D h h')(ho:OR w (as++[D]) h' o D):
  HR w g0 (as++[D]) (hp++[o]) h':=by
 refine ⟨by simp only [List.length_append,List.length_append,x.len];rfl,List.nodup_append.mpr ⟨x.nd,List.nodup_cons.mpr ⟨List.not_mem_nil,List.nodup_nil⟩,λa ha b hb e=>hD (List.mem_singleton.mp hb▸e▸ha)⟩,λa ha=>?_,
  λb o' e=>(hs.2 b λq=>no1 (hz.symm.trans (q▸e))).trans (x.base b o' e),λj p e=>?_,x.hidL (Bk7.same hs (ho.there.elim λo' e=>⟨o',e.1⟩))⟩
 ·rcases List.mem_append.mp ha with q | q
  ·exact x.lo a q
  ·exact (List.mem_singleton.mp q)▸hz
 ·rcases app_at e with e | e
  ·exact (x.at_ j p e).elim λb r=>⟨b,Aj2 r.1,r.2.mono (B2.same hs hob hni) ⟨_,rfl⟩ λob' e'=>(hs.2 b λq=>hD (q▸List.mem_of_getElem? r.1)).trans e'⟩
  ·exact ⟨D,by rw [e.1];exact Ba7 x.len D,e.2▸ho⟩
theorem HR.lastLoc {hp:List A0}{h h':Heap}(x:HR w g0 as hp h)(D:Addr):VR (as++[D]) h' (.loc hp.length) (.ref D):=.loc _ _ (Ba7 x.len D)
theorem HR.free {hp:List A0}{h:Heap}{D:Addr}(x:HR w g0 as hp h)(hN:h.get? D=none):D∉as∧g0.get? D=none:=
 ⟨λq=>(x.mem q).elim λk z=>z.elim λo z=>z.2.2.there.elim λob ho=>no1 (hN.symm.trans ho.1),by
  cases q:g0.get? D with
  | none=>rfl
  | some o=>exact no1 (hN.symm.trans (x.base _ _ q))⟩
theorem In.neD {h:Heap}{D:Addr}(I:In w g0 env c as st h)(hN:h.get? D=none):env.locals≠D:=λq=>by
 refine oEA (I.fr) λm z1 u0=>?_;obtain ⟨o,_,_,ho,_⟩:=z1
 exact no1 (hN.symm.trans (q▸ho))
structure AdC (w:World)(g0:Heap)(env:Env)(c:EC)(as:List Addr)(h:Heap)(as1:List Addr)(st2:St)(h2:Heap)(o:A0)(D:Addr):Prop where
 i:In w g0 env c (as1++[D]) {st2 with hp:=st2.hp++[o]} h2
 S:Stp (some env.locals) as h (as1++[D]) h2
 v:VR (as1++[D]) h2 (.loc st2.hp.length) (.ref D)
theorem In.adopt {h h0 h1 h2:Heap}{as1:List Addr}{D:Addr}{od:Obj}{o:A0}(I:In w g0 env c as st h)(hN:h.get? D=none)(S0:Stp none as h as h0)(h0D:h0.get? D=some od)(hni:¬ Imm od)
  (i1:In w g0 env c as1 st2 h1)(S1:Stp (some env.locals) as h0 as1 h1)(hs:Heap.SameBut D h1 h2)(ho:B2 h1 h2→OR w (as1++[D]) h2 o D):AdC w g0 env c as h as1 st2 h2 o D:=by
 have hL:=I.neD hN
 have fr:=I.hr.free hN
 have hD1:h1.get? D=some od:=S1.keep _ _ h0D fr.1 λq=>hL (Option.some.inj q)
 have im:=B2.same hs hD1 hni
 have T:=(S0.any (L:=some env.locals)).trans S1
 obtain ⟨ns,e,hb⟩:=T.ext
 have hDn:D∉as1:=λq=>by
  refine oEA (S1.ext) λns e hb=>?_
  rw [e] at q
  rcases List.mem_append.mp q with q | q
  ·exact fr.1 q
  ·exact no3 (h0D.symm.trans (hb _ q))
 have ne:∀{a:Addr} {o:Obj},h.get? a=some o→a≠D:=λe q=>no1 (hN.symm.trans (q▸e))
 refine ⟨⟨i1.hr.adopt hDn fr.2 hD1 hni hs (ho im),i1.fr.keep (λo e=>(hs.2 _ hL).trans e) im ⟨_,rfl⟩,λq=>?_,i1.lo,λn k e=>(i1.cells n k e).elim λa r=>⟨a,Aj2 r.1,r.2⟩⟩,
  ⟨⟨ns++[D],by rw [e,List.append_assoc],λa ha=>?_⟩,λa o e=>(T.live a o e).elim λo' e'=>⟨o',(hs.2 a (ne e)).trans e'⟩,λa o e hn hL'=>(hs.2 a (ne e)).trans (T.keep a o e hn hL'),T.imm.trans im⟩,i1.hr.lastLoc _⟩
 ·rcases List.mem_append.mp q with q | q
  ·exact i1.off q
  ·exact hL (List.mem_singleton.mp q)
 ·refine (List.mem_append.mp ha).elim (λq=>?_) λq=>?_
  ·exact hb a q
  ·exact (List.mem_singleton.mp q)▸hN
def PR2 (as:List Addr)(h:Heap)(l:List (SV×SV))(vs:List (Value×Value)):Prop:=VRs as h (l.map (·.1)) (vs.map (·.1))∧VRs as h (l.map (·.2)) (vs.map (·.2))
structure PairsC (w:World)(g0:Heap)(env:Env)(c:EC)(A:Around)(m:Nat)(st st':St)(ks:List (Option Expr))(vs:List Expr)(l:List (SV×SV))(p:Pos):Prop where
 some:ks.all (·.isSome)=true
 len:ks.length=vs.length
 len':l.length=ks.length
 tr:∀{as s},EOk env c→AOk A m→In w g0 env c as st s.heap→Tr w g0 env c A as s st' (λas h x=>PR2 as h l x) (evalPairs (pairTrees ks vs env p))
theorem Cl8 (S:Snd w K g0 M n R){p:Pos}(ks:List (Option Expr)):∀{vs:List Expr} {st st':St} {l:List (SV×SV)} {ob:List Prop},Bd6 R c ks vs st=some (l,st',ob)→All ob→PairsC w g0 env c A (M+4*n) st st' ks vs l p:=by
 induction ks with
 | nil=>
  intro vs st st' l ob e _
  refine Aa3 (b:=Ae9 vs) (x:=X.ret []) e λh e=>?_
  exact (Ab8 h)▸A4 e ⟨rfl,rfl,rfl,λO ok I Q E k=>evalPairs_nil (k _ _ _ _ I (Stp.refl _ _ _) ⟨VRs.nil,VRs.nil⟩)⟩
 | cons k ks ih=>
  intro vs st st' l ob e hob
  refine A6 e ?_;clear e;intro k hk e
  subst hk
  cases vs with
  | nil=>exact no1 e
  | cons v vs=>
   revert hob;refine B5 e ?_;clear e;intro a st1 o1 o2 h1 e hob
   revert hob;refine B5 e ?_;clear e;intro b st2 o3 o4 h2 e hob
   revert hob;refine B5 e ?_;clear e;intro r st3 o5 o6 h3 e hob
   have g:=ih h3 hob.right.right.left
   refine A4 e ⟨g.some,congrArg (· + 1) g.len,congrArg (· + 1) g.len',λ{as s} O ok I Q E k=>?_⟩
   refine evalPairs_cons (((S.ev h1 hob.left).2 O ok I) _ E λas1 h1' tk1 x i1 S1 vx=>wpAny_bind ((S.ev h2 hob.right.left).2 O ok (s:={s with heap:=h1',toks:=tk1}) i1 _ E λas2 h2' tk2 y i2 S2 vy=>wpAny_bind (wpAny_standAt (wpAny_pure ?_))))
   exact g.tr O ok (s:={s with heap:=h2',toks:=tk2}) i2 _ E λas3 h3' tk3 z i3 S3 vz=>k as3 h3' tk3 _ i3 ((S1.trans S2).trans S3) ⟨VRs.cons ((vx.step S2).step S3) vz.1,VRs.cons (vy.step S3) vz.2⟩
theorem Bb6 {kvs:List (MK×Value)}(h:(kvs.map (·.1)).Nodup)(k:MK)(v:Value):((stored kvs k v).map (·.1)).Nodup:=by
 unfold stored
 by_cases q:(kvs.any λkv=>decide (kv.1=k))=true
 ·rw [if_pos q,List.map_map]
  refine (List.map_congr_left λx u0=>?_:kvs.map _=kvs.map (·.1))▸h
  by_cases z:x.1=k
  ·rw [Function.comp_apply,if_pos z]
  ·rw [Function.comp_apply,if_neg z]
 ·rw [if_neg q,List.map_append]
  refine List.nodup_append.mpr ⟨h,List.nodup_cons.mpr ⟨List.not_mem_nil,List.nodup_nil⟩,λa ha b hb e=>q ?_⟩
  refine oEA (List.mem_map.mp ha) λx hx hxe=>?_
  exact List.any_eq_true.mpr ⟨x,hx,decide_eq_true (hxe.trans (e.trans (List.mem_singleton.mp hb)))⟩
theorem Dv7 {h:Heap}{es:List (SV×SV)}(l:List (SV×SV)):∀{vs:List (Value×Value)} {es0:List (SV×SV)} {acc:List (MK×Value)},Bz6 es0 l=some es→PR2 as h l vs→DRs as h es0 acc→(acc.map (·.1)).Nodup→
  ∃kvs:List (MK×Value),Carries (Aa1 w) vs kvs∧DRs as h es (merged acc kvs):=by
 induction l with
 | nil=>
  intro vs es0 acc e p d hn
  have hv:vs = []:=List.map_eq_nil_iff.mp p.1.nil_inv
  exact hv▸⟨[],trivial,A9 e▸d⟩
 | cons q l ih=>
  intro vs es0 acc e p d hn
  change (match Bh6 q.1 with | true=>Bz6 (Bk6 es0 q.1 q.2) l | false=>none)=some es at e
  cases ek:Bh6 q.1 with
  | false=>rw [ek] at e;exact no1 e
  | true=>
   rw [ek] at e
   obtain ⟨m,hm⟩:=Ap0 ek
   cases vs with
   | nil=>exact absurd p.1.1 (Nat.succ_ne_zero _)
   | cons x xs=>
    refine Ae3 (p.1.cons_inv) λa ws e1 va hw=>?_
    refine Ae3 (p.2.cons_inv) λb us e2 vb hu=>?_
    simp only [hm,← (Cz5 e1).1] at va
    simp only [← (Cz5 e2).1] at vb
    rw [hm] at e
    exact (ih e ⟨(Cz5 e1).2▸hw,(Cz5 e2).2▸hu⟩ (d.put hn vb) (Bb6 hn m x.2)).elim λkvs z=>⟨(m,x.2)::kvs,⟨va.mkey,rfl,z.1⟩,z.2⟩
noncomputable abbrev Dr2:Obj:={cls:=.type "dict",data:=.dict #[]}
theorem Du8 (H:GOk w G K g0 mg mb)(S:Snd w K g0 M n R){ks:List (Option Expr)}{vs:List Expr}{p:Pos}{v:SV}{ob:List Prop}
  (e:(Mine.guard (Nat.ble ks.length 15) <|(Bd6 R c ks vs).bnd λl=>(X.lift (Bz6 [] l)).bnd λes=>fits l.length (new (.dict es))) st=some (v,st',ob))(hob:All ob)
  (O:EOk env c)(ok:AOk A (M+4*n))(I:In w g0 env c as st s.heap):Tr w g0 env c A as s st' (PV v) (eval (.Dict ks vs p) env):=by
 refine Aa3 e ?_;clear e;intro hb e
 revert hob;refine B5 e ?_;clear e;intro l st1 o1 o2 h1 e hob
 refine A6 e ?_;clear e;intro es hd e
 refine Ad6 e ?_;clear e;intro hz e
 have g:=Cl8 S (env:=env) (A:=A) (p:=p) ks h1 hob.left
 refine A4 e ?_;clear e
 have S0:Stp none as s.heap as (s.heap.push Dr2):=Stp.of_keep λb o' e=>Heap.get?_push_of_some _ e
 have hn:=Ac2 s.heap
 have hD:(s.heap.push Dr2).get? s.heap.objs.size=some Dr2:=Heap.get?_push_size s.heap rfl
 have i0:=I.heap (I.hr.grow λb o' e=>Heap.get?_push_of_some _ e) S0 rfl
 have fin:∀{as1 h1' h2'} (kvs:List (MK×Value)),In w g0 env c as1 st1 h1'→Stp (some env.locals) as (s.heap.push Dr2) as1 h1'→h2'.DictOf (Aa1 w) s.heap.objs.size (merged [] kvs)→DRs as1 h1' es (merged [] kvs)→
   Heap.SameBut s.heap.objs.size h1' h2'→AdC w g0 env c as s.heap as1 st1 h2' (.dict es) s.heap.objs.size:=λkvs i1 S1 hdd hdr hs=>I.adopt hn S0 hD (Al6 rfl) i1 S1 hs λim=>⟨_,hdd,hdr.mono im ⟨_,rfl⟩⟩
 by_cases hks:ks = []
 ·subst hks
  obtain rfl:vs = []:=List.eq_nil_of_length_eq_zero g.len.symm
  intro Q E k
  refine A4 (P:=λl st1 u0=>Bz6 [] l=some es→(∀{as1 h1' h2'} (kvs:List (MK×Value)),In w g0 env c as1 st1 h1'→Stp (some env.locals) as (s.heap.push Dr2) as1 h1'→h2'.DictOf (Aa1 w) s.heap.objs.size (merged [] kvs)→DRs as1 h1' es (merged [] kvs)→
   Heap.SameBut s.heap.objs.size h1' h2'→AdC w g0 env c as s.heap as1 st1 h2' (.dict es) s.heap.objs.size)→AdC w g0 env c as s.heap as st1 (s.heap.push Dr2) (.dict es) s.heap.objs.size) h1 (λhd fin=>?_) hd fin |> λf=>wpAny_Dict_empty (k _ _ s.toks _ f.i f.S f.v)
  exact fin [] i0 (Stp.refl _ _ _) (Heap.DictOf.new s.heap) (A9 hd▸DRs.nil) (Heap.SameBut.refl _ _)
 ·intro Q E k
  refine wpAny_Dict_walk (knd:=Aa1 w) g.some g.len hks (Nat.le_of_ble_eq_true hb) ?_
  refine g.tr O ok (s:={s with heap:=s.heap.push Dr2}) i0 _ E λas1 h1' tk1 x i1 S1 hx=>?_
  refine oEA (Dv7 (w:=w) l hd hx DRs.nil List.nodup_nil) λkvs hc hdr=>?_
  refine ⟨kvs,hc,?_,λh2' hdd hs=>have f:=fin kvs i1 S1 hdd hdr hs;k _ _ _ _ f.i f.S f.v⟩
  refine Ai5 (Heap.DictOf.new (knd:=Aa1 w) s.heap) λo es' ep ho r=>?_
  exact ⟨o,es',ep,(S1.keep _ _ hD (I.hr.free hn).1 λq=>I.neD hn (Option.some.inj q)).trans (hD.symm.trans ho),r⟩
end
section
variable {w:World}{G:Top}{K:Frag}{g0:Heap}{mg mb:Str→Option Value}{env:Env}{c:EC}{A:Around}{as:List Addr}{st st1 st2 st':St}{s:Shared}{M n:Nat}{R:Rec}
theorem Aw5 {f:Expr}{args:List Expr}{p:Pos}(hf:∀o n q,f≠.Attribute o n q):eval (.Call f args [] p) env=(do callWith p (← eval f env) [] (backTo p (starEach args env)) (backToKw p (keywordEach [] env))):=by
 cases f<;>first | rfl | exact absurd rfl (hf _ _ _)
theorem Du9 (H:GOk w G K g0 mg mb)(S:Snd w K g0 M n R){f:Expr}{args:List Expr}{p:Pos}(hf:∀o n q,f≠.Attribute o n q){v:SV}{ob:List Prop}
  (e:((R.ev c f).bnd λfv=>(R.evs c args).bnd λvs=>R.call fv vs) st=some (v,st',ob))(hob:All ob)
  (O:EOk env c)(ok:AOk A (M+4*n))(I:In w g0 env c as st s.heap):Tr w g0 env c A as s st' (PV v) (eval (.Call f args [] p) env):=by
 revert hob;refine B5 e ?_;clear e;intro a st1 o1 o2 h1 e hob
 revert hob;refine B5 e ?_;clear e;intro l st2 o3 o4 h2 e hob
 refine oAA (S.call e hob.right.right) λe2 hk h=>?_
 refine oA (S.evs h2 hob.right.left) λhn h2=>?_
 intro Q E k
 refine (Aw5 hf)▸?_
 refine wpAny_bind (((S.ev h1 hob.left).2 O ok I) _ E λas1 h1' tk1 x i1 S1 vx=>?_)
 refine Ar6 (s:={s with heap:=h1',toks:=tk1}) H hn (hk vx) (h2 O ok (s:={s with heap:=h1',toks:=tk1}) i1 p) (λas2 h2' tk2 vs i2 S2 hv=>?_) Q E
  λas3 h3 tk3 z i3 S3 vz=>k as3 h3 tk3 z i3 (S1.trans S3) vz
 exact Tr.of_HT (s:={s with heap:=h2',toks:=tk2}) i2 e2 (h (s:={s with heap:=h2',toks:=tk2}) ok i2.hr (vx.step S2) hv)
theorem Ax2 {o:Expr}{q p:Pos}{n:Nat}(h:Af7 o q p n=true):Ah6 o=true∧(q.endLine==p.line)=true∧n<30:=by
 unfold Af7 at h
 cases h1:Ah6 o with
 | false=>replace h:=h1▸h;exact B3 h
 | true=>cases h2:Nat.beq q.endLine p.line with
  | false=>rw [h1,h2] at h;exact B3 h
  | true=>rw [h1,h2] at h;exact ⟨rfl,beq_iff_eq.mpr (Nat.eq_of_beq_eq_true h2),Nat.le_of_ble_eq_true h⟩
theorem Ap6 {o:Expr}{x:Str}{q p:Pos}{args:List Expr}{Q:Value→Shared→Prop}{E:Value→Shared→Prop}(hc:Af7 o q p args.length=true)(hn:args.all Ac1=true)
  (h:wpAny (model pw w) A (eval o env) (λov s1=>∀pl,wpAny (model pw w) A (getMethod ov x pl) (λr s2=>wpAny (model pw w) A (callWith p r.1 r.2 (backTo p (starEach args env)) []) Q E s2) E s1) E s):
  wpAny (model pw w) A (eval (.Call (.Attribute o x q) args [] p) env) Q E s:=by
 have pc:=Ax2 hc
 have hall:(backTo p (starEach args env)).all (λx=>!x.1)=true:=List.all_eq_true.mpr λy hy=>by
  exact congrArg _ (Bool.eq_false_iff.mpr (List.any_eq_false.mp (Ae1 (env:=env) (pos:=p) hn) y hy))
 simp only [arm_eval_Call,Ba6 pc.1]
 refine wpAny_bind (wpAny_mono h (λov s₁ h₁=>?_) λu0 u0 e=>e)
 refine wpAny_bind (wpAny_standAt ?_)
 have hform:methodCallForm (args.length+([]:List Keyword).length) (backTo p (starEach args env)) (backToKw p (keywordEach [] env))=true:=by
  unfold methodCallForm
  refine hall.symm▸?_
  exact (decide_eq_true (show args.length+0+0<30 from pc.2.2))
 have hpos:methodCallPos true o env q p=pure p:=by unfold methodCallPos;refine (pc.2.1).symm▸?_;rfl
 unfold methodCall
 refine hform▸?_
 refine wpAny_bind (wpAny_holding ?_)
 exact wpAny_mono (h₁ _) (λr s₂ h₂=>wpAny_bind (wpAny_of_eq hpos h₂)) λu0 u0 e=>e
set_option backward.match.sparseCases true in
theorem Ad1.ref {f:Addr}(h:fnIn K f=true):Ad1 K (.ref f):=by
 refine Ad1.of ?_
 unfold fnIn at h
 show (match K.lookup f with | some ⟨_,_,.func _,_⟩=>true | some ⟨_,_,.cls _,_⟩=>_ | _=>false)=true
 cases q:K.lookup f with
 | none=>rw [q] at h;exact B3 h
 | some o=>
  rw [q] at h
  obtain ⟨a,b,d,e⟩:=o
  cases d with
  | func _=>rfl
  | _=>exact B3 h
theorem Bo0 (H:GOk w G K g0 mg mb)(S:Snd w K g0 M n R){o:Expr}{x:Str}{q p:Pos}{args:List Expr}{k d:Nat}{C f:Addr}{es:List (Str×SV)}{v:SV}{ob o1:List Prop}(hc:Af7 o q p args.length=true)
  (h1:R.ev c o st=some (.loc k,st1,o1))(hi:st1.hp[k]?=some (.inst C d))(hm:G.meth C x=some f)(hd:st1.hp[d]?=some (.ns es))(hx:look es x=none)
  (e:((R.evs c args).bnd λvs=>R.call (.glb f) (.loc k::vs)) st1=some (v,st',ob))(hob1:All o1)(hob:All ob)
  (O:EOk env c)(ok:AOk A (M+4*n))(I:In w g0 env c as st s.heap):Tr w g0 env c A as s st' (PV v) (eval (.Call (.Attribute o x q) args [] p) env):=by
 revert hob;refine B5 e ?_;clear e;intro l st2 o3 o4 h2 e hob
 refine oAA (S.call e hob.right) λe2 hk h=>?_
 refine oA (S.evs h2 hob.left) λhn h2=>?_
 refine oAAA (H.meth C x f hm) λm1 m2 m3 m4=>?_
 refine λQ E K'=>Ap6 hc hn (((S.ev h1 hob1).2 O ok I) _ E λas1 h1' tk1 y i1 S1 vy=>λpl=>?_)
 have vy':=vy
 revert vy'
 refine Bn3 i1.hr vy hi hd λa dx od m N vy=>?_
 refine method_fn (s:={s with heap:=h1',toks:=tk1}) (H.kin.keeps i1.hr.base) N.at_ (plainGet_of m1).1 (plainGet_of m1).2 m2 m3 (by show (lookIn x od).map (·.isSome)=some false;rw [N.find,N.off x hx];rfl) ?_
 refine Ar6 (s:={s with heap:=h1',toks:=tk1}) H hn (Ad1.ref m4) (h2 O ok (s:={s with heap:=h1',toks:=tk1}) i1 p) (λas2 h2' tk2 vs i2 S2 hvs=>?_) Q E
  λas3 h3 tk3 z i3 S3 vz=>K' as3 h3 tk3 z i3 (S1.trans S3) vz
 exact Tr.of_HT (s:={s with heap:=h2',toks:=tk2}) i2 e2 (h (s:={s with heap:=h2',toks:=tk2}) ok i2.hr (.glb f) (VRs.cons (vy.step S2) hvs))
structure MOk (s:Shared)(x:Value)(nm:Str)(T id:String):Prop where
 pa:PlainAttrs T
 slot:Slot T nm id
 ty:typeOf (.builtin id)=pure (.type "method_descriptor")
 typ:s.TypeIs x T
 nod:∀a,x = .ref a→∃o,s.heap.get? a=some o∧o.dict=none
theorem Am6 (H:GOk w G K g0 mg mb)(S:Snd w K g0 M n R){o:Expr}{x:Str}{q p:Pos}{args:List Expr}{ov v:SV}{ob o1:List Prop}{g:List SV→X SV}{T id:String}(hc:Af7 o q p args.length=true)
  (h1:R.ev c o st=some (ov,st1,o1))(e:((R.evs c args).bnd g) st1=some (v,st',ob))(hob1:All o1)(hob:All ob)
  (hm:∀{as s y},HR w g0 as st1.hp s.heap→VR as s.heap ov y→MOk s y x T id)
  (hg:∀{l st2 o2},g l st2=some (v,st',o2)→All o2→st'.lc=st2.lc∧∀{as s y vs},HR w g0 as st2.hp s.heap→VR as s.heap ov y→VRs as s.heap l vs→HT w g0 A as s st'.hp (PV v) (call (.builtin id) (y::vs)))
  (O:EOk env c)(ok:AOk A (M+4*n))(I:In w g0 env c as st s.heap):Tr w g0 env c A as s st' (PV v) (eval (.Call (.Attribute o x q) args [] p) env):=by
 revert hob;refine B5 e ?_;clear e;intro l st2 o3 o4 h2 e hob
 refine oA (S.evs h2 hob.left) λhn h2=>?_
 refine oA (hg e hob.right) λe2 h=>?_
 refine λQ E K'=>Ap6 hc hn (((S.ev h1 hob1).2 O ok I) _ E λas1 h1' tk1 y i1 S1 vy=>λpl=>?_)
 have mk:=hm (s:={s with heap:=h1',toks:=tk1}) i1.hr vy
 refine getMethod_builtin mk.typ mk.pa mk.slot mk.ty mk.nod ?_
 refine Ar6 (s:={s with heap:=h1',toks:=tk1}) H hn Ad1.blt (h2 O ok (s:={s with heap:=h1',toks:=tk1}) i1 p) (λas2 h2' tk2 vs i2 S2 hvs=>?_) Q E
  λas3 h3 tk3 z i3 S3 vz=>K' as3 h3 tk3 z i3 (S1.trans S3) vz
 exact Tr.of_HT (s:={s with heap:=h2',toks:=tk2}) i2 e2 (h (s:={s with heap:=h2',toks:=tk2}) i2.hr (vy.step S2) hvs)
end
section
variable {w:World}{G:Top}{K:Frag}{g0:Heap}{mg mb:Str→Option Value}{env:Env}{c:EC}{A:Around}{as:List Addr}{st st1 st2 st':St}{s:Shared}{M n:Nat}{R:Rec}
theorem MOk.list {k:Nat}{hp:List A0}{r:List SV}{m:Nat}{x:Value}{nm:Str}{id:String}(hr:HR w g0 as hp s.heap)(v:VR as s.heap (.loc k) x)(e:hp[k]?=some (.list r m))(slot:Slot "list" nm id)(ty:typeOf (.builtin id)=pure (.type "method_descriptor")):MOk s x nm "list" id:=
 hr.listE v e λa vs ep u0 u0 ho u0=>⟨PySem.F.plainAttrs_list,slot,ty,⟨_,ho,rfl⟩,λb q=>Value.ref.inj q▸⟨_,ho,rfl⟩⟩
theorem MOk.dict {x:Value}{a:Addr}{kvs:List (MK×Value)}(e:x = .ref a)(hd:s.heap.DictOf (Aa1 w) a kvs):MOk s x "get" "dict" "dict.get":=by
 subst e
 exact ⟨PySem.F.plainAttrs_dict,PySem.F.slot_dict_get,PySem.F.type_dict_get,hd.mapOf.typeIs,hd.mapOf.noDict⟩
theorem An9 {hp:List A0}{k m:Nat}{a:Addr}{r:List SV}{vs:List Value}{ep:Nat}(hr:HR w g0 as hp s.heap)(ha:as[k]?=some a)(ho:s.heap.get? a=some (Ar0 vs ep)){h':Heap}{vs':List Value}{ep':Nat}(hs:Heap.SameBut a s.heap h')(ho':h'.get? a=some (Ar0 vs' ep'))
  (hv:VRs as s.heap r.reverse vs')(hl:r.length≤m):HR w g0 as (Mine.set hp k (.list r m)) h'∧Stp none as s.heap as h':=
 hr.set_ ha hs ⟨hl,_,_,ho',hv.same (B2.same hs ho (Ah0 rfl))⟩
def Ca6 (w:World)(g0:Heap)(A:Around)(st st':St)(k:Nat)(l:List SV)(v:SV)(id:String):Prop:=
 st'.lc=st.lc∧∀{as s y vs},HR w g0 as st.hp s.heap→VR as s.heap (.loc k) y→VRs as s.heap l vs→HT w g0 A as s st'.hp (PV v) (call (.builtin id) (y::vs))
variable {k m:Nat}{l r:List SV}{v:SV}{ob:List Prop}
theorem Df2 (hx:st.hp[k]?=some (.list r m))(e:Am4 k "append" l r m st=some (v,st',ob)):Ca6 w g0 A st st' k l v "list.append":=by
 unfold Am4 at e
 refine A6 e λv0 hl e=>Ad6 e λhz e=>?_
 refine (Ad7 hl)▸?_
 refine A4 (updB e) ⟨rfl,λ{as s y vs} hr vy hv=>?_⟩
 obtain ⟨x,rfl,vx⟩:=hv.one
 refine hr.listE vy hx λa us ep ha hl ho hu=>λQ E K=>append_at (its:=us.toArray) (n:=ep) ho (λh' hs ho'=>?_) (by simp only [List.size_toArray,← hu.1,List.length_reverse];exact Nat.le_trans hl (Aa6 hz))
 exact K as h' s.toks _ (An9 (r:=v0::r) (m:=m+1) (vs':=us++[x]) (ep':=ep+1) hr ha ho hs (by rw [ho',List.push_toArray]) (by rw [List.reverse_cons];exact hu.append (VRs.cons vx VRs.nil)) (Nat.succ_le_succ hl)).1 (An9 (r:=v0::r) (m:=m+1) (vs':=us++[x]) (ep':=ep+1) hr ha ho hs (by rw [ho',List.push_toArray]) (by rw [List.reverse_cons];exact hu.append (VRs.cons vx VRs.nil)) (Nat.succ_le_succ hl)).2 .none
theorem VRs.last {h:Heap}{us:List Value}(x:VRs as h (l++[v]) us):∃us' u,us=us'++[u]∧VRs as h l us'∧VR as h v u:=by
 induction l generalizing us with
 | nil=>exact x.one.elim λu z=>⟨[],u,z.1,VRs.nil,z.2⟩
 | cons a l ih=>
  refine Ae3 (VRs.cons_inv x) λb ws z2 y z=>?_;subst z2
  obtain ⟨us',u,rfl,z,q⟩:=ih z
  exact ⟨b::us',u,rfl,VRs.cons y z,q⟩
theorem pop_s (hx:st.hp[k]?=some (.list r m))(e:Am4 k "pop" l r m st=some (v,st',ob)):Ca6 w g0 A st st' k l v "list.pop":=by
 refine Aa3 e λhl e=>?_
 refine (Ab8 hl)▸?_
 cases r with
 | nil=>exact no1 e
 | cons v0 r=>
  refine Ad6 e λhz e=>?_
  refine A4 (updB e) ⟨rfl,λ{as s y vs} hr vy hv=>?_⟩
  obtain rfl:=hv.nil_inv
  refine hr.listE vy hx λa us ep ha hl ho hu=>?_
  have hn:=hu.1
  simp only [List.reverse_cons] at hu
  obtain ⟨us',x,rfl,hu',hvx⟩:=hu.last
  refine λQ E K=>Copied.pop_at (its:=(us'++[x]).toArray) (n:=ep) ho (y:=x) (by simp) (λh' hs ho'=>?_) (by simp only [List.size_toArray,← hn,List.length_reverse];exact Nat.le_trans hl (Aa6 hz))
  have b:=An9 (r:=r) (m:=m) (vs':=us') (ep':=ep+1) hr ha ho hs (by simp only [ho',List.pop_toArray,List.dropLast_concat]) hu' (Nat.le_of_succ_le hl)
  exact K as h' s.toks _ b.1 b.2 (hvx.step b.2)
theorem Db1 (hx:st.hp[k]?=some (.list r m))(e:Am4 k "extend" l r m st=some (v,st',ob)):Ca6 w g0 A st st' k l v "list.extend":=by
 unfold Am4 at e
 refine A6 e λv0 hl e=>A6 e λj hj e=>rawE e λq d hy e=>Ad6 e λhz e=>?_
 rw [Ad7 hl,Ab9 hj]
 refine A4 (updB e) ⟨rfl,λ{as s y vs} hr vy hv=>?_⟩
 obtain ⟨x,rfl,vx⟩:=hv.one
 refine hr.listE vy hx λa us ep ha hl ho hu=>hr.listE vx hy λb us' ep' hb hl' ho' hu'=>?_
 have z:us.length+us'.length≤m+d:=by simp only [← hu.1,← hu'.1,List.length_reverse,List.length_reverse];exact Nat.add_le_add hl hl'
 have zz:=Nat.le_trans z (Aa6 hz)
 have hc0:¬ (!us.toArray.isEmpty&&Builtin.List.listTooLong (us.toArray.size+us'.toArray.size))=true:=by
  simp only [show Builtin.List.listTooLong (us.toArray.size+us'.toArray.size)=false from decide_eq_false (Nat.not_lt.mpr zz),Bool.and_false];exact Bool.false_ne_true
 refine λQ E K=>call_meets PySem.F.slot_list_extend ⟨_,ho,rfl⟩ PySem.F.entry_list_extend (PySem.F.args_list_extend_2 _ _) (PySem.AutoSeq1.list_extend_list_list_0 a us.toArray ep b us'.toArray ep' hc0 (Nat.le_trans (Nat.le_add_right us.length us'.length) zz) (Nat.le_succ_of_le zz)) ⟨ho,ho',?_⟩
 have ho2:∃ep2,(s.heap.update a (Obj.mapSeq λx=>x++us'.toArray)).get? a=some (Ar0 (us++us') ep2):=by
  rw [Heap.get?_update_self _ ho rfl]
  exact ⟨_,by simp [Obj.mapSeq];rfl⟩
 refine ho2.elim λep2 ho2=>?_
 exact K as _ s.toks _ (An9 (r:=q++r) (m:=m+d) (vs':=us++us') (ep':=ep2) hr ha ho (Heap.SameBut.update ..) ho2 (by rw [List.reverse_append];exact hu.append hu') (by rw [List.length_append,Nat.add_comm];exact Nat.add_le_add hl hl')).1 (An9 (r:=q++r) (m:=m+d) (vs':=us++us') (ep':=ep2) hr ha ho (Heap.SameBut.update ..) ho2 (by rw [List.reverse_append];exact hu.append hu') (by rw [List.length_append,Nat.add_comm];exact Nat.add_le_add hl hl')).2 .none
structure IxOk (a:SV)(l:List SV)(i j k:Nat):Prop where
 eq:j=i+k
 lt:k<l.length
 at_:∀b,l[k]?=some b→veq b a=true
 off:∀m b,m<k→l[m]?=some b→veq b a=false
theorem ixs_s {a:SV}(l:List SV):∀{i j:Nat},ixs a l i=some j→∃k,IxOk a l i j k:=by
 induction l with
 | nil=>exact λe=>no1 e
 | cons b l ih=>
  intro i j e
  change (match veq b a with | true=>some i | false=>ixs a l (i+1))=some j at e
  cases h:veq b a with
  | true=>rw [h] at e;exact ⟨0,(A9 e).symm,Nat.succ_pos _,λb' q=>A9 q▸h,λm b' q=>absurd q (Nat.not_lt_zero _)⟩
  | false=>
   rw [h] at e
   exact (ih e).elim λk z=>⟨k+1,by rw [z.eq,Nat.add_assoc,Nat.add_comm 1],Nat.succ_lt_succ z.lt,z.at_,λm b' q q'=>by
    cases m with
    | zero=>exact A9 q'▸h
    | succ m=>exact z.off m b' (Nat.lt_of_succ_lt_succ q) q'⟩
theorem Bq5 {l:List SV}(h:Bq6 l=true){j:Nat}{b:SV}:l[j]?=some b→∃y,b = .str y∧Bm1 y=true:=by
 induction l generalizing j with
 | nil=>exact λe=>no1 e
 | cons a l ih=>
  change (match Bp3 a with | some s=>(match Bm1 s with | true=>Bq6 l | false=>false) | none=>false)=true at h
  cases ha:Bp3 a with
  | none=>replace h:=ha▸h;exact B3 h
  | some y=>cases hy:Bm1 y with
   | false=>replace h:=ha▸h;dsimp only at h;rw [hy] at h;exact B3 h
   | true=>
    rw [ha] at h;dsimp only at h;replace h:=hy▸h
    cases j with
    | zero=>exact λe=>⟨y,A9 e▸Au2 ha,hy⟩
    | succ j=>exact ih h
noncomputable def isT (x:Str):Value→Bool
 | .str y _=>y==x
 | _=>false
theorem Ds8 {h:Heap}{b:SV}{y:Value}{z x:Str}(e:b = .str z)(v:VR as h b y):isT x y=veq b (.str x):=by
 subst e
 exact v.strE λu0=>(Aq3 z x).symm
theorem lt63' {m:Nat}(h:m≤sizeLine):(m:Int)<2^63-1:=Int.lt_of_le_of_lt (Int.ofNat_le.mpr h) (by decide)
theorem Dt1 (hx:st.hp[k]?=some (.list r m))(e:Am4 k "index" l r m st=some (v,st',ob))(ok:AOk A (n+1)):Ca6 w g0 A st st' k l v "list.index":=by
 unfold Am4 at e
 refine Aa3 e λu0 e=>A6 e λv0 hl e=>A6 e λx hx0 e=>Ag1 e λhx1 hx2 e=>Ad6 e λhz e=>A6 e λi hi e=>?_
 rw [Ad7 hl,Au2 hx0]
 refine A4 e ⟨rfl,λ{as s y vs} hr vy hv=>?_⟩
 obtain ⟨z,rfl,vz⟩:=hv.one
 refine vz.strE λtz=>hr.listE vy hx λa us ep ha hl ho hu=>?_
 refine (ixs_s _ hi).elim λk' I=>?_
 have eqs:∀y,y∈us.toArray→SeqAt.EqAt A.in1 s y (.str x tz) (isT x y):=λy hy=>by
  refine oE (List.getElem?_of_mem (List.mem_toArray.mp hy)) λj hj=>?_
  have hj2:j<r.reverse.length:=hu.1▸(List.getElem?_eq_some_iff.mp hj).1
  refine oE (Bq5 hx2 (List.getElem?_eq_getElem hj2)) λy' hy'=>?_
  have hvy:=hu.2 j _ y (List.getElem?_eq_getElem hj2) hj
  replace hvy:=(hy'.1)▸hvy
  exact hvy.strE λty=>SeqAt.eqAt_reads (.str y') (.str x) _ _ _ _ _ _ (Reads.str _ _) (Reads.str _ _) (An2 hy'.2) (An2 hx1) (Aq2 (m:=1) ok (by decide))
 have hit:∀m (hm:m<us.toArray.size),isT x us.toArray[m]=veq (r.reverse[m]'(hu.1▸hm)) (.str x):=λm hm=>by
  have hm2:m<r.reverse.length:=hu.1▸hm
  refine oE (Bq5 hx2 (List.getElem?_eq_getElem hm2)) λy' hy'=>?_
  exact Ds8 hy'.1 (hu.2 m _ us[m] (List.getElem?_eq_getElem hm2) (List.getElem?_eq_getElem hm))
 refine λQ E K=>call_meets PySem.F.slot_list_index ⟨_,ho,rfl⟩ PySem.F.entry_list_index (PySem.F.args_list_index_2 _ _)
  (SeqAt.list_indexAt a us.toArray ep none #[] (.str x tz) (isT x) k' ((hu.1▸I.lt:k'<us.length)) (lt63' (Nat.le_trans (Nat.le_of_lt (r.length_reverse▸I.lt)) (Nat.le_trans hl (Aa6 hz))))
   (by refine Eq.trans (hit k' ((hu.1▸I.lt:k'<us.length))) ?_;exact I.at_ _ (List.getElem?_eq_getElem I.lt)) (λm hm hmk=>by refine Eq.trans (hit m hm) ?_;exact I.off m _ hmk (List.getElem?_eq_getElem _))) ⟨ho,eqs,?_⟩
 refine K as _ _ _ hr (Stp.refl _ _ _) ?_
 rw [I.eq,Nat.zero_add]
 exact .int _ _
inductive LN:Str→String→Prop
 | append:LN "append" "list.append"
 | pop:LN "pop" "list.pop"
 | extend:LN "extend" "list.extend"
 | index:LN "index" "list.index"
theorem LN.mok {nm:Str}{id:String}(L:LN nm id){hp:List A0}{x:Value}(hr:HR w g0 as hp s.heap)(v:VR as s.heap (.loc k) x)(e:hp[k]?=some (.list r m)):MOk s x nm "list" id:=by
 cases L with
 | append=>exact MOk.list hr v e PySem.F.slot_list_append PySem.F.type_list_append
 | pop=>exact MOk.list hr v e PySem.F.slot_list_pop PySem.F.type_list_pop
 | extend=>exact MOk.list hr v e PySem.F.slot_list_extend PySem.F.type_list_extend
 | index=>exact MOk.list hr v e PySem.F.slot_list_index PySem.F.type_list_index
theorem Az5 {nm:Str}(e:Cy2 k nm l st=some (v,st',ob)){P:Prop}(f:∀r m,st.hp[k]?=some (.list r m)→Am4 k nm l r m st=some (v,st',ob)→P):P:=
 Cw5 e λo hx e=>by
  cases o with
  | list r m=>exact f r m hx e
  | _=>exact no1 e
theorem By8 {nm:Str}(e:Cy2 k nm l st=some (v,st',ob)):∃id,LN nm id:=
 Az5 e λr m u0 e=>by
  unfold Am4 at e
  cases h1:seq nm "append" with
  | true=>rw [Ab0.mp h1];exact ⟨_,.append⟩
  | false=>cases h2:seq nm "pop" with
   | true=>rw [Ab0.mp h2];exact ⟨_,.pop⟩
   | false=>cases h3:seq nm "extend" with
    | true=>rw [Ab0.mp h3];exact ⟨_,.extend⟩
    | false=>
     rw [h1] at e
     rw [h2] at e
     rw [h3] at e
     exact Aa3 e λh4 u0=>by exact (Ab0.mp h4)▸⟨_,.index⟩
theorem Ds1 {nm:Str}{id:String}(L:LN nm id)(e:Cy2 k nm l st=some (v,st',ob))(ok:AOk A (n+1)):Ca6 w g0 A st st' k l v id:=
 Az5 e λr m hx e=>by
  cases L with
  | append=>exact Df2 hx e
  | pop=>exact pop_s hx e
  | extend=>exact Db1 hx e
  | index=>exact Dt1 hx e ok
theorem DRs.getD {h:Heap}{es:List (SV×SV)}{kvs:List (MK×Value)}{d:SV}{x:Value}(dr:DRs as h es kvs)(q:MK)(vd:VR as h d x):VR as h ((Ak5 es q.sv).getD d) ((valueAt kvs q).getD x):=by
 cases z:Ak5 es q.sv with
 | none=>exact ((dr.get (k:=q)).2 z)▸vd
 | some v=>exact ((dr.get (k:=q)).1 v z).elim λu hu=>by exact (hu.1)▸hu.2
theorem Bi8 (T:Ak8 w G g0){nm:Str}(e:Dc4 k nm l st=some (v,st',ob))(hob:All ob):nm = "get"∧Ca6 w g0 A st st' k l v "dict.get":=
 Aa3 e λhn e=>⟨Ab0.mp hn,Cw5 e λo hx e=>by
  cases o with
  | dict es=>
   refine A6 e λp hp e=>Aa3 e λhk e=>?_
   refine oE (Ap0 hk) λm hm=>?_
   refine A4 e ⟨rfl,λ{as s y vs} hr vy hv=>?_⟩
   refine hm▸?_
   cases l with
   | nil=>exact no1 hp
   | cons key l=>cases l with
    | nil=>
     have hp:=A9 hp
     subst hp
     have hm:key=m.sv:=hm
     obtain ⟨x,rfl,vx⟩:=hv.one
     exact hr.locE vy hx λa ha q=>q.elim λkvs q=>HT.of_ hr (q.2.getD m .none) λQ E K=>call_meetsIn PySem.F.slot_dict_get q.1.mapOf.typeIs PySem.F.entry_dict_get (PySem.F.args_dict_get_2 _ _) (meets_dict_get (Aa1 w) a (VR.mkey (hm▸vx)) (Am3 T hr ha)) ⟨_,q.1.mapOf,K _⟩
    | cons d l=>cases l with
     | cons _ _=>exact no1 hp
     | nil=>
      have hp:=A9 hp
      subst hp
      have hm:key=m.sv:=hm
      obtain ⟨x,x',rfl,vx,vx'⟩:=hv.two
      exact hr.locE vy hx λa ha q=>q.elim λkvs q=>HT.of_ hr (q.2.getD m vx') λQ E K=>call_meetsIn PySem.F.slot_dict_get q.1.mapOf.typeIs PySem.F.entry_dict_get (PySem.F.args_dict_get_3 _ _ _) (meets_dict_get_default (Aa1 w) a (VR.mkey (hm▸vx)) (Am3 T hr ha) x') ⟨_,q.1.mapOf,K _⟩
  | idict m c=>
   refine A6 e λp hp e=>A6 e λq hq e=>askE e λa o e=>?_
   revert hob;refine oweE e λob e hob=>?_
   refine (Bf0 hp)▸?_
   refine A4 e (λhm=>⟨rfl,λ{as s y vs} hr vy hv=>?_⟩) hob.one
   obtain ⟨x,x',rfl,vx,vx'⟩:=hv.two
   refine hr.locE vy hx λa ha z=>?_
   obtain ⟨kvs,es,hd,dr,hm',_⟩:=z
   rw [hm'] at hm
   exact ((dr.get (k:=q)).1 _ hm).elim λu hu=>HT.of_ hr hu.2 λQ E K=>call_meetsIn PySem.F.slot_dict_get hd.mapOf.typeIs PySem.F.entry_dict_get (PySem.F.args_dict_get_3 _ _ _) (meets_dict_get_default (Aa1 w) a (Bm5 hq vx) (Am3 T hr ha) x') ⟨_,hd.mapOf,by show Q ((valueAt kvs q).getD x') _;rw [hu.1];exact K _⟩
  | _=>exact no1 e⟩
end
section
variable {w:World}{G:Top}{K:Frag}{g0:Heap}{mg mb:Str→Option Value}{env:Env}{c:EC}{A:Around}{as:List Addr}{st st1 st2 st':St}{s:Shared}{M n:Nat}{R:Rec}
theorem Cn4 {it t:Addr}{items:Array Value}(hne:t≠it)(n:Nat):∀(i:Nat) (s:Shared) (Q:List Value→Shared→Prop) (E:Value→Shared→Prop),s.heap.IsListIter it t i→s.heap.IsList t items→i+n≤items.size→
  (∀h',h'.IsListIter it t (i+n)→Heap.SameBut it s.heap h'→Q ((items.toList.drop i).take n) {s with heap:=h'})→wpAny (model pw w) A (draw (.ref it) n) Q E s:=by
 induction n with
 | zero=>exact λi s Q E hit u0 u0 hQ=>wpAny_pure (a:=[]) (hQ s.heap hit (Heap.SameBut.refl ..))
 | succ n ih=>
  intro i s Q E hit ht hle hQ
  have hlt:i<items.size:=Nat.lt_of_lt_of_le (Nat.lt_add_of_pos_right (Nat.succ_pos n)) hle
  have hi:i+(n+1)=i+1+n:=(Nat.add_assoc i 1 n▸Nat.add_comm n 1▸rfl)
  refine wpAny_bind (m:=pyNext (.ref it)) (wpAny_pyNext_list_item hit ht (x:=items[i]) (Array.getElem?_eq_getElem hlt) λh₁ hit₁ hs₁=>?_)
  refine wpAny_bind (wpAny_holding (ih (i+1) _ _ _ hit₁ (ht.extBut hs₁.extBut hne) (hi▸hle) λh₂ hit₂ hs₂=>wpAny_pure ?_))
  have q:=hQ h₂ (hi▸hit₂) (hs₁.trans hs₂)
  simp only [List.drop_eq_getElem_cons (Array.length_toList▸hlt),List.take_succ_cons] at q
  exact q
theorem As8 {t:Addr}{items:Array Value}{Q:List Value→Shared→Prop}{E:Value→Shared→Prop}(hh:A.handled=none)(ht:s.heap.IsList t items)
  (hQ:∀h',Heap.ExtBut s.heap.objs.size s.heap h'→Q items.toList {s with heap:=h'}):wpAny (model pw w) A (unpackItems (.ref t) items.size none) Q E s:=by
 have hlt:t≠s.heap.objs.size:=by refine oEA ht λo ho u0=>?_;exact Nat.ne_of_lt (Heap.lt_size ho)
 refine wpAny_bind ?_
 ·refine wpAny_bind (wpAny_specialOf ht.typeIs F.slot_list_iter.lookup ?_)
  refine wpAny_pure ?_
  refine wpAny_bind (wpAny_holding (wpAny_pyIter_list ht ?_))
  refine wpAny_bind (wpAny_holding (Cn4 hlt items.size 0 _ _ _ ⟨_,Heap.get?_push_size _ rfl,rfl,rfl⟩ (ht.push _) (Nat.le_of_eq (Nat.zero_add _)) λh₁ hit₁ hs₁=>?_))
  simp only [Nat.zero_add] at hit₁
  refine (show List.take items.size (List.drop 0 items.toList)=items.toList from (List.take_of_length_le (Nat.le_of_eq Array.length_toList))).symm▸?_
  rw [if_neg (by simp)]
  refine wpAny_bind (wpAny_holding (wpAny_pyNext_list_end hh hit₁ ((ht.push _).extBut hs₁.extBut hlt) (Array.getElem?_eq_none (Nat.le_refl _)) λh₂ he₂=>?_))
  refine wpAny_pure (hQ h₂ λb o hb e=>he₂ b o hb (hs₁.extBut b o hb (Heap.get?_push_of_some _ e)))
theorem An6 {h h':Heap}(x:Heap.ExtBut h.objs.size h h'):∀b o,h.get? b=some o→h'.get? b=some o:=λb o e=>x b o (Nat.ne_of_lt (Heap.lt_size e)) e
theorem Ad5 {t:Expr}{r:List Expr}(h:Ac1 t=true):assignEach (t::r) env=(false,assign t env)::assignEach r env:=by
 cases t<;>first | rfl | exact B3 h
structure AsgsC (w:World)(g0:Heap)(c:EC)(env:Env)(A:Around)(m:Nat)(st st':St)(ts:List Expr)(l:List SV):Prop where
 star:ts.all Ac1=true
 len:ts.length=l.length
 flat:(assignEach ts env).length=ts.length
 no:(assignEach ts env).findIdx? (·.1)=none
 tr:∀{as s vs},EOk env c→AOk A m→In w g0 env c as st s.heap→VRs as s.heap l vs→Tr w g0 env c A as s st' PU (assignInOrder ((assignEach ts env).map (·.2)) vs)
theorem Dj8 (S:Snd w K g0 M n R)(ts:List Expr):∀{l:List SV} {st st':St} {u:Unit} {ob:List Prop},asgs R c ts l st=some (u,st',ob)→All ob→AsgsC w g0 c env A (M+4*n) st st' ts l:=by
 induction ts with
 | nil=>
  intro l st st' u ob e _
  refine Aa3 (b:=Ae9 l) (x:=X.ret ()) e λh e=>?_
  simp only [Ab8 h]
  exact A4 e ⟨rfl,rfl,rfl,rfl,λO ok I hv Q E k=>by exact wpAny_pure (k _ _ _ _ I (Stp.refl _ _ _) trivial)⟩
 | cons t ts ih=>
  intro l st st' u ob e hob
  cases l with
  | nil=>exact no1 e
  | cons v l=>
   revert hob;refine B5 e ?_;clear e;intro a st1 o1 o2 h1 e hob
   refine oA (S.asg h1 hob.left) λg1 g2=>?_
   have r:=ih e hob.right
   refine ⟨by simp only [List.all_cons,g1,r.star];rfl,congrArg (· + 1) r.len,by refine Eq.trans (congrArg _ (Ad5 g1)) ?_;exact congrArg (· + 1) r.flat,by rw [Ad5 g1,List.findIdx?_cons,r.no];rfl,λ{as s vs} O ok I hv Q E k=>?_⟩
   obtain ⟨x,ws,rfl,hx,hw⟩:=hv.cons_inv
   refine (Ad5 g1)▸?_
   refine wpAny_bind (wpAny_holding (g2 O ok I hx _ E λas1 h1' tk1 y i1 S1 vy=>?_))
   exact r.tr O ok (s:={s with heap:=h1',toks:=tk1}) i1 (hw.step S1) Q E λas3 h3 tk3 z i3 S3 vz=>k as3 h3 tk3 z i3 (S1.trans S3) vz
abbrev AsgC (w:World)(g0:Heap)(c:EC)(m:Nat)(st st':St)(t:Expr)(v:SV):Prop:=
 Ac1 t=true∧∀{env A as s y},EOk env c→AOk A m→In w g0 env c as st s.heap→VR as s.heap v y→Tr w g0 env c A as s st' PU (assign t env y)
theorem In.kept {h':Heap}(I:In w g0 env c as st s.heap)(kp:∀b o,s.heap.get? b=some o→h'.get? b=some o):In w g0 env c as st h'∧Stp (some env.locals) as s.heap as h':=
 ⟨I.heap (I.hr.grow kp) (Stp.of_keep kp) rfl,(Stp.of_keep kp).any⟩
theorem asg_s (H:GOk w G K g0 mg mb)(S:Snd w K g0 M n R){t:Expr}{v:SV}{u:Unit}{ob:List Prop}(e:asgF G R c t v st=some (u,st',ob))(hob:All ob):AsgC w g0 c (M+4*n) st st' t v:=by
 cases t with
 | Name x p=>
  refine ⟨rfl,λ{env A as s y} O ok I hv Q E k=>?_⟩
  exact wpAny_bind (wpAny_standAt (wpAny_bindName (Bl5 e O I hv Q E k)))
 | Attribute o x p=>
  revert hob;refine B5 e ?_;clear e;intro a st1 o1 o2 h1 e hob
  have h:=seta_s H e
  refine ⟨rfl,λ{env A as s y} O ok I hv Q E k=>?_⟩
  refine wpAny_bind (wpAny_holding ((S.ev h1 hob.left).2 O ok I _ E λas1 h1' tk1 x i1 S1 vx=>wpAny_bind (wpAny_standAt (wpAny_bind (wpAny_holding ?_)))))
  exact Tr.of_HT (s:={s with heap:=h1',toks:=tk1}) i1 h.1 (h.2 (s:={s with heap:=h1',toks:=tk1}) i1.hr vx (hv.step S1)) _ E λas3 h3 tk3 z i3 S3 vz=>
   wpAny_release (k as3 h3 tk3 _ i3 (S1.trans S3) trivial)
 | Subscript o i p=>
  revert hob;refine B5 e ?_;clear e;intro a st1 o1 o2 h1 e hob
  revert hob;refine B5 e ?_;clear e;intro b st2 o3 o4 h2 e hob
  refine ⟨rfl,λ{env A as s y} O ok I hv Q E k=>?_⟩
  refine wpAny_bind (wpAny_holding ((S.ev h1 hob.left).2 O ok I _ E λas1 h1' tk1 x i1 S1 vx=>wpAny_bind (wpAny_holding ((S.ev h2 hob.right.left).2 O ok (s:={s with heap:=h1',toks:=tk1}) i1 _ E λas2 h2' tk2 z i2 S2 vz=>wpAny_bind (wpAny_standAt (wpAny_bind (wpAny_holding ?_)))))))
  exact Tr.of_HT (s:={s with heap:=h2',toks:=tk2}) i2 (Dg5 (w:=w) (g0:=g0) e).1 ((Dg5 (w:=w) (g0:=g0) e).2 (s:={s with heap:=h2',toks:=tk2}) ok i2.hr (vx.step S2) vz ((hv.step S1).step S2)) _ E λas3 h3 tk3 z i3 S3 vz=>
   wpAny_release (k as3 h3 tk3 _ i3 ((S1.trans S2).trans S3) trivial)
 | Tuple ts i p=>
  cases v with
  | tup l=>
   refine ⟨rfl,λ{env A as s y} O ok I hv=>?_⟩
   have g:=Dj8 (env:=env) (A:=A) S ts e hob
   refine hv.tupE λa vs ht hvs=>λQ E k=>wpAny_assign_Tuple ok.1 ht.tuple (by simp only [g.flat,List.size_toArray,g.len,hvs.1]) g.no λh' hk=>?_
   have i1:=I.kept (An6 hk)
   exact g.tr O ok (s:={s with heap:=h'}) i1.1 (hvs.step i1.2) Q E λas3 h3 tk3 z i3 S3 vz=>k as3 h3 tk3 z i3 (i1.2.trans S3) vz
  | loc k=>
   refine listE e ?_;clear e;intro r m hx e
   refine ⟨rfl,λ{env A as s y} O ok I hv=>?_⟩
   have g:=Dj8 (env:=env) (A:=A) S ts e hob
   refine I.hr.listE hv hx λa us ep ha hl ho hu=>λQ E k=>?_
   refine wpAny_bind (wpAny_standAt ?_)
   unfold unpack
   rw [show (assignEach ts env).length=us.toArray.size from g.flat.trans (g.len.trans hu.1),g.no]
   refine wpAny_bind (wpAny_holding (As8 ok.1 (Aa4 ho) λh' hk=>?_))
   have i1:=I.kept (An6 hk)
   exact g.tr O ok (s:={s with heap:=h'}) i1.1 (hu.step i1.2) Q E λas3 h3 tk3 z i3 S3 vz=>k as3 h3 tk3 z i3 (i1.2.trans S3) vz
  | _=>exact no1 e
 | _=>exact no1 e
end
section
variable {w:World}{G:Top}{K:Frag}{g0:Heap}{mg mb:Str→Option Value}{env:Env}{c:EC}{A:Around}{as:List Addr}{st st1 st2 st':St}{s:Shared}{M n:Nat}{R:Rec}
theorem Ak3 {o:Obj}{T:String}(hc:o.cls = .type T)(h1:T≠"tuple")(h2:T≠"frozenset")(h3:T≠"range"):¬ Imm o:=λm=>
 m.elim (λm=>h1 (Value.type.inj (hc.symm.trans m.1))) λm=>m.elim (λm=>h2 (Value.type.inj (hc.symm.trans m.1))) λm=>h3 (Value.type.inj (hc.symm.trans m.1))
theorem ItR.self {h:Heap}{it:SIt}{I:Addr}{own:List Addr}(x:ItR w as h it I own)(hz:Ah8 it=false):I∈own:=by
 cases it with
 | tup l=>rw [x.1];exact List.mem_singleton.mpr rfl
 | lst k i=>rw [x.1];exact List.mem_singleton.mpr rfl
 | rng i n=>rw [x.1];exact List.mem_singleton.mpr rfl
 | keys=>rw [x.1];exact List.mem_singleton.mpr rfl
 | _=>exact noB hz
theorem Ar9.to {b:Bool}{h h':Heap}{z TI TO i1 i2 l1 l2:Addr}{i:Nat}{f0:Value}(x:Ar9 b h z TI TO i1 i2 l1 l2 i f0)(kp:∀a∈[z,TI,TO,i1,i2],∀o,h.get? a=some o→h'.get? a=some o):Ar9 b h' z TI TO i1 i2 l1 l2 i f0:=
 have m0:z∈[z,TI,TO,i1,i2]:=List.mem_cons_self
 have m1:TI∈[z,TI,TO,i1,i2]:=List.mem_cons_of_mem _ List.mem_cons_self
 have m2:TO∈[z,TI,TO,i1,i2]:=List.mem_cons_of_mem _ (List.mem_cons_of_mem _ List.mem_cons_self)
 have m3:i1∈[z,TI,TO,i1,i2]:=List.mem_cons_of_mem _ (List.mem_cons_of_mem _ (List.mem_cons_of_mem _ List.mem_cons_self))
 have m4:i2∈[z,TI,TO,i1,i2]:=List.mem_cons_of_mem _ (List.mem_cons_of_mem _ (List.mem_cons_of_mem _ (List.mem_cons_of_mem _ List.mem_cons_self)))
 ⟨x.D,x.hidI,x.hidO,x.shz,x.sh1,x.sh2,kp z m0 _ x.hz,kp TI m1 _ x.hTI,x.hTO.elim λp e=>e.elim λq e=>⟨p,q,kp TO m2 _ e⟩,x.h1.to λo e=>kp i1 m3 o e,x.h2.at λo e=>kp i2 m4 o e⟩
theorem Be3 {as ns:List Addr}{k:Nat}{a:Addr}(e:as[k]?=some a):(as++ns)[k]?=some a:=Aj2 e
theorem ItR.keep0 {as':List Addr}{h h':Heap}{it:SIt}{I:Addr}{own:List Addr}(x:ItR w as h it I own)(im:B2 h h')(kp:∀a∈own,∀o,h.get? a=some o→h'.get? a=some o)(pre:∃ns,as'=as++ns)(hd:Az7 it=true→∀b o,h.get? b=some o→h'.get? b=some o):ItR w as' h' it I own:=by
 have kI:own = [I]→∀o,h.get? I=some o→h'.get? I=some o:=λe o q=>kp I (e▸List.mem_singleton.mpr rfl) o q
 refine pre.elim λns hns=>?_
 cases it with
 | tup l=>
  obtain ⟨e,t,vs,i,⟨o,ho,r⟩,ht,hv⟩:=x
  exact ⟨e,t,vs,i,⟨o,kI e o ho,r⟩,Ag0 im ht,hv.mono im pre⟩
 | lst k i=>
  obtain ⟨e,a,hk,⟨o,ho,r⟩⟩:=x
  exact ⟨e,a,hns▸Be3 hk,⟨o,kI e o ho,r⟩⟩
 | rng i n=>exact ⟨x.1,kI x.1 _ x.2⟩
 | keys=>
  obtain ⟨e,d,ep,hn,⟨o,ho,r⟩,⟨o',es',ho',r'⟩⟩:=x
  exact ⟨e,d,ep,hn,⟨o,kI e o ho,r⟩,⟨o',es',hd rfl _ o' ho',r'⟩⟩
 | zipT l k i=>
  obtain ⟨TI,TO,i1,i2,l1,l2,vs,e0,Z,e,ht,hv⟩:=x
  exact ⟨TI,TO,i1,i2,l1,l2,vs,e0,Z.to (e0▸kp),hns▸Be3 e,Ag0 im ht,hv.mono im pre⟩
 | zipL j k i=>
  obtain ⟨TI,TO,i1,i2,l1,l2,e0,Z,e,e'⟩:=x
  exact ⟨TI,TO,i1,i2,l1,l2,e0,Z.to (e0▸kp),hns▸Be3 e,hns▸Be3 e'⟩
theorem ItR.step {L:Option Addr}{as':List Addr}{h h':Heap}{it:SIt}{I:Addr}{own:List Addr}(x:ItR w as h it I own)(S:Stp L as h as' h')(hk:Az7 it=false)(ha:∀a∈own,a∉as)(hl:∀a∈own,L≠some a):ItR w as' h' it I own:=
 x.keep0 S.imm (λa m o e=>S.keep a o e (ha a m) (hl a m)) S.pre λq=>B3 (hk.symm.trans q)
def Ea5 (w:World)(A:Around)(as:List Addr)(s:Shared)(it:SIt)(x:Value):Prop:=
 ∀(Q:Value→Shared→Prop) (E:Value→Shared→Prop),(∀h' tk I,(∀b o,s.heap.get? b=some o→h'.get? b=some o)→s.heap.get? I=none→ItR w as h' it I [I]→Q (.ref I) {s with heap:=h',toks:=tk})→wpAny (model pw w) A (pyIter x) Q E s
theorem Ea5.of {it:SIt}{x:Value}{o:Obj}(h:(∀b o',s.heap.get? b=some o'→(s.heap.push o).get? b=some o')→(s.heap.push o).get? s.heap.objs.size=some o→ItR w as (s.heap.push o) it s.heap.objs.size [s.heap.objs.size])
  (r:∀{Q:Value→Shared→Prop} {E:Value→Shared→Prop},Q (.ref s.heap.objs.size) {s with heap:=s.heap.push o}→wpAny (model pw w) A (pyIter x) Q E s)(hf:o.isFreed=false:=by rfl):Ea5 w A as s it x:=λQ E k=>
 r (k _ s.toks _ (λb o' e=>Heap.get?_push_of_some _ e) (Ac2 _) (h (λb o' e=>Heap.get?_push_of_some _ e) (Heap.get?_push_size _ hf)))
theorem Av1 {m:Int}(g1:-(2^62)<m)(g2:m<2^62):Builtin.Range.rangeSize 0 m 1=max 0 (m-0)∧Builtin.Range.small 0 m 1=true:=by
 have hsz:Builtin.Range.rangeSize 0 m 1=max 0 (m-0):=by
  unfold Builtin.Range.rangeSize
  have h1:(1:Int)>0:=by decide
  split<;>lia
 refine ⟨hsz,?_⟩
 unfold Builtin.Range.small
 refine hsz▸?_
 have f:∀y:Int,-(2^63:Int)≤y→y<(2^63:Int)→Builtin.Range.rangeFitsLong y=true:=λy a b=>by
  unfold Builtin.Range.rangeFitsLong
  simp only [decide_eq_true a,decide_eq_true b];rfl
 have l1:-(2^63:Int)≤m:=Int.le_trans (by decide) (Int.le_of_lt g1)
 have l4:m+(1-1)=m:=Int.add_zero m
 rw [(Int.sub_zero m),l4,f 0 (by decide) (by decide),f m l1 (Int.lt_trans g2 (by decide)),f 1 (by decide) (by decide),f (max 0 m) (Int.le_trans (by decide) (Int.le_max_left 0 m)) (Int.max_lt.mpr ⟨by decide,(Int.lt_trans g2 (by decide))⟩),if_pos (by decide),Bool.or_true]
 rfl
def Iter0C (w:World)(g0:Heap)(n:Nat)(st st':St)(v:SV)(it:SIt):Prop:=st'=st∧Ah8 it=false∧∀{A as s x},AOk A n→HR w g0 as st.hp s.heap→VR as s.heap v x→Ea5 w A as s it x
theorem Bn2 (T:Ak8 w G g0){v:SV}{it:SIt}{ob:List Prop}(e:Cz4 v st=some (it,st',ob)):Iter0C w g0 n st st' v it:=by
 cases v with
 | tup l=>
  exact A4 e ⟨rfl,rfl,λ{A as s x} ok hr vx=>vx.tupE λt vs ht hv=>.of (o:={cls:=.type "tuple_iterator",data:=.fields #[.ref t,.int 0 0]})
   (λkp hg=>⟨rfl,t,vs,0,⟨_,hg,rfl,rfl⟩,Ag0 (B2.of_keep kp) ht,hv.same (B2.of_keep kp)⟩) (wpAny_pyIter_tuple ht.tuple)⟩
 | loc j=>
  refine Cw5 e λo hx e=>?_
  cases o with
  | list r m=>
   exact A4 e ⟨rfl,rfl,λ{A as s x} ok hr vx=>hr.listE vx hx λa us ep ha hl ho hu=>.of (o:={cls:=.type "list_iterator",data:=.fields #[.ref a,.int 0 0]})
    (λkp hg=>⟨rfl,a,ha,⟨_,hg,rfl,rfl⟩⟩) (wpAny_pyIter_list (Aa4 ho))⟩
  | dict es=>
   refine Aa3 e λhn e=>?_
   rw [Ab8 hn] at hx
   refine A4 e ⟨rfl,rfl,λ{A as s x} ok hr vx=>hr.locE vx hx λa ha q=>q.elim λkvs q=>?_⟩
   obtain rfl:=q.2.nil_inv
   exact q.1.dictAt.elim λep hda=>.of (o:={cls:=.type "dict_keyiterator",data:=.fields #[.ref a,.int 0 0,.int (([]:List (MK×Value)).length:Nat) 0,.int ep 0]})
    (λkp hg=>⟨rfl,a,ep,Am3 T hr ha,⟨_,hg,rfl,rfl⟩,hda.keep kp⟩) (wpAny_pyIter_dict (knd:=Aa1 w) (Am3 T hr ha) hda)
  | _=>exact no1 e
 | rng m=>
  refine Ag1 e λhb1 hb2 e=>A4 e ⟨rfl,rfl,λ{A as s x} ok hr vx=>?_⟩
  obtain ⟨a,t,u,v,rfl,hrr⟩:=vx.inv
  exact .of (o:={cls:=.type "range_iterator",data:=.fields #[rawInt 0,rawInt (Builtin.Range.rangeSize 0 m 1),rawInt 1]}) (λkp hg=>⟨rfl,by rw [← (Av1 (of_decide_eq_true hb1) (of_decide_eq_true hb2)).1];exact hg⟩) (wpAny_pyIter_range hrr (Av1 (of_decide_eq_true hb1) (of_decide_eq_true hb2)).2)
 | _=>exact no1 e
theorem In.same_st {h:Heap}(x:In w g0 env c as st h)(e1:st'.hp=st.hp)(e2:st'.lc=st.lc):In w g0 env c as st' h:=⟨e1▸x.hr,e2▸x.fr,x.off,x.lo,x.cells⟩
def Ea8 (w:World)(A:Around)(s:Shared)(I:Addr)(own:List Addr):Prop:=∀(Q:Option Value→Shared→Prop) (E:Value→Shared→Prop),
 (∀h' tk,(∀b o,b∉own→s.heap.get? b=some o→h'.get? b=some o)→Q none {s with heap:=h',toks:=tk})→wpAny (model pw w) A (pyNext (.ref I)) Q E s
structure Bp6 (own:List Addr)(h h':Heap):Prop where
 keep:∀b o,b∉own→h.get? b=some o→h'.get? b=some o
 live:∀b o,h.get? b=some o→∃o',h'.get? b=some o'
 imm:B2 h h'
def Ea6 (w:World)(A:Around)(as:List Addr)(s:Shared)(I:Addr)(own:List Addr)(it:SIt)(v:SV):Prop:=∀(Q:Option Value→Shared→Prop) (E:Value→Shared→Prop),
 (∀h' tk x,Bp6 own s.heap h'→ItR w as h' it I own→VR as h' v x→Q (some x) {s with heap:=h',toks:=tk})→wpAny (model pw w) A (pyNext (.ref I)) Q E s
def TurnP (w:World)(A:Around)(as:List Addr)(s:Shared)(I:Addr)(own:List Addr):Option (SV×SIt)→Prop
 | none=>Ea8 w A s I own
 | some q=>Ea6 w A as s I own q.2 q.1
def Dp8:Option (SV×SIt)→Prop
 | none=>True
 | some q=>Ah8 q.2=false∧Az7 q.2=false
def Next1C (w:World)(g0:Heap)(n:Nat)(st st':St)(it:SIt)(r:Option (SV×SIt)):Prop:=st'.hp=st.hp∧st'.lc=st.lc∧Dp8 r∧
 ∀{A as s I own},AOk A n→HR w g0 as st.hp s.heap→ItR w as s.heap it I own→(∀a∈own,a∉as)→TurnP w A as s I own r
theorem Bp6.one {h h':Heap}{I:Addr}{o:Obj}(hs:Heap.SameBut I h h')(ho:h.get? I=some o)(hni:¬ Imm o)(ho':∃o',h'.get? I=some o'):Bp6 [I] h h':=
 ⟨λb o hb e=>(hs.2 b λq=>hb (q▸List.mem_singleton.mpr rfl)).trans e,λb o e=>by
  by_cases q:b=I
  ·exact q▸ho'
  ·exact ⟨o,(hs.2 b q).trans e⟩,B2.same hs ho hni⟩
theorem Ea8.one {I:Addr}(r:∀{Q:Option Value→Shared→Prop} {E:Value→Shared→Prop},(∀h',Heap.ExtBut I s.heap h'→Q none {s with heap:=h'})→wpAny (model pw w) A (pyNext (.ref I)) Q E s):Ea8 w A s I [I]:=λQ E k=>
 r λh' hk=>k h' s.toks λb o hb e=>hk b o (λq=>hb (q▸List.mem_singleton.mpr rfl)) e
theorem Bg8 {I:Addr}{own:List Addr}(ok:AOk A n)(x:ItR w as s.heap (.tup []) I own):Ea8 w A s I own:=by
 refine Ch5 x ?_;clear x;intro z0 t vs i hit ht hv;subst z0
 have hl:vs.length≤i:=by have h:=hv.1;simp only [List.length_drop] at h;exact Nat.sub_eq_zero_iff_le.mp h.symm
 exact .one (wpAny_pyNext_tuple_end ok.1 hit ht.tuple (by refine Eq.trans (List.getElem?_toArray) ?_;exact List.getElem?_eq_none hl))
theorem Cx0 {I:Addr}{own:List Addr}{a:SV}{l:List SV}(x:ItR w as s.heap (.tup (a::l)) I own):Ea6 w A as s I own (.tup l) a:=by
 refine Ch5 x ?_;clear x;intro z0 t vs i hit ht hv;subst z0
 obtain ⟨v,ws,e1,hva,hw⟩:=hv.cons_inv
 have hi:vs[i]?=some v:=by
  have:(vs.drop i)[0]?=some v:=by refine e1▸?_;rfl
  exact (List.getElem?_drop).symm.trans this
 have hd:vs.drop (i+1)=ws:=by rw [← List.drop_drop,e1];rfl
 refine λQ E k=>wpAny_pyNext_tuple_item hit ht.tuple (x:=v) (by refine Eq.trans (List.getElem?_toArray) ?_;exact hi) λh' hit' hs=>?_
 obtain ⟨o,ho,hc,_⟩:=id hit
 have M:=Bp6.one hs ho (Ak3 hc (by decide) (by decide) (by decide)) (hit'.elim λo' h=>⟨o',h.1⟩)
 exact k h' s.toks v M ⟨rfl,t,vs,i+1,hit',Ag0 M.imm ht,hd.symm▸hw.same M.imm⟩ (hva.same M.imm)
theorem Cx2 {hp:List A0}{I:Addr}{own:List Addr}{k i m:Nat}{l:List SV}(ok:AOk A n)(hx:hp[k]?=some (.list l m))(hr:HR w g0 as hp s.heap)(x:ItR w as s.heap (.lst k i) I own):
  TurnP w A as s I own (l.reverse[i]?.map λa=>(a,.lst k (i+1))):=by
 refine oAEA x ?_;clear x;intro z0 a hka hit;subst z0
 refine Ch3 (hr.at_ k _ hx) λb hb hl us ep ho hu=>?_
 obtain rfl:=A9 (hka.symm.trans hb)
 cases hq:l.reverse[i]? with
 | none=>exact Ea8.one (wpAny_pyNext_list_end ok.1 hit (Aa4 ho) (by refine Eq.trans (List.getElem?_toArray) ?_;exact List.getElem?_eq_none (hu.1▸List.getElem?_eq_none_iff.mp hq)))
 | some v0=>
  obtain ⟨v,hv,hva⟩:=hu.at hq
  refine λQ E k=>wpAny_pyNext_list_item hit (Aa4 ho) (x:=v) (by refine Eq.trans (List.getElem?_toArray) ?_;exact hv) λh' hit' hs=>?_
  refine Bk4 (id hit) λo ho' hc u0=>?_
  exact k h' s.toks v (Bp6.one hs ho' (Ak3 hc (by decide) (by decide) (by decide)) (hit'.elim λo' h=>⟨o',h.1⟩)) ⟨rfl,a,hka,hit'⟩ (hva.same (Bp6.one hs ho' (Ak3 hc (by decide) (by decide) (by decide)) (hit'.elim λo' h=>⟨o',h.1⟩)).imm)
theorem Cx1 {I:Addr}{own:List Addr}{i m:Int}(h:i<m)(x:ItR w as s.heap (.rng i m) I own):Ea6 w A as s I own (.rng (i+1) m) (.int i):=by
 refine oA x ?_;clear x;intro z0 hit;subst z0
 refine λQ E k=>wpAny_pyNext_range_item hit (by lia) λh' hit' hs=>?_
 have e1:max 0 (m-(i+1))=max 0 (m-i)-1:=by lia
 exact k h' _ _ (Bp6.one hs hit (Ak3 (T:="range_iterator") rfl (by decide) (by decide) (by decide)) ⟨_,hit'⟩) ⟨rfl,by simp only [e1];exact hit'⟩ (.int _ _)
theorem Dr0 {l:List SV}{k i:Nat}{r:Option (SV×SIt)}{ob:List Prop}(e:Dr1 l k i st=some (r,st',ob))(hob:All ob):st'.hp=st.hp∧st'.lc=st.lc∧r=l[i]?.map λa=>(a,.lst k (i+1)):=by
 have go:some ((at? l i).map λa=>(a,SIt.lst k (i+1)),st,[])=some (r,st',ob)→st'.hp=st.hp∧st'.lc=st.lc∧r=l[i]?.map λa=>(a,.lst k (i+1)):=λe=>A4 e ⟨rfl,rfl,by rw [at?_eq]⟩
 unfold Dr1 at e
 cases h:st.orc with
 | nil=>replace e:=h▸e;exact go e
 | cons q o=>
  replace e:=h▸e
  cases q with
  | item a=>revert hob;exact A4 e λhob=>⟨rfl,rfl,by rw [hob _ List.mem_cons_self];rfl⟩
  | fin=>revert hob;exact A4 e λhob=>⟨rfl,rfl,by rw [hob _ List.mem_cons_self];rfl⟩
  | _=>exact go e
theorem Ch7 {it:SIt}(hz:Ah8 it=false){r:Option (SV×SIt)}{ob:List Prop}(e:Bm4 it st=some (r,st',ob))(hob:All ob):Next1C w g0 n st st' it r:=by
 unfold Bm4 at e
 cases it with
 | tup l=>
  cases l with
  | nil=>exact A4 e ⟨rfl,rfl,trivial,λok hr x ha=>Bg8 ok x⟩
  | cons a l=>exact A4 e ⟨rfl,rfl,⟨rfl,rfl⟩,λok hr x ha=>Cx0 x⟩
 | lst k i=>
  refine listE e λq m hx e=>?_
  have z:=Dr0 e hob
  simp only [z.2.2]
  refine ⟨z.1,z.2.1,?_,λok hr x ha=>Cx2 ok hx hr x⟩
  cases q.reverse[i]? with
  | none=>trivial
  | some v=>exact ⟨rfl,rfl⟩
 | rng i m=>
  cases hd:decide (i<m) with
  | false=>
   dsimp only at e
   rw [hd] at e
   refine A4 e ⟨rfl,rfl,trivial,λ{A as s I own} ok hr x ha=>?_⟩
   obtain ⟨rfl,hit⟩:=x
   exact Ea8.one (wpAny_pyNext_range_end ok.1 hit (Int.max_le.mpr ⟨Int.le_refl 0,Int.sub_nonpos_of_le (Int.not_lt.mp (of_decide_eq_false hd))⟩))
  | true=>
   dsimp only at e
   rw [hd] at e
   exact A4 e ⟨rfl,rfl,⟨rfl,rfl⟩,λok hr x ha=>Cx1 (of_decide_eq_true hd) x⟩
 | keys=>
  refine A4 e ⟨rfl,rfl,trivial,λ{A as s I own} ok hr x ha=>?_⟩
  obtain ⟨rfl,d,ep,hd,hit,hda⟩:=x
  exact Ea8.one (wpAny_pyNext_dict_end ok.1 hit hda (by rfl))
 | _=>exact noB hz
end
end
section
variable {prog:Program}{w:World}{A:Around}{s:Shared}{R:Result→Shared→Prop}
theorem Bv7 {test:Expr}{body orelse:List Stmt}{env:Env}
  (h:wpAny (model prog w) A (isTrue test env (eval test env)) (λb s₂=>
    if b then wpAny (model prog w) A (execs body env) (λf s₃=>match f with
      | .next | .cont=>codeAny (model prog w) A (.whileLoop test body orelse env) R s₃
      | .brk=>R (.ok .next) s₃
      | .ret v=>R (.ok (.ret v)) s₃) (notedBy (model prog w) A env λe s'=>R (.error e) s') s₂
    else wpAny (model prog w) A (execs orelse env) (λf s₃=>R (.ok f) s₃) (notedBy (model prog w) A env λe s'=>R (.error e) s') s₂)
    (notedBy (model prog w) A env λe s'=>R (.error e) s') s):codeAny (model prog w) A (.whileLoop test body orelse env) R s:=by
 refine codeAny_of_tree ?_
 show wpAny _ A ((whileTurn test body orelse env).onRaise (λx=>do noteFrame x env;theTreesLotGoes x)) _ _ s
 refine wpAny_noted ?_
 refine wpAny_bind (wpAny_mono h (λb s₂ h₂=>?_) λu0 u0 h'=>h')
 cases b with
 | false=>
  exact wpAny_bind (wpAny_mono h₂ (λf s₃ h₃=>wpAny_pure h₃) λu0 u0 h'=>h')
 | true=>
  refine wpAny_bind (wpAny_mono h₂ (λf s₃ h₃=>?_) λu0 u0 h'=>h')
  cases f with
  | next=>exact wpAny_pure ⟨rfl,h₃⟩
  | cont=>exact wpAny_pure ⟨rfl,h₃⟩
  | brk=>exact wpAny_pure h₃
  | ret v=>exact wpAny_pure h₃
theorem Bd4 {target:Expr}{it:Value}{body orelse:List Stmt}{env:Env}
  (h:wpAny (model prog w) A (pyNext it) (λr s₁=>match r with
   | none=>wpAny (model prog w) A (execs orelse env) (λf s₃=>R (.ok f) s₃) (notedBy (model prog w) A env λe s'=>R (.error e) s') s₁
   | some v=>wpAny (model prog w) A (letOwnedTupleGo target it v) (λu0 s₁'=>
     wpAny (model prog w) A (assign target env v) (λu0 s₂=>wpAny (model prog w) A (execs body env) (λf s₃=>match f with
      | .next | .cont=>codeAny (model prog w) A (.forLoop target it body orelse env) R s₃
      | .brk=>R (.ok .next) s₃
      | .ret v=>R (.ok (.ret v)) s₃) (notedBy (model prog w) A env λe s'=>R (.error e) s') s₂) (notedBy (model prog w) A env λe s'=>R (.error e) s') s₁') (notedBy (model prog w) A env λe s'=>R (.error e) s') s₁) (notedBy (model prog w) A env λe s'=>R (.error e) s') s):
  codeAny (model prog w) A (.forLoop target it body orelse env) R s:=by
 refine codeAny_of_tree ?_
 show wpAny _ A ((forTurn target it body orelse env).onRaise (λx=>do noteFrame x env;theTreesLotGoes x)) _ _ s
 refine wpAny_noted ?_
 refine wpAny_bind (wpAny_standAt (wpAny_bind (wpAny_onRaise (wpAny_mono h (λr s₁ h₁=>?_) λu0 u0 h'=>wpAny_standAt h'))))
 cases r with
 | none=>exact wpAny_pure ⟨rfl,codeAny_block h₁⟩
 | some v=>
  refine wpAny_bind (wpAny_mono h₁ (λu0 s₁' h₁'=>?_) λu0 u0 h'=>h')
  refine wpAny_bind (wpAny_mono h₁' (λu0 s₂ h₂=>wpAny_bind (wpAny_mono h₂ (λf s₃ h₃=>?_) λu0 u0 h'=>h')) λu0 u0 h'=>h')
  cases f with
  | next=>exact wpAny_pure ⟨rfl,h₃⟩
  | cont=>exact wpAny_pure ⟨rfl,h₃⟩
  | brk=>exact wpAny_pure h₃
  | ret v=>exact wpAny_pure h₃
theorem Bj0 {elt target iter:Expr}{ifs:List Expr}{scope:Scope}{pos:Pos}{it acc:Value}{env:Env}
  (h:wpAny (model prog w) A (pyNext it) (λr s₁=>match r with
   | none=>R (.ok .next) s₁
   | some v=>wpAny (model prog w) A (assign target env v) (λu0 s₂=>
     wpAny (model prog w) A (forIn ifs true λc r=>if r=true then do let ok ← isTrue c env (eval c env);pure (ForInStep.yield ok) else pure (ForInStep.yield r)) (λok s₃=>
      if ok=true then wpAny (model prog w) A (eval elt env) (λx s₄=>
       wpAny (model prog w) A (call (.builtin "list.append") [acc,x]) (λu0 s₅=>codeAny (model prog w) A (.compLoop (.ListComp elt [⟨target,iter,ifs,0⟩] scope pos) 0 it acc env) R s₅) (notedBy (model prog w) A env λe s'=>R (.error e) s') s₄) (notedBy (model prog w) A env λe s'=>R (.error e) s') s₃
      else codeAny (model prog w) A (.compLoop (.ListComp elt [⟨target,iter,ifs,0⟩] scope pos) 0 it acc env) R s₃) (notedBy (model prog w) A env λe s'=>R (.error e) s') s₂) (notedBy (model prog w) A env λe s'=>R (.error e) s') s₁) (notedBy (model prog w) A env λe s'=>R (.error e) s') s)
  (ht:∀v,letOwnedTupleGo target it v=pure ()):
  codeAny (model prog w) A (.compLoop (.ListComp elt [⟨target,iter,ifs,0⟩] scope pos) 0 it acc env) R s:=by
 refine codeAny_of_tree ?_
 show wpAny _ A ((compTurn (.ListComp elt [⟨target,iter,ifs,0⟩] scope pos) 0 it acc env).onRaise (λx=>do noteFrame x env;theTreesLotGoes x)) _ _ s
 refine wpAny_noted ?_
 rw [compTurn_list]
 refine wpAny_bind (wpAny_standAt (wpAny_bind (wpAny_mono h (λr s₁ h₁=>?_) λu0 u0 h'=>h')))
 cases r with
 | none=>exact wpAny_pure h₁
 | some v=>
  refine wpAny_bind (wpAny_of_eq (ht v) ?_)
  refine wpAny_bind (wpAny_mono h₁ (λu0 s₂ h₂=>wpAny_bind (wpAny_mono h₂ (λok s₃ h₃=>?_) λu0 u0 h'=>h')) λu0 u0 h'=>h')
  cases ok with
  | false=>exact wpAny_pure ⟨rfl,h₃⟩
  | true=>
   exact wpAny_bind (wpAny_bind (wpAny_mono h₃ (λx s₄ h₄=>wpAny_bind (wpAny_mono h₄ (λu0 s₅ h₅=>wpAny_pure (wpAny_pure ⟨rfl,h₅⟩)) λu0 u0 h'=>h')) λu0 u0 h'=>h'))
end
section
variable [HI:Hid]
theorem Ba8.there {b:Bool}{h:Heap}{it l:Addr}{k:Nat}(x:Ba8 b h it l k):∃o,h.get? it=some o∧¬ Imm o:=by
 cases b with
 | true=>obtain ⟨o,ho,hc,hd⟩:=x;exact ⟨o,ho,Ak3 hc (by decide) (by decide) (by decide)⟩
 | false=>obtain ⟨o,ho,hc,hd⟩:=x;exact ⟨o,ho,Ak3 hc (by decide) (by decide) (by decide)⟩
section
variable {w:World}{A:Around}{E:Value→Shared→Prop}{s:Shared}
theorem Aq8 {it t:Addr}{i:Nat}{items:Array Value}{x:Value}{Q:Value→Shared→Prop}(hit:s.heap.IsTupleIter it t i)(ht:s.heap.IsTuple t items)(hx:items[i]?=some x)
  (hQ:∀h',h'.IsTupleIter it t (i+1)→Heap.SameBut it s.heap h'→Q x {s with heap:=h'}):wpAny (model pw w) A (Builtin.SmallTypes.nextOf (.ref it)) Q E s:=by
 refine Bk4 (id hit) λo ho hc hd=>?_
 refine By0 ht λol hol u0 nl hdl=>?_
 refine wpAny_bind (wpAny_callSpecial?_slot (name:=Str.ofString "__next__") hit.typeIs PySem.F.slot_tuple_iterator_next
  (wpAny_call_entry PySem.F.slot_tuple_iterator_next hit.typeIs PySem.F.entry_tuple_iterator_next ?_ (PySem.F.args_tuple_iterator_next_1 _)))
 show wpAny _ _ (field (.ref it) 0>>=_) _ _ s
 refine wpAny_bind (wpAny_field ho hd (x:=.ref t) rfl ?_)
 refine wpAny_bind (wpAny_field ho hd (x:=.int i 0) rfl (wpAny_bind (wpAny_seqItems hol hdl ?_)))
 simp only [Int.toNat_natCast,hx]
 refine wpAny_bind (wpAny_setField ho hd (by simp) (wpAny_pure ⟨x,rfl,wpAny_pure (hQ _ ⟨_,Heap.get?_update_self _ ho (Obj.isFreed_of_fields (Obj.data_mapFields hd _)),(Obj.cls_mapFields ..).trans hc,?_⟩ (Heap.SameBut.update ..))⟩))
 rw [Obj.data_mapFields hd];rfl
theorem Aq9 {it t:Addr}{i:Nat}{items:Array Value}{Q:Value→Shared→Prop}(hh:A.handled=none)(hit:s.heap.IsTupleIter it t i)(ht:s.heap.IsTuple t items)(hx:items[i]?=none)
  (hE:∀h' e,Heap.ExtBut it s.heap h'→(∃o,h'.get? e=some o∧o.cls = .type "StopIteration")→E (.ref e) {s with heap:=h'}):wpAny (model pw w) A (Builtin.SmallTypes.nextOf (.ref it)) Q E s:=by
 refine Bk4 (id hit) λo ho hc hd=>?_
 refine By0 ht λol hol u0 nl hdl=>?_
 refine wpAny_bind (wpAny_callSpecial?_slot (name:=Str.ofString "__next__") hit.typeIs PySem.F.slot_tuple_iterator_next
  (wpAny_call_entry PySem.F.slot_tuple_iterator_next hit.typeIs PySem.F.entry_tuple_iterator_next ?_ (PySem.F.args_tuple_iterator_next_1 _)))
 show wpAny _ _ (field (.ref it) 0>>=_) _ _ s
 refine wpAny_bind (wpAny_field ho hd (x:=.ref t) rfl ?_)
 refine wpAny_bind (wpAny_field ho hd (x:=.int i 0) rfl (wpAny_bind (wpAny_seqItems hol hdl ?_)))
 simp only [Int.toNat_natCast,hx]
 refine wpAny_bind (wpAny_rule (wpAny_bind (wpAny_setField ho hd (by simp) ?_)))
 refine wpAny_bind ?_
 refine wpAny_bind (wpAny_newObj_type ?_ (by size_fits))
 refine wpAny_bind (m:=firstArgMember _ _) (wpAny_of_eq (a:=Value.none) (by first | rfl | (simp only [firstArgMember];rfl)) ?_)
 refine wpAny_newObj_type ?_ (by size_fits)
 refine wpAny_bind (wpAny_handled ?_)
 first | rw [show A.in1.handled=none from hh] | rw [hh]
 exact wpAny_bind (wpAny_pure (wpAny_throw (hE _ _ (((Heap.SameBut.update ..).extBut.push _).push _) ⟨_,Heap.get?_push_size _ rfl,rfl⟩)))
theorem Bm3 {b:Bool}{it l:Addr}{k:Nat}{xs:Array Value}{x:Value}{Q:Value→Shared→Prop}(hi:Ba8 b s.heap it l k)(hl:Be6 b s.heap l xs)(hx:xs[k]?=some x)
  (hQ:∀h',Ba8 b h' it l (k+1)→Heap.SameBut it s.heap h'→Q x {s with heap:=h'}):wpAny (model pw w) A (Builtin.SmallTypes.nextOf (.ref it)) Q E s:=by
 cases b with
 | true=>exact Aq8 hi hl hx hQ
 | false=>exact wpAny_nextOf_list_item hi hl hx hQ
theorem An3 {b:Bool}{it l:Addr}{k:Nat}{xs:Array Value}{Q:Value→Shared→Prop}(hh:A.handled=none)(hi:Ba8 b s.heap it l k)(hl:Be6 b s.heap l xs)(hx:xs[k]?=none)
  (hE:∀h' e,Heap.ExtBut it s.heap h'→(∃o,h'.get? e=some o∧o.cls = .type "StopIteration")→E (.ref e) {s with heap:=h'}):wpAny (model pw w) A (Builtin.SmallTypes.nextOf (.ref it)) Q E s:=by
 cases b with
 | true=>exact Aq9 hh hi hl hx hE
 | false=>exact wpAny_nextOf_list_end hh hi hl hx hE
end
section
variable {w:World}{A:Around}{E:Value→Shared→Prop}{s:Shared}
def Zk (z TO i1 i2:Addr)(h h':Heap):Prop:=∀c o,c≠z→c≠TO→c≠i1→c≠i2→h.get? c=some o→h'.get? c=some o
theorem Bp8 {b:Bool}{z TI TO i1 i2 l1 l2:Addr}{k:Nat}{xs ys:Array Value}{p q:Value}{Q:Option Value→Shared→Prop}(hh:A.handled=none)(D:ZipApart z TI TO i1 i2 l1 l2)
  (hz:IsZip s.heap z TI TO .none)(hTI:IsPair s.heap TI (.ref i1) (.ref i2))(hTO:IsPair s.heap TO p q)
  (h1:Ba8 b s.heap i1 l1 k)(h2:s.heap.IsListIter i2 l2 k)(hl1:Be6 b s.heap l1 xs)(hl2:s.heap.IsList l2 ys)
  (hQ:∀x y,xs[k]?=some x→ys[k]?=some y→∀h' T,s.heap.get? T=none→IsZip h' z TI TO (rawInt T)→IsPair h' TO x y→Ba8 b h' i1 l1 (k+1)→h'.IsListIter i2 l2 (k+1)→IsPair h' T x y→Zk z TO i1 i2 s.heap h'→Q (some (.ref T)) {s with heap:=h'})
  (hN:xs[k]?=none∨ys[k]?=none→∀h',Zk z TO i1 i2 s.heap h'→(∃o,h'.get? TO=some o)→Q none {s with heap:=h'}):wpAny (model pw w) A (pyNext (.ref z)) Q E s:=by
 have hT:s.TypeIs (.ref z) "zip":=⟨_,hz,rfl⟩
 refine wpAny_bind (wpAny_attempt (wpAny_callSpecial?_slot (name:=Str.ofString "__next__") hT F.slot_zip_next (wpAny_call_entry F.slot_zip_next hT F.entry_zip_next ?_ (F.args_zip_next_1 _))))
 have stop:∀(h':Heap) (e:Addr),(xs[k]?=none∨ys[k]?=none)→Zk z TO i1 i2 s.heap h'→(∃o,h'.get? TO=some o)→(∃o,h'.get? e=some o∧o.cls = .type "StopIteration")→
   wpAny (model pw w) A (do if ← isInstance (.ref e) (.type "StopIteration") then return none else throw (.ref e)) Q E {s with heap:=h'}:=λh' e hn hk ht ⟨o,ho,hc⟩=>
  wpAny_bind (wpAny_isInstance (T:="StopIteration") (b:=true) ⟨o,ho,hc⟩ isSubtype_stop (wpAny_pure (hN hn h' hk ht)))
 show wpAny _ _ (field (.ref z) 2>>=_) _ _ _
 refine wpAny_bind (wpAny_field hz rfl (x:=.bool false) rfl ?_)
 refine wpAny_bind (wpAny_field hz rfl (x:=.ref TI) rfl (wpAny_bind (wpAny_seqItems hTI rfl ?_)))
 refine wpAny_bind ?_
 refine wpAny_bind (wpAny_field hz rfl (x:=.none) rfl (wpAny_pure ?_))
 refine wpAny_bind (wpAny_rule (wpAny_bind (wpAny_field hz rfl (x:=.ref TO) rfl (wpAny_bind (wpAny_setField_rec hz (by simp) λg1 z1 e1=>?_)))))
 have k1:Zk z TO i1 i2 s.heap g1:=λc o c1 u0 u0 u0 e=>e1.extBut _ _ c1 e
 refine wpAny_bind ?_
 simp only [List.zipIdx_cons,List.zipIdx_nil,List.forIn_cons,List.forIn_nil]
 refine wpAny_bind (wpAny_bind (wpAny_onRaise ?_))
 have a1:Ba8 b g1 i1 l1 k:=h1.to λo e=>e1.extBut _ _ D.i1z e
 have b1:Be6 b g1 l1 xs:=hl1.to λo e=>e1.extBut _ _ D.l1z e
 cases hx:xs[k]? with
 | none=>
  refine wpAny_bind (An3 hh a1 b1 hx λg2 e e2 he=>?_)
  obtain ⟨oe,hoe,hce⟩:=he
  have z2:IsZip g2 z TI TO .ellipsis:=e2 _ _ D.i1z.symm z1
  have nz:e≠z:=λx=>by subst x;replace hoe:=z2.symm.trans hoe;(replace hoe:=A9 hoe;subst hoe);simp at hce
  refine wpAny_setField_rec z2 (by simp) λg3 u0 e3=>stop g3 e (.inl hx) (λc o c1 c2 c3 c4 q=>e3.extBut _ _ c1 (e2 _ _ c3 (k1 c o c1 c2 c3 c4 q))) ⟨_,e3.extBut _ _ D.TOz (e2 _ _ D.TOi1 (e1.extBut _ _ D.TOz hTO))⟩ ⟨oe,e3.extBut _ _ nz hoe,hce⟩
 | some x=>
  refine wpAny_bind (Bm3 a1 b1 hx λg2 a2 e2=>wpAny_pure ?_)
  refine wpAny_bind (wpAny_seqItems (e2.extBut _ _ D.TOi1 (e1.extBut _ _ D.TOz hTO)) rfl (wpAny_bind (wpAny_updateSeq_pair (e2.extBut _ _ D.TOi1 (e1.extBut _ _ D.TOz hTO)) λg3 t3 e3=>?_)))
  have z3:IsZip g3 z TI TO .ellipsis:=e3.extBut _ _ D.TOz.symm (e2.extBut _ _ D.i1z.symm z1)
  have k3:Zk z TO i1 i2 s.heap g3:=λc o c1 c2 c3 c4 q=>e3.extBut _ _ c2 (e2.extBut _ _ c3 (k1 c o c1 c2 c3 c4 q))
  refine wpAny_bind (wpAny_letGo (wpAny_pure (wpAny_bind (wpAny_bind (wpAny_onRaise ?_)))))
  have a3:g3.IsListIter i2 l2 k:=((h2.extBut e1.extBut D.i2z).extBut e2.extBut D.i12.symm).extBut e3.extBut D.TOi2.symm
  have b3:g3.IsList l2 ys:=((hl2.extBut e1.extBut D.l2z).extBut e2.extBut D.l2i1).extBut e3.extBut D.l2TO
  cases hy:ys[k]? with
  | none=>
   refine wpAny_bind (wpAny_nextOf_list_end hh a3 b3 hy λg4 e e4 he=>?_)
   obtain ⟨oe,hoe,hce⟩:=he
   have z4:IsZip g4 z TI TO .ellipsis:=e4 _ _ D.i2z.symm z3
   have nz:e≠z:=λx=>by subst x;replace hoe:=z4.symm.trans hoe;cases hoe;simp at hce
   refine wpAny_setField_rec z4 (by simp) λg5 u0 e5=>stop g5 e (.inr hy) (λc o c1 c2 c3 c4 q=>e5.extBut _ _ c1 (e4 _ _ c4 (k3 c o c1 c2 c3 c4 q))) ⟨_,e5.extBut _ _ D.TOz (e4 _ _ D.TOi2 t3)⟩ ⟨oe,e5.extBut _ _ nz hoe,hce⟩
  | some y=>
   refine wpAny_bind (wpAny_nextOf_list_item a3 b3 hy λg4 a4 e4=>wpAny_pure ?_)
   have t4:IsPair g4 TO x q:=e4.extBut _ _ D.TOi2 t3
   refine wpAny_bind (wpAny_seqItems t4 rfl (wpAny_bind (wpAny_updateSeq_pair t4 λg5 t5 e5=>?_)))
   replace t5:IsPair g5 TO x y:=t5
   refine wpAny_bind (wpAny_letGo (wpAny_pure (wpAny_pure (wpAny_bind (wpAny_seqItems t5 rfl (wpAny_bind (wpAny_newTuple ?_)))))))
   have z5:IsZip g5 z TI TO .ellipsis:=e5.extBut _ _ D.TOz.symm (e4.extBut _ _ D.i2z.symm z3)
   have k5:Zk z TO i1 i2 s.heap g5:=λc o c1 c2 c3 c4 q=>e5.extBut _ _ c2 (e4.extBut _ _ c4 (k3 c o c1 c2 c3 c4 q))
   have i5:Ba8 b g5 i1 l1 (k+1):=a2.to λo q=>e5.extBut _ _ D.TOi1.symm (e4.extBut _ _ D.i12 (e3.extBut _ _ D.TOi1.symm q))
   have j5:g5.IsListIter i2 l2 (k+1):=a4.extBut e5.extBut D.TOi2.symm
   have sz:g5.objs.size=s.heap.objs.size:=by simp only [e5.1,e4.1,e3.1,e2.1,e1.1]
   have dead:s.heap.get? g5.objs.size=none:=by refine Eq.trans (congrArg _ sz) ?_;exact Ac2 _
   show wpAny _ _ (Builtin.SmallTypes.ownedTupleHandOut (.ref z) (.ref g5.objs.size)>>=_) _ _ _
   refine wpAny_bind ?_
   unfold Builtin.SmallTypes.ownedTupleHandOut
   have z6:IsZip (g5.push {cls:=.type "tuple",data:=.seq #[x,y]}) z TI TO .ellipsis:=Heap.get?_push_of_some _ z5
   refine wpAny_bind (wpAny_setField_rec z6 (by simp) λg7 z7 e7=>?_)
   replace z7:IsZip g7 z TI TO (rawInt g5.objs.size):=z7
   refine wpAny_setField_rec z7 (by simp) λg8 z8 e8=>wpAny_pure ⟨_,rfl,wpAny_pure ?_⟩
   replace z8:IsZip g8 z TI TO (rawInt g5.objs.size):=z8
   have up:∀c o,c≠z→g5.get? c=some o→g8.get? c=some o:=λc o c1 q=>e8.extBut _ _ c1 (e7.extBut _ _ c1 (Heap.get?_push_of_some _ q))
   have T8:IsPair g8 g5.objs.size x y:=e8.extBut _ _ (Nat.ne_of_gt (Heap.lt_size z5)) (e7.extBut _ _ (Nat.ne_of_gt (Heap.lt_size z5)) (Heap.get?_push_size _ rfl))
   exact hQ x y hx hy g8 _ dead z8 (up _ _ D.TOz t5) (i5.to λo q=>up _ o D.i1z q) (j5.at λo q=>up _ o D.i2z q) T8 λc o c1 c2 c3 c4 q=>up c o c1 (k5 c o c1 c2 c3 c4 q)
end
section
variable {w:World}{G:Top}{K:Frag}{g0:Heap}{mg mb:Str→Option Value}{env:Env}{c:EC}{A:Around}{as:List Addr}{st st1 st2 st':St}{s:Shared}{M n:Nat}{R:Rec}
noncomputable def Bb1:List String:=["enumerate","zip","dict_itemiterator","dict_reverseitemiterator","odict_iterator","itertools.zip_longest","itertools.pairwise"]
structure Own1 (h:Heap)(I:Addr)(own:List Addr)(o:Obj)(T:String):Prop where
 own:own = [I]
 at_:h.get? I=some o
 cls:o.cls = .type T
 data:∃vs,o.data = .fields vs
 ni:¬ Imm o
 no:Bb1.contains T=false
theorem ItR.own_ni {h:Heap}{it:SIt}{I:Addr}{own:List Addr}(x:ItR w as h it I own)(hz:Ah8 it=false):∃o T,Own1 h I own o T:=by
 have mk:∀{o:Obj} {T:String} {vs:Array Value},own = [I]→h.get? I=some o→o.cls = .type T→o.data = .fields vs→T≠"tuple"→T≠"frozenset"→T≠"range"→Bb1.contains T=false→∃o T,Own1 h I own o T:=
  λe ho hc hd h1 h2 h3 h4=>⟨_,_,e,ho,hc,⟨_,hd⟩,Ak3 hc h1 h2 h3,h4⟩
 cases it with
 | tup l=>obtain ⟨e,t,vs,i,⟨o,ho,hc,hd⟩,_⟩:=x;exact mk e ho hc hd (by decide) (by decide) (by decide) (by decide)
 | lst k i=>obtain ⟨e,a,_,⟨o,ho,hc,hd⟩⟩:=x;exact mk e ho hc hd (by decide) (by decide) (by decide) (by decide)
 | rng i m=>exact mk (T:="range_iterator") x.1 x.2 rfl rfl (by decide) (by decide) (by decide) (by decide)
 | keys=>obtain ⟨e,d,ep,_,⟨o,ho,hc,hd⟩,_⟩:=x;exact mk e ho hc hd (by decide) (by decide) (by decide) (by decide)
 | _=>exact noB hz
theorem Own1.all {h:Heap}{I:Addr}{own:List Addr}{o:Obj}{T:String}(x:Own1 h I own o T){P:Addr→Prop}(p:P I):∀a∈own,P a:=λa m=>by
 rw [x.own] at m;exact List.mem_singleton.mp m▸p
theorem In.side {h h':Heap}{own:List Addr}(x:In w g0 env c as st h)(ap:Aj3 g0 env.locals as own)(kp:∀b o,b∉own→h.get? b=some o→h'.get? b=some o)(im:B2 h h')(hl:Bk7 h h'):In w g0 env c as st h':=
 ⟨⟨x.hr.len,x.hr.nd,x.hr.lo,λb o e=>kp b o (λm=>no1 ((ap.base b m).symm.trans e)) (x.hr.base b o e),λj p e=>(x.hr.at_ j p e).elim λa r=>
  ⟨a,r.1,r.2.mono im ⟨[],(List.append_nil _).symm⟩ λob e'=>kp a ob (λm=>ap.as a m (List.mem_of_getElem? r.1)) e'⟩,x.hr.hidL hl⟩,x.fr.keep (λo e=>kp _ _ ap.fr e) im ⟨[],(List.append_nil _).symm⟩,x.off,x.lo,x.cells⟩
theorem Bt0 {h h':Heap}{own:List Addr}(ni:∀a∈own,∀o,h.get? a=some o→¬ Imm o)(kp:∀b o,b∉own→h.get? b=some o→h'.get? b=some o):B2 h h':=λa o e i u0=>by
 refine kp a o (λm=>?_) e
 exact ni a m o e i
theorem Ap1 {h h':Heap}{own:List Addr}(hh:∀a∈own,a∉Hid.off)(kp:∀b o,b∉own→h.get? b=some o→h'.get? b=some o):Bk7 h h':=λa m ⟨o,e⟩=>⟨o,kp a o (λq=>hh a q m) e⟩
theorem Aj7.side {h h':Heap}{own:List Addr}{L:Addr}(kp:∀b o,b∉own→h.get? b=some o→h'.get? b=some o)(im:B2 h h'):Aj7 own L as h as h':=
 ⟨⟨[],(List.append_nil _).symm,λu0 h=>(nomatch h)⟩,λa o e m=>⟨o,kp a o m e⟩,λa o e u0 u0 m=>kp a o m e,im⟩
theorem Aj7.of {h h':Heap}{as':List Addr}{own:List Addr}{L:Addr}(x:Stp (some L) as h as' h'):Aj7 own L as h as' h':=
 ⟨x.ext,λa o e u0=>x.live a o e,λa o e n1 n2 u0=>x.keep a o e n1 (λq=>n2 (Option.some.inj q).symm),x.imm⟩
theorem Aj7.trans {h₁ h₂ h₃:Heap}{as₁ as₂ as₃:List Addr}{own:List Addr}{L:Addr}(x:Aj7 own L as₁ h₁ as₂ h₂)(y:Aj7 own L as₂ h₂ as₃ h₃)(ow2:∀a∈own,∃o,h₂.get? a=some o):Aj7 own L as₁ h₁ as₃ h₃:=by
 refine oEA (x.ext) λns e l=>?_
 refine oEA (y.ext) λms e' l'=>?_
 refine ⟨⟨ns++ms,by rw [e',e,List.append_assoc],λa ha=>?_⟩,λa o e m=>(x.live a o e m).elim λo' e'=>y.live a o' e' m,λa o ho hn hL hm=>y.keep a o (x.keep a o ho hn hL hm) (λhm'=>?_) hL hm,x.imm.trans y.imm⟩
 ·refine (List.mem_append.mp ha).elim (λh=>?_) λh=>?_
  ·exact l a h
  ·cases q:h₁.get? a with
   | none=>rfl
   | some o=>exact (x.live a o q λm=>(ow2 a m).elim λo' q'=>no1 ((l' a h).symm.trans q')).elim λo' q'=>no1 ((l' a h).symm.trans q')
 ·rw [e] at hm'
  exact (List.mem_append.mp hm').elim hn λh=>no1 ((l a h).symm.trans ho)
theorem Stp.behind {h h₁ h':Heap}{as':List Addr}{own:List Addr}{L:Addr}(k:∀b o,h.get? b=some o→h₁.get? b=some o)(dead:∀a∈own,h.get? a=none)(x:Aj7 own L as h₁ as' h'):Stp (some L) as h as' h':=by
 have hno:∀a o,h.get? a=some o→a∉own:=λa o e m=>no1 ((dead a m).symm.trans e)
 refine oEA (x.ext) λns e l=>?_
 refine ⟨⟨ns,e,λa ha=>?_⟩,λa o e=>x.live a o (k a o e) (hno a o e),λa o e n1 n2=>x.keep a o (k a o e) n1 (λq=>n2 (q▸rfl)) (hno a o e),(B2.of_keep k).trans x.imm⟩
 cases q:h.get? a with
 | none=>rfl
 | some o=>exact no1 ((l a ha).symm.trans (k a o q))
theorem Aj3.step {h h':Heap}{as':List Addr}{own:List Addr}{L:Addr}(x:Aj3 g0 L as own)(ow:∀a∈own,∃o,h.get? a=some o)(S:Stp (some L) as h as' h'):Aj3 g0 L as' own:=
 ⟨λa m q=>S.ext.elim λns l=>(List.mem_append.mp (l.1▸q)).elim (x.as a m) λq=>(ow a m).elim λo ho=>no1 ((l.2 a q).symm.trans ho),x.fr,x.base⟩
theorem go_s {it:SIt}(hz:Ah8 it=false){I:Addr}{own:List Addr}(x:ItR w as s.heap it I own){t:Expr}{v:Value}{Q:Unit→Shared→Prop}{E:Value→Shared→Prop}(h:Q () s):wpAny (model pw w) A (letOwnedTupleGo t (.ref I) v) Q E s:=by
 refine oEE (x.own_ni hz) λo T X=>?_
 obtain ⟨vs,hd⟩:=X.data
 have hb:=X.no
 unfold Bb1 at hb
 cases t with
 | Tuple es ctx=>
  cases v with
  | ref a=>
   refine wpAny_bind (wpAny_load X.at_ ?_)
   rw [X.cls,hd]
   simp only [hb,Bool.false_and,Bool.false_eq_true,if_false]
   exact wpAny_pure h
  | _=>exact wpAny_pure h
 | List es ctx=>
  cases v with
  | ref a=>
   refine wpAny_bind (wpAny_load X.at_ ?_)
   rw [X.cls,hd]
   simp only [hb,Bool.false_and,Bool.false_eq_true,if_false]
   exact wpAny_pure h
  | _=>exact wpAny_pure h
 | _=>exact wpAny_pure h
theorem Be1 {x:X A8}{g f:A8}{ob:List Prop}{h:Heap}{y:Flow}(e:Dy6 x g st=some (f,st',ob))(vy:FlR as h g y){more:Prop}{RR:Flow→Prop}(hm:x st=some (f,st',ob)→more)(hr:∀z,st'=st→FlR as h f z→RR z):
  (match (generalizing:=false) y with | .next | .cont=>more | .brk=>RR .next | .ret v=>RR (.ret v)):=by
 cases vy with
 | next=>exact hm e
 | cont=>exact hm e
 | brk=>revert hr;exact A4 e λhr=>hr _ rfl .next
 | ret v x hv=>revert hr;exact A4 e λhr=>hr _ rfl (.ret v x hv)
theorem whl_s (S:Snd w K g0 M n R){t:Expr}{b:List Stmt}{f:A8}{ob:List Prop}(e:Cb7 R c t b st=some (f,st',ob))(hob:All ob)(O:EOk env c)(ok:AOk A (M+4*n))(I:In w g0 env c as st s.heap)
  (RR:Result→Shared→Prop)(k:∀as' h' tk x,In w g0 env c as' st' h'→Stp (some env.locals) as s.heap as' h'→FlR as' h' f x→RR (.ok x) {s with heap:=h',toks:=tk}):codeAny (model pw w) A (.whileLoop t b [] env) RR s:=by
 unfold Cb7 at e
 revert hob;refine B5 e ?_;clear e;intro q st1 o1 o2 h1 e hob
 refine Bv7 ((S.tr h1 hob.left O ok I) _ _ λas1 h1' tk1 x i1 S1 vx=>?_)
 refine (show x=q from vx)▸?_
 cases q with
 | false=>
  revert k;refine A4 e λk=>?_
  exact wpAny_execs_nil (k as1 h1' tk1 _ i1 S1 .next)
 | true=>
  revert hob;refine B5 e ?_;clear e;intro g st2 o3 o4 h2 e hob
  refine S.exs h2 hob.right.left O ok (s:={s with heap:=h1',toks:=tk1}) i1 _ _ λas2 h2' tk2 y i2 S2 vy=>?_
  refine Be1 (x:=R.whl c t b) e vy (RR:=λz=>RR (.ok z) _) (λe=>S.whl e hob.right.right O ok (s:={s with heap:=h2',toks:=tk2}) i2 RR λas3 h3 tk3 z i3 S3 vz=>k as3 h3 tk3 z i3 ((S1.trans S2).trans S3) vz)
   λz q vz=>k as2 h2' tk2 z (q▸i2) (S1.trans S2) vz
theorem forL_s (S:Snd w K g0 M n R){t:Expr}{it:SIt}(hz:Ah8 it=false){b:List Stmt}{f:A8}{ob:List Prop}(e:Ax7 R c t it b st=some (f,st',ob))(hob:All ob){I:Addr}{own:List Addr}(O:EOk env c)(ok:AOk A (M+4*n))(i0:In w g0 env c as st s.heap)
  (hit:ItR w as s.heap it I own)(ap:Aj3 g0 env.locals as own)(hh:∀a∈own,a∉Hid.off)(RR:Result→Shared→Prop)
  (k:∀as' h' tk x,In w g0 env c as' st' h'→Aj7 own env.locals as s.heap as' h'→FlR as' h' f x→RR (.ok x) {s with heap:=h',toks:=tk}):codeAny (model pw w) A (.forLoop t (.ref I) b [] env) RR s:=by
 unfold Ax7 at e
 refine Aa3 e ?_;clear e;intro _ e
 revert hob;refine B5 e ?_;clear e;intro q st1 o1 o2 h1 e hob
 refine oAAA (Ch7 (w:=w) (g0:=g0) (n:=M+4*n) hz h1 hob.left) λhp1 hp2 hq nx=>?_
 have i0':In w g0 env c as st1 s.heap:=i0.same_st hp1 hp2
 refine oEE (hit.own_ni hz) λo T X=>?_
 have ni0:∀a∈own,∀o,s.heap.get? a=some o→¬ Imm o:=X.all λo e=>A9 (X.at_.symm.trans e)▸X.ni
 cases q with
 | none=>
  refine Bd4 ((nx ok i0.hr hit ap.as) _ _ λh' tk kp=>?_)
  revert k;refine A4 e λk=>?_
  have im:=Bt0 ni0 kp
  exact wpAny_execs_nil (k as h' tk _ (i0'.side ap kp im (Ap1 hh kp)) (Aj7.side kp im) .next)
 | some q=>
  refine Bd4 ((nx ok i0.hr hit ap.as) _ _ λh' tk x M hit' vx=>?_)
  have i1:=i0'.side ap M.keep M.imm (Ap1 hh M.keep)
  refine go_s (s:={s with heap:=h',toks:=tk}) hq.1 hit' ?_
  revert hob;refine B5 e ?_;clear e;intro u st2 o3 o4 h2 e hob
  revert hob;refine B5 e ?_;clear e;intro g st3 o5 o6 h3 e hob
  refine (S.asg h2 hob.right.left).2 O ok (s:={s with heap:=h',toks:=tk}) i1 vx _ _ λas2 h2' tk2 u0 i2 S2 u0=>?_
  refine S.exs h3 hob.right.right.left O ok (s:={s with heap:=h2',toks:=tk2}) i2 _ _ λas3 h3' tk3 y i3 S3 vy=>?_
  have S23:=S2.trans S3
  have al1:∀a∈own,∃o,h'.get? a=some o:=X.all (M.live _ _ X.at_)
  have hit3:=hit'.step S23 hq.2 ap.as (λa m q=>ap.fr ((Option.some.inj q)▸m))
  have S13:Aj7 own env.locals as s.heap as3 h3':=(Aj7.side M.keep M.imm).trans (Aj7.of S23) al1
  obtain ⟨o',T',X'⟩:=hit3.own_ni hq.1
  refine Be1 (x:=R.forL c t q.2 b) e vy (RR:=λz=>RR (.ok z) _)
   (λe=>S.forL e hob.right.right.right O ok (s:={s with heap:=h3',toks:=tk3}) i3 hit3 (ap.step al1 S23) (λu0=>hh) RR λas4 h4 tk4 z i4 S4 vz=>k as4 h4 tk4 z i4 (S13.trans S4 (X'.all ⟨_,X'.at_⟩)) vz)
   λz q vz=>k as3 h3' tk3 z (q▸i3) S13 vz
end
section
variable {w:World}{G:Top}{K:Frag}{g0:Heap}{mg mb:Str→Option Value}{env:Env}{c:EC}{A:Around}{as:List Addr}{st st1 st2 st':St}{s:Shared}{M n:Nat}{R:Rec}
noncomputable abbrev Bf2 (ifs:List Expr)(b:Bool)(env:Env):Sem Bool:=forIn ifs b λc r=>if r=true then (do let ok ← isTrue c env (eval c env);pure (ForInStep.yield ok)) else pure (ForInStep.yield r)
theorem Cc7 {env:Env}(ifs:List Expr):Bf2 ifs false env=pure false:=by
 induction ifs with
 | nil=>exact List.forIn_nil
 | cons e r ih=>
  unfold Bf2
  rw [List.forIn_cons,if_neg Bool.false_ne_true,pure_bind]
  exact ih
theorem Dm6 (S:Snd w K g0 M n R)(ifs:List Expr):∀{st st':St} {as:List Addr} {s:Shared} {b:Bool} {ob:List Prop} (e:Dm7 R c ifs st=some (b,st',ob)) (hob:All ob) (O:EOk env c) (ok:AOk A (M+4*n)) (I:In w g0 env c as st s.heap),
  Tr w g0 env c A as s st' (PE b) (Bf2 ifs true env):=by
 induction ifs with
 | nil=>
  intro st st' as s b ob e hob O ok I
  refine A4 e λQ E k=>?_
  exact wpAny_pure (k as s.heap s.toks true I (Stp.refl _ _ _) rfl)
 | cons x r ih=>
  intro st st' as s b ob e hob O ok I
  revert hob;refine B5 e ?_;clear e;intro t st1 o1 o2 h1 e hob
  unfold Bf2
  rw [List.forIn_cons]
  refine λQ E k=>wpAny_bind ?_
  refine wpAny_bind (S.tr h1 hob.left O ok I _ _ λas1 h1' tk1 y i1 S1 vy=>wpAny_pure ?_)
  refine (show y=t from vy)▸?_
  cases t with
  | true=>exact ih e hob.right O ok (s:={s with heap:=h1',toks:=tk1}) i1 Q E λas2 h2 tk2 z i2 S2 p=>k as2 h2 tk2 z i2 (S1.trans S2) p
  | false=>
   revert k;refine A4 e λk=>?_
   show wpAny _ _ (Bf2 r false env) _ _ _
   rw [Cc7]
   exact wpAny_pure (k as1 h1' tk1 _ i1 S1 rfl)
theorem Aj7.wider {h h':Heap}{as':List Addr}{own own':List Addr}{L:Addr}(x:Aj7 own L as h as' h')(h1:∀a∈own,a∈own'):Aj7 own' L as h as' h':=
 ⟨x.ext,λa o e m=>x.live a o e λq=>m (h1 a q),λa o e n1 n2 m=>x.keep a o e n1 n2 λq=>m (h1 a q),x.imm⟩
theorem Aj3.hd {D:Addr}{own:List Addr}{L:Addr}(x:Aj3 g0 L as (D::own)):Aj3 g0 L as [D]:=
 ⟨λa m=>List.mem_singleton.mp m▸x.as D List.mem_cons_self,λm=>x.fr (List.mem_singleton.mp m▸List.mem_cons_self),λa m=>List.mem_singleton.mp m▸x.base D List.mem_cons_self⟩
theorem Aj3.tl {D:Addr}{own:List Addr}{L:Addr}(x:Aj3 g0 L as (D::own)):Aj3 g0 L as own:=
 ⟨λa m=>x.as a (List.mem_cons_of_mem _ m),λm=>x.fr (List.mem_cons_of_mem _ m),λa m=>x.base a (List.mem_cons_of_mem _ m)⟩
theorem all_cons {D:Addr}{own:List Addr}{P:Addr→Prop}(h:P D)(t:∀a∈own,P a):∀a∈D::own,P a:=λa m=>(List.mem_cons.mp m).elim (λq=>q▸h) (t a)
structure Cr4 (w:World)(g0:Heap)(L:Addr)(as:List Addr)(h:Heap)(it:SIt)(I:Addr)(own:List Addr)(D:Addr)(acc:List SV):Prop where
 it_:ItR w as h it I own
 ap:Aj3 g0 L as (D::own)
 nD:D∉own
 sh:∀a∈own,a∉Hid.off
 z:Ah8 it=false
 acc_:∃vs ep,h.get? D=some (Ar0 vs ep)∧VRs as h acc.reverse vs
theorem Cr4.al {h:Heap}{L:Addr}{it:SIt}{I D:Addr}{own:List Addr}{acc:List SV}(x:Cr4 w g0 L as h it I own D acc):∀a∈D::own,∃o,h.get? a=some o:=by
 refine oEE (x.it_.own_ni x.z) λo T X=>?_
 refine oEEA (x.acc_) λvs ep hd u0=>?_
 exact all_cons ⟨_,hd⟩ (X.all ⟨_,X.at_⟩)
theorem Cr4.step {h h':Heap}{as':List Addr}{L:Addr}{it:SIt}{I D:Addr}{own:List Addr}{acc:List SV}(x:Cr4 w g0 L as h it I own D acc)(hk:Az7 it=false)(S:Stp (some L) as h as' h'):Cr4 w g0 L as' h' it I own D acc:=by
 refine oEEA (x.acc_) λvs ep hd hv=>?_
 exact ⟨x.it_.step S hk x.ap.tl.as (λa m q=>x.ap.tl.fr (Option.some.inj q▸m)),x.ap.step x.al S,x.nD,x.sh,x.z,vs,ep,S.keep D _ hd (x.ap.as D List.mem_cons_self) (λq=>x.ap.fr (Option.some.inj q▸List.mem_cons_self)),hv.step S⟩
theorem Cr4.add {h h':Heap}{L:Addr}{it:SIt}{I D:Addr}{own:List Addr}{acc:List SV}{z:SV}{y:Value}{vs:List Value}{ep:Nat}(x:Cr4 w g0 L as h it I own D acc)(hk:Az7 it=false)(hd:h.get? D=some (Ar0 vs ep))(hv:VRs as h acc.reverse vs)(vz:VR as h z y)
  (hs:Heap.SameBut D h h')(hd':h'.get? D=some (Ar0 (vs++[y]) (ep+1))):Cr4 w g0 L as h' it I own D (z::acc):=
 have im:B2 h h':=B2.same hs hd (Ah0 rfl)
 ⟨x.it_.keep0 im (λa m o e=>(hs.2 a λq=>x.nD (q▸m)).trans e) ⟨[],(List.append_nil _).symm⟩ λq=>B3 (hk.symm.trans q),x.ap,x.nD,x.sh,x.z,_,_,hd',by
  rw [List.reverse_cons];exact (hv.same im).append (VRs.cons (vz.same im) VRs.nil)⟩
theorem cmpL_s (S:Snd w K g0 M n R){x:Str}{elt:Expr}{ifs:List Expr}{it:SIt}{acc l:List SV}{ob:List Prop}(e:Cn9 R c x elt ifs it acc st=some (l,st',ob))(hob:All ob){I:Addr}{own:List Addr}{D:Addr}(O:EOk env c)(ok:AOk A (M+4*n))(i0:In w g0 env c as st s.heap)
  (C:Cr4 w g0 env.locals as s.heap it I own D acc){px:Pos}{iter:Expr}{scope:Scope}{pos:Pos}
  (RR:Result→Shared→Prop)(k:∀as' h' tk vs' ep',In w g0 env c as' st' h'→Aj7 (D::own) env.locals as s.heap as' h'→D∉as'→h'.get? D=some (Ar0 vs' ep')→VRs as' h' l.reverse vs'→RR (.ok .next) {s with heap:=h',toks:=tk}):
   codeAny (model pw w) A (.compLoop (.ListComp elt [⟨.Name x px,iter,ifs,0⟩] scope pos) 0 (.ref I) (.ref D) env) RR s:=by
 unfold Cn9 at e
 revert hob;refine B5 e ?_;clear e;intro q st1 o1 o2 h1 e hob
 refine oAAA (Ch7 (w:=w) (g0:=g0) (n:=M+4*n) C.z h1 hob.left) λhp1 hp2 hq nx=>?_
 have i0':In w g0 env c as st1 s.heap:=i0.same_st hp1 hp2
 refine oEE (C.it_.own_ni C.z) λo T X=>?_
 have ni0:∀a∈own,∀o,s.heap.get? a=some o→¬ Imm o:=X.all λo e=>A9 (X.at_.symm.trans e)▸X.ni
 have nx:=nx ok i0.hr C.it_ C.ap.tl.as
 refine oEEA (C.acc_) λvs ep hd hv=>?_
 cases q with
 | none=>
  refine Bj0 (nx _ _ λh' tk kp=>?_) (λu0=>rfl)
  have im:=Bt0 ni0 kp
  revert k;refine A4 e λk=>?_
  exact k as h' tk _ _ (i0'.side C.ap.tl kp im (Ap1 C.sh kp)) ((Aj7.side kp im).wider λa m=>List.mem_cons_of_mem _ m) (C.ap.as D List.mem_cons_self) (kp _ _ C.nD hd) (hv.same im)
 | some q=>
  refine Bj0 (nx _ _ λh' tk y Mv hit' vx=>?_) (λu0=>rfl)
  have i1:=i0'.side C.ap.tl Mv.keep Mv.imm (Ap1 C.sh Mv.keep)
  have C1:Cr4 w g0 env.locals as h' q.2 I own D acc:=⟨hit',C.ap,C.nD,C.sh,hq.1,vs,ep,Mv.keep _ _ C.nD hd,hv.same Mv.imm⟩
  have S1:Aj7 (D::own) env.locals as s.heap as h':=(Aj7.side Mv.keep Mv.imm).wider λa m=>List.mem_cons_of_mem _ m
  revert hob;refine B5 e ?_;clear e;intro u st2 o3 o4 h2 e hob
  revert hob;refine B5 e ?_;clear e;intro t st3 o5 o6 h3 e hob
  refine wpAny_bind (wpAny_standAt (wpAny_bindName (Bl5 (s:={s with heap:=h',toks:=tk}) h2 O i1 vx _ _ λas2 h2' tk2 u0 i2 S2 u0=>?_)))
  refine Dm6 S ifs h3 hob.right.right.left O ok (s:={s with heap:=h2',toks:=tk2}) i2 _ _ λas3 h3' tk3 tb i3 S3 vt=>?_
  simp only [show tb=t from vt]
  have C3:=C1.step hq.2 (S2.trans S3)
  have W13:Aj7 (D::own) env.locals as s.heap as3 h3':=S1.trans (Aj7.of (S2.trans S3)) C1.al
  cases t with
  | false=>
   refine oEEA (C3.acc_) λvs3 ep3 hd3 hv3=>?_
   exact S.cmpL e hob.right.right.right O ok (s:={s with heap:=h3',toks:=tk3}) i3 C3.it_ C3.ap C3.nD C3.sh hd3 hv3 hq.1 RR λas4 h4 tk4 vs' ep' i4 S4 d1 d2 d3=>k as4 h4 tk4 vs' ep' i4 (W13.trans S4 C3.al) d1 d2 d3
  | true=>
   rw [if_pos rfl]
   revert hob;refine B5 e ?_;clear e;intro z st4 o7 o8 h4 e hob
   refine Ad6 e ?_;clear e;intro hsm e
   refine (S.ev h4 hob.right.right.right.left).2 O ok (s:={s with heap:=h3',toks:=tk3}) i3 _ _ λas4 h4' tk4 xv i4 S4 vz=>?_
   have C4:=C3.step hq.2 S4
   obtain ⟨vs4,ep4,hd4,hv4⟩:=C4.acc_
   refine append_at (its:=vs4.toArray) (n:=ep4) hd4 (λh5 hs ho5=>?_) (by simp only [List.size_toArray,← hv4.1,List.length_reverse];exact Aa6 hsm)
   have hd5:h5.get? D=some (Ar0 (vs4++[xv]) (ep4+1)):=by rw [ho5,List.push_toArray]
   have C5:=C4.add hq.2 hd4 hv4 vz hs hd5
   have kp5:∀b o,b∉[D]→h4'.get? b=some o→h5.get? b=some o:=λb o m e=>(hs.2 b λq=>m (List.mem_singleton.mpr q)).trans e
   have im5:B2 h4' h5:=B2.same hs hd4 (Ah0 rfl)
   have i5:=i4.side C4.ap.hd kp5 im5 (Bk7.same hs ⟨_,ho5⟩)
   obtain ⟨vs5,ep5,hd5,hv5⟩:=C5.acc_
   exact S.cmpL e hob.right.right.right.right O ok (s:={s with heap:=h5,toks:=tk4}) i5 C5.it_ C5.ap C5.nD C5.sh hd5 hv5 hq.1 RR λas6 h6 tk6 vs' ep' i6 S6 d1 d2 d3=>k as6 h6 tk6 vs' ep' i6 (((W13.trans (Aj7.of S4) C3.al).trans ((Aj7.side kp5 im5).wider (λa m=>List.mem_singleton.mp m▸List.mem_cons_self)) C4.al).trans S6 C5.al) d1 d2 d3
end
section
variable {w:World}{G:Top}{K:Frag}{g0:Heap}{mg mb:Str→Option Value}{env:Env}{c:EC}{A:Around}{as:List Addr}{st st1 st2 st':St}{s:Shared}{M n:Nat}{R:Rec}
theorem Ce2 {it:SIt}{I:Addr}{own:List Addr}{Q:Value→Shared→Prop}{E:Value→Shared→Prop}(hz:Ah8 it=false)(x:ItR w as s.heap it I own)(h:Q (.ref I) s):wpAny (model pw w) A (pyIter (.ref I)) Q E s:=by
 cases it with
 | tup l=>obtain ⟨_,t,vs,i,hi,_⟩:=x;exact wpAny_pyIter_tupleiter hi h
 | lst k i=>obtain ⟨_,a,_,hi⟩:=x;exact wpAny_pyIter_listiter hi h
 | rng i m=>obtain ⟨_,hi⟩:=x;exact wpAny_pyIter_rangeiter hi h
 | keys=>obtain ⟨_,d,ep,_,hi,_⟩:=x;exact wpAny_pyIter_keyiter hi h
 | _=>exact noB hz
theorem Ak2 {e:Expr}(h:By1 e=true)(env:Env)(x:Value):foldedSetIterable e env x=pure x:=by
 cases e<;>first | rfl | exact B3 h
noncomputable def clo (env:Env):List (Str×NameKind)→List (Str×Addr)→List (Str×Addr)
 | [],acc=>acc
 | (n,k)::r,acc=>match k with
  | .free=>clo env r ((n,(env.cells.lookup n).getD 0)::acc)
  | _=>clo env r acc
theorem Bu7 (env:Env)(f:Str×NameKind→List (Str×Addr)→Sem (ForInStep (List (Str×Addr))))(hf:∀n cs,f (n,.free) cs=(do let a ← cellOf env n;pure (ForInStep.yield ((n,a)::cs))))
  (hn:∀n k cs,k≠.free→f (n,k) cs=pure (ForInStep.yield cs)):∀(l:List (Str×NameKind)) (acc:List (Str×Addr)),(∀n,(n,NameKind.free)∈l→∃a,env.cells.lookup n=some a)→(forIn l acc f:Sem (List (Str×Addr)))=pure (clo env l acc)
 | [],acc,h=>by rw [List.forIn_nil];rfl
 | (n,k)::r,acc,h=>by
  rw [List.forIn_cons]
  have ih:=λacc=>Bu7 env f hf hn r acc λm hm=>h m (List.mem_cons_of_mem _ hm)
  by_cases hk:k = .free
  ·subst hk
   obtain ⟨a,ha⟩:=h n List.mem_cons_self
   rw [hf]
   unfold cellOf
   rw [ha]
   simp only [pure_bind]
   rw [ih]
   show _=pure (clo env r ((n,(env.cells.lookup n).getD 0)::acc))
   rw [ha];rfl
  ·refine (hn _ _ _ hk)▸?_
   simp only [pure_bind]
   rw [ih]
   cases k<;>first | rfl | exact absurd rfl hk
theorem Dj2 (env:Env)(scope:Scope)(h:∀n,(n,NameKind.free)∈scope.names→∃a,env.cells.lookup n=some a):closureFor scope env=pure (clo env scope.names []):=by
 show (forIn scope.names [] _>>=λcs=>pure cs)=_
 rw [Bu7 env _ (λn cs=>by rfl) (λn k cs hk=>by cases k<;>first | rfl | exact absurd rfl hk) scope.names [] h]
 rfl
theorem Dw8 (env:Env)(l:List (Str×NameKind)):∀(acc:List (Str×Addr)) (m:Str) (a:Addr),(m,a)∈clo env l acc→a=(env.cells.lookup m).getD 0∨(m,a)∈acc:=by
 induction l with
 | nil=>exact λacc m a h=>.inr h
 | cons p r ih=>
  obtain ⟨n,k⟩:=p
  cases k with
  | free=>
   exact λacc m a h=>(ih _ m a h).elim .inl λq=>(List.mem_cons.mp q).elim (λq=>.inl (by exact ((Ca9 q).1)▸(Ca9 q).2)) .inr
  | _=>exact ih
theorem Dw9 (env:Env)(l:List (Str×NameKind)):∀(acc:List (Str×Addr)) (p:Str×Addr),p∈acc→p∈clo env l acc:=by
 induction l with
 | nil=>exact λacc p h=>h
 | cons p r ih=>
  obtain ⟨n,k⟩:=p
  cases k with
  | free=>exact λacc p h=>ih _ p (List.mem_cons_of_mem _ h)
  | _=>exact ih
theorem clo_in (env:Env)(n:Str)(l:List (Str×NameKind)):∀(acc:List (Str×Addr)),(n,NameKind.free)∈l→(n,(env.cells.lookup n).getD 0)∈clo env l acc:=by
 induction l with
 | nil=>exact λacc h=>nomatch h
 | cons p r ih=>
  intro acc h
  obtain ⟨m,k⟩:=p
  cases k with
  | free=>exact (List.mem_cons.mp h).elim (λq=>by exact ((Ca9 q).1)▸Dw9 env r _ _ List.mem_cons_self) λq=>ih _ q
  | _=>exact ih acc ((List.mem_cons.mp h).elim (λq=>NameKind.noConfusion (Ca9 q).2) id)
theorem Bc6 {f:Str→Addr}{l:List (Str×Addr)}{n:Str}:(∀m a,(m,a)∈l→a=f m)→(n,f n)∈l→l.lookup n=some (f n):=by
 induction l with
 | nil=>exact λu0 q=>nomatch q
 | cons p r ih=>
  intro h q
  obtain ⟨m,a⟩:=p
  refine Eq.trans (List.lookup_cons) ?_
  cases e:n==m with
  | true=>simp only [eq_of_beq e,h m a List.mem_cons_self]
  | false=>exact ih (λm a q=>h m a (List.mem_cons_of_mem _ q)) ((List.mem_cons.mp q).elim (λq=>by rw [(Ca9 q).1,beq_self_eq_true] at e;exact noB e) id)
theorem Bz8 (env:Env){l:List (Str×NameKind)}{n:Str}(h:(n,NameKind.free)∈l):(clo env l []).lookup n=some ((env.cells.lookup n).getD 0):=
 Bc6 (f:=λn=>(env.cells.lookup n).getD 0) (λm a q=>(Dw8 env l [] m a q).resolve_right (by simp)) (clo_in env n l [] h)
theorem Ba4 {c:EC}{l:List (Str×NameKind)}:Ai9 c l=true→∀n,(n,NameKind.free)∈l→∃i,look c.cells n=some i:=by
 induction l with
 | nil=>exact λu0 n q=>nomatch q
 | cons p r ih=>
  intro h n q
  obtain ⟨m,k⟩:=p
  cases k with
  | free=>
   change (match look c.cells m with | some _=>Ai9 c r | none=>false)=true at h
   cases hk:look c.cells m with
   | none=>replace h:=hk▸h;exact B3 h
   | some i=>
    rw [hk] at h
    exact (List.mem_cons.mp q).elim (λq=>by exact ((Ca9 q).1)▸⟨i,hk⟩) (ih h n)
  | _=>exact ih h n ((List.mem_cons.mp q).elim (λq=>NameKind.noConfusion (Ca9 q).2) id)
theorem Ax8 {c:EC}{n:Str}{i:Nat}{l:List (Str×NameKind)}:look (Ac6 c l) n=some i→(n,NameKind.free)∈l∧look c.cells n=some i:=by
 induction l with
 | nil=>exact λh=>no1 h
 | cons p r ih=>
  intro h
  obtain ⟨m,k⟩:=p
  have tl:look (Ac6 c r) n=some i→(n,NameKind.free)∈(m,k)::r∧look c.cells n=some i:=λh=>⟨List.mem_cons_of_mem _ (ih h).1,(ih h).2⟩
  cases k with
  | free=>
   change look (match look c.cells m with | some i=>(m,i)::Ac6 c r | none=>Ac6 c r) n=_ at h
   cases hk:look c.cells m with
   | none=>replace h:=hk▸h;exact tl h
   | some j=>
    replace h:=hk▸h
    dsimp only at h
    rw [Aa7] at h
    cases q:seq m n with
    | true=>rw [q] at h;exact (Ab0.mp q)▸⟨List.mem_cons_self,h▸hk⟩
    | false=>rw [q] at h;exact tl h
  | _=>exact tl h
noncomputable abbrev relK (env:Env)(z:Str×NameKind):Str×NameKind:=match z with
 | (n,k)=>if (k==NameKind.free&&env.scope.kind == .function&&env.kindOf n==some .cell) then (n,NameKind.cell) else (n,k)
structure CmpN (env:Env)(names l:List (Str×NameKind)):Prop where
 map:names.map (relK env)=l
 none:∀n,look names n=none→look l n=none
 nc:∀z∈names,z.2≠.cell
theorem CmpN.cons {env:Env}{r l:List (Str×NameKind)}{n:Str}{k k':NameKind}(x:CmpN env r l)(hc:k≠.cell)(q:relK env (n,k)=(n,k')):CmpN env ((n,k)::r) ((n,k')::l):=
 ⟨by rw [List.map_cons,x.map,q],λm h=>by
  rw [Aa7] at h ⊢
  cases q:seq n m with
  | true=>rw [q] at h;exact no3 h
  | false=>rw [q] at h;exact x.none m h,λz hz=>(List.mem_cons.mp hz).elim (λq=>q▸hc) (x.nc z)⟩
theorem Bd7 {c:EC}{env:Env}(hk:env.scope.kind = .function)(hn:∀n,env.kindOf n=look c.names n){names:List (Str×NameKind)}:∀{l:List (Str×NameKind)},Ai0 c names=some l→CmpN env names l:=by
 induction names with
 | nil=>exact λe=>A9 e▸⟨rfl,λu0 h=>h,λu0 h=>absurd h List.not_mem_nil⟩
 | cons p r ih=>
  intro l e
  obtain ⟨n,k⟩:=p
  change (match Ai0 c r with | none=>none | some l=>match (generalizing:=false) k with
   | .free=>match look c.names n with
    | some .cell=>some ((n,.cell)::l)
    | _=>none
   | .local=>some ((n,.local)::l)
   | .globalImplicit=>some ((n,.globalImplicit)::l)
   | _=>none)=some l at e
  cases hr:Ai0 c r with
  | none=>replace e:=hr▸e;exact no1 e
  | some l'=>
   rw [hr] at e
   have I:=ih hr
   cases k with
   | free=>
    dsimp only at e
    cases hc:look c.names n with
    | none=>replace e:=hc▸e;exact no1 e
    | some k2=>
     rw [hc] at e
     cases k2 with
     | cell=>exact A9 e▸I.cons (λh=>NameKind.noConfusion h) (if_pos (by rw [hn,hc,hk];rfl))
     | _=>exact no1 e
   | «local»=>exact A9 e▸I.cons (λh=>NameKind.noConfusion h) rfl
   | globalImplicit=>exact A9 e▸I.cons (λh=>NameKind.noConfusion h) rfl
   | _=>exact no1 e
theorem Cj8 {o:Option NameKind}(h:As5 o=true):o=some .local:=by
 cases o with
 | none=>exact B3 h
 | some k=>cases k<;>first | rfl | exact B3 h
theorem Cj1 {all:List (Str×NameKind)}{l:List (Str×NameKind)}:Av8 all l=true→∀z∈l,z.2 = .local→all.lookup z.1=some .local:=by
 induction l with
 | nil=>exact λu0 z hz=>nomatch hz
 | cons p r ih=>
  intro h z hz e
  obtain ⟨n,k⟩:=p
  have tl:k≠.local→z∈r:=λhk=>(List.mem_cons.mp hz).elim (λq=>absurd e (q▸hk)) id
  cases k with
  | «local»=>
   change (match As5 (look all n) with | true=>Av8 all r | false=>false)=true at h
   cases q:As5 (look all n) with
   | false=>replace h:=q▸h;exact B3 h
   | true=>rw [q] at h;exact (List.mem_cons.mp hz).elim (λz=>by rw [z,← Bc7];exact Cj8 q) λz=>ih h _ z e
  | _=>exact ih h z (tl λh=>NameKind.noConfusion h) e
structure CmpE (c:EC)(scope:Scope)(x:Str)(cc:EC):Prop where
 kind:scope.kind = .function
 dbg:look scope.names ("__debug__":Str)=none
 locs:Av8 scope.names scope.names=true
 cells:Ai9 c scope.names=true
 cc:∃nl,Ai0 c scope.names=some nl∧cc = {names:=nl,cells:=Ac6 c scope.names}
theorem Cj9 {k:ScopeKind}(h:Ck0 k=true):k = .function:=by
 cases k<;>first | rfl | exact B3 h
theorem Bo7 {c cc:EC}{scope:Scope}{x:Str}(e:Cn8 scope c x=some cc):CmpE c scope x cc:=by
 unfold Cn8 at e
 cases hk1:Ck0 scope.kind with
 | false=>replace e:=hk1▸e;exact no1 e
 | true=>cases hk2:As5 (look scope.names x) with
  | false=>simp only [hk1,hk2] at e;exact no1 e
  | true=>cases hk3:look scope.names ("__debug__":Str) with
   | some _=>simp only [hk1,hk2,hk3] at e;exact no1 e
   | none=>cases hk4:Av8 scope.names scope.names with
    | false=>simp only [hk1,hk2,hk3,hk4] at e;exact no1 e
    | true=>cases hk5:Ai9 c scope.names with
     | false=>rw [hk1,hk2,hk3,hk4,hk5] at e;exact no1 e
     | true=>
      rw [hk1,hk2,hk3,hk4,hk5] at e
      exact (Option.map_eq_some_iff.mp e).elim λnl h=>⟨Cj9 hk1,hk3,hk4,hk5,nl,h.1,h.2.symm⟩
theorem Cn7 {h1 h3 h6:Heap}{D C I':Addr}{as1 as6:List Addr}{st6:St}{l:List SV}{vs:List Value}{ep:Nat}(i1:In w g0 env c as1 st1 h1)(kp:∀b o,h1.get? b=some o→h3.get? b=some o)(deadD:h1.get? D=none)(deadI:h1.get? I'=none)(deadC:h1.get? C=none)
  (hDC:D≠C)(hC:∃o,h3.get? C=some o)(S6:Aj7 (D::[I']) C as1 h3 as6 h6)(hr:HR w g0 as6 st6.hp h6)(d1:D∉as6)(d2:h6.get? D=some (Ar0 vs ep))(d3:VRs as6 h6 l.reverse vs):
  In w g0 env c (as6++[D]) {hp:=st6.hp++[.list l l.length],lc:=st1.lc,orc:=st6.orc} h6∧Stp (some env.locals) as1 h1 (as6++[D]) h6∧C∉as6++[D]:=by
 have own0:∀{a o},h1.get? a=some o→a∉D::[I']:=λ{a o} e=>λm=>(List.mem_cons.mp m).elim (λq=>no1 (deadD.symm.trans (q▸e))) λq=>no1 (deadI.symm.trans (List.mem_singleton.mp q▸e))
 have neC:∀{a o},h1.get? a=some o→a≠C:=λe q=>no1 (deadC.symm.trans (q▸e))
 have im:B2 h1 h6:=(B2.of_keep kp).trans S6.imm
 refine oEA (S6.ext) λns e ld=>?_
 have dead:∀a∈ns++[D],h1.get? a=none:=λa ha=>(List.mem_append.mp ha).elim (λq=>by
  cases q':h1.get? a with
  | none=>rfl
  | some o=>exact no1 ((ld a q).symm.trans (kp a o q'))) λq=>List.mem_singleton.mp q▸deadD
 have as':as6++[D]=as1++(ns++[D]):=by rw [e,List.append_assoc]
 have SF:Stp (some env.locals) as1 h1 (as6++[D]) h6:=
  ⟨⟨ns++[D],as',dead⟩,λa o e=>S6.live a o (kp a o e) (own0 e),λa o e n1 u0=>S6.keep a o (kp a o e) n1 (neC e) (own0 e),im⟩
 refine ⟨⟨hr.adopt d1 (i1.hr.free deadD).2 d2 (Ah0 rfl) (Heap.SameBut.refl ..) ⟨Nat.le_refl _,vs,ep,d2,d3.mono (B2.refl _) ⟨_,rfl⟩⟩,i1.fr.keep (λo e=>S6.keep _ o (kp _ o e) i1.off (neC e) (own0 e)) im SF.pre,λm=>?_,i1.lo,λn k q=>(i1.cells n k q).elim λa r=>⟨a,as'▸Aj2 r.1,r.2⟩⟩,SF,λm=>?_⟩
 ·rw [as'] at m
  refine oEA (i1.fr) λu0 z1 u0=>?_;obtain ⟨oL,_,_,hoL,_⟩:=z1
  exact (List.mem_append.mp m).elim i1.off λq=>no1 ((dead _ q).symm.trans hoL)
 ·refine (List.mem_append.mp m).elim (λq=>?_) λq=>hDC (List.mem_singleton.mp q).symm
  rw [e] at q
  exact (List.mem_append.mp q).elim (i1.hr.free deadC).1 λq=>hC.elim λo ho=>no1 ((ld C q).symm.trans ho)
structure CmpK (w:World)(g0:Heap)(env:Env)(c:EC)(as:List Addr)(h:Heap)(as':List Addr)(st':St)(h':Heap)(v:SV)(xv:Value)(C:Addr):Prop where
 i:In w g0 env c as' st' h'
 S:Stp (some env.locals) as h as' h'
 v:VR as' h' v xv
 off:C∉as'
 ne:C≠env.locals
 lo:g0.get? C=none
 sh:C∉Hid.off
 new:h.get? C=none
 ns:∃m,h'.Ns C m
theorem Dj0 (S:Snd w K g0 M n R)(T:Ak8 w G g0){elt:Expr}{x:Str}{px:Pos}{iter:Expr}{ifs:List Expr}{scope:Scope}{pos:Pos}{v:SV}{ob:List Prop}(e:Bi5 R c elt x iter ifs scope st=some (v,st',ob))(hob:All ob)
  (O:EOk env c)(ok:AOk A (M+4*n))(I:In w g0 env c as st s.heap){use:Option (Value→Sem Unit)}(Q:Value→Shared→Prop)(E:Value→Shared→Prop)
  (k:∀as' h' tk xv C,CmpK w g0 env c as s.heap as' st' h' v xv C→compPost (model pw w) A E use Q xv C (.ok .next) {s with heap:=h',toks:=tk})(p:Pos):
  wpAny (model pw w) A (comprehension (.ListComp elt [⟨.Name x px,iter,ifs,0⟩] scope pos) scope env p (newList []) false (eval iter env) use) Q E s:=by
 unfold Bi5 at e
 refine Aa3 e ?_;clear e;intro hns e
 refine A6 e ?_;clear e;intro cc hcc e
 revert hob;refine B5 e ?_;clear e;intro iv st1 o3 o4 h1 e hob
 revert hob;refine B5 e ?_;clear e;intro it st1' o5 o6 h2 e hob
 have hit:=Bn2 (n:=M+4*n) (g0:=g0) (w:=w) T h2
 simp only [hit.1] at e
 replace e:=putB (getB e)
 revert hob;refine B5 e ?_;clear e;intro l st2 o11 o12 h5 e hob
 replace e:=putB (getB e)
 refine Ad6 e ?_;clear e;intro hsm e
 revert k;refine A4 e ?_;clear e;intro k
 have CE:=Bo7 hcc
 obtain ⟨nl,hnl,rfl⟩:=CE.cc
 have N:=Bd7 O.kind O.names hnl
 have hfree:∀n,(n,NameKind.free)∈scope.names→∃i a,look c.cells n=some i∧as[i]?=some a∧env.cells.lookup n=some a:=λn hn=>
  (Ba4 CE.cells n hn).elim λi hi=>(I.cells n i hi).elim λa ha=>⟨i,a,hi,ha.1,ha.2⟩
 have hclos:=Dj2 env scope λn hn=>(hfree n hn).elim λu0 z=>z.elim λa z=>⟨a,z.2.2⟩
 generalize hcl:clo env scope.names []=cl at hclos
 refine wpAny_comprehension_free (use:=use) rfl (Ak2 hns env) hclos CE.kind (Cj1 CE.locs) ?_
 refine (S.ev h1 hob.left).2 O ok I _ _ λas1 h1' tk1 xv i1 S1 vx=>?_
 refine hit.2.2 ok i1.hr vx (s:={s with heap:=h1',toks:=tk1}) _ _ λh2' tk2 I' kp hI it'=>?_
 refine wpAny_newObj_type (wpAny_newFunctionEnv N.nc (λy hy=>nomatch hy) (λh3 hns3 hsb3=>?_) CE.kind)
 dsimp only at hns3 hsb3 ⊢
 generalize hH2:h2'.push {cls:=.type "list",dict:=none,data:=.seq ([]:List Value).toArray}=H2 at hns3 hsb3 ⊢
 have hC:H2.objs.size=h2'.objs.size+1:=by rw [← hH2,Heap.size_push]
 generalize hCC:H2.objs.size=C at hns3 hsb3 hC ⊢
 generalize hDD:h2'.objs.size=D at hC ⊢
 have hlt:D<C:=hC▸Nat.lt_succ_self _
 have lt2:∀{b o},h2'.get? b=some o→b<D:=λe=>hDD▸Heap.lt_size e
 have kp23:∀b o,h2'.get? b=some o→h3.get? b=some o:=λb o e=>hsb3.extBut b o (λq=>absurd (q▸lt2 e) (Nat.lt_asymm hlt)) (Heap.get?_push_of_some _ (hH2▸Heap.get?_push_of_some _ e))
 have kp13:∀b o,h1'.get? b=some o→h3.get? b=some o:=λb o e=>kp23 b o (kp b o e)
 have hD3:=hsb3.extBut _ _ (Nat.ne_of_lt hlt) (Heap.get?_push_of_some _ (by rw [← hH2,← hDD];exact Heap.get?_push_size _ rfl))
 have dead2:∀a,D≤a→h1'.get? a=none:=λa ha=>by
  cases q:h1'.get? a with
  | none=>rfl
  | some o=>exact absurd (lt2 (kp a o q)) (Nat.not_lt.mpr ha)
 have deadD:=dead2 D (Nat.le_refl _)
 have deadC:=dead2 C (Nat.le_of_lt hlt)
 have frC:=i1.hr.free deadC
 have frI:=i1.hr.free hI
 obtain ⟨oI,TI,XI⟩:=it'.own_ni hit.2.1
 have hID:=lt2 XI.at_
 have i3:In w g0 (compEnvC scope cl C env) {names:=nl,cells:=Ac6 c scope.names} as1 {st1 with lc:=[]} h3:=by
  refine ⟨i1.hr.grow kp13,⟨_,hns3,λn sv q=>no1 q⟩,frC.1,frC.2,λn k q=>?_⟩
  have q:=Ax8 q
  obtain ⟨i,a,hi,ha,hl⟩:=hfree n q.1
  obtain rfl:=A9 (hi.symm.trans q.2)
  refine ⟨a,S1.pre.elim λns e=>e▸Aj2 ha,?_⟩
  show cl.lookup n=some a
  rw [← hcl,Bz8 env q.1,hl];rfl
 have O3:EOk (compEnvC scope cl C env) {names:=nl,cells:=Ac6 c scope.names}:=by
  refine ⟨CE.kind,λn=>?_,N.none _ CE.dbg,O.globals,O.builtins,λu0 u0 q=>(nomatch q)⟩
  simp only [Bc7]
  exact congrArg (λl:List (Str×NameKind)=>l.lookup n) N.map
 have ap3:Aj3 g0 (compEnvC scope cl C env).locals as1 (D::[I']):=
  ⟨all_cons (i1.hr.free deadD).1 λa m=>List.mem_singleton.mp m▸frI.1,λm=>(List.mem_cons.mp m).elim (λq=>absurd hlt (q▸Nat.lt_irrefl _)) λq=>absurd ((show C=I' from List.mem_singleton.mp q)▸hID) (Nat.lt_asymm hlt),all_cons (i1.hr.free deadD).2 λa m=>List.mem_singleton.mp m▸frI.2⟩
 have hit3:ItR w as1 h3 it I' [I']:=it'.keep0 (B2.of_keep kp23) (λa u0=>kp23 a) ⟨[],(List.append_nil _).symm⟩ λu0=>kp23
 have loop:codeAny (model pw w) A (.compLoop (.ListComp elt [⟨.Name x px,iter,ifs,0⟩] scope pos) 0 (.ref I') (.ref D) (compEnvC scope cl C env)) (compPost (model pw w) A E use Q (.ref D) C) {s with heap:=h3,toks:=tk2}:=by
  refine S.cmpL h5 hob.right.right.left O3 ok (s:={s with heap:=h3,toks:=tk2}) i3 hit3 ap3 (λm=>absurd (List.mem_singleton.mp m▸hID) (Nat.lt_irrefl _)) (λa m=>List.mem_singleton.mp m▸i1.hr.shown hI) hD3 VRs.nil hit.2.1 _ λas6 h6 tk6 vs' ep' i6 S6 d1 d2 d3=>?_
  have B:=Cn7 (l:=l) i1 kp13 deadD hI deadC (Nat.ne_of_lt hlt) (by refine Ai5 hns3 λo u0 u0 ho u0=>?_;exact ⟨o,ho⟩) S6 i6.hr d1 d2 d3
  refine k (as6++[D]) h6 tk6 (.ref D) C ⟨B.1,S1.trans B.2.1,i6.hr.lastLoc D,B.2.2,(i1.neD deadC).symm,frC.2,i1.hr.shown deadC,?_,i6.fr.elim λm z=>⟨m,z.1⟩⟩
  cases q:s.heap.get? C with
  | none=>rfl
  | some o=>exact (S1.live C o q).elim λo' q'=>no1 (deadC.symm.trans q')
 exact codeAny_compStart_list loop (Ce2 (s:={s with heap:=h3,toks:=tk2}) hit.2.1 hit3 loop)
structure GoneC (w:World)(g0:Heap)(env:Env)(c:EC)(as:List Addr)(h:Heap)(as':List Addr)(st:St)(h' h'':Heap):Prop where
 i:In w g0 env c as' st h''
 S:Stp (some env.locals) as h as' h''
 im:B2 h' h''
theorem Ar2 {as':List Addr}{h h' h'':Heap}{C:Addr}{st:St}{v:SV}{xv:Value}(X:CmpK w g0 env c as h as' st h' v xv C)(hs:Heap.SameBut C h' h''):GoneC w g0 env c as h as' st h' h'':=by
 refine Aq7 (X.ns) λm o es ep ho hd u0=>?_
 have im:B2 h' h'':=B2.same hs ho (Al6 hd)
 have kp:∀b o,b≠C→h'.get? b=some o→h''.get? b=some o:=λb o q e=>(hs.2 b q).trans e
 have ne:∀{a o},h.get? a=some o→a≠C:=λe q=>no1 (X.new.symm.trans (q▸e))
 exact ⟨X.i.side (⟨λa m=>List.mem_singleton.mp m▸X.off,λm=>X.ne (List.mem_singleton.mp m).symm,λa m=>List.mem_singleton.mp m▸X.lo⟩) (λb o m e=>kp b o (λq=>m (List.mem_singleton.mpr q)) e) im (λb m z=>z.elim λo e=>⟨o,kp b o (λq=>X.sh (q▸m)) e⟩),
  ⟨X.S.ext,λa o e=>(X.S.live a o e).elim λo' e'=>⟨o',kp a o' (ne e) e'⟩,λa o e n1 n2=>kp a o (ne e) (X.S.keep a o e n1 n2),X.S.imm.trans im⟩,im⟩
theorem Bn8 (S:Snd w K g0 M n R)(T:Ak8 w G g0){elt:Expr}{x:Str}{px:Pos}{iter:Expr}{ifs:List Expr}{scope:Scope}{pos:Pos}{v:SV}{ob:List Prop}(e:Bi5 R c elt x iter ifs scope st=some (v,st',ob))(hob:All ob)
  (O:EOk env c)(ok:AOk A (M+4*n))(I:In w g0 env c as st s.heap):Tr w g0 env c A as s st' (PV v) (eval (.ListComp elt [⟨.Name x px,iter,ifs,0⟩] scope pos) env):=λQ E k=>
 Dj0 S T e hob O ok I (use:=none) Q E (λas' h' tk xv C X=>X.ns.elim λm hm=>⟨m,hm,λh'' hs=>have g:=Ar2 X hs;k as' h'' tk xv g.i g.S (X.v.same g.im)⟩) _
theorem Be9 (S:Snd w K g0 M n R)(T:Ak8 w G g0){elt:Expr}{x:Str}{px:Pos}{iter:Expr}{ifs:List Expr}{scope:Scope}{pos:Pos}{v:SV}{ob:List Prop}(e:Bi5 R c elt x iter ifs scope st=some (v,st',ob))(hob:All ob)
  (O:EOk env c)(ok:AOk A (M+4*n))(I:In w g0 env c as st s.heap):Dz9 w g0 env c A as s st' v (.ListComp elt [⟨.Name x px,iter,ifs,0⟩] scope pos):=λu st2 Q E ku k=>by
 refine wpAny_bind (Dj0 S T e hob O ok I (use:=some u) _ E (λas' h' tk xv C X=>?_) _)
 refine ku as' h' tk xv X.i X.S X.v _ E λas2 h2 tk2 u0 i2 S2 u0=>?_
 obtain ⟨m,oC,esC,epC,hoC,rC⟩:=X.ns
 have c1':C∉as2:=λq=>S2.ext.elim λns z=>(List.mem_append.mp (z.1▸q)).elim X.off λq=>no1 ((z.2 C q).symm.trans hoC)
 have hn2:h2.Ns C m:=⟨oC,esC,epC,S2.keep C oC hoC X.off (λq=>X.ne (Option.some.inj q).symm),rC⟩
 refine ⟨m,hn2,λh'' hs=>?_⟩
 exact wpAny_pure (k as2 h'' tk2 (Ar2 (⟨i2,X.S.trans S2,X.v.step S2,c1',X.ne,X.lo,X.sh,X.new,m,hn2⟩:CmpK w g0 env c as s.heap as2 st2 h2 v xv C) hs).i (Ar2 (⟨i2,X.S.trans S2,X.v.step S2,c1',X.ne,X.lo,X.sh,X.new,m,hn2⟩:CmpK w g0 env c as s.heap as2 st2 h2 v xv C) hs).S)
end
section
variable {w:World}{G:Top}{K:Frag}{g0:Heap}{mg mb:Str→Option Value}{env:Env}{c:EC}{A:Around}{as:List Addr}{st st1 st2 st':St}{s:Shared}{M n:Nat}{R:Rec}
theorem Bs1 {id:Str}(h:(!(seq id ("__debug__":Str)))=true):(id==("__debug__":Str))=false:=by
 rw [← Aq3]
 cases q:seq id ("__debug__":Str) with
 | false=>rfl
 | true=>rw [q] at h;exact B3 h
theorem As2 {e:Expr}(h:Bb5 e=true):foldedForSure 8 e=false∧constantsAlone 8 e=false:=by
 cases e with
 | Name id p=>exact ⟨rfl,Bs1 h⟩
 | Subscript v i p=>
  refine ⟨rfl,?_⟩
  cases v with
  | Name id p=>exact (congrArg (· && _) (Bs1 h):_)
  | _=>first | exact B3 h | rfl
 | _=>first | exact ⟨rfl,rfl⟩ | exact B3 h
theorem Ci4 (O:EOk env c)(line:Nat)(id:Str)(p:Pos):(if (env.kindOf id==some .local&&p.line==line)=true then some id else none)=Ai7 c line (.Name id p):=by
 unfold Ai7
 dsimp only
 rw [O.names,show (p.line==line)=Nat.beq p.line line from by rw [Bool.eq_iff_iff,beq_iff_eq];simp only [Nat.beq_eq]]
 cases look c.names id with
 | none=>rfl
 | some k=>cases k<;>first | rfl | (cases Nat.beq p.line line<;>rfl)
theorem Bi0 {α β:Type}{f g:α→Option β}(h:∀x,f x=g x)(l:List α):l.filterMap f=l.filterMap g:=by exact (funext h)▸rfl
theorem Ao7 (line:Nat)(t:Expr)(ts:List Expr):Af2 c line (t::ts)=match Ai7 c line t,Af2 c line ts with | some n,some l=>some (n::l) | _,_=>none:=rfl
theorem Bc8 {line:Nat}{ts:List Expr}:∀{ns:List Str},Af2 c line ts=some ns→ts.filterMap (Ai7 c line)=ns∧ns.length=ts.length:=by
 induction ts with
 | nil=>exact λh=>A9 h▸⟨rfl,rfl⟩
 | cons t ts ih=>
  intro ns h
  rw [Ao7] at h
  cases q:Ai7 c line t with
  | none=>rw [q] at h;exact no1 h
  | some n=>cases q2:Af2 c line ts with
   | none=>rw [q,q2] at h;exact no1 h
   | some l=>rw [q,q2] at h;rw [← A9 h,List.filterMap_cons,q,(ih q2).1];exact ⟨rfl,congrArg (· + 1) (ih q2).2⟩
theorem Bc9 {line:Nat}{ts:List Expr}:Af2 c line ts=none→(ts.filterMap (Ai7 c line)).length<ts.length:=by
 induction ts with
 | nil=>exact λh=>no3 h
 | cons t ts ih=>
  intro h
  rw [Ao7] at h
  refine (List.filterMap_cons)▸?_
  cases q:Ai7 c line t with
  | none=>exact Nat.lt_succ_of_le (List.length_filterMap_le ..)
  | some n=>cases q2:Af2 c line ts with
   | none=>exact Nat.succ_lt_succ (ih q2)
   | some l=>rw [q,q2] at h;exact no3 h
theorem By3 {n:Str}{l:List Str}:memS n l=false→l.filter (λb=>!b==n)=l:=by
 induction l with
 | nil=>exact λu0=>rfl
 | cons m l ih=>
  intro h
  change (match seq n m with | true=>true | false=>memS n l)=false at h
  cases q:seq n m with
  | true=>rw [q] at h;exact noB h
  | false=>
   rw [q] at h
   rw [List.filter_cons_of_pos,ih h]
   rw [Bool.beq_comm,← Aq3,q];rfl
theorem Bp4 {l:List Str}:Bj5 l=true→l.eraseDups=l:=by
 induction l with
 | nil=>exact λu0=>rfl
 | cons n l ih=>
  intro h
  change (match memS n l with | true=>false | false=>Bj5 l)=true at h
  cases q:memS n l with
  | true=>rw [q] at h;exact B3 h
  | false=>rw [q] at h;simp only [List.eraseDups_cons,By3 q,ih h]
theorem nilB_len0 {α:Type}{l:List α}(h:Ae9 l=true):l.length=0:=by exact congrArg _ (Ab8 h)
theorem Bq0 {α β:Type}{a:List α}{b:List β}(h:two3 a b=true):(a.length==2||a.length==3)=true∧b.length=a.length:=by
 cases a with
 | nil=>exact B3 h
 | cons _ a=>cases b with
  | nil=>exact B3 h
  | cons _ b=>cases a with
   | nil=>exact B3 h
   | cons _ a=>cases b with
    | nil=>exact B3 h
    | cons _ b=>cases a with
     | nil=>exact (Ab8 (l:=b) h)▸⟨rfl,rfl⟩
     | cons _ a=>cases b with
      | nil=>exact B3 h
      | cons _ b=>
       change (match Ae9 a with | true=>Ae9 b | false=>false)=true at h
       cases q:Ae9 a with
       | false=>rw [q] at h;exact B3 h
       | true=>rw [q] at h;rw [Ab8 q,Ab8 (l:=b) h];exact ⟨rfl,rfl⟩
theorem Dn1 (O:EOk env c){ts vs:List Expr}{r:Option (List Str)}{i j:Nat}{p q:Pos}(h:Dn2 c ts vs=some r):swappedStores [.Tuple ts i p] (.Tuple vs j q) env=pure r:=by
 unfold Dn2 at h
 cases q1:vs.all Ac1 with
 | false=>replace h:=q1▸h;exact no1 h
 | true=>cases q2:vs.any Bb5 with
  | false=>rw [q1,q2] at h;exact no1 h
  | true=>cases q3:two3 ts vs with
   | false=>rw [q1,q2,q3] at h;exact no1 h
   | true=>
    rw [q1,q2,q3] at h
    have hst:∀f:Expr→Bool,(∀x,Ac1 x=true→f x=false)→¬ vs.any f=true:=λf hf=>Bool.eq_false_iff.mp (List.any_eq_false.mpr λx hx=>Bool.eq_false_iff.mp (hf x (List.all_eq_true.mp q1 x hx)))
    refine oEA (List.any_eq_true.mp q2) λz hz hzo=>?_
    have hf:¬ vs.all (foldedForSure 8)=true:=λa=>B3 ((As2 hzo).1.symm.trans (List.all_eq_true.mp a z hz))
    have hc:¬ vs.all (constantsAlone 8)=true:=λa=>B3 ((As2 hzo).2.symm.trans (List.all_eq_true.mp a z hz))
    have hb:(env.blockKind != .function)=false:=by unfold Env.blockKind;refine (O.kind).symm▸?_;rfl
    unfold swappedStores
    dsimp only
    rw [(Bq0 q3).1,(Bq0 q3).2,hb,bne_self_eq_false]
    refine (if_neg Bool.false_ne_true).trans ?_
    refine (if_neg (hst _ (by intro x hx;cases x<;>first | rfl | exact B3 hx))).trans ?_
    rw [show ((ts.head?.map (·.pos.line)).getD 0)=Cy3 ts from by cases ts<;>rfl]
    rw [Bi0 (g:=Ai7 c (Cy3 ts)) (by intro x;cases x<;>first | rfl | exact Ci4 O _ _ _)]
    cases hn:Af2 c (Cy3 ts) ts with
    | none=>
     rw [hn] at h
     refine (if_pos ?_).trans (congrArg pure (A9 h))
     rw [bne_iff_ne.mpr (Nat.ne_of_lt (Bc9 hn))];rfl
    | some ns=>
     replace h:=hn▸h
     have N:=Bc8 hn
     dsimp only at h
     refine (N.1)▸?_
     cases ha:Bj5 ns with
     | false=>rw [ha] at h;exact no1 h
     | true=>
      rw [ha] at h
      refine (if_neg ?_).trans ((if_neg hf).trans ((if_neg hc).trans (congrArg pure (A9 h))))
      rw [Bp4 ha,N.2,bne_self_eq_false];exact Bool.false_ne_true
theorem Dg0 (O:EOk env c){t e:Expr}{r:Option (List Str)}(h:Bf3 c t e=some r):swappedStores [t] e env=pure r:=by
 cases t with
 | Tuple ts i p=>cases e with
  | Tuple vs j q=>exact Dn1 O h
  | _=>first | exact no1 h | (rw [← A9 h];rfl)
 | List _ _=>exact no1 h
 | _=>exact congrArg _ (A9 h)
theorem Au1 {e:Expr}(h:Am5 e=false)(t:Option Expr)(line:Nat)(env:Env):swapsWith e t line env=pure false:=by
 cases e<;>first | (exact noB h;done) | (cases t<;>rfl)
theorem Ct7 (O:EOk env c)(ns:List Str):∀{l:List SV} {st st':St} {as:List Addr} {s:Shared} {u:Unit} {ob:List Prop} {vs:List Value},Ay5 c ns l st=some (u,st',ob)→In w g0 env c as st s.heap→VRs as s.heap l vs→
  Tr w g0 env c A as s st' PU (assignInOrder (ns.map λn=>bindName env n) vs):=by
 induction ns with
 | nil=>
  intro l st st' as s u ob vs e I hv
  refine Aa3 (b:=Ae9 l) (x:=X.ret ()) e λh e=>?_
  rw [Ab8 h] at hv
  exact A4 e λQ E k=>wpAny_pure (k as s.heap s.toks _ I (Stp.refl _ _ _) trivial)
 | cons x ns ih=>
  intro l st st' as s u ob vs e I hv
  cases l with
  | nil=>exact no1 e
  | cons v l=>
   refine B5 e ?_;clear e;intro _ st1 o1 o2 h1 e
   obtain ⟨y,ws,rfl,vy,hw⟩:=hv.cons_inv
   refine λQ E k=>?_
   refine wpAny_bind (wpAny_holding (wpAny_bindName (Bl5 h1 O I vy _ _ λas1 h1' tk1 u0 i1 S1 u0=>?_)))
   exact ih e (s:={s with heap:=h1',toks:=tk1}) i1 (hw.step S1) Q E λas2 h2 tk2 u0 i2 S2 p=>k as2 h2 tk2 _ i2 (S1.trans S2) p
end
section
variable {w:World}{G:Top}{K:Frag}{g0:Heap}{mg mb:Str→Option Value}{env:Env}{c:EC}{A:Around}{as:List Addr}{st st1 st2 st':St}{s:Shared}{M n:Nat}{R:Rec}
theorem Ar9.there {b:Bool}{h:Heap}{z TI TO i1 i2 l1 l2:Addr}{i:Nat}{f0:Value}(x:Ar9 b h z TI TO i1 i2 l1 l2 i f0):∀a∈[z,TI,TO,i1,i2],∃o,h.get? a=some o∧(¬ Imm o∨(o.cls = .type "tuple"∧a∈Hid.off)):=by
 intro a m
 simp only [List.mem_cons,List.not_mem_nil,or_false] at m
 rcases m with rfl | rfl | rfl | rfl | rfl
 ·exact ⟨_,x.hz,.inl (Ak3 rfl (by decide) (by decide) (by decide))⟩
 ·exact ⟨_,x.hTI,.inr ⟨rfl,x.hidI⟩⟩
 ·refine oEE (x.hTO) λp q e=>?_;exact ⟨_,e,.inr ⟨rfl,x.hidO⟩⟩
 ·obtain ⟨o,ho,h⟩:=x.h1.there;exact ⟨o,ho,.inl h⟩
 ·obtain ⟨o,ho,h⟩:=Ba8.there (b:=false) x.h2;exact ⟨o,ho,.inl h⟩
theorem Bt2 {h h':Heap}{own:List Addr}(ow:∀a∈own,∃o,h.get? a=some o∧(¬ Imm o∨(o.cls = .type "tuple"∧a∈Hid.off)))(kp:∀b o,b∉own→h.get? b=some o→h'.get? b=some o):B2 h h':=λa o e i q=>by
 refine kp a o (λm=>?_) e
 refine oEA (ow a m) λo' e' r=>?_
 replace e':=e.symm.trans e';(replace e':=A9 e';subst e')
 rcases r with r | ⟨r1,r2⟩
 ·exact r i
 ·exact q r1 r2
theorem zip_go {b:Bool}{z TI TO i1 i2 l1 l2:Addr}{i:Nat}{xs ys:Array Value}{hp:List A0}(ok:AOk A n)(hr:HR w g0 as hp s.heap)(Z:Ar9 b s.heap z TI TO i1 i2 l1 l2 i .none)(hl1:Be6 b s.heap l1 xs)(hl2:s.heap.IsList l2 ys)
  {ts:List Expr}{kk:Nat}{p:Pos}{Qn:Shared→Prop}{Qs:Value→Shared→Prop}{E1 E2:Value→Shared→Prop}
  (kn:(xs[i]?=none∨ys[i]?=none)→∀h',(∀b o,b∉[z,TI,TO,i1,i2]→s.heap.get? b=some o→h'.get? b=some o)→Bk7 s.heap h'→B2 s.heap h'→Qn {s with heap:=h'})
  (ks:∀x y,xs[i]?=some x→ys[i]?=some y→∀h' T,(∀b o,b∉[z,TI,TO,i1,i2]→s.heap.get? b=some o→h'.get? b=some o)→(∀b o,s.heap.get? b=some o→∃o',h'.get? b=some o')→B2 s.heap h'→Ab6 h' T [x,y]→
   Ar9 b h' z TI TO i1 i2 l1 l2 (i+1) .none→Qs (.ref T) {s with heap:=h'}):
  wpAny (model pw w) A (pyNext (.ref z)) (λr s₁=>match r with
   | none=>Qn s₁
   | some v=>wpAny (model pw w) A (letOwnedTupleGo (.Tuple ts kk p) (.ref z) v) (λu0 s2=>Qs v s2) E2 s₁) E1 s:=by
 refine oEE (Z.hTO) λpa qa hTO=>?_
 have wid:∀{h':Heap},Zk z TO i1 i2 s.heap h'→∀b o,b∉[z,TI,TO,i1,i2]→s.heap.get? b=some o→h'.get? b=some o:=λhk b o m e=>
  hk b o (λq=>m (by simp [q])) (λq=>m (by simp [q])) (λq=>m (by simp [q])) (λq=>m (by simp [q])) e
 have D:=Z.D
 refine Bp8 ok.1 D Z.hz Z.hTI hTO Z.h1 Z.h2 hl1 hl2 (λx y hx hy h' T dead hz' hTO' a1 a2 hT hk=>?_) (λhn h' hk ht=>?_)
 ·have nez:T≠z:=λq=>by rw [q,Z.hz] at dead;exact nomatch dead
  refine wpAny_letOwnedTupleGo_zip hz' λh'' hz'' hs=>?_
  have kp:∀b o,b∉[z,TI,TO,i1,i2]→s.heap.get? b=some o→h''.get? b=some o:=λb o m e=>hs.extBut b o (λq=>m (by simp [q])) (wid hk b o m e)
  have Z':Ar9 b h'' z TI TO i1 i2 l1 l2 (i+1) .none:=
   ⟨D,Z.hidI,Z.hidO,Z.shz,Z.sh1,Z.sh2,hz'',hs.extBut _ _ D.TIz (hk _ _ D.TIz D.TITO D.TIi1 D.TIi2 Z.hTI),⟨x,y,hs.extBut _ _ D.TOz hTO'⟩,a1.to λo e=>hs.extBut _ _ D.i1z e,a2.extBut hs.extBut D.i2z⟩
  refine ks x y hx hy h'' T kp (λb o e=>?_) (Bt2 (Z.there) kp) ⟨hr.shown dead,0,hs.extBut _ _ nez hT⟩ Z'
  by_cases m:b∈[z,TI,TO,i1,i2]
  ·obtain ⟨o',e',_⟩:=Z'.there b m;exact ⟨o',e'⟩
  ·exact ⟨o,kp b o m e⟩
 ·refine kn hn h' (wid hk) (λa m ⟨o,e⟩=>?_) (Bt2 (Z.there) (wid hk))
  by_cases q1:a=TO
  ·subst q1;exact ht
  ·exact ⟨o,hk a o (λq=>Z.shz (q▸m)) q1 (λq=>Z.sh1 (q▸m)) (λq=>Z.sh2 (q▸m)) e⟩
end
section
variable {w:World}{G:Top}{K:Frag}{g0:Heap}{mg mb:Str→Option Value}{env:Env}{c:EC}{A:Around}{as:List Addr}{st st1 st2 st':St}{s:Shared}{M n:Nat}{R:Rec}
structure ZA where
 TI:Addr
 TO:Addr
 i1:Addr
 i2:Addr
 l1:Addr
 l2:Addr
noncomputable abbrev ZA.own (z:ZA)(I:Addr):List Addr:=[I,z.TI,z.TO,z.i1,z.i2]
abbrev ZA.at_ (z:ZA)(b:Bool)(h:Heap)(I:Addr)(i:Nat):Prop:=Ar9 b h I z.TI z.TO z.i1 z.i2 z.l1 z.l2 i .none
structure ZIn (as:List Addr)(h:Heap)(I:Addr)(own:List Addr)(b:Bool)(i:Nat)(z:ZA)(xs ys:List Value):Prop where
 own:own=z.own I
 at_:z.at_ b h I i
 l1:Be6 b h z.l1 xs.toArray
 l2:h.IsList z.l2 ys.toArray
structure ZVal (as:List Addr)(h:Heap)(I:Addr)(own:List Addr)(b:Bool)(i:Nat)(z:ZA)(it':SIt)(a c:SV)(x y:Value):Prop where
 a:VR as h a x
 c:VR as h c y
 go:∀h',B2 h h'→z.at_ b h' I (i+1)→ItR w as h' it' I own
def ZOut (w:World)(as:List Addr)(h:Heap)(I:Addr)(own:List Addr)(b:Bool)(i:Nat)(z:ZA)(xs ys:List Value):Option (SV×SIt)→Prop
 | none=>xs[i]?=none∨ys[i]?=none
 | some (v,it')=>∃p:(SV×SV)×(Value×Value),v = .tup [p.1.1,p.1.2]∧xs[i]?=some p.2.1∧ys[i]?=some p.2.2∧ZVal (w:=w) as h I own b i z it' p.1.1 p.1.2 p.2.1 p.2.2
structure ZTurn (w:World)(as:List Addr)(h:Heap)(I:Addr)(own:List Addr)(r:Option (SV×SIt))(q:(Bool×Nat)×ZA×List Value×List Value):Prop where
 inn:ZIn as h I own q.1.1 q.1.2 q.2.1 q.2.2.1 q.2.2.2
 out:ZOut w as h I own q.1.1 q.1.2 q.2.1 q.2.2.1 q.2.2.2 r
def zipO:Option (SV×SIt)→Prop
 | none=>True
 | some (_,it')=>Ah8 it'=true
structure Df4 (w:World)(g0:Heap)(it:SIt)(st st':St)(r:Option (SV×SIt)):Prop where
 same:st'=st
 zip:zipO r
 go:∀(as:List Addr) (h:Heap) (I:Addr) (own:List Addr),HR w g0 as st.hp h→ItR w as h it I own→∃q,ZTurn w as h I own r q
theorem isl {h:Heap}{as:List Addr}{k:Nat}{a:Addr}{hp:List A0}{q:List SV}{m:Nat}(hr:HR w g0 as hp h)(hx:hp[k]?=some (.list q m))(hk:as[k]?=some a):∃us:List Value,h.IsList a us.toArray∧VRs as h q.reverse us:=by
 refine Ch3 (hr.at_ k _ hx) λb hb hl us ep ho hu=>?_
 exact ⟨us,A9 (hk.symm.trans hb)▸Aa4 ho,hu⟩
theorem Cg9 {as:List Addr}{h:Heap}{q:List SV}{us:List Value}{i:Nat}(hu:VRs as h q us)(hq:q[i]?=none):us[i]?=none:=List.getElem?_eq_none_iff.mpr (hu.1▸List.getElem?_eq_none_iff.mp hq)
theorem Dc1 {as:List Addr}{h:Heap}{vs:List Value}{i:Nat}{a:SV}{l:List SV}(hv:VRs as h (a::l) (vs.drop i)):∃v,vs[i]?=some v∧VR as h a v∧VRs as h l (vs.drop (i+1)):=by
 refine Ae3 (hv.cons_inv) λv ws e2 hva hw=>?_
 refine ⟨v,?_,hva,?_⟩
 ·have:(vs.drop i)[0]?=some v:=by rw [e2];rfl
  exact (List.getElem?_drop).symm.trans this
 ·rw [← List.drop_drop,e2];exact hw
theorem nextT {l:List SV}{k i:Nat}{r:Option (SV×SIt)}{ob:List Prop}(e:Bm4 (.zipT l k i) st=some (r,st',ob)):Df4 w g0 (.zipT l k i) st st' r:=by
 cases l with
 | nil=>
  exact listE (f:=λu0=>X.ret none) e λq m hx e=>A4 e ⟨rfl,trivial,λas h I own hr x=>by
   refine Ak1 x λTI TO i1 i2 l1 l2 vs e1 Z hk ht hv=>?_
   exact (isl hr hx hk).elim λus hl=>⟨((true,i),⟨TI,TO,i1,i2,l1,l2⟩,vs,us),⟨e1,Z,ht.tuple,hl.1⟩,.inl (List.getElem?_eq_none_iff.mpr (by have h:=hv.1;simp only [List.length_drop] at h;exact Nat.sub_eq_zero_iff_le.mp h.symm))⟩⟩
 | cons a l=>
  refine listE (f:=λq=>X.ret ((Ay9 a q.1 i).map λv=>(v,SIt.zipT l k (i+1)))) e λq m hx e=>?_
  unfold Ay9 at e
  rw [at?_eq] at e
  cases hq:q.reverse[i]? with
  | none=>
   dsimp only at e
   replace e:=hq▸e
   exact A4 e ⟨rfl,trivial,λas h I own hr x=>by
    refine Ak1 x λTI TO i1 i2 l1 l2 vs e1 Z hk ht hv=>?_
    exact (isl hr hx hk).elim λus hl=>⟨((true,i),⟨TI,TO,i1,i2,l1,l2⟩,vs,us),⟨e1,Z,ht.tuple,hl.1⟩,.inr (Cg9 hl.2 hq)⟩⟩
  | some v0=>
   dsimp only at e
   rw [hq] at e
   exact A4 e ⟨rfl,rfl,λas h I own hr x=>by
    refine Ak1 x λTI TO i1 i2 l1 l2 vs e1 Z hk ht hv=>?_
    exact (isl hr hx hk).elim λus hl=>(hl.2.at hq).elim λy hy=>(Dc1 hv).elim λv hd=>
     ⟨((true,i),⟨TI,TO,i1,i2,l1,l2⟩,vs,us),⟨e1,Z,ht.tuple,hl.1⟩,((a,v0),(v,y)),rfl,hd.1,hy.1,hd.2.1,hy.2,λh' im Z'=>⟨_,_,_,_,_,_,vs,e1,Z',hk,Ag0 im ht,hd.2.2.same im⟩⟩⟩
theorem Dq9 {j k i:Nat}{r:Option (SV×SIt)}{ob:List Prop}(e:Bm4 (.zipL j k i) st=some (r,st',ob)):Df4 w g0 (.zipL j k i) st st' r:=by
 refine listE (f:=λp=>(Ae4 k).bnd λq=>X.ret (((at? p.1 i).bind λa=>Ay9 a q.1 i).map λv=>(v,SIt.zipL j k (i+1)))) e λq m hx e=>listE e λq2 m2 hx2 e=>?_
 unfold Ay9 at e
 rw [at?_eq,at?_eq] at e
 have go:∀{r:Option (SV×SIt)},zipO r→(∀{as h I own z vs us},own=z.own I→z.at_ false h I i→as[k]?=some z.l2→as[j]?=some z.l1→VRs as h q.reverse vs→VRs as h q2.reverse us→ZOut w as h I own false i z vs us r)→Df4 w g0 (.zipL j k i) st st r:=λhz hg=>
  ⟨rfl,hz,λas h I own hr x=>by
   refine Bx9 x λTI TO i1 i2 l1 l2 e1 Z hk hj=>?_
   exact (isl hr hx hj).elim λvs h1=>(isl hr hx2 hk).elim λus h2=>⟨((false,i),⟨TI,TO,i1,i2,l1,l2⟩,vs,us),⟨e1,Z,h1.1,h2.1⟩,hg e1 Z hk hj h1.2 h2.2⟩⟩
 dsimp only at e
 cases hq:q.reverse[i]? with
 | none=>rw [hq] at e;exact A4 e (go trivial λu0 u0 u0 u0 hu1 u0=>.inl (Cg9 hu1 hq))
 | some v0=>
  cases hq2:q2.reverse[i]? with
  | none=>rw [hq,hq2] at e;exact A4 e (go trivial λu0 u0 u0 u0 u0 hu2=>.inr (Cg9 hu2 hq2))
  | some v1=>
   rw [hq,hq2] at e
   exact A4 e (go rfl λe1 u0 hk hj hu1 hu2=>(hu1.at hq).elim λv hv=>(hu2.at hq2).elim λy hy=>⟨((v0,v1),(v,y)),rfl,hv.1,hy.1,hv.2,hy.2,λh' im Z'=>⟨_,_,_,_,_,_,e1,Z',hk,hj⟩⟩)
theorem nextZ {it:SIt}(hz:Ah8 it=true){r:Option (SV×SIt)}{ob:List Prop}(e:Bm4 it st=some (r,st',ob)):Df4 w g0 it st st' r:=by
 cases it with
 | zipT l k i=>exact nextT e
 | zipL j k i=>exact Dq9 e
 | _=>exact B3 hz
end
section
variable {w:World}{G:Top}{K:Frag}{g0:Heap}{mg mb:Str→Option Value}{env:Env}{c:EC}{A:Around}{as:List Addr}{st st1 st2 st':St}{s:Shared}{M n:Nat}{R:Rec}
theorem Da1 {t:Expr}{it:SIt}(h:goOk t it=true)(hz:Ah8 it=true):∃ts kk p,t = .Tuple ts kk p:=by
 have go:(match (generalizing:=false) t with | .Tuple _ _ _=>true | _=>false)=true→∃ts kk p,t = .Tuple ts kk p:=λh=>by
  cases t with
  | Tuple ts kk p=>exact ⟨_,_,_,rfl⟩
  | _=>exact B3 h
 cases it with
 | zipT l k i=>exact go h
 | zipL j k i=>exact go h
 | _=>exact B3 hz
theorem Bz0 {it:SIt}(h:Ah8 it=true):Az7 it=false:=by
 cases it with
 | keys=>exact B3 h
 | _=>rfl
theorem Da8 (S:Snd w K g0 M n R){t:Expr}{it:SIt}(hz:Ah8 it=true){b:List Stmt}{f:A8}{ob:List Prop}(e:Ax7 R c t it b st=some (f,st',ob))(hob:All ob){I:Addr}{own:List Addr}(O:EOk env c)(ok:AOk A (M+4*n))(i0:In w g0 env c as st s.heap)
  (hit:ItR w as s.heap it I own)(ap:Aj3 g0 env.locals as own)(RR:Result→Shared→Prop)
  (k:∀as' h' tk x,In w g0 env c as' st' h'→Aj7 own env.locals as s.heap as' h'→FlR as' h' f x→RR (.ok x) {s with heap:=h',toks:=tk}):codeAny (model pw w) A (.forLoop t (.ref I) b [] env) RR s:=by
 unfold Ax7 at e
 refine Aa3 e ?_;clear e;intro hgo e
 refine oEEE (Da1 hgo hz) λts kk p z3=>?_;subst z3
 revert hob;refine B5 e ?_;clear e;intro q st1 o1 o2 h1 e hob
 have N:=nextZ (w:=w) (g0:=g0) hz h1
 replace e:=(N.same)▸e
 obtain ⟨⟨⟨bb,i⟩,z,xs,ys⟩,⟨rfl,Z,hl1,hl2⟩,hv⟩:=N.go _ _ _ _ i0.hr hit
 dsimp only at Z hl1 hl2 hv ap k
 refine Bd4 (zip_go ok i0.hr Z hl1 hl2 (λhnn h' kp hl im=>?_) (λx y hx hy h' T kp lv im hT Z'=>?_))
 ·rw [List.getElem?_toArray,List.getElem?_toArray] at hnn
  cases q with
  | none=>revert k;refine A4 e λk=>?_;exact wpAny_execs_nil (k as h' s.toks _ (i0.side ap kp im hl) (Aj7.side kp im) .next)
  | some vi=>exact hv.elim λp v=>hnn.elim (λq=>no3 (v.2.1.symm.trans q)) λq=>no3 (v.2.2.1.symm.trans q)
 ·rw [List.getElem?_toArray] at hx hy
  cases q with
  | none=>exact hv.elim (λq=>no3 (hx.symm.trans q)) λq=>no3 (hy.symm.trans q)
  | some vi=>
   obtain ⟨v,it'⟩:=vi
   obtain ⟨⟨⟨a,c'⟩,x',y'⟩,hvv,hx',hy',V⟩:=hv
   obtain rfl:=A9 (hx.symm.trans hx')
   obtain rfl:=A9 (hy.symm.trans hy')
   have hz':Ah8 it'=true:=N.zip
   have vx:VR as h' v (.ref T):=by
    rw [hvv];exact .tup _ _ _ hT (VRs.cons (V.a.same im) (VRs.cons (V.c.same im) VRs.nil)).1 (VRs.cons (V.a.same im) (VRs.cons (V.c.same im) VRs.nil)).2
   have j1:=i0.side ap kp im λa m z=>z.elim λo ho=>lv a o ho
   have S1:Aj7 (z.own I) env.locals as s.heap as h':=Aj7.side kp im
   dsimp only at e
   revert hob;refine B5 e ?_;clear e;intro u st2 o3 o4 h2 e hob
   revert hob;refine B5 e ?_;clear e;intro g st3 o5 o6 h3 e hob
   refine (S.asg h2 hob.right.left).2 O ok (s:={s with heap:=h'}) j1 vx _ _ λas2 h2' tk2 u0 j2 S2 u0=>?_
   refine S.exs h3 hob.right.right.left O ok (s:={s with heap:=h2',toks:=tk2}) j2 _ _ λas3 h3' tk3 y j3 S3 vy=>?_
   have S23:=S2.trans S3
   have al1:∀a∈(z.own I),∃o,h'.get? a=some o:=λa m=>(Z'.there a m).elim λo ho=>⟨o,ho.1⟩
   have S13:Aj7 (z.own I) env.locals as s.heap as3 h3':=S1.trans (Aj7.of S23) al1
   have al3:∀a∈(z.own I),∃o,h3'.get? a=some o:=λa m=>(al1 a m).elim λo ho=>S23.live a o ho
   exact Be1 (x:=R.forL c (.Tuple ts kk p) it' b) e vy (RR:=λz=>RR (.ok z) _)
    (λe=>S.forL e hob.right.right.right O ok (s:={s with heap:=h3',toks:=tk3}) j3 ((V.go h' im Z').step S23 (Bz0 hz') ap.as (λa m q=>ap.fr ((Option.some.inj q)▸m))) (ap.step al1 S23) (λq=>noB (hz'.symm.trans q)) RR λas4 h4 tk4 z i4 S4 vz=>k as4 h4 tk4 z i4 (S13.trans S4 al3) vz)
    λz q vz=>k as3 h3' tk3 z (q▸j3) S13 vz
end
end
structure Ea3 (X Y:Hid)(h:Heap):Prop where
 sub:∀a∈X.off,a∈Y.off
 dead:∀a∈Y.off,a∉X.off→h.get? a=none
section
variable {X Y:Hid}{w:World}{g0 h h':Heap}{env:Env}{c:EC}{as as':List Addr}{st:St}
theorem Ab6.hide (m:Ea3 X Y h){a:Addr}{vs:List Value}(x:@Ab6 X h a vs):@Ab6 Y h a vs:=by
 refine oAE x λhn n e=>?_
 refine ⟨λq=>?_,n,e⟩
 exact no1 ((m.dead a q hn).symm.trans e)
theorem Ab6.show (m:∀a∈X.off,a∈Y.off){a:Addr}{vs:List Value}(x:@Ab6 Y h a vs):@Ab6 X h a vs:=⟨λq=>x.1 (m a q),x.2⟩
theorem VR.move (f:∀a vs,@Ab6 X h a vs→@Ab6 Y h a vs){sv:SV}{v:Value}(x:@VR X as h sv v):@VR Y as h sv v:=by
 induction x with
 | none=>exact .none
 | bool b=>exact .bool b
 | int i t=>exact .int i t
 | str s t=>exact .str s t
 | tup l vs a ht hl _ ih=>exact .tup l vs a (f _ _ ht) hl ih
 | loc j a e=>exact .loc j a e
 | glb a=>exact .glb a
 | typ n=>exact .typ n
 | blt i=>exact .blt i
 | val v=>exact .val v
 | any v=>exact .any v
 | fset l a f=>exact .fset l a f
 | rng n a t u v r=>exact .rng n a t u v r
 | key k v q=>exact .key k v q
theorem VRs.move (f:∀a vs,@Ab6 X h a vs→@Ab6 Y h a vs){l:List SV}{vs:List Value}(x:@VRs X as h l vs):@VRs Y as h l vs:=⟨x.1,λi sv v e e'=>(x.2 i sv v e e').move f⟩
theorem DRs.move (f:∀a vs,@Ab6 X h a vs→@Ab6 Y h a vs){es:List (SV×SV)}{kvs:List (MK×Value)}(x:@DRs X as h es kvs):@DRs Y as h es kvs:=⟨x.1,λi p q e e'=>⟨(x.2 i p q e e').1,(x.2 i p q e e').2.move f⟩⟩
theorem OR.move (f:∀a vs,@Ab6 X h a vs→@Ab6 Y h a vs){o:A0}{a:Addr}(x:@OR X w as h o a):@OR Y w as h o a:=by
 cases o with
 | list r n=>obtain ⟨hl,vs,ep,ho,hv⟩:=x;exact ⟨hl,vs,ep,ho,hv.move f⟩
 | dict es=>obtain ⟨kvs,q,hv⟩:=x;exact ⟨kvs,q,hv.move f⟩
 | idict m n=>obtain ⟨kvs,es,q,hv,r'⟩:=x;exact ⟨kvs,es,q,hv.move f,r'⟩
 | lst0 y l n ob=>obtain ⟨hl,ho,vs,ep,e0,hv,hx⟩:=x;exact ⟨hl,ho,vs,ep,e0,hv,λv ws e=>(hx v ws e).move f⟩
 | inst C d=>exact x
 | ns es=>obtain ⟨m,q,hv,hn⟩:=x;exact ⟨m,q,λn v q=>let ⟨u,a,b⟩:=hv n v q;⟨u,a,b.move f⟩,hn⟩
 | cell v=>
  obtain ⟨cv,q,hv⟩:=x
  refine ⟨cv,q,?_⟩
  cases v with
  | none=>trivial
  | some v=>obtain ⟨u,hu,hr⟩:=hv;exact ⟨u,hu,hr.move f⟩
 | tab P=>exact x
theorem FR.move (f:∀a vs,@Ab6 X h a vs→@Ab6 Y h a vs){L:Addr}{lc:List (Str×SV)}(x:@FR X as h L lc):@FR Y as h L lc:=by
 refine oEA x λm hn hv=>?_
 exact ⟨m,hn,λn sv e=>let ⟨v,a,b⟩:=hv n sv e;⟨v,a,b.move f⟩⟩
theorem FlR.move (f:∀a vs,@Ab6 X h a vs→@Ab6 Y h a vs){x:A8}{y:Flow}(z:@FlR X as h x y):@FlR Y as h x y:=by
 cases z with
 | next=>exact .next
 | brk=>exact .brk
 | cont=>exact .cont
 | ret v x hv=>exact .ret v x (hv.move f)
theorem HR.show (m:∀a∈X.off,a∈Y.off){hp:List A0}(x:@HR Y w g0 as hp h):@HR X w g0 as hp h:=by
 obtain ⟨l,nd,lo,base,at_,hid⟩:=x
 exact @HR.mk X _ _ _ _ _ l nd lo base (λk o e=>let ⟨a,ha,r⟩:=at_ k o e;⟨a,ha,r.move λu0 u0=>Ab6.show m⟩) λa q=>hid a (m a q)
theorem In.show (m:∀a∈X.off,a∈Y.off)(x:@In Y w g0 env c as st h):@In X w g0 env c as st h:=by
 obtain ⟨hr,fr,off,lo,cells⟩:=x
 exact @In.mk X _ _ _ _ _ _ _ (hr.show m) (fr.move λu0 u0=>Ab6.show m) off lo cells
theorem HR.hide (m:Ea3 X Y h)(k:∀b o,h.get? b=some o→h'.get? b=some o)(l:∀a∈Y.off,a∉X.off→∃o,h'.get? a=some o){hp:List A0}(x:@HR X w g0 as hp h):@HR Y w g0 as hp h':=by
 obtain ⟨len,nd,lo,base,at_,hid⟩:=x
 refine @HR.mk Y _ _ _ _ _ len nd lo (λb o e=>k _ _ (base b o e)) (λj p e=>?_) λa q=>?_
 ·obtain ⟨a,ha,r⟩:=at_ j p e
  exact ⟨a,ha,@OR.mono Y _ _ _ _ _ _ _ (@B2.of_keep Y _ _ k) ⟨[],by simp⟩ (λob e'=>k _ _ e') (r.move λu0 u0=>Ab6.hide m)⟩
 ·by_cases z:a∈X.off
  ·obtain ⟨y,o,e⟩:=hid a z;exact ⟨y,o,k _ _ e⟩
  ·refine ⟨?_,l a q z⟩
   cases e:g0.get? a with
   | none=>rfl
   | some o=>have:=base a o e;exact no1 ((m.dead a q z).symm.trans this)
theorem In.hide (m:Ea3 X Y h)(k:∀b o,h.get? b=some o→h'.get? b=some o)(l:∀a∈Y.off,a∉X.off→∃o,h'.get? a=some o)(x:@In X w g0 env c as st h):@In Y w g0 env c as st h':=by
 obtain ⟨hr,fr,off,lo,cells⟩:=x
 exact @In.mk Y _ _ _ _ _ _ _ (hr.hide m k l) (@FR.keep Y _ _ _ _ _ _ (fr.move λu0 u0=>Ab6.hide m) (λo e=>k _ _ e) (@B2.of_keep Y _ _ k) ⟨[],by simp⟩) off lo cells
theorem B2.show (m:Ea3 X Y h)(x:@B2 Y h h'):@B2 X h h':=λa o e i q=>x a o e i λt y=>by
 exact no1 ((m.dead a y (q t)).symm.trans e)
theorem Stp.show (m:Ea3 X Y h){L:Option Addr}(x:@Stp Y L as h as' h'):@Stp X L as h as' h':=by
 obtain ⟨ext,live,keep,imm⟩:=x
 exact @Stp.mk X _ _ _ _ _ ext live keep (imm.show m)
end
section
variable {w:World}{A:Around}{E:Value→Shared→Prop}{s:Shared}
noncomputable abbrev tz1 (h:Heap)(l1:Addr):Heap:=h.push {cls:=.type "tuple_iterator",data:=.fields #[.ref l1,.int 0 0]}
noncomputable abbrev tz2 (h:Heap)(l1 l2:Addr):Heap:=(tz1 h l1).push {cls:=.type "list_iterator",data:=.fields #[.ref l2,.int 0 0]}
noncomputable abbrev tz3 (h:Heap)(l1 l2:Addr):Heap:=(tz2 h l1 l2).push {cls:=.type "tuple",data:=.seq #[.ref h.objs.size,.ref (tz1 h l1).objs.size]}
noncomputable abbrev tz4 (h:Heap)(l1 l2:Addr):Heap:=(tz3 h l1 l2).push {cls:=.type "tuple",data:=.seq #[.none,.none]}
noncomputable abbrev tz5 (h:Heap)(l1 l2:Addr):Heap:=(tz4 h l1 l2).push {cls:=.type "zip",data:=.fields #[.none,.bool false,.bool false,.ref (tz2 h l1 l2).objs.size,.ref (tz3 h l1 l2).objs.size]}
theorem Cs6 (l1 l2:Addr)(xs ys:Array Value):
  Meets (Builtin.«zip.__new__» ⟨[.type "zip",.ref l1,.ref l2],[]⟩) (λu0 R s=>s.heap.IsTuple l1 xs∧s.heap.IsList l2 ys∧
   R (.ok (.ret (.ref (tz4 s.heap l1 l2).objs.size))) {s with heap:=tz5 s.heap l1 l2}):=
 .of_wp λprog w A R s h=>by
  obtain ⟨hp,g,d,tk,os⟩:=s;obtain ⟨hl1,hl2,h⟩:=h
  have hsub:=sub_zip
  have hL1:Heap.IsTuple (Shared.heap ⟨hp,g,d,tk,os⟩) l1 xs:=hl1
  have hL2:Heap.IsList (Shared.heap ⟨hp.push {cls:=.type "tuple_iterator",data:=.fields #[.ref l1,.int 0 0]},g,d,tk,os⟩) l2 ys:=Heap.IsList.push hl2 _
  wp_walk using wpAny_pyIter_tuple hL1,wpAny_pyIter_list hL2
  exact ⟨_,rfl,h⟩
theorem Dl6 {l1 l2:Addr}{xs ys:Array Value}{Q:Value→Shared→Prop}(hl1:s.heap.IsTuple l1 xs)(hl2:s.heap.IsList l2 ys)
  (h:∀h',IsZip h' (s.heap.objs.size+4) (s.heap.objs.size+2) (s.heap.objs.size+3) .none→IsPair h' (s.heap.objs.size+2) (.ref s.heap.objs.size) (.ref (s.heap.objs.size+1))→
   IsPair h' (s.heap.objs.size+3) .none .none→h'.IsTupleIter s.heap.objs.size l1 0→h'.IsListIter (s.heap.objs.size+1) l2 0→
   (∀c o,s.heap.get? c=some o→h'.get? c=some o)→Q (.ref (s.heap.objs.size+4)) {s with heap:=h'}):
  wpAny (model pw w) A (call (.type "zip") [.ref l1,.ref l2]) Q E s:=by
 refine callType_new F.called_zip (by decide) (F.typeCall_zip_2 _ _) (F.newCall_zip_2 _ _) (λobj=>F.args_object_init_3 obj _ _) F.entry_zip_new
  (Cs6 l1 l2 xs ys) ⟨hl1,hl2,?_⟩
 have n1:(tz1 s.heap l1).objs.size=s.heap.objs.size+1:=Heap.size_push ..
 have n2:(tz2 s.heap l1 l2).objs.size=s.heap.objs.size+2:=by rw [Heap.size_push,n1]
 have n3:(tz3 s.heap l1 l2).objs.size=s.heap.objs.size+3:=by rw [Heap.size_push,n2]
 have n4:(tz4 s.heap l1 l2).objs.size=s.heap.objs.size+4:=by rw [Heap.size_push,n3]
 have up1:∀{a o},(tz4 s.heap l1 l2).get? a=some o→(tz5 s.heap l1 l2).get? a=some o:=λe=>Heap.get?_push_of_some _ e
 have up2:∀{a o},(tz3 s.heap l1 l2).get? a=some o→(tz5 s.heap l1 l2).get? a=some o:=λe=>up1 (Heap.get?_push_of_some _ e)
 have up3:∀{a o},(tz2 s.heap l1 l2).get? a=some o→(tz5 s.heap l1 l2).get? a=some o:=λe=>up2 (Heap.get?_push_of_some _ e)
 have up4:∀{a o},(tz1 s.heap l1).get? a=some o→(tz5 s.heap l1 l2).get? a=some o:=λe=>up3 (Heap.get?_push_of_some _ e)
 have q5:(tz5 s.heap l1 l2).get? (tz4 s.heap l1 l2).objs.size=some _:=Heap.get?_push_size _ rfl
 have q4:(tz5 s.heap l1 l2).get? (tz3 s.heap l1 l2).objs.size=some _:=up1 (Heap.get?_push_size _ rfl)
 have q3:(tz5 s.heap l1 l2).get? (tz2 s.heap l1 l2).objs.size=some _:=up2 (Heap.get?_push_size _ rfl)
 have q2:(tz5 s.heap l1 l2).get? (tz1 s.heap l1).objs.size=some _:=up3 (Heap.get?_push_size _ rfl)
 have q1:(tz5 s.heap l1 l2).get? s.heap.objs.size=some _:=up4 (Heap.get?_push_size _ rfl)
 rw [n2,n3,n4] at q5
 rw [n1,n2] at q3
 rw [n3] at q4
 rw [n1] at q2
 show _∧_
 rw [n4]
 exact ⟨⟨_,q5,rfl⟩,h _ q5 q3 q4 ⟨_,q1,rfl,rfl⟩ ⟨_,q2,rfl,rfl⟩ λc o x=>up4 (Heap.get?_push_of_some _ x)⟩
theorem Cb6 {b:Bool}{l1 l2:Addr}{xs ys:Array Value}{Q:Value→Shared→Prop}(hl1:Be6 b s.heap l1 xs)(hl2:s.heap.IsList l2 ys)
  (h:∀h',IsZip h' (s.heap.objs.size+4) (s.heap.objs.size+2) (s.heap.objs.size+3) .none→IsPair h' (s.heap.objs.size+2) (.ref s.heap.objs.size) (.ref (s.heap.objs.size+1))→
   IsPair h' (s.heap.objs.size+3) .none .none→Ba8 b h' s.heap.objs.size l1 0→h'.IsListIter (s.heap.objs.size+1) l2 0→
   (∀c o,s.heap.get? c=some o→h'.get? c=some o)→Q (.ref (s.heap.objs.size+4)) {s with heap:=h'}):
  wpAny (model pw w) A (call (.type "zip") [.ref l1,.ref l2]) Q E s:=by
 cases b with
 | true=>exact Dl6 hl1 hl2 h
 | false=>exact call_zip_2 hl1 hl2 λh' a b c d e u0 g=>h h' a b c d e g
end
theorem Bp7 {n l1 l2:Addr}(a1:l1<n)(a2:l2<n):ZipApart (n+4) (n+2) (n+3) n (n+1) l1 l2:=by
 have f:∀{i j:Nat},i≠j→(n+i:Nat)≠n+j:=λh q=>h (Nat.add_left_cancel q)
 have g:∀{l:Addr},l<n→∀j:Nat,l≠(n+j:Nat):=λh j=>Nat.ne_of_lt (Nat.lt_of_lt_of_le h (Nat.le_add_right n j))
 exact ⟨f (by decide),f (by decide),f (i:=0) (by decide),f (by decide),f (by decide),f (j:=0) (by decide),f (by decide),f (j:=0) (by decide),f (by decide),f (i:=0) (by decide),g a1 4,g a1 3,g a1 0,g a1 1,g a2 4,g a2 3,g a2 0,g a2 1⟩
theorem Ac8 {h:Heap}(k:Nat):h.get? (h.objs.size+k)=none:=Heap.get?_none_of_le (Nat.le_add_right _ k)
theorem mem5 {a b c d e x:Addr}{P:Addr→Prop}(h:x∈[a,b,c,d,e])(pa:P a)(pb:P b)(pc:P c)(pd:P d)(pe:P e):P x:=
 (List.mem_cons.mp h).elim (λq=>q▸pa) λh=>(List.mem_cons.mp h).elim (λq=>q▸pb) λh=>(List.mem_cons.mp h).elim (λq=>q▸pc) λh=>(List.mem_cons.mp h).elim (λq=>q▸pd) λh=>List.mem_singleton.mp h▸pe
structure ZNew (X:Hid)(h h':Heap)(b:Bool)(I TI TO i1 i2 l1 l2:Addr):Prop where
 kp:∀b o,h.get? b=some o→h'.get? b=some o
 dead:∀a∈[I,TI,TO,i1,i2],h.get? a=none
 aI:∃o,h'.get? TI=some o
 aO:∃o,h'.get? TO=some o
 st:@Ar9 ⟨TI::TO::X.off⟩ b h' I TI TO i1 i2 l1 l2 0 .none
theorem Cb3 {X:Hid}{w:World}{g0:Heap}{as:List Addr}{hp:List A0}{b:Bool}{l1 l2:Addr}{xs ys:Array Value}{A:Around}{s:Shared}{Q:Value→Shared→Prop}{E:Value→Shared→Prop}(hr:@HR X w g0 as hp s.heap)(hl1:Be6 b s.heap l1 xs)(hl2:s.heap.IsList l2 ys)
  (k:∀h' I TI TO i1 i2,ZNew X s.heap h' b I TI TO i1 i2 l1 l2→Q (.ref I) {s with heap:=h'}):
  wpAny (model pw w) A (call (.type "zip") [.ref l1,.ref l2]) (λz s1=>wpAny (model pw w) A (pyIter z) Q E s1) E s:=by
 have t1:l1<s.heap.objs.size:=by
  cases b with
  | true=>exact hl1.elim λo ho=>Heap.lt_size ho.1
  | false=>exact hl1.elim λo ho=>Heap.lt_size ho.1
 have D:=Bp7 t1 (hl2.elim λo ho=>Heap.lt_size ho.1)
 refine Cb6 hl1 hl2 λh' hz hTI hTO hi1 hi2 hk=>wpAny_pyIter_zip hz ?_
 have off:∀{a},s.heap.get? a=none→a≠s.heap.objs.size+2→a≠s.heap.objs.size+3→a∉(s.heap.objs.size+2)::(s.heap.objs.size+3)::X.off:=λe q1 q2 m=>
  (List.mem_cons.mp m).elim q1 λm=>(List.mem_cons.mp m).elim q2 ((λe=>@HR.shown X _ _ _ _ _ hr _ e) e)
 exact k h' _ _ _ _ _ ⟨hk,λa m=>mem5 (P:=λa=>s.heap.get? a=none) m (Ac8 4) (Ac8 2) (Ac8 3) (Ac8 0) (Ac8 1),⟨_,hTI⟩,⟨_,hTO⟩,@Ar9.mk ⟨_⟩ _ _ _ _ _ _ _ _ _ _ _ D List.mem_cons_self (List.mem_cons_of_mem _ List.mem_cons_self)
  (off (Ac8 4) D.TIz.symm D.TOz.symm) (off (Ac8 0) D.TIi1.symm D.TOi1.symm) (off (Ac8 1) D.TIi2.symm D.TOi2.symm) hz hTI ⟨_,_,hTO⟩ hi1 hi2⟩
structure ZMade (X:Hid)(w:World)(as:List Addr)(h h':Heap)(it:SIt)(I TI TO i1 i2:Addr):Prop where
 kp:∀b o,h.get? b=some o→h'.get? b=some o
 dead:∀a∈[I,TI,TO,i1,i2],h.get? a=none
 aI:∃o,h'.get? TI=some o
 aO:∃o,h'.get? TO=some o
 it:@ItR ⟨TI::TO::X.off⟩ w as h' it I [I,TI,TO,i1,i2]
def Zip0C (X:Hid)(w:World)(g0:Heap)(as:List Addr)(st st':St)(u v:SV)(it:SIt):Prop:=st'=st∧Ah8 it=true∧
  ∀{A:Around} {s:Shared} {x y:Value},@HR X w g0 as st.hp s.heap→@VR X as s.heap u x→@VR X as s.heap v y→∀(Q:Value→Shared→Prop) (E:Value→Shared→Prop),
   (∀h' I TI TO i1 i2,ZMade X w as s.heap h' it I TI TO i1 i2→Q (.ref I) {s with heap:=h'})→
   wpAny (model pw w) A (call (.type "zip") [x,y]) (λz s1=>wpAny (model pw w) A (pyIter z) Q E s1) E s
theorem zip0_s {X:Hid}{w:World}{g0:Heap}{as:List Addr}{st st':St}{u v:SV}{it:SIt}{ob:List Prop}(e:zip0 u v st=some (it,st',ob)):Zip0C X w g0 as st st' u v it:=by
 have li:∀{k:Nat} {r:List SV} {m:Nat},st.hp[k]?=some (.list r m)→∀{s:Shared} {x:Value},@HR X w g0 as st.hp s.heap→@VR X as s.heap (.loc k) x→∃a vs,x = .ref a∧as[k]?=some a∧s.heap.IsList a vs:=by
  intro k r m hx s x hr vx
  obtain ⟨a,rfl,ha,hl,us,ep,ho,hu⟩:=@HR.loc X _ _ _ _ _ _ _ _ hr vx hx
  exact ⟨a,_,rfl,ha,Aa4 ho⟩
 cases u with
 | tup l=>
  refine A6 e λk hk e=>listE e λr m hx e=>?_
  simp only [Ab9 hk]
  refine A4 e ⟨rfl,rfl,λ{A s x y} hr vx vy Q E kk=>?_⟩
  refine Ae3 (li hx hr vy) λb ys z2 hb hl2=>?_;subst z2
  refine Ae3 (@VR.tupI X _ _ _ _ vx) λt vs z2 ht hv=>?_;subst z2
  refine Cb3 (b:=true) hr (@Ab6.tuple X _ _ _ ht) hl2 λh' I TI TO i1 i2 Z=>kk h' I TI TO i1 i2 ⟨Z.kp,Z.dead,Z.aI,Z.aO,?_⟩
  have m:Ea3 X ⟨TI::TO::X.off⟩ s.heap:=⟨λa q=>List.mem_cons_of_mem _ (List.mem_cons_of_mem _ q),λa q q'=>
   (List.mem_cons.mp q).elim (λq=>q▸Z.dead TI (List.mem_cons_of_mem _ List.mem_cons_self)) λq=>(List.mem_cons.mp q).elim (λq=>q▸Z.dead TO (List.mem_cons_of_mem _ (List.mem_cons_of_mem _ List.mem_cons_self))) λq=>absurd q q'⟩
  exact ⟨TI,TO,i1,i2,t,b,vs,rfl,Z.st,hb,@Ag0 ⟨_⟩ _ _ (@B2.of_keep ⟨TI::TO::X.off⟩ _ _ Z.kp) _ _ (ht.hide m),@VRs.mono ⟨_⟩ _ _ _ _ (@B2.of_keep ⟨TI::TO::X.off⟩ _ _ Z.kp) ⟨[],(List.append_nil _).symm⟩ _ _ (hv.move λu0 u0=>Ab6.hide m)⟩
 | loc j=>
  refine A6 e λk hk e=>listE e λr m hx e=>listE e λr2 m2 hx2 e=>?_
  simp only [Ab9 hk]
  refine A4 e ⟨rfl,rfl,λ{A s x y} hr vx vy Q E kk=>?_⟩
  refine Ae3 (li hx hr vx) λa xs z2 ha hl1=>?_;subst z2
  refine Ae3 (li hx2 hr vy) λb ys z2 hb hl2=>?_;subst z2
  exact Cb3 (b:=false) hr hl1 hl2 λh' I TI TO i1 i2 Z=>kk h' I TI TO i1 i2 ⟨Z.kp,Z.dead,Z.aI,Z.aO,TI,TO,i1,i2,a,b,rfl,Z.st,hb,ha⟩
 | _=>exact no1 e
theorem Bv4:typeLookup (.type "zip") "__len__"=pure none:=by kernel_rfl
theorem Bk8:typeLookup (.type "zip") "__length_hint__"=pure none:=by kernel_rfl
section
variable {w:World}{A:Around}{E:Value→Shared→Prop}{s:Shared}
theorem Cq1 {a:Addr}{Q:Option Obj→Shared→Prop}(h:Q (s.heap.get? a) s):wpAny (model pw w) A (loadIfAlive a) Q E s:=λΓ p hΓ=>by
 exact wpAny_pure (M:=model pw w) (A:=A) (E:=E) (a:=s.heap.get? a) (Q:=Q) h Γ p hΓ
theorem Dk4 [HI:Hid]{b:Bool}{z TI TO i1 i2 l1 l2:Addr}{k:Nat}{xs:Array Value}{p q:Value}{T:Addr}{Q:Option Value→Shared→Prop}(hh:A.handled=none)(D:ZipApart z TI TO i1 i2 l1 l2)
  (hz:IsZip s.heap z TI TO (rawInt T))(hTI:IsPair s.heap TI (.ref i1) (.ref i2))(hTO:IsPair s.heap TO p q)
  (h1:Ba8 b s.heap i1 l1 k)(hl1:Be6 b s.heap l1 xs)(hx:xs[k]?=none)
  (hN:∀h',Zk z TO i1 i2 s.heap h'→Q none {s with heap:=h'}):wpAny (model pw w) A (pyNext (.ref z)) Q E s:=by
 have hT:s.TypeIs (.ref z) "zip":=⟨_,hz,rfl⟩
 refine wpAny_bind (wpAny_attempt (wpAny_callSpecial?_slot (name:=Str.ofString "__next__") hT F.slot_zip_next (wpAny_call_entry F.slot_zip_next hT F.entry_zip_next ?_ (F.args_zip_next_1 _))))
 have stop:∀(h':Heap) (e:Addr),Zk z TO i1 i2 s.heap h'→(∃o,h'.get? e=some o∧o.cls = .type "StopIteration")→
   wpAny (model pw w) A (do if ← isInstance (.ref e) (.type "StopIteration") then return none else throw (.ref e)) Q E {s with heap:=h'}:=λh' e hk ⟨o,ho,hc⟩=>
  wpAny_bind (wpAny_isInstance (T:="StopIteration") (b:=true) ⟨o,ho,hc⟩ isSubtype_stop (wpAny_pure (hN h' hk)))
 show wpAny _ _ (field (.ref z) 2>>=_) _ _ _
 refine wpAny_bind (wpAny_field hz rfl (x:=.bool false) rfl ?_)
 refine wpAny_bind (wpAny_field hz rfl (x:=.ref TI) rfl (wpAny_bind (wpAny_seqItems hTI rfl ?_)))
 refine wpAny_bind ?_
 refine wpAny_bind (wpAny_field hz rfl (x:=rawInt T) rfl ?_)
 refine wpAny_bind (Cq1 ?_)
 cases hal:s.heap.get? ((T:Int).toNat) with
 | none=>
  refine wpAny_pure ?_
  refine wpAny_bind (wpAny_rule (wpAny_bind (wpAny_field hz rfl (x:=.ref TO) rfl (wpAny_bind (wpAny_setField_rec hz (by simp) λg1 z1 e1=>?_)))))
  have k1:Zk z TO i1 i2 s.heap g1:=λc o c1 u0 u0 u0 e=>e1.extBut _ _ c1 e
  refine wpAny_bind ?_
  refine wpAny_bind (wpAny_bind (wpAny_onRaise ?_))
  have a1:Ba8 b g1 i1 l1 k:=h1.to λo e=>e1.extBut _ _ D.i1z e
  have b1:Be6 b g1 l1 xs:=hl1.to λo e=>e1.extBut _ _ D.l1z e
  refine wpAny_bind (An3 hh a1 b1 hx λg2 e e2 he=>?_)
  obtain ⟨oe,hoe,hce⟩:=he
  have z2:IsZip g2 z TI TO .ellipsis:=e2 _ _ D.i1z.symm z1
  have nz:e≠z:=λx=>by subst x;rw [z2] at hoe;(replace hoe:=A9 hoe;subst hoe);simp at hce
  exact wpAny_setField_rec z2 (by simp) λg3 u0 e3=>stop g3 e (λc o c1 c2 c3 c4 q=>e3.extBut _ _ c1 (e2 _ _ c3 (k1 c o c1 c2 c3 c4 q))) ⟨oe,e3.extBut _ _ nz hoe,hce⟩
 | some o=>
  refine wpAny_bind (wpAny_field hz rfl (x:=.bool false) rfl ?_)
  refine wpAny_ite_split (λu0=>?_) (λq=>absurd (by decide) q)
  refine wpAny_bind (wpAny_setField_rec hz (by simp) λg1 z1 e1=>wpAny_pure ?_)
  have k1:Zk z TO i1 i2 s.heap g1:=λc o c1 u0 u0 u0 e=>e1.extBut _ _ c1 e
  refine wpAny_bind ?_
  simp only [List.forIn_cons,List.forIn_nil]
  refine wpAny_bind (wpAny_bind (wpAny_holding ?_))
  refine wpAny_bind (An3 hh (h1.to λo e=>e1.extBut _ _ D.i1z e) (hl1.to λo e=>e1.extBut _ _ D.l1z e) hx λg2 e e2 he=>?_)
  exact stop g2 e (λc o c1 c2 c3 c4 q=>e2 _ _ c3 (k1 c o c1 c2 c3 c4 q)) he
def ZAcc (s:Shared)(h:Heap)(xs ys acc:Array Value):Prop:=acc.size=xs.size∧∀(j:Nat) (v:Value),acc[j]?=some v→∃(T:Addr) (x y:Value),v = .ref T∧xs[j]?=some x∧ys[j]?=some y∧IsPair h T x y∧s.heap.get? T=none
theorem Dk1 [HI:Hid]{b:Bool}{z TI TO i1 i2 l1 l2 S:Addr}{xs ys:Array Value}{p q res:Value}{c:Nat}{R:Result→Shared→Prop}(hh:A.handled=none)(D:ZipApart z TI TO i1 i2 l1 l2)
  (hz:IsZip s.heap z TI TO .none)(hTI:IsPair s.heap TI (.ref i1) (.ref i2))(hTO:IsPair s.heap TO p q)
  (h1:Ba8 b s.heap i1 l1 0)(h2:s.heap.IsListIter i2 l2 0)(hl1:Be6 b s.heap l1 xs)(hl2:s.heap.IsList l2 ys)(hx1:xs.size≤1)(hxy:xs.size≤ys.size)
  (hS:s.heap.get? S=some {cls:=.type "list",dict:=none,data:=.seq #[] c,slots:=#[]})(hSo:S∉[z,TI,TO,i1,i2,l1,l2])
  (hR:∀h' acc c',(∀a o,a∉[S,z,TO,i1,i2]→s.heap.get? a=some o→h'.get? a=some o)→h'.get? S=some {cls:=.type "list",dict:=none,data:=.seq acc c',slots:=#[]}→ZAcc s h' xs ys acc→R (.ok (.ret res)) {s with heap:=h'}):
  codeAny (model pw w) A (.builtin "list.extend.loop" ⟨[.ref S,.ref z,res],[]⟩) R s:=by
 have nS:S≠z∧S≠TI∧S≠TO∧S≠i1∧S≠i2∧S≠l1∧S≠l2:=by
  simp only [List.mem_cons,List.not_mem_nil,or_false,not_or] at hSo
  exact hSo
 obtain ⟨n1,n2,n3,n4,n5,n6,n7⟩:=nS
 have zk:∀{h':Heap},Zk z TO i1 i2 s.heap h'→∀a o,a∉[S,z,TO,i1,i2]→s.heap.get? a=some o→h'.get? a=some o:=λhk a o m e=>
  hk a o (λq=>m (by simp [q])) (λq=>m (by simp [q])) (λq=>m (by simp [q])) (λq=>m (by simp [q])) e
 refine codeAny_builtin PySem.F.entry_extend_loop ?_
 refine wpAny_bind (Bp8 (show A.in1.handled=none from hh) D hz hTI hTO h1 h2 hl1 hl2 (λx y hx hy h' T dead hz' hTO' a1 a2 hT hk=>?_) (λhn h' hk u0=>?_))
 ·have hx0:xs.size=1:=by
   have:=(Array.getElem?_eq_some_iff.mp hx).1
   lia
  have nT:∀a o,s.heap.get? a=some o→a≠T:=λa o e q=>by simp only [q,dead] at e;exact no1 e
  have hS':=hk S _ n1 n3 n4 n5 hS
  refine wpAny_bind (wpAny_updateSeq hS' rfl (wpAny_pure ⟨plainId_quiet PySem.F.plain_extend_loop _,?_⟩) (by simp [sizeLine_eq]) (by simp [sizeLine_eq]))
  have up:∀a o,a≠S→h'.get? a=some o→(h'.update S (Obj.mapSeq (·.push (Value.ref T)))).get? a=some o:=λa o m e=>(Heap.SameBut.update (h:=h') (a:=S) (f:=Obj.mapSeq (·.push (Value.ref T)))).extBut _ _ m e
  obtain ⟨c',hS3⟩:∃c',(h'.update S (Obj.mapSeq (·.push (Value.ref T)))).get? S=some {cls:=.type "list",dict:=none,data:=.seq #[.ref T] c',slots:=#[]}:=⟨_,Heap.get?_update_self _ hS' rfl⟩
  refine codeAny_builtin PySem.F.entry_extend_loop ?_
  refine wpAny_bind (Dk4 (s:={s with heap:=h'.update S (Obj.mapSeq (·.push (Value.ref T)))}) (b:=b) (k:=0+1) (xs:=xs) (p:=x) (q:=y) (l1:=l1) (show A.in1.handled=none from hh) D (up _ _ n1.symm hz') (up _ _ n2.symm (hk _ _ D.TIz D.TITO D.TIi1 D.TIi2 hTI)) (up _ _ n3.symm hTO') (a1.to λo e=>up _ o n4.symm e)
   ((hl1.to λo e=>hk _ o D.l1z D.l1TO D.l1i1 D.l1i2 e).to λo e=>up _ o n6.symm e) (by rw [Array.getElem?_eq_none_iff];omega) λh4 hk4=>?_)
  refine wpAny_pure (hR h4 #[.ref T] c' (λa o m e=>?_) (hk4 S _ n1 n3 n4 n5 hS3) ⟨by simp only [hx0];rfl,λj v hv=>?_⟩)
  ·exact hk4 a o (λq=>m (by simp [q])) (λq=>m (by simp [q])) (λq=>m (by simp [q])) (λq=>m (by simp [q])) (up a o (λq=>m (by simp [q])) (zk hk a o m e))
  ·cases j with
   | zero=>
    simp at hv;subst hv
    obtain ⟨oz,hoz⟩:∃o,s.heap.get? z=some o:=⟨_,hz⟩
    obtain ⟨o1,ho1,_⟩:∃o,s.heap.get? i1=some o∧¬ Imm o:=h1.there
    refine oEA (id h2) λo2 ho2 u0=>?_
    exact ⟨T,x,y,rfl,hx,hy,hk4 T _ (nT _ _ hoz).symm (nT _ _ hTO).symm (nT _ _ ho1).symm (nT _ _ ho2).symm (up T _ (nT _ _ hS).symm hT),dead⟩
   | succ j=>simp at hv
 ·have hx0:xs.size=0:=by
   rcases hn with q | q
   ·have:=Array.getElem?_eq_none_iff.mp q;lia
   ·have:=Array.getElem?_eq_none_iff.mp q;lia
  exact wpAny_pure (hR h' #[] c (zk hk) (hk S _ n1 n3 n4 n5 hS) ⟨hx0.symm,λj v hv=>by simp at hv⟩)
end
section
variable {w:World}{A:Around}{E:Value→Shared→Prop}{s:Shared}
def ZDone (s:Shared)(z TO i1 i2 S:Addr)(xs ys:Array Value)(h':Heap):Prop:=∃acc c',(∀a o,a∉[S,z,TO,i1,i2]→s.heap.get? a=some o→h'.get? a=some o)∧h'.get? S=some {cls:=.type "list",dict:=none,data:=.seq acc c',slots:=#[]}∧ZAcc s h' xs ys acc
theorem Cb2 [HI:Hid]{b:Bool}{z TI TO i1 i2 l1 l2 S:Addr}{xs ys:Array Value}{p q res:Value}{c:Nat}{R:Result→Shared→Prop}(hh:A.handled=none)(D:ZipApart z TI TO i1 i2 l1 l2)
  (hz:IsZip s.heap z TI TO .none)(hTI:IsPair s.heap TI (.ref i1) (.ref i2))(hTO:IsPair s.heap TO p q)
  (h1:Ba8 b s.heap i1 l1 0)(h2:s.heap.IsListIter i2 l2 0)(hl1:Be6 b s.heap l1 xs)(hl2:s.heap.IsList l2 ys)(hx1:xs.size≤1)(hxy:xs.size≤ys.size)
  (hS:s.heap.get? S=some {cls:=.type "list",dict:=none,data:=.seq #[] c,slots:=#[]})(hSo:S∉[z,TI,TO,i1,i2,l1,l2])
  (hR:∀h',ZDone s z TO i1 i2 S xs ys h'→R (.ok (.ret res)) {s with heap:=h'}):
  wpAny (model pw w) A.in1 (Builtin.List.listExtendWith (.ref S) (.ref z) res)
   (λfin s'=>match fin with | .done f=>R (.ok f) s' | .again c'=>c'.quiet=true∧codeAny (model pw w) A c' R s') (λe s'=>R (.error e) s') s:=by
 have hSz:S≠z:=λe=>hSo (by simp [e])
 have hTy:s.TypeIs (.ref z) "zip":=⟨_,hz,rfl⟩
 refine wpAny_bind (wpAny_typeOf hTy ?_)
 have h1':Builtin.List.listSameRef (.ref S) (.ref z)=false:=by simp [Builtin.List.listSameRef,hSz]
 have h2':(Value.type "zip" == Value.type "list")=false:=by decide
 have h3':(Value.type "zip" == Value.type "tuple")=false:=by decide
 simp only [h1',h2',h3',Bool.or_false,Bool.false_eq_true,if_false]
 refine wpAny_bind (wpAny_pyIter_zip hz ?_)
 refine wpAny_bind (wpAny_holding ?_)
 refine wpAny_bind (wpAny_specialOf hTy Bv4 ?_)
 refine wpAny_bind (wpAny_specialOf hTy Bk8 ?_)
 refine wpAny_pure ?_
 show wpAny _ A.in1 (rule "list.extend.makes-room" >>= λu0=>Builtin.List.listTouch (.ref S)>>=λu0=>
  again (.builtin "list.extend.loop" ⟨[.ref S,.ref z,res],[]⟩)) _ _ _
 refine wpAny_bind (wpAny_rule ?_)
 refine wpAny_bind ?_
 refine wpAny_bind (wpAny_updateSeq hS rfl ?_)
 have hS₂:=Heap.get?_update_self (Obj.mapSeq (·.push Value.none)) hS rfl
 refine wpAny_updateSeq (hz:=by seq_fits) hS₂ rfl ?_
 have hS₃:=Heap.get?_update_self (Obj.mapSeq (·.pop)) hS₂ rfl
 have oth:∀b o,b≠S→s.heap.get? b=some o→((s.heap.update S (Obj.mapSeq (·.push Value.none))).update S (Obj.mapSeq (·.pop))).get? b=some o:=
  λb o hb e=>(Heap.get?_update_other _ _ (Ne.symm hb)).trans ((Heap.get?_update_other _ _ (Ne.symm hb)).trans e)
 simp only [List.mem_cons,List.not_mem_nil,or_false,not_or] at hSo
 obtain ⟨n1,n2,n3,n4,n5,n6,n7⟩:S≠z∧S≠TI∧S≠TO∧S≠i1∧S≠i2∧S≠l1∧S≠l2:=hSo
 refine wpAny_pure ⟨plainId_quiet PySem.F.plain_extend_loop _,Dk1 (s:={s with heap:=(s.heap.update S (Obj.mapSeq (·.push Value.none))).update S (Obj.mapSeq (·.pop))}) hh D (oth _ _ n1.symm hz) (oth _ _ n2.symm hTI) (oth _ _ n3.symm hTO) (h1.to λo e=>oth _ o n4.symm e) (h2.at λo e=>oth _ o n5.symm e)
  (hl1.to λo e=>oth _ o n6.symm e) (hl2.at λo e=>oth _ o n7.symm e) hx1 hxy hS₃ (by simp only [List.mem_cons,List.not_mem_nil,or_false,not_or];exact ⟨n1,n2,n3,n4,n5,n6,n7⟩) λh' acc c' hk hS' ha=>hR h' ⟨acc,c',λa o m e=>hk a o m (oth a o (λq=>m (by simp [q])) e),hS',ha.1,λj v e=>?_⟩⟩
 obtain ⟨T,x,y,e1,e2,e3,e4,e5⟩:=ha.2 j v e
 refine ⟨T,x,y,e1,e2,e3,e4,?_⟩
 cases q:s.heap.get? T with
 | none=>rfl
 | some o=>
  by_cases z:T=S
  ·subst z
   have e5':((s.heap.update T (Obj.mapSeq (·.push Value.none))).update T (Obj.mapSeq (·.pop))).get? T=none:=e5
   rw [hS₃] at e5';exact no3 e5'
  ·have e5':((s.heap.update S (Obj.mapSeq (·.push Value.none))).update S (Obj.mapSeq (·.pop))).get? T=none:=e5
   replace e5':=(oth T o z q).symm.trans e5';exact nomatch e5'
theorem Dk2 [HI:Hid]{b:Bool}{z TI TO i1 i2 l1 l2:Addr}{xs ys:Array Value}{p q:Value}{Q:Value→Shared→Prop}(hh:A.handled=none)(D:ZipApart z TI TO i1 i2 l1 l2)
  (hz:IsZip s.heap z TI TO .none)(hTI:IsPair s.heap TI (.ref i1) (.ref i2))(hTO:IsPair s.heap TO p q)
  (h1:Ba8 b s.heap i1 l1 0)(h2:s.heap.IsListIter i2 l2 0)(hl1:Be6 b s.heap l1 xs)(hl2:s.heap.IsList l2 ys)(hx1:xs.size≤1)(hxy:xs.size≤ys.size)
  (hQ:∀h',ZDone s z TO i1 i2 s.heap.objs.size xs ys h'→Q (.ref s.heap.objs.size) {s with heap:=h'}):
  wpAny (model pw w) A (call (.type "list") [.ref z]) Q E s:=by
 have dead:∀a o,s.heap.get? a=some o→s.heap.objs.size≠a:=λa o e q=>by rw [← q,Ac2] at e;exact no1 e
 have kp:∀a o,s.heap.get? a=some o→(s.heap.push {cls:=.type "list",data:=.seq #[]}).get? a=some o:=λa o e=>Heap.get?_push_of_some _ e
 have hSo:s.heap.objs.size∉[z,TI,TO,i1,i2,l1,l2]:=by
  simp only [List.mem_cons,List.not_mem_nil,or_false,not_or]
  refine ⟨dead _ _ hz,dead _ _ hTI,dead _ _ hTO,?_,?_,?_,?_⟩
  ·refine oEA (h1.there) λo ho u0=>?_;exact dead _ _ ho
  ·refine oEA h2 λo ho u0=>?_;exact dead _ _ ho
  ·cases b with
   | true=>obtain ⟨o,ho,_⟩:=hl1;exact dead _ _ ho
   | false=>obtain ⟨o,ho,_⟩:=hl1;exact dead _ _ ho
  ·refine oEA hl2 λo ho u0=>?_;exact dead _ _ ho
 refine callType_codes (Q₁:=λobj s₁=>obj = .ref s.heap.objs.size∧s₁ = {s with heap:=s.heap.push {cls:=.type "list",data:=.seq #[]}}) PySem.F.called_list (PySem.F.typeCall_list_1 _) PySem.F.entry_list_init
  (code_list_new _ ⟨rfl,rfl⟩) λobj s₁ h₁=>?_
 obtain ⟨rfl,rfl⟩:=h₁
 have hS:(s.heap.push {cls:=.type "list",data:=.seq #[]}).get? s.heap.objs.size=some {cls:=.type "list",data:=.seq #[]}:=Heap.get?_push_size _ rfl
 refine ⟨⟨_,hS,rfl⟩,PySem.F.args_list_init_2 _ _,?_⟩
 show wpAny _ A.in1.in1 (do let old ← Builtin.List.listItems (.ref s.heap.objs.size);Builtin.List.listUpdate (.ref s.heap.objs.size) (λu0=>#[]);letGo old.toList.reverse;Builtin.List.listExtendWith (.ref s.heap.objs.size) (.ref z) .none) _ _ _
 refine wpAny_bind ?_
 refine wpAny_bind (wpAny_seqItems hS rfl (wpAny_pure ?_))
 refine wpAny_bind (wpAny_updateSeq hS rfl ?_)
 have hS₂:=Heap.get?_update_self (Obj.mapSeq (λu0=>(#[]:Array Value))) hS rfl
 have oth:∀b o,b≠s.heap.objs.size→(s.heap.push {cls:=.type "list",data:=.seq #[]}).get? b=some o→((s.heap.push {cls:=.type "list",data:=.seq #[]}).update s.heap.objs.size (Obj.mapSeq (λu0=>(#[]:Array Value)))).get? b=some o:=
  λb o hb e=>(Heap.get?_update_other _ _ (Ne.symm hb)).trans e
 have up:∀a o,s.heap.get? a=some o→((s.heap.push {cls:=.type "list",data:=.seq #[]}).update s.heap.objs.size (Obj.mapSeq (λu0=>(#[]:Array Value)))).get? a=some o:=λa o e=>oth a o (dead a o e).symm (kp a o e)
 refine wpAny_bind (wpAny_letGo ?_)
 refine Cb2 (s:={s with heap:=(s.heap.push {cls:=.type "list",data:=.seq #[]}).update s.heap.objs.size (Obj.mapSeq (λu0=>(#[]:Array Value)))}) (A:=A.in1) hh D (up _ _ hz) (up _ _ hTI) (up _ _ hTO) (h1.to λo e=>up _ o e) (h2.at λo e=>up _ o e) (hl1.to λo e=>up _ o e) (hl2.at λo e=>up _ o e) hx1 hxy hS₂ hSo λh' hd=>⟨rfl,hQ h' ?_⟩
 obtain ⟨acc,c',hk,hS',ha1,ha2⟩:=hd
 refine ⟨acc,c',λa o m e=>hk a o m (up a o e),hS',ha1,λj v e=>?_⟩
 obtain ⟨T,x,y,e1,e2,e3,e4,e5⟩:=ha2 j v e
 refine ⟨T,x,y,e1,e2,e3,e4,?_⟩
 cases q:s.heap.get? T with
 | none=>rfl
 | some o=>
  have e5':((s.heap.push {cls:=.type "list",data:=.seq #[]}).update s.heap.objs.size (Obj.mapSeq (λu0=>(#[]:Array Value)))).get? T=none:=e5
  rw [up T o q] at e5';exact no3 e5'
end
namespace Enu
theorem getattr_none:typeLookup (.type "enumerate") "__getattr__"=pure none:=by kernel_rfl
theorem entry:entryFor table "enumerate.__getattribute__"=some Builtin.«object.__getattribute__»:=
 entryFor_alias (id':="object.__getattribute__") (by kernel_rfl) (by decide +kernel) (by decide +kernel) (by kernel_rfl)
theorem miss:typeLookup (.type "enumerate") "keys"=pure none:=am_miss_of_fast (by kernel_rfl)
theorem plain:plainId "dict.update.loop"=true:=by decide +kernel
theorem loop:entryFor table "dict.update.loop"=some Builtin.«dict.update.loop»:=entryFor_of_tree (by kernel_rfl)
end Enu
theorem Av7 (a:Addr)(vs:Array Value)(sl:Array (Option Value))(u:Tok):
  Meets (Builtin.«object.__getattribute__» ⟨[.ref a,.str "keys" u],[]⟩) (λA R s=>s.heap.get? a=some {cls:=.type "enumerate",dict:=none,data:=.fields vs,slots:=sl}∧raisesAttr (.ref a) "keys" A R s):=
 Meets.of_wp λprog w A R s hs=>by
  obtain ⟨hp,g,d,tk,os⟩:=s
  obtain ⟨hx,hs⟩:=hs
  have hT:(⟨hp,g,d,tk,os⟩:Shared).TypeIs (.ref a) "enumerate":=⟨_,hx,rfl⟩
  have hmiss:=Enu.miss
  unfold Builtin.«object.__getattribute__»
  repeat (any_goals (first | assumption | wp_step))
  exact wpAny_raiseAttrError hs.1 hs.2 (attrMsg_fits (by decide +kernel) (by decide))
section
variable {w:World}{A:Around}{E:Value→Shared→Prop}{s:Shared}
theorem Cj5 {e it:Addr}{i:Int}{old:Value}{Q:Option Value→Shared→Prop}(hA:A.handled=none)(he:IsEnum s.heap e it i old)
  (h:∀h' tk,(∀b o,s.heap.get? b=some o→h'.get? b=some o)→Q none {s with heap:=h',toks:=tk}):wpAny (model pw w) A (getAttr? (.ref e) "keys") Q E s:=by
 obtain ⟨hp,g,d,tk,os⟩:=s
 have hx:hp.get? e=_:=he
 have hT:∀tk',(⟨hp,g,d,tk',os⟩:Shared).TypeIs (.ref e) "enumerate":=λu0=>⟨_,hx,rfl⟩
 have f1:=sub_AttributeError
 have f3:=F.slot_enumerate_getattribute.lookup
 have f4:=F.slot_enumerate_getattribute.bind (.ref e)
 have f5:=Enu.getattr_none
 unfold getAttr? getAttrBy? getAttrBy
 repeat (any_goals (first | assumption | exact hT _ | ((with_reducible show wpAny _ _ (call (Value.builtin "enumerate.__getattribute__") _ _) _ _ _);refine call_meets F.slot_enumerate_getattribute (hT _) Enu.entry (F.args_enumerate_getattribute_2 _ _) (Av7 e _ _ _) ⟨hx,hA,λh' tk' e' hx'=>?_⟩) | wp_step))
 obtain ⟨t',u',he'⟩:=hx'.there
 show wpAny _ _ (getattributeRaised _ _ _ _ _ _ _) _ _ _
 unfold getattributeRaised
 repeat (any_goals (first | assumption | wp_step))
 exact h h' tk' hx'.keeps
theorem Cn5 [HI:Hid]{e it l:Addr}{Q:Value→Shared→Prop}(hh:A.handled=none)(he:IsEnum s.heap e it 0 .none)(hi:s.heap.IsListIter it l 0)(hl:s.heap.IsList l #[])
  (h:∀h' tk,h'.DictOf (Aa1 w) s.heap.objs.size ([]:List (MK×Value))→(∀a o,a≠e→a≠it→s.heap.get? a=some o→h'.get? a=some o)→Q (.ref s.heap.objs.size) {s with heap:=h',toks:=tk}):
  wpAny (model pw w) A (call (.type "dict") [.ref e]) Q E s:=by
 refine callType_codes (Q₁:=λobj s₁=>obj = .ref s.heap.objs.size∧s₁ = {s with heap:=s.heap.push {cls:=.type "dict",data:=.dict #[]}}) PySem.F.kt_called_dict (PySem.F.kt_typeCall_dict_1 _) PySem.F.entry_dict_init (kt_code_dict_new _ ⟨rfl,rfl⟩) ?_
 rintro obj s₁ ⟨rfl,rfl⟩
 have kp:∀a o,s.heap.get? a=some o→(s.heap.push {cls:=.type "dict",data:=.dict #[]}).get? a=some o:=λa o q=>Heap.get?_push_of_some _ q
 have hnew:(s.heap.push {cls:=.type "dict",data:=.dict #[]}).DictOf (Aa1 w) s.heap.objs.size []:=Heap.DictOf.new s.heap
 have hTe:Shared.TypeIs {s with heap:=s.heap.push {cls:=.type "dict",data:=.dict #[]}} (.ref e) "enumerate":=⟨_,kp _ _ he,rfl⟩
 refine ⟨hnew.typeIs,PySem.F.args_dict_init_2 _ _,?_⟩
 refine wpAny_bind ?_
 refine wpAny_bind (wpAny_notOrdered_dict hnew.typeIs ?_)
 refine wpAny_pure ?_
 show wpAny _ _ (Builtin.Dict.updateFrom "dict.__init__" s.heap.objs.size (.ref e) [] .none) _ _ _
 refine wpAny_bind (wpAny_typeOf hTe ?_)
 refine wpAny_bind (m:=getAttr? (.ref e) "keys") (Cj5 (by simp [hh]) (kp _ _ he) λh1 tk k1=>?_)
 refine wpAny_bind (wpAny_rule ?_)
 have he1:IsEnum h1 e it 0 .none:=k1 _ _ (kp _ _ he)
 have hl1:h1.IsList l #[]:=hl.at λo q=>k1 _ _ (kp _ _ q)
 refine wpAny_bind (wpAny_pyIter_enum he1 ?_)
 refine wpAny_pure ⟨plainId_quiet Enu.plain _,codeAny_builtin Enu.loop ?_⟩
 rw [Around.under_plainId Enu.plain _]
 refine wpAny_bind (wpAny_pyNext_enum_end (i:=0) (by simp [hh]) he1 (hi.at λo q=>k1 _ _ (kp _ _ q)) hl1 rfl λh2 x=>?_)
 have nit:s.heap.objs.size≠it:=λq=>by
  refine oEA hi λo ho u0=>?_
  exact absurd (Heap.lt_size ho) (by exact q▸Nat.lt_irrefl _)
 refine wpAny_bind (wpAny_pure (wpAny_pure ?_))
 refine ⟨rfl,h h2 tk ?_ λa o n1 n2 q=>x a _ n2 (k1 _ _ (kp _ _ q))⟩
 obtain ⟨o,es,ep,ho,r⟩:=hnew
 exact ⟨o,es,ep,x _ _ nit (k1 _ _ ho),r⟩
end
section
variable [HI:Hid]
section
variable {w:World}{G:Top}{K:Frag}{g0:Heap}{mg mb:Str→Option Value}{env:Env}{c:EC}{A:Around}{as:List Addr}{st st1 st2 st':St}{s:Shared}{M n:Nat}{R:Rec}
abbrev EvsC (w:World)(g0:Heap)(c:EC)(m:Nat)(st st':St)(es:List Expr)(l:List SV):Prop:=
 es.all Ac1=true∧∀{env A as s},EOk env c→AOk A m→In w g0 env c as st s.heap→∀pos,Tr w g0 env c A as s st' (PVs l) (spliced (backTo pos (starEach es env)))
theorem evsF_s (S:Snd w K g0 M n R){es:List Expr}{l:List SV}{ob:List Prop}(e:evsF R c es st=some (l,st',ob))(hob:All ob):EvsC w g0 c (M+4*n) st st' es l:=by
 cases es with
 | nil=>exact A4 e ⟨rfl,λ{env A as s} O ok I pos=>λQ E k=>Calls.spliced_nil (k as s.heap s.toks _ I (Stp.refl _ _ _) VRs.nil)⟩
 | cons x r=>
  unfold evsF at e
  revert hob;refine B5 e ?_;clear e;intro v st1 o1 o2 h1 e hob
  revert hob;refine B5 e ?_;clear e;intro l' st2 o3 o4 h2 e hob
  refine oA (S.ev h1 hob.left) λhx h1=>?_
  refine oA (S.evs h2 hob.right.left) λhr h2=>?_
  refine A4 e ⟨by simp only [List.all_cons,hx,hr];rfl,λ{env A as s} O ok I pos=>λQ E k=>?_⟩
  refine (Ad3 hx)▸?_
  exact Calls.spliced_cons (rest:=backTo pos (starEach r env)) ((h1 O ok I) _ E λas1 h1' tk1 y i1 S1 vy=>(h2 O ok (s:={s with heap:=h1',toks:=tk1}) i1 pos) _ E λas2 h2' tk2 ys i2 S2 vys=>
   k as2 h2' tk2 _ i2 (S1.trans S2) (VRs.cons (vy.step S2) vys))
theorem Aw0 {a:TY}{o:Option TY}(h:By9 a o=true):o=some a:=by
 cases o with
 | none=>exact B3 h
 | some b=>cases a<;>cases b<;>first | rfl | exact B3 h
theorem Dm2 {x:Str}{t:TY}(e:Ah4 G c x=some t):Cy0 G c x st=some (.typ t,st,[]):=by
 unfold Ah4 at e
 unfold Cy0
 cases hk:look c.names x with
 | none=>replace e:=hk▸e;exact no1 e
 | some kd=>
  rw [hk] at e
  cases kd with
  | globalImplicit=>
   show X.bnd (X.ret _) _ st=_
   dsimp only at e
   cases hg:G.glob x with
   | some u=>rw [hg] at e;exact no1 e
   | none=>
    replace e:=hg▸e
    dsimp only at e
    cases hb:G.blt x with
    | none=>rw [hb] at e;exact no1 e
    | some u=>
     replace e:=hb▸e
     have hl:Bt6 G x=some u:=by unfold Bt6;rw [hg,hb]
     cases u with
     | typ q=>
      rw [← A9 e]
      unfold X.bnd X.ret
      dsimp only
      refine hl▸?_;rfl
     | _=>exact no1 e
  | _=>exact no1 e
theorem Dm1 (H:GOk w G K g0 mg mb){x:Str}{t:TY}(e:Ah4 G c x=some t)(O:EOk env c)(I:In w g0 env c as st s.heap)(p:Pos){Q:Value→Shared→Prop}{E:Value→Shared→Prop}
  (k:∀as' h' tk,In w g0 env c as' st h'→Stp (some env.locals) as s.heap as' h'→Q (.type t.name) {s with heap:=h',toks:=tk}):wpAny (model pw w) A (eval (.Name x p) env) Q E s:=
 (Bm9 H (Dm2 e) O I p).2 Q E λas' h' tk v i S hv=>hv.typI▸k as' h' tk i S
theorem Bz9 {pos:Pos}{fv:Value}{first:List Value}{es:List Expr}{Q:Value→Shared→Prop}{E:Value→Shared→Prop}(hn:es.all Ac1=true)(hk:Ad1 K fv)
  (go:wpAny (model pw w) A (spliced (backTo pos (starEach es env))) (λvs s₁=>K.In s₁.heap∧wpAny (model pw w) A (call fv (first++vs)) Q E s₁) E s):
  wpAny (model pw w) A (callWith pos fv first (backTo pos (starEach es env)) []) Q E s:=by
 refine callWith_of (P:=K.In) (by refine (Ae1 hn).symm▸?_;rfl) (hk _) ?_
 cases es with
 | nil=>exact Ak4 go
 | cons e r=>
  simp only [List.all_cons,Bool.and_eq_true] at hn
  have e1:backTo pos (starEach (e::r) env)=(false,eval e env)::backTo pos (starEach r env):=by exact congrArg _ (Ad3 hn.1)
  rw [e1] at go ⊢
  exact Calls.evalArgs_plain go
theorem Ap2 (H:GOk w G K g0 mg mb){x:Str}{t:TY}(e:Ah4 G c x=some t){es:List Expr}(hn:es.all Ac1=true)(O:EOk env c)(I:In w g0 env c as st s.heap){p q:Pos}{Q:Value→Shared→Prop}{E:Value→Shared→Prop}
  (k:∀as' h' tk,In w g0 env c as' st h'→Stp (some env.locals) as s.heap as' h'→wpAny (model pw w) A (spliced (backTo q (starEach es env))) (λvs s₁=>K.In s₁.heap∧wpAny (model pw w) A (call (.type t.name) vs) Q E s₁) E {s with heap:=h',toks:=tk}):
  wpAny (model pw w) A (eval (.Call (.Name x p) es [] q) env) Q E s:=by
 exact wpAny_bind (Dm1 H e O I p λas' h' tk i S=>Bz9 (K:=K) (first:=[]) hn Ad1.typ (k as' h' tk i S))
theorem As3 {e:Expr}{pos:Pos}{Q:List Value→Shared→Prop}{E:Value→Shared→Prop}(he:Ac1 e=true)(h:wpAny (model pw w) A (eval e env) (λv s1=>Q [v] s1) E s):
  wpAny (model pw w) A (spliced (backTo pos (starEach [e] env))) Q E s:=by
 exact (Ad3 he)▸Calls.spliced_cons (rest:=backTo pos (starEach [] env)) (wpAny_mono h (λv s1 h1=>Calls.spliced_nil h1) λu0 u0 x=>x)
theorem Dk3 {as:List Addr}{h:Heap}{l r:List SV}{xs ys acc:List Value}(hx:VRs as h l xs)(hy:VRs as h r ys)(hl:l.length≤r.length)(ha:acc.length=xs.length)
  (hp:∀(j:Nat) (v:Value),acc[j]?=some v→∃(T:Addr) (x y:Value),v = .ref T∧xs[j]?=some x∧ys[j]?=some y∧Ab6 h T [x,y]):
  VRs as h (List.zipWith (λu v=>SV.tup [u,v]) l r) acc:=by
 refine ⟨by rw [List.length_zipWith,Nat.min_eq_left hl,ha,hx.1],λi sv v e e'=>?_⟩
 refine Dq7 (hp i v e') λT x y z3 ex ey ht=>?_;subst z3
 replace e:=(List.getElem?_zipWith).symm.trans e
 cases e1:l[i]? with
 | none=>replace e:=e1▸e;exact no1 e
 | some a=>
  cases e2:r[i]? with
  | none=>rw [e1,e2] at e;exact no1 e
  | some b=>
   rw [e1,e2] at e
   exact A9 e▸.tup _ _ _ ht (VRs.cons (hx.2 i a x e1 ex) (VRs.cons (hy.2 i b y e2 ey) VRs.nil)).1 (VRs.cons (hx.2 i a x e1 ex) (VRs.cons (hy.2 i b y e2 ey) VRs.nil)).2
theorem Cy1 (H:GOk w G K g0 mg mb){lt rr:List SV}{k m:Nat}{xv yv:Value}(ok:AOk A n)(hx:st.hp[k]?=some (.list rr m))(l1:lt.length≤1)(l2:lt.length≤rr.reverse.length)(I:In w g0 env c as st s.heap)(vx:VR as s.heap (.tup lt) xv)(vy:VR as s.heap (.loc k) yv)
  (Q:Value→Shared→Prop)(E:Value→Shared→Prop)(kk:∀as' h' tk b,In w g0 env c as' {st with hp:=st.hp++[.list (List.zipWith (λu v=>SV.tup [u,v]) lt rr.reverse).reverse lt.length]} h'→Stp (some env.locals) as s.heap as' h'→PV (.loc st.hp.length) as' h' b→Q b {s with heap:=h',toks:=tk}):
  wpAny (model pw w) A (call (.type "zip") [xv,yv]) (λv s₁=>K.In s₁.heap∧wpAny (model pw w) A (call (.type "list") [v]) Q E s₁) E s:=by
 refine vx.tupE λta xs hta hxs=>I.hr.listE vy hx λla ys ep ha hlen ho hys=>?_
 refine Cb6 (b:=true) (xs:=xs.toArray) hta.tuple (Aa4 ho) λh4 hz4 hTI hTO hi1 hi2 hk4=>⟨H.kin.keeps λb o e=>hk4 b o (I.hr.base b o e),?_⟩
 have D:=Bp7 (n:=s.heap.objs.size) (l1:=ta) (l2:=la) (hta.2.elim λu0 q=>Heap.lt_size q) (Heap.lt_size ho)
 have xl:xs.length=lt.length:=hxs.1.symm
 refine Dk2 (s:={s with heap:=h4}) (b:=true) (xs:=xs.toArray) (ys:=ys.toArray) ok.1 D hz4 hTI hTO hi1 hi2 (Be6.to (b:=true) hta.tuple λo e=>hk4 _ o e) (Be6.to (b:=false) (Aa4 ho) λo e=>hk4 _ o e) (show xs.length≤1 from xl.symm▸l1) (show xs.length≤ys.length from xl.symm▸hys.1▸l2) λh5 hd=>?_
 obtain ⟨acc,c',hk5,hS5,ha1,ha2⟩:=hd
 have dT:∀{T:Addr},h4.get? T=none→s.heap.get? T=none:=λ{T} e=>by
  cases q:s.heap.get? T with
  | none=>rfl
  | some o=>exact no1 (e.symm.trans (hk4 _ _ q))
 have kp:∀b o,s.heap.get? b=some o→h5.get? b=some o:=λb o e=>
  hk5 b o (λm=>mem5 (P:=λx=>s.heap.get? x=some o→False) m (λe=>no1 ((dT (Ac2 h4)).symm.trans e)) (λe=>no1 ((Ac8 _).symm.trans e)) (λe=>no1 ((Ac8 _).symm.trans e)) (λe=>no1 ((Ac8 0).symm.trans e)) (λe=>no1 ((Ac8 _).symm.trans e)) e) (hk4 b o e)
 have im:=B2.of_keep kp
 have hacc:VRs as h5 (List.zipWith (λu v=>SV.tup [u,v]) lt rr.reverse) acc.toList:=Dk3 (hxs.same im) (hys.same im) l2 ha1 λj v ev=>by
  refine Bc2 (ha2 j v (Array.getElem?_toList.symm.trans ev)) λT x y e1 e2 e3 e4 e5=>?_
  exact ⟨T,x,y,e1,List.getElem?_toArray.symm.trans e2,List.getElem?_toArray.symm.trans e3,I.hr.shown (dT e5),0,e4⟩
 have r:=I.hr.newO (o:=.list (List.zipWith (λu v=>SV.tup [u,v]) lt rr.reverse).reverse lt.length) kp (dT (Ac2 h4)) ⟨by rw [List.length_reverse,List.length_zipWith];exact Nat.min_le_left _ _,_,c',hS5,by rw [List.reverse_reverse];exact hacc.mono (B2.refl _) ⟨_,rfl⟩⟩
 exact kk _ h5 s.toks _ (I.heap (st2:={st with hp:=st.hp++[.list (List.zipWith (λu v=>SV.tup [u,v]) lt rr.reverse).reverse lt.length]}) r.1 r.2.1 rfl) r.2.1.any r.2.2
theorem Bz2 (H:GOk w G K g0 mg mb)(S:Snd w K g0 M n R){f g:Str}{p q r t:Pos}{es:List Expr}{v:SV}{ob:List Prop}(hf:Ah4 G c f=some .list)(hg:Ah4 G c g=some .zip)
  (e:Dv0 R c es st=some (v,st',ob))(hob:All ob)
  (O:EOk env c)(ok:AOk A (M+4*n))(I:In w g0 env c as st s.heap):Tr w g0 env c A as s st' (PV v) (eval (.Call (.Name f p) [.Call (.Name g q) es [] r] [] t) env):=by
 unfold Dv0 at e
 revert hob;refine B5 e ?_;clear e;intro l st1 o1 o2 h1 e hob
 obtain ⟨hn,h1⟩:=S.evs h1 hob.left
 refine A6 e ?_;clear e;intro xy hxy e
 refine A6 e ?_;clear e;intro lt hlt e
 refine A6 e ?_;clear e;intro k hk e
 refine listE e ?_;clear e;intro rr m hx e
 refine Ag1 e ?_;clear e;intro hb1 hb2 e
 refine Ad6 e ?_;clear e;intro hz e
 refine A4 e λQ E kk=>?_
 refine Ap2 H hf rfl O I λas1 h1' tk1 i1 S1=>As3 rfl (Ap2 H hg hn O (s:={s with heap:=h1',toks:=tk1}) i1 λas2 h2' tk2 i2 S2=>?_)
 refine h1 O ok (s:={s with heap:=h2',toks:=tk2}) i2 _ _ E λas3 h3 tk3 vs i3 S3 hvs=>⟨H.kin.keeps i3.hr.base,?_⟩
 simp only [Bf0 hxy,Al8 hlt,Ab9 hk] at hvs
 obtain ⟨xv,yv,rfl,vx,vy⟩:=hvs.two
 exact Cy1 (s:={s with heap:=h3,toks:=tk3}) H ok hx (Nat.le_of_ble_eq_true hb1) (Nat.le_of_ble_eq_true hb2) i3 vx vy Q E λas4 h4 tk4 b i4 S4 vb=>kk as4 h4 tk4 b i4 (((S1.trans S2).trans S3).trans S4) vb
end
section
variable {w:World}{G:Top}{K:Frag}{g0:Heap}{mg mb:Str→Option Value}{env:Env}{c:EC}{A:Around}{as:List Addr}{st st1 st2 st':St}{s:Shared}{M n:Nat}{R:Rec}
theorem Bn9 (H:GOk w G K g0 mg mb)(S:Snd w K g0 M n R){f g:Str}{p q r t:Pos}{es:List Expr}{v:SV}{ob:List Prop}(hf:Ah4 G c f=some .dict)(hg:Ah4 G c g=some .enumerate)
  (e:Bu0 R c es st=some (v,st',ob))(hob:All ob)
  (O:EOk env c)(ok:AOk A (M+4*n))(I:In w g0 env c as st s.heap):Tr w g0 env c A as s st' (PV v) (eval (.Call (.Name f p) [.Call (.Name g q) es [] r] [] t) env):=by
 unfold Bu0 at e
 revert hob;refine B5 e ?_;clear e;intro l st1 o1 o2 h1 e hob
 obtain ⟨hn,h1⟩:=S.evs h1 hob.left
 refine A6 e ?_;clear e;intro x0 hx0 e
 refine A6 e ?_;clear e;intro k hk e
 refine listE e ?_;clear e;intro r m hx e
 refine Aa3 e ?_;clear e;intro hz e
 refine A4 e λQ E kk=>?_
 refine Ap2 H hf rfl O I λas1 h1' tk1 i1 S1=>As3 rfl (Ap2 H hg hn O (s:={s with heap:=h1',toks:=tk1}) i1 λas2 h2' tk2 i2 S2=>?_)
 refine h1 O ok (s:={s with heap:=h2',toks:=tk2}) i2 _ _ E λas3 h3 tk3 vs i3 S3 hvs=>⟨H.kin.keeps i3.hr.base,?_⟩
 rw [Ad7 hx0,Ab9 hk] at hvs
 obtain ⟨xv,rfl,vx⟩:=hvs.one
 refine i3.hr.listE vx hx λla ys ep ha hlen ho hys=>?_
 rw [Ab8 (l:=r.reverse) hz] at hys
 obtain rfl:=hys.nil_inv
 refine call_enumerate_list (s:={s with heap:=h3,toks:=tk3}) (Aa4 ho) λh4 he hi hsz hk4=>⟨H.kin.keeps λb o e=>hk4 b o (i3.hr.base b o e),?_⟩
 refine Cn5 (s:={s with heap:=h4,toks:=tk3}) ok.1 he hi ((Aa4 ho).at λo e=>hk4 _ o e) λh5 tk5 hd hk5=>?_
 have hne:∀{k b o},h3.get? b=some o→b≠h3.objs.size+k:=λe q=>no1 ((Ac8 _).symm.trans (q▸e))
 have dS3:h3.get? h4.objs.size=none:=by
  cases q:h3.get? h4.objs.size with
  | none=>rfl
  | some o=>exact no1 ((Ac2 h4).symm.trans (hk4 _ _ q))
 have r:=i3.hr.newO (o:=.dict []) (λb o e=>hk5 b o (hne e) (hne (k:=0) e) (hk4 b o e)) dS3 ⟨[],hd,DRs.nil⟩
 exact kk _ h5 tk5 _ (i3.heap (st2:={st1 with hp:=st1.hp++[.dict []]}) r.1 r.2.1 rfl) (((S1.trans S2).trans S3).trans r.2.1.any) r.2.2
end
section
variable {w:World}{G:Top}{K:Frag}{g0:Heap}{mg mb:Str→Option Value}{env:Env}{c:EC}{A:Around}{as:List Addr}{st st1 st2 st':St}{s:Shared}{M n:Nat}{R:Rec}
theorem HR.ext1 {hp:List A0}{k:Nat}{a:Addr}{o:A0}{h h':Heap}(x:HR w g0 as hp h)(hk:as[k]?=some a)(ho0:hp[k]?=some o)(kp:∀b ob,b≠a→h.get? b=some ob→h'.get? b=some ob)(ho:OR w as h' o a):
  HR w g0 as hp h'∧Stp none as h as h':=by
 have ha:=List.mem_of_getElem? hk
 refine Ae3 (x.mem ha) λu0 u0 u0 u0 r=>?_
 obtain ⟨ob,hob,hni⟩:=r.there
 have im:B2 h h':=λb o' e i u0=>kp b o' (λq=>hni (A9 (hob.symm.trans (q▸e))▸i)) e
 have lv:∀b ob',h.get? b=some ob'→∃o',h'.get? b=some o':=λb ob' e=>by
  by_cases q:b=a
  ·exact ho.there.elim λo' e'=>⟨o',q▸e'.1⟩
  ·exact ⟨_,kp b ob' q e⟩
 refine ⟨⟨x.len,x.nd,x.lo,λb o' e=>kp b o' (λq=>no1 ((x.lo a ha).symm.trans (q▸e))) (x.base b o' e),λj p e=>?_,x.hidL λb u0 z=>z.elim λo' e=>lv b o' e⟩,
  ⟨⟨[],(List.append_nil _).symm,λu0 h=>(nomatch h)⟩,lv,λb o' e hn u0=>kp b o' (λq=>hn (q▸ha)) e,im⟩⟩
 by_cases q:j=k
 ·subst q
  exact ⟨a,hk,A9 (ho0.symm.trans e)▸ho⟩
 ·exact (x.at_ j p e).elim λb r=>⟨b,r.1,r.2.mono im ⟨[],(List.append_nil _).symm⟩ λob' e'=>kp b ob' (At6 x.nd r.1 hk q) e'⟩
theorem tabE {i:Nat}{β:Type}{r:β×St×List Prop}{P:Prop}{f:Addr→X β}(e:X.bnd (Dm9 i) f st=some r)(k:∀a,st.hp[i]?=some (.tab a)→f a st=some r→P):P:=
 Bx5 (Q:=λa=>st.hp[i]?=some (.tab a)) (Aq6 λo a s ob hx e=>by
  cases o with
  | tab a=>refine A4 e ?_;exact ⟨rfl,rfl,hx⟩
  | _=>exact no1 e) e k
theorem Cl7 (H:GOk w G K g0 mg mb){ps:Arguments}(hps:defaultsOf ps env=([],[])){body:Expr}{scope:Scope}{pos:Pos}{v:SV}{ob:List Prop}
  (e:((X.lift c.lam).bnd λq=>(X.lift (G.code q.2)).bnd λP=>Mine.guard (Ai9 c scope.names) <|(Dm9 q.1).bnd λQ=>Mine.guard (Nat.beq P Q) <|X.ret .any) st=some (v,st',ob))
  (O:EOk env c)(I:In w g0 env c as st s.heap):Tr w g0 env c A as s st' (PV v) (eval (.Lambda ps body scope pos) env):=by
 refine A6 e ?_;clear e;intro ka hl e
 refine A6 e ?_;clear e;intro P hc e
 refine Aa3 e ?_;clear e;intro hs e
 refine tabE e ?_;clear e;intro P' hx e
 refine Aa3 e ?_;clear e;intro hq e
 obtain rfl:=Nat.eq_of_beq_eq_true hq
 obtain ⟨k,a⟩:=ka
 refine A4 e ?_;clear e
 refine oAA (H.code a P hc) λC B hP0=>?_
 obtain ⟨a',ha,ea,tb,hoP,ht⟩:=I.hr.at_ k _ hx
 subst ea
 have hge:=H.ns.keeps I.hr.base
 have hgP:mainGlobals≠a':=λq=>by
  refine Ai5 (H.ns) λo u0 u0 ho u0=>?_
  exact no1 (hP0.symm.trans (q▸ho))
 have hb:s.heap.BuiltinsAt mg a':=by
  obtain ⟨bm,o,b1,b2,b3,b4,b5,b6⟩:=B
  exact ⟨bm,o,b1,b2,b3,b4,I.hr.base _ _ b5,b6⟩
 have hclos:=Dj2 env scope λn hn=>(Ba4 hs n hn).elim λi hi=>(I.cells n i hi).elim λa ha=>⟨a,ha.2⟩
 have hcode:=O.lam k a hl
 have CH:=C.keeps I.hr.base
 have fin:∀{h':Heap} {f:Obj} {tk:Nat} {tb':Array Value} {Q:Value→Shared→Prop},(∀b ob,b≠a'→s.heap.get? b=some ob→(h'.push f).get? b=some ob)→(h'.push f).get? a'=some (tabObj tb')→TriplesOk tb'.toList→
   (∀as' h' tk b,In w g0 env c as' st h'→Stp (some env.locals) as s.heap as' h'→PV .any as' h' b→Q b {s with heap:=h',toks:=tk})→Q (.ref h'.objs.size) {s with heap:=h'.push f,toks:=tk}:=λkp ho' ht' kk=>
  have r:=I.hr.ext1 ha hx kp ⟨rfl,_,ho',ht'⟩
  kk as _ _ _ (I.heap r.1 r.2 rfl) r.2.any (.any _)
 refine λQ E kk=>kla_eval hps ?_
 cases hf:codeAmong pos tb.toList with
 | none=>
  refine kla_makeFunction hclos O.globals hge hcode CH hoP ht hf hgP hb λc' ctv h' tk hx' hge' hlt hrec htb=>?_
  refine fin (λb ob hb e=>Heap.get?_push_of_some _ (hx' b ob hb e)) (Heap.get?_push_of_some _ htb) ?_ kk
  simp only [Array.toList_append]
  exact TriplesOk_snoc _ _ _ _ ht
 | some cv=>
  refine kla_makeFunctionHit hclos O.globals hge hcode CH hoP ht hf hb λctv h' tk kp' hsz=>?_
  exact fin (λb ob u0 e=>Heap.get?_push_of_some _ (kp' b ob e)) (Heap.get?_push_of_some _ (kp' _ _ hoP)) ht kk
end
section
variable {w:World}{G:Top}{K:Frag}{g0:Heap}{mg mb:Str→Option Value}{env:Env}{c:EC}{A:Around}{as:List Addr}{st st1 st2 st':St}{s:Shared}{M n:Nat}{R:Rec}
theorem Bs0 {r:Expr}(h:By1 r=true):∀es k p,r≠.Set es k p:=λes k p q=>by rw [q] at h;exact B3 h
theorem Br7 {α:Type}{o:Option α}(h:Cw7 o=true):o=none:=by
 cases o with
 | none=>rfl
 | some _=>exact B3 h
theorem Dr3 {i:Int}{n:Nat}(h:natI i=some n):i = .ofNat n:=by
 cases i with
 | ofNat m=>exact congrArg _ (A9 h)
 | negSucc m=>exact no1 h
def EvC (w:World)(g0:Heap)(c:EC)(m:Nat)(st st':St)(v:SV)(x:Expr):Prop:=Ac1 x=true∧∀{env A as s},EOk env c→AOk A m→In w g0 env c as st s.heap→Tr w g0 env c A as s st' (PV v) (eval x env)
theorem AOk.dn {A:Around}{k:Nat}(x:AOk A (M+1+k)):AOk A (M+k):=x.le (Nat.add_le_add_right (Nat.le_succ M) k)
theorem AOk.up1 {A:Around}{k:Nat}(x:AOk A (M+1+k)):AOk A (M+k+1):=x.le (Nat.le_of_eq (Nat.succ_add M k).symm)
variable {v:SV}{ob:List Prop}
theorem Bi4 (H:GOk w G K g0 mg mb)(S:Snd w K g0 (M+1) n R){f:Expr}{args:List Expr}{p:Pos}(hf:∀o x q,f≠.Attribute o x q)(e:Ar3 R c f args st=some (v,st',ob))(hob:All ob):EvC w g0 c (M+1+4*n) st st' v (.Call f args [] p):=
 ⟨rfl,λO ok I=>Du9 H S hf e hob O ok I⟩
theorem Db7 (H:GOk w G K g0 mg mb)(S:Snd w K g0 (M+1) n R){o:Expr}{x:Str}{q p:Pos}{args:List Expr}(hc:Af7 o q p args.length=true)(e:Cm0 G R c o x args st=some (v,st',ob))(hob:All ob):
  EvC w g0 c (M+1+4*n) st st' v (.Call (.Attribute o x q) args [] p):=by
 unfold Cm0 at e
 revert hob;refine B5 e ?_;clear e;intro ov st1 o1 o2 h1 e hob
 refine A6 e ?_;clear e;intro k hk e
 replace h1:=(Ab9 hk)▸h1
 refine Cw5 e ?_;clear e;intro so hx e
 have dict:((R.evs c args).bnd λvs=>Dc4 k x vs) st1=some (v,st',o2)→(∀{as:List Addr} {s:Shared} {y:Value},HR w g0 as st1.hp s.heap→VR as s.heap (.loc k) y→∃a kvs,y = .ref a∧s.heap.DictOf (Aa1 w) a kvs)→EvC w g0 c (M+1+4*n) st st' v (.Call (.Attribute o x q) args [] p):=by
  intro e hd
  have hn:x = "get":=by
   refine Aq7 (Ap8 e) λl st3 o5 o6 u0 e' eq=>?_
   rw [eq] at hob
   exact (Bi8 (w:=w) (g0:=g0) (A:={}) H.tab e' hob.right.right).1
  subst hn
  exact ⟨rfl,λ{env A as s} O ok I=>Am6 H S hc h1 e hob.left hob.right (T:="dict") (id:="dict.get") (λ{as s y} hr vy=>(hd hr vy).elim λa z=>z.elim λkvs z=>MOk.dict z.1 z.2) (λ{l st3 o5} e' hob'=>(Bi8 (w:=w) (g0:=g0) (A:=A) H.tab e' hob').2) O ok I⟩
 cases so with
 | inst C d=>
  refine A6 e ?_;clear e;intro f hm e
  refine nsE e ?_;clear e;intro es hd e
  refine Aa3 e ?_;clear e;intro hl e
  exact ⟨rfl,λO ok I=>Bo0 H S hc h1 hx hm hd (Br7 hl) e hob.left hob.right O ok I⟩
 | list r m=>
  have nm:∃id,LN x id:=by
   refine Aq7 (Ap8 e) λl st3 o5 o6 u0 e' u0=>?_
   exact By8 e'
  obtain ⟨id,L⟩:=nm
  exact ⟨rfl,λ{env A as s} O ok I=>Am6 H S hc h1 e hob.left hob.right (T:="list") (id:=id) (λ{as s y} hr vy=>L.mok hr vy hx) (λ{l st3 o5} e' _=>Ds1 L e' ok.up1) O ok I⟩
 | dict es=>exact dict e λ{as s y} hr vy=>(hr.loc vy hx).elim λa z=>z.2.2.elim λkvs d=>⟨a,kvs,z.1,d.1⟩
 | idict m n'=>exact dict e λ{as s y} hr vy=>(hr.loc vy hx).elim λa z=>z.2.2.elim λkvs d=>d.elim λes d=>⟨a,kvs,z.1,d.1⟩
 | _=>exact no1 e
theorem Aw8 {a:Expr}{g:Str×List Expr}(h:Bu8 a=some g):∃q r,a = .Call (.Name g.1 q) g.2 [] r:=by
 cases a with
 | Call g as ks r=>cases g with
  | Name g q=>
   change (match Ae9 ks with | true=>some (g,as) | false=>none)=some _ at h
   cases hk:Ae9 ks with
   | false=>rw [hk] at h;exact no1 h
   | true=>rw [hk] at h;rw [Ab8 hk,← A9 h];exact ⟨q,r,rfl⟩
  | _=>exact no1 h
 | _=>exact no1 h
theorem Db6 (H:GOk w G K g0 mg mb)(S:Snd w K g0 (M+1) n R){f:Str}{p t:Pos}{args:List Expr}(e:Cl9 G R c f p args st=some (v,st',ob))(hob:All ob):EvC w g0 c (M+1+4*n) st st' v (.Call (.Name f p) args [] t):=by
 have plain:Ar3 R c (.Name f p) args st=some (v,st',ob)→EvC w g0 c (M+1+4*n) st st' v (.Call (.Name f p) args [] t):=λe=>Bi4 H S (λu0 u0 u0 h=>Expr.noConfusion h) e hob
 unfold Cl9 at e
 cases hq:Ch8 args with
 | none=>replace e:=hq▸e;exact plain e
 | some q=>
  replace e:=hq▸e
  refine oEA (Option.bind_eq_some_iff.mp hq) λa ha hc=>?_
  refine oEE (Aw8 hc) λg' r' hg=>?_
  have en:(match By9 .dict (Ah4 G c f),By9 .enumerate (Ah4 G c q.1) with | true,true=>Bu0 R c q.2 | _,_=>Ar3 R c (.Name f p) args) st=some (v,st',ob)→EvC w g0 c (M+1+4*n) st st' v (.Call (.Name f p) args [] t):=λe=>by
   cases h1:By9 .dict (Ah4 G c f) with
   | false=>replace e:=h1▸e;exact plain e
   | true=>cases h2:By9 .enumerate (Ah4 G c q.1) with
    | false=>rw [h1,h2] at e;exact plain e
    | true=>rw [h1,h2] at e;rw [Ad7 ha,hg];exact ⟨rfl,λO ok I=>Bn9 H S (Aw0 h1) (Aw0 h2) e hob O ok I⟩
  dsimp only at e
  cases h1:By9 .list (Ah4 G c f) with
  | false=>replace e:=h1▸e;exact en e
  | true=>cases h2:By9 .zip (Ah4 G c q.1) with
   | false=>rw [h1,h2] at e;exact en e
   | true=>rw [h1,h2] at e;rw [Ad7 ha,hg];exact ⟨rfl,λO ok I=>Bz2 H S (Aw0 h1) (Aw0 h2) e hob O ok I⟩
theorem Cm1 (H:GOk w G K g0 mg mb)(S:Snd w K g0 (M+1) n R){f:Expr}{t:Pos}{args:List Expr}(e:Cm2 G R c f args t st=some (v,st',ob))(hob:All ob):EvC w g0 c (M+1+4*n) st st' v (.Call f args [] t):=by
 cases f with
 | Name f p=>exact Db6 H S e hob
 | Attribute o n q=>exact Aa3 e λhg e=>Db7 H S hg e hob
 | _=>exact Bi4 H S (λu0 u0 u0 h=>Expr.noConfusion h) e hob
theorem Az9 {g:Comprehension}{q:Str×Expr×List Expr}(h:genOf g=some q):∃px,g=⟨.Name q.1 px,q.2.1,q.2.2,0⟩:=by
 obtain ⟨t,iter,ifs,k⟩:=g
 cases t with
 | Name x px=>
  change (match natI k with | some n=>(match n with | 0=>some (x,iter,ifs) | _+1=>none) | none=>none)=some q at h
  cases hk:natI k with
  | none=>replace h:=hk▸h;exact no1 h
  | some n=>cases n with
   | zero=>rw [hk] at h;rw [Dr3 hk,← A9 h];exact ⟨px,rfl⟩
   | succ _=>rw [hk] at h;exact no1 h
 | _=>exact no1 h
theorem evF_s (H:GOk w G K g0 mg mb)(S:Snd w K g0 (M+1) n R){x:Expr}(e:evF G R c x st=some (v,st',ob))(hob:All ob):EvC w g0 c (M+1+4*n) st st' v x:=by
 cases x with
 | Constant k a p=>exact Ax4 e λq=>⟨rfl,λO ok I=>Dw6 q I⟩
 | Name nm pos=>exact ⟨rfl,λ{env A as s} O ok I=>by exact ((Bm9 (A:=A) H e O I pos).1)▸(Bm9 (A:=A) H e O I pos).2⟩
 | BoolOp op vs p=>exact ⟨rfl,λO ok I=>(Db8 S vs e hob O ok I).eq (arm_eval_BoolOp _ _ _ _)⟩
 | BinOp l op r p=>exact ⟨rfl,λO ok I=>Db5 S e hob O ok I⟩
 | UnaryOp op x p=>cases op with
  | Not=>exact ⟨rfl,λO ok I=>ev_Not S e hob O ok I⟩
  | USub=>exact ⟨rfl,λO ok I=>Du6 S e hob O ok I⟩
  | _=>exact no1 e
 | IfExp t a b p=>exact ⟨rfl,λO ok I=>Db4 S e hob O ok I⟩
 | Dict ks vs p=>exact ⟨rfl,λO ok I=>Du8 H S e hob O ok I⟩
 | List es p=>exact ⟨rfl,λO ok I=>Du7 S e hob O ok I⟩
 | Tuple es k p=>exact ⟨rfl,λO ok I=>Db2 S e hob O ok I⟩
 | ListComp elt gs scope p=>
  refine A6 e ?_;clear e;intro q hq e
  refine oEA (Option.bind_eq_some_iff.mp hq) λg hg hq=>?_
  refine oE (Az9 hq) λpx hg'=>?_
  rw [Ad7 hg,hg']
  exact ⟨rfl,λO ok I=>Bn8 S H.tab e hob O ok I⟩
 | Compare l ops rs p=>
  refine A6 e ?_;clear e;intro op hop e
  refine A6 e ?_;clear e;intro r hr e
  refine Aa3 e ?_;clear e;intro hs e
  simp only [Ad7 hop,Ad7 hr]
  exact ⟨rfl,λO ok I=>Bz3 H S (Bs0 hs) e hob O ok I⟩
 | Call f args ks p=>
  refine Aa3 e ?_;clear e;intro hk e
  exact (Ab8 hk)▸Cm1 H S e hob
 | Attribute o nm p=>exact ⟨rfl,λO ok I=>Bi3 H S e hob O ok I⟩
 | Subscript o i p=>cases i with
  | Slice lo hi s' q=>exact ⟨rfl,λO ok I=>Db3 H S e hob O ok I⟩
  | _=>exact ⟨rfl,λO ok I=>Bi2 H S e hob O ok I⟩
 | Lambda ps body scope pos=>
  refine Ag1 e ?_;clear e;intro h1 h2 e
  have hd:∀{env:Env},defaultsOf ps env=([],[]):=λ{env}=>by cases ps with | mk _ _ _ _ kd _ d=>cases d with | cons _ _=>exact nomatch h2 | nil=>cases kd with | cons _ _=>exact nomatch h1 | nil=>rfl
  exact ⟨rfl,λO ok I=>Cl7 H hd e O I⟩
 | _=>exact no1 e
end
section
variable {w:World}{G:Top}{K:Frag}{g0:Heap}{mg mb:Str→Option Value}{env:Env}{c:EC}{A:Around}{as:List Addr}{st st1 st2 st':St}{s:Shared}{M n:Nat}{R:Rec}
theorem no2 {P:Prop}(h:false=true):P:=nomatch h
theorem useF_s (H:GOk w G K g0 mg mb)(S:Snd w K g0 (M+1) n R){x:Expr}{v:SV}{ob:List Prop}(e:evF G R c x st=some (v,st',ob))(hob:All ob)(hc:Am5 x=true)(O:EOk env c)(ok:AOk A (M+1+4*n))(I:In w g0 env c as st s.heap):Dz9 w g0 env c A as s st' v x:=by
 cases x with
 | ListComp elt gs scope p=>
  refine A6 e ?_;clear e;intro q hq e
  refine oEA (Option.bind_eq_some_iff.mp hq) λg hg hq=>?_
  refine oE (Az9 hq) λpx hg'=>?_
  rw [Ad7 hg,hg']
  exact Be9 S H.tab e hob O ok I
 | SetComp _ _ _ _=>exact no1 e
 | DictComp _ _ _ _ _=>exact no1 e
 | _=>exact no2 hc
abbrev TruC (w:World)(g0:Heap)(c:EC)(env:Env)(A:Around)(as:List Addr)(s:Shared)(st':St)(x:Expr)(b:Bool):Prop:=Tr w g0 env c A as s st' (PE b) (isTrue x env (eval x env))
theorem trF_s (H:GOk w G K g0 mg mb)(S:Snd w K g0 (M+1) n R){x:Expr}{b:Bool}{ob:List Prop}(e:trF G R c x st=some (b,st',ob))(hob:All ob)(O:EOk env c)(ok:AOk A (M+1+4*n))(I:In w g0 env c as st s.heap):TruC w g0 c env A as s st' x b:=by
 have plain:((R.ev c x).bnd Ax1) st=some (b,st',ob)→isTrue x env (eval x env)=(do let v ← eval x env;standAt x.pos;holding [v] (truthy v))→TruC w g0 c env A as s st' x b:=by
  clear e
  intro e he
  revert hob;refine B5 e ?_;clear e;intro v st1 o1 o2 h1 e hob
  have h:=Bb4 (w:=w) (g0:=g0) e
  refine (h.1)▸?_
  refine λQ E k=>wpAny_isTrue_value (((S.ev h1 hob.left).2 O ok I) _ E λas1 h1' tk1 y i1 S1 vy=>?_) he
  exact Tr.of_HT (s:={s with heap:=h1',toks:=tk1}) i1 rfl (h.2 (s:={s with heap:=h1',toks:=tk1}) i1.hr vy) Q E λas3 h3 tk3 z i3 S3 vz=>k as3 h3 tk3 z i3 (S1.trans S3) vz
 unfold trF at e
 cases x with
 | UnaryOp op x p=>cases op with
  | Not=>
   revert hob;refine B5 e ?_;clear e;intro t st1 o1 o2 h1 e hob
   exact A4 e λQ E k=>PySem.wpAny_isTrue_Not (S.tr h1 hob.left O ok I _ E λas1 h1' tk1 y i1 S1 vy=>by exact (show y=t from vy)▸k as1 h1' tk1 _ i1 S1 rfl)
  | _=>exact plain e rfl
 | BoolOp op vs p=>exact λQ E k=>wpAny_isTrue_BoolOp (Dl8 S vs e hob O ok I Q E k)
 | IfExp t a b p=>
  revert hob;refine B5 e ?_;clear e;intro t st1 o1 o2 h1 e hob
  refine λQ E k=>isTrue_IfExp (S.tr h1 hob.left O ok I _ E λas1 h1' tk1 y i1 S1 vy=>?_)
  refine (show y=t from vy)▸?_
  cases t with
  | true=>exact S.tr e hob.right O ok (s:={s with heap:=h1',toks:=tk1}) i1 Q E λas2 h2 tk2 z i2 S2 vz=>k as2 h2 tk2 z i2 (S1.trans S2) vz
  | false=>exact S.tr e hob.right O ok (s:={s with heap:=h1',toks:=tk1}) i1 Q E λas2 h2 tk2 z i2 S2 vz=>k as2 h2 tk2 z i2 (S1.trans S2) vz
 | Compare l ops rs p=>
  refine A6 e ?_;clear e;intro op hop e
  refine A6 e ?_;clear e;intro r hr e
  refine Aa3 e ?_;clear e;intro hs e
  simp only [Ad7 hop,Ad7 hr]
  exact Bw1 H S (Bs0 hs) e hob O ok I
 | _=>exact plain e rfl
theorem exsF_s (S:Snd w K g0 (M+1) n R){b:List Stmt}{f:A8}{ob:List Prop}(e:exsF R c b st=some (f,st',ob))(hob:All ob)(O:EOk env c)(ok:AOk A (M+1+4*n))(I:In w g0 env c as st s.heap):
  Tr w g0 env c A as s st' (PF f) (execs b env):=by
 cases b with
 | nil=>exact A4 e λQ E k=>wpAny_execs_nil (k as s.heap s.toks _ I (Stp.refl _ _ _) .next)
 | cons t r=>
  unfold exsF at e
  revert hob;refine B5 e ?_;clear e;intro g st1 o1 o2 h1 e hob
  refine λQ E k=>PySem.wpAny_execs_cons (S.ex h1 hob.left O ok I _ E λas1 h1' tk1 y i1 S1 vy=>?_)
  cases vy with
  | next=>exact S.exs e hob.right O ok (s:={s with heap:=h1',toks:=tk1}) i1 Q E λas2 h2 tk2 z i2 S2 vz=>k as2 h2 tk2 z i2 (S1.trans S2) vz
  | brk=>revert k;exact A4 e λk=>k as1 h1' tk1 _ i1 S1 .brk
  | cont=>revert k;exact A4 e λk=>k as1 h1' tk1 _ i1 S1 .cont
  | ret v x hv=>revert k;exact A4 e λk=>k as1 h1' tk1 _ i1 S1 (.ret v x hv)
theorem Bw3 (e t:Expr)(line:Nat)(env:Env):∃b,swapsWith e (some t) line env=pure b:=by
 cases q:Am5 e with
 | false=>exact ⟨_,Au1 q _ _ _⟩
 | true=>
  have key:∀a gs sc p,∃b,swapsWith (.ListComp a gs sc p) (some t) line env=pure b:=λa gs sc p=>by cases t<;>exact ⟨_,rfl⟩
  cases e with
  | ListComp a gs sc p=>exact key a gs sc p
  | SetComp a gs sc p=>exact key a gs sc p
  | DictComp a b gs sc p=>exact key a gs sc p
  | _=>exact B3 q
theorem Cv5 {a b:Bool}(h:(pure a:Sem Bool)=pure b):a=b:=by injection h
theorem Bw4 {e t:Expr}{line:Nat}{env:Env}(h:swapsWith e (some t) line env=pure true):Am5 e=true:=by
 cases q:Am5 e with
 | true=>rfl
 | false=>rw [Au1 q] at h;exact B3 (Cv5 h)
theorem Bw5 (ns:List Str):∀{l:List SV} {st:St} {r:Unit×St×List Prop},Ay5 c ns l st=some r→ns.length=l.length:=by
 induction ns with
 | nil=>exact λ{l st r} e=>Aa3 (b:=Ae9 l) (x:=X.ret ()) e λh u0=>by refine (Ab8 h)▸?_;rfl
 | cons x ns ih=>
  intro l st r e
  cases l with
  | nil=>exact no1 e
  | cons v l=>
   refine Aq7 (Ap8 (x:=Cd6 c x v) (f:=λu0=>Ay5 c ns l) e) λu0 u0 u0 u0 u0 e u0=>?_
   exact congrArg (· + 1) (ih e)
abbrev ExC (w:World)(g0:Heap)(c:EC)(env:Env)(A:Around)(as:List Addr)(s:Shared)(st':St)(t:Stmt)(f:A8):Prop:=Tr w g0 env c A as s st' (PF f) (exec t env)
theorem Ck1 {t x:Expr}{ns:List Str}(h:Bf3 c t x=some (some ns)):Am5 x=false:=by
 cases t with
 | Tuple ts i p=>cases x with
  | ListComp _ _ _ _=>exact no1 h
  | SetComp _ _ _ _=>exact no1 h
  | DictComp _ _ _ _ _=>exact no1 h
  | _=>rfl
 | List _ _=>exact no1 h
 | _=>exact no1 (A9 h)
theorem Cp6 (H:GOk w G K g0 mg mb)(S:Snd w K g0 (M+1) n R){t x:Expr}{p:Pos}{f:A8}{ob:List Prop}(hw:swappedStores [t] x env=pure none)
  (e:((R.ev c x).bnd λv=>(R.asg c t v).bnd λu0=>X.ret A8.next) st=some (f,st',ob))(hob:All ob)(O:EOk env c)(ok:AOk A (M+1+4*n))(I:In w g0 env c as st s.heap):ExC w g0 c env A as s st' (.Assign [t] x p) f:=by
 refine oE (Bw3 x t p.line env) λsb hsb=>?_
 revert hob;refine B5 e ?_;clear e;intro v st1 o1 o2 h1 e hob
 revert hob;refine B5 e ?_;clear e;intro u st2 o3 o4 h2 e hob
 refine oA (S.asg h2 hob.right.left) λhn h2=>?_
 refine A4 e ?_;clear e
 have hst:(assignEach [t] env).map (·.2) = [assign t env]:=by exact congrArg _ (Ad5 hn)
 cases sb with
 | false=>
  refine λQ E k=>wpAny_Assign_stores (((S.ev h1 hob.left).2 O ok I) _ E λas1 h1' tk1 y i1 S1 vy=>?_) hsb hw
  exact hst▸h2 O ok (s:={s with heap:=h1',toks:=tk1}) i1 vy _ E λas2 h2 tk2 z i2 S2 u0=>k as2 h2 tk2 _ i2 (S1.trans S2) .next
 | true=>
  refine λQ E k=>?_
  refine wpAny_bind (wpAny_standAt ?_)
  rw [show swapsWithSole [t] x p.line env=pure true from hsb]
  refine wpAny_bind (wpAny_pure ?_)
  rw [if_pos rfl,hst]
  exact wpAny_bind (S.use h1 hob.left (Bw4 hsb) O ok I _ st2 _ E (λas' h' tk xv i S' vx=>h2 O ok (s:={s with heap:=h',toks:=tk}) i vx) λas' h' tk i S'=>wpAny_pure (k as' h' tk _ i S' .next))
theorem De7 (S:Snd w K g0 (M+1) n R){t x:Expr}{p:Pos}{ns:List Str}{f:A8}{ob:List Prop}(hsw:Bf3 c t x=some (some ns))(hw:swappedStores [t] x env=pure (some ns))
  (e:((R.ev c x).bnd λv=>(X.lift (Ar8 v)).bnd λl=>(Ay5 c ns.reverse l.reverse).bnd λu0=>X.ret A8.next) st=some (f,st',ob))(hob:All ob)(O:EOk env c)(ok:AOk A (M+1+4*n))(I:In w g0 env c as st s.heap):ExC w g0 c env A as s st' (.Assign [t] x p) f:=by
 revert hob;refine B5 e ?_;clear e;intro v st1 o1 o2 h1 e hob
 refine A6 e ?_;clear e;intro l hl e
 rw [Al8 hl] at h1
 revert hob;refine B5 e ?_;clear e;intro u st2 o3 o4 h2 e hob
 refine A4 e λQ E k=>?_;clear e
 refine wpAny_bind (wpAny_standAt ?_)
 rw [show swapsWithSole [t] x p.line env=pure false from Au1 (Ck1 hsw) _ _ _]
 refine wpAny_bind (wpAny_pure ?_)
 rw [if_neg Bool.false_ne_true,hw]
 refine wpAny_bind (((S.ev h1 hob.left).2 O ok I) _ E λas1 h1' tk1 y i1 S1 vy=>wpAny_bind (wpAny_pure ?_))
 obtain ⟨a,vs,rfl,ht,hv⟩:=vy.tupI
 refine wpAny_bind (wpAny_rule (wpAny_bind ?_))
 have hlen:ns.length=vs.toArray.size:=by
  have:=Bw5 _ h2
  simp only [List.length_reverse,List.length_reverse] at this
  exact this.trans hv.1
 refine hlen▸?_
 refine unpackItems_tuple ok.1 ht.tup λh' hk=>?_
 have i2:=In.kept (s:={s with heap:=h1',toks:=tk1}) i1 (An6 hk)
 exact wpAny_bind (Ct7 O _ h2 (s:={s with heap:=h',toks:=tk1}) i2.1 (hv.step i2.2).reverse _ E λas3 h3 tk3 z i3 S3 vz=>wpAny_pure (k as3 h3 tk3 _ i3 ((S1.trans i2.2).trans S3) .next))
theorem Cl5 (H:GOk w G K g0 mg mb)(S:Snd w K g0 (M+1) n R){t x:Expr}{p:Pos}{f:A8}{ob:List Prop}(e:exAsg R c t x st=some (f,st',ob))(hob:All ob)(O:EOk env c)(ok:AOk A (M+1+4*n))(I:In w g0 env c as st s.heap):ExC w g0 c env A as s st' (.Assign [t] x p) f:=by
 refine A6 (show ((X.lift (Bf3 c t x)).bnd _) st=_ from e) ?_;clear e;intro sw hsw e
 cases sw with
 | none=>exact Cp6 H S (Dg0 O hsw) e hob O ok I
 | some ns=>exact De7 S hsw (Dg0 O hsw) e hob O ok I
end
end
section
variable {w:World}{G:Top}{K:Frag}{g0:Heap}{mg mb:Str→Option Value}{env:Env}{c:EC}{A:Around}{as:List Addr}{st st1 st2 st':St}{s:Shared}{M n:Nat}{R:Rec}
theorem Du1 [Y:Hid](S:Snd w K g0 (M+1) n R){t:Expr}{it:SIt}{b:List Stmt}{f:A8}{ob:List Prop}(e:R.forL c t it b st=some (f,st',ob))(hob:All ob){I:Addr}{own:List Addr}(O:EOk env c)(ok:AOk A (M+1+4*n))(i:In w g0 env c as st s.heap)
  (hit:ItR w as s.heap it I own)(ap:Aj3 g0 env.locals as own)(hz:Ah8 it=true)(RR:Result→Shared→Prop)(k:∀as' h' tk x,In w g0 env c as' st' h'→Aj7 own env.locals as s.heap as' h'→FlR as' h' f x→RR (.ok x) {s with heap:=h',toks:=tk}):
  codeAny (model pw w) A (.forLoop t (.ref I) b [] env) RR s:=S.forL e hob O ok i hit ap (λq=>by replace q:=hz.symm.trans q;exact noB q) RR k
theorem Cp4 [Y:Hid]{h h₁ h':Heap}{as':List Addr}{own:List Addr}{L:Addr}(k:∀b o,h.get? b=some o→h₁.get? b=some o)(dead:∀a∈own,h.get? a=none)(x:Aj7 own L as h₁ as' h'):Stp (some L) as h as' h':=Stp.behind k dead x
end
def Ba9 (Y:Hid)(g0:Heap):Prop:=∀a∈Y.off,g0.get? a=none
section
variable [X:Hid]
variable {w:World}{G:Top}{K:Frag}{g0:Heap}{mg mb:Str→Option Value}{env:Env}{c:EC}{A:Around}{as:List Addr}{st st1 st2 st':St}{s:Shared}{M n:Nat}{R:Rec}
theorem In.apart {own:List Addr}{h:Heap}(I:In w g0 env c as st h)(dd:∀a∈own,h.get? a=none):Aj3 g0 env.locals as own:=
 ⟨λa q=>(I.hr.free (dd a q)).1,λq=>I.neD (dd _ q) rfl,λa q=>(I.hr.free (dd a q)).2⟩
theorem forZip (SY:∀Y:Hid,Ba9 Y g0→@Snd Y w K g0 (M+1) n R){t:Expr}{it:SIt}{u v:SV}{b:List Stmt}{f:A8}{ob o1:List Prop}(hz:zip0 u v st=some (it,st1,o1))(e:R.forL c t it b st1=some (f,st',ob))(hob:All ob)(O:EOk env c)(ok:AOk A (M+1+4*n))(I:In w g0 env c as st s.heap)
  {x y:Value}(hu:VR as s.heap u x)(hv:VR as s.heap v y)(RR:Result→Shared→Prop)(E:Value→Shared→Prop)
  (k:∀as' h' tk x,In w g0 env c as' st' h'→Stp (some env.locals) as s.heap as' h'→FlR as' h' f x→RR (.ok x) {s with heap:=h',toks:=tk}):
  wpAny (model pw w) A (call (.type "zip") [x,y]) (λz s1=>wpAny (model pw w) A (pyIter z) (λit s2=>codeAny (model pw w) A (.forLoop t it b [] env) RR s2) E s1) E s:=by
 have Z:=zip0_s (X:=X) (w:=w) (g0:=g0) (as:=as) hz
 rw [Z.1] at e
 refine Z.2.2 I.hr hu hv _ E λh' I' TI TO i1 i2 Z'=>?_
 have dI:=Z'.dead TI (List.mem_cons_of_mem _ List.mem_cons_self)
 have dO:=Z'.dead TO (List.mem_cons_of_mem _ (List.mem_cons_of_mem _ List.mem_cons_self))
 have two:∀{P:Addr→Prop},P TI→P TO→∀a∈TI::TO::X.off,(a∈X.off→P a)→P a:=λp1 p2 a q r=>(List.mem_cons.mp q).elim (λq=>q▸p1) λq=>(List.mem_cons.mp q).elim (λq=>q▸p2) r
 have m:Ea3 X ⟨TI::TO::X.off⟩ s.heap:=⟨λa q=>List.mem_cons_of_mem _ (List.mem_cons_of_mem _ q),λa q q'=>two (P:=λa=>s.heap.get? a=none) dI dO a q λq=>absurd q q'⟩
 refine Du1 (Y:=⟨TI::TO::X.off⟩) (SY _ (λa q=>two (P:=λa=>g0.get? a=none) (I.hr.free dI).2 (I.hr.free dO).2 a q λq=>(I.hr.hid a q).1)) e hob O ok (s:={s with heap:=h'}) (In.hide m Z'.kp (λa q q'=>two (P:=λa=>∃o,h'.get? a=some o) Z'.aI Z'.aO a q λq=>absurd q q') I) Z'.it (I.apart Z'.dead) Z.2.1 RR λas2 h2 tk2 z i2 S2 vz=>?_
 exact k as2 h2 tk2 z (In.show m.sub i2) (Stp.show m (Cp4 (Y:=⟨TI::TO::X.off⟩) Z'.kp Z'.dead S2)) (vz.move λu0 u0=>Ab6.show m.sub)
theorem forIt (S:Snd w K g0 (M+1) n R)(H:GOk w G K g0 mg mb){t:Expr}{it:SIt}{v:SV}{b:List Stmt}{f:A8}{ob o1:List Prop}(hz:Cz4 v st=some (it,st1,o1))(e:R.forL c t it b st1=some (f,st',ob))(hob:All ob)(O:EOk env c)(ok:AOk A (M+1+4*n))(I:In w g0 env c as st s.heap)
  {x:Value}(hv:VR as s.heap v x)(RR:Result→Shared→Prop)(E:Value→Shared→Prop)
  (k:∀as' h' tk x,In w g0 env c as' st' h'→Stp (some env.locals) as s.heap as' h'→FlR as' h' f x→RR (.ok x) {s with heap:=h',toks:=tk}):
  wpAny (model pw w) A (pyIter x) (λit s2=>codeAny (model pw w) A (.forLoop t it b [] env) RR s2) E s:=by
 rw [(Bn2 (w:=w) (g0:=g0) (n:=M+1+4*n) H.tab hz).1] at e
 refine (Bn2 (w:=w) (g0:=g0) (n:=M+1+4*n) H.tab hz).2.2 ok I.hr hv _ E λh' tk I' kp dd hit=>?_
 have d1:∀a∈[I'],s.heap.get? a=none:=λa q=>List.mem_singleton.mp q▸dd
 exact S.forL e hob O ok (s:={s with heap:=h',toks:=tk}) (I.kept kp).1 hit (I.apart d1) (λu0 a q=>I.hr.shown (d1 a q)) RR λas2 h2 tk2 z i2 S2 vz=>k as2 h2 tk2 z i2 (Stp.behind kp d1 S2) vz
theorem Cl4 (H:GOk w G K g0 mg mb)(hX:Ba9 X g0)(SY:∀Y:Hid,Ba9 Y g0→@Snd Y w K g0 (M+1) n R){t i:Expr}{b:List Stmt}{p:Pos}{f:A8}{ob:List Prop}
  (e:Dv1 R c t i b st=some (f,st',ob))(hob:All ob)(O:EOk env c)(ok:AOk A (M+1+4*n))(I:In w g0 env c as st s.heap):ExC w g0 c env A as s st' (.For t i b [] p) f:=by
 refine Aa3 e ?_;clear e;intro hs e
 revert hob;refine B5 e ?_;clear e;intro v st1 o1 o2 h1 e hob
 revert hob;refine B5 e ?_;clear e;intro it st2 o3 o4 h2 e hob
 exact λQ E k=>PySem.wpAny_For ((((SY X hX).ev h1 hob.left).2 O ok I) _ E λas1 h1' tk1 y i1 S1 vy=>forIt (SY X hX) H h2 e hob.right.right O ok (s:={s with heap:=h1',toks:=tk1}) i1 vy _ E λas2 h2 tk2 z i2 S2 vz=>k as2 h2 tk2 z i2 (S1.trans S2) vz) (λu0=>Ak2 hs env _)
theorem ex_For (H:GOk w G K g0 mg mb)(hX:Ba9 X g0)(SY:∀Y:Hid,Ba9 Y g0→@Snd Y w K g0 (M+1) n R){t i:Expr}{b:List Stmt}{p:Pos}{f:A8}{ob:List Prop}
  (e:Du5 G R c t i b st=some (f,st',ob))(hob:All ob)(O:EOk env c)(ok:AOk A (M+1+4*n))(I:In w g0 env c as st s.heap):ExC w g0 c env A as s st' (.For t i b [] p) f:=by
 have S:Snd w K g0 (M+1) n R:=SY X hX
 unfold Du5 at e
 cases hq:Bu8 i with
 | none=>replace e:=hq▸e;exact Cl4 H hX SY e hob O ok I
 | some q=>
  replace e:=hq▸e
  dsimp only at e
  cases hz:By9 .zip (Ah4 G c q.1) with
  | false=>rw [hz] at e;exact Cl4 H hX SY e hob O ok I
  | true=>
   replace e:=hz▸e
   refine oEE (Aw8 hq) λq' r' z2=>?_;subst z2
   revert hob;refine B5 e ?_;clear e;intro l st1 o1 o2 h1 e hob
   refine oA (S.evs h1 hob.left) λhn h1=>?_
   refine A6 e ?_;clear e;intro xy hxy e
   revert hob;refine B5 e ?_;clear e;intro it st2 o3 o4 h2 e hob
   refine λQ E k=>PySem.wpAny_For (Ap2 H (Aw0 hz) hn O I λas1 h1' tk1 i1 S1=>?_) (λu0=>Ak2 rfl env _)
   refine h1 O ok (s:={s with heap:=h1',toks:=tk1}) i1 _ _ E λas3 h3 tk3 vs i3 S3 hvs=>⟨H.kin.keeps i3.hr.base,?_⟩
   replace hvs:=(Bf0 hxy)▸hvs
   obtain ⟨xv,yv,rfl,vx,vy⟩:=hvs.two
   exact forZip SY h2 e hob.right.right O ok (s:={s with heap:=h3,toks:=tk3}) i3 vx vy _ E λas4 h4 tk4 z i4 S4 vz=>k as4 h4 tk4 z i4 ((S1.trans S3).trans S4) vz
theorem exF_s (H:GOk w G K g0 mg mb)(hX:Ba9 X g0)(SY:∀Y:Hid,Ba9 Y g0→@Snd Y w K g0 (M+1) n R){t:Stmt}{f:A8}{ob:List Prop}(e:exF G R c t st=some (f,st',ob))(hob:All ob)(O:EOk env c)(ok:AOk A (M+1+4*n))(I:In w g0 env c as st s.heap):ExC w g0 c env A as s st' t f:=by
 have S:Snd w K g0 (M+1) n R:=SY X hX
 have hint:interactive env=false:=by unfold interactive;refine (O.kind)▸?_;rfl
 cases t with
 | Expr x p=>
  refine Aa3 e ?_;clear e;intro hc e
  revert hob;refine B5 e ?_;clear e;intro v st1 o1 o2 h1 e hob
  have hc:Am5 x=false:=by
   cases q:Am5 x with
   | false=>rfl
   | true=>rw [q] at hc;exact B3 hc
  exact A4 e λQ E k=>wpAny_Expr_any (((S.ev h1 hob.left).2 O ok I) _ E λas1 h1' tk1 y i1 S1 vy=>k as1 h1' tk1 _ i1 S1 .next) hint (Au1 hc _ _ _)
 | Pass p=>exact A4 e λQ E k=>PySem.wpAny_Pass (k as s.heap s.toks _ I (Stp.refl _ _ _) .next)
 | Continue p=>exact A4 e λQ E k=>PySem.wpAny_Continue (k as s.heap s.toks _ I (Stp.refl _ _ _) .cont)
 | Return v p=>
  refine A6 e ?_;clear e;intro x hx e
  refine hx▸?_
  revert hob;refine B5 e ?_;clear e;intro v st1 o1 o2 h1 e hob
  exact A4 e λQ E k=>PySem.wpAny_Return_some (((S.ev h1 hob.left).2 O ok I) _ E λas1 h1' tk1 y i1 S1 vy=>k as1 h1' tk1 _ i1 S1 (.ret _ _ vy))
 | Assign ts x p=>
  refine A6 e ?_;clear e;intro t ht e
  exact (Ad7 ht)▸Cl5 H S e hob O ok I
 | If t a b p=>
  revert hob;refine B5 e ?_;clear e;intro t st1 o1 o2 h1 e hob
  refine λQ E k=>PySem.wpAny_If (S.tr h1 hob.left O ok I _ E λas1 h1' tk1 y i1 S1 vy=>?_)
  refine (show y=t from vy)▸?_
  cases t with
  | true=>exact S.exs e hob.right O ok (s:={s with heap:=h1',toks:=tk1}) i1 Q E λas2 h2 tk2 z i2 S2 vz=>k as2 h2 tk2 z i2 (S1.trans S2) vz
  | false=>exact S.exs e hob.right O ok (s:={s with heap:=h1',toks:=tk1}) i1 Q E λas2 h2 tk2 z i2 S2 vz=>k as2 h2 tk2 z i2 (S1.trans S2) vz
 | While t b els p=>
  refine Aa3 e ?_;clear e;intro hn e
  exact (Ab8 hn)▸λQ E k=>PySem.wpAny_While (S.whl e hob O (A:=A.mark none) ok I _ λas' h' tk x i S' vx=>k as' h' tk x i S' vx)
 | For t i b els p=>
  refine Aa3 e ?_;clear e;intro hn e
  exact (Ab8 hn)▸ex_For H hX SY e hob O ok I
 | _=>exact no1 e
end
theorem Bp0 (ps:List (Str×SV))(names:List (Str×NameKind)):∀i:Nat,(Ae7 names ps i).2.length=(cn names).length:=by
 induction names with
 | nil=>exact λu0=>rfl
 | cons p r ih=>
  obtain ⟨n,k⟩:=p
  intro i
  cases k with
  | cell=>exact congrArg (· + 1) (ih (i+1))
  | _=>exact ih i
theorem Bo9 (ps:List (Str×SV))(o:A0)(names:List (Str×NameKind)):∀(i j:Nat),(Ae7 names ps i).2[j]?=some o→∃n,(cn names)[j]?=some n∧o = .cell (look ps n):=by
 induction names with
 | nil=>exact λi j h=>no1 h
 | cons p r ih=>
  obtain ⟨n,k⟩:=p
  intro i j h
  cases k with
  | cell=>cases j with
   | zero=>exact ⟨n,rfl,(A9 h).symm⟩
   | succ j=>exact ih (i+1) j h
  | _=>exact ih i j h
theorem Bj2 (ps:List (Str×SV))(n:Str)(k:Nat)(names:List (Str×NameKind)):∀i:Nat,look (Ae7 names ps i).1 n=some k→∃j,k=i+j∧(cn names)[j]?=some n:=by
 induction names with
 | nil=>exact λi h=>no1 h
 | cons p r ih=>
  obtain ⟨m,kd⟩:=p
  intro i h
  cases kd with
  | cell=>
   change look ((m,i)::(Ae7 r ps (i+1)).1) n=some k at h
   rw [Aa7] at h
   cases q:seq m n with
   | true=>rw [q] at h;exact ⟨0,(A9 h).symm,congrArg some (Ab0.mp q)⟩
   | false=>rw [q] at h;exact (ih (i+1) h).elim λj z=>⟨j+1,by rw [z.1,Nat.add_assoc,Nat.add_comm 1],z.2⟩
  | _=>exact ih i h
theorem Be0 {n:Str}(names:List (Str×NameKind)):∀(N:Nat) (acc:List (Str×Addr)),n∉cn names→(cellsFrom N names acc).lookup n=acc.lookup n:=by
 induction names with
 | nil=>exact λu0 u0 u0=>rfl
 | cons p r ih=>
  obtain ⟨m,k⟩:=p
  intro N acc h
  cases k with
  | cell=>
   refine (ih _ _ λq=>h (List.mem_cons_of_mem _ q)).trans ?_
   simp only [List.lookup_cons,beq_eq_false_iff_ne.mpr λ(q:n=m)=>h (q▸List.mem_cons_self)]
  | _=>exact ih N acc h
theorem Ak6 {n:Str}(names:List (Str×NameKind)):∀(N:Nat) (acc:List (Str×Addr)) (j:Nat),(cn names).Nodup→(cn names)[j]?=some n→(cellsFrom N names acc).lookup n=some (N+j):=by
 induction names with
 | nil=>exact λu0 u0 u0 u0 h=>no1 h
 | cons p r ih=>
  obtain ⟨m,k⟩:=p
  intro N acc j nd h
  cases k with
  | cell=>
   have nd:=List.nodup_cons.mp (show (m::cn r).Nodup from nd)
   cases j with
   | zero=>
    obtain rfl:m=n:=A9 h
    exact (Be0 r _ _ nd.1).trans (by simp only [List.lookup_cons,beq_self_eq_true];rfl)
   | succ j=>exact (ih (N+1) _ j nd.2 h).trans (congrArg some (by rw [Nat.add_assoc,Nat.add_comm 1]))
  | _=>exact ih N acc j nd h
theorem Dw7 {n:Str}{names:List (Str×NameKind)}:look names n=some .cell→n∈cn names:=by
 induction names with
 | nil=>exact λh=>no1 h
 | cons p r ih=>
  obtain ⟨m,k⟩:=p
  intro h
  rw [Aa7] at h
  cases q:seq m n with
  | true=>
   simp only [q] at h
   obtain rfl:k = .cell:=A9 h
   exact Ab0.mp q▸List.mem_cons_self
  | false=>
   simp only [q] at h
   cases k with
   | cell=>exact List.mem_cons_of_mem _ (ih h)
   | _=>exact ih h
theorem Dh9 {p:Prop}[Decidable p]{x n:Str}{v:Value}{m:Str→Option Value}(h:n≠x):(if p then (λy=>if y=x then some v else m y) else m) n=m n∧(if p then m else λy=>if y=x then some v else m y) n=m n:=by
 by_cases q:p
 ·rw [if_pos q,if_pos q];exact ⟨if_neg h,rfl⟩
 ·rw [if_neg q,if_neg q];exact ⟨rfl,if_neg h⟩
theorem Cp3 {k:Str→Option NameKind}{n:Str}(r:List (Str×Value)):∀m:Str→Option Value,n∉r.map (·.1)→bindC k r m n=m n:=by
 induction r with
 | nil=>exact λu0 u0=>rfl
 | cons p r ih=>
  intro m h
  exact (ih _ λq=>h (List.mem_cons_of_mem _ q)).trans (Dh9 λ(q:n=p.1)=>h (q▸List.mem_cons_self)).2
theorem De4 {k:Str→Option NameKind}{n:Str}{u:Value}(hk:k n≠some .local)(r:List (Str×Value)):∀m:Str→Option Value,(r.map (·.1)).Nodup→(n,u)∈r→bindC k r m n=some u:=by
 induction r with
 | nil=>exact λu0 u0 h=>nomatch h
 | cons p r ih=>
  intro m nd h
  have nd:=List.nodup_cons.mp nd
  refine (List.mem_cons.mp h).elim (λq=>?_) λq=>ih _ nd.2 q
  have q:=Ca9 q
  rw [q.1] at hk
  simp only [q.1,q.2]
  refine (Cp3 r _ nd.1).trans ?_
  rw [if_neg hk]
  exact if_pos rfl
theorem Cp2 {k:Str→Option NameKind}{n:Str}(r:List (Str×Value)):∀m:Str→Option Value,n∉r.map (·.1)→bindL k r m n=m n:=by
 induction r with
 | nil=>exact λu0 u0=>rfl
 | cons p r ih=>
  intro m h
  exact (ih _ λq=>h (List.mem_cons_of_mem _ q)).trans (Dh9 λ(q:n=p.1)=>h (q▸List.mem_cons_self)).1
theorem De3 {k:Str→Option NameKind}{n:Str}{u:Value}(hk:k n=some .local)(r:List (Str×Value)):∀m:Str→Option Value,(r.map (·.1)).Nodup→(n,u)∈r→bindL k r m n=some u:=by
 induction r with
 | nil=>exact λu0 u0 h=>nomatch h
 | cons p r ih=>
  intro m nd h
  have nd:=List.nodup_cons.mp nd
  refine (List.mem_cons.mp h).elim (λq=>?_) λq=>ih _ nd.2 q
  have q:=Ca9 q
  rw [q.1] at hk
  simp only [q.1,q.2]
  refine (Cp2 r _ nd.1).trans ?_
  rw [if_pos hk]
  exact if_pos rfl
theorem Bm7 {α:Type}{n:Str}{v:α}{l r:List (Str×α)}:look (l++r) n=some v→look l n=some v∨look r n=some v:=by
 induction l with
 | nil=>exact .inr
 | cons p l ih=>
  intro h
  rw [List.cons_append,Aa7] at h
  rw [Aa7]
  cases q:seq p.1 n with
  | true=>rw [q] at h;exact .inl h
  | false=>rw [q] at h;exact ih h
theorem Bh0 {α:Type}{n:Str}{v:α}{l:List (Str×α)}:look l n=some v→(n,v)∈l:=by
 induction l with
 | nil=>exact λh=>no1 h
 | cons p l ih=>
  intro h
  rw [Aa7] at h
  cases q:seq p.1 n with
  | true=>rw [q] at h;simp only [← Ab0.mp q,← A9 h];exact List.mem_cons_self
  | false=>rw [q] at h;exact List.mem_cons_of_mem _ (ih h)
structure Ea9 (names:List (Str×NameKind))(ps:List (Str×SV))(st st1:St):Prop where
 hp:st1.hp=st.hp
 orc:st1.orc=st.orc
 lc:∀n v,look st1.lc n=some v→look st.lc n=some v∨(look names n=some .local∧(n,v)∈ps)
 kind:∀p∈ps,look names p.1=some .local∨look names p.1=some .cell
theorem Bj4 {names:List (Str×NameKind)}(ps:List (Str×SV)):∀{st st1:St},Mine.bind names ps st=some st1→Ea9 names ps st st1:=by
 induction ps with
 | nil=>exact λh=>A9 h▸⟨rfl,rfl,λn v e=>.inl e,λp m=>nomatch m⟩
 | cons p r ih=>
  intro st st1 h
  obtain ⟨x,u⟩:=p
  change (match look names x with | some .local=>Mine.bind names r {st with lc:=st.lc++[(x,u)]} | some .cell=>Mine.bind names r st | _=>none)=some st1 at h
  cases q:look names x with
  | none=>replace h:=q▸h;exact no1 h
  | some k=>
   rw [q] at h
   cases k with
   | «local»=>
    have b:=ih h
    exact ⟨b.hp,b.orc,λn v e=>(b.lc n v e).elim (λe=>(Bm7 e).elim .inl λe=>by
     have:=Ca9 (List.mem_singleton.mp (Bh0 e))
     rw [this.1,this.2];exact .inr ⟨q,List.mem_cons_self⟩) λe=>.inr ⟨e.1,List.mem_cons_of_mem _ e.2⟩,λp m=>(List.mem_cons.mp m).elim (λe=>e▸.inl q) (b.kind p)⟩
   | cell=>
    have b:=ih h
    exact ⟨b.hp,b.orc,λn v e=>(b.lc n v e).elim .inl λe=>.inr ⟨e.1,List.mem_cons_of_mem _ e.2⟩,λp m=>(List.mem_cons.mp m).elim (λe=>e▸.inr q) (b.kind p)⟩
   | _=>exact no1 h
theorem Cb4 {as:List Addr}{h:Heap}[HI:Hid]{n:Str}{v:SV}(params:List Str):∀{l:List SV} {us:List Value},VRs as h l us→(n,v)∈params.zip l→∃u,(n,u)∈params.zip us∧VR as h v u:=by
 induction params with
 | nil=>exact λu0 m=>nomatch m
 | cons p ps ih=>
  intro l us x m
  cases l with
  | nil=>exact nomatch m
  | cons a l=>
   obtain ⟨u,ws,rfl,y,z⟩:=x.cons_inv
   refine (List.mem_cons.mp m).elim (λe=>?_) λe=>(ih z e).elim λw e=>⟨w,List.mem_cons_of_mem _ e.1,e.2⟩
   rw [(Ca9 e).1,(Ca9 e).2];exact ⟨u,List.mem_cons_self,y⟩
theorem Be7 {α:Type}(params:List Str):∀{us:List α},us.length=params.length→(params.zip us).map (·.1)=params:=by
 induction params with
 | nil=>exact λu0=>rfl
 | cons p ps ih=>
  intro us h
  cases us with
  | nil=>exact nomatch h
  | cons u us=>exact congrArg (p::·) (ih (Nat.succ.inj h))
section
variable [HI:Hid]
section
variable {w:World}{G:Top}{K:Frag}{g0:Heap}{mg mb:Str→Option Value}{env:Env}{c:EC}{A:Around}{as:List Addr}{st st1 st2 st':St}{s:Shared}{M n:Nat}{R:Rec}
noncomputable def Ai1 (L:Addr)(m:Nat):List Addr:=(List.range m).map λj=>L+1+j
theorem Ba5 {L:Addr}{m j:Nat}(h:j<m):(Ai1 L m)[j]?=some (L+1+j):=by
 unfold Ai1
 simp only [List.getElem?_map,List.getElem?_range h];rfl
theorem Ar5 {L:Addr}{m:Nat}{a:Addr}(h:a∈Ai1 L m):∃j,j<m∧a=L+1+j:=by
 unfold Ai1 at h
 rw [List.mem_map] at h
 obtain ⟨j,hj,e⟩:=h
 exact ⟨j,List.mem_range.mp hj,e.symm⟩
theorem Bj3 {L:Addr}{m:Nat}:(Ai1 L m).Nodup:=by
 unfold Ai1
 rw [List.nodup_iff_pairwise_ne,List.pairwise_map]
 exact List.Pairwise.imp (λ{a b} h e=>h (Nat.add_left_cancel (n:=L+1) e)) (List.nodup_iff_pairwise_ne.mp List.nodup_range)
theorem past {h:Heap}{a k:Addr}(e:∃o,h.get? a=some o):a≠h.objs.size+k:=λq=>e.elim λo ho=>no1 ((Ac8 k).symm.trans (q▸ho))
def HC (w:World)(g0:Heap)(A:Around)(as:List Addr)(s:Shared)(hp':List A0)(P:List Addr→Heap→Value→Prop)(c:Code):Prop:=
 ∀RR:Result→Shared→Prop,(∀as' h' tk b,HR w g0 as' hp' h'→Stp none as s.heap as' h'→P as' h' b→RR (.ok (.ret b)) {s with heap:=h',toks:=tk})→codeAny (model pw w) A c RR s
theorem HC.call {f:Value}{vs:List Value}{hp':List A0}{P:List Addr→Heap→Value→Prop}(x:HC w g0 A as s hp' P (.call f ⟨vs,[]⟩)):HT w g0 A as s hp' P (call f vs):=λQ E k=>
 PySem.wpAny_call (x _ λas' h' tk b r S p=>k as' h' tk b r S p)
set_option backward.match.sparseCases true in
theorem Bp1 {prog:Program}{A:Around}{s:Shared}{R:Result→Shared→Prop}{a:Addr}{o:Obj}{fd:FuncData}{body:List Stmt}{vals:List Value}{binds:List (Str×Value)}
  (hroom:A.depth<recursionLimit)(ho:s.heap.get? a=some o)(hdata:o.data = .func fd)(hlim:s.heap.NoLimit)(hcd:s.heap.CodeRec fd.code fd.qualname)
  (hbody:fd.body = .stmts body)(hbind:BindsTo s fd ⟨vals,[]⟩ binds)(hclo:fd.closure = [])
  (hkind:∀x∈binds,fd.scope.names.lookup x.1=some .local∨(fd.scope.names.lookup x.1=some .cell∧((cellsFrom (s.heap.objs.size+1) fd.scope.names []).lookup x.1).isSome=true))
  (h:∀s₁,InCallC s (callEnvC fd s.heap.objs.size a).locals (bindL (callEnvC fd s.heap.objs.size a).kindOf binds λu0=>none) (callEnvC fd s.heap.objs.size a).cells
    (bindC (callEnvC fd s.heap.objs.size a).kindOf binds λu0=>none) s₁→
   wpAny (model prog w) (A.deeper (callEnvC fd s.heap.objs.size a)) (execs body (callEnvC fd s.heap.objs.size a)) (λf s'=>R (.ok (.ret (match f with | .ret v=>v | _=>.none))) s')
    (λe s'=>wpAny (model prog w) (A.deeper (callEnvC fd s.heap.objs.size a)) (leaving (callEnvC fd s.heap.objs.size a) e) (λu0 s''=>R (.error e) s'') (λe' s''=>R (.error e') s'') s') s₁)
  (hco:fd.scope.isCoroutine=false)(hgen:fd.scope.isGenerator=false)(hk:fd.scope.kind = .function):
  codeAny (model prog w) A (.call (.ref a) ⟨vals,[]⟩) R s:=by
 refine codeAny_call_function hroom ho hdata hco hgen hbody hcd (hbind _ _ _ _ ?_)
 refine hclo▸?_
 refine wpAny_newFunctionEnv_cells hk hkind λenv he s' x=>?_
 subst he
 exact ⟨hlim.keeps x.toInCall.keep,codeAny_func (h s' x)⟩
abbrev ecFn (f:Fn)(ps:List (Str×SV))(n:Nat):EC:={names:=f.scope.names,cells:=(Ae7 f.scope.names ps n).1,lam:=f.lam}
section
variable {a:Addr}{f:Fn}{o:Obj}{fd:FuncData}{h h1:Heap}{hp:List A0}{ps:List (Str×SV)}{us:List Value}{l:List SV}
structure FrZ (f:Fn)(fd:FuncData)(a:Addr)(us:List Value)(h h1:Heap):Prop where
 kp:∀b o,h.get? b=some o→h1.get? b=some o
 ns:h1.Ns h.objs.size (bindL (callEnvC fd h.objs.size a).kindOf (f.params.zip us) λu0=>none)
 cell:∀(x:Str) (j:Nat),(cn f.scope.names)[j]?=some x→h1.IsCell (h.objs.size+1+j) (bindC (callEnvC fd h.objs.size a).kindOf (f.params.zip us) (λu0=>none) x)
theorem Bn1 (F:Ea7 g0 a f o fd)(L:Addr)(x:Str):(callEnvC fd L a).kindOf x=look f.scope.names x:=by
 show fd.scope.names.lookup x=_
 rw [F.scope,Bc7]
theorem Da7 (F:Ea7 g0 a f o fd)(hr:HR w g0 as hp h)(Z:FrZ f fd a us h h1)(ul:us.length=f.params.length)(pl:ps=f.params.zip l)(lu:VRs as h l us):
  HR w g0 (as++Ai1 h.objs.size (cn f.scope.names).length) (hp++(Ae7 f.scope.names ps hp.length).2) h1:=by
 have im:B2 h h1:=B2.of_keep Z.kp
 have fr:∀{b},b∈Ai1 h.objs.size (cn f.scope.names).length→h.get? b=none:=λq=>(Ar5 q).elim λj e=>by simp only [e.2,Nat.add_assoc];exact Ac8 (1+j)
 refine ⟨by simp only [List.length_append,List.length_append,hr.len,Bp0 ps];unfold Ai1;rw [List.length_map,List.length_range],List.nodup_append.mpr ⟨hr.nd,Bj3,λx hx y hy e=>(hr.free (fr hy)).1 (e▸hx)⟩,
  λb q=>(List.mem_append.mp q).elim (hr.lo b) λq=>(hr.free (fr q)).2,λb o q=>Z.kp _ _ (hr.base _ _ q),λj p q=>?_,hr.hidL (Bk7.of_keep Z.kp)⟩
 by_cases hj:j<hp.length
 ·replace q:=(List.getElem?_append_left hj).symm.trans q
  exact (hr.at_ j p q).elim λb r=>⟨b,Aj2 r.1,r.2.mono im ⟨_,rfl⟩ λob' e'=>Z.kp _ _ e'⟩
 ·replace q:=(List.getElem?_append_right (Nat.le_of_not_lt hj)).symm.trans q
  refine oEA (Bo9 ps _ _ _ _ q) λx hx z2=>?_;subst z2
  refine ⟨h.objs.size+1+(j-hp.length),?_,_,Z.cell x _ hx,?_⟩
  ·rw [List.getElem?_append_right (hr.len▸Nat.le_of_not_lt hj),hr.len];exact Ba5 (List.getElem?_eq_some_iff.mp hx).1
  ·cases hlo:look ps x with
   | none=>trivial
   | some sv=>exact (Cb4 _ lu (pl▸Bh0 hlo)).elim λu hu=>⟨u,De4 (λql=>F.cl x (List.mem_of_getElem? hx) ((Bn1 F _ x).symm.trans ql)) _ _ (by simp only [Be7 _ ul];exact F.pnd) hu.1,hu.2.mono im ⟨_,rfl⟩⟩
theorem Da6 {st st1:St}(F:Ea7 g0 a f o fd)(hr:HR w g0 as st.hp h)(Z:FrZ f fd a us h h1)(ul:us.length=f.params.length)(pl:ps=f.params.zip l)(lu:VRs as h l us)
  (B:Ea9 f.scope.names ps {st with hp:=st.hp++(Ae7 f.scope.names ps st.hp.length).2,lc:=[]} st1):
  In w g0 (callEnvC fd h.objs.size a) (ecFn f ps st.hp.length) (as++Ai1 h.objs.size (cn f.scope.names).length) st1 h1:=by
 refine ⟨by rw [B.hp];exact Da7 F hr Z ul pl lu,⟨_,Z.ns,λx sv q=>(B.lc x sv q).elim (λq=>no1 q) λq=>?_⟩,λq=>?_,(hr.free (Ac2 h)).2,λx k q=>?_⟩
 ·exact (Cb4 _ lu (pl▸q.2)).elim λu hu=>⟨u,De3 ((Bn1 F _ x).trans q.1) _ _ (by simp only [Be7 _ ul];exact F.pnd) hu.1,hu.2.mono (B2.of_keep Z.kp) ⟨_,rfl⟩⟩
 ·exact (List.mem_append.mp q).elim (hr.free (Ac2 h)).1 λq=>(Ar5 q).elim λj e=>absurd (show h.objs.size=h.objs.size+1+j from e.2) (Nat.ne_of_lt (Nat.lt_of_lt_of_le (Nat.lt_succ_self _) (Nat.le_add_right _ j)))
 ·refine oEA (Bj2 ps _ _ _ _ q) λj z1 hj=>?_;subst z1
  refine ⟨h.objs.size+1+j,?_,?_⟩
  ·rw [List.getElem?_append_right (hr.len▸Nat.le_add_right _ _),hr.len,Nat.add_sub_cancel_left]
   exact Ba5 (List.getElem?_eq_some_iff.mp hj).1
  ·show (cellsFrom (h.objs.size+1) fd.scope.names []).lookup x=_
   exact (F.scope)▸Ak6 _ _ _ _ F.nd hj
theorem Cl1 {h2:Heap}{as2:List Addr}{m:Nat}(hr:HR w g0 as hp h)(kp:∀b o,h.get? b=some o→h1.get? b=some o)(S2:Stp (some h.objs.size) (as++Ai1 h.objs.size m) h1 as2 h2):Stp none as h as2 h2:=by
 have fr:∀{b},b∈Ai1 h.objs.size m→h.get? b=none:=λq=>(Ar5 q).elim λj e=>by simp only [e.2,Nat.add_assoc];exact Ac8 (1+j)
 refine oEA (S2.ext) λns e l2=>?_
 refine ⟨⟨Ai1 h.objs.size m++ns,by rw [e,List.append_assoc],λb q=>(List.mem_append.mp q).elim fr λq=>?_⟩,λb o q=>S2.live b o (kp b o q),
  λb o q hn u0=>S2.keep b o (kp b o q) (λq'=>(List.mem_append.mp q').elim hn λq'=>no1 ((fr q').symm.trans q)) (λq'=>no1 ((Ac2 h).symm.trans (Option.some.inj q'▸q))),(B2.of_keep kp).trans S2.imm⟩
 cases z:h.get? b with
 | none=>rfl
 | some o=>exact no1 ((l2 b q).symm.trans (kp _ _ z))
end
def EntC (w:World)(g0:Heap)(m:Nat)(a:Addr)(args:List SV)(st st':St)(v:SV):Prop:=
 st'.lc=st.lc∧∀{A as s vs},AOk A (m+1)→HR w g0 as st.hp s.heap→VRs as s.heap args vs→HC w g0 A as s st'.hp (PV v) (.call (.ref a) ⟨vs,[]⟩)
theorem Cr5 {α β:Type}{ns:List Str}{us:List α}{l:List β}(h:l.length=us.length){x:Str×α}(m:x∈ns.zip us):∃u:β,(x.1,u)∈ns.zip l:=by
 induction ns generalizing us l with
 | nil=>exact nomatch m
 | cons n ns ih=>cases us with
  | nil=>exact nomatch m
  | cons u us=>cases l with
   | nil=>exact nomatch h
   | cons b l=>exact (List.mem_cons.mp m).elim (λq=>q▸⟨b,List.mem_cons_self⟩) λq=>(ih (Nat.succ.inj h) q).elim λu z=>⟨u,List.mem_cons_of_mem _ z⟩
set_option backward.match.sparseCases true in
theorem Ba3 (H:GOk w G K g0 mg mb)(S:Snd w K g0 M n R){a:Addr}{f:Fn}{o:Obj}{fd:FuncData}(F:Ea7 g0 a f o fd){args:List SV}{v:SV}{ob:List Prop}{ps:List (Str×SV)}(hf:fill f.params f.dflt args=some ps){s1 s2:St}{g:A8}
  (B:Ea9 f.scope.names ps {st with hp:=st.hp++(Ae7 f.scope.names ps st.hp.length).2,lc:=[]} s1)(hx:R.exs (ecFn f ps st.hp.length) f.body s1=some (g,s2,ob))(hob:All ob)
  (hv:∀{as h x},FlR as h g x→VR as h v (match x with | .ret v=>v | _=>.none)){vs:List Value}(hok:AOk A (M+4*n+1))(hr:HR w g0 as st.hp s.heap)(hvs:VRs as s.heap args vs):HC w g0 A as s s2.hp (PV v) (.call (.ref a) ⟨vs,[]⟩):=by
 intro RR k
 refine oEAAEA (F.bind as s.heap args vs ps hr.base hvs hf) λus ul ub l pl lu=>?_
 have hlk:∀x:Str,f.scope.names.lookup x=look f.scope.names x:=λx=>(Bc7 _ _).symm
 have cl:∀x,look f.scope.names x=some .cell→((cellsFrom (s.heap.objs.size+1) f.scope.names []).lookup x).isSome=true:=λx q=>by
  obtain ⟨j,hj,ej⟩:=List.getElem_of_mem (Dw7 q)
  rw [Ak6 f.scope.names _ [] j F.nd (by rw [List.getElem?_eq_getElem hj,ej])];rfl
 refine (Bp1 hok.room (hr.base _ _ F.at_) F.data (H.lim.keeps hr.base) (F.code.keeps hr.base) F.body (ub s rfl) F.clo (λx m=>?_) (λs₁ IC=>?_) (by exact (F.scope)▸F.co) (by exact (F.scope)▸F.gen) (by exact (F.scope)▸F.kind))
 ·rw [F.scope,hlk]
  exact (Cr5 lu.1 m).elim λu hu=>(B.kind _ (pl▸hu)).elim .inl λq=>.inr ⟨q,cl _ q⟩
 ·obtain ⟨h1,tk1,rfl⟩:=IC.toInCall.same
  have Z:FrZ f fd a us s.heap h1:=⟨IC.toInCall.keep,IC.toInCall.ns,λx j q=>IC.cell x _ (by show (cellsFrom (s.heap.objs.size+1) fd.scope.names []).lookup x=_;exact (F.scope)▸Ak6 f.scope.names _ [] j F.nd q)⟩
  exact S.exs hx hob (⟨by show fd.scope.kind=_;refine Eq.trans (congrArg _ (F.scope)) ?_;exact F.kind,Bn1 F _,F.dbg,F.glo,F.blt,F.lam⟩) (hok.deeper (callEnvC fd s.heap.objs.size a)) (s:={s with heap:=h1,toks:=tk1}) (Da6 F hr Z ul pl lu B) _ _ λas2 h2 tk2 x i2 S2 vx=>k as2 h2 tk2 _ i2.hr (Cl1 hr Z.kp S2) (hv vx)
theorem Cm9 (H:GOk w G K g0 mg mb)(S:Snd w K g0 M n R){a:Addr}{f:Fn}{o:Obj}{fd:FuncData}(F:Ea7 g0 a f o fd){args:List SV}{v:SV}{ob:List Prop}(e:Cn0 R f args st=some (v,st',ob))(hob:All ob):EntC w g0 (M+4*n) a args st st' v:=by
 unfold Cn0 at e
 cases hf:fill f.params f.dflt args with
 | none=>rw [hf] at e;exact no1 e
 | some ps=>
  replace e:=hf▸e
  dsimp only at e
  cases hb:Mine.bind f.scope.names ps {st with hp:=st.hp++(Ae7 f.scope.names ps st.hp.length).2,lc:=[]} with
  | none=>replace e:=hb▸e;exact no1 e
  | some s1=>
   replace e:=hb▸e
   dsimp only at e
   cases hx:R.exs (ecFn f ps st.hp.length) f.body s1 with
   | none=>rw [hx] at e;exact no1 e
   | some r=>
    obtain ⟨g,s2,o2⟩:=r
    replace e:=hx▸e
    cases g with
    | ret u=>revert hob;exact A4 e λhob=>⟨rfl,λok hr hvs=>Ba3 H S F hf (Bj4 ps hb) hx hob (λq=>q.inv.elim λy z=>by exact (z.1)▸z.2) ok hr hvs⟩
    | next=>revert hob;exact A4 e λhob=>⟨rfl,λok hr hvs=>Ba3 H S F hf (Bj4 ps hb) hx hob (λq=>by exact (show _=Flow.next from q.inv)▸.none) ok hr hvs⟩
    | _=>exact no1 e
end
section
variable {w:World}{G:Top}{K:Frag}{g0:Heap}{mg mb:Str→Option Value}{env:Env}{c:EC}{A:Around}{as:List Addr}{st st1 st2 st':St}{s:Shared}{M n:Nat}{R:Rec}
theorem AOk.under {m:Nat}(x:AOk A (m+1))(C:Addr)(vs:List Value):AOk (A.under (.builtin "type.__call__" ⟨.ref C::vs,[]⟩)) m:=by
 have hu:(A.under (.builtin "type.__call__" ⟨.ref C::vs,[]⟩)).units≤A.units+1:=
  Nat.add_le_add_left (show Code.cUnits (.builtin "type.__call__" ⟨.ref C::vs,[]⟩)≤1 from Nat.le_refl _) _
 have h1:=x.2.1
 have h2:=x.2.2
 exact ⟨x.1,by simp only [depth_under_kw];lia,by lia⟩
theorem Dq8 (h:Heap):(h.push emptyDict).Ns1 h.objs.size (λu0=>none):=
 ⟨emptyDict,#[],0,Heap.get?_push_size _ rfl,rfl,(λu0 m=>by simp at m),List.Pairwise.nil,λu0=>rfl⟩
def CalC (w:World)(g0:Heap)(m:Nat)(a:Addr)(args:List SV)(st st':St)(v:SV):Prop:=
 st'.lc=st.lc∧∀{A as s vs},AOk A m→HR w g0 as st.hp s.heap→VRs as s.heap args vs→HT w g0 A as s st'.hp (PV v) (call (.ref a) vs)
theorem AOk.dn4 {M n:Nat}(x:AOk A (M+4*(n+1))):AOk A (M+4*n+2):=x.le (by simp +arith)
theorem make_s (H:GOk w G K g0 mg mb)(S:Snd w K g0 M n R){a i:Addr}{f:Fn}(hc:G.cls a=true)(hm:G.meth a "__init__"=some i)(hf:G.fn i=some f){args:List SV}{v:SV}{ob:List Prop}
  (e:((new (.ns [])).bnd λd=>(X.lift (Aj1 d)).bnd λd=>(new (.inst a d)).bnd λx=>(Cn0 R f (x::args)).bnd λr=>Mine.guard (Ad8 r) (X.ret x)) st=some (v,st',ob))(hob:All ob):CalC w g0 (M+4*(n+1)) a args st st' v:=by
 replace e:=newB e
 refine A6 e ?_;clear e;intro d hd e
 obtain rfl:=A9 hd
 replace e:=newB e
 revert hob;refine B5 e ?_;clear e;intro r st3 o5 o6 h3 e hob
 refine Aa3 e ?_;clear e;intro hn e
 simp only [Ad0 hn] at h3
 refine A4 e ?_;clear e
 refine oAAA (H.meth a "__init__" i hm) λm1 m2 m3 m4=>?_
 refine oAEE (H.fn i f hf) λu0 o fd F=>?_
 have hen:=Cm9 H S F h3 hob.left
 refine ⟨hen.1,λ{A as s vs} ok hr hvs=>?_⟩
 obtain ⟨hh,g,dr,tk,os⟩:=s
 have X:K.In hh:=H.kin.keeps hr.base
 refine HC.call λRR k=>make_core (makes_of X (H.cls a hc).2) (looks_findIn X m2) (λself=>bind_fn X self m3) (.inl rfl) ?_
 have r1:HR w g0 (as++[hh.objs.size]) (st.hp++[.ns []]) (hh.push emptyDict):=hr.push ⟨_,Dq8 hh,λu0 u0 q=>(nomatch q),λu0 u0=>rfl⟩
 have l1:(as++[hh.objs.size]).length=(st.hp++[A0.ns []]).length:=by simp only [List.length_append,List.length_append,hr.len];rfl
 have r2:HR w g0 ((as++[hh.objs.size])++[(hh.push emptyDict).objs.size]) ((st.hp++[.ns []])++[.inst a st.hp.length]) ((hh.push emptyDict).push (instObj a hh.objs.size)):=
  r1.push ⟨hh.objs.size,Aj2 (Ba7 hr.len _),Heap.get?_push_size _ rfl⟩
 have S1:Stp none as hh (as++[hh.objs.size]) (hh.push emptyDict):=Stp.push
 have vx:VR ((as++[hh.objs.size])++[(hh.push emptyDict).objs.size]) ((hh.push emptyDict).push (instObj a hh.objs.size)) (.loc (st.hp++[A0.ns []]).length) (.ref (hh.objs.size+1)):=.loc _ _ ((Heap.size_push ..)▸Ba7 l1 _)
 refine hen.2 (ok.dn4.under a vs) (s:=⟨_,g,dr,tk,os⟩) r2 (VRs.cons vx ((hvs.step S1).step (Stp.push))) _ λas3 h3 tk3 b r3 S3 vb=>?_
 rw [vb.noneI]
 exact ⟨rfl,k as3 h3 tk3 _ r3 ((S1.trans (Stp.push)).trans S3) (vx.step S3)⟩
def Bj6 (w:World)(g0:Heap)(M:Nat)(c:EC)(t:Expr)(b:List Stmt)(hp:List A0)(lc:List (Str×SV))(f:A8)(hp':List A0)(lc':List (Str×SV)):Prop:=
 ∀{env:Env} {A:Around} {as:List Addr} {s:Shared},EOk env c→AOk A M→In w g0 env c as ⟨hp,lc,[]⟩ s.heap→
  ∀RR:Result→Shared→Prop,(∀as' h' tk x,In w g0 env c as' ⟨hp',lc',[]⟩ h'→Stp (some env.locals) as s.heap as' h'→FlR as' h' f x→RR (.ok x) {s with heap:=h',toks:=tk})→codeAny (model pw w) A (.whileLoop t b [] env) RR s
def Bj9 (w:World)(g0:Heap)(M:Nat)(c:EC)(t:Expr)(it:SIt)(b:List Stmt)(hp:List A0)(lc:List (Str×SV))(f:A8)(hp':List A0)(lc':List (Str×SV)):Prop:=
 ∀{env:Env} {A:Around} {as:List Addr} {s:Shared} {I:Addr} {own:List Addr},EOk env c→AOk A M→In w g0 env c as ⟨hp,lc,[]⟩ s.heap→ItR w as s.heap it I own→Aj3 g0 env.locals as own→(∀a∈own,a∉Hid.off)→
  ∀RR:Result→Shared→Prop,(∀as' h' tk x,In w g0 env c as' ⟨hp',lc',[]⟩ h'→Aj7 own env.locals as s.heap as' h'→FlR as' h' f x→RR (.ok x) {s with heap:=h',toks:=tk})→codeAny (model pw w) A (.forLoop t (.ref I) b [] env) RR s
structure Ag3 (w:World)(g0:Heap)(M:Nat)(T:A7):Prop where
 ok:∀a args hp v hp',T.ok a args hp v hp'→∀X:Hid,@Aj5 X w g0 M a args hp v hp'
 whl:∀c t b hp lc f hp' lc',T.whl c t b hp lc f hp' lc'→∀X:Hid,@Bj6 X w g0 M c t b hp lc f hp' lc'
 forL:∀c t it b hp lc f hp' lc',T.forL c t it b hp lc f hp' lc'→∀X:Hid,@Bj9 X w g0 M c t it b hp lc f hp' lc'
def FvC (w:World)(K:Frag)(g0:Heap)(m:Nat)(f:SV)(args:List SV)(st st':St)(v:SV):Prop:=
 st'.lc=st.lc∧(∀{as h fv},VR as h f fv→Ad1 K fv)∧∀{A as s fv vs},AOk A m→HR w g0 as st.hp s.heap→VR as s.heap f fv→VRs as s.heap args vs→HT w g0 A as s st'.hp (PV v) (call fv vs)
theorem FvC.glb {m:Nat}{a:Addr}{args:List SV}{v:SV}(hk:keepIn K (.ref a)=true)(x:CalC w g0 m a args st st' v):FvC w K g0 m (.glb a) args st st' v:=
 ⟨x.1,λq=>by simp only [q.glbI];exact Ad1.of hk,λok hr hf hv=>by rw [hf.glbI];exact x.2 ok hr hv⟩
theorem Co4 (H:GOk w G K g0 mg mb)(S:Snd w K g0 M n R){T:A7}(hT:Ag3 w g0 M T){f v:SV}{args:List SV}{ob:List Prop}(e:Dd8 G R T f args st=some (v,st',ob))(hob:All ob):FvC w K g0 (M+4*(n+1)) f args st st' v:=by
 have blt:builtin f args st=some (v,st',ob)→(∀{as h fv},VR as h f fv→Ad1 K fv)→FvC w K g0 (M+4*(n+1)) f args st st' v:=λe hk=>
  have b:=Cp0 (w:=w) (g0:=g0) H.tab e hob
  ⟨b.1,hk,λok hr hf hv=>b.2 (n:=M+4*n+3) ok hr hf hv⟩
 unfold Dd8 at e
 cases f with
 | glb a=>
  dsimp only at e
  cases hs:G.sum a with
  | true=>
   replace e:=hs▸e
   dsimp only at e
   cases ho:st.orc with
   | nil=>replace e:=ho▸e;exact no1 e
   | cons q r=>
    replace e:=ho▸e
    cases q with
    | call u hp=>
     revert hob;exact A4 e λhob=>.glb (H.sum a hs) ⟨rfl,λ{A as s vs} ok hr hv=>hT.ok _ _ _ _ _ (hob _ List.mem_cons_self) _ A as s vs (ok.le (Nat.le_add_right _ _)) hr hv⟩
    | _=>exact no1 e
  | false=>
   rw [hs] at e
   cases hf:G.fn a with
   | some f=>
    rw [hf] at e
    refine oAEE (H.fn a f hf) λhk o fd F=>?_
    have h:=Cm9 H S F e hob
    exact .glb hk ⟨h.1,λok hr hv=>(h.2 (ok.dn4.le (Nat.le_succ _)) hr hv).call⟩
   | none=>
    rw [hf] at e
    refine Aa3 e ?_;clear e;intro hc e
    refine A6 e ?_;clear e;intro i hm e
    refine A6 e ?_;clear e;intro f hfi e
    exact .glb (H.cls a hc).1 (make_s H S hc hm hfi e hob)
 | typ t=>exact blt e λq=>by rw [q.typI];exact Ad1.typ
 | blt i=>exact blt e λq=>by rw [q.bltI];exact Ad1.blt
 | _=>exact no1 e
end
end
section
variable {w:World}{G:Top}{K:Frag}{g0:Heap}{mg mb:Str→Option Value}{M:Nat}{T:A7}
structure As0 (w:World)(g0:Heap)(M:Nat)(T:A7):Prop where
 whl:∀c t b hp lc f hp' lc',T.whl c t b hp lc f hp' lc'→∀X:Hid,@Bj6 X w g0 M c t b hp lc f hp' lc'
 forL:∀c t it b hp lc f hp' lc',T.forL c t it b hp lc f hp' lc'→∀X:Hid,@Bj9 X w g0 M c t it b hp lc f hp' lc'
theorem Cd5 [HI:Hid](d:Nat):Snd w K g0 M d nay where
 ev:=λh=>no1 h
 use:=λh=>no1 h
 evs:=λh=>no1 h
 tr:=λh=>no1 h
 asg:=λh=>no1 h
 ex:=λh=>no1 h
 exs:=λh=>no1 h
 call:=λh=>no1 h
 forL:=λh=>no1 h
 whl:=λh=>no1 h
 cmpL:=λh=>no1 h
theorem Bz1 {R:Rec}{c:EC}{t:Expr}{it:SIt}{b:List Stmt}{st:St}{r:A8×St×List Prop}{P:Prop}(h:Da9 R T c t it b st=some r)(k1:Ax7 R c t it b st=some r→P)
  (k2:∀(f:A8) (g:List A0→List A0) (l:List (Str×SV)→List (Str×SV)) (o:List Orc),isList it=true→(f,(⟨g st.hp,l st.lc,o⟩:St),[T.forL c t it b st.hp st.lc f (g st.hp) (l st.lc)])=r→P):P:=by
 change (match st.orc with
  | .loop n f g l::r=>match Nat.beq n t.pos.line,isList it with
   | true,true=>some (f,(⟨g st.hp,l st.lc,r⟩:St),[T.forL c t it b st.hp st.lc f (g st.hp) (l st.lc)])
   | true,false=>none
   | _,_=>Ax7 R c t it b st
  | _=>Ax7 R c t it b st)=_ at h
 cases ho:st.orc with
 | nil=>replace h:=ho▸h;exact k1 h
 | cons q o=>
  rw [ho] at h
  cases q with
  | loop n f g l=>
   dsimp only at h
   cases hn:Nat.beq n t.pos.line with
   | false=>replace h:=hn▸h;exact k1 h
   | true=>
    rw [hn] at h
    cases hl:isList it with
    | true=>rw [hl] at h;exact k2 f g l o hl (A9 h)
    | false=>rw [hl] at h;exact no1 h
  | _=>exact k1 h
theorem Cb8 {R:Rec}{c:EC}{t:Expr}{b:List Stmt}{st:St}{r:A8×St×List Prop}{P:Prop}(h:whlF R T c t b st=some r)(k1:∀o,Cb7 R c t b ⟨st.hp,st.lc,o⟩=some r→P)
  (k2:∀(f:A8) (g:List A0→List A0) (l:List (Str×SV)→List (Str×SV)) (o:List Orc),(f,(⟨g st.hp,l st.lc,o⟩:St),[T.whl c t b st.hp st.lc f (g st.hp) (l st.lc)])=r→P):P:=by
 change (match st.orc with
  | .loop n f g l::r=>match Nat.beq n t.pos.line with
   | true=>some (f,(⟨g st.hp,l st.lc,r⟩:St),[T.whl c t b st.hp st.lc f (g st.hp) (l st.lc)])
   | false=>Cb7 R c t b st
  | .turn n::r=>match Nat.beq n t.pos.line with
   | true=>Cb7 R c t b ⟨st.hp,st.lc,r⟩
   | false=>Cb7 R c t b st
  | _=>Cb7 R c t b st)=_ at h
 cases ho:st.orc with
 | nil=>replace h:=ho▸h;exact k1 st.orc h
 | cons q o=>
  rw [ho] at h
  cases q with
  | loop n f g l=>
   dsimp only at h
   cases hn:Nat.beq n t.pos.line with
   | false=>rw [hn] at h;exact k1 st.orc h
   | true=>rw [hn] at h;exact k2 f g l o (A9 h)
  | turn n=>
   dsimp only at h
   cases hn:Nat.beq n t.pos.line with
   | false=>rw [hn] at h;exact k1 st.orc h
   | true=>rw [hn] at h;exact k1 o h
  | _=>exact k1 st.orc h
theorem Bq7 [X:Hid]{n:Nat}{R:Rec}{cl:SV→List SV→Mine.X SV}(H:GOk w G K g0 mg mb)(hX:Ba9 X g0)(hT:As0 w g0 (M+1+4*n) T)(SY:∀Y:Hid,Ba9 Y g0→@Snd Y w K g0 (M+1) n R)
  (hc:∀{f args st v st' ob},cl f args st=some (v,st',ob)→All ob→FvC w K g0 (M+1+4*n) f args st st' v):
  Snd w K g0 (M+1) n ⟨evF G R,evsF R,trF G R,asgF G R,exF G R,exsF R,cl,Da9 R T,whlF R T,Cn9 R⟩:=by
 have S:Snd w K g0 (M+1) n R:=SY X hX
 refine ⟨λh hob=>evF_s H S h hob,λh hob hc u0 u0 u0 u0 O ok I=>useF_s H S h hob hc O ok I,λh hob=>evsF_s S h hob,λh hob u0 u0 u0 u0 O ok I=>trF_s H S h hob O ok I,λh hob=>asg_s H S h hob,λh hob u0 u0 u0 u0 O ok I=>exF_s H hX SY h hob O ok I,λh hob u0 u0 u0 u0 O ok I=>exsF_s S h hob O ok I,λh hob=>hc h hob,?_,?_,?_⟩
 ·intro c t it b st f st' ob h hob env A as s I own O ok i0 hit ap hh RR k
  have nrm:Ax7 R c t it b st=some (f,st',ob)→codeAny (model pw w) A (.forLoop t (.ref I) b [] env) RR s:=λh=>by
   cases hz:Ah8 it with
   | true=>exact Da8 S hz h hob O ok i0 hit ap RR k
   | false=>exact forL_s S hz h hob O ok i0 hit ap (hh hz) RR k
  refine Bz1 h nrm λf' g l o hl e=>?_
  cases e
  exact hT.forL _ _ _ _ _ _ _ _ _ hob.one _ O ok (i0.same_st rfl rfl) hit ap (hh (by cases it<;>first | rfl | exact B3 hl)) RR λas' h' tk x i S' vx=>k as' h' tk x (i.same_st rfl rfl) S' vx
 ·intro c t b st f st' ob h hob env A as s O ok I RR k
  refine Cb8 h (λo h=>whl_s S h hob O ok (I.same_st rfl rfl) RR k) λf' g l o e=>?_
  cases e
  exact hT.whl _ _ _ _ _ _ _ _ hob.one _ O ok (I.same_st rfl rfl) RR λas' h' tk x i S' vx=>k as' h' tk x (i.same_st rfl rfl) S' vx
 ·intro c x elt ifs it acc st l st' ob h hob env A as s I own D vs ep O ok i0 hit ap hD hh hl hv hz px iter scope pos RR k
  exact cmpL_s S h hob O ok i0 ⟨hit,ap,hD,hh,hz,vs,ep,hl,hv⟩ RR k
theorem Bj6.mono [HI:Hid]{c t b hp lc f hp' lc'}{M N:Nat}(x:Bj6 w g0 M c t b hp lc f hp' lc')(h:M≤N):Bj6 w g0 N c t b hp lc f hp' lc':=
 λO ok I RR k=>x O (ok.le h) I RR k
theorem Bj9.mono [HI:Hid]{c t it b hp lc f hp' lc'}{M N:Nat}(x:Bj9 w g0 M c t it b hp lc f hp' lc')(h:M≤N):Bj9 w g0 N c t it b hp lc f hp' lc':=
 λO ok I hit ap hh RR k=>x O (ok.le h) I hit ap hh RR k
theorem Ag3.loops (x:Ag3 w g0 M T){N:Nat}(h:M≤N):As0 w g0 N T:=
 ⟨λu0 u0 u0 u0 u0 u0 u0 u0 e X=>@Bj6.mono w g0 X _ _ _ _ _ _ _ _ _ _ (x.whl _ _ _ _ _ _ _ _ e X) h,λu0 u0 u0 u0 u0 u0 u0 u0 u0 e X=>@Bj9.mono w g0 X _ _ _ _ _ _ _ _ _ _ _ (x.forL _ _ _ _ _ _ _ _ _ e X) h⟩
theorem run_s (HG:∀Y:Hid,Ba9 Y g0→@GOk Y w G K g0 mg mb)(hT:Ag3 w g0 (M+1) T)(n:Nat):∀(d:Nat) (Y:Hid),Ba9 Y g0→@Snd Y w K g0 (M+1) d (Ae2 G T n d):=by
 induction n with
 | zero=>exact λd Y u0=>@Cd5 w K g0 (M+1) Y d
 | succ n ih=>
  intro d Y hY
  refine @Bq7 w G K g0 mg mb M T Y d _ _ (HG Y hY) hY (hT.loops (Nat.le_add_right _ _)) (λZ hZ=>ih d Z hZ) ?_
  cases d with
  | zero=>intro f args st v st' ob h;exact no1 h
  | succ d=>exact λh hob=>Co4 (M:=M+1) (n:=d) (HG Y hY) (ih d Y hY) hT h hob
theorem Aj5.mono [HI:Hid]{a:Addr}{args:List SV}{hp:List A0}{v:SV}{hp':List A0}{M N:Nat}(x:Aj5 w g0 M a args hp v hp')(h:M≤N):Aj5 w g0 N a args hp v hp':=
 λA as s vs ok hr hv=>x A as s vs (ok.le h) hr hv
theorem Cu9 (HG:∀Y:Hid,Ba9 Y g0→@GOk Y w G K g0 mg mb)(hT:Ag3 w g0 (M+1) T){n d:Nat}{a:Addr}{args:List SV}{hp:List A0}{orc:List Orc}{v:SV}{st':St}{ob:List Prop}
  (e:(Ae2 G T n d).call (.glb a) args ⟨hp,[],orc⟩=some (v,st',ob))(hob:All ob):∀X:Hid,@Aj5 X w g0 (M+1+4*d) a args hp v st'.hp:=λX A as s vs ok hr hv=>by
 exact ((run_s HG hT n d X (λa m=>(hr.hid a m).1)).call e hob).2.2 ok hr (.glb a) hv
end
def rn (js:List Nat)(N:Nat)(k:Nat):Nat:=match at? js k with
 | some j=>j
 | none=>N+(k-js.length)
mutual
noncomputable def svR (ρ:Nat→Nat):SV→SV
 | .tup l=>.tup (svRs ρ l)
 | .loc k=>.loc (ρ k)
 | .none=>.none
 | .bool b=>.bool b
 | .int i=>.int i
 | .str s=>.str s
 | .glb a=>.glb a
 | .typ n=>.typ n
 | .blt i=>.blt i
 | .val v=>.val v
 | .any=>.any
 | .fset l=>.fset l
 | .rng n=>.rng n
 | .key k=>.key k
noncomputable def svRs (ρ:Nat→Nat):List SV→List SV
 | []=>[]
 | a::l=>svR ρ a::svRs ρ l
end
noncomputable def esR (ρ:Nat→Nat):List (SV×SV)→List (SV×SV)
 | []=>[]
 | p::l=>(p.1,svR ρ p.2)::esR ρ l
noncomputable def nsR (ρ:Nat→Nat):List (Str×SV)→List (Str×SV)
 | []=>[]
 | p::l=>(p.1,svR ρ p.2)::nsR ρ l
theorem svT (ρ:Nat→Nat)(l:List SV):svR ρ (.tup l) = .tup (svRs ρ l):=rfl
theorem svL (ρ:Nat→Nat)(k:Nat):svR ρ (.loc k) = .loc (ρ k):=rfl
theorem svI (ρ:Nat→Nat)(i:Int):svR ρ (.int i) = .int i:=rfl
theorem svS (ρ:Nat→Nat)(s:Str):svR ρ (.str s) = .str s:=rfl
theorem svO (ρ:Nat→Nat):svR ρ .none = .none:=rfl
theorem svB (ρ:Nat→Nat)(b:Bool):svR ρ (.bool b) = .bool b:=rfl
theorem svA (ρ:Nat→Nat):svR ρ .any = .any:=rfl
theorem svF (ρ:Nat→Nat)(l:List Int):svR ρ (.fset l) = .fset l:=rfl
theorem svG (ρ:Nat→Nat)(a:Addr):svR ρ (.glb a) = .glb a:=rfl
theorem svN (ρ:Nat→Nat):svRs ρ [] = []:=rfl
theorem svC (ρ:Nat→Nat)(a:SV)(l:List SV):svRs ρ (a::l)=svR ρ a::svRs ρ l:=rfl
theorem esN (ρ:Nat→Nat):esR ρ [] = []:=rfl
theorem esC (ρ:Nat→Nat)(p:SV×SV)(l:List (SV×SV)):esR ρ (p::l)=(p.1,svR ρ p.2)::esR ρ l:=rfl
theorem nsN (ρ:Nat→Nat):nsR ρ [] = []:=rfl
theorem nsC (ρ:Nat→Nat)(p:Str×SV)(l:List (Str×SV)):nsR ρ (p::l)=(p.1,svR ρ p.2)::nsR ρ l:=rfl
def Al2 (ρ:Nat→Nat):A0→A0
 | .list r n=>.list (svRs ρ r) n
 | .dict es=>.dict (esR ρ es)
 | .idict m n=>.idict (λk=>(m k).map (svR ρ)) n
 | .lst0 x l n ob=>.lst0 (svR ρ x) l n ob
 | .inst C d=>.inst C (ρ d)
 | .ns es=>.ns (nsR ρ es)
 | .cell v=>.cell (v.map (svR ρ))
 | .tab P=>.tab P
noncomputable def NsLe (ρ:Nat→Nat):List (Str×SV)→List (Str×SV)→Prop
 | [],[]=>True
 | p::l,q::m=>p.1=q.1∧(p.2 = .any∨q.2=svR ρ p.2)∧NsLe ρ l m
 | _,_=>False
noncomputable def EsLe (ρ:Nat→Nat):List (SV×SV)→List (SV×SV)→Prop
 | [],[]=>True
 | p::l,q::m=>p.1=q.1∧(p.2 = .any∨q.2=svR ρ p.2)∧EsLe ρ l m
 | _,_=>False
def Af5 (ρ:Nat→Nat)(o O:A0):Prop:=match o with
 | .list r n=>∃m,O = .list (svRs ρ r) m∧r.length≤n
 | .idict m n=>(∃N,O = .idict (λk=>(m k).map (svR ρ)) N∧N≤n)∨(∃es,O = .dict es∧(∀k:MK,(m k).map (svR ρ)=Ak5 es k.sv)∧es.length≤n)
 | .ns es=>∃ES,O = .ns ES∧NsLe ρ es ES
 | .dict es=>∃ES,O = .dict ES∧EsLe ρ es ES
 | o=>O=Al2 ρ o
theorem Ae0 (ρ:Nat→Nat)(l:List SV):svRs ρ l=l.map (svR ρ):=by
 induction l with
 | nil=>rfl
 | cons a l ih=>exact congrArg (svR ρ a::·) ih
theorem Ao0 (ρ:Nat→Nat)(l:List SV):(svRs ρ l).length=l.length:=by simp only [Ae0,List.length_map]
theorem Bl3 (ρ:Nat→Nat)(l k:List SV):svRs ρ (l++k)=svRs ρ l++svRs ρ k:=by simp only [Ae0,Ae0,Ae0,List.map_append]
theorem Ac5 (ρ:Nat→Nat)(l:List SV):svRs ρ l.reverse=(svRs ρ l).reverse:=by simp only [Ae0,Ae0,List.map_reverse]
theorem Cm3 (ρ:Nat→Nat)(l:List (SV×SV)):esR ρ l=l.map λp=>(p.1,svR ρ p.2):=by
 induction l with
 | nil=>rfl
 | cons a l ih=>exact congrArg ((a.1,svR ρ a.2)::·) ih
section
variable [HI:Hid]{w:World}{g0 h:Heap}{as bs:List Addr}{ρ:Nat→Nat}
theorem VRi.vr {x:SV}{v:Value}(X:VRi as h x v):VR as h x v:=by
 cases x with
 | none=>exact (show v = .none from X)▸.none
 | bool b=>exact (show v = .bool b from X)▸.bool b
 | int i=>exact Exists.elim X λt e=>e▸.int i t
 | str s=>exact Exists.elim X λt e=>e▸.str s t
 | tup l=>exact Exists.elim X λa X=>X.elim λvs X=>X.1▸.tup l vs a X.2.1 X.2.2.1 X.2.2.2
 | loc k=>exact Exists.elim X λa X=>X.1▸.loc k a X.2
 | glb a=>exact (show v = .ref a from X)▸.glb a
 | typ n=>exact (show v = .type n.name from X)▸.typ n
 | blt n=>exact (show v = .builtin n.name from X)▸.blt n
 | val u=>exact (show v=u from X)▸.val v
 | any=>exact .any v
 | fset l=>exact Exists.elim X λa X=>X.1▸.fset l a X.2
 | rng n=>exact Exists.elim X λa X=>X.elim λt X=>X.elim λu X=>X.elim λw X=>X.1▸.rng n a t u w X.2
 | key k=>exact .key k v X
def RenP (as bs:List Addr)(h:Heap)(ρ:Nat→Nat)(x:SV):Prop:=∀v,((∀k a,as[k]?=some a→bs[ρ k]?=some a)→VR as h x v→VR bs h (svR ρ x) v)∧((∀k a,bs[ρ k]?=some a→as[k]?=some a)→VR bs h (svR ρ x) v→VR as h x v)
theorem Cf2:∀x:SV,RenP as bs h ρ x:=by
 apply @SV.rec (RenP as bs h ρ) λl=>∀x∈l,RenP as bs h ρ x
 case tup=>
  refine λl ih v=>⟨λhA X=>X.tupI.elim λa X=>X.elim λvs X=>X.1▸.tup _ vs a X.2.1 ((Ao0 ρ l).trans X.2.2.1) λi y v e e'=>?_,λhA X=>VR.tupI (l:=svRs ρ l) X |>.elim λa X=>X.elim λvs X=>X.1▸.tup _ vs a X.2.1 ((Ao0 ρ l).symm.trans X.2.2.1) λi y v e e'=>?_⟩
  ·rw [Ae0,List.getElem?_map] at e
   exact (Option.map_eq_some_iff.mp e).elim λu hu=>hu.2▸(ih u (List.mem_of_getElem? hu.1) v).1 hA (X.2.2.2 i u v hu.1 e')
  ·exact (ih y (List.mem_of_getElem? e) v).2 hA (X.2.2.2 i _ v (by rw [Ae0,List.getElem?_map,e];rfl) e')
 case loc=>exact λk v=>⟨λhA X=>X.inv.elim λa q=>q.1▸.loc _ a (hA k a q.2),λhA X=>X.inv.elim λa q=>q.1▸.loc _ a (hA k a q.2)⟩
 case nil=>exact λx m=>nomatch m
 case cons=>exact λa l ha ih x m=>(List.mem_cons.mp m).elim (λe=>e▸ha) (ih x)
 case none=>exact λv=>⟨λu0 X=>VRi.vr X.inv,λu0 X=>VRi.vr X.inv⟩
 case any=>exact λv=>⟨λu0 X=>VRi.vr X.inv,λu0 X=>VRi.vr X.inv⟩
 all_goals exact λu0 v=>⟨λu0 X=>VRi.vr X.inv,λu0 X=>VRi.vr X.inv⟩
theorem VR.ren (hA:∀k a,as[k]?=some a→bs[ρ k]?=some a)(x:SV)(v:Value)(X:VR as h x v):VR bs h (svR ρ x) v:=(Cf2 x v).1 hA X
theorem VR.unren (hA:∀k a,bs[ρ k]?=some a→as[k]?=some a)(x:SV)(v:Value)(X:VR bs h (svR ρ x) v):VR as h x v:=(Cf2 x v).2 hA X
theorem VRs.ren (hA:∀k a,as[k]?=some a→bs[ρ k]?=some a)(l:List SV)(vs:List Value)(X:VRs as h l vs):VRs bs h (svRs ρ l) vs:=
 ⟨(Ao0 ρ l).trans X.1,λi y v e e'=>by
  rw [Ae0,List.getElem?_map] at e
  exact (Option.map_eq_some_iff.mp e).elim λu hu=>hu.2▸VR.ren hA u v (X.2 i u v hu.1 e')⟩
theorem VRs.unren (hA:∀k a,bs[ρ k]?=some a→as[k]?=some a)(l:List SV)(vs:List Value)(X:VRs bs h (svRs ρ l) vs):VRs as h l vs:=
 ⟨(Ao0 ρ l).symm.trans X.1,λi y v e e'=>VR.unren hA y v (X.2 i _ v (by simp only [Ae0,List.getElem?_map,e];rfl) e')⟩
theorem DRs.ren (hA:∀k a,as[k]?=some a→bs[ρ k]?=some a){es:List (SV×SV)}{kvs:List (MK×Value)}(X:DRs as h es kvs):DRs bs h (esR ρ es) kvs:=by
 rw [Cm3]
 refine ⟨List.length_map _ |>.trans X.1,λi p q e e'=>?_⟩
 rw [List.getElem?_map] at e
 exact (Option.map_eq_some_iff.mp e).elim λu hu=>hu.2▸⟨(X.2 i u q hu.1 e').1,VR.ren hA _ _ (X.2 i u q hu.1 e').2⟩
theorem Dc6 (k:SV)(es:List (SV×SV)):Ak5 (esR ρ es) k=(Ak5 es k).map (svR ρ):=by
 induction es with
 | nil=>rfl
 | cons p l ih=>
  refine (Ah9 _ _ _).trans ?_
  rw [Ah9]
  cases keq p.1 k with
  | true=>rfl
  | false=>exact ih
theorem Dv2 (es:List (SV×SV)):(esR ρ es).length=es.length:=by simp only [Cm3,List.length_map]
theorem Bs5 (n:Str)(es:List (Str×SV)):look (nsR ρ es) n=(look es n).map (svR ρ):=by
 induction es with
 | nil=>rfl
 | cons p l ih=>
  refine (Aa7 _ _ _).trans ?_
  rw [Aa7]
  cases seq p.1 n with
  | true=>rfl
  | false=>exact ih
theorem OR.ren (hA:∀k a,as[k]?=some a→bs[ρ k]?=some a){o:A0}{a:Addr}(x:OR w as h o a):OR w bs h (Al2 ρ o) a:=by
 cases o with
 | list r n=>
  obtain ⟨hl,vs,ep,ho,hv⟩:=x
  exact ⟨by rw [Ao0];exact hl,vs,ep,ho,by rw [← Ac5];exact VRs.ren hA _ _ hv⟩
 | dict es=>obtain ⟨kvs,q,hv⟩:=x;exact ⟨kvs,q,DRs.ren hA hv⟩
 | idict m n=>
  obtain ⟨kvs,es,q,hv,hm,hl⟩:=x
  subst hm
  exact ⟨kvs,esR ρ es,q,DRs.ren hA hv,funext λk=>(Dc6 _ _).symm,by rw [Dv2];exact hl⟩
 | lst0 y l n ob=>obtain ⟨hl,ho,vs,ep,e0,hv,hx⟩:=x;exact ⟨hl,ho,vs,ep,e0,hv,λv ws e=>VR.ren hA _ _ (hx v ws e)⟩
 | inst C d=>obtain ⟨dx,hd,ho⟩:=x;exact ⟨dx,hA _ _ hd,ho⟩
 | ns es=>
  obtain ⟨m,q,hv,hn⟩:=x
  refine ⟨m,q,λn v e=>?_,λn e=>?_⟩
  ·rw [Bs5] at e
   refine oEA (Option.map_eq_some_iff.mp e) λu hu z2=>?_;subst z2
   obtain ⟨y,hy,hyv⟩:=hv n u hu
   exact ⟨y,hy,VR.ren hA _ _ hyv⟩
  ·rw [Bs5] at e
   exact hn n (Option.map_eq_none_iff.mp e)
 | cell v=>
  obtain ⟨cv,q,hv⟩:=x
  refine ⟨cv,q,?_⟩
  cases v with
  | none=>trivial
  | some v=>obtain ⟨u,hu,hr⟩:=hv;exact ⟨u,hu,VR.ren hA _ _ hr⟩
 | tab P=>exact x
theorem Dc5 {f:MK→SV}(k:MK)(kvs:List (MK×Value)):Ak5 (kvs.map λp=>(p.1.sv,f p.1)) k.sv=(valueAt kvs k).map λu0=>f k:=by
 induction kvs with
 | nil=>rfl
 | cons p r ih=>
  rw [List.map_cons,Ah9,Av9]
  by_cases q:p.1=k
  ·rw [decide_eq_true q,show valueAt (p::r) k=some p.2 by unfold valueAt;rw [List.find?_cons,decide_eq_true q];rfl,q];rfl
  ·rw [decide_eq_false q,show valueAt (p::r) k=valueAt r k by unfold valueAt;rw [List.find?_cons,decide_eq_false q]];exact ih
def LookLe (ρ:Nat→Nat)(x y:Option SV):Prop:=match x with
 | some v=>∃V,y=some V∧(v = .any∨V=svR ρ v)
 | none=>y=none
theorem NsLe.find {n:Str}(es:List (Str×SV)):∀ES,NsLe ρ es ES→LookLe ρ (look es n) (look ES n):=by
 induction es with
 | nil=>
  intro ES h
  cases ES with
  | nil=>exact rfl
  | cons _ _=>exact h.elim
 | cons p l ih=>
  intro ES h
  cases ES with
  | nil=>exact h.elim
  | cons q m=>
   rw [Aa7,Aa7,← (show p.1=q.1 from h.1)]
   cases seq p.1 n with
   | true=>exact ⟨_,rfl,h.2.1⟩
   | false=>exact ih m h.2.2
theorem vr_le (hA:∀k a,bs[ρ k]?=some a→as[k]?=some a){x y:SV}{v:Value}(q:x = .any∨y=svR ρ x)(Y:VR bs h y v):VR as h x v:=
 q.elim (λq=>q▸.any v) λq=>VR.unren hA x v (q▸Y)
theorem DRs.unrenLe (hA:∀k a,bs[ρ k]?=some a→as[k]?=some a)(es:List (SV×SV)):∀{ES:List (SV×SV)} {kvs:List (MK×Value)},EsLe ρ es ES→DRs bs h ES kvs→DRs as h es kvs:=by
 induction es with
 | nil=>
  intro ES kvs hl x
  cases ES with
  | nil=>exact (DRs.nil_inv x)▸DRs.nil
  | cons _ _=>exact hl.elim
 | cons p l ih=>
  intro ES kvs hl x
  cases ES with
  | nil=>exact hl.elim
  | cons q m=>
   obtain ⟨k,v,ws,rfl,e,y,z⟩:=x.cons_inv
   have:=DRs.cons (k:=k) (vr_le hA hl.2.1 y) (ih hl.2.2 z)
   rw [← e,← (show p.1=q.1 from hl.1)] at this
   exact this
theorem OR.unren_idict (hA:∀k a,bs[ρ k]?=some a→as[k]?=some a){m:MK→Option SV}{n:Nat}{a:Addr}{kvs:List (MK×Value)}{ES:List (SV×SV)}(q:h.DictOf (Aa1 w) a kvs)(hv:DRs bs h ES kvs)(hm:∀k:MK,(m k).map (svR ρ)=Ak5 ES k.sv)(hl:ES.length≤n):OR w as h (.idict m n) a:=by
 have sm:∀k,(m k).isSome=(valueAt kvs k).isSome:=λk=>by simp only [← DRs.sameS hv,← hm,Option.isSome_map]
 refine ⟨kvs,kvs.map λp=>(p.1.sv,(m p.1).getD .none),q,⟨List.length_map _,λi p r e1 e2=>?_⟩,funext λk=>?_,by simp only [List.length_map,← hv.1];exact hl⟩
 ·rw [List.getElem?_map,e2] at e1
  obtain rfl:=A9 e1
  refine ⟨rfl,?_⟩
  have hval:=valueAt_of_get (Ae5 q) (i:=i) (k:=r.1) (v:=r.2) e2
  have s:=sm r.1
  have hmr:=hm r.1
  cases z:m r.1 with
  | none=>rw [z,hval] at s;exact Bool.noConfusion s
  | some x=>
   rw [z] at hmr
   refine oEA (((DRs.get (k:=r.1) hv).1) _ hmr.symm) λu hu hvu=>?_
   obtain rfl:=A9 (hval.symm.trans hu)
   show VR as h ((m r.1).getD .none) r.2
   rw [z];exact VR.unren hA x _ hvu
 ·have s:=sm k
  rw [Dc5 (f:=λq=>(m q).getD .none)]
  cases z:m k with
  | none=>
   rw [z] at s
   cases z':valueAt kvs k with
   | none=>rfl
   | some _=>rw [z'] at s;exact Bool.noConfusion s
  | some x=>
   rw [z] at s
   cases z':valueAt kvs k with
   | none=>rw [z'] at s;exact Bool.noConfusion s
   | some _=>rfl
theorem OR.unren (hA:∀k a,bs[ρ k]?=some a→as[k]?=some a){o O:A0}(le:Af5 ρ o O){a:Addr}(x:OR w bs h O a):OR w as h o a:=by
 cases o with
 | list r n=>
  obtain ⟨m,rfl,hl⟩:=le
  obtain ⟨_,vs,ep,ho,hv⟩:=x
  exact ⟨hl,vs,ep,ho,VRs.unren hA _ _ (by rw [Ac5];exact hv)⟩
 | dict es=>obtain ⟨ES,rfl,le⟩:=le;obtain ⟨kvs,q,hv⟩:=x;exact ⟨kvs,q,DRs.unrenLe hA es le hv⟩
 | idict m n=>
  rcases le with ⟨N,rfl,hN⟩ | ⟨es,rfl,hm,hl⟩
  ·obtain ⟨kvs,ES,q,hv,hm,hl⟩:=x
   exact .unren_idict hA q hv (λk=>congrFun hm k) (Nat.le_trans hl hN)
  ·obtain ⟨kvs,q,hv⟩:=x
   exact .unren_idict hA q hv hm hl
 | lst0 y l n ob=>subst le;obtain ⟨hl,ho,vs,ep,e0,hv,hx⟩:=x;exact ⟨hl,ho,vs,ep,e0,hv,λv ws e=>VR.unren hA _ _ (hx v ws e)⟩
 | inst C d=>subst le;obtain ⟨dx,hd,ho⟩:=x;exact ⟨dx,hA _ _ hd,ho⟩
 | ns es=>
  obtain ⟨ES,rfl,le⟩:=le
  obtain ⟨m,q,hv,hn⟩:=x
  refine ⟨m,q,λn v e=>?_,λn e=>?_⟩
  ·have F:=NsLe.find (n:=n) es ES le
   rw [e] at F
   obtain ⟨V,hV,hvv⟩:=F
   obtain ⟨y,hy,hyv⟩:=hv n V hV
   exact ⟨y,hy,vr_le hA hvv hyv⟩
  ·have F:=NsLe.find (n:=n) es ES le
   rw [e] at F
   exact hn n F
 | cell v=>
  subst le
  obtain ⟨cv,q,hv⟩:=x
  refine ⟨cv,q,?_⟩
  cases v with
  | none=>trivial
  | some v=>obtain ⟨u,hu,hr⟩:=hv;exact ⟨u,hu,VR.unren hA _ _ hr⟩
 | tab P=>subst le;exact x
end
theorem Aq4 {js:List Nat}{N k j:Nat}(h:js[k]?=some j):rn js N k=j:=by unfold rn;rw [at?_eq,h]
theorem Bf9 {js:List Nat}{N k:Nat}(h:js.length≤k):rn js N k=N+(k-js.length):=by unfold rn;rw [at?_eq,List.getElem?_eq_none_iff.mpr h]
section
variable [HI:Hid]{w:World}{g0:Heap}{M:Nat}
noncomputable def As4 (js:List Nat)(as:List Addr):List Addr:=js.filterMap λj=>as[j]?
theorem Al1 {as:List Addr}:∀{js:List Nat} {k:Nat},(∀j∈js,j<as.length)→(As4 js as)[k]?=(js[k]?).bind λj=>as[j]?
 | [],k,_=>by simp [As4]
 | j::r,k,h=>by
  have hj:as[j]?=some (as[j]'(h j (List.mem_cons_self ..))):=List.getElem?_eq_getElem _
  have e:As4 (j::r) as=(as[j]'(h j (List.mem_cons_self ..)))::As4 r as:=by
   unfold As4
   simp only [List.filterMap_cons,hj]
  refine e▸?_
  cases k with
  | zero=>simp
  | succ k=>simpa using Al1 (js:=r) (k:=k) λx m=>h x (List.mem_cons_of_mem _ m)
theorem Ao6 {as:List Addr}:∀{js:List Nat},(∀j∈js,j<as.length)→(As4 js as).length=js.length
 | [],_=>rfl
 | j::r,h=>by
  have hj:as[j]?=some (as[j]'(h j (List.mem_cons_self ..))):=List.getElem?_eq_getElem _
  unfold As4
  simp only [List.filterMap_cons,hj]
  show (As4 r as).length+1=r.length+1
  exact congrArg _ (Ao6 λx m=>h x (List.mem_cons_of_mem _ m))
structure Picked (js:List Nat)(hp HP:List A0):Prop where
 jl:js.length=hp.length
 nd:js.Nodup
 pre:∀(k:Nat) (o:A0),hp[k]?=some o→∃j O,js[k]?=some j∧HP[j]?=some O∧Af5 (rn js HP.length) o O
structure Ap9 (js:List Nat)(hp hp' HP HP':List A0):Prop extends Picked js hp HP where
 len:HP'.length+hp.length=HP.length+hp'.length
 le:hp.length≤hp'.length
 same:∀j:Nat,j<HP.length→j∉js→HP'[j]?=HP[j]?
 post:∀(k:Nat) (o:A0),hp'[k]?=some o→HP'[rn js HP.length k]?=some (Al2 (rn js HP.length) o)
theorem Au0 {js:List Nat}{hp HP:List A0}(F:Picked js hp HP){as:List Addr}{h:Heap}(hr:HR w g0 as HP h):HR w g0 (As4 js as) hp h∧(∀k a,as[rn js HP.length k]?=some a→(As4 js as)[k]?=some a):=by
 have hb:∀j∈js,j<as.length:=λj m=>by
  obtain ⟨k,hk,e⟩:=List.getElem_of_mem m
  have hk':k<hp.length:=F.jl▸hk
  refine Ae3 (F.pre k hp[k] (List.getElem?_eq_getElem hk')) λj' O e1 e2 u0=>?_
  rw [List.getElem?_eq_getElem hk,e] at e1;(replace e1:=A9 e1;subst e1)
  simp only [hr.len]
  exact (List.getElem?_eq_some_iff.mp e2).1
 have hA:∀k a,as[rn js HP.length k]?=some a→(As4 js as)[k]?=some a:=λk a e=>by
  by_cases hk:k<js.length
  ·have e1:js[k]?=some js[k]:=List.getElem?_eq_getElem hk
   rw [Aq4 e1] at e
   rw [Al1 hb,e1];exact e
  ·rw [Bf9 (Nat.le_of_not_lt hk)] at e
   have:=(List.getElem?_eq_some_iff.mp e).1
   simp only [hr.len] at this
   lia
 refine ⟨⟨by rw [Ao6 hb,F.jl],?_,λa m=>?_,hr.base,λk o e=>?_,hr.hid⟩,hA⟩
 ·rw [List.nodup_iff_pairwise_ne,List.pairwise_iff_getElem]
  intro i k hi hk lt e
  have e1:=Al1 (as:=as) (js:=js) (k:=i) hb
  have e2:=Al1 (as:=as) (js:=js) (k:=k) hb
  rw [List.getElem?_eq_getElem hi] at e1
  rw [List.getElem?_eq_getElem hk] at e2
  have hi':i<js.length:=Ao6 hb▸hi
  have hk':k<js.length:=Ao6 hb▸hk
  rw [List.getElem?_eq_getElem hi'] at e1
  rw [List.getElem?_eq_getElem hk'] at e2
  exact At6 hr.nd e1.symm e2.symm ((List.pairwise_iff_getElem.mp (List.nodup_iff_pairwise_ne.mp F.nd)) i k hi' hk' lt) e
 ·unfold As4 at m
  refine oEA (List.mem_filterMap.mp m) λj u0 e=>?_
  exact hr.lo a (List.mem_of_getElem? e)
 ·refine Ae3 (F.pre k o e) λj O e1 e2 le=>?_
  refine oEA (hr.at_ j O e2) λa ha r=>?_
  refine ⟨a,by rw [Al1 hb,e1];exact ha,r.unren hA le⟩
theorem Ba0 {js:List Nat}{hp hp' HP HP':List A0}(F:Ap9 js hp hp' HP HP'){as cs:List Addr}{h h':Heap}(hr:HR w g0 as HP h)(hr':HR w g0 cs hp' h'){L:Option Addr}(hL:∀a∈as,L≠some a)(S:Stp L (As4 js as) h cs h'):
  ∃as',HR w g0 as' HP' h'∧Stp L as h as' h'∧∀k a,cs[k]?=some a→as'[rn js HP.length k]?=some a:=by
 have hb:∀j∈js,j<as.length:=λj m=>by
  obtain ⟨k,hk,e⟩:=List.getElem_of_mem m
  have hk':k<hp.length:=F.jl▸hk
  refine Ae3 (F.pre k hp[k] (List.getElem?_eq_getElem hk')) λj' O e1 e2 u0=>?_
  rw [List.getElem?_eq_getElem hk,e] at e1;cases e1
  simp only [hr.len]
  exact (List.getElem?_eq_some_iff.mp e2).1
 refine oEA (S.ext) λns e dead=>?_
 have pl:=Ao6 hb
 have nl:hp'.length=hp.length+ns.length:=by simp only [← hr'.len,e,List.length_append,pl,F.jl]
 have hB:∀k a,cs[k]?=some a→(as++ns)[rn js HP.length k]?=some a:=λk a q=>by
  rw [e] at q
  by_cases hk:k<js.length
  ·have e1:js[k]?=some js[k]:=List.getElem?_eq_getElem hk
   refine Eq.trans (congrArg _ (Aq4 e1)) ?_
   rw [List.getElem?_append_left (by rw [pl];exact hk),Al1 hb,e1] at q
   have q':=q
   refine Eq.trans (List.getElem?_append_left (List.getElem?_eq_some_iff.mp q').1) ?_;exact q'
  ·refine Eq.trans (congrArg _ (Bf9 (Nat.le_of_not_lt hk))) ?_
   rw [List.getElem?_append_right (by exact pl▸Nat.le_of_not_lt hk),pl] at q
   rw [List.getElem?_append_right (by exact (hr.len)▸Nat.le_add_right _ _)];simp only [hr.len,Nat.add_sub_cancel_left];exact q
 have nsn:ns.Nodup:=by
  have:=hr'.nd
  simp only [e] at this
  exact (List.nodup_append.mp this).2.1
 have live:∀a∈as,∃o,h.get? a=some o:=λa m=>by
  refine Ae3 (hr.mem m) λu0 u0 u0 u0 r=>?_
  obtain ⟨ob,ho,_⟩:=r.there
  exact ⟨ob,ho⟩
 have pickas:∀a∈As4 js as,a∈as:=λa m=>by
  unfold As4 at m
  refine oEA (List.mem_filterMap.mp m) λj u0 e=>?_
  exact List.mem_of_getElem? e
 refine ⟨as++ns,⟨?_,?_,λa m=>?_,hr'.base,λj o q=>?_,hr'.hid⟩,⟨⟨ns,rfl,dead⟩,S.live,λa o q hn hl=>S.keep a o q (λm=>hn (pickas a m)) hl,S.imm⟩,hB⟩
 ·have h1:=F.len
  have h2:=hr.len
  refine Eq.trans (List.length_append) ?_
  lia
 ·rw [List.nodup_append]
  refine ⟨hr.nd,nsn,λa ha b hb' q=>?_⟩
  obtain ⟨o,ho⟩:=live a ha
  simp only [q,dead b hb'] at ho;exact no1 ho
 ·rcases List.mem_append.mp m with m | m
  ·exact hr.lo a m
  ·exact hr'.lo a (by rw [e];exact List.mem_append_right _ m)
 ·by_cases hj:j<HP.length
  ·by_cases hm:j∈js
   ·obtain ⟨k,hk,ek⟩:=List.getElem_of_mem hm
    have e1:js[k]?=some j:=by rw [List.getElem?_eq_getElem hk,ek]
    have hk':k<hp'.length:=by simp only [nl,← F.jl];exact Nat.lt_of_lt_of_le hk (Nat.le_add_right _ _)
    have hpo:=F.post k hp'[k] (List.getElem?_eq_getElem hk')
    rw [Aq4 e1,q] at hpo
    replace hpo:=A9 hpo;subst hpo
    obtain ⟨a,ha,r⟩:=hr'.at_ k _ (List.getElem?_eq_getElem hk')
    exact ⟨a,by have:=hB k a ha;rw [Aq4 e1] at this;exact this,r.ren hB⟩
   ·replace q:=(F.same j hj hm).symm.trans q
    refine oEA (hr.at_ j o q) λa ha r=>?_
    refine ⟨a,by refine Eq.trans (List.getElem?_append_left (List.getElem?_eq_some_iff.mp ha).1) ?_;exact ha,r.mono S.imm ⟨ns,rfl⟩ λob ho=>S.keep a ob ho (λm=>?_) (hL a (List.mem_of_getElem? ha))⟩
    unfold As4 at m
    refine oEA (List.mem_filterMap.mp m) λj' hj' e'=>?_
    by_cases q':j=j'
    ·subst q';exact hm hj'
    ·exact At6 hr.nd ha e' q' rfl
  ·have hj2:j<HP'.length:=(List.getElem?_eq_some_iff.mp q).1
   have h1:=F.len
   have hk:hp.length+(j-HP.length)<hp'.length:=by grind
   have hpo:=F.post (hp.length+(j-HP.length)) _ (List.getElem?_eq_getElem hk)
   have er:rn js HP.length (hp.length+(j-HP.length))=j:=by
    rw [Bf9 (by exact (F.jl)▸Nat.le_add_right _ _)];simp only [F.jl,Nat.add_sub_cancel_left];grind
   rw [er,q] at hpo
   cases hpo
   obtain ⟨a,ha,r⟩:=hr'.at_ _ _ (List.getElem?_eq_getElem hk)
   exact ⟨a,by have:=hB _ a ha;rw [er] at this;exact this,r.ren hB⟩
theorem Ad9 {js:List Nat}{hp hp' HP HP':List A0}(F:Ap9 js hp hp' HP HP'){a:Addr}{args:List SV}{v:SV}(C:Aj5 w g0 M a args hp v hp'):
  Aj5 w g0 M a (svRs (rn js HP.length) args) HP (svR (rn js HP.length) v) HP':=by
 intro A as s vs ok hr hv Q E k
 refine oA (Au0 F.toPicked hr) λhs hA=>?_
 refine C A (As4 js as) s vs ok hs (VRs.unren hA _ _ hv) Q E λcs h' tk b hr' S vb=>?_
 refine Bk4 (Ba0 F hr hr' (L:=none) (λu0 u0 e=>by exact no1 e) S) λas' r1 r2 r3=>?_
 exact k as' h' tk b r1 r2 (VR.ren r3 _ _ vb)
end
section
variable [HI:Hid]{w:World}{g0:Heap}{M:Nat}
theorem Ah2 {α β:Type}{f:α→Option β}{g:α→β}:∀{l:List α},(∀j∈l,f j=some (g j))→l.filterMap f=l.map g
 | [],_=>rfl
 | a::l,h=>by
  simp only [List.filterMap_cons,h a (List.mem_cons_self ..),List.map_cons,Ah2 λj m=>h j (List.mem_cons_of_mem _ m)]
theorem Ai8 {ks:List Nat}{hp hp' hpC:List A0}{a:Addr}{args:List SV}{v vC:SV}(C:Aj5 w g0 M a args hp v hp')(P:Picked (List.range hp.length++ks) hpC hp')(hk:∀j∈ks,hp.length≤j)
  (hv:svR (rn (List.range hp.length++ks) hp'.length) vC=v):Aj5 w g0 M a args hp vC hpC:=by
 intro A as s vs ok hr hvs Q E k
 refine C A as s vs ok hr hvs Q E λas' h' tk b hr' S vb=>?_
 refine oA (Au0 P hr') λr hA=>?_
 obtain ⟨ns,e,dead⟩:=S.ext
 have hb:∀j∈List.range hp.length++ks,j<as'.length:=λj m=>by
  obtain ⟨i,hi,ei⟩:=List.getElem_of_mem m
  have hi':i<hpC.length:=P.jl▸hi
  refine Ae3 (P.pre i hpC[i] (List.getElem?_eq_getElem hi')) λj' O e1 e2 u0=>?_
  rw [List.getElem?_eq_getElem hi,ei] at e1;(replace e1:=A9 e1;subst e1)
  simp only [hr'.len]
  exact (List.getElem?_eq_some_iff.mp e2).1
 have e1:As4 (List.range hp.length++ks) as'=as++As4 ks as':=by
  unfold As4
  refine Eq.trans (List.filterMap_append) ?_
  congr 1
  rw [e,← hr.len]
  have:∀(as ns:List Addr),(List.range as.length).filterMap (λj=>(as++ns)[j]?)=as:=by
   intro as ns
   have e:∀j∈List.range as.length,(as++ns)[j]?=some ((as[j]?).getD 0):=λj m=>by
    have hj:=List.mem_range.mp m
    rw [List.getElem?_append_left hj,List.getElem?_eq_getElem hj];rfl
   refine Eq.trans (Ah2 e) ?_
   refine List.ext_getElem (by simp) λi h1 h2=>?_
   simp [h2]
  exact this as ns
 refine k (As4 (List.range hp.length++ks) as') h' tk b r ⟨⟨As4 ks as',e1,λa m=>?_⟩,S.live,S.keep,S.imm⟩ ?_
 ·unfold As4 at m
  refine oEA (List.mem_filterMap.mp m) λj hj ej=>?_
  rw [e,List.getElem?_append_right (by exact (hr.len)▸hk j hj)] at ej
  exact dead a (List.mem_of_getElem? ej)
 ·refine VR.unren hA _ _ ?_
  exact hv▸vb
noncomputable def Ak9 (ρ:Nat→Nat)(HP:List A0):List Nat→List A0→Prop
 | [],[]=>True
 | j::js,o::os=>(∃O,HP[j]?=some O∧Af5 ρ o O)∧Ak9 ρ HP js os
 | _,_=>False
theorem Ak9.get {ρ:Nat→Nat}{HP:List A0}:∀{js:List Nat} {hp:List A0},Ak9 ρ HP js hp→js.length=hp.length∧∀(k:Nat) (o:A0),hp[k]?=some o→∃j O,js[k]?=some j∧HP[j]?=some O∧Af5 ρ o O
 | [],[],_=>⟨rfl,λk o e=>by simp at e⟩
 | [],_::_,h=>h.elim
 | _::_,[],h=>h.elim
 | j::js,o::os,h=>by
  obtain ⟨⟨O,h1,h2⟩,h3⟩:=h
  refine oA (Ak9.get h3) λi1 i2=>?_
  refine ⟨by rw [List.length_cons,List.length_cons,i1],λk o' e=>?_⟩
  cases k with
  | zero=>
   simp only [List.getElem?_cons_zero] at e;cases e
   exact ⟨j,O,rfl,h1,h2⟩
  | succ k=>
   refine Ae3 (i2 k o' e) λj' O' e1 e2 e3=>?_
   exact ⟨j',O',by exact e1,e2,e3⟩
noncomputable def ndB:List Nat→Bool
 | []=>true
 | a::l=>!(l.contains a)&&ndB l
theorem Ci2:∀{l:List Nat},ndB l=true→l.Nodup
 | [],_=>List.nodup_nil
 | a::l,h=>by
  unfold ndB at h
  rw [Bool.and_eq_true] at h
  refine List.nodup_cons.mpr ⟨λm=>?_,Ci2 h.2⟩
  have:=h.1
  simp at this
  exact this m
theorem Picked.of {js:List Nat}{hp HP:List A0}(nd:ndB js=true)(h:Ak9 (rn js HP.length) HP js hp):Picked js hp HP:=
 ⟨h.get.1,Ci2 nd,h.get.2⟩
end
def A7.calls (T:A7):A7:=⟨T.ok,λu0 u0 u0 u0 u0 u0 u0 u0=>False,λu0 u0 u0 u0 u0 u0 u0 u0 u0=>False⟩
noncomputable def Bw7 (G:Top)(T:A7):Nat→Nat→Rec
 | 0,_=>nay
 | n+1,d=>
  let R:=Bw7 G T n d
  ⟨evF G R,evsF R,trF G R,asgF G R,exF G R,exsF R,callD (λf args=>Dd8 G (Ae2 G T.calls n (d-1)) T.calls f args) d,Da9 R T,whlF R T,Cn9 R⟩
def T0:A7:=⟨λu0 u0 u0 u0 u0=>False,λu0 u0 u0 u0 u0 u0 u0 u0=>False,λu0 u0 u0 u0 u0 u0 u0 u0 u0=>False⟩
noncomputable abbrev idC (v:SV):Orc:=.call v λhp=>hp
noncomputable def leaves (k:Nat)(r:Option (SV×St×List Prop)):Option (SV×List A0×List Prop):=match r with
 | none=>none
 | some (v,s,o)=>some (v,s.hp.take k,o)
section
variable {w:World}{G:Top}{K:Frag}{g0:Heap}{mg mb:Str→Option Value}{M:Nat}{T:A7}
theorem Ce5 (HG:∀Y:Hid,Ba9 Y g0→@GOk Y w G K g0 mg mb)(hT:Ag3 w g0 (M+1) T.calls){d:Nat}(hL:As0 w g0 (M+1+4*d) T):∀(n:Nat) (Y:Hid),Ba9 Y g0→@Snd Y w K g0 (M+1) d (Bw7 G T n d)
 | 0,Y,_=>@Cd5 w K g0 (M+1) Y d
 | n+1,Y,hY=>by
  refine @Bq7 w G K g0 mg mb M T Y d _ _ (HG Y hY) hY hL (λZ hZ=>Ce5 HG hT hL n Z hZ) ?_
  cases d with
  | zero=>intro f args st v st' ob h;exact no1 h
  | succ d=>intro f args st v st' ob h hob;exact Co4 (M:=M+1) (n:=d) (HG Y hY) (run_s HG hT n d Y hY) hT h hob
theorem Do8 (HG:∀Y:Hid,Ba9 Y g0→@GOk Y w G K g0 mg mb)(hT:Ag3 w g0 (M+1) T.calls){d:Nat}(hL:As0 w g0 (M+1+4*d) T){n:Nat}{c:EC}{t:Expr}{b:List Stmt}{hp:List A0}{lc:List (Str×SV)}{orc:List Orc}{f:A8}{st':St}{ob:List Prop}
  (e:(Bw7 G T n d).whl c t b ⟨hp,lc,orc⟩=some (f,st',ob))(hob:All ob):∀X:Hid,@Bj6 X w g0 (M+1+4*d) c t b hp lc f st'.hp st'.lc:=λX env A as s O ok I RR k=>by
 exact (Ce5 HG hT hL n X (λa m=>(I.hr.hid a m).1)).whl e hob O ok (I.same_st rfl rfl) RR λas' h' tk x i S' vx=>k as' h' tk x (i.same_st rfl rfl) S' vx
theorem Do9 (HG:∀Y:Hid,Ba9 Y g0→@GOk Y w G K g0 mg mb)(hT:Ag3 w g0 (M+1) T.calls){d:Nat}(hL:As0 w g0 (M+1+4*d) T){n:Nat}{c:EC}{t:Expr}{it:SIt}{b:List Stmt}{hp:List A0}{lc:List (Str×SV)}{orc:List Orc}{f:A8}{st':St}{ob:List Prop}
  (e:(Bw7 G T n d).forL c t it b ⟨hp,lc,orc⟩=some (f,st',ob))(hob:All ob):∀X:Hid,@Bj9 X w g0 (M+1+4*d) c t it b hp lc f st'.hp st'.lc:=λX env A as s I own O ok i0 hit ap hh RR k=>by
 exact (Ce5 HG hT hL n X (λa m=>(i0.hr.hid a m).1)).forL e hob O ok (i0.same_st rfl rfl) hit ap (λu0=>hh) RR λas' h' tk x i S' vx=>k as' h' tk x (i.same_st rfl rfl) S' vx
end
noncomputable def Bs3:List Stmt:=PySem.Challenge.pw_zu0006_03.main.body
def st (i:Nat):Option Stmt:=at? Bs3 i
def sub (i j:Nat):Option Stmt:=match st i with
 | some (.ClassDef _ _ _ b ..)=>at? b j
 | _=>none
def B0 (t:Option Stmt)(d:List SV):Fn:=match t with
 | some (.FunctionDef _ args body _ _ _ scope _ _ _)=>⟨Df1 args,d,body,scope,none⟩
 | _=>⟨[],[],[],⟨.module,[],false,false,[]⟩,none⟩
noncomputable def gT:List (List Nat×SV):=
 ([95,95,110,97,109,101,95,95],.str "law_zu0006_03")::
 ([95,95,100,111,99,95,95],.none)::
 ([95,95,112,97,99,107,97,103,101,95,95],.none)::
 ([95,95,115,112,101,99,95,95],.none)::
 ([95,95,97,110,110,111,116,97,116,105,111,110,115,95,95],.glb 6)::
 ([95,95,98,117,105,108,116,105,110,115,95,95],.glb 4)::
 ([95,95,102,105,108,101,95,95],.str "/claim/cut.py")::
 ([95,95,99,97,99,104,101,100,95,95],.none)::
 ([95,119,97,108,108],.glb 21)::
 ([117,110,100,101,114,108,121,105,110,103,95,111,102],.glb 28)::
 ([122,101,114,111,95,118,97,108,117,101],.glb 33)::
 ([65,68,68,82,69,83,83],.str "address")::
 ([114,111,111,116,95,108,111,99,97,108],.glb 40)::
 ([105,115,95,112,97,114,116],.glb 47)::
 ([97,115,115,105,103,110,101,100,95,112,108,97,99,101,115],.glb 52)::
 ([108,101,110,116,95,112,108,97,99,101,115],.glb 59)::
 ([98,111,120,101,100,95,111,102],.glb 66)::
 ([105,115,95,116,121,112,101],.glb 73)::
 ([98,111,120,101,100,95,108,111,99,97,108,115],.glb 78)::
 ([84,121,112,101,100,70,110],.glb 95)::
 ([67,111,100,101],.glb 136)::
 ([110,101,120,116,95,98,108,111,99,107,115],.glb 147)::
 ([98,108,111,99,107,115,95,114,101,97,99,104,101,100],.glb 154)::
 ([108,101,100,95,101,108,115,101,119,104,101,114,101],.glb 161)::
 ([119,105,116,104,95,107,101,112,116,95,98,108,111,99,107,115],.glb 168)::
 ([76,111,119,101,114,83,116,97,116,101],.glb 339)::
 ([73,78,84,95,108,111,119,101,114,95,99,97,108,108,115],.tup [.str "int",.str "int"])::
 ([66,79,79,76,95,108,111,119,101,114,95,99,97,108,108,115],.tup [.str "bool"])::
 ([83,89,78,67,83],.tup [.str "lock",.str "unlock",.str "add",.str "wait",.str "gosched"])::
 ([114,101,115,117,108,116,95,116,121,112,101,115],.glb 353)::
 ([99,97,108,108,101,100,95,111,102],.glb 360)::
 ([99,97,108,108,95,118,97,108,117,101,115],.glb 365)::
 ([98,117,105,108,116,105,110,95,118,97,108,117,101,115],.glb 370)::
 ([98,117,105,108,116,105,110,95,119,105,116,104],.glb 377)::
 ([98,117,105,108,116,105,110,95,100,101,101,100],.glb 382)::
 ([109,97,100,101,95,118,97,108,117,101],.glb 611)::
 ([109,97,100,101,95,118,97,108,117,101,95,108,111,119,101,114,95,99,97,108,108,115],.glb 389)::
 ([99,104,111,115,101,110,95,118,97,108,117,101],.glb 396)::
 ([108,97,116,101,114,95,99,97,108,108],.glb 401)::
 ([98,117,105,108,116,105,110,95,99,111,100,101],.glb 406)::
 ([67,104,97,110,69,114,114,111,114],.glb 424)::
 ([78,97,109,101,70,97,117,108,116],.glb 437)::
 ([84,121,112,101,70,97,117,108,116],.glb 449)::
 ([82,85,78,84,73,77,69,95,69,82,82,79,82],.tup [.str "named",.str "runtime.Error"])::
 ([98,97,115,101,95,107,105,110,100],.glb 459)::
 ([105,115,95,105,110,95,109,101,109,111,114,121],.glb 466)::
 ([103,108,111,98,97,108,95,112,111,105,110,116,101,114],.glb 473)::
 ([119,97,121,95,116,111],.glb 480)::
 ([112,111,105,110,116,101,114,95,97,108,111,110,103],.glb 487)::
 ([97,100,100,114,101,115,115,95,111,102],.glb 494)::
 ([97,115,107,95,112,111,105,110,116,101,114],.glb 501)::
 ([110,101,119,95,118,97,114,105,97,98,108,101],.glb 508)::
 ([108,111,97,100,95,112,108,97,99,101],.glb 515)::
 ([116,97,114,103,101,116,95,111,102],.glb 522)::
 ([97,115,115,105,103,110,95,116,97,114,103,101,116],.glb 529)::
 ([98,101,103,105,110,95,119,105,116,104],.glb 536)::
 ([118,97,108,117,101,95,97,116],.glb 543)::
 ([66,79,79,76,95,108,111,119,101,114,95,101,120,112,114,115],.tup [.str "bool"])::
 ([73,78,84,95,108,111,119,101,114,95,101,120,112,114,115],.tup [.str "int",.str "int"])::
 ([82,69,65,68],.tup [.str "global",.str "field",.str "deref",.str "index"])::
 ([80,65,73,82,83],.tup [.str "assert",.str "key",.str "receive"])::
 ([118,97,108,117,101,95,111,102],.glb 554)::
 ([118,97,108,117,101,115,95,111,102],.glb 561)::
 ([111,112,101,114,97,110,100,115,95,111,102],.glb 566)::
 ([99,111,110,115,116,97,110,116,95,111,102],.glb 573)::
 ([102,117,110,99,116,105,111,110,95,118,97,108,117,101],.glb 578)::
 ([119,111,114,107,101,100,95,118,97,108,117,101],.glb 585)::
 ([108,97,122,121,95,118,97,108,117,101],.glb 592)::
 ([97,115,107,101,100,95,118,97,108,117,101,115],.glb 599)::
 ([99,117,116,95,118,97,108,117,101],.glb 604)::
 ([109,97,100,101,95,118,97,108,117,101,95,108,111,119,101,114,95,101,120,112,114,115],.glb 611)::
 ([115,108,105,99,101,95,118,97,108,117,101],.glb 616)::
 ([116,97,98,108,101,95,118,97,108,117,101],.glb 621)::
 ([73,78,84,95,108,111,119,101,114,95,108,111,111,112,115],.tup [.str "int",.str "int"])::
 ([82,85,78,69],.tup [.str "int",.str "int32"])::
 ([66,79,79,76,95,108,111,119,101,114,95,108,111,111,112,115],.tup [.str "bool"])::
 ([112,117,116,95,102,111,114],.glb 631)::
 ([112,117,116,95,114,97,110,103,101],.glb 638)::
 ([103,105,118,101,95,110,97,109,101],.glb 645)::
 ([99,111,117,110,116,101,100,95,118,97,108,117,101],.glb 652)::
 ([112,117,116,95,99,111,117,110,116,101,100],.glb 659)::
 ([112,117,116,95,119,97,108,107,101,100],.glb 666)::
 ([112,117,116,95,114,101,99,101,105,118,101,100],.glb 673)::
 ([112,117,116,95,115,119,105,116,99,104],.glb 678)::
 ([116,101,115,116,101,100,95,116,121,112,101],.glb 685)::
 ([112,117,116,95,116,121,112,101,115],.glb 692)::
 ([112,117,116,95,110,97,109,101,100],.glb 699)::
 ([99,111,109,109,95,114,111,119],.glb 706)::
 ([112,117,116,95,99,104,111,111,115,101],.glb 711)::
 ([76,79,79,80,83],.glb 712)::
 ([112,117,116,95,98,108,111,99,107],.glb 719)::
 ([112,117,116,95,115,116,97,116,101,109,101,110,116],.glb 726)::
 ([112,117,116,95,112,108,97,105,110],.glb 733)::
 ([107,101,112,116,95,111,112,101,114,97,110,100,115],.glb 738)::
 ([112,117,116,95,115,101,116],.glb 743)::
 ([112,117,116,95,108,101,116],.glb 750)::
 ([112,117,116,95,105,102],.glb 757)::
 ([112,117,116,95,114,101,116,117,114,110],.glb 762)::
 ([103,105,118,101,95,98,97,99,107],.glb 767)::
 ([104,97,115,95,100,101,102,101,114],.glb 772)::
 ([98,101,103,105,110,95,102,117,110,99,116,105,111,110],.glb 779)::
 ([108,111,119,101,114,95,111,110,101],.glb 786)::
 ([108,111,119,101,114,95,102,117,110,99,116,105,111,110],.glb 791)::
 ([80,76,65,73,78],.tup [.str "func",.tup [],.tup [],.bool false])::
 ([78,97,109,101,100,82,111,119],.glb 811)::
 ([107,110,111,119,110,95,114,111,119,115],.glb 822)::
 ([87,111,114,108,100],.glb 854)::
 ([95,108,97,119,95,112,111,111,108],.glb 865)::
 ([95,108,97,119,95,116,97,107,101],.glb 872)::
 ([95,108,97,119,95,111,110,101],.glb 879)::
 ([95,108,97,119,95,105,110,116],.tup [.str "int",.str "int"])::
 ([95,108,97,119,95,97,114,114,97,121],.tup [.str "array",.int (3),.tup [.str "int",.str "int"]])::
 ([95,108,97,119,95,112,111,105,110,116,101,114],.tup [.str "ptr",.tup [.str "int",.str "int"]])::
 ([95,108,97,119,95,99,111,110,115,116],.glb 891)::
 ([95,108,97,119,95,116,114,101,101],.glb 898)::
 ([95,108,97,119,95,112,108,97,99,101],.glb 905)::
 ([95,108,97,119,95,118,97,108,117,101],.glb 912)::
 ([95,108,97,119,95,101],.glb 919)::
 ([95,108,97,119,95,97,116],.glb 926)::
 ([95,108,97,119,95,119,111,114,116,104],.glb 933)::
 ([95,108,97,119,95,100,111,110,101],.glb 938)::
 ([95,108,97,119,95,114,111,119],.glb 943)::
 ([95,108,97,119,95,115,116,97,116,101,109,101,110,116],.glb 948)::
 ([95,108,97,119,95,115,104,111,119,110],.glb 953)::
 ([95,108,97,119,95,114,101,97,100],.glb 960)::
 ([95,108,97,119,95,108,111,97,100,101,100],.glb 967)::
 ([95,108,97,119,95,115,116,111,114,101,100],.glb 974)::
 ([95,108,97,119,95,114,101,99,107,111,110,101,100],.glb 981)::
 ([95,108,97,119,95,109,97,100,101],.glb 986)::
 ([95,108,97,119,95,99,97,108,108,101,101],.glb 993)::
 ([95,108,97,119,95,102,114,97,109,101,100],.glb 1000)::
 ([95,108,97,119,95,117,110,119,111,117,110,100],.glb 1007)::
 ([95,108,97,119,95,100,101,102,101,114,114,101,100],.glb 1014)::
 ([95,108,97,119,95,98,108,111,99,107],.glb 1019)::
 ([95,108,97,119,95,115,116,101,112,112,101,100],.glb 1024)::
 ([95,108,97,119,95,112,108,97,121,101,100],.glb 1031)::
 ([95,108,97,119,95,114,105,103,104,116],.glb 1036)::
 ([108,97,119],.glb 1041)::[]
def fT:List (Nat×Fn):=
 (28,B0 (st 2) [])::
 (33,B0 (st 3) [])::
 (40,B0 (st 6) [])::
 (47,B0 (st 7) [])::
 (52,B0 (st 8) [])::
 (59,B0 (st 9) [])::
 (66,B0 (st 10) [])::
 (73,B0 (st 11) [])::
 (78,B0 (st 12) [])::
 (92,B0 (sub 14 0) [])::
 (114,B0 (sub 16 0) [.int (0),.int (0),.none])::
 (121,B0 (sub 16 1) [])::
 (128,B0 (sub 16 2) [])::
 (147,B0 (st 17) [])::
 (154,B0 (st 18) [])::
 (161,B0 (st 19) [])::
 (168,B0 (st 20) [])::
 (182,B0 (sub 22 0) [])::
 (189,B0 (sub 22 1) [])::
 (196,B0 (sub 22 2) [])::
 (203,B0 (sub 22 3) [])::
 (210,B0 (sub 22 4) [])::
 (217,B0 (sub 22 5) [])::
 (224,B0 (sub 22 6) [])::
 (231,B0 (sub 22 7) [])::
 (238,B0 (sub 22 8) [])::
 (245,B0 (sub 22 9) [])::
 (252,B0 (sub 22 10) [])::
 (259,B0 (sub 22 11) [])::
 (266,B0 (sub 22 12) [])::
 (273,B0 (sub 22 13) [])::
 (280,B0 (sub 22 14) [])::
 (287,B0 (sub 22 15) [])::
 (294,B0 (sub 22 16) [])::
 (301,B0 (sub 22 17) [])::
 (308,B0 (sub 22 18) [])::
 (315,B0 (sub 22 19) [])::
 (322,B0 (sub 22 20) [])::
 (336,B0 (sub 22 22) [])::
 (370,B0 (st 30) [])::
 (377,B0 (st 31) [])::
 (382,B0 (st 32) [])::
 (611,B0 (st 71) [])::
 (459,B0 (st 44) [])::
 (466,B0 (st 45) [])::
 (480,B0 (st 47) [])::
 (487,B0 (st 48) [])::
 (494,B0 (st 49) [])::
 (515,B0 (st 52) [])::
 (522,B0 (st 53) [])::
 (529,B0 (st 54) [])::
 (536,B0 (st 55) [])::
 (543,B0 (st 56) [])::
 (554,B0 (st 62) [])::
 (561,B0 (st 63) [])::
 (566,B0 (st 64) [])::
 (573,B0 (st 65) [])::
 (585,B0 (st 67) [])::
 (719,B0 (st 94) [])::
 (726,B0 (st 95) [])::
 (733,B0 (st 96) [])::
 (738,B0 (st 97) [])::
 (743,B0 (st 98) [])::
 (750,B0 (st 99) [])::
 (767,B0 (st 102) [])::
 (772,B0 (st 103) [])::
 (779,B0 (st 104) [])::
 (786,B0 (st 105) [])::
 (791,B0 (st 106) [])::
 (808,B0 (sub 109 0) [])::
 (822,B0 (st 110) [])::
 (837,B0 (sub 111 0) [.none])::
 (844,B0 (sub 111 1) [])::
 (865,B0 (st 113) [])::
 (872,B0 (st 114) [])::
 (879,B0 (st 115) [])::
 (891,B0 (st 119) [])::
 (898,B0 (st 120) [])::
 (905,B0 (st 121) [])::
 (912,B0 (st 122) [])::
 (919,B0 (st 123) [])::
 (926,B0 (st 124) [])::
 (933,B0 (st 125) [])::
 (938,B0 (st 126) [])::
 (943,B0 (st 127) [])::
 (948,B0 (st 128) [])::
 (953,B0 (st 129) [])::
 (960,B0 (st 130) [])::
 (967,B0 (st 131) [])::
 (974,B0 (st 132) [])::
 (981,B0 (st 133) [])::
 (986,B0 (st 134) [])::
 (1000,B0 (st 136) [])::
 (1019,B0 (st 139) [])::
 (1024,B0 (st 140) [])::
 (1031,B0 (st 141) [])::
 (1036,B0 (st 142) [])::
 (1041,B0 (st 143) [])::[]
noncomputable def mT:List (Nat×List Nat×Nat):=
 (95,[95,95,105,110,105,116,95,95],92)::
 (136,[95,95,105,110,105,116,95,95],114)::
 (136,[105,110,115,116,114,117,99,116,105,111,110,115],121)::
 (136,[116,101,114,109,105,110,97,116,111,114],128)::
 (339,[95,95,105,110,105,116,95,95],182)::
 (339,[110,101,119,95,114,101,103,105,115,116,101,114],189)::
 (339,[110,101,119,95,98,108,111,99,107],196)::
 (339,[112,117,116],203)::
 (339,[102,114,101,115,104],210)::
 (339,[99,108,111,115,101],217)::
 (339,[101,110,100],224)::
 (339,[103,111],231)::
 (339,[110,101,120,116,95,115,105,116,101],238)::
 (339,[116,121,112,101,95,111,102,95,108,111,99,97,108],245)::
 (339,[105,115,95,98,111,120,101,100],252)::
 (339,[116,97,107,101,95,114,101,103,105,115,116,101,114],259)::
 (339,[98,101,103,105,110,95,108,111,99,97,108],266)::
 (339,[112,111,105,110,116,101,114,95,111,102],273)::
 (339,[108,111,99,97,108,95,118,97,108,117,101],280)::
 (339,[115,101,116,95,108,111,99,97,108],287)::
 (339,[107,101,112,116],294)::
 (339,[122,101,114,111,95,111,112,101,114,97,110,100],301)::
 (339,[118,97,108,117,101],308)::
 (339,[118,97,108,117,101,115],315)::
 (339,[97,100,100,114,101,115,115],322)::
 (339,[102,105,110,105,115,104,101,100],336)::
 (811,[95,95,105,110,105,116,95,95],808)::
 (854,[95,95,105,110,105,116,95,95],837)::
 (854,[98,97,115,101,95,111,102],844)::
 []
noncomputable def tT:List (Nat×List Str):=[
 (6,[]),
 (712,["for","range","switch","types","choose"])]
noncomputable def bT:List (List Nat×SV):=[
 ([108,101,110],.blt .len),([105,115,105,110,115,116,97,110,99,101],.blt .isinstance),([109,97,120],.blt .max),([115,111,114,116,101,100],.blt .sorted),
 ([108,105,115,116],.typ .list),([116,117,112,108,101],.typ .tuple),([105,110,116],.typ .int),([114,97,110,103,101],.typ .range),([122,105,112],.typ .zip),([101,110,117,109,101,114,97,116,101],.typ .enumerate),([100,105,99,116],.typ .dict),([102,114,111,122,101,110,115,101,116],.typ .frozenset),([115,116,114],.typ .str)]
noncomputable def aT:List (Nat×List (List Nat)):=[
 (95,[[107,101,121],[108,111,99,97,108,115],[112,97,114,97,109,115],[114,101,115,117,108,116,115],[99,97,112,116,117,114,101,100],[98,111,100,121],[108,105,116,101,114,97,108,115]]),
 (136,[[107,101,121],[112,97,114,97,109,115],[114,101,103,105,115,116,101,114,115],[98,108,111,99,107,115],[99,97,112,116,117,114,101,100],[114,101,115,117,108,116,115],[114,101,99,111,118,101,114,121]]),
 (339,[[119,111,114,108,100],[116,121,112,101,100,95,102,110],[98,111,120,101,100],[107,110,111,119,110],[104,101,108,100],[115,105,116,101,115],[108,111,111,112,115],[104,97,115,95,100,101,102,101,114,115],[115,112,111,116],[99,111,100,101],[104,101,114,101]]),
 (811,[[112,97,116,104],[112,97,99,107,97,103,101],[117,110,100,101,114,108,121,105,110,103],[109,101,116,104,111,100,115]]),
 (854,[[112,97,99,107,97,103,101,115],[110,97,109,101,100],[103,108,111,98,97,108,115],[99,111,110,115,116,115],[102,117,110,99,115],[98,111,100,105,101,115],[102,105,108,101,115],[115,99,111,112,101,115],[111,114,100,101,114],[115,116,97,114,116,115],[115,101,116,116,108,101],[108,97,116,101,95,107,101,121,115],[105,115,95,119,104,111,108,101]])]
noncomputable def atN {α:Type}:List (Nat×α)→Nat→Option α
 | [],_=>none
 | p::r,n=>match Nat.beq p.1 n with
  | true=>some p.2
  | false=>atN r n
noncomputable def hasS:List (List Nat)→List Nat→Bool
 | [],_=>false
 | a::r,n=>match Bk5 a n with
  | true=>true
  | false=>hasS r n
noncomputable def Bm8 {α:Type}:List (List Nat×α)→List Nat→Option α
 | [],_=>none
 | p::r,n=>match Bk5 p.1 n with
  | true=>some p.2
  | false=>Bm8 r n
noncomputable def atM:List (Nat×List Nat×Nat)→Nat→List Nat→Option Nat
 | [],_,_=>none
 | (a,m,f)::r,n,x=>match Nat.beq a n with
  | true=>match Bk5 m x with
   | true=>some f
   | false=>atM r n x
  | false=>atM r n x
noncomputable def memN:List Nat→Nat→Bool
 | [],_=>false
 | a::r,n=>match Nat.beq a n with
  | true=>true
  | false=>memN r n
noncomputable def Ap5 (a:Nat)(f:Fn):Fn:=match Nat.beq a 168 with
 | true=>{f with lam:=some (0,167)}
 | false=>f
def topG (sums:List Nat)(asks deep:Bool):Top where
 glob:=λn=>Bm8 gT n.cps.toList
 blt:=λn=>Bm8 bT n.cps.toList
 fn:=λa=>match atN fT a with
  | some f=>some (Ap5 a f)
  | none=>none
 cls:=λa=>match atN aT a with
  | some _=>true
  | none=>false
 meth:=λC n=>atM mT C n.cps.toList
 free:=λC n=>match atN aT C with
  | some l=>hasS l n.cps.toList
  | none=>false
 sum:=memN sums
 tab:=atN tT
 code:=λa=>match Nat.beq a 167 with
  | true=>some 163
  | false=>none
 asks:=asks
 deep:=deep
def CK (w:World)(g0:Heap)(M:Nat)(a:Addr)(args:List SV)(hp:List A0)(v:SV)(hp':List A0):Prop:=∀X:Hid,@Aj5 X w g0 M a args hp v hp'
def WK (w:World)(g0:Heap)(M:Nat)(c:EC)(t:Expr)(b:List Stmt)(hp:List A0)(lc:List (Str×SV))(f:A8)(hp':List A0)(lc':List (Str×SV)):Prop:=∀X:Hid,@Bj6 X w g0 M c t b hp lc f hp' lc'
def FK (w:World)(g0:Heap)(M:Nat)(c:EC)(t:Expr)(it:SIt)(b:List Stmt)(hp:List A0)(lc:List (Str×SV))(f:A8)(hp':List A0)(lc':List (Str×SV)):Prop:=∀X:Hid,@Bj9 X w g0 M c t it b hp lc f hp' lc'
noncomputable def TM (w:World)(g0:Heap)(M L:Nat):A7:=⟨CK w g0 M,WK w g0 L,FK w g0 L⟩
noncomputable def Aj9:List Nat→Bool
 | []=>true
 | a::l=>match atN fT a with
  | some _=>Aj9 l
  | none=>false
structure B4 (w:World)(g0:Heap):Prop where
 ok:∀sums asks deep,Aj9 sums=true→∃K mg mb,∀Y:Hid,Ba9 Y g0→@GOk Y w (topG sums asks deep) K g0 mg mb
section
variable {w:World}{g0:Heap}{M N:Nat}
theorem CK.mono {a args hp v hp'}(x:CK w g0 M a args hp v hp')(h:M≤N):CK w g0 N a args hp v hp':=λX=>@Aj5.mono w g0 X _ _ _ _ _ _ _ (x X) h
theorem Dm0 {L:Nat}(h:M≤L):Ag3 w g0 L (TM w g0 M L):=⟨λa args hp v hp' e X=>@Aj5.mono w g0 X _ _ _ _ _ _ _ (e X) h,λu0 u0 u0 u0 u0 u0 u0 u0 e=>e,λu0 u0 u0 u0 u0 u0 u0 u0 u0 e=>e⟩
theorem Aa5:Ag3 w g0 M (TM w g0 M M):=Dm0 (Nat.le_refl _)
theorem Aa8:Ag3 w g0 M T0:=⟨λu0 u0 u0 u0 u0 e=>e.elim,λu0 u0 u0 u0 u0 u0 u0 u0 e=>e.elim,λu0 u0 u0 u0 u0 u0 u0 u0 u0 e=>e.elim⟩
theorem Ay4 {L:Nat}:Ag3 w g0 M (TM w g0 M L).calls:=⟨λa args hp v hp' e X=>e X,λu0 u0 u0 u0 u0 u0 u0 u0 e=>e.elim,λu0 u0 u0 u0 u0 u0 u0 u0 u0 e=>e.elim⟩
theorem Bs4 {L:Nat}:As0 w g0 L (TM w g0 M L):=⟨λu0 u0 u0 u0 u0 u0 u0 u0 e=>e,λu0 u0 u0 u0 u0 u0 u0 u0 u0 e=>e⟩
theorem Aa0 {k:Nat}{r:Option (SV×St×List Prop)}{v:SV}{hp:List A0}{ob:List Prop}(e:leaves k r=some (v,hp,ob)):∃st,r=some (v,st,ob)∧st.hp.take k=hp:=by
 cases r with
 | none=>exact no1 e
 | some q=>obtain ⟨v',s,o⟩:=q;refine A4 e ?_;exact ⟨s,rfl,rfl⟩
theorem Ad2 (B:B4 w g0){sums:List Nat}{asks deep:Bool}{T:A7}(hT:Ag3 w g0 (M+1) T){n d:Nat}{a:Addr}{args:List SV}{hp:List A0}{orc:List Orc}{v:SV}{st':St}{ob:List Prop}(hs:Aj9 sums=true)
  (e:(Ae2 (topG sums asks deep) T n d).call (.glb a) args ⟨hp,[],orc⟩=some (v,st',ob))(hob:All ob):CK w g0 (M+1+4*d) a args hp v st'.hp:=by
 refine oEEE (B.ok sums asks deep hs) λK mg mb H=>?_
 exact Cu9 H hT e hob
theorem Cu7 (B:B4 w g0){sums:List Nat}{asks deep:Bool}{n d:Nat}{c:EC}{t:Expr}{b:List Stmt}{hp:List A0}{lc:List (Str×SV)}{orc:List Orc}{f:A8}{st':St}{ob:List Prop}(hs:Aj9 sums=true)
  (e:(Bw7 (topG sums asks deep) (TM w g0 (M+1) (M+1+4*d)) n d).whl c t b ⟨hp,lc,orc⟩=some (f,st',ob))(hob:All ob):WK w g0 (M+1+4*d) c t b hp lc f st'.hp st'.lc:=by
 refine oEEE (B.ok sums asks deep hs) λK mg mb H=>?_
 exact Do8 H Ay4 Bs4 e hob
theorem Cu8 (B:B4 w g0){sums:List Nat}{asks deep:Bool}{n d:Nat}{c:EC}{t:Expr}{it:SIt}{b:List Stmt}{hp:List A0}{lc:List (Str×SV)}{orc:List Orc}{f:A8}{st':St}{ob:List Prop}(hs:Aj9 sums=true)
  (e:(Bw7 (topG sums asks deep) (TM w g0 (M+1) (M+1+4*d)) n d).forL c t it b ⟨hp,lc,orc⟩=some (f,st',ob))(hob:All ob):FK w g0 (M+1+4*d) c t it b hp lc f st'.hp st'.lc:=by
 refine oEEE (B.ok sums asks deep hs) λK mg mb H=>?_
 exact Do9 H Ay4 Bs4 e hob
def Bj8 (w:World)(o o':A0):Prop:=∀(X:Hid) (as:List Addr) (h:Heap) (a:Addr),@OR X w as h o a→@OR X w as h o' a
theorem Bj8.refl (o:A0):Bj8 w o o:=λu0 u0 u0 u0 h=>h
theorem Aj8 {r:List SV}{n m:Nat}(h:r.length≤m):Bj8 w (.list r n) (.list r m):=λX as hh a x=>⟨h,x.2⟩
theorem Bq3 {m:MK→Option SV}{n:Nat}{ks:List MK}{k:Nat}(h:∀i,m i≠none→i∈ks)(hk:ks.length≤k):Bj8 w (.idict m n) (.idict m k):=λX as hh a x=>by
 obtain ⟨kvs,es,hd,hr,hm,hl⟩:=x
 refine ⟨kvs,es,hd,hr,hm,?_⟩
 obtain ⟨_,_,_,_,_,_,_,_,nd⟩:=hd
 rw [hr.1]
 have sub:∀i∈kvs.map (·.1),i∈ks:=λi hi=>by
  obtain ⟨q,hq,rfl⟩:=List.mem_map.mp hi
  refine h _ λhn=>?_
  rw [hm] at hn
  obtain ⟨j,hj,ej⟩:=List.getElem_of_mem hq
  have hj':j<es.length:=hr.1▸hj
  have e1:=hr.2 j es[j] kvs[j] (List.getElem?_eq_getElem hj') (List.getElem?_eq_getElem hj)
  rw [ej] at e1
  have:∀(es:List (SV×SV)) (p:SV×SV),p∈es→p.1=q.1.sv→Ak5 es q.1.sv≠none:=by
   intro es
   induction es with
   | nil=>intro p hp;cases hp
   | cons a l ih=>
    intro p hp e
    show (match keq a.1 q.1.sv with | true=>some a.2 | false=>Ak5 l q.1.sv)≠none
    cases hk:keq a.1 q.1.sv with
    | true=>simp
    | false=>
     simp only
     cases hp with
     | head=>rw [e,Av9] at hk;simp at hk
     | tail _ hp=>exact ih p hp e
  exact this es es[j] (List.getElem_mem hj') e1.1 hn
 have hlen:∀(l ks:List MK),l.Nodup→(∀i∈l,i∈ks)→l.length≤ks.length:=by
  intro l
  induction l with
  | nil=>intro ks _ _;exact Nat.zero_le _
  | cons a l ih=>
   intro ks nd hs
   have:=ih (ks.erase a) (List.nodup_cons.mp nd).2 λi hi=>(List.mem_erase_of_ne (λ(e:i=a)=>(List.nodup_cons.mp nd).1 (by exact e▸hi))).mpr (hs i (List.mem_cons_of_mem _ hi))
   simp only [List.length_erase_of_mem (hs a (List.mem_cons_self ..))] at this
   have:0<ks.length:=List.length_pos_of_mem (hs a (List.mem_cons_self ..))
   simp only [List.length_cons];lia
 have:=hlen _ ks nd sub
 rw [List.length_map] at this
 exact Nat.le_trans this hk
noncomputable def Ae8 (w:World):List A0→List A0→Prop
 | [],[]=>True
 | o::l,o'::l'=>Bj8 w o o'∧Ae8 w l l'
 | _,_=>False
theorem Ae8.refl:∀l:List A0,Ae8 w l l
 | []=>trivial
 | o::l=>⟨.refl o,.refl l⟩
theorem Ae8.get:∀{l l':List A0},Ae8 w l l'→l.length=l'.length∧∀(k:Nat) (o:A0),l'[k]?=some o→∃o',l[k]?=some o'∧Bj8 w o' o
 | [],[],_=>⟨rfl,λk o e=>by simp at e⟩
 | [],_::_,h=>h.elim
 | _::_,[],h=>h.elim
 | o::l,o'::l',h=>by
  obtain ⟨i1,i2⟩:=h.2.get
  refine ⟨by rw [List.length_cons,List.length_cons,i1],λk o'' e=>?_⟩
  cases k with
  | zero=>(replace e:=A9 e;subst e);exact ⟨o,rfl,h.1⟩
  | succ k=>refine oEA (i2 k o'' e) λq e1 e2=>?_;exact ⟨q,by exact e1,e2⟩
theorem HR.to [X:Hid]{as:List Addr}{hp hp':List A0}{h:Heap}(t:Ae8 w hp hp')(x:HR w g0 as hp h):HR w g0 as hp' h:=
 ⟨by rw [x.len,t.get.1],x.nd,x.lo,x.base,λk o e=>by
  refine oEA (t.get.2 k o e) λo' e' q=>?_
  refine oEA (x.at_ k o' e') λa ha r=>?_
  exact ⟨a,ha,q X as h a r⟩,x.hid⟩
theorem CK.post {a args hp v hp' hp''}(x:CK w g0 M a args hp v hp')(t:Ae8 w hp' hp''):CK w g0 M a args hp v hp'':=λX A as s vs ok hr hv Q E k=>
 x X A as s vs ok hr hv Q E λas' h' tk b hr' S vb=>k as' h' tk b (hr'.to t) S vb
theorem CK.pre {a args hp v hp' hp0}(x:CK w g0 M a args hp v hp')(t:Ae8 w hp0 hp):CK w g0 M a args hp0 v hp':=λX A as s vs ok hr hv Q E k=>
 x X A as s vs ok (hr.to t) hv Q E k
def Ag2 (v v':SV):Prop:=∀(X:Hid) (as:List Addr) (h:Heap) (x:Value),@VR X as h v x→@VR X as h v' x
theorem Ag2.refl (v:SV):Ag2 v v:=λu0 u0 u0 u0 h=>h
theorem Ag2.any (v:SV):Ag2 v .any:=λu0 u0 u0 x u0=>.any x
theorem Ag2.keyS (s:Str):Ag2 (.str s) (.key (.s s)):=λu0 u0 u0 x h=>by refine oE (VR.strI h) λu0 z1=>?_;subst z1;exact .key _ _ (decide_eq_true rfl)
theorem Ag2.keyI (i:Int):Ag2 (.int i) (.key (.i i)):=λu0 u0 u0 x h=>by refine oE (VR.intI h) λu0 z1=>?_;subst z1;exact .key _ _ (decide_eq_true rfl)
noncomputable def Bk3:List SV→List SV→Prop
 | [],[]=>True
 | a::l,b::m=>Ag2 a b∧Bk3 l m
 | _,_=>False
theorem Bk3.s [X:Hid]{as:List Addr}{h:Heap}:∀{l m:List SV} {vs:List Value},Bk3 l m→VRs as h l vs→VRs as h m vs
 | [],[],vs,_,x=>x
 | a::l,b::m,vs,t,x=>by
  obtain ⟨v,ws,rfl,p,q⟩:=x.cons_inv
  exact VRs.cons (t.1 X as h v p) (Bk3.s t.2 q)
theorem CK.args {a args args0 hp v hp'}(x:CK w g0 M a args hp v hp')(t:Bk3 args0 args):CK w g0 M a args0 hp v hp':=λX A as s vs ok hr hv Q E k=>
 x X A as s vs ok hr (t.s hv) Q E k
theorem CK.val {a args hp v v' hp'}(x:CK w g0 M a args hp v hp')(t:Ag2 v v'):CK w g0 M a args hp v' hp':=λX A as s vs ok hr hv Q E k=>
 x X A as s vs ok hr hv Q E λas' h' tk b hr' S vb=>k as' h' tk b hr' S (t X as' h' b vb)
end
theorem All.nil:All []:=λu0 h=>by cases h
theorem All.cons {p:Prop}{l:List Prop}(x:p)(y:All l):All (p::l):=λq h=>by
 cases h with
 | head=>exact x
 | tail _ h=>exact y q h
theorem All.append {l k:List Prop}(x:All l)(y:All k):All (l++k):=λq h=>(List.mem_append.mp h).elim (x q) (y q)
section
variable {w:World}{g0:Heap}{M N:Nat}
noncomputable def Be5 (js:List Nat):Nat→List A0→List A0→Prop
 | i,O::HP,O'::HP'=>(match js.contains i with | true=>True | false=>O'=O)∧Be5 js (i+1) HP HP'
 | _,[],_=>True
 | _,_::_,[]=>False
noncomputable def An8 (ρ:Nat→Nat)(HP':List A0):Nat→List A0→Prop
 | _,[]=>True
 | k,o::os=>HP'[ρ k]?=some (Al2 ρ o)∧An8 ρ HP' (k+1) os
theorem Be5.get {js:List Nat}:∀{i:Nat} {HP HP':List A0},Be5 js i HP HP'→∀j:Nat,j<HP.length→i+j∉js→HP'[j]?=HP[j]?
 | i,[],_,_,j,h,_=>by simp at h
 | i,O::HP,[],h,_,_,_=>h.elim
 | i,O::HP,O'::HP',h,j,hj,hn=>by
  cases j with
  | zero=>
   have:js.contains i=false:=by
    cases q:js.contains i with
    | false=>rfl
    | true=>exact absurd (by simpa using q) hn
   have h1:=h.1
   rw [this] at h1
   simp only at h1
   simp [h1]
  | succ j=>
   exact h.2.get j (by simpa using hj) (by rw [Nat.add_right_comm];exact hn)
theorem An8.get {ρ:Nat→Nat}{HP':List A0}:∀{i:Nat} {os:List A0},An8 ρ HP' i os→∀(k:Nat) (o:A0),os[k]?=some o→HP'[ρ (i+k)]?=some (Al2 ρ o)
 | i,[],_,k,o,e=>by simp at e
 | i,o'::os,h,k,o,e=>by
  cases k with
  | zero=>rw [List.getElem?_cons_zero] at e;cases e;exact h.1
  | succ k=>rw [List.getElem?_cons_succ] at e;have:=h.2.get k o e;rw [Nat.add_right_comm] at this;exact this
theorem CK.frame {a:Addr}{js:List Nat}{hp hp' HP HP':List A0}{args ARGS:List SV}{v V:SV}(C:CK w g0 M a args hp v hp')(nd:ndB js=true)(pre:Ak9 (rn js HP.length) HP js hp)(len:HP'.length+hp.length=HP.length+hp'.length)
  (le:hp.length≤hp'.length)(same:Be5 js 0 HP HP')(post:An8 (rn js HP.length) HP' 0 hp')(ha:svRs (rn js HP.length) args=ARGS)(hv:svR (rn js HP.length) v=V):CK w g0 M a ARGS HP V HP':=λX=>by
 have:=Ad9 ({toPicked:=Picked.of nd pre,len:=len,le:=le,same:=λj hj hn=>same.get j hj (by rw [Nat.zero_add];exact hn),post:=λk o e=>by have:=post.get k o e;rw [Nat.zero_add] at this;exact this}) (C X)
 simp only [ha,hv] at this
 exact this
theorem CK.forget {a:Addr}{js ks:List Nat}{hp hp' hpC:List A0}{args:List SV}{v vC:SV}(C:CK w g0 M a args hp v hp')(hj:js=List.range hp.length++ks)(nd:ndB js=true)(P:Ak9 (rn js hp'.length) hp' js hpC)
  (hk:∀j∈ks,hp.length≤j)(hv:svR (rn js hp'.length) vC=v):CK w g0 M a args hp vC hpC:=λX=>by
 subst hj
 exact Ai8 (C X) (Picked.of nd P) hk hv
theorem Af9 {ρ:Nat→Nat}{es ES:List (Str×SV)}(h:nsR ρ es=ES):Af5 ρ (.ns es) (.ns ES):=⟨ES,rfl,by
 subst h
 induction es with
 | nil=>trivial
 | cons p l ih=>exact ⟨rfl,.inr rfl,ih⟩⟩
theorem Aa2 {ρ:Nat→Nat}{es ES:List (SV×SV)}(h:esR ρ es=ES):Af5 ρ (.dict es) (.dict ES):=⟨ES,rfl,by
 subst h
 induction es with
 | nil=>trivial
 | cons p l ih=>exact ⟨rfl,.inr rfl,ih⟩⟩
theorem A3 {ρ:Nat→Nat}{r R:List SV}{n m:Nat}(h:svRs ρ r=R)(hl:r.length≤n):Af5 ρ (.list r n) (.list R m):=⟨m,by rw [h],hl⟩
theorem At8 {ρ:Nat→Nat}{m m':MK→Option SV}{n N:Nat}(h:(λk=>(m k).map (svR ρ))=m')(hl:N≤n):Af5 ρ (.idict m n) (.idict m' N):=.inl ⟨N,by rw [h],hl⟩
def Fix (k:Nat)(ρ:Nat→Nat):Prop:=∀j,j<k→ρ j=j
noncomputable def Ac4 (ρ:Nat→Nat):List A0→Prop
 | []=>True
 | o::l=>Af5 ρ o o∧Ac4 ρ l
noncomputable def Bj7 (ρ:Nat→Nat):List A0→Prop
 | []=>True
 | o::l=>Al2 ρ o=o∧Bj7 ρ l
theorem at?_range:∀{k j:Nat},j<k→at? (List.range k) j=some j:=λ{k j} h=>by simp only [at?_eq,List.getElem?_range h]
theorem Ab5 {k N:Nat}:Fix k (rn (List.range k) N):=λj h=>by unfold rn;exact (at?_range h)▸rfl
theorem Cv3 {k N j:Nat}:rn (List.range k) N (k+j)=N+j:=by
 unfold rn
 rw [at?_eq,List.getElem?_eq_none_iff.mpr (by simp)];simp
theorem Av5:∀{l:List Nat},l.Nodup→ndB l=true
 | [],_=>rfl
 | a::l,h=>by
  unfold ndB
  simp only [Bool.and_eq_true]
  exact ⟨by simpa using (List.nodup_cons.mp h).1,Av5 (List.nodup_cons.mp h).2⟩
theorem Ac4.get {ρ:Nat→Nat}:∀{l:List A0},Ac4 ρ l→∀(k:Nat) (o:A0),l[k]?=some o→Af5 ρ o o
 | [],_,k,o,e=>by simp at e
 | o'::l,h,k,o,e=>by
  cases k with
  | zero=>rw [List.getElem?_cons_zero] at e;(replace e:=A9 e;subst e);exact h.1
  | succ k=>exact h.2.get k o e
theorem Bj7.get {ρ:Nat→Nat}:∀{l:List A0},Bj7 ρ l→∀(k:Nat) (o:A0),l[k]?=some o→Al2 ρ o=o
 | [],_,k,o,e=>by simp at e
 | o'::l,h,k,o,e=>by
  cases k with
  | zero=>simp only [List.getElem?_cons_zero] at e;cases e;exact h.1
  | succ k=>exact h.2.get k o e
theorem CK.ext {a:Addr}{k:Nat}{hp pre new new' ex:List A0}{args ARGS:List SV}{v V:SV}(C:CK w g0 M a args hp v (pre++new))(hk:hp.length=k)(hl:pre.length=k)(c1:∀ρ,Fix k ρ→Ac4 ρ hp)(c2:∀ρ,Fix k ρ→Bj7 ρ pre)
  (c3:new.map (Al2 (rn (List.range k) (k+ex.length)))=new')(ha:svRs (rn (List.range k) (k+ex.length)) args=ARGS)(hv:svR (rn (List.range k) (k+ex.length)) v=V):CK w g0 M a ARGS (hp++ex) V (pre++(ex++new')):=λX=>by
 have hL:(hp++ex).length=k+ex.length:=by simp only [List.length_append,hk]
 have F:Ap9 (List.range k) hp (pre++new) (hp++ex) (pre++(ex++new')):={
  jl:=by simp only [List.length_range,hk]
  nd:=List.nodup_range
  pre:=λi o e=>by
   have hi:i<k:=hk▸(List.getElem?_eq_some_iff.mp e).1
   refine ⟨i,o,by rw [List.getElem?_range hi],by refine Eq.trans (List.getElem?_append_left (hk▸hi)) ?_;exact e,?_⟩
   exact (c1 _ Ab5).get i o e
  len:=by
   simp only [List.length_append]
   simp only [← c3,List.length_map,hl,hk];simp +arith
  le:=by simp only [List.length_append,hk,hl];exact Nat.le_add_right _ _
  same:=λj hj hn=>by
   have hj':k≤j:=by
    refine Nat.le_of_not_lt λq=>hn (List.mem_range.mpr q)
   rw [hL] at hj
   rw [List.getElem?_append_right (by lia),List.getElem?_append_left (by lia),List.getElem?_append_right (by lia)];simp only [hl,hk]
  post:=λi o e=>by
   refine hL▸?_
   by_cases hi:i<k
   ·rw [List.getElem?_append_left (by lia)] at e
    rw [Ab5 i hi,List.getElem?_append_left (by omega),e,(c2 _ Ab5).get i o e]
   ·refine oE (Nat.exists_eq_add_of_le (Nat.le_of_not_lt hi)) λj z1=>?_;subst z1
    rw [List.getElem?_append_right (by lia),hl,Nat.add_sub_cancel_left] at e
    rw [Cv3,List.getElem?_append_right (by lia),List.getElem?_append_right (by omega)];simp only [← c3,List.getElem?_map,hl]
    have:k+ex.length+j-k-ex.length=j:=by omega
    simp only [this,e];rfl}
 have:=Ad9 F (C X)
 rw [hL,ha,hv] at this
 exact this
theorem CK.take {a:Addr}{k:Nat}{hp hp' hpC:List A0}{args:List SV}{v:SV}(C:CK w g0 M a args hp v hp')(hk:hp.length≤k)(e:hp'.take k=hpC)(hl:hpC.length=k)(c:∀ρ,Fix k ρ→Ac4 ρ hpC)(hv:∀ρ,Fix k ρ→svR ρ v=v):CK w g0 M a args hp v hpC:=by
 have hj:List.range k=List.range hp.length++(List.range (k-hp.length)).map (hp.length + ·):=by
  refine (List.range_add)▸?_;congr 1;grind
 have get:∀i,i<k→hp'[i]?=hpC[i]?:=λi hi=>by rw [← e,List.getElem?_take,if_pos hi]
 refine λX=>?_
 refine Ai8 (ks:=(List.range (k-hp.length)).map (hp.length + ·)) (C X) ⟨by rw [← hj,List.length_range,hl],by refine hj▸?_;exact List.nodup_range,λi o ei=>?_⟩ (λj hj=>?_) ?_
 ·have hi:i<k:=hl▸(List.getElem?_eq_some_iff.mp ei).1
  refine hj▸?_
  exact ⟨i,o,by rw [List.getElem?_range hi],by refine Eq.trans (get i hi) ?_;exact ei,(c _ Ab5).get i o ei⟩
 ·refine oEA (List.mem_map.mp hj) λi u0 z2=>?_;subst z2;exact Nat.le_add_right _ _
 ·exact hj▸hv _ Ab5
end
noncomputable abbrev B1:SV:=.tup [.str "int",.str "int"]
noncomputable abbrev Cp9:SV:=.tup [.str "array",.int 3,B1]
noncomputable abbrev ptrT:SV:=.tup [.str "ptr",B1]
noncomputable abbrev cst (n:Int):SV:=.tup [.str "const",B1,.int 0,.int n]
noncomputable abbrev cop (n:Int):SV:=.tup [.str "const",B1,.int n]
noncomputable abbrev locE (T:SV)(k:Int):SV:=.tup [.str "local",T,.int 0,.int k]
noncomputable abbrev idxE (e:SV):SV:=.tup [.str "index",B1,.int 0,locE Cp9 4,e]
inductive Ix where
 | i | j | c (n:Int)
noncomputable def Ix.tree:Ix→SV
 | .i=>locE B1 0
 | .j=>locE B1 1
 | .c n=>cst n
inductive Pl where
 | i | j | x | p | a (k:Ix)
def Pl.tree:Pl→SV
 | .i=>locE B1 0
 | .j=>locE B1 1
 | .x=>locE B1 2
 | .p=>.tup [.str "deref",B1,.int 0,locE ptrT 3]
 | .a k=>idxE k.tree
inductive Vl where
 | i | j | c (n:Int) | sum (p:Pl) (n:Int)
def Vl.tree:Vl→SV
 | .i=>locE B1 0
 | .j=>locE B1 1
 | .c n=>cst n
 | .sum p n=>.tup [.str "binary",B1,.int 0,.str "+",p.tree,cst n]
noncomputable def reg (R:List SV):Int:=((R.length+1:Nat):Int)-1
noncomputable abbrev rg (n:Int):SV:=.tup [.str "reg",.int n]
noncomputable def bxs:Bool→List Int
 | true=>[2,4]
 | false=>[2]
def hpL (b:Bool)(g:Int)(R I:List SV)(n m:Nat):List A0:=[
 .inst 339 1,
 .ns [("world",.loc 2),("typed_fn",.loc 4),("boxed",.fset (bxs b)),("known",.loc 6),("held",.loc 7),("sites",.int g),("loops",.loc 8),("has_defers",.bool false),("spot",.int 0),("code",.loc 9),("here",.int 0)],
 .inst 854 3,
 .ns [("packages",.any),("named",.any),("globals",.any),("consts",.any),("funcs",.any),("bodies",.any),("files",.any),("scopes",.any),("order",.any),("starts",.any),("settle",.any),("late_keys",.any),("is_whole",.any)],
 .inst 95 5,
 .ns [("key",.str "main.f"),("locals",.loc 10),("params",.tup []),("results",.tup []),("captured",.tup []),("body",.any),("literals",.loc 16)],
 .dict [(.str "value",.glb 554),(.str "values",.glb 561),(.str "address",.glb 494),(.str "block",.glb 719),(.str "codes",.any)],
 .dict [(.int 0,.int 0),(.int 1,.int 1),(.int 2,.int 2),(.int 3,.int 3),(.int 4,.int 5)],
 .dict [],
 .inst 136 11,
 .list [.tup [.str "a",Cp9],.tup [.str "p",ptrT],.tup [.str "x",B1],.tup [.str "j",B1],.tup [.str "i",B1]] 5,
 .ns [("key",.str "main.f"),("params",.int 0),("registers",.loc 12),("blocks",.loc 13),("captured",.int 0),("results",.int 0),("recovery",.none)],
 .list R n,
 .list [.loc 14] 1,
 .list [.none,.loc 15] 2,
 .list I m,
 .dict []]
structure Pc where
 R:List SV
 I:List SV
noncomputable abbrev ins (op:String)(d:Int)(l:List SV):SV:=.tup (.str op:: .int d::l)
def ixP (k:Ix)(R I:List SV):Pc:=match k with
 | .i=>⟨B1::R,ins "move" (reg R) [rg 0]::I⟩
 | .j=>⟨B1::R,ins "move" (reg R) [rg 1]::I⟩
 | .c _=>⟨R,I⟩
def ixO (k:Ix)(R:List SV):SV:=match k with
 | .i=>rg (reg R)
 | .j=>rg (reg R)
 | .c n=>cop n
noncomputable def ixD (k:Ix):SV:=match k with
 | .i=>rg 0
 | .j=>rg 1
 | .c n=>cop n
def rdP (b:Bool)(p:Pl)(R I:List SV):Pc:=match p with
 | .i=>⟨R,I⟩
 | .j=>⟨R,I⟩
 | .x=>⟨B1::R,ins "load" (reg R) [rg 2]::I⟩
 | .p=>⟨B1::ptrT::R,ins "load" (reg (ptrT::R)) [rg (reg R)]::ins "move" (reg R) [rg 3]::I⟩
 | .a k=>match b with
  | true=>⟨B1::ptrT::(ixP k R I).R,ins "load" (reg (ptrT::(ixP k R I).R)) [rg (reg (ixP k R I).R)]::ins "elemptr" (reg (ixP k R I).R) [rg 5,ixO k R]::(ixP k R I).I⟩
  | false=>⟨B1::R,ins "elem" (reg R) [rg 5,ixD k]::I⟩
def rdO (b:Bool)(p:Pl)(R:List SV):SV:=match p with
 | .i=>rg 0
 | .j=>rg 1
 | .x=>rg (reg R)
 | .p=>rg (reg (ptrT::R))
 | .a k=>match b with
  | true=>rg (reg (ptrT::(ixP k R []).R))
  | false=>rg (reg R)
def vlP (b:Bool)(v:Vl)(R I:List SV):Pc:=match v with
 | .sum p n=>⟨B1::(rdP b p R I).R,ins "binary" (reg (rdP b p R I).R) [.str "+",rdO b p R,cop n,B1]::(rdP b p R I).I⟩
 | _=>⟨R,I⟩
def vlO (b:Bool)(v:Vl)(R:List SV):SV:=match v with
 | .i=>rg 0
 | .j=>rg 1
 | .c n=>cop n
 | .sum p n=>rg (reg (rdP b p R []).R)
abbrev G0:Top:=topG [] false false
theorem rdP_R (b:Bool)(p:Pl)(R I J:List SV):(rdP b p R I).R=(rdP b p R J).R:=by
 cases p with
 | a k=>cases b<;>cases k<;>rfl
 | _=>rfl
theorem Cc1 (b:Bool)(g:Int)(v:Vl)(R I:List SV):leaves 17 ((Ae2 G0 T0 100 12).call (.glb 554) [.loc 0,v.tree] ⟨hpL b g R I 1000 1000,[],[]⟩) =
  some (vlO b v R,hpL b g (vlP b v R I).R (vlP b v R I).I (1000+((vlP b v [] []).R.length)) (1000+(vlP b v [] []).I.length),[]):=by
 cases v with
 | sum p n=>
  cases p with
  | a k=>cases b<;>cases k<;>kernel_rfl
  | _=>cases b<;>kernel_rfl
 | _=>cases b<;>kernel_rfl
abbrev Gq:Top:=topG [] true false
noncomputable def hpS (a b:Int):List A0:=[.list [.int b,.int a] 2]
theorem Cc9 (a b top:Int):leaves 1 ((Ae2 Gq T0 60 6).call (.glb 872) [.loc 0,.int top] ⟨hpS a b,[],[.val (.bool true)]⟩) =
  some (.int (Int.fmod a top),hpS (Int.fdiv a top) b,[decide (0<a)=true,top≠0,top≠0∧top.natAbs<1073741824]):=by kernel_rfl
noncomputable def nxt (b:Int):Int:=Int.fmod (b*39373+7) 2147483647
theorem Cc8 (a b top:Int):leaves 1 ((Ae2 Gq T0 60 6).call (.glb 872) [.loc 0,.int top] ⟨hpS a b,[],[.val (.bool false)]⟩) =
  some (.int (Int.fmod (Int.fdiv (Int.fmod (nxt b*nxt b) 2147483629) 32) top),hpS a (nxt b),
   [decide (0<a)=false,b.natAbs<2^64∨(39373:Int).natAbs<2^64,(2147483647:Int)≠0,(nxt b).natAbs<2^64∨(nxt b).natAbs<2^64,(2147483629:Int)≠0,(32:Int)≠0∧(32:Int).natAbs<1073741824,top≠0]):=by kernel_rfl
noncomputable def Ix.law:Ix→SV
 | .i=>.str "i"
 | .j=>.str "j"
 | .c n=>.int n
def Pl.law:Pl→SV
 | .i=>.str "i"
 | .j=>.str "j"
 | .x=>.str "x"
 | .p=>.str "*p"
 | .a k=>.tup [.str "a",k.law]
def Ac0:Option Pl→SV
 | none=>.none
 | some p=>p.law
def Vl.law:Vl→SV
 | .i=>.str "i"
 | .j=>.str "j"
 | .c n=>.int n
 | .sum p n=>.tup [p.law,.int n]
noncomputable def plOf (k:Int):Nat→Option Pl
 | 0=>some .i
 | 1=>some .j
 | 2=>some .x
 | 3=>some .p
 | 4=>some (.a .i)
 | 5=>some (.a .j)
 | 6=>some (.a (.c k))
 | _=>none
abbrev Gp:Top:=topG [872] false false
abbrev Gv:Top:=topG [872,905] false false
def drw (v:SV)(a b:Int):Orc:=.call v λhp=>hpS a b++hp.drop 1
noncomputable def Ct6 (k:Int):List SV:=[.tup [.str "a",.int k],.tup [.str "a",.str "j"],.tup [.str "a",.str "i"],.str "*p",.str "x",.str "j",.str "i"]
def exP (k:Int):Bool→List A0
 | true=>[.list (Ct6 k) 7,.list [.none] 1,.list [.none] 1,.list (.none::Ct6 k) 8]
 | false=>[.list (Ct6 k) 7,.list [.none] 1,.list [] 0,.list (Ct6 k) 7]
theorem lt8 {P:Nat→Prop}(h0:P 0)(h1:P 1)(h2:P 2)(h3:P 3)(h4:P 4)(h5:P 5)(h6:P 6)(h7:P 7)(d:Nat)(hd:d<8):P d:=by
 cases d with
 | zero=>exact h0
 | succ d=>cases d with
  | zero=>exact h1
  | succ d=>cases d with
   | zero=>exact h2
   | succ d=>cases d with
    | zero=>exact h3
    | succ d=>cases d with
     | zero=>exact h4
     | succ d=>cases d with
      | zero=>exact h5
      | succ d=>cases d with
       | zero=>exact h6
       | succ d=>cases d with
        | zero=>exact h7
        | succ d=>exact absurd hd (Nat.not_lt.mpr (Nat.le_add_left 8 d))
def pL8 (T:A7)(q:Bool)(n:Int)(a b a1 b1 a2 b2 k:Int)(d:Nat):=leaves 1 ((Ae2 Gp T 80 8).call (.glb 905) [.loc 0,.bool q] ⟨hpS a b,[],[drw (.int k) a1 b1,drw (.int d) a2 b2]⟩)
def pR8 (T:A7)(q:Bool)(n:Int)(a b a1 b1 a2 b2 k:Int)(d:Nat):=
  some (Ac0 (plOf k d),hpS a2 b2,[T.ok 872 [.loc 0,.int 3] (hpS a b) (.int k) (hpS a1 b1),T.ok 872 [.loc 0,.int n] (hpS a1 b1++exP k q) (.int d) (hpS a2 b2++exP k q)])
theorem Bx7 (T:A7)(a b a1 b1 a2 b2 k:Int)(d:Nat)(hd:d<8):pL8 T true 8 a b a1 b1 a2 b2 k d=pR8 T true 8 a b a1 b1 a2 b2 k d:=by
 revert d
 refine lt8 ?_ ?_ ?_ ?_ ?_ ?_ ?_ ?_<;>kernel_rfl
theorem Bx8 (T:A7)(a b a1 b1 a2 b2 k:Int)(d:Nat)(hd:d<7):pL8 T false 7 a b a1 b1 a2 b2 k d=pR8 T false 7 a b a1 b1 a2 b2 k d:=by
 refine lt8 (P:=λd=>d<7→pL8 T false 7 a b a1 b1 a2 b2 k d=pR8 T false 7 a b a1 b1 a2 b2 k d) ?_ ?_ ?_ ?_ ?_ ?_ ?_ (λh=>absurd h (by decide)) d (Nat.lt_succ_of_lt hd) hd<;>exact λu0=>by kernel_rfl
noncomputable def vlOf:Nat→Vl
 | 0=>.i
 | 1=>.j
 | 2=>.c 0
 | 3=>.c 1
 | _=>.c 2
noncomputable def At1:Option Pl→Bool
 | some .i=>true
 | some .j=>true
 | _=>false
noncomputable def exV:List A0:=[.list [.str "j",.str "i"] 2,.list [.int 2,.int 1,.int 0,.str "j",.str "i"] 5]
def vL1 (T:A7)(a b a1 b1:Int)(p:Option Pl)(d:Nat):=leaves 1 ((Ae2 Gv T 80 8).call (.glb 912) [.loc 0,Ac0 p] ⟨hpS a b,[],[drw (.int d) a1 b1]⟩)
def vR1 (T:A7)(a b a1 b1:Int)(d:Nat):=some ((vlOf d).law,hpS a1 b1,[T.ok 872 [.loc 0,.int 5] (hpS a b++exV) (.int d) (hpS a1 b1++exV)])
theorem lt5 {P:Nat→Prop}(h0:P 0)(h1:P 1)(h2:P 2)(h3:P 3)(h4:P 4)(d:Nat)(hd:d<5):P d:=
 lt8 (P:=λd=>d<5→P d) (λu0=>h0) (λu0=>h1) (λu0=>h2) (λu0=>h3) (λu0=>h4) (λh=>absurd h (by decide)) (λh=>absurd h (by decide)) (λh=>absurd h (by decide)) d (Nat.lt_of_lt_of_le hd (by decide)) hd
theorem Cs5 (T:A7)(a b a1 b1:Int)(p:Option Pl)(hp:At1 p=true)(d:Nat)(hd:d<5):vL1 T a b a1 b1 p d=vR1 T a b a1 b1 d:=by
 cases p with
 | none=>exact B3 hp
 | some p=>cases p with
  | i=>revert d;refine lt5 ?_ ?_ ?_ ?_ ?_<;>kernel_rfl
  | j=>revert d;refine lt5 ?_ ?_ ?_ ?_ ?_<;>kernel_rfl
  | _=>exact B3 hp
theorem Cs4 (T:A7)(a b a1 b1 a2 b2 c:Int)(p:Option Pl)(hp:At1 p=false)(q:SV):leaves 1 ((Ae2 Gv T 80 8).call (.glb 912) [.loc 0,Ac0 p] ⟨hpS a b,[],[drw q a1 b1,drw (.int c) a2 b2]⟩) =
  some (.tup [q,.int c],hpS a2 b2,[T.ok 905 [.loc 0,.bool false] (hpS a b++[.list [.str "j",.str "i"] 2]) q (hpS a1 b1++[.list [.str "j",.str "i"] 2]),
   T.ok 872 [.loc 0,.int 9] (hpS a1 b1++[.list [.str "j",.str "i"] 2]) (.int c) (hpS a2 b2++[.list [.str "j",.str "i"] 2])]):=by
 cases p with
 | none=>kernel_rfl
 | some p=>
  cases p with
  | i=>exact noB hp
  | j=>exact noB hp
  | a k=>cases k<;>kernel_rfl
  | _=>kernel_rfl
abbrev Gw:Top:=topG [872,905,912] false false
noncomputable def Ca7:Nat→Pl
 | 0=>.x
 | 1=>.p
 | 2=>.a .i
 | _=>.a .j
noncomputable abbrev cS:A0:=.cell (some (.loc 0))
noncomputable def exU:List A0:=[cS,.list [.tup [.str "a",.str "j"],.tup [.str "a",.str "i"],.str "*p",.str "x"] 4]
theorem Cv0 (T:A7)(a0 b0 a1 b1 a2 b2 a3 b3 a4 b4 c:Int)(q:SV)(d:Nat)(hd:d<4):
  leaves 5 ((Ae2 Gw T 80 8).call (.glb 943) [.loc 0] ⟨hpS a0 b0,[],[drw (.int 0) a1 b1,drw (.int d) a2 b2,drw q a3 b3,drw (.int c) a4 b4]⟩) =
  some (.tup [.str "update",.loc 3,.loc 4],hpS a4 b4++exU++[.list [(Ca7 d).law] 1,.list [.tup [q,.int c]] 1],
   [T.ok 872 [.loc 0,.int 4] (hpS a0 b0++[cS]) (.int 0) (hpS a1 b1++[cS]),T.ok 872 [.loc 0,.int 4] (hpS a1 b1++exU) (.int d) (hpS a2 b2++exU),
   T.ok 905 [.loc 0,.bool false] (hpS a2 b2++exU++[.list [(Ca7 d).law] 1]) q (hpS a3 b3++exU++[.list [(Ca7 d).law] 1]),
   T.ok 872 [.loc 0,.int 9] (hpS a3 b3++exU++[.list [(Ca7 d).law] 1]) (.int c) (hpS a4 b4++exU++[.list [(Ca7 d).law] 1])]):=by
 exact n4E hd (by kernel_rfl) (by kernel_rfl) (by kernel_rfl) (by kernel_rfl)
theorem Ce8 (T:A7)(a0 b0 a1 b1 a2 b2 a3 b3 a4 b4:Int)(p1 v1:SV)(t:Nat)(ht:0<t∧t<4):
  leaves 4 ((Ae2 Gw T 80 8).call (.glb 943) [.loc 0] ⟨hpS a0 b0,[],[drw (.int t) a1 b1,drw (.int 0) a2 b2,drw p1 a3 b3,drw v1 a4 b4]⟩) =
  some (.tup [.str "set",.loc 2,.loc 3],hpS a4 b4++[cS,.list [p1] 1,.list [v1] 1],
   [T.ok 872 [.loc 0,.int 4] (hpS a0 b0++[cS]) (.int t) (hpS a1 b1++[cS]),T.ok 872 [.loc 0,.int 3] (hpS a1 b1++[cS]) (.int 0) (hpS a2 b2++[cS]),T.ok 905 [.loc 0,.bool true] (hpS a2 b2++[cS]) p1 (hpS a3 b3++[cS]),T.ok 912 [.loc 0,p1] (hpS a3 b3++[cS,.list [p1] 1]) v1 (hpS a4 b4++[cS,.list [p1] 1])]):=by
 exact n3E ht (by kernel_rfl) (by kernel_rfl) (by kernel_rfl)
theorem Ce7 (T:A7)(a0 b0 a1 b1 a2 b2 a3 b3 a4 b4 a5 b5 a6 b6:Int)(p1 p2 v1 v2:SV)(t:Nat)(ht:0<t∧t<4):
  leaves 4 ((Ae2 Gw T 80 8).call (.glb 943) [.loc 0] ⟨hpS a0 b0,[],[drw (.int t) a1 b1,drw (.int 1) a2 b2,drw p1 a3 b3,drw p2 a4 b4,drw v1 a5 b5,drw v2 a6 b6]⟩) =
  some (.tup [.str "set",.loc 2,.loc 3],hpS a6 b6++[cS,.list [p2,p1] 2,.list [v2,v1] 2],
   [T.ok 872 [.loc 0,.int 4] (hpS a0 b0++[cS]) (.int t) (hpS a1 b1++[cS]),T.ok 872 [.loc 0,.int 3] (hpS a1 b1++[cS]) (.int 1) (hpS a2 b2++[cS]),T.ok 905 [.loc 0,.bool true] (hpS a2 b2++[cS]) p1 (hpS a3 b3++[cS]),T.ok 905 [.loc 0,.bool true] (hpS a3 b3++[cS]) p2 (hpS a4 b4++[cS]),T.ok 912 [.loc 0,p1] (hpS a4 b4++[cS,.list [p2,p1] 2]) v1 (hpS a5 b5++[cS,.list [p2,p1] 2]),T.ok 912 [.loc 0,p2] (hpS a5 b5++[cS,.list [p2,p1] 2]) v2 (hpS a6 b6++[cS,.list [p2,p1] 2])]):=by
 exact n3E ht (by kernel_rfl) (by kernel_rfl) (by kernel_rfl)
theorem Ce6 (T:A7)(a0 b0 a1 b1 a2 b2 a3 b3 a4 b4 a5 b5 a6 b6 a7 b7 a8 b8:Int)(p1 p2 p3 v1 v2 v3:SV)(t:Nat)(ht:0<t∧t<4):
  leaves 4 ((Ae2 Gw T 80 8).call (.glb 943) [.loc 0] ⟨hpS a0 b0,[],[drw (.int t) a1 b1,drw (.int 2) a2 b2,drw p1 a3 b3,drw p2 a4 b4,drw p3 a5 b5,drw v1 a6 b6,drw v2 a7 b7,drw v3 a8 b8]⟩) =
  some (.tup [.str "set",.loc 2,.loc 3],hpS a8 b8++[cS,.list [p3,p2,p1] 3,.list [v3,v2,v1] 3],
   [T.ok 872 [.loc 0,.int 4] (hpS a0 b0++[cS]) (.int t) (hpS a1 b1++[cS]),T.ok 872 [.loc 0,.int 3] (hpS a1 b1++[cS]) (.int 2) (hpS a2 b2++[cS]),T.ok 905 [.loc 0,.bool true] (hpS a2 b2++[cS]) p1 (hpS a3 b3++[cS]),T.ok 905 [.loc 0,.bool true] (hpS a3 b3++[cS]) p2 (hpS a4 b4++[cS]),T.ok 905 [.loc 0,.bool true] (hpS a4 b4++[cS]) p3 (hpS a5 b5++[cS]),T.ok 912 [.loc 0,p1] (hpS a5 b5++[cS,.list [p3,p2,p1] 3]) v1 (hpS a6 b6++[cS,.list [p3,p2,p1] 3]),T.ok 912 [.loc 0,p2] (hpS a6 b6++[cS,.list [p3,p2,p1] 3]) v2 (hpS a7 b7++[cS,.list [p3,p2,p1] 3]),T.ok 912 [.loc 0,p3] (hpS a7 b7++[cS,.list [p3,p2,p1] 3]) v3 (hpS a8 b8++[cS,.list [p3,p2,p1] 3])]):=by
 exact n3E ht (by kernel_rfl) (by kernel_rfl) (by kernel_rfl)
noncomputable def Ar7 (c:Int):Int:=if c < -1-c then -1-c else c
def Cx5 (c:Int):Int:=Int.fmod ((Int.fmod (Ar7 c) 2147483629+7919*0*0+31*0+17)*48271) 2147483647
noncomputable def Ca3:Int:=10^18
noncomputable def bI:Bool→Int
 | true=>1
 | false=>0
abbrev mulP (i j:Int):Prop:=i.natAbs<2^64∨j.natAbs<2^64
noncomputable def Cg5 (c:Int)(t:Bool):List Prop:=[(2147483629:Int)≠0,mulP 7919 0,mulP (7919*0) 0,mulP 31 0,mulP (Int.fmod (Ar7 c) 2147483629+7919*0*0+31*0+17) 48271,(2147483647:Int)≠0,
 decide (Ca3≤Ar7 c)=t,mulP (Ar7 c) (bI t)]
theorem Cg3 (t:Bool)(ob:Obj):leaves 2 ((Ae2 Gq T0 60 6).call (.glb 865) [.loc 0,.int 0] ⟨[.lst0 .none 0 63 ob],[],[.val (.bool false),.val (.bool t)]⟩) =
  some (.loc 1,[.lst0 .none 0 63 ob,.list [.int (Cx5 0),.int (Ar7 0*bI t)] 2],(decide ((0:Int)<((0:Nat):Int))=false)::Cg5 0 t):=by cases t<;>kernel_rfl
theorem Cg2 (c:Int)(l:Nat)(t:Bool)(ob:Obj):leaves 2 ((Ae2 Gq T0 60 6).call (.glb 865) [.loc 0,.int 0] ⟨[.lst0 (.int c) (l+1) 63 ob],[],[.val (.bool true),.val (.bool t)]⟩) =
  some (.loc 1,[.lst0 (.int c) (l+1) 63 ob,.list [.int (Cx5 c),.int (Ar7 c*bI t)] 2],(decide ((0:Int)<((l+1:Nat):Int))=true)::Cg5 c t):=by cases t<;>kernel_rfl
section
variable {w:World}{g0:Heap}{M N:Nat}
theorem Di3 (a b:Int):∀ρ,Fix 1 ρ→Ac4 ρ (hpS a b):=λρ f=>⟨A3 rfl (Nat.le_refl _),trivial⟩
theorem hpS_re (a b:Int):∀ρ,Fix 1 ρ→Bj7 ρ (hpS a b):=λρ f=>⟨rfl,trivial⟩
def Dr (w:World)(g0:Heap)(M:Nat)(f:Addr)(args:List SV)(a b:Int)(v:SV)(a' b':Int):Prop:=CK w g0 M f (.loc 0::args) (hpS a b) v (hpS a' b')
theorem Dr.mono {f args a b v a' b'}(x:Dr w g0 M f args a b v a' b')(h:M≤N):Dr w g0 N f args a b v a' b':=CK.mono x h
theorem Dr.x {f args a b v a' b'}(x:Dr w g0 M f args a b v a' b')(ha:∀ρ,Fix 1 ρ→svRs ρ args=args)(hv:∀ρ,Fix 1 ρ→svR ρ v=v)(ex:List A0):
  CK w g0 M f (.loc 0::args) (hpS a b++ex) v (hpS a' b'++ex):=by
 have:=CK.ext (k:=1) (hp:=hpS a b) (pre:=hpS a' b') (new:=[]) (ex:=ex) (new':=[]) (args:=.loc 0::args) (ARGS:=.loc 0::args) (v:=v) (V:=v) (by exact x) rfl rfl (Di3 a b) (hpS_re a' b') rfl
  (by show SV.loc _::svRs _ args=_;rw [ha _ Ab5,Ab5 (k:=1) 0 (by decide)]) (hv _ Ab5)
 simp only [List.append_nil] at this
 exact this
theorem Bz5 (B:B4 w g0){sums:List Nat}{asks deep:Bool}{T:A7}(hT:Ag3 w g0 (M+1) T)(hs:Aj9 sums=true){k d:Nat}{f:Addr}{args:List SV}{orc:List Orc}{v:SV}{ob:List Prop}{a b a' b':Int}
  (e:leaves 1 ((Ae2 (topG sums asks deep) T k d).call (.glb f) (.loc 0::args) ⟨hpS a b,[],orc⟩)=some (v,hpS a' b',ob))(hob:All ob)(hv:∀ρ,Fix 1 ρ→svR ρ v=v):Dr w g0 (M+1+4*d) f args a b v a' b':=by
 refine oEA (Aa0 e) λst e1 e2=>?_
 exact (Ad2 B hT hs e1 hob).take (Nat.le_refl _) e2 rfl (Di3 a' b') hv
theorem Am1 (B:B4 w g0)(a b top:Int)(h1:0<top)(h2:top<1073741824):∃(d:Nat) (a' b':Int),(d:Int)<top∧Dr w g0 25 872 [.int top] a b (.int d) a' b':=by
 have ht:top.natAbs<1073741824:=by omega
 have fm:∀x:Int,0≤Int.fmod x top∧Int.fmod x top<top:=λx=>⟨Int.fmod_nonneg_of_pos _ h1,Int.fmod_lt_of_pos _ h1⟩
 by_cases h:0<a
 ·obtain ⟨d,hd⟩:=Int.eq_ofNat_of_zero_le (fm a).1
  refine ⟨d,Int.fdiv a top,b,by refine hd▸?_;exact (fm a).2,?_⟩
  have:=Bz5 (M:=0) B Aa8 rfl (Cc9 a b top) (.cons (by simp [h]) (.cons (by omega) (.cons ⟨by omega,ht⟩ .nil))) λu0 u0=>rfl
  exact hd▸this
 ·obtain ⟨d,hd⟩:=Int.eq_ofNat_of_zero_le (fm (Int.fdiv (Int.fmod (nxt b*nxt b) 2147483629) 32)).1
  refine ⟨d,a,nxt b,by refine hd▸?_;exact (fm _).2,?_⟩
  have hn:(nxt b).natAbs<2^64:=by
   have x1:0≤nxt b:=Int.fmod_nonneg_of_pos _ (by decide)
   have x2:nxt b<2147483647:=Int.fmod_lt_of_pos _ (by decide)
   lia
  have:=Bz5 (M:=0) B Aa8 rfl (Cc8 a b top) (.cons (by simp [h]) (.cons (.inr (by decide)) (.cons (by decide) (.cons (.inl hn) (.cons (by decide) (.cons (by decide) (.cons (by lia) .nil))))))) λu0 u0=>rfl
  exact hd▸this
def Ix.ok:Ix→Prop
 | .c n=>0≤n∧n<3
 | _=>True
def Pl.ok:Pl→Prop
 | .a k=>k.ok
 | _=>True
def Ca8:Option Pl→Prop
 | some p=>p.ok
 | none=>True
def Bb3 (p:Option Pl)(v:Vl):Prop:=match At1 p,v with
 | true,.i=>True
 | true,.j=>True
 | true,.c n=>0≤n∧n<3
 | false,.sum q _=>q.ok
 | _,_=>False
theorem re0 {v:SV}(h:∀ρ,svR ρ v=v):∀ρ,Fix 1 ρ→svR ρ v=v:=λρ u0=>h ρ
theorem Af1 (p:Option Pl):∀ρ,svR ρ (Ac0 p)=Ac0 p:=λρ=>by
 cases p with
 | none=>rfl
 | some p=>cases p with
  | a k=>cases k<;>rfl
  | _=>rfl
theorem Al0 (v:Vl):∀ρ,svR ρ v.law=v.law:=λρ=>by
 cases v with
 | sum p n=>have:=Af1 (some p) ρ;show SV.tup [svR ρ p.law,_]=SV.tup [p.law,_];refine (show svR ρ p.law=p.law from this).symm▸?_;rfl
 | _=>rfl
theorem ar1 (v:SV)(h:∀ρ,svR ρ v=v):∀ρ,Fix 1 ρ→svRs ρ [v] = [v]:=λρ u0=>by show [svR ρ v]=_;rw [h]
theorem Cg7 (k d:Nat)(hk:k<3):Ca8 (plOf k d):=by
 by_cases h:d<7
 ·exact n7E h trivial trivial trivial trivial trivial trivial (show 0≤(k:Int)∧(k:Int)<3 from ⟨Int.natCast_nonneg k,Int.ofNat_lt.mpr hk⟩)
 ·exact (Nat.exists_eq_add_of_le' (Nat.not_lt.mp h)).elim λe q=>q▸trivial
theorem Ak0 (B:B4 w g0)(may:Bool)(a b:Int):∃(p:Option Pl) (a' b':Int),Ca8 p∧(may=false→∃q,p=some q)∧Dr w g0 57 905 [.bool may] a b (Ac0 p) a' b':=by
 refine Ai5 (Am1 B a b 3 (by decide) (by decide)) λk a1 b1 hk d1=>?_
 cases may with
 | true=>
  obtain ⟨d,a2,b2,hd,d2⟩:=Am1 B a1 b1 8 (by decide) (by decide)
  have hd:d<8:=by omega
  refine ⟨plOf k d,a2,b2,Cg7 k d (by omega),nofun,?_⟩
  exact Bz5 (M:=24) (d:=8) B Aa5 rfl (Bx7 (TM w g0 25 25) a b a1 b1 a2 b2 k d hd) (.cons d1 (.cons (d2.x (ar1 _ λu0=>rfl) (re0 λu0=>rfl) (exP k true)) .nil)) (re0 (Af1 _))
 | false=>
  obtain ⟨d,a2,b2,hd,d2⟩:=Am1 B a1 b1 7 (by decide) (by decide)
  have hd:d<7:=by omega
  refine ⟨plOf k d,a2,b2,Cg7 k d (by omega),λu0=>?_,?_⟩
  ·exact n7E hd ⟨_,rfl⟩ ⟨_,rfl⟩ ⟨_,rfl⟩ ⟨_,rfl⟩ ⟨_,rfl⟩ ⟨_,rfl⟩ ⟨_,rfl⟩
  ·exact Bz5 (M:=24) (d:=8) B Aa5 rfl (Bx8 (TM w g0 25 25) a b a1 b1 a2 b2 k d hd) (.cons d1 (.cons (d2.x (ar1 _ λu0=>rfl) (re0 λu0=>rfl) (exP k false)) .nil)) (re0 (Af1 _))
theorem Dl1 (p:Option Pl)(hp:At1 p=true)(d:Nat):Bb3 p (vlOf d):=by
 unfold Bb3
 refine hp▸?_
 match d with
 | 0=>trivial
 | 1=>trivial
 | 2=>exact ⟨by decide,by decide⟩
 | 3=>exact ⟨by decide,by decide⟩
 | _+4=>exact ⟨by decide,by decide⟩
theorem Bv9 (B:B4 w g0)(p:Option Pl)(a b:Int):∃(v:Vl) (a' b':Int),Bb3 p v∧Dr w g0 89 912 [Ac0 p] a b v.law a' b':=by
 cases hp:At1 p with
 | true=>
  refine Ai5 (Am1 B a b 5 (by decide) (by decide)) λd a1 b1 hd d1=>?_
  have hd:d<5:=by lia
  exact ⟨vlOf d,a1,b1,Dl1 p hp d,Bz5 (M:=56) (d:=8) B Aa5 rfl (Cs5 (TM w g0 57 57) a b a1 b1 p hp d hd) (.cons ((d1.x (ar1 _ λu0=>rfl) (re0 λu0=>rfl) exV).mono (by decide)) .nil) (re0 (Al0 _))⟩
 | false=>
  refine Az1 (Ak0 B false a b) λq a1 b1 hq hs d1=>?_
  obtain ⟨q,rfl⟩:=hs rfl
  refine Ai5 (Am1 B a1 b1 9 (by decide) (by decide)) λc a2 b2 hc d2=>?_
  refine ⟨.sum q c,a2,b2,by unfold Bb3;simp only [hp];exact hq,?_⟩
  exact Bz5 (M:=56) (d:=8) B Aa5 rfl (Cs4 (TM w g0 57 57) a b a1 b1 a2 b2 c p hp (Ac0 (some q))) (.cons (d1.x (ar1 _ λu0=>rfl) (re0 (Af1 _)) _) (.cons ((d2.x (ar1 _ λu0=>rfl) (re0 λu0=>rfl) _).mono (by decide)) .nil)) (re0 (Al0 (.sum q c)))
end
inductive Row where
 | upd (p:Pl) (v:Vl)
 | set1 (p1:Option Pl) (v1:Vl)
 | set2 (p1 p2:Option Pl) (v1 v2:Vl)
 | set3 (p1 p2 p3:Option Pl) (v1 v2 v3:Vl)
noncomputable def Row.word:Row→Str
 | .upd _ _=>"update"
 | _=>"set"
noncomputable def Row.pl:Row→List (Option Pl)
 | .upd p _=>[some p]
 | .set1 p _=>[p]
 | .set2 p q _ _=>[p,q]
 | .set3 p q r _ _ _=>[p,q,r]
noncomputable def Row.vl:Row→List Vl
 | .upd _ v=>[v]
 | .set1 _ v=>[v]
 | .set2 _ _ v u=>[v,u]
 | .set3 _ _ _ v u t=>[v,u,t]
def Row.ok:Row→Prop
 | .upd p v=>At1 (some p)=false∧p.ok∧Bb3 (some p) v
 | .set1 p v=>Ca8 p∧Bb3 p v
 | .set2 p q v u=>Ca8 p∧Bb3 p v∧Ca8 q∧Bb3 q u
 | .set3 p q r v u t=>Ca8 p∧Bb3 p v∧Ca8 q∧Bb3 q u∧Ca8 r∧Bb3 r t
def psO (r:Row):A0:=.list (r.pl.map Ac0).reverse r.pl.length
def vsO (r:Row):A0:=.list (r.vl.map Vl.law).reverse r.vl.length
theorem Dh4 {α:Type}{f:α→SV}(h:∀a ρ,svR ρ (f a)=f a)(l:List α):∀ρ,svRs ρ ((l.map f).reverse)=(l.map f).reverse:=λρ=>by
 simp only [Ac5]
 congr 1
 induction l with
 | nil=>rfl
 | cons a l ih=>show svR ρ (f a)::svRs ρ (l.map f)=_;simp only [h,ih];rfl
theorem Av2 (r:Row)(ρ:Nat→Nat):svRs ρ (r.pl.map Ac0).reverse=(r.pl.map Ac0).reverse:=Dh4 (λa=>Af1 a) _ ρ
theorem Au3 (r:Row)(ρ:Nat→Nat):svRs ρ (r.vl.map Vl.law).reverse=(r.vl.map Vl.law).reverse:=Dh4 (λa=>Al0 a) _ ρ
section
variable {w:World}{g0:Heap}{M N:Nat}
theorem Br3 {a b a' b':Int}{r:Row}{k:Nat}{ex:List A0}{js:List Nat}{v:SV}(C:CK w g0 M 943 [.loc 0] (hpS a b) v (hpS a' b'++ex))(hj:js = [0,k,k+1])(hk:1≤k)
  (hv:v = .tup [.str r.word,.loc k,.loc (k+1)])(h1:(hpS a' b'++ex)[k]?=some (psO r))(h2:(hpS a' b'++ex)[k+1]?=some (vsO r)):CK w g0 M 943 [.loc 0] (hpS a b) (.tup [.str r.word,.loc 1,.loc 2]) (hpS a' b'++[psO r,vsO r]):=by
 subst hj hv
 refine C.forget (js:=[0,k,k+1]) (ks:=[k,k+1]) rfl ?_ ⟨⟨_,rfl,A3 rfl (Nat.le_refl _)⟩,⟨_,h1,A3 (Av2 r _) (by simp)⟩,⟨_,h2,A3 (Au3 r _) (by simp)⟩,trivial⟩ ?_ rfl
 ·exact Av5 (by simp;lia)
 ·intro j hj
  rcases List.mem_cons.mp hj with e | e
  ·rw [e];exact hk
  ·rw [List.mem_singleton.mp e];exact Nat.le_add_left 1 k
theorem Cc5 (d:Nat):At1 (some (Ca7 d))=false∧(Ca7 d).ok:=by
 unfold Ca7
 split<;>exact ⟨rfl,trivial⟩
theorem row_c (B:B4 w g0)(a b:Int):∃(r:Row) (a' b':Int),r.ok∧CK w g0 121 943 [.loc 0] (hpS a b) (.tup [.str r.word,.loc 1,.loc 2]) (hpS a' b'++[psO r,vsO r]):=by
 have I (x:Int):∀ρ,Fix 1 ρ→svRs ρ [.int x] = [.int x]:=ar1 _ λu0=>rfl
 have Bo (x:Bool):∀ρ,Fix 1 ρ→svRs ρ [.bool x] = [.bool x]:=ar1 _ λu0=>rfl
 have L (p:Option Pl):∀ρ,Fix 1 ρ→svRs ρ [Ac0 p] = [Ac0 p]:=ar1 _ (Af1 p)
 have V (x:Int):∀ρ,Fix 1 ρ→svR ρ (.int x) = .int x:=λu0 u0=>rfl
 have P (p:Option Pl):∀ρ,Fix 1 ρ→svR ρ (Ac0 p)=Ac0 p:=re0 (Af1 p)
 have U (v:Vl):∀ρ,Fix 1 ρ→svR ρ v.law=v.law:=re0 (Al0 v)
 refine Ai5 (Am1 B a b 4 (by decide) (by decide)) λt a1 b1 ht d1=>?_
 cases t with
 | zero=>
  refine Ai5 (Am1 B a1 b1 4 (by decide) (by decide)) λd a2 b2 hd d2=>?_
  have hd:d<4:=by lia
  refine Az1 (Ak0 B false a2 b2) λq a3 b3 hq hs d3=>?_
  obtain ⟨q,rfl⟩:=hs rfl
  refine Ai5 (Am1 B a3 b3 9 (by decide) (by decide)) λc a4 b4 hc d4=>?_
  refine ⟨.upd (Ca7 d) (.sum q c),a4,b4,⟨(Cc5 d).1,(Cc5 d).2,by unfold Bb3;exact ((Cc5 d).1)▸hq⟩,?_⟩
  refine oEA (Aa0 (Cv0 (TM w g0 89 89) a b a1 b1 a2 b2 a3 b3 a4 b4 c (Ac0 (some q)) d hd)) λst e1 e2=>?_
  have C:=Ad2 (M:=88) B Aa5 rfl e1 (.cons ((d1.x (I _) (V _) _).mono (by decide)) (.cons ((d2.x (I _) (V _) _).mono (by decide)) (.cons (CK.mono (by exact d3.x (Bo _) (P _) _) (by decide)) (.cons (CK.mono (by exact d4.x (I _) (V _) _) (by decide)) .nil))))
  have C5:=C.take (k:=5) (show 1≤5 by decide) e2 rfl (λρ f=>⟨A3 rfl (Nat.le_refl _),by show _=A0.cell (some (SV.loc (ρ 0)));rw [f 0 (by decide)],A3 rfl (by simp),A3 (Av2 (.upd (Ca7 d) (.sum q c)) ρ) (Nat.le_refl _),A3 (Au3 (.upd (Ca7 d) (.sum q c)) ρ) (Nat.le_refl _),trivial⟩)
   (λρ f=>by simp [svT,svL,svI,svS,svO,svN,svC,f 3 (by decide),f 4 (by decide)])
  exact Br3 (r:=.upd (Ca7 d) (.sum q c)) C5 rfl (by decide) rfl rfl rfl
 | succ t=>
  have ht':0<t+1∧t+1<4:=by lia
  refine Ai5 (Am1 B a1 b1 3 (by decide) (by decide)) λn a2 b2 hn d2=>?_
  match n,hn with
  | 0,_=>
   obtain ⟨p1,a3,b3,o1,_,e1⟩:=Ak0 B true a2 b2
   refine Ai5 (Bv9 B p1 a3 b3) λv1 a4 b4 u1 f1=>?_
   refine ⟨.set1 p1 v1,a4,b4,⟨o1,u1⟩,?_⟩
   refine oEA (Aa0 (Ce8 (TM w g0 89 89) a b a1 b1 a2 b2 a3 b3 a4 b4 (Ac0 p1) v1.law (t+1) ht')) λst r1 r2=>?_
   have C:=Ad2 (M:=88) B Aa5 rfl r1 (.cons ((d1.x (I _) (V _) _).mono (by decide)) (.cons ((d2.x (I _) (V _) _).mono (by decide)) (.cons ((e1.x (Bo _) (P _) _).mono (by decide)) (.cons (f1.x (L _) (U _) _) .nil))))
   have C4:=C.take (k:=4) (show 1≤4 by decide) r2 rfl (λρ f=>⟨A3 rfl (Nat.le_refl _),by show _=A0.cell (some (SV.loc (ρ 0)));rw [f 0 (by decide)],A3 (Av2 (.set1 p1 v1) ρ) (Nat.le_refl _),A3 (Au3 (.set1 p1 v1) ρ) (Nat.le_refl _),trivial⟩)
    (λρ f=>by simp [svT,svL,svI,svS,svO,svN,svC,f 2 (by decide),f 3 (by decide)])
   exact Br3 (r:=.set1 p1 v1) C4 rfl (by decide) rfl rfl rfl
  | 1,_=>
   obtain ⟨p1,a3,b3,o1,_,e1⟩:=Ak0 B true a2 b2
   refine Az1 (Ak0 B true a3 b3) λp2 a4 b4 o2 u0 e2=>?_
   refine Ai5 (Bv9 B p1 a4 b4) λv1 a5 b5 u1 f1=>?_
   refine Ai5 (Bv9 B p2 a5 b5) λv2 a6 b6 u2 f2=>?_
   refine ⟨.set2 p1 p2 v1 v2,a6,b6,⟨o1,u1,o2,u2⟩,?_⟩
   refine oEA (Aa0 (Ce7 (TM w g0 89 89) a b a1 b1 a2 b2 a3 b3 a4 b4 a5 b5 a6 b6 (Ac0 p1) (Ac0 p2) v1.law v2.law (t+1) ht')) λst r1 r2=>?_
   have C:=Ad2 (M:=88) B Aa5 rfl r1 (.cons ((d1.x (I _) (V _) _).mono (by decide)) (.cons ((d2.x (I _) (V _) _).mono (by decide)) (.cons ((e1.x (Bo _) (P _) _).mono (by decide)) (.cons ((e2.x (Bo _) (P _) _).mono (by decide)) (.cons (f1.x (L _) (U _) _) (.cons (f2.x (L _) (U _) _) .nil))))))
   have C4:=C.take (k:=4) (show 1≤4 by decide) r2 rfl (λρ f=>⟨A3 rfl (Nat.le_refl _),by show _=A0.cell (some (SV.loc (ρ 0)));rw [f 0 (by decide)],A3 (Av2 (.set2 p1 p2 v1 v2) ρ) (Nat.le_refl _),A3 (Au3 (.set2 p1 p2 v1 v2) ρ) (Nat.le_refl _),trivial⟩)
    (λρ f=>by simp [svT,svL,svI,svS,svO,svN,svC,f 2 (by decide),f 3 (by decide)])
   exact Br3 (r:=.set2 p1 p2 v1 v2) C4 rfl (by decide) rfl rfl rfl
  | 2,_=>
   obtain ⟨p1,a3,b3,o1,_,e1⟩:=Ak0 B true a2 b2
   refine Az1 (Ak0 B true a3 b3) λp2 a4 b4 o2 u0 e2=>?_
   refine Az1 (Ak0 B true a4 b4) λp3 a5 b5 o3 u0 e3=>?_
   refine Ai5 (Bv9 B p1 a5 b5) λv1 a6 b6 u1 f1=>?_
   refine Ai5 (Bv9 B p2 a6 b6) λv2 a7 b7 u2 f2=>?_
   refine Ai5 (Bv9 B p3 a7 b7) λv3 a8 b8 u3 f3=>?_
   refine ⟨.set3 p1 p2 p3 v1 v2 v3,a8,b8,⟨o1,u1,o2,u2,o3,u3⟩,?_⟩
   refine oEA (Aa0 (Ce6 (TM w g0 89 89) a b a1 b1 a2 b2 a3 b3 a4 b4 a5 b5 a6 b6 a7 b7 a8 b8 (Ac0 p1) (Ac0 p2) (Ac0 p3) v1.law v2.law v3.law (t+1) ht')) λst r1 r2=>?_
   have C4:=(Ad2 (M:=88) B Aa5 rfl r1 (.cons ((d1.x (I _) (V _) _).mono (by decide)) (.cons ((d2.x (I _) (V _) _).mono (by decide)) (.cons ((e1.x (Bo _) (P _) _).mono (by decide)) (.cons ((e2.x (Bo _) (P _) _).mono (by decide)) (.cons ((e3.x (Bo _) (P _) _).mono (by decide)) (.cons (f1.x (L _) (U _) _) (.cons (f2.x (L _) (U _) _) (.cons (f3.x (L _) (U _) _) .nil))))))))).take (k:=4) (show 1≤4 by decide) r2 rfl (λρ f=>⟨A3 rfl (Nat.le_refl _),by show _=A0.cell (some (SV.loc (ρ 0)));rw [f 0 (by decide)],A3 (Av2 (.set3 p1 p2 p3 v1 v2 v3) ρ) (Nat.le_refl _),A3 (Au3 (.set3 p1 p2 p3 v1 v2 v3) ρ) (Nat.le_refl _),trivial⟩)
    (λρ f=>by simp [svT,svL,svI,svS,svO,svN,svC,f 2 (by decide),f 3 (by decide)])
   exact Br3 (r:=.set3 p1 p2 p3 v1 v2 v3) C4 rfl (by decide) rfl rfl rfl
end
noncomputable def tgV (p:Option Pl)(o:SV):SV:=match p with
 | none=>.tup [.str "none"]
 | some .i=>.tup [.str "local",.int 0]
 | some .j=>.tup [.str "local",.int 1]
 | some .x=>.tup [.str "way",.tup [rg 2,.tup []]]
 | some .p=>.tup [.str "way",.tup [o,.tup []]]
 | some (.a _)=>.tup [.str "way",.tup [rg 5,.tup [.tup [.str "elem",o,B1]]]]
def tgO (p:Option Pl)(R:List SV):SV:=match p with
 | some .p=>rg (reg R)
 | some (.a k)=>ixO k R
 | _=>.none
def tgP (p:Option Pl)(R I:List SV):Pc:=match p with
 | some .p=>⟨ptrT::R,ins "move" (reg R) [rg 3]::I⟩
 | some (.a k)=>ixP k R I
 | _=>⟨R,I⟩
def A5:Option Pl→SV
 | none=>.none
 | some p=>p.tree
noncomputable def okT (b:Bool):Option Pl→Bool
 | some (.a _)=>b
 | _=>true
theorem Bw2 (b:Bool)(g:Int)(p:Option Pl)(hp:okT b p=true)(R I:List SV):leaves 17 ((Ae2 G0 T0 100 12).call (.glb 522) [.loc 0,A5 p] ⟨hpL b g R I 1000 1000,[],[]⟩) =
  some (tgV p (tgO p R),hpL b g (tgP p R I).R (tgP p R I).I (1000+((tgP p [] []).R.length)) (1000+(tgP p [] []).I.length),[]):=by
 cases p with
 | none=>cases b<;>kernel_rfl
 | some p=>
  cases p with
  | a k=>
   cases b with
   | false=>exact nomatch hp
   | true=>cases k<;>kernel_rfl
  | _=>cases b<;>kernel_rfl
def asP (p:Option Pl)(o v:SV)(R I:List SV):Pc:=match p with
 | none=>⟨R,I⟩
 | some .i=>⟨R,ins "move" 0 [v]::I⟩
 | some .j=>⟨R,ins "move" 1 [v]::I⟩
 | some .x=>⟨R,.tup [.str "store",rg 2,v]::I⟩
 | some .p=>⟨R,.tup [.str "store",o,v]::I⟩
 | some (.a _)=>⟨ptrT::R,.tup [.str "store",rg (reg R),v]::ins "elemptr" (reg R) [rg 5,o]::I⟩
theorem Ca4 (b:Bool)(g:Int)(p:Option Pl)(o v:SV)(R I:List SV):leaves 17 ((Ae2 G0 T0 100 12).call (.glb 529) [.loc 0,tgV p o,v] ⟨hpL b g R I 1000 1000,[],[]⟩) =
  some (.none,hpL b g (asP p o v R I).R (asP p o v R I).I (1000+((asP p o v [] []).R.length)) (1000+(asP p o v [] []).I.length),[]):=by
 cases p with
 | none=>cases b<;>kernel_rfl
 | some p=>cases p<;>cases b<;>kernel_rfl
inductive Op where
 | r (n:Int) | c (n:Int)
noncomputable def Op.sv:Op→SV
 | .r n=>rg n
 | .c n=>cop n
def kpP (o:Op)(R I:List SV):Pc:=match o with
 | .r n=>⟨B1::R,ins "move" (reg R) [rg n]::I⟩
 | .c _=>⟨R,I⟩
def kpO (o:Op)(R:List SV):Op:=match o with
 | .r _=>.r (reg R)
 | .c n=>.c n
theorem Cz3 (b:Bool)(g:Int)(o:Op)(R I:List SV):leaves 17 ((Ae2 G0 T0 100 12).call (.glb 294) [.loc 0,o.sv,B1] ⟨hpL b g R I 1000 1000,[],[]⟩) =
  some ((kpO o R).sv,hpL b g (kpP o R I).R (kpP o R I).I (1000+((kpP o [] []).R.length)) (1000+(kpP o [] []).I.length),[]):=by
 cases o<;>cases b<;>kernel_rfl
def vaP (p:Pl)(o:SV)(R I:List SV):Pc:=match p with
 | .x=>⟨B1::R,ins "load" (reg R) [rg 2]::I⟩
 | .p=>⟨B1::R,ins "load" (reg R) [o]::I⟩
 | .a _=>⟨B1::ptrT::R,ins "load" (reg (ptrT::R)) [rg (reg R)]::ins "elemptr" (reg R) [rg 5,o]::I⟩
 | _=>⟨R,I⟩
def vaO (p:Pl)(R:List SV):SV:=match p with
 | .i=>rg 0
 | .j=>rg 1
 | .a _=>rg (reg (ptrT::R))
 | _=>rg (reg R)
theorem Bk9 (b:Bool)(g:Int)(p:Pl)(o:SV)(R I:List SV):leaves 17 ((Ae2 G0 T0 100 12).call (.glb 543) [.loc 0,tgV (some p) o,B1] ⟨hpL b g R I 1000 1000,[],[]⟩) =
  some (vaO p R,hpL b g (vaP p o R I).R (vaP p o R I).I (1000+((vaP p o [] []).R.length)) (1000+(vaP p o [] []).I.length),[]):=by
 cases p<;>cases b<;>kernel_rfl
noncomputable abbrev eT (h:SV)(r:List SV):SV:=.tup (h::B1::r)
abbrev cl0:A0:=.cell (some (.loc 0))
abbrev hpl (b:Bool)(g:Int)(P:Pc):List A0:=hpL b g P.R P.I 1000 1000
noncomputable abbrev setS (ps es:List SV):SV:=.tup [.str "set",.int 0,.tup ps,.tup es]
noncomputable abbrev Dl4 (p e:SV):SV:=.tup [.str "update",.int 0,.str "+",p,e]
abbrev Gs:Top:=topG [522,529,554,294,561,543] false false
def oKl (b:Bool)(g:Int)(ex:List A0)(v:SV)(P:Pc)(new:List A0):Orc:=.call v λu0=>hpl b g P++(ex++new)
def oP (T:A7)(b:Bool)(g:Int)(ex:List A0)(f:Addr)(args:List SV)(P:Pc)(v:SV)(Q:Pc)(new:List A0):Prop:=T.ok f args (hpl b g P++ex) v (hpl b g Q++(ex++new))
theorem Cu5 (T:A7)(b:Bool)(g:Int)(p e t o:SV)(P0 P1 P2 P3:Pc):
  leaves 17 ((Ae2 Gs T 60 8).call (.glb 726) [.loc 0,setS [p] [e]] ⟨hpl b g P0,[],[oKl b g [cl0] t P1 [],oKl b g [cl0,.list [t] 1,cl0] (.loc 20) P2 [.list [o] 1],oKl b g [cl0,.list [t] 1,cl0,.list [o] 1] .none P3 []]⟩) =
  some (.none,hpl b g P3,[oP T b g [cl0] 522 [.loc 0,p] P0 t P1 [],oP T b g [cl0,.list [t] 1,cl0] 561 [.loc 0,e] P1 (.loc 20) P2 [.list [o] 1],oP T b g [cl0,.list [t] 1,cl0,.list [o] 1] 529 [.loc 0,t,o] P2 .none P3 []]):=by
 cases b<;>kernel_rfl
theorem Cu4 (T:A7)(b:Bool)(g:Int)(p1 p2 h1 h2 t1 t2 o1 o2 k1 k2:SV)(r1 r2:List SV)(P0 P1 P2 P3 P4 P5 P6 P7 P8:Pc):
  let ts:List A0:=[cl0,.list [t2,t1] 2,cl0]
  let os:List A0:=[cl0,.list [t2,t1] 2,cl0,.list [k2,k1] 2]
  leaves 17 ((Ae2 Gs T 60 8).call (.glb 726) [.loc 0,setS [p1,p2] [eT h1 r1,eT h2 r2]] ⟨hpl b g P0,[],[oKl b g [cl0] t1 P1 [],oKl b g [cl0] t2 P2 [],
   oKl b g ts o1 P3 [],oKl b g ts k1 P4 [],oKl b g ts o2 P5 [],oKl b g ts k2 P6 [],oKl b g os .none P7 [],oKl b g os .none P8 []]⟩) =
  some (.none,hpl b g P8,[oP T b g [cl0] 522 [.loc 0,p1] P0 t1 P1 [],oP T b g [cl0] 522 [.loc 0,p2] P1 t2 P2 [],
   oP T b g ts 554 [.loc 0,eT h1 r1] P2 o1 P3 [],oP T b g ts 294 [.loc 0,o1,B1] P3 k1 P4 [],oP T b g ts 554 [.loc 0,eT h2 r2] P4 o2 P5 [],oP T b g ts 294 [.loc 0,o2,B1] P5 k2 P6 [],
   oP T b g os 529 [.loc 0,t1,k1] P6 .none P7 [],oP T b g os 529 [.loc 0,t2,k2] P7 .none P8 []]):=by
 cases b<;>kernel_rfl
theorem Cu3 (T:A7)(b:Bool)(g:Int)(p1 p2 p3 h1 h2 h3 t1 t2 t3 o1 o2 o3 k1 k2 k3:SV)(r1 r2 r3:List SV)(P0 P1 P2 P3 P4 P5 P6 P7 P8 P9 P10 P11 P12:Pc):
  let ts:List A0:=[cl0,.list [t3,t2,t1] 3,cl0]
  let os:List A0:=[cl0,.list [t3,t2,t1] 3,cl0,.list [k3,k2,k1] 3]
  leaves 17 ((Ae2 Gs T 60 8).call (.glb 726) [.loc 0,setS [p1,p2,p3] [eT h1 r1,eT h2 r2,eT h3 r3]] ⟨hpl b g P0,[],[oKl b g [cl0] t1 P1 [],oKl b g [cl0] t2 P2 [],oKl b g [cl0] t3 P3 [],
   oKl b g ts o1 P4 [],oKl b g ts k1 P5 [],oKl b g ts o2 P6 [],oKl b g ts k2 P7 [],oKl b g ts o3 P8 [],oKl b g ts k3 P9 [],oKl b g os .none P10 [],oKl b g os .none P11 [],oKl b g os .none P12 []]⟩) =
  some (.none,hpl b g P12,[oP T b g [cl0] 522 [.loc 0,p1] P0 t1 P1 [],oP T b g [cl0] 522 [.loc 0,p2] P1 t2 P2 [],oP T b g [cl0] 522 [.loc 0,p3] P2 t3 P3 [],
   oP T b g ts 554 [.loc 0,eT h1 r1] P3 o1 P4 [],oP T b g ts 294 [.loc 0,o1,B1] P4 k1 P5 [],oP T b g ts 554 [.loc 0,eT h2 r2] P5 o2 P6 [],oP T b g ts 294 [.loc 0,o2,B1] P6 k2 P7 [],
   oP T b g ts 554 [.loc 0,eT h3 r3] P7 o3 P8 [],oP T b g ts 294 [.loc 0,o3,B1] P8 k3 P9 [],
   oP T b g os 529 [.loc 0,t1,k1] P9 .none P10 [],oP T b g os 529 [.loc 0,t2,k2] P10 .none P11 [],oP T b g os 529 [.loc 0,t3,k3] P11 .none P12 []]):=by
 cases b<;>kernel_rfl
theorem Dl3 (T:A7)(b:Bool)(g:Int)(h e t v o:SV)(r:List SV)(P0 P1 P2 P3 P4:Pc):
  let P3':Pc:=⟨B1::P3.R,ins "binary" (reg P3.R) [.str "+",v,o,B1]::P3.I⟩
  leaves 17 ((Ae2 Gs T 60 8).call (.glb 726) [.loc 0,Dl4 (eT h r) e] ⟨hpl b g P0,[],[oKl b g [] t P1 [],oKl b g [] v P2 [],oKl b g [] o P3 [],oKl b g [] .none P4 []]⟩) =
  some (.none,hpl b g P4,[oP T b g [] 522 [.loc 0,eT h r] P0 t P1 [],oP T b g [] 543 [.loc 0,t,B1] P1 v P2 [],oP T b g [] 554 [.loc 0,e] P2 o P3 [],
   T.ok 529 [.loc 0,t,rg (reg P3.R)] (hpL b g P3'.R P3'.I 1001 1001++[]) .none (hpl b g P4++([]++[]))]):=by
 cases b<;>kernel_rfl
def hpI (b:Bool)(g:Int)(hd:List (SV×SV))(R I:List SV)(n m:Nat):List A0:=set (hpL b g R I n m) 7 (.dict hd)
noncomputable abbrev letS (ks:List SV)(es:List SV):SV:=.tup [.str "let",.int 0,.tup ks,.tup es]
noncomputable abbrev let1:SV:=letS [.int 0,.int 1,.int 2] [cst 0,cst 2,cst 9]
noncomputable abbrev let2:SV:=letS [.int 3] [.tup [.str "address",ptrT,.int 0,locE B1 2]]
noncomputable abbrev let3:SV:=letS [.int 4] [.tup [.str "row",Cp9,.int 0,.int 3,.tup [.tup [.int 0,cst 5],.tup [.int 1,cst 6],.tup [.int 2,cst 7]]]]
noncomputable abbrev shown:SV:=.tup [.str "do",.int 0,.tup [.str "builtin",.tup [.str "tuple",.tup []],.int 0,.str "print",.tup [locE B1 0,locE B1 1,locE B1 2,idxE (cst 0),idxE (cst 1),idxE (cst 2)]]]
noncomputable abbrev hd1:List (SV×SV):=[(.int 0,.int 0),(.int 1,.int 1),(.int 2,.int 2)]
noncomputable abbrev hd2:List (SV×SV):=[(.int 0,.int 0),(.int 1,.int 1),(.int 2,.int 2),(.int 3,.int 3)]
noncomputable abbrev hd3:List (SV×SV):=[(.int 0,.int 0),(.int 1,.int 1),(.int 2,.int 2),(.int 3,.int 3),(.int 4,.int 5)]
noncomputable def I1:List SV:=[.tup [.str "store",rg 2,cop 9],ins "new" 2 [B1,.tup [.str "main.f",.int 1]],ins "move" 1 [cop 2],ins "move" 0 [cop 0]]
noncomputable def R1:List SV:=[ptrT,B1,B1]
def I2:List SV:=ins "move" 3 [rg 2]::I1
def R2:List SV:=ptrT::R1
def I3:Bool→List SV
 | true=>.tup [.str "store",rg 5,rg 4]::ins "new" 5 [Cp9,.tup [.str "main.f",.int 2]]::ins "array" 4 [.tup [cop 5,cop 6,cop 7]]::I2
 | false=>ins "move" 5 [rg 4]::ins "array" 4 [.tup [cop 5,cop 6,cop 7]]::I2
def R3:Bool→List SV
 | true=>.tup [.str "ptr",Cp9]::Cp9::R2
 | false=>Cp9::Cp9::R2
noncomputable def g3:Bool→Int
 | true=>2
 | false=>1
theorem Cy6 (b:Bool):leaves 17 ((Ae2 G0 T0 100 20).call (.glb 726) [.loc 0,let1] ⟨hpI b 0 [] [] [] 1000 1000,[],[]⟩)=some (.none,hpI b 1 hd1 R1 I1 1003 1004,[]):=by
 cases b<;>kernel_rfl
theorem Cy5 (b:Bool):leaves 17 ((Ae2 G0 T0 100 20).call (.glb 726) [.loc 0,let2] ⟨hpI b 1 hd1 R1 I1 1000 1000,[],[]⟩)=some (.none,hpI b 1 hd2 R2 I2 1001 1001,[]):=by
 cases b<;>kernel_rfl
theorem Cy4 (b:Bool):leaves 17 ((Ae2 G0 T0 100 20).call (.glb 726) [.loc 0,let3] ⟨hpI b 1 hd2 R2 I2 1000 1000,[],[]⟩)=some (.none,hpI b (g3 b) hd3 (R3 b) (I3 b) 1002 (match b with | true=>1003 | false=>1002),[]):=by
 cases b<;>kernel_rfl
def shP (b:Bool)(P:Pc):Pc:=
 let A:=rdP b .x P.R P.I
 let B:=rdP b (.a (.c 0)) A.R A.I
 let C:=rdP b (.a (.c 1)) B.R B.I
 let D:=rdP b (.a (.c 2)) C.R C.I
 ⟨D.R,.tup [.str "print",.tup [rg 0,rg 1,rdO b .x P.R,rdO b (.a (.c 0)) A.R,rdO b (.a (.c 1)) B.R,rdO b (.a (.c 2)) C.R],.tup [B1,B1,B1,B1,B1,B1]]::D.I⟩
theorem Cd7 (b:Bool)(g:Int)(P:Pc):leaves 17 ((Ae2 G0 T0 250 20).call (.glb 726) [.loc 0,shown] ⟨hpl b g P,[],[]⟩) =
  some (.none,hpL b g (shP b P).R (shP b P).I (1000+(shP b ⟨[],[]⟩).R.length) (1000+(shP b ⟨[],[]⟩).I.length),[]):=by
 cases b<;>kernel_rfl
theorem Cs8 (p:Option Pl):leaves 0 ((Ae2 G0 T0 60 8).call (.glb 898) [Ac0 p] ⟨[],[],[]⟩)=some (A5 p,[],[]):=by
 cases p with
 | none=>kernel_rfl
 | some p=>
  cases p with
  | a k=>cases k<;>kernel_rfl
  | _=>kernel_rfl
theorem e_run (v:Vl):leaves 0 ((Ae2 G0 T0 60 8).call (.glb 919) [v.law] ⟨[],[],[]⟩)=some (v.tree,[],[]):=by
 cases v with
 | sum p n=>
  cases p with
  | a k=>cases k<;>kernel_rfl
  | _=>kernel_rfl
 | _=>kernel_rfl
abbrev Gt:Top:=topG [898,919] false false
noncomputable abbrev rowV (word:Str):SV:=.tup [.str word,.loc 0,.loc 1]
noncomputable def okS (T:A7)(f:Addr)(hp:List A0):List SV→List SV→List Prop
 | a::as,v::vs=>T.ok f [a] hp v hp::okS T f hp as vs
 | _,_=>[]
noncomputable abbrev Bt4 (ps vs:List SV):List A0:=[.list ps.reverse ps.length,.list vs.reverse vs.length]
def Bf5 (T:A7)(word:Str)(ps vs ps' vs':List SV):Option (SV×List A0×List Prop):=
 leaves 2 ((Ae2 Gt T 60 8).call (.glb 948) [rowV word] ⟨Bt4 ps vs,[],(ps'++vs').map λv=>Orc.call v λhp=>hp⟩)
theorem stm_u (T:A7)(p v p' v':SV):Bf5 T "update" [p] [v] [p'] [v']=some (Dl4 p' v',Bt4 [p] [v],okS T 898 (Bt4 [p] [v]) [p] [p']++okS T 919 (Bt4 [p] [v]) [v] [v']):=by kernel_rfl
theorem stm_1 (T:A7)(p v p' v':SV):Bf5 T "set" [p] [v] [p'] [v']=some (setS [p'] [v'],Bt4 [p] [v],okS T 898 (Bt4 [p] [v]) [p] [p']++okS T 919 (Bt4 [p] [v]++[.list [p'] 1]) [v] [v']):=by kernel_rfl
theorem stm_2 (T:A7)(p1 p2 v1 v2 p1' p2' v1' v2':SV):Bf5 T "set" [p1,p2] [v1,v2] [p1',p2'] [v1',v2']=some (setS [p1',p2'] [v1',v2'],Bt4 [p1,p2] [v1,v2],okS T 898 (Bt4 [p1,p2] [v1,v2]) [p1,p2] [p1',p2']++okS T 919 (Bt4 [p1,p2] [v1,v2]++[.list [p2',p1'] 2]) [v1,v2] [v1',v2']):=by kernel_rfl
theorem stm_3 (T:A7)(p1 p2 p3 v1 v2 v3 p1' p2' p3' v1' v2' v3':SV):Bf5 T "set" [p1,p2,p3] [v1,v2,v3] [p1',p2',p3'] [v1',v2',v3']=some (setS [p1',p2',p3'] [v1',v2',v3'],Bt4 [p1,p2,p3] [v1,v2,v3],okS T 898 (Bt4 [p1,p2,p3] [v1,v2,v3]) [p1,p2,p3] [p1',p2',p3']++okS T 919 (Bt4 [p1,p2,p3] [v1,v2,v3]++[.list [p3',p2',p1'] 3]) [v1,v2,v3] [v1',v2',v3']):=by kernel_rfl
theorem Bw6:leaves 0 ((Ae2 G0 T0 60 8).call (.glb 953) [] ⟨[],[],[]⟩)=some (shown,[],[]):=by kernel_rfl
abbrev CMr:=MK→Option SV
noncomputable def atK (i j:Int):Pl→SV
 | .i=>.str "i"
 | .j=>.str "j"
 | .x=>.str "x"
 | .p=>.str "x"
 | .a .i=>.int i
 | .a .j=>.int j
 | .a (.c n)=>.int n
noncomputable def atA (i j:Int):Pl→List SV
 | .a .i=>[.int i]
 | .a .j=>[.int j]
 | _=>[]
noncomputable def atOb (m:CMr)(i j:Int):Pl→List Prop
 | .a .i=>[m (.s "i")=some (.int i)]
 | .a .j=>[m (.s "j")=some (.int j)]
 | _=>[]
theorem at_run (m:CMr)(i j:Int)(p:Pl):leaves 1 ((Ae2 G0 T0 60 8).call (.glb 926) [.loc 0,p.law] ⟨[.idict m 1000],[],(atA i j p).map .val⟩) =
  some (atK i j p,[.idict m 1000],atOb m i j p):=by
 cases p with
 | a k=>cases k<;>kernel_rfl
 | _=>kernel_rfl
abbrev Ga:Top:=topG [926] false false
noncomputable def keyOf:SV→MK
 | .str s=>.s s
 | .int i=>.i i
 | _=>.i 0
theorem Bv5 (T:A7)(m:CMr)(p:Pl)(k:MK)(n c:Int):leaves 1 ((Ae2 Ga T 60 8).call (.glb 933) [.loc 0,.tup [p.law,.int c]] ⟨[.idict m 1000],[],[.call (.key k) λhp=>hp,.val (.int n)]⟩) =
  some (.int (n+c),[.idict m 1000],[T.ok 926 [.loc 0,p.law] [.idict m 1000] (.key k) [.idict m 1000],m k=some (.int n)]):=by
 cases p with
 | a k=>cases k<;>kernel_rfl
 | _=>kernel_rfl
theorem Dk8 (m:CMr)(n:Int):leaves 1 ((Ae2 G0 T0 60 8).call (.glb 933) [.loc 0,Vl.i.law] ⟨[.idict m 1000],[],[.val (.int n)]⟩)=some (.int n,[.idict m 1000],[m (.s "i")=some (.int n)]):=by kernel_rfl
theorem Dk7 (m:CMr)(n:Int):leaves 1 ((Ae2 G0 T0 60 8).call (.glb 933) [.loc 0,Vl.j.law] ⟨[.idict m 1000],[],[.val (.int n)]⟩)=some (.int n,[.idict m 1000],[m (.s "j")=some (.int n)]):=by kernel_rfl
theorem Cr7 (m:CMr)(n:Int):leaves 1 ((Ae2 G0 T0 60 8).call (.glb 933) [.loc 0,(Vl.c n).law] ⟨[.idict m 1000],[],[]⟩)=some (.int n,[.idict m 1000],[]):=by kernel_rfl
abbrev Gd:Top:=topG [926,933] false false
noncomputable def okK:Option MK→SV
 | none=>.none
 | some k=>.key k
noncomputable def Cr1 (m:CMr)(k:Option MK)(v:SV):CMr:=match k with
 | none=>m
 | some k=>λj=>if j=k then some v else m j
noncomputable def putN (n:Nat):Option MK→Nat
 | none=>n
 | some _=>n+1
noncomputable abbrev rowD (word:Str):SV:=.tup [.str word,.loc 1,.loc 2]
noncomputable abbrev hpD (m:CMr)(n:Nat)(ps vs:List SV):List A0:=[.idict m n,.list ps.reverse ps.length,.list vs.reverse vs.length]
def Aw6 (T:A7)(word:Str)(m:CMr)(ps vs:List SV)(o:List Orc):Option (SV×List A0×List Prop):=
 leaves 3 ((Ae2 Gd T 80 8).call (.glb 938) [.loc 0,rowD word] ⟨hpD m 1000 ps vs,[],o⟩)
noncomputable def oKs:List (Option MK)→List Orc
 | []=>[]
 | none::l=>oKs l
 | some k::l=>idC (.key k)::oKs l
noncomputable abbrev Dg7:List A0:=[.cell (some (.loc 0))]
noncomputable def obK (T:A7)(hp:List A0):List SV→List (Option MK)→List Prop
 | p::ps,none::l=>obK T hp ps l
 | p::ps,some k::l=>T.ok 926 [.loc 0,p] hp (.key k) hp::obK T hp ps l
 | _,_=>[]
noncomputable def obW (T:A7)(hp:List A0):List SV→List Int→List Prop
 | v::vs,n::l=>T.ok 933 [.loc 0,v] hp (.int n) hp::obW T hp vs l
 | _,_=>[]
theorem done_u (T:A7)(m:CMr)(p:Pl)(v:SV)(k:MK)(n a:Int):Aw6 T "update" m [p.law] [v] [idC (.key k),idC (.int n),.val (.int a)] =
  some (.none,hpD (Cr1 m (some k) (.int (a+n))) 1001 [p.law] [v],obK T (hpD m 1000 [p.law] [v]++Dg7) [p.law] [some k]++obW T (hpD m 1000 [p.law] [v]++Dg7++[.list [.key k] 1]) [v] [n]++[m k=some (.int a)]):=by
 cases p with
 | a k=>cases k<;>kernel_rfl
 | _=>kernel_rfl
noncomputable def okPK:Option Pl→Option MK→Bool
 | none,none=>true
 | some _,some _=>true
 | _,_=>false
theorem done_1 (T:A7)(m:CMr)(p:Option Pl)(v:SV)(k:Option MK)(hk:okPK p k=true)(n:Int):Aw6 T "set" m [Ac0 p] [v] (oKs [k]++[idC (.int n)]) =
  some (.none,hpD (Cr1 m k (.int n)) (putN 1000 k) [Ac0 p] [v],obK T (hpD m 1000 [Ac0 p] [v]++Dg7) [Ac0 p] [k]++obW T (hpD m 1000 [Ac0 p] [v]++Dg7++[.list [okK k] 1]) [v] [n]):=by
 cases p with
 | none=>cases k with
  | none=>kernel_rfl
  | some k=>cases hk
 | some p=>cases k with
  | none=>exact B3 hk
  | some k=>
   cases p with
   | a k=>cases k<;>kernel_rfl
   | _=>kernel_rfl
inductive Pq where
 | n | s (x:Str) (k:MK) | t (l:List SV) (k:MK)
noncomputable def Pq.sv:Pq→SV
 | .n=>.none
 | .s x _=>.str x
 | .t l _=>.tup l
noncomputable def Pq.k:Pq→Option MK
 | .n=>none
 | .s _ k=>some k
 | .t _ k=>some k
theorem Cg0 (p:Option Pl)(k:Option MK)(h:okPK p k=true):∃q:Pq,q.sv=Ac0 p∧q.k=k:=by
 cases p with
 | none=>cases k with
  | none=>exact ⟨.n,rfl,rfl⟩
  | some k=>exact B3 h
 | some p=>cases k with
  | none=>exact B3 h
  | some k=>cases p with
   | a j=>exact ⟨.t _ k,rfl,rfl⟩
   | _=>exact ⟨.s _ k,rfl,rfl⟩
noncomputable def oNs (l:List Int):List Orc:=l.map λn=>idC (.int n)
def dL2 (T:A7)(m:CMr)(p1 p2:Pq)(v1 v2:SV)(n1 n2:Int):=Aw6 T "set" m [p1.sv,p2.sv] [v1,v2] (oKs [p1.k,p2.k]++oNs [n1,n2])
def dR2 (T:A7)(m:CMr)(p1 p2:Pq)(v1 v2:SV)(n1 n2:Int):=
  some (SV.none,hpD (Cr1 (Cr1 m p1.k (.int n1)) p2.k (.int n2)) (putN (putN 1000 p1.k) p2.k) [p1.sv,p2.sv] [v1,v2],obK T (hpD m 1000 [p1.sv,p2.sv] [v1,v2]++Dg7) [p1.sv,p2.sv] [p1.k,p2.k]++
   obW T (hpD m 1000 [p1.sv,p2.sv] [v1,v2]++Dg7++[.list [okK p2.k,okK p1.k] 2]) [v1,v2] [n1,n2])
theorem done_2 (T:A7)(m:CMr)(p1 p2:Pq)(v1 v2:SV)(n1 n2:Int):dL2 T m p1 p2 v1 v2 n1 n2=dR2 T m p1 p2 v1 v2 n1 n2:=by
 cases p1<;>cases p2<;>kernel_rfl
def dL3 (T:A7)(m:CMr)(p1 p2 p3:Pq)(v1 v2 v3:SV)(n1 n2 n3:Int):=Aw6 T "set" m [p1.sv,p2.sv,p3.sv] [v1,v2,v3] (oKs [p1.k,p2.k,p3.k]++oNs [n1,n2,n3])
def dR3 (T:A7)(m:CMr)(p1 p2 p3:Pq)(v1 v2 v3:SV)(n1 n2 n3:Int):=
  some (SV.none,hpD (Cr1 (Cr1 (Cr1 m p1.k (.int n1)) p2.k (.int n2)) p3.k (.int n3)) (putN (putN (putN 1000 p1.k) p2.k) p3.k) [p1.sv,p2.sv,p3.sv] [v1,v2,v3],obK T (hpD m 1000 [p1.sv,p2.sv,p3.sv] [v1,v2,v3]++Dg7) [p1.sv,p2.sv,p3.sv] [p1.k,p2.k,p3.k]++
   obW T (hpD m 1000 [p1.sv,p2.sv,p3.sv] [v1,v2,v3]++Dg7++[.list [okK p3.k,okK p2.k,okK p1.k] 3]) [v1,v2,v3] [n1,n2,n3])
theorem done_3 (T:A7)(m:CMr)(p1 p2 p3:Pq)(v1 v2 v3:SV)(n1 n2 n3:Int):dL3 T m p1 p2 p3 v1 v2 v3 n1 n2 n3=dR3 T m p1 p2 p3 v1 v2 v3 n1 n2 n3:=by
 cases p1<;>cases p2<;>cases p3<;>kernel_rfl
section
set_option tactic.hygienic true
structure Rk where
 i:Int
 j:Int
 x:Int
 a0:Int
 a1:Int
 a2:Int
inductive Ky where
 | i | j | x | e (k:Fin 3)
noncomputable def Ky.mk:Ky→MK
 | .i=>.s "i"
 | .j=>.s "j"
 | .x=>.s "x"
 | .e k=>.i (k:Int)
noncomputable def Rk.at (s:Rk):Ky→Int
 | .i=>s.i
 | .j=>s.j
 | .x=>s.x
 | .e 0=>s.a0
 | .e 1=>s.a1
 | .e 2=>s.a2
noncomputable def Rk.put (s:Rk)(v:Int):Ky→Rk
 | .i=>{s with i:=v}
 | .j=>{s with j:=v}
 | .x=>{s with x:=v}
 | .e 0=>{s with a0:=v}
 | .e 1=>{s with a1:=v}
 | .e 2=>{s with a2:=v}
noncomputable def mkM (s:Rk):CMr:=λk=>if k = .s "i" then some (.int s.i) else if k = .s "j" then some (.int s.j) else if k = .s "x" then some (.int s.x) else if k = .i 0 then some (.int s.a0) else if k = .i 1 then some (.int s.a1) else if k = .i 2 then some (.int s.a2) else none
noncomputable def kys:List MK:=[.s "i",.s "j",.s "x",.i 0,.i 1,.i 2]
theorem Ci8 (s:Rk)(k:Ky):mkM s k.mk=some (.int (s.at k)):=by
 match k with
 | .i=>rfl
 | .j=>rfl
 | .x=>rfl
 | .e 0=>rfl
 | .e 1=>rfl
 | .e 2=>rfl
theorem mkM_ks (s:Rk):∀k,mkM s k≠none→k∈kys:=λk h=>by
 unfold mkM at h
 repeat' (split at h)
 all_goals first | (rename_i e;simp only [e];decide) | exact absurd rfl h
theorem Ci7 (s:Rk)(v:Int)(k:Ky):Cr1 (mkM s) (some k.mk) (.int v)=mkM (s.put v k):=by
 funext q
 unfold Cr1 mkM
 have n1:(Str.ofString "j")≠Str.ofString "i":=by decide
 have n2:(Str.ofString "x")≠Str.ofString "i":=by decide
 have n3:(Str.ofString "x")≠Str.ofString "j":=by decide
 match k with
 | .i=>by_cases h:q = .s "i" <;> simp [Ky.mk,Rk.put,h,n1,n2,n3]
 | .j=>by_cases h:q = .s "j" <;> simp [Ky.mk,Rk.put,h,n1,n2,n3]
 | .x=>by_cases h:q = .s "x" <;> simp [Ky.mk,Rk.put,h,n1,n2,n3]
 | .e 0=>by_cases h:q = .i 0<;>simp [Ky.mk,Rk.put,h,n1,n2,n3]
 | .e 1=>by_cases h:q = .i 1<;>simp [Ky.mk,Rk.put,h,n1,n2,n3]
 | .e 2=>by_cases h:q = .i 2<;>simp [Ky.mk,Rk.put,h,n1,n2,n3]
noncomputable def fin3 (n:Int):Fin 3:=match n with
 | 0=>0
 | 1=>1
 | _=>2
def ok3 (n:Int):Prop:=n=0∨n=1∨n=2
theorem Bn7 {n:Int}(h:ok3 n):((fin3 n:Fin 3):Int)=n:=by
 rcases h with rfl | rfl | rfl<;>rfl
structure Rk.Ok (s:Rk):Prop where
 i:ok3 s.i
 j:ok3 s.j
noncomputable def Rk.ix (s:Rk):Ix→Int
 | .i=>s.i
 | .j=>s.j
 | .c n=>n
def Rk.ky (s:Rk):Pl→Ky
 | .i=>.i
 | .j=>.j
 | .x=>.x
 | .p=>.x
 | .a k=>.e (fin3 (s.ix k))
theorem Cj6 {s:Rk}(h:s.Ok){k:Ix}(hk:k.ok):ok3 (s.ix k):=by
 cases k with
 | i=>exact h.i
 | j=>exact h.j
 | c n=>
  have:0≤n∧n<3:=hk
  show ok3 n
  unfold ok3;lia
theorem ky_mk {s:Rk}(h:s.Ok){k:Ix}(hk:k.ok):(s.ky (.a k)).mk = .i (s.ix k):=by
 show MK.i _=_
 exact congrArg _ (Bn7 (Cj6 h hk))
def Rk.rd (s:Rk)(p:Pl):Int:=s.at (s.ky p)
def Rk.vl (s:Rk):Vl→Int
 | .i=>s.i
 | .j=>s.j
 | .c n=>n
 | .sum p n=>s.rd p+n
def Rk.kyo (s:Rk):Option Pl→Option Ky
 | none=>none
 | some p=>some (s.ky p)
def Rk.puto (s:Rk)(v:Int):Option Ky→Rk
 | none=>s
 | some k=>s.put v k
theorem Al3 (s:Rk)(v:Int)(k:Option Ky):Cr1 (mkM s) (k.map Ky.mk) (.int v)=mkM (s.puto v k):=by
 cases k with
 | none=>rfl
 | some k=>exact Ci7 s v k
def Rk.row (s:Rk):Row→Rk
 | .upd p v=>s.put (s.rd p+s.vl v) (s.ky p)
 | .set1 p v=>s.puto (s.vl v) (s.kyo p)
 | .set2 p q v u=>(s.puto (s.vl v) (s.kyo p)).puto (s.vl u) (s.kyo q)
 | .set3 p q r v u t=>((s.puto (s.vl v) (s.kyo p)).puto (s.vl u) (s.kyo q)).puto (s.vl t) (s.kyo r)
theorem Az2 {s:Rk}(h:s.Ok){p:Option Pl}{v:Vl}(hv:Bb3 p v)(hp:At1 p=true):ok3 (s.vl v):=by
 unfold Bb3 at hv
 replace hv:=hp▸hv
 cases v with
 | i=>exact h.i
 | j=>exact h.j
 | c n=>
  show ok3 n
  unfold ok3;lia
 | sum p n=>exact hv.elim
theorem Am9 {s t:Rk}(h:t.Ok){p:Option Pl}{n:Int}(hn:At1 p=true→ok3 n):(t.puto n (s.kyo p)).Ok:=by
 cases p with
 | none=>exact h
 | some p=>
  cases p with
  | i=>exact ⟨hn rfl,h.j⟩
  | j=>exact ⟨h.i,hn rfl⟩
  | x=>exact ⟨h.i,h.j⟩
  | p=>exact ⟨h.i,h.j⟩
  | a k=>
   show (t.put n (.e _)).Ok
   match fin3 (s.ix k) with
   | 0=>exact ⟨h.i,h.j⟩
   | 1=>exact ⟨h.i,h.j⟩
   | 2=>exact ⟨h.i,h.j⟩
theorem Dg6 {s:Rk}(h:s.Ok){r:Row}(hr:r.ok):(s.row r).Ok:=by
 cases r with
 | upd p v=>exact Am9 (s:=s) (t:=s) (p:=some p) h λq=>by replace q:=(hr.1).symm.trans q;exact B3 q
 | set1 p v=>exact Am9 h (Az2 h hr.2)
 | set2 p q v u=>exact Am9 (Am9 h (Az2 h hr.2.1)) (Az2 h hr.2.2.2)
 | set3 p q r v u t=>exact Am9 (Am9 (Am9 h (Az2 h hr.2.1)) (Az2 h hr.2.2.2.1)) (Az2 h hr.2.2.2.2.2)
end
inductive VV where
 | int (n:Int) | px | pa | pe (k:Int) | arr (a0 a1 a2:Int)
noncomputable def VV.sv:VV→SV
 | .int n=>.int n
 | .px=>.tup [.str "ptr",.int 1,.tup []]
 | .pa=>.tup [.str "ptr",.int 2,.tup []]
 | .pe k=>.tup [.str "ptr",.int 2,.tup [.int k]]
 | .arr a0 a1 a2=>.tup [.str "array",.tup [.int a0,.int a1,.int a2]]
abbrev CM:=MK→Option SV
noncomputable def Am2 (m:CM)(r:Int)(v:SV):CM:=λj=>if j = .i r then some v else m j
noncomputable def hpV (es:List (SV×SV))(mny lft:Int)(pr:List SV)(m:CM)(n:Nat):List A0:=[
 .dict [(.str "objects",.loc 1),(.str "many",.int mny),(.str "prints",.loc 2),(.str "left",.int lft),(.str "panics",.loc 3),(.str "frames",.int 1)],
 .dict es,.list pr 1000,.dict [],.dict [(.str "cells",.loc 5),(.str "defers",.loc 6),(.str "number",.int 1),(.str "above",.int 0)],.idict m n,.list [] 0]
noncomputable def ob1 (x:Int):List (SV×SV):=[(.int 1,.int x)]
noncomputable def ob2 (x a0 a1 a2:Int):List (SV×SV):=[(.int 1,.int x),(.int 2,.tup [.str "array",.tup [.int a0,.int a1,.int a2]])]
def Aa9 (es:List (SV×SV))(mny lft:Int)(pr:List SV)(m:CM)(row:SV)(o:List SV)(ex:List A0):Option (SV×List A0×List Prop):=
 leaves (7+ex.length) ((Ae2 G0 T0 160 12).call (.glb 1024) [.loc 0,.any,.loc 4,row] ⟨hpV es mny lft pr m 1000++ex,[],o.map .val⟩)
def Exs (ex:List A0):Prop:=6≤ex.length∧ex.length≤9
theorem exs {P:(ex:List A0)→Exs ex→Prop}(h6:∀a b c d e f h,P [a,b,c,d,e,f] h)(h7:∀a b c d e f g h,P [a,b,c,d,e,f,g] h)(h8:∀a b c d e f g i h,P [a,b,c,d,e,f,g,i] h)
  (h9:∀a b c d e f g i j h,P [a,b,c,d,e,f,g,i,j] h)(ex:List A0)(h:Exs ex):P ex h:=by
 rcases ex with _ | ⟨a,_ | ⟨b,_ | ⟨c,_ | ⟨d,_ | ⟨e,_ | ⟨f,_ | ⟨g,_ | ⟨i,_ | ⟨j,_ | ⟨k,l⟩⟩⟩⟩⟩⟩⟩⟩⟩⟩
 ·exact absurd h.1 (by simp)
 ·exact absurd h.1 (by simp)
 ·exact absurd h.1 (by simp)
 ·exact absurd h.1 (by simp)
 ·exact absurd h.1 (by simp)
 ·exact absurd h.1 (by simp)
 ·exact h6 ..
 ·exact h7 ..
 ·exact h8 ..
 ·exact h9 ..
 ·exact absurd h.2 (by simp)
def opO (o:SV)(v:VV):List SV:=match o with
 | .tup [_,.int _]=>[v.sv]
 | _=>[]
theorem move_r (es mny lft pr m)(r q:Int)(v:VV){ex:List A0}(hx:Exs ex):Aa9 es mny lft pr m (.tup [.str "move",.int r,.tup [.str "reg",.int q]]) [v.sv,v.sv] ex =
  some (.none,hpV es mny (lft-1) pr (Am2 m r v.sv) 1001++ex,[m (.i q)=some v.sv,Am2 m r v.sv (.i r)=some v.sv]):=by
 cases v<;>induction ex,hx using exs<;>kernel_rfl
theorem move_c (es mny lft pr m)(r n:Int){ex:List A0}(hx:Exs ex):Aa9 es mny lft pr m (.tup [.str "move",.int r,cop n]) [.int n] ex =
  some (.none,hpV es mny (lft-1) pr (Am2 m r (.int n)) 1001++ex,[Am2 m r (.int n) (.i r)=some (.int n)]):=by
 induction ex,hx using exs<;>kernel_rfl
theorem bin_rc (es mny lft pr m)(r q a n:Int){ex:List A0}(hx:Exs ex):Aa9 es mny lft pr m (ins "binary" r [.str "+",rg q,cop n,B1]) [.int a,.int (a+n)] ex =
  some (.none,hpV es mny (lft-1) pr (Am2 m r (.int (a+n))) 1001++ex,[m (.i q)=some (.int a),Am2 m r (.int (a+n)) (.i r)=some (.int (a+n))]):=by
 induction ex,hx using exs<;>kernel_rfl
theorem bin_rr (es mny lft pr m)(r q p a n:Int){ex:List A0}(hx:Exs ex):Aa9 es mny lft pr m (ins "binary" r [.str "+",rg q,rg p,B1]) [.int a,.int n,.int (a+n)] ex =
  some (.none,hpV es mny (lft-1) pr (Am2 m r (.int (a+n))) 1001++ex,[m (.i q)=some (.int a),m (.i p)=some (.int n),Am2 m r (.int (a+n)) (.i r)=some (.int (a+n))]):=by
 induction ex,hx using exs<;>kernel_rfl
theorem load_1 (mny lft pr m)(r q x:Int){ex:List A0}(hx:Exs ex):Aa9 (ob1 x) mny lft pr m (ins "load" r [rg q]) [VV.px.sv,.int x] ex =
  some (.none,hpV (ob1 x) mny (lft-1) pr (Am2 m r (.int x)) 1001++ex,[m (.i q)=some VV.px.sv,Am2 m r (.int x) (.i r)=some (.int x)]):=by
 induction ex,hx using exs<;>kernel_rfl
theorem load_x (mny lft pr m)(r q x a0 a1 a2:Int){ex:List A0}(hx:Exs ex):Aa9 (ob2 x a0 a1 a2) mny lft pr m (ins "load" r [rg q]) [VV.px.sv,.int x] ex =
  some (.none,hpV (ob2 x a0 a1 a2) mny (lft-1) pr (Am2 m r (.int x)) 1001++ex,[m (.i q)=some VV.px.sv,Am2 m r (.int x) (.i r)=some (.int x)]):=by
 induction ex,hx using exs<;>kernel_rfl
noncomputable def at3 (a0 a1 a2:Int):Fin 3→Int
 | 0=>a0
 | 1=>a1
 | 2=>a2
theorem load_a (mny lft pr m)(r q x a0 a1 a2:Int)(k:Fin 3){ex:List A0}(hx:Exs ex):Aa9 (ob2 x a0 a1 a2) mny lft pr m (ins "load" r [rg q]) [(VV.pe (k:Int)).sv,.int (at3 a0 a1 a2 k)] ex =
  some (.none,hpV (ob2 x a0 a1 a2) mny (lft-1) pr (Am2 m r (.int (at3 a0 a1 a2 k))) 1001++ex,[m (.i q)=some (VV.pe (k:Int)).sv,Am2 m r (.int (at3 a0 a1 a2 k)) (.i r)=some (.int (at3 a0 a1 a2 k))]):=by
 exact Bh9 k (by induction ex,hx using exs<;>kernel_rfl) (by induction ex,hx using exs<;>kernel_rfl) (by induction ex,hx using exs<;>kernel_rfl)
noncomputable def set3 (a0 a1 a2 v:Int):Fin 3→Int×Int×Int
 | 0=>(v,a1,a2)
 | 1=>(a0,v,a2)
 | 2=>(a0,a1,v)
abbrev ob3 (x:Int)(a:Int×Int×Int):List (SV×SV):=ob2 x a.1 a.2.1 a.2.2
noncomputable abbrev stS (q:Int)(v:SV):SV:=.tup [.str "store",rg q,v]
theorem Dn7 (mny lft pr m)(q p x v:Int){ex:List A0}(hx:Exs ex):Aa9 (ob1 x) mny lft pr m (stS q (rg p)) [VV.px.sv,.int v] ex =
  some (.none,hpV (ob1 v) mny (lft-1) pr m 1000++ex,[m (.i q)=some VV.px.sv,m (.i p)=some (.int v)]):=by
 induction ex,hx using exs<;>kernel_rfl
theorem Ct2 (mny lft pr m)(q x v:Int){ex:List A0}(hx:Exs ex):Aa9 (ob1 x) mny lft pr m (stS q (cop v)) [VV.px.sv] ex =
  some (.none,hpV (ob1 v) mny (lft-1) pr m 1000++ex,[m (.i q)=some VV.px.sv]):=by
 induction ex,hx using exs<;>kernel_rfl
theorem Dn5 (mny lft pr m)(q p x a0 a1 a2 v:Int){ex:List A0}(hx:Exs ex):Aa9 (ob2 x a0 a1 a2) mny lft pr m (stS q (rg p)) [VV.px.sv,.int v] ex =
  some (.none,hpV (ob2 v a0 a1 a2) mny (lft-1) pr m 1000++ex,[m (.i q)=some VV.px.sv,m (.i p)=some (.int v)]):=by
 induction ex,hx using exs<;>kernel_rfl
theorem Ct0 (mny lft pr m)(q x a0 a1 a2 v:Int){ex:List A0}(hx:Exs ex):Aa9 (ob2 x a0 a1 a2) mny lft pr m (stS q (cop v)) [VV.px.sv] ex =
  some (.none,hpV (ob2 v a0 a1 a2) mny (lft-1) pr m 1000++ex,[m (.i q)=some VV.px.sv]):=by
 induction ex,hx using exs<;>kernel_rfl
theorem Dn6 (mny lft pr m)(q p x a0 a1 a2 v:Int)(k:Fin 3){ex:List A0}(hx:Exs ex):Aa9 (ob2 x a0 a1 a2) mny lft pr m (stS q (rg p)) [(VV.pe (k:Int)).sv,.int v] ex =
  some (.none,hpV (ob3 x (set3 a0 a1 a2 v k)) mny (lft-1) pr m 1000++ex,[m (.i q)=some (VV.pe (k:Int)).sv,m (.i p)=some (.int v)]):=by
 exact Bh9 k (by induction ex,hx using exs<;>kernel_rfl) (by induction ex,hx using exs<;>kernel_rfl) (by induction ex,hx using exs<;>kernel_rfl)
theorem Ct1 (mny lft pr m)(q x a0 a1 a2 v:Int)(k:Fin 3){ex:List A0}(hx:Exs ex):Aa9 (ob2 x a0 a1 a2) mny lft pr m (stS q (cop v)) [(VV.pe (k:Int)).sv] ex =
  some (.none,hpV (ob3 x (set3 a0 a1 a2 v k)) mny (lft-1) pr m 1000++ex,[m (.i q)=some (VV.pe (k:Int)).sv]):=by
 exact Bh9 k (by induction ex,hx using exs<;>kernel_rfl) (by induction ex,hx using exs<;>kernel_rfl) (by induction ex,hx using exs<;>kernel_rfl)
theorem Cd0 (mny lft pr m)(q p x b0 b1 b2 a0 a1 a2:Int){ex:List A0}(hx:Exs ex):Aa9 (ob2 x b0 b1 b2) mny lft pr m (stS q (rg p)) [VV.pa.sv,(VV.arr a0 a1 a2).sv] ex =
  some (.none,hpV (ob2 x a0 a1 a2) mny (lft-1) pr m 1000++ex,[m (.i q)=some VV.pa.sv,m (.i p)=some (VV.arr a0 a1 a2).sv]):=by
 induction ex,hx using exs<;>kernel_rfl
theorem eptr_r (es mny lft pr m)(r q p k:Int){ex:List A0}(hx:Exs ex):Aa9 es mny lft pr m (ins "elemptr" r [rg q,rg p]) [VV.pa.sv,.int k,(VV.pe k).sv] ex =
  some (.none,hpV es mny (lft-1) pr (Am2 m r (VV.pe k).sv) 1001++ex,[m (.i q)=some VV.pa.sv,m (.i p)=some (.int k),Am2 m r (VV.pe k).sv (.i r)=some (VV.pe k).sv]):=by
 induction ex,hx using exs<;>kernel_rfl
theorem eptr_c (es mny lft pr m)(r q k:Int){ex:List A0}(hx:Exs ex):Aa9 es mny lft pr m (ins "elemptr" r [rg q,cop k]) [VV.pa.sv,(VV.pe k).sv] ex =
  some (.none,hpV es mny (lft-1) pr (Am2 m r (VV.pe k).sv) 1001++ex,[m (.i q)=some VV.pa.sv,Am2 m r (VV.pe k).sv (.i r)=some (VV.pe k).sv]):=by
 induction ex,hx using exs<;>kernel_rfl
theorem elem_r (es mny lft pr m)(r q p a0 a1 a2:Int)(k:Fin 3){ex:List A0}(hx:Exs ex):Aa9 es mny lft pr m (ins "elem" r [rg q,rg p]) [(VV.arr a0 a1 a2).sv,.int (k:Int),.int (at3 a0 a1 a2 k)] ex =
  some (.none,hpV es mny (lft-1) pr (Am2 m r (.int (at3 a0 a1 a2 k))) 1001++ex,[m (.i q)=some (VV.arr a0 a1 a2).sv,m (.i p)=some (.int (k:Int)),Am2 m r (.int (at3 a0 a1 a2 k)) (.i r)=some (.int (at3 a0 a1 a2 k))]):=by
 exact Bh9 k (by induction ex,hx using exs<;>kernel_rfl) (by induction ex,hx using exs<;>kernel_rfl) (by induction ex,hx using exs<;>kernel_rfl)
theorem elem_c (es mny lft pr m)(r q a0 a1 a2:Int)(k:Fin 3){ex:List A0}(hx:Exs ex):Aa9 es mny lft pr m (ins "elem" r [rg q,cop (k:Int)]) [(VV.arr a0 a1 a2).sv,.int (at3 a0 a1 a2 k)] ex =
  some (.none,hpV es mny (lft-1) pr (Am2 m r (.int (at3 a0 a1 a2 k))) 1001++ex,[m (.i q)=some (VV.arr a0 a1 a2).sv,Am2 m r (.int (at3 a0 a1 a2 k)) (.i r)=some (.int (at3 a0 a1 a2 k))]):=by
 exact Bh9 k (by induction ex,hx using exs<;>kernel_rfl) (by induction ex,hx using exs<;>kernel_rfl) (by induction ex,hx using exs<;>kernel_rfl)
theorem new_x (lft pr m)(r:Int)(s:SV){ex:List A0}(hx:Exs ex):Aa9 [] 0 lft pr m (ins "new" r [B1,.tup [.str "main.f",s]]) [VV.px.sv] ex =
  some (.none,hpV (ob1 0) 1 (lft-1) pr (Am2 m r VV.px.sv) 1001++ex,[Am2 m r VV.px.sv (.i r)=some VV.px.sv]):=by
 induction ex,hx using exs<;>kernel_rfl
theorem new_a (lft pr m)(r x:Int)(s:SV){ex:List A0}(hx:Exs ex):Aa9 (ob1 x) 1 lft pr m (ins "new" r [Cp9,.tup [.str "main.f",s]]) [VV.pa.sv] ex =
  some (.none,hpV (ob2 x 0 0 0) 2 (lft-1) pr (Am2 m r VV.pa.sv) 1001++ex,[Am2 m r VV.pa.sv (.i r)=some VV.pa.sv]):=by
 induction ex,hx using exs<;>kernel_rfl
theorem arr_c (es mny lft pr m)(r a b c:Int){ex:List A0}(hx:Exs ex):Aa9 es mny lft pr m (ins "array" r [.tup [cop a,cop b,cop c]]) [(VV.arr a b c).sv] ex =
  some (.none,hpV es mny (lft-1) pr (Am2 m r (VV.arr a b c).sv) 1001++ex,[Am2 m r (VV.arr a b c).sv (.i r)=some (VV.arr a b c).sv]):=by
 induction ex,hx using exs<;>kernel_rfl
def Ct5 (es:List (SV×SV))(mny lft:Int)(pr:List SV)(m:CM)(row:SV)(o:List SV)(ex:List A0):Option (SV×List A0×List Prop):=
 leaves (9+ex.length) ((Ae2 G0 T0 160 12).call (.glb 1024) [.loc 0,.any,.loc 4,row] ⟨hpV es mny lft pr m 1000++ex,[],o.map .val⟩)
noncomputable abbrev prS (o1 o2 o3 o4 o5 o6:Int)(t:SV):SV:=.tup [.str "print",.tup [rg o1,rg o2,rg o3,rg o4,rg o5,rg o6],t]
noncomputable abbrev shL (a b c d e f:Int):A0:=.list [.int f,.int e,.int d,.int c,.int b,.int a] 6
noncomputable def B6 (N:Nat):Nat→List SV
 | 0=>[]
 | k+1=>.loc (N+k)::B6 N k
theorem Cf9 (es mny lft m)(o1 o2 o3 o4 o5 o6 a b c d e f:Int)(t:SV){ex:List A0}(hx:Exs ex):Ct5 es mny lft (B6 13 (ex.length-6)) m (prS o1 o2 o3 o4 o5 o6 t) [.int a,.int b,.int c,.int d,.int e,.int f] ex =
  some (.none,set (hpV es mny (lft-1) [] m 1000) 2 (.list (.loc (8+ex.length)::B6 13 (ex.length-6)) 1001)++ex++[.cell (some (.loc 4)),shL a b c d e f],[m (.i o1)=some (.int a),m (.i o2)=some (.int b),m (.i o3)=some (.int c),m (.i o4)=some (.int d),m (.i o5)=some (.int e),m (.i o6)=some (.int f)]):=by
 induction ex,hx using exs<;>kernel_rfl
def forAt (t:Option Stmt)(i:Nat):Expr×List Stmt:=match at? (B0 t []).body i with
 | some (.For t _ b _ _)=>(t,b)
 | _=>(.Constant .none 0 ⟨0,0,0,0⟩,[])
def blC:EC:={names:=(B0 (st 139) []).scope.names,cells:=[("frame",12)],lam:=none}
def blT:Expr:=(forAt (st 139) 1).1
def blS:List Stmt:=(forAt (st 139) 1).2
noncomputable def hpC (I:List SV):List A0:=[.list I 1000,.list [.tup [.str "return",.tup []],.loc 7] 2,.list [.loc 8] 1,
 .ns [("key",.any),("params",.any),("registers",.any),("blocks",.loc 9),("captured",.any),("results",.any),("recovery",.none)],.inst 136 10]
structure Ms where
 es:List (SV×SV)
 mny:Int
 lft:Int
 pr:List SV
 m:CM
def Bn4 (s:Ms)(n:Nat):List A0:=hpV s.es s.mny s.lft s.pr s.m n
def hpB (s:Ms)(I:List SV)(tl:List A0):List A0:=Bn4 s 1000++hpC I++tl
noncomputable abbrev cF:A0:=.cell (some (.loc 4))
noncomputable def lcB:List (Str×SV):=[("room",.loc 0),("codes",.any),("code",.loc 11),("here",.int 0),("some",.loc 7),("end",.tup [.str "return",.tup []])]
def lcT (row:SV):List (Str×SV):=lcB++([("row",row),("told",.none)]:List (Str×SV))
abbrev Gb:Top:=topG [1024] false false
def loopB (hp:List A0)(lc:List (Str×SV)):Orc:=.loop blT.pos.line .next (λu0=>hp) λu0=>lc
def turnB (T:A7)(s s':Ms)(I:List SV)(tl tl':List A0)(row:SV)(lc lcE:List (Str×SV))(hpE:List A0)(i:Nat):Option (A8×St×List Prop):=
 (Bw7 Gb T 60 4).forL blC blT (.lst 7 i) blS ⟨hpB s I (cF::tl),lc,[.item row,.call .none (λu0=>hpB s' I (cF::tl')),loopB hpE lcE]⟩
theorem turn_0 (T:A7)(s s':Ms)(I:List SV)(tl tl':List A0)(row:SV)(lcE:List (Str×SV))(hpE:List A0)(i:Nat):turnB T s s' I tl tl' row lcB lcE hpE i =
  some (.next,⟨hpE,lcE,[]⟩,[I.reverse[i]?=some row,T.ok 1024 [.loc 0,.any,.loc 4,row] (hpB s I (cF::tl)) .none (hpB s' I (cF::tl')),T.forL blC blT (.lst 7 (i+1)) blS (hpB s' I (cF::tl')) (lcT row) .next hpE lcE]):=by kernel_rfl
theorem turn_1 (T:A7)(s s':Ms)(I:List SV)(tl tl':List A0)(row row0:SV)(lcE:List (Str×SV))(hpE:List A0)(i:Nat):turnB T s s' I tl tl' row (lcT row0) lcE hpE i =
  some (.next,⟨hpE,lcE,[]⟩,[I.reverse[i]?=some row,T.ok 1024 [.loc 0,.any,.loc 4,row] (hpB s I (cF::tl)) .none (hpB s' I (cF::tl')),T.forL blC blT (.lst 7 (i+1)) blS (hpB s' I (cF::tl')) (lcT row) .next hpE lcE]):=by kernel_rfl
theorem end_0 (T:A7)(s:Ms)(I:List SV)(tl:List A0)(i:Nat):(Bw7 Gb T 60 4).forL blC blT (.lst 7 i) blS ⟨hpB s I (cF::tl),lcB,[.fin]⟩=some (.next,⟨hpB s I (cF::tl),lcB,[]⟩,[I.reverse[i]?=none]):=by kernel_rfl
theorem end_1 (T:A7)(s:Ms)(I:List SV)(tl:List A0)(row:SV)(i:Nat):(Bw7 Gb T 60 4).forL blC blT (.lst 7 i) blS ⟨hpB s I (cF::tl),lcT row,[.fin]⟩=some (.next,⟨hpB s I (cF::tl),lcT row,[]⟩,[I.reverse[i]?=none]):=by kernel_rfl
noncomputable def dn (s:Ms):Ms:={s with lft:=s.lft-1}
def Ca0 (T:A7)(s s':Ms)(I:List SV)(tl:List A0)(row:SV):Option (SV×List A0×List Prop):=
 leaves (13+tl.length+1) ((Ae2 G0 T 60 6).call (.glb 1019) [.loc 0,.any,.loc 11,.loc 4,.int 0] ⟨hpB s I [],[],[loopB (hpB s' I (cF::tl)) (lcT row)]⟩)
def Ca1 (T:A7)(s s':Ms)(I:List SV)(tl:List A0)(row:SV):Option (SV×List A0×List Prop):=
 some (.tup [.str "done",   .loc (13+tl.length)],hpB (dn s') I (cF::(tl++[.list [] 0])),[T.forL blC blT (.lst 7 0) blS (hpB s I [cF]) lcB .next (hpB s' I (cF::tl)) (lcT row)])
theorem Dz2 (T:A7)(s s':Ms)(I:List SV)(t1:A0)(row:SV):Ca0 T s s' I [t1] row=Ca1 T s s' I [t1] row:=by kernel_rfl
theorem Dz1 (T:A7)(s s':Ms)(I:List SV)(t1 t2:A0)(row:SV):Ca0 T s s' I [t1,t2] row=Ca1 T s s' I [t1,t2] row:=by kernel_rfl
theorem Dz0 (T:A7)(s s':Ms)(I:List SV)(t1 t2 t3:A0)(row:SV):Ca0 T s s' I [t1,t2,t3] row=Ca1 T s s' I [t1,t2,t3] row:=by kernel_rfl
theorem Dy9 (T:A7)(s s':Ms)(I:List SV)(t1 t2 t3 t4:A0)(row:SV):Ca0 T s s' I [t1,t2,t3,t4] row=Ca1 T s s' I [t1,t2,t3,t4] row:=by kernel_rfl
noncomputable def At9 (I:List SV):List A0:=[.dict [(.str "main.f",.loc 5)],.list I 1000,.list [.tup [.str "return",.tup []],.loc 1] 2,.list [.loc 2] 1,
 .ns [("key",.any),("params",.any),("registers",.any),("blocks",.loc 3),("captured",.any),("results",.any),("recovery",.none)],.inst 136 4]
noncomputable def hpQ0:List A0:=[.dict [],.list [] 0,.dict [],.dict [(.str "objects",.loc 6),(.str "many",.int 0),(.str "prints",.loc 7),(.str "left",.int 1500),(.str "panics",.loc 8),(.str "frames",.int 1)],
 .list [] 0,.dict [],.list [] 0,.dict [(.str "cells",.loc 11),(.str "defers",.loc 12),(.str "number",.int 1),(.str "above",.int 0)]]
noncomputable def hpQ (s:Ms)(pr:List SV)(n:Nat):List A0:=[.dict s.es,.list pr 1000,.dict [],.dict [(.str "objects",.loc 6),(.str "many",.int s.mny),(.str "prints",.loc 7),(.str "left",.int s.lft),(.str "panics",.loc 8),(.str "frames",.int 1)],
 .list [] 0,.idict s.m n,.list [] 0,.dict [(.str "cells",.loc 11),(.str "defers",.loc 12),(.str "number",.int 1),(.str "above",.int 0)]]
abbrev Gy:Top:=topG [1019] false false
def Cg6 (T:A7)(s:Ms)(I:List SV)(pr:List SV)(tl:List A0):Option (SV×List A0×List Prop):=
 leaves (15+tl.length) ((Ae2 Gy T 80 8).call (.glb 1031) [.loc 0,.str "main.f"] ⟨At9 I,[],[.call (.tup [.str "done",.loc (14+tl.length)]) λu0=>At9 I++(hpQ s pr 1000++(tl++[.list [] 0]))]⟩)
def Cg8 (T:A7)(s:Ms)(I:List SV)(pr:List SV)(tl:List A0):Option (SV×List A0×List Prop):=
 some (.tup [.tup [.str "done",.loc (14+tl.length)],.loc 7],At9 I++(hpQ s pr 1000++(tl++[.list [] 0])),
  [T.ok 1019 [.loc 9,.loc 0,.loc 5,.loc 13,.int 0] (At9 I++hpQ0) (.tup [.str "done",.loc (14+tl.length)]) (At9 I++(hpQ s pr 1000++(tl++[.list [] 0])))])
theorem Dq4 (T:A7)(s:Ms)(I pr:List SV)(t1:A0):Cg6 T s I pr [t1]=Cg8 T s I pr [t1]:=by kernel_rfl
theorem Dq3 (T:A7)(s:Ms)(I pr:List SV)(t1 t2:A0):Cg6 T s I pr [t1,t2]=Cg8 T s I pr [t1,t2]:=by kernel_rfl
theorem Dq2 (T:A7)(s:Ms)(I pr:List SV)(t1 t2 t3:A0):Cg6 T s I pr [t1,t2,t3]=Cg8 T s I pr [t1,t2,t3]:=by kernel_rfl
theorem Dq1 (T:A7)(s:Ms)(I pr:List SV)(t1 t2 t3 t4:A0):Cg6 T s I pr [t1,t2,t3,t4]=Cg8 T s I pr [t1,t2,t3,t4]:=by kernel_rfl
noncomputable def Ci3:A0:=.list [.tup [.str "a",Cp9],.tup [.str "p",ptrT],.tup [.str "x",B1],.tup [.str "j",B1],.tup [.str "i",B1]] 5
noncomputable abbrev Bp5:List (Str×SV):=[("packages",.any),("named",.any),("globals",.any),("consts",.any),("funcs",.any),("bodies",.any),("files",.any),("scopes",.any),("order",.any),("starts",.any),("settle",.any),("late_keys",.any),("is_whole",.any)]
def hpF (bd:SV):List A0:=[.tab 163,.inst 95 2,.ns [("key",.str "main.f"),("locals",.loc 3),("params",.tup []),("results",.tup []),("captured",.tup []),("body",bd),("literals",.loc 4)],Ci3,.dict [],
 .inst 854 6,.ns Bp5]
noncomputable def Dh7 (cd:SV):A0:=.dict [(.str "value",.glb 554),(.str "values",.glb 561),(.str "address",.glb 494),(.str "block",.glb 719),(.str "codes",cd)]
def hpFa (bd cd:SV):List A0:=hpF bd++[.cell (some (.loc 1)),.dict [],.list [] 1,.list [] 0,Dh7 cd]
structure Ls where
 hd:List (SV×SV)
 g:Int
 P:Pc
def Ck9 (bd cd:SV)(es:List (SV×SV))(bx:List Int)(s:Ls)(n m:Nat):List A0:=hpFa bd cd++[.dict es,
 .ns [("world",.loc 5),("typed_fn",.loc 1),("boxed",.fset bx),("known",.loc 11),("held",.loc 15),("sites",.int s.g),("loops",.loc 16),("has_defers",.bool false),("spot",.int 0),("code",.loc 20),("here",.int 0)],
 .inst 339 13,.dict s.hd,.dict [],.list [] 0,.list [.loc 23] 1,
 .ns [("key",.str "main.f"),("params",.int 0),("registers",.loc 21),("blocks",.loc 18),("captured",.int 0),("results",.int 0),("recovery",.none)],
 .inst 136 19,.list s.P.R n,.list s.P.I m,.list [.none,.loc 22] 2]
noncomputable def ls0:Ls:=⟨[],0,⟨[],[]⟩⟩
abbrev Gf:Top:=topG [78,772,726] false false
def Bn6 (es:List (SV×SV))(bx:List Int)(s:Ls):List A0:=hpF .any++[.cell (some (.loc 1)),.dict [(.str "main.f",.loc 43)],.list [] 1,.list [] 0,Dh7 .any,.dict es,
 .ns [("world",.loc 5),("typed_fn",.loc 1),("boxed",.fset bx),("known",.loc 11),("held",.loc 15),("sites",.int s.g),("loops",.loc 16),("has_defers",.bool false),("spot",.int 0),("code",.loc 20),("here",.int 1)],
 .inst 339 13,.dict s.hd,.dict [],.list [] 0,.list [.loc 28,.loc 23] 2,
 .ns [("key",.str "main.f"),("params",.int 0),("registers",.loc 21),("blocks",.loc 18),("captured",.int 0),("results",.int 0),("recovery",.none)],
 .inst 136 19,.list s.P.R 1000,.list s.P.I 1000,.list [.tup [.str "return",.tup []],.loc 22] 2,
 .list [] 0,.cell (some (.loc 14)),.list [] 0,.list [] 0,.list [.tup [.str "return",.tup []],.loc 27] 2,.list [.int 0] 1,.list [] 1,.dict [(.int 0,.bool true)],.list [] 0,.list [] 0,.list [] 0,.list [] 0,
 .list [.int 0] 1,.cell (some (.loc 38)),.dict [(.int 0,.int 0)],.list [.loc 41] 1,.list s.P.I.reverse.reverse 1000,.list [.tup [.str "return",.tup []],.loc 40] 2,
 .ns [("key",.str "main.f"),("params",.int 0),("registers",.loc 44),("blocks",.loc 39),("captured",.int 0),("results",.int 0),("recovery",.none)],
 .inst 136 42,.list s.P.R.reverse.reverse 1000,.list [] 0,.list [] 0,.list [] 0]
noncomputable def esB:Bool→List (SV×SV)
 | true=>[(.int 4,.bool true),(.int 2,.bool true)]
 | false=>[(.int 2,.bool true)]
noncomputable def bxB:Bool→List Int
 | true=>[4,2]
 | false=>[2]
noncomputable def orcs (b:Bool):List Ls→List Orc
 | []=>[]
 | S::r=>.call .none (λu0=>Ck9 .any .any (esB b) (bxB b) S 1000 1000++[.list [] 0])::orcs b r
noncomputable def obsL (T:A7)(b:Bool):List A0→List SV→List Ls→List Prop
 | h,s::ss,S::SS=>T.ok 726 [.loc 14,s] (h++[.list [] 0]) .none (Ck9 .any .any (esB b) (bxB b) S 1000 1000++[.list [] 0])::obsL T b (Ck9 .any .any (esB b) (bxB b) S 1000 1000) ss SS
 | _,_,_=>[]
def orcF (body:List SV)(b:Bool)(SS:List Ls):List Orc:=.call (.loc 12) (λu0=>hpFa (.tup body) (.loc 8)++[.dict (esB b)]):: .call (.bool false) (λu0=>Ck9 (.tup body) (.loc 8) (esB b) (bxB b) ls0 0 0)::orcs b SS
def Dq5 (T:A7)(body:List SV)(b:Bool)(SS:List Ls):List Prop:=
 T.ok 78 [.loc 1,.loc 5] (hpFa (.tup body) (.loc 8)) (.loc 12) (hpFa (.tup body) (.loc 8)++[.dict (esB b)])::T.ok 772 [.tup body] (Ck9 (.tup body) (.loc 8) (esB b) (bxB b) ls0 0 0) (.bool false) (Ck9 (.tup body) (.loc 8) (esB b) (bxB b) ls0 0 0)::
  obsL T b (Ck9 (.tup body) (.loc 8) (esB b) (bxB b) ls0 0 0) body SS
def Al4 (T:A7)(body:List SV)(b:Bool)(SS:List Ls):Option (SV×List A0×List Prop):=leaves 48 ((Ae2 Gf T 250 16).call (.glb 791) [.loc 1,.loc 5] ⟨hpF (.tup body),[],orcF body b SS⟩)
theorem By6 (T:A7)(b:Bool)(s1 s2 s3 s4 s5:SV)(S1 S2 S3 S4 S5:Ls):Al4 T [s1,s2,s3,s4,s5] b [S1,S2,S3,S4,S5]=some (.loc 8,Bn6 (esB b) (bxB b) S5,Dq5 T [s1,s2,s3,s4,s5] b [S1,S2,S3,S4,S5]):=by
 cases b<;>kernel_rfl
theorem By5 (T:A7)(b:Bool)(s1 s2 s3 s4 s5 s6 s7:SV)(S1 S2 S3 S4 S5 S6 S7:Ls):Al4 T [s1,s2,s3,s4,s5,s6,s7] b [S1,S2,S3,S4,S5,S6,S7]=some (.loc 8,Bn6 (esB b) (bxB b) S7,Dq5 T [s1,s2,s3,s4,s5,s6,s7] b [S1,S2,S3,S4,S5,S6,S7]):=by
 cases b<;>kernel_rfl
theorem By4 (T:A7)(b:Bool)(s1 s2 s3 s4 s5 s6 s7 s8 s9:SV)(S1 S2 S3 S4 S5 S6 S7 S8 S9:Ls):Al4 T [s1,s2,s3,s4,s5,s6,s7,s8,s9] b [S1,S2,S3,S4,S5,S6,S7,S8,S9]=some (.loc 8,Bn6 (esB b) (bxB b) S9,Dq5 T [s1,s2,s3,s4,s5,s6,s7,s8,s9] b [S1,S2,S3,S4,S5,S6,S7,S8,S9]):=by
 cases b<;>kernel_rfl
theorem Bm6 (T:A7)(b:Bool)(s1 s2 s3 s4 s5 s6 s7 s8 s9 s10 s11:SV)(S1 S2 S3 S4 S5 S6 S7 S8 S9 S10 S11:Ls):Al4 T [s1,s2,s3,s4,s5,s6,s7,s8,s9,s10,s11] b [S1,S2,S3,S4,S5,S6,S7,S8,S9,S10,S11]=some (.loc 8,Bn6 (esB b) (bxB b) S11,Dq5 T [s1,s2,s3,s4,s5,s6,s7,s8,s9,s10,s11] b [S1,S2,S3,S4,S5,S6,S7,S8,S9,S10,S11]):=by
 cases b<;>kernel_rfl
abbrev Gr:Top:=topG [948,953,938,791,1031] false true
structure Ri where
 row:SV
 s:SV
 m:CM
 d:Int×Int×Int×Int×Int×Int
noncomputable def d6 (d:Int×Int×Int×Int×Int×Int):List SV:=[.int d.2.2.2.2.2,.int d.2.2.2.2.1,.int d.2.2.2.1,.int d.2.2.1,.int d.2.1,.int d.1]
noncomputable def hpR (L:List A0)(rows:List Ri):List A0:=.tab 163::(L++[.list (rows.map (·.row)).reverse rows.length])
noncomputable def lets:List SV:=[let3,let2,let1]
noncomputable def run0:List (SV×SV):=[(.str "i",.int 0),(.str "j",.int 2),(.str "x",.int 9),(.int 0,.int 5),(.int 1,.int 6),(.int 2,.int 7)]
def runO:Option CM→A0
 | none=>.dict run0
 | some m=>.idict m 1000
noncomputable def Be2:List Ri→List SV
 | []=>lets
 | r::l=>shown::r.s::Be2 l
noncomputable def Bl1:List Ri→List A0
 | []=>[]
 | r::l=>Bl1 l++[.list [shown,r.s] 2,.list (Be2 (r::l)) (5+2*l.length),.list [.int 2,.int 1,.int 0,.str "x",.str "j",.str "i"] 6,.list (d6 r.d) 6]
noncomputable def dueR (B:Nat):List Ri→List SV
 | []=>[]
 | r::l=>.loc (B+7+4*l.length)::dueR B l
noncomputable def Bh4:List Ri→Option CM
 | []=>none
 | r::_=>some r.m
def Da0 (B:Nat)(l:List Ri)(m:Option CM):List A0:=[.cell (some (.loc (B+2))),.list lets 3,runO m,.list (dueR B l) l.length]
def hpT (L:List A0)(rows:List Ri)(l:List Ri):List A0:=hpR L rows++(Da0 (L.length+2) l (Bh4 l)++Bl1 l)
def Di2 (L:List A0)(rows:List Ri)(r:Ri)(l:List Ri)(m:Option CM):List A0:=hpR L rows++(Da0 (L.length+2) l m++(Bl1 l++[.list [shown,r.s] 2,.list (Be2 (r::l)) (5+2*l.length)]))
noncomputable def orT (B:Nat):List Ri→List Orc
 | []=>[]
 | r::l=>idC r.s::idC shown:: .call .none (λhp=>set hp (B+2) (.idict r.m 1000)):: .val (.int r.d.1):: .val (.int r.d.2.1):: .val (.int r.d.2.2.1):: .val (.int r.d.2.2.2.1):: .val (.int r.d.2.2.2.2.1):: .val (.int r.d.2.2.2.2.2)::orT B l
noncomputable def obM (m:CM)(d:Int×Int×Int×Int×Int×Int):List Prop:=[m (.s "i")=some (.int d.1),m (.s "j")=some (.int d.2.1),m (.s "x")=some (.int d.2.2.1),m (.i 0)=some (.int d.2.2.2.1),m (.i 1)=some (.int d.2.2.2.2.1),m (.i 2)=some (.int d.2.2.2.2.2)]
noncomputable def obT (T:A7)(L:List A0)(rows:List Ri):List Ri→List Ri→List Prop
 | l,r::rs=>T.ok 948 [r.row] (hpT L rows l) r.s (hpT L rows l)::T.ok 953 [] (hpT L rows l) shown (hpT L rows l)::
   T.ok 938 [.loc (L.length+4),r.row] (Di2 L rows r l (Bh4 l)) .none (Di2 L rows r l (some r.m))::(obM r.m r.d++obT T L rows (r::l) rs)
 | _,[]=>[]
noncomputable def wldR (N:Nat):List A0:=[.dict [(.str "Error",.tup [.bool false,.tup [.str "func",.tup [],.tup [.tup [.str "string"]],.bool false],.str "runtime.Error.Error"])],
 .dict [(.str "Lock",.tup [.bool true,.tup [.str "func",.tup [],.tup [],.bool false],.str "sync.Mutex.Lock"]),(.str "Unlock",.tup [.bool true,.tup [.str "func",.tup [],.tup [],.bool false],.str "sync.Mutex.Unlock"])],
 .dict [(.str "Add",.tup [.bool true,.tup [.str "func",.tup [.tup [.str "int",.str "int"]],.tup [],.bool false],.str "sync.WaitGroup.Add"]),(.str "Done",.tup [.bool true,.tup [.str "func",.tup [],.tup [],.bool false],.str "sync.WaitGroup.Done"]),(.str "Wait",.tup [.bool true,.tup [.str "func",.tup [],.tup [],.bool false],.str "sync.WaitGroup.Wait"])],
 .dict [],
 .ns [("path",.str "error"),("package",.str ""),("underlying",.tup [.str "interface",.tup [.tup [.str "Error",.tup [.str "func",.tup [],.tup [.tup [.str "string"]],.bool false]]]]),("methods",.loc (N+3))],.inst 811 (N+4),
 .ns [("path",.str "runtime.Error"),("package",.str "runtime"),("underlying",.tup [.str "string"]),("methods",.loc N)],.inst 811 (N+6),
 .ns [("path",.str "sync.Mutex"),("package",.str "sync"),("underlying",.tup [.str "struct",.tup [.tup [.str "state",.tup [.str "int",.str "int"],.bool false]]]),("methods",.loc (N+1))],.inst 811 (N+8),
 .ns [("path",.str "sync.WaitGroup"),("package",.str "sync"),("underlying",.tup [.str "struct",.tup [.tup [.str "state",.tup [.str "int",.str "int"],.bool false]]]),("methods",.loc (N+2))],.inst 811 (N+10),
 .dict [(.str "error",.loc (N+5)),(.str "runtime.Error",.loc (N+7)),(.str "sync.Mutex",.loc (N+9)),(.str "sync.WaitGroup",.loc (N+11))],
 .dict [],.dict [],.dict [],.dict [],.dict [],.dict [],.list [] 0,.list [] 0,.list [] 0]
def fnR (N:Nat)(bd:SV):List A0:=[Ci3,.dict [],.ns [("key",.str "main.f"),("locals",.loc N),("params",.tup []),("results",.tup []),("captured",.tup []),("body",bd),("literals",.loc (N+1))],.inst 95 (N+2)]
noncomputable def wnR (N:Nat):A0:=.ns [("packages",.none),("named",.loc (N+12)),("globals",.loc (N+13)),("consts",.loc (N+14)),("funcs",.loc (N+15)),("bodies",.loc (N+16)),("files",.loc (N+17)),("scopes",.loc (N+18)),("order",.loc (N+19)),("starts",.loc (N+20)),("settle",.none),("late_keys",.loc (N+21)),("is_whole",.bool true)]
noncomputable def Ad4 (N:Nat)(I:List SV):List A0:=[.dict [(.str "main.f",.loc (N+5))],.list I 1000,.list [.tup [.str "return",.tup []],.loc (N+1)] 2,.list [.loc (N+2)] 1,
 .ns [("key",.any),("params",.any),("registers",.any),("blocks",.loc (N+3)),("captured",.any),("results",.any),("recovery",.none)],.inst 136 (N+4)]
def hpLo (L:List A0)(rows l:List Ri)(bd:SV)(wn:A0):List A0:=hpT L rows l++(fnR (L.length+6+4*l.length) bd++[wn,.inst 854 (L.length+10+4*l.length)]++wldR (L.length+12+4*l.length))
def Cr3 (L:List A0)(rows l:List Ri)(I:List SV):List A0:=hpLo L rows l .any (.ns Bp5)++Ad4 (L.length+34+4*l.length) I
def Dt6 (L:List A0)(rows l:List Ri)(I:List SV)(tl:List A0):List A0:=Cr3 L rows l I++(.list (B6 (L.length+41+4*l.length) tl.length) 1000::(tl++[.list [] 0]))
noncomputable def Bz7 (N q:Nat):SV:=.tup [.tup [.str "done",.loc (N+q+1)],.loc N]
def orL (L:List A0)(rows l:List Ri)(I:List SV)(tl:List A0):List Orc:=[.call (.loc (L.length+34+4*l.length)) λu0=>Cr3 L rows l I,.call (Bz7 (L.length+40+4*l.length) tl.length) λu0=>Dt6 L rows l I tl]
noncomputable def obL (T:A7)(L:List A0)(rows l:List Ri)(I:List SV)(tl:List A0):List Prop:=
 [T.ok 791 [.loc (L.length+9+4*l.length),.loc (L.length+11+4*l.length)] (hpLo L rows l (.tup (Be2 l).reverse) (wnR (L.length+12+4*l.length))) (.loc (L.length+34+4*l.length)) (Cr3 L rows l I),
 T.ok 1031 [.loc (L.length+34+4*l.length),.str "main.f"] (Cr3 L rows l I) (Bz7 (L.length+40+4*l.length) tl.length) (Dt6 L rows l I tl),
 DEq (Dt6 L rows l I tl++[.list [] 0]) (Bz7 (L.length+40+4*l.length) tl.length) (.tup [.tup [.str "done",.loc (L.length+42+4*l.length+tl.length)],.loc (L.length+5)])]
def Ao2 (T:A7)(L:List A0)(rows:List Ri)(I:List SV)(tl:List A0):Option (SV×List A0×List Prop):=
 leaves (L.length+2) ((Ae2 Gr T 100 10).call (.glb 1036) [.loc (L.length+1)] ⟨hpR L rows,[],orT (L.length+2) rows++orL L rows rows.reverse I tl⟩)
def Ao3 (T:A7)(L:List A0)(rows:List Ri)(I:List SV)(tl:List A0):Option (SV×List A0×List Prop):=
 some (.bool true,hpR L rows,obT T L rows [] rows++obL T L rows rows.reverse I tl)
theorem Bx2 (T:A7)(a1 b1 t1:A0)(r1:Ri)(I:List SV):Ao2 T [a1,b1] [r1] I [t1]=Ao3 T [a1,b1] [r1] I [t1]:=by kernel_rfl
theorem Bx1 (T:A7)(a1 b1 t1 a2 b2 t2:A0)(r1 r2:Ri)(I:List SV):Ao2 T [a1,b1,a2,b2] [r1,r2] I [t1,t2]=Ao3 T [a1,b1,a2,b2] [r1,r2] I [t1,t2]:=by kernel_rfl
theorem Bx0 (T:A7)(a1 b1 t1 a2 b2 t2 a3 b3 t3:A0)(r1 r2 r3:Ri)(I:List SV):Ao2 T [a1,b1,a2,b2,a3,b3] [r1,r2,r3] I [t1,t2,t3]=Ao3 T [a1,b1,a2,b2,a3,b3] [r1,r2,r3] I [t1,t2,t3]:=by kernel_rfl
theorem Bw9 (T:A7)(a1 b1 t1 a2 b2 t2 a3 b3 t3 a4 b4 t4:A0)(r1 r2 r3 r4:Ri)(I:List SV):Ao2 T [a1,b1,a2,b2,a3,b3,a4,b4] [r1,r2,r3,r4] I [t1,t2,t3,t4]=Ao3 T [a1,b1,a2,b2,a3,b3,a4,b4] [r1,r2,r3,r4] I [t1,t2,t3,t4]:=by kernel_rfl
abbrev Gz:Top:=topG [1036,865,872,943] false false
noncomputable def fixL:List A0:=[.list [.tup [.str "a",.str "i"],.str "j",.str "i"] 3,.list [.tup [.str "x",.int 1],.str "i",.str "j"] 3,.list [.str "*p",.str "x"] 2,.list [.tup [.str "x",.int 5],.tup [.str "x",.int 1]] 2]
def Cb0 (o:A0)(c:Option SV):List A0:=[.tab 163,o,.cell c]++fixL++[.list [.tup [.str "set",.loc 5,.loc 6],.tup [.str "set",.loc 3,.loc 4]] 2]
noncomputable def srcO (ab:Int×Int):A0:=.list [.int ab.2,.int ab.1] 2
def Ck7 (o:A0)(ab:Int×Int)(L:List A0):List A0:=Cb0 o (some (.loc 8))++(srcO ab::L)
structure Rd where
 w:Str
 p:A0
 v:A0
 ab:Int×Int
noncomputable def Ah7:List Rd→List A0
 | []=>[]
 | d::l=>Ah7 l++[d.p,d.v]
noncomputable def Ce9 (d:Rd)(k:Nat):SV:=.tup [.str d.w,.loc (9+2*k),.loc (10+2*k)]
noncomputable def orD (o:A0):List Rd→List Rd→List Orc
 | l,d::r=>.call (Ce9 d l.length) (λu0=>Ck7 o d.ab (Ah7 (d::l)))::orD o (d::l) r
 | _,[]=>[]
noncomputable def obD (T:A7)(o:A0):Int×Int→List Rd→List Rd→List Prop
 | ab,l,d::r=>T.ok 943 [.loc 8] (Ck7 o ab (Ah7 l)) (Ce9 d l.length) (Ck7 o d.ab (Ah7 (d::l)))::obD T o d.ab (d::l) r
 | _,_,[]=>[]
noncomputable def rowsD:List Rd→List SV
 | []=>[]
 | d::l=>Ce9 d l.length::rowsD l
noncomputable def lastA:Int×Int→List Rd→Int×Int
 | ab,[]=>ab
 | _,d::_=>d.ab
def hpW2 (o:A0)(ab:Int×Int)(ds:List Rd):List A0:=Ck7 o (lastA ab ds.reverse) (Ah7 ds.reverse++[.list (rowsD ds.reverse) ds.length])
def Bh2 (T:A7)(o:A0)(ab0 ab:Int×Int)(ds:List Rd)(t:Int):Option (SV×List A0×List Prop):=
 leaves 2 ((Ae2 Gz T 100 10).call (.glb 1041) [.loc 1] ⟨[.tab 163,o],[],.call (.bool true) (λhp=>hp):: .call (.loc 8) (λu0=>Cb0 o none++[srcO ab0]):: .call (.int t) (λu0=>Ck7 o ab [])::(orD o [] ds++[.call (.bool true) (λhp=>hp)])⟩)
def Bh3 (T:A7)(o:A0)(ab0 ab:Int×Int)(ds:List Rd)(t:Int):Option (SV×List A0×List Prop):=
 some (.bool true,[.tab 163,o],T.ok 1036 [.loc 7] (Cb0 o none) (.bool true) (Cb0 o none)::T.ok 865 [.loc 1,.int 0] (Cb0 o none) (.loc 8) (Cb0 o none++[srcO ab0])::T.ok 872 [.loc 8,.int 4] (Ck7 o ab0 []) (.int t) (Ck7 o ab [])::
  (obD T o ab [] ds++[T.ok 1036 [.loc (9+2*ds.length)] (hpW2 o ab ds) (.bool true) (hpW2 o ab ds)]))
theorem Cz1 (T:A7)(o:A0)(ab0 ab:Int×Int)(d1:Rd):Bh2 T o ab0 ab [d1] 0=Bh3 T o ab0 ab [d1] 0:=by kernel_rfl
theorem Cz0 (T:A7)(o:A0)(ab0 ab:Int×Int)(d1 d2:Rd):Bh2 T o ab0 ab [d1,d2] 1=Bh3 T o ab0 ab [d1,d2] 1:=by kernel_rfl
theorem Cy9 (T:A7)(o:A0)(ab0 ab:Int×Int)(d1 d2 d3:Rd):Bh2 T o ab0 ab [d1,d2,d3] 2=Bh3 T o ab0 ab [d1,d2,d3] 2:=by kernel_rfl
theorem Cy8 (T:A7)(o:A0)(ab0 ab:Int×Int)(d1 d2 d3 d4:Rd):Bh2 T o ab0 ab [d1,d2,d3,d4] 3=Bh3 T o ab0 ab [d1,d2,d3,d4] 3:=by kernel_rfl
section
variable {w:World}{g0:Heap}{M N:Nat}
theorem CK.at1 {f:Addr}{x x':A0}{A L new new':List A0}{args ARGS:List SV}{v V:SV}{n:Nat}(C:CK w g0 M f args [x] v (x'::new))(hn:A.length=n)(hx:∀ρ,Af5 ρ x x)(hx':∀ρ,Al2 ρ x'=x')
  (hnew:new.map (Al2 (rn [n] (n+1+L.length)))=new')(ha:svRs (rn [n] (n+1+L.length)) args=ARGS)(hv:svR (rn [n] (n+1+L.length)) v=V):CK w g0 M f ARGS (A++x::L) V (A++x'::(L++new')):=λX=>by
 have hL:(A++x::L).length=n+1+L.length:=by simp only [List.length_append,hn,List.length_cons];simp +arith
 have F:Ap9 [n] [x] (x'::new) (A++x::L) (A++x'::(L++new')):={
  jl:=rfl
  nd:=by simp
  pre:=λi o e=>by
   cases i with
   | zero=>(replace e:=A9 e;subst e);exact ⟨n,x,rfl,by refine hn▸?_;simp,hx _⟩
   | succ i=>simp at e
  len:=by simp [← hnew];simp +arith
  le:=by simp
  same:=λj hj hnj=>by
   have hne:j≠n:=by simpa using hnj
   by_cases q:j<A.length
   ·simp only [List.getElem?_append_left q,List.getElem?_append_left q]
   ·simp only [List.getElem?_append_right (Nat.le_of_not_lt q),List.getElem?_append_right (Nat.le_of_not_lt q)]
    obtain ⟨k,hk⟩:∃k,j-A.length=k+1:=⟨j-A.length-1,by lia⟩
    rw [hk,List.getElem?_cons_succ,List.getElem?_cons_succ,List.getElem?_append_left (by simp only [hL] at hj;grind)]
  post:=λi o e=>by
   refine hL▸?_
   cases i with
   | zero=>cases e;rw [Aq4 (j:=n) rfl,hx',← hn];simp
   | succ i=>
    simp only [List.getElem?_cons_succ] at e
    rw [Bf9 (by simp),List.getElem?_append_right (by rw [hn];simp +arith),hn]
    have:n+1+L.length+(i+1 - [n].length)-n=(L.length+i)+1:=by simp;lia
    rw [this,List.getElem?_cons_succ,List.getElem?_append_right (by exact Nat.le_add_right _ _)];simp only [Nat.add_sub_cancel_left,← hnew,List.getElem?_map,e];rfl}
 have:=Ad9 F (C X)
 rw [hL,ha,hv] at this
 exact this
theorem Cg4 (c:Int):All (Cg5 c (decide (Ca3≤Ar7 c))):=by
 have b:∀t,(bI t).natAbs<2^64:=λt=>by cases t<;>decide
 exact .cons (by decide) (.cons (.inl (by decide)) (.cons (.inr (by decide)) (.cons (.inl (by decide)) (.cons (.inr (by decide)) (.cons (by decide) (.cons rfl (.cons (.inr (b _)) .nil)))))))
def ScO (o:A0):Prop:=(∃ob,o = .lst0 .none 0 63 ob)∨∃c l ob,o = .lst0 (.int c) (l+1) 63 ob
theorem pool_c (B:B4 w g0){o:A0}(h:ScO o):∃ab:Int×Int,CK w g0 25 865 [.loc 0,.int 0] [o] (.loc 1) [o,srcO ab]:=by
 rcases h with ⟨ob,rfl⟩ | ⟨c,l,ob,rfl⟩
 ·refine ⟨(Ar7 0*bI (decide (Ca3≤Ar7 0)),Cx5 0),?_⟩
  refine oEA (Aa0 (Cg3 (decide (Ca3≤Ar7 0)) ob)) λst e1 e2=>?_
  exact (Ad2 (M:=0) B Aa8 rfl e1 (.cons (by decide) (Cg4 0))).take (k:=2) (show 1≤2 by decide) e2 rfl (λρ f=>⟨rfl,A3 rfl (Nat.le_refl _),trivial⟩) λρ f=>by show SV.loc _=_;rw [f 1 (by decide)]
 ·refine ⟨(Ar7 c*bI (decide (Ca3≤Ar7 c)),Cx5 c),?_⟩
  refine oEA (Aa0 (Cg2 c l (decide (Ca3≤Ar7 c)) ob)) λst e1 e2=>?_
  refine (Ad2 (M:=0) B Aa8 rfl e1 (.cons ?_ (Cg4 c))).take (k:=2) (show 1≤2 by decide) e2 rfl (λρ f=>⟨rfl,A3 rfl (Nat.le_refl _),trivial⟩) λρ f=>by show SV.loc _=_;rw [f 1 (by decide)]
  simp only [decide_eq_true_eq];simp +arith
theorem Do6 {o:A0}(h:ScO o):(∀ρ,Af5 ρ o o)∧∀ρ,Al2 ρ o=o:=by
 rcases h with ⟨ob,rfl⟩ | ⟨c,l,ob,rfl⟩<;>exact ⟨λu0=>rfl,λu0=>rfl⟩
noncomputable def rowsL:List Row→List A0
 | []=>[]
 | r::l=>psO r::vsO r::rowsL l
noncomputable def Bl6 (k:Nat):List Row→List SV
 | []=>[]
 | r::l=>.tup [.str r.word,.loc k,.loc (k+1)]::Bl6 (k+2) l
def Aw2 (l:List Row):List A0:=.tab 163::(rowsL l++[.list (Bl6 1 l).reverse l.length])
abbrev Bv3 (w:World)(g0:Heap)(M:Nat):Prop:=∀l:List Row,l≠[]→l.length≤4→(∀r∈l,r.ok)→CK w g0 M 1036 [.loc (2*l.length+1)] (Aw2 l) (.bool true) (Aw2 l)
noncomputable def fix1:Row:=.set3 (some .i) (some .j) (some (.a .i)) .j .i (.sum .x 1)
noncomputable def fix2:Row:=.set2 (some .x) (some .p) (.sum .x 1) (.sum .x 5)
theorem fix_c {o:A0}(R:Bv3 w g0 M):CK w g0 M 1036 [.loc 7] (Cb0 o none) (.bool true) (Cb0 o none):=by
 have C:=R [fix1,fix2] (by simp) (by simp) (λr h=>by
  rcases List.mem_cons.mp h with e | e
  ·rw [e];exact ⟨trivial,trivial,trivial,trivial,trivial,trivial⟩
  ·rw [List.mem_singleton.mp e];exact ⟨trivial,trivial,trivial,trivial⟩)
 exact C.frame (js:=[0,3,4,5,6,7]) rfl ⟨⟨_,rfl,rfl⟩,⟨_,rfl,A3 rfl (by decide)⟩,⟨_,rfl,A3 rfl (by decide)⟩,⟨_,rfl,A3 rfl (by decide)⟩,⟨_,rfl,A3 rfl (by decide)⟩,⟨_,rfl,A3 rfl (by decide)⟩,trivial⟩ rfl (Nat.le_refl _)
  ⟨trivial,rfl,rfl,trivial,trivial,trivial,trivial,trivial,trivial⟩ ⟨rfl,rfl,rfl,rfl,rfl,rfl,trivial⟩ rfl rfl
end
def whAt (t:Option Stmt)(i:Nat):Expr×List Stmt:=match at? (B0 t []).body i with
 | some (.While t b _ _)=>(t,b)
 | _=>(.Constant .none 0 ⟨0,0,0,0⟩,[])
def ecOf (t:Option Stmt):EC:={names:=(B0 t []).scope.names,cells:=[],lam:=none}
def bxC:EC:=ecOf (st 12)
def bxT:Expr:=(whAt (st 12) 3).1
def bxS:List Stmt:=(whAt (st 12) 3).2
def hpX (body:List SV):List A0:=[.inst 95 1,.ns [("key",.str "main.f"),("locals",.loc 2),("params",.tup []),("results",.tup []),("captured",.tup []),("body",.tup body),("literals",.loc 3)],Ci3,.dict [],.inst 854 5,.ns Bp5]
def hpW (body:List SV)(es:List (SV×SV))(r:List SV)(n:Nat):List A0:=hpX body++[.dict es,.list r n]
noncomputable def lcX:List (Str×SV):=[("typed_fn",.loc 0),("world",.loc 4),("left",.loc 7),("found",.loc 6)]
def endW (body:List SV)(es:List (SV×SV)):Orc:=.loop bxT.pos.line .next (λhp=>hpW body es [] 1000++hp.drop 8) λu0=>lcX
def Aw9 (T:A7)(body:List SV)(es:List (SV×SV)):Option (SV×St×List Prop):=(Ae2 G0 T 60 8).call (.glb 78) [.loc 0,.loc 4] ⟨hpX body,[],[endW body es]⟩
def Ap7 (T:A7)(body:List SV)(es:List (SV×SV))(n:Nat):Option (SV×St×List Prop):=
 some (.loc 6,⟨hpW body es [] 1000,[],[]⟩,[T.whl bxC bxT bxS (hpW body [] body.reverse n) lcX .next (hpW body es [] 1000) lcX])
theorem Dy0 (T:A7)(s1 s2 s3 s4 s5:SV)(es:List (SV×SV)):Aw9 T [s1,s2,s3,s4,s5] es=Ap7 T [s1,s2,s3,s4,s5] es 5:=by kernel_rfl
theorem Dx9 (T:A7)(s1 s2 s3 s4 s5 s6 s7:SV)(es:List (SV×SV)):Aw9 T [s1,s2,s3,s4,s5,s6,s7] es=Ap7 T [s1,s2,s3,s4,s5,s6,s7] es 7:=by kernel_rfl
theorem Dx8 (T:A7)(s1 s2 s3 s4 s5 s6 s7 s8 s9:SV)(es:List (SV×SV)):Aw9 T [s1,s2,s3,s4,s5,s6,s7,s8,s9] es=Ap7 T [s1,s2,s3,s4,s5,s6,s7,s8,s9] es 9:=by kernel_rfl
theorem De0 (T:A7)(s1 s2 s3 s4 s5 s6 s7 s8 s9 s10 s11:SV)(es:List (SV×SV)):Aw9 T [s1,s2,s3,s4,s5,s6,s7,s8,s9,s10,s11] es=Ap7 T [s1,s2,s3,s4,s5,s6,s7,s8,s9,s10,s11] es 11:=by kernel_rfl
def turns (n:Nat):List Orc:=List.replicate n (.turn bxT.pos.line)
def stopW:Orc:=.loop bxT.pos.line .next (λhp=>hp) λlc=>lc
noncomputable def stOf {α:Type}(r:Option (α×St×List Prop)):St:=match r with
 | some (_,s,_)=>s
 | none=>⟨[],[],[]⟩
def Ds7 (lc:List (Str×SV)):Option SV×Option SV×Option SV×Option SV:=(look lc "typed_fn",look lc "world",look lc "left",look lc "found")
def bxRun (G:Top)(T:A7)(body:List SV)(es:List (SV×SV))(l:List SV)(o:List Orc):Option (A8×St×List Prop):=(Bw7 G T 160 12).whl bxC bxT bxS ⟨hpW body es l 1000,lcX,o⟩
def Bk2 (G:Top)(body:List SV)(es:List (SV×SV))(l:List SV)(es':List (SV×SV))(l':List SV)(os:List Orc)(ob:A7→List Prop):Prop:=∃n,∀T:A7,
 Ds7 (stOf (bxRun G T body es l (os++[stopW]))).lc=(some (.loc 0),some (.loc 4),some (.loc 7),some (.loc 6))∧
 ∀esE:List (SV×SV),bxRun G T body es l (os++[endW body esE]) =
  some (.next,⟨hpW body esE [] 1000++(stOf (bxRun G T body es l (os++[stopW]))).hp.drop 8,lcX,[]⟩,
   ob T++[T.whl bxC bxT bxS (hpW body es' l' n++(stOf (bxRun G T body es l (os++[stopW]))).hp.drop 8) (stOf (bxRun G T body es l (os++[stopW]))).lc .next
    (hpW body esE [] 1000++(stOf (bxRun G T body es l (os++[stopW]))).hp.drop 8) lcX])
abbrev nob:A7→List Prop:=λu0=>[]
theorem bx_pl (body r:List SV)(es:List (SV×SV))(p:Pl):∃k,Bk2 G0 body es (p.tree::r) es r (turns k) nob:=by
 cases p with
 | p=>exact ⟨4,1003,λT=>⟨by kernel_rfl,λesE=>by kernel_rfl⟩⟩
 | a k=>cases k<;>exact ⟨6,1005,λT=>⟨by kernel_rfl,λesE=>by kernel_rfl⟩⟩
 | _=>exact ⟨2,1001,λT=>⟨by kernel_rfl,λesE=>by kernel_rfl⟩⟩
theorem bx_vl (body r:List SV)(es:List (SV×SV))(v:Vl):∃k,Bk2 G0 body es (v.tree::r) es r (turns k) nob:=by
 cases v with
 | sum p n=>
  cases p with
  | p=>exact ⟨8,1007,λT=>⟨by kernel_rfl,λesE=>by kernel_rfl⟩⟩
  | a k=>cases k<;>exact ⟨10,1009,λT=>⟨by kernel_rfl,λesE=>by kernel_rfl⟩⟩
  | _=>exact ⟨6,1005,λT=>⟨by kernel_rfl,λesE=>by kernel_rfl⟩⟩
 | _=>exact ⟨2,1001,λT=>⟨by kernel_rfl,λesE=>by kernel_rfl⟩⟩
noncomputable def esA:Bool→List (SV×SV)
 | true=>[(.int 4,.bool true)]
 | false=>[]
theorem Dd9 (body r:List SV)(es:List (SV×SV)):∃k,Bk2 G0 body es (shown::r) es r (turns k) nob:=⟨28,1027,λT=>⟨by kernel_rfl,λesE=>by kernel_rfl⟩⟩
theorem Dx7 (body r:List SV)(es:List (SV×SV)):∃k,Bk2 G0 body es (let1::r) es r (turns k) nob:=⟨9,1008,λT=>⟨by kernel_rfl,λesE=>by kernel_rfl⟩⟩
theorem Dx6 (body r:List SV)(a:Bool):∃k,Bk2 G0 body (esA a) (let2::r) (esB a) r (turns k) nob:=by
 cases a<;>exact ⟨7,1006,λT=>⟨by kernel_rfl,λesE=>by kernel_rfl⟩⟩
theorem Dx5 (body r:List SV)(es:List (SV×SV)):∃k,Bk2 G0 body es (let3::r) es r (turns k) nob:=⟨15,1014,λT=>⟨by kernel_rfl,λesE=>by kernel_rfl⟩⟩
abbrev Gx:Top:=topG [47,40] false false
def Do7 (v:SV):Orc:=.call v λhp=>hp
noncomputable def esO:Bool→List Bool→Bool
 | a,[]=>a
 | a,b::l=>esO (a||b) l
noncomputable def orX:List Bool→List Orc
 | []=>[]
 | true::l=>Do7 (.bool true)::Do7 (.int 4)::orX l
 | false::l=>Do7 (.bool false)::orX l
noncomputable def obX (T:A7)(body r:List SV)(gb:List A0):Bool→List SV→List Bool→List Prop
 | a,p::ps,true::l=>T.ok 47 [p] (hpW body (esA a) r 1000++gb) (.bool true) (hpW body (esA a) r 1000++gb)::T.ok 40 [p,.loc 4] (hpW body (esA a) r 1000++gb) (.int 4) (hpW body (esA a) r 1000++gb)::obX T body r gb true ps l
 | a,p::ps,false::l=>T.ok 47 [p] (hpW body (esA a) r 1000++gb) (.bool false) (hpW body (esA a) r 1000++gb)::obX T body r gb a ps l
 | _,_,_=>[]
noncomputable def gbX (ps:List SV):List A0:=[.list [] 0,.list [] 0,.list ps.reverse ps.length]
theorem Dx4 (body r:List SV)(a:Bool)(p:SV)(es:List SV)(b:Bool):Bk2 Gx body (esA a) (setS [p] es::r) (esA (esO a [b])) (.tup es:: .tup [p]::r) (turns 1++orX [b]) λT=>obX T body r (gbX [p]) a [p] [b]:=
 ⟨1002,λT=>⟨by cases a<;>cases b<;>kernel_rfl,λesE=>by cases a<;>cases b<;>kernel_rfl⟩⟩
theorem Dx3 (body r:List SV)(a:Bool)(p1 p2:SV)(es:List SV)(b1 b2:Bool):Bk2 Gx body (esA a) (setS [p1,p2] es::r) (esA (esO a [b1,b2])) (.tup es:: .tup [p1,p2]::r) (turns 1++orX [b1,b2]) λT=>obX T body r (gbX [p1,p2]) a [p1,p2] [b1,b2]:=
 ⟨1002,λT=>⟨by cases a<;>cases b1<;>cases b2<;>kernel_rfl,λesE=>by cases a<;>cases b1<;>cases b2<;>kernel_rfl⟩⟩
theorem Dx2 (body r:List SV)(a:Bool)(p1 p2 p3:SV)(es:List SV)(b1 b2 b3:Bool):Bk2 Gx body (esA a) (setS [p1,p2,p3] es::r) (esA (esO a [b1,b2,b3])) (.tup es:: .tup [p1,p2,p3]::r) (turns 1++orX [b1,b2,b3]) λT=>obX T body r (gbX [p1,p2,p3]) a [p1,p2,p3] [b1,b2,b3]:=
 ⟨1002,λT=>⟨by cases a<;>cases b1<;>cases b2<;>cases b3<;>kernel_rfl,λesE=>by cases a<;>cases b1<;>cases b2<;>cases b3<;>kernel_rfl⟩⟩
theorem bx_upd (body r:List SV)(a:Bool)(h1 h2:SV)(r1 r2:List SV)(b:Bool):Bk2 Gx body (esA a) (Dl4 (eT h1 r1) (eT h2 r2)::r) (esA (esO a [b])) (eT h2 r2::eT h1 r1::r) (turns 1++orX [b]) λT=>obX T body r (gbX [eT h1 r1]) a [eT h1 r1] [b]:=
 ⟨1002,λT=>⟨by cases a<;>cases b<;>kernel_rfl,λesE=>by cases a<;>cases b<;>kernel_rfl⟩⟩
noncomputable def oPl:Option (SV×List SV)→SV
 | none=>.none
 | some (h,r)=>eT h r
noncomputable def oTs:List (Option (SV×List SV))→List SV
 | []=>[]
 | none::l=>oTs l
 | some (h,r)::l=>eT h r::oTs l
theorem Co7 (body r:List SV)(es:List (SV×SV))(q1:Option (SV×List SV)):Bk2 G0 body es (.tup [oPl q1]::r) es ((oTs [q1]).reverse++r) (turns 1) nob:=
 ⟨1000+(oTs [q1]).length,λT=>⟨by cases q1<;>kernel_rfl,λesE=>by cases q1<;>kernel_rfl⟩⟩
theorem Co6 (body r:List SV)(es:List (SV×SV))(q1 q2:Option (SV×List SV)):Bk2 G0 body es (.tup [oPl q1,oPl q2]::r) es ((oTs [q1,q2]).reverse++r) (turns 1) nob:=
 ⟨1000+(oTs [q1,q2]).length,λT=>⟨by cases q1<;>cases q2<;>kernel_rfl,λesE=>by cases q1<;>cases q2<;>kernel_rfl⟩⟩
theorem Co5 (body r:List SV)(es:List (SV×SV))(q1 q2 q3:Option (SV×List SV)):Bk2 G0 body es (.tup [oPl q1,oPl q2,oPl q3]::r) es ((oTs [q1,q2,q3]).reverse++r) (turns 1) nob:=
 ⟨1000+(oTs [q1,q2,q3]).length,λT=>⟨by cases q1<;>cases q2<;>cases q3<;>kernel_rfl,λesE=>by cases q1<;>cases q2<;>cases q3<;>kernel_rfl⟩⟩
noncomputable def Ax5:Option Pl→Bool
 | some (.p)=>false
 | some (.a _)=>true
 | _=>false
noncomputable abbrev hpWd:List A0:=[.inst 854 1,.ns Bp5]
abbrev Ge:Top:=topG [554] false false
theorem Cw0 (p:Option Pl):leaves 0 ((Ae2 G0 T0 60 8).call (.glb 47) [A5 p] ⟨[],[],[]⟩)=some (.bool (Ax5 p),[],[]):=by
 cases p with
 | none=>kernel_rfl
 | some p=>
  cases p with
  | a k=>cases k<;>kernel_rfl
  | _=>kernel_rfl
theorem Cv2 (k:Ix):leaves 2 ((Ae2 G0 T0 80 8).call (.glb 40) [(Pl.a k).tree,.loc 0] ⟨hpWd,[],[]⟩)=some (.int 4,hpWd,[]):=by
 cases k<;>kernel_rfl
theorem Bv8 (T:A7)(b:Bool)(g:Int)(v:Vl)(P Q:Pc)(o:SV):(Ae2 Ge T 60 8).call (.glb 561) [.loc 0,v.tree] ⟨hpl b g P,[],[.call o λu0=>hpl b g Q]⟩ =
  some (.loc 17,⟨hpl b g Q++[.list [o] 1],[],[]⟩,[T.ok 554 [.loc 0,v.tree] (hpl b g P) o (hpl b g Q)]):=by
 cases v with
 | sum p n=>kernel_rfl
 | _=>kernel_rfl
structure PcB (n:Nat)(P:Pc):Prop where
 r:∀ρ,svRs ρ P.R=P.R
 i:∀ρ,svRs ρ P.I=P.I
 lr:P.R.length≤n
 li:P.I.length≤n
theorem PcB.mono {n m:Nat}{P:Pc}(x:PcB n P)(h:n≤m):PcB m P:=⟨x.r,x.i,Nat.le_trans x.lr h,Nat.le_trans x.li h⟩
theorem PcB.push {n:Nat}{P:Pc}{t i:SV}(x:PcB n P)(ht:∀ρ,svR ρ t=t)(hi:∀ρ,svR ρ i=i):PcB (n+1) ⟨t::P.R,i::P.I⟩:=
 ⟨λρ=>by simp only [svN,svC,ht,x.r],λρ=>by simp only [svN,svC,hi,x.i],by simpa using x.lr,by simpa using x.li⟩
theorem PcB.put {n:Nat}{P:Pc}{i:SV}(x:PcB n P)(hi:∀ρ,svR ρ i=i):PcB (n+1) ⟨P.R,i::P.I⟩:=
 ⟨x.r,λρ=>by simp only [svN,svC,hi,x.i],Nat.le_succ_of_le x.lr,by simpa using x.li⟩
theorem PcB.nil:PcB 0 ⟨[],[]⟩:=⟨λu0=>rfl,λu0=>rfl,Nat.le_refl _,Nat.le_refl _⟩
section
variable {w:World}{g0:Heap}{M N:Nat}
theorem Ck8 {b:Bool}{g:Int}{hd:List (SV×SV)}{P:Pc}{k n m:Nat}(hh:∀ρ,esR ρ hd=hd)(x:PcB k P)(hn:k≤n)(hm:k≤m):∀ρ,Fix 17 ρ→Ac4 ρ (hpI b g hd P.R P.I n m):=λρ f=>by
 unfold Fix at f
 refine ⟨?_,Af9 ?_,?_,Af9 ?_,?_,Af9 ?_,Aa2 ?_,Aa2 (hh ρ),Aa2 rfl,?_,A3 ?_ (by decide),Af9 ?_,A3 (x.r ρ) (Nat.le_trans x.lr hn),A3 ?_ (by decide),A3 ?_ (by decide),A3 (x.i ρ) (Nat.le_trans x.li hm),Aa2 rfl,trivial⟩
 all_goals first | (show _=Al2 ρ _;simp only [Al2];rw [f _ (by decide)];done) | simp [nsN,nsC,esN,esC,svT,svL,svI,svS,svO,svB,svA,svF,svG,svN,svC,f]
theorem Di5 {b:Bool}{g:Int}{hd:List (SV×SV)}{P:Pc}{k n m:Nat}(hh:∀ρ,esR ρ hd=hd)(x:PcB k P):∀ρ,Fix 17 ρ→Bj7 ρ (hpI b g hd P.R P.I n m):=λρ f=>by
 unfold Fix at f
 refine ⟨?_,?_,?_,?_,?_,?_,?_,congrArg A0.dict (hh ρ),rfl,?_,?_,?_,congrArg (A0.list · n) (x.r ρ),?_,?_,congrArg (A0.list · m) (x.i ρ),rfl,trivial⟩
 all_goals simp [Al2,nsN,nsC,esN,esC,svT,svL,svI,svS,svO,svB,svA,svF,svG,svN,svC,f]
theorem Di4 {b:Bool}{g:Int}{hd:List (SV×SV)}{P:Pc}{n m n' m':Nat}(x:PcB 1000 P)(hn:1000≤n')(hm:1000≤m'):Ae8 w (hpI b g hd P.R P.I n m) (hpI b g hd P.R P.I n' m'):=
 ⟨.refl _,.refl _,.refl _,.refl _,.refl _,.refl _,.refl _,.refl _,.refl _,.refl _,.refl _,.refl _,Aj8 (Nat.le_trans x.lr hn),.refl _,.refl _,Aj8 (Nat.le_trans x.li hm),.refl _,trivial⟩
theorem hd3_re:∀ρ,esR ρ hd3=hd3:=λρ=>rfl
theorem Ar1 (B:B4 w g0){sums:List Nat}{asks deep:Bool}{T:A7}(hT:Ag3 w g0 (M+1) T)(hs:Aj9 sums=true){k d:Nat}{f:Addr}{args:List SV}{hp:List A0}{orc:List Orc}{v:SV}{ob:List Prop}{b:Bool}{g:Int}{hd:List (SV×SV)}{Q:Pc}{n m:Nat}
  (e:leaves 17 ((Ae2 (topG sums asks deep) T k d).call (.glb f) args ⟨hp,[],orc⟩)=some (v,hpI b g hd Q.R Q.I n m,ob))(hl:hp.length=17)(hob:All ob)(hh:∀ρ,esR ρ hd=hd)(x:PcB 1000 Q)(hn:1000≤n)(hm:1000≤m)(hv:∀ρ,Fix 17 ρ→svR ρ v=v):
  CK w g0 (M+1+4*d) f args hp v (hpI b g hd Q.R Q.I 1000 1000):=by
 refine oEA (Aa0 e) λst e1 e2=>?_
 exact ((Ad2 B hT hs e1 hob).take (Nat.le_of_eq hl) e2 rfl (Ck8 hh x hn hm) hv).post (Di4 x (Nat.le_refl _) (Nat.le_refl _))
theorem ix_re (k:Ix):∀ρ,svR ρ k.tree=k.tree:=λρ=>by cases k<;>rfl
theorem Cv8 (p:Pl):∀ρ,svR ρ p.tree=p.tree:=λρ=>by
 cases p with
 | a k=>cases k<;>rfl
 | _=>rfl
theorem Bm0 (p:Option Pl):∀ρ,svR ρ (A5 p)=A5 p:=λρ=>by
 cases p with
 | none=>rfl
 | some p=>exact Cv8 p ρ
theorem Be8 (v:Vl):∀ρ,svR ρ v.tree=v.tree:=λρ=>by
 cases v with
 | sum p n=>show SV.tup [_,_,_,_,svR ρ p.tree,_]=_;rw [Cv8];rfl
 | _=>rfl
theorem Dh8 (k:Ix)(R:List SV):∀ρ,svR ρ (ixO k R)=ixO k R:=λρ=>by cases k<;>rfl
theorem Dg9 (b:Bool)(p:Pl)(R:List SV):∀ρ,svR ρ (rdO b p R)=rdO b p R:=λρ=>by
 cases p with
 | a k=>cases b<;>rfl
 | _=>rfl
theorem vlO_re (b:Bool)(v:Vl)(R:List SV):∀ρ,svR ρ (vlO b v R)=vlO b v R:=λρ=>by cases v<;>rfl
theorem ixP_b {n:Nat}{P:Pc}(x:PcB n P)(k:Ix):PcB (n+1) (ixP k P.R P.I):=by
 cases k with
 | i=>exact x.push (λu0=>rfl) λu0=>rfl
 | j=>exact x.push (λu0=>rfl) λu0=>rfl
 | c n=>exact x.mono (Nat.le_succ _)
theorem Cf5 {n:Nat}{P:Pc}(x:PcB n P)(b:Bool)(p:Pl):PcB (n+3) (rdP b p P.R P.I):=by
 cases p with
 | i=>exact x.mono (by exact Nat.le_add_right _ _)
 | j=>exact x.mono (by exact Nat.le_add_right _ _)
 | x=>exact (x.push (λu0=>rfl) λu0=>rfl).mono (by simp +arith)
 | p=>exact ((x.push (t:=ptrT) (λu0=>rfl) λu0=>rfl).push (λu0=>rfl) λu0=>rfl).mono (by simp +arith)
 | a k=>
  cases b with
  | true=>exact ((((ixP_b x k).push (t:=ptrT) (i:=ins "elemptr" (reg (ixP k P.R P.I).R) [rg 5,ixO k P.R]) (λu0=>rfl) λρ=>by show SV.tup [_,_,_,svR ρ (ixO k P.R)]=_;rw [Dh8];rfl)).push (λu0=>rfl) λu0=>rfl).mono (by exact Nat.le_refl _)
  | false=>exact (x.push (λu0=>rfl) λρ=>by cases k<;>rfl).mono (by simp +arith)
theorem vlP_b {n:Nat}{P:Pc}(x:PcB n P)(b:Bool)(v:Vl):PcB (n+4) (vlP b v P.R P.I):=by
 cases v with
 | sum p c=>exact ((Cf5 x b p).push (t:=B1) (λu0=>rfl) λρ=>by show SV.tup [_,_,_,svR ρ (rdO b p P.R),_,_]=_;rw [Dg9];rfl)
 | _=>exact x.mono (by exact Nat.le_add_right _ _)
theorem tgP_b {n:Nat}{P:Pc}(x:PcB n P)(p:Option Pl):PcB (n+1) (tgP p P.R P.I):=by
 cases p with
 | none=>exact x.mono (by exact Nat.le_add_right _ _)
 | some p=>cases p with
  | p=>exact x.push (λu0=>rfl) λu0=>rfl
  | a k=>exact ixP_b x k
  | _=>exact x.mono (by exact Nat.le_add_right _ _)
theorem asP_b {n:Nat}{P:Pc}(x:PcB n P)(p:Option Pl){o v:SV}(ho:∀ρ,svR ρ o=o)(hv:∀ρ,svR ρ v=v):PcB (n+2) (asP p o v P.R P.I):=by
 have e1:∀(op:Str) (a:SV),(∀ρ,svR ρ a=a)→∀ρ,svR ρ (.tup [.str op,a,v]) = .tup [.str op,a,v]:=λop a ha ρ=>by simp only [svT,svL,svI,svS,svO,svN,svC,ha,hv]
 cases p with
 | none=>exact x.mono (by exact Nat.le_add_right _ _)
 | some p=>cases p with
  | i=>exact (x.put λρ=>by simp only [svT,svL,svI,svS,svO,svN,svC,hv]).mono (by simp +arith)
  | j=>exact (x.put λρ=>by simp only [svT,svL,svI,svS,svO,svN,svC,hv]).mono (by omega)
  | x=>exact (x.put (e1 _ _ λu0=>rfl)).mono (by omega)
  | p=>exact (x.put (e1 _ _ ho)).mono (by omega)
  | a k=>exact ((x.push (t:=ptrT) (i:=ins "elemptr" (reg P.R) [rg 5,o]) (λu0=>rfl) λρ=>by simp only [svT,svL,svI,svS,svO,svN,svC,ho]).put (e1 _ _ λu0=>rfl))
theorem kpP_b {n:Nat}{P:Pc}(x:PcB n P)(o:Op):PcB (n+1) (kpP o P.R P.I):=by
 cases o with
 | r k=>exact x.push (λu0=>rfl) λu0=>rfl
 | c k=>exact x.mono (by exact Nat.le_add_right _ _)
theorem vaP_b {n:Nat}{P:Pc}(x:PcB n P)(p:Pl){o:SV}(ho:∀ρ,svR ρ o=o):PcB (n+2) (vaP p o P.R P.I):=by
 cases p with
 | x=>exact (x.push (λu0=>rfl) λu0=>rfl).mono (by omega)
 | p=>exact (x.push (λu0=>rfl) λρ=>by simp only [svT,svL,svI,svS,svO,svN,svC,ho]).mono (by omega)
 | a k=>exact ((x.push (t:=ptrT) (i:=ins "elemptr" (reg P.R) [rg 5,o]) (λu0=>rfl) λρ=>by simp only [svT,svL,svI,svS,svO,svN,svC,ho]).push (λu0=>rfl) λu0=>rfl)
 | _=>exact x.mono (by exact Nat.le_add_right _ _)
theorem tgV_re (p:Option Pl){o:SV}(ho:∀ρ,svR ρ o=o):∀ρ,svR ρ (tgV p o)=tgV p o:=λρ=>by
 cases p with
 | none=>rfl
 | some p=>cases p<;>simp only [tgV,svT,svL,svI,svS,svO,svN,svC,ho]
theorem tgO_re (p:Option Pl)(R:List SV):∀ρ,svR ρ (tgO p R)=tgO p R:=λρ=>by
 cases p with
 | none=>rfl
 | some p=>cases p with
  | a k=>exact Dh8 k R ρ
  | _=>rfl
theorem opv_re (o:Op):∀ρ,svR ρ o.sv=o.sv:=λρ=>by cases o<;>rfl
theorem vaO_re (p:Pl)(R:List SV):∀ρ,svR ρ (vaO p R)=vaO p R:=λρ=>by cases p<;>rfl
end
section
variable {w:World}{g0:Heap}{M N:Nat}
noncomputable def Cq4 (ρ:Nat→Nat)(HP:List A0):List Nat→List A0→Prop
 | [],[]=>True
 | j::js,o::os=>(HP[j]?=some (Al2 ρ o)∧Af5 ρ o (Al2 ρ o))∧Cq4 ρ HP js os
 | _,_=>False
theorem Cq4.get {ρ:Nat→Nat}{HP:List A0}:∀{js:List Nat} {hp:List A0},Cq4 ρ HP js hp→js.length=hp.length∧∀(k:Nat) (o:A0),hp[k]?=some o→∃j,js[k]?=some j∧HP[j]?=some (Al2 ρ o)∧Af5 ρ o (Al2 ρ o)
 | [],[],_=>⟨rfl,λk o e=>by simp at e⟩
 | [],_::_,h=>h.elim
 | _::_,[],h=>h.elim
 | j::js,o::os,h=>by
  obtain ⟨i1,i2⟩:=h.2.get
  refine ⟨by rw [List.length_cons,List.length_cons,i1],λk o' e=>?_⟩
  cases k with
  | zero=>(replace e:=A9 e;subst e);exact ⟨j,rfl,h.1⟩
  | succ k=>refine oEA (i2 k o' e) λj' e1 e2=>?_;exact ⟨j',by exact e1,e2⟩
theorem CK.ro {f:Addr}{js:List Nat}{hp HP:List A0}{args ARGS:List SV}{v V:SV}(C:CK w g0 M f args hp v hp)(nd:ndB js=true)(P:Cq4 (rn js HP.length) HP js hp)
  (ha:svRs (rn js HP.length) args=ARGS)(hv:svR (rn js HP.length) v=V):CK w g0 M f ARGS HP V HP:=λX=>by
 have F:Ap9 js hp hp HP HP:={
  jl:=P.get.1
  nd:=Ci2 nd
  pre:=λk o e=>let ⟨j,e1,e2,e3⟩:=P.get.2 k o e;⟨j,_,e1,e2,e3⟩
  len:=rfl
  le:=Nat.le_refl _
  same:=λu0 u0 u0=>rfl
  post:=λk o e=>let ⟨j,e1,e2,_⟩:=P.get.2 k o e;by exact (Aq4 e1)▸e2}
 have:=Ad9 F (C X)
 simp only [ha,hv] at this
 exact this
theorem CK.pure {f:Addr}{args:List SV}{v:SV}(C:CK w g0 M f args [] v [])(HP:List A0)(ha:∀ρ,svRs ρ args=args)(hv:∀ρ,svR ρ v=v):CK w g0 M f args HP v HP:=C.ro (js:=[]) rfl trivial (ha _) (hv _)
theorem Df0 {v:SV}(h:∀ρ,svR ρ v=v):∀ρ,svRs ρ [v] = [v]:=λρ=>by show [svR ρ v]=_;rw [h]
theorem Au4 (B:B4 w g0)(p:Option Pl)(HP:List A0):CK w g0 33 898 [Ac0 p] HP (A5 p) HP:=by
 refine oEA (Aa0 (Cs8 p)) λst e1 e2=>?_
 exact ((Ad2 (M:=0) B Aa8 rfl e1 .nil).take (k:=0) (Nat.le_refl _) e2 rfl (λu0 u0=>trivial) λu0 u0=>Bm0 p _).pure HP (Df0 (Af1 p)) (Bm0 p)
theorem e_x (B:B4 w g0)(v:Vl)(HP:List A0):CK w g0 33 919 [v.law] HP v.tree HP:=by
 refine oEA (Aa0 (e_run v)) λst e1 e2=>?_
 exact ((Ad2 (M:=0) B Aa8 rfl e1 .nil).take (k:=0) (Nat.le_refl _) e2 rfl (λu0 u0=>trivial) λu0 u0=>Be8 v _).pure HP (Df0 (Al0 v)) (Be8 v)
theorem Do1 (B:B4 w g0)(HP:List A0):CK w g0 33 953 [] HP shown HP:=by
 refine oEA (Aa0 Bw6) λst e1 e2=>?_
 exact ((Ad2 (M:=0) B Aa8 rfl e1 .nil).take (k:=0) (Nat.le_refl _) e2 rfl (λu0 u0=>trivial) λu0 u0=>rfl).pure HP (λu0=>rfl) λu0=>rfl
def Row.stm:Row→SV
 | .upd p v=>Dl4 p.tree v.tree
 | .set1 p v=>setS [A5 p] [v.tree]
 | .set2 p q v u=>setS [A5 p,A5 q] [v.tree,u.tree]
 | .set3 p q r v u t=>setS [A5 p,A5 q,A5 r] [v.tree,u.tree,t.tree]
theorem Au8 (r:Row):∀ρ,svR ρ r.stm=r.stm:=λρ=>by
 cases r with
 | upd p v=>have:=Bm0 (some p) ρ;have h:svR ρ p.tree=p.tree:=this;simp [Row.stm,Dl4,svT,svL,svI,svS,svO,svN,svC,h,Be8]
 | _=>simp [Row.stm,setS,svT,svL,svI,svS,svO,svN,svC,Bm0,Be8]
abbrev Bn5 (r:Row):List A0:=[psO r,vsO r]
theorem Cz9 (r:Row):∀ρ,Fix 2 ρ→Ac4 ρ (Bn5 r):=λρ u0=>⟨A3 (Av2 r ρ) (by simp),A3 (Au3 r ρ) (by simp),trivial⟩
theorem stm_c (B:B4 w g0)(r:Row):CK w g0 65 948 [.tup [.str r.word,.loc 0,.loc 1]] (Bn5 r) r.stm (Bn5 r):=by
 have go:∀{e:Option (SV×List A0×List Prop)} {ps vs ps' vs':List SV} {ob:List Prop},Bt4 ps vs=Bn5 r→e=some (r.stm,Bn5 r,ob)→e=Bf5 (TM w g0 33 33) r.word ps vs ps' vs'→All ob→CK w g0 (32+1+4*8) 948 [.tup [.str r.word,.loc 0,.loc 1]] (Bn5 r) r.stm (Bn5 r):=λh0 h1 h2 h3=>by
  refine oEA (Aa0 (h2.symm.trans h1)) λst e1 e2=>?_
  rw [h0] at e1
  exact (Ad2 B Aa5 rfl e1 h3).take (k:=2) (Nat.le_refl _) e2 rfl (Cz9 r) λρ u0=>Au8 r ρ
 cases r with
 | upd p v=>exact go rfl (stm_u _ p.law v.law p.tree v.tree) rfl (.cons (Au4 B (some p) _) (.cons (e_x B v _) .nil))
 | set1 p v=>exact go rfl (stm_1 _ (Ac0 p) v.law (A5 p) v.tree) rfl (.cons (Au4 B p _) (.cons (e_x B v _) .nil))
 | set2 p q v u=>exact go rfl (stm_2 _ (Ac0 p) (Ac0 q) v.law u.law (A5 p) (A5 q) v.tree u.tree) rfl (.cons (Au4 B p _) (.cons (Au4 B q _) (.cons (e_x B v _) (.cons (e_x B u _) .nil))))
 | set3 p q r v u t=>exact go rfl (stm_3 _ (Ac0 p) (Ac0 q) (Ac0 r) v.law u.law t.law (A5 p) (A5 q) (A5 r) v.tree u.tree t.tree) rfl (.cons (Au4 B p _) (.cons (Au4 B q _) (.cons (Au4 B r _) (.cons (e_x B v _) (.cons (e_x B u _) (.cons (e_x B t _) .nil))))))
abbrev runM (s:Rk):A0:=.idict (mkM s) 1000
theorem Am8 (s:Rk)(ρ:Nat→Nat):Al2 ρ (runM s)=runM s:=by
 show A0.idict _ _=_
 congr 1
 funext k
 unfold mkM
 repeat' (first | rfl | split)
theorem Ai4 (s:Rk)(ρ:Nat→Nat):Af5 ρ (runM s) (runM s):=.inl ⟨1000,(Am8 s ρ).symm,Nat.le_refl _⟩
theorem at_c (B:B4 w g0){s:Rk}(h:s.Ok)(p:Pl)(hp:p.ok):CK w g0 33 926 [.loc 0,p.law] [runM s] (.key (s.ky p).mk) [runM s]:=by
 refine oEA (Aa0 (at_run (mkM s) s.i s.j p)) λst e1 e2=>?_
 have C:=(Ad2 (M:=0) B Aa8 rfl e1 (by
  cases p with
  | a k=>cases k with
   | i=>exact .cons rfl .nil
   | j=>exact .cons rfl .nil
   | c n=>exact .nil
  | _=>exact .nil)).take (k:=1) (Nat.le_refl _) e2 rfl (λρ u0=>⟨Ai4 s ρ,trivial⟩) λρ u0=>by
   cases p with
   | a k=>cases k<;>rfl
   | _=>rfl
 refine C.val ?_
 cases p with
 | a k=>
  refine (ky_mk h hp)▸?_
  cases k<;>exact Ag2.keyI _
 | _=>exact Ag2.keyS _
theorem at_x (B:B4 w g0){s:Rk}(h:s.Ok)(p:Pl)(hp:p.ok)(ex:List A0):CK w g0 33 926 [.loc 0,p.law] (runM s::ex) (.key (s.ky p).mk) (runM s::ex):=
 (at_c B h p hp).ro (js:=[0]) rfl ⟨⟨by rw [Am8];rfl,by simp only [Am8];exact Ai4 s _⟩,trivial⟩ (by show [SV.loc _,svR _ p.law]=_;refine (show svR _ p.law=p.law from Af1 (some p) _).symm▸?_;rfl) rfl
theorem Dk9 (B:B4 w g0){s:Rk}(h:s.Ok)(v:Vl)(hv:∀p n,v = .sum p n→p.ok):CK w g0 65 933 [.loc 0,v.law] [runM s] (.int (s.vl v)) [runM s]:=by
 cases v with
 | sum p n=>
  refine oEA (Aa0 (Bv5 (TM w g0 33 33) (mkM s) p (s.ky p).mk (s.rd p) n)) λst e1 e2=>?_
  exact (Ad2 (M:=32) B Aa5 rfl e1 (.cons (at_c B h p (hv p n rfl)) (.cons (Ci8 s _) .nil))).take (k:=1) (Nat.le_refl _) e2 rfl (λρ u0=>⟨Ai4 s ρ,trivial⟩) λρ u0=>rfl
 | i=>
  obtain ⟨st,e1,e2⟩:=Aa0 (Dk8 (mkM s) s.i)
  exact (Ad2 (M:=32) B Aa8 rfl e1 (.cons rfl .nil)).take (k:=1) (Nat.le_refl _) e2 rfl (λρ u0=>⟨Ai4 s ρ,trivial⟩) λρ u0=>rfl
 | j=>
  obtain ⟨st,e1,e2⟩:=Aa0 (Dk7 (mkM s) s.j)
  exact (Ad2 (M:=32) B Aa8 rfl e1 (.cons rfl .nil)).take (k:=1) (Nat.le_refl _) e2 rfl (λρ u0=>⟨Ai4 s ρ,trivial⟩) λρ u0=>rfl
 | c n=>
  refine oEA (Aa0 (Cr7 (mkM s) n)) λst e1 e2=>?_
  exact (Ad2 (M:=32) B Aa8 rfl e1 .nil).take (k:=1) (Nat.le_refl _) e2 rfl (λρ u0=>⟨Ai4 s ρ,trivial⟩) λρ u0=>rfl
theorem Dk6 (B:B4 w g0){s:Rk}(h:s.Ok)(v:Vl)(hv:∀p n,v = .sum p n→p.ok)(ex:List A0):CK w g0 65 933 [.loc 0,v.law] (runM s::ex) (.int (s.vl v)) (runM s::ex):=
 (Dk9 B h v hv).ro (js:=[0]) rfl ⟨⟨by rw [Am8];rfl,by simp only [Am8];exact Ai4 s _⟩,trivial⟩ (by show [SV.loc _,svR _ v.law]=_;rw [Al0];rfl) rfl
end
section
variable {w:World}{g0:Heap}{M N:Nat}
theorem WK.pre {c t b hp hp0 lc f hp' lc'}(x:WK w g0 M c t b hp lc f hp' lc')(e:Ae8 w hp0 hp):WK w g0 M c t b hp0 lc f hp' lc':=λX env A as s O ok I RR k=>
 x X O ok ⟨I.hr.to e,I.fr,I.off,I.lo,I.cells⟩ RR k
theorem WK.ext {c:EC}{t b hp hp' X}{lc lc0 lc':List (Str×SV)}{k:Nat}(C:WK w g0 M c t b hp lc .next hp' lc')(hk:hp.length=k)(hk':hp'.length=k)(c1:∀ρ,Fix k ρ→Ac4 ρ hp)(c2:∀ρ,Fix k ρ→Bj7 ρ hp')
  (hl:∀n sv,look lc n=some sv→look lc0 n=some sv∧∀ρ,Fix k ρ→svR ρ sv=sv)(hl':∀n sv,look lc' n=some sv→∀ρ,Fix k ρ→svR ρ sv=sv)(hc:c.cells = []):WK w g0 M c t b (hp++X) lc0 .next (hp'++X) lc':=λH env A as s O ok I RR kk=>by
 have hL:(hp++X).length=k+X.length:=by simp only [List.length_append,hk]
 have fx:Fix k (rn (List.range k) (hp++X).length):=Ab5
 have F:Ap9 (List.range k) hp hp' (hp++X) (hp'++X):={
  jl:=by simp only [List.length_range,hk]
  nd:=List.nodup_range
  pre:=λi o e=>by
   have hi:i<k:=hk▸(List.getElem?_eq_some_iff.mp e).1
   exact ⟨i,o,by rw [List.getElem?_range hi],by refine Eq.trans (List.getElem?_append_left (hk▸hi)) ?_;exact e,(c1 _ fx).get i o e⟩
  len:=by simp +arith
  le:=by lia
  same:=λj hj hn=>by
   have hj':k≤j:=Nat.le_of_not_lt λq=>hn (List.mem_range.mpr q)
   rw [List.getElem?_append_right (by lia),List.getElem?_append_right (by lia),hk,hk']
  post:=λi o e=>by
   have hi:i<k:=hk'▸(List.getElem?_eq_some_iff.mp e).1
   rw [fx i hi,List.getElem?_append_left (by lia),e,(c2 _ fx).get i o e]}
 refine oA (Au0 F.toPicked I.hr) λr1 hA=>?_
 have hb:∀j∈List.range k,j<as.length:=λj m=>by simp only [I.hr.len,hL];have:=List.mem_range.mp m;lia
 refine C H O ok ⟨r1,?_,λm=>?_,I.lo,λn k' e=>by rw [hc] at e;exact no1 e⟩ RR λcs h' tk x i' S vx=>?_
 ·refine oEA (I.fr) λm hm hv=>?_
  refine ⟨m,hm,λn sv e=>?_⟩
  refine oA (hl n sv e) λe1 e2=>?_
  obtain ⟨v,hv1,hv2⟩:=hv n sv e1
  exact ⟨v,hv1,VR.unren hA sv v (by exact (e2 _ fx).symm▸hv2)⟩
 ·unfold As4 at m
  refine oEA (List.mem_filterMap.mp m) λj u0 e=>?_
  exact I.off (List.mem_of_getElem? e)
 ·refine Bk4 (Ba0 F I.hr i'.hr (L:=some env.locals) (λa ha e=>I.off (Option.some.inj e▸ha)) S) λas' q1 q2 q3=>?_
  refine kk as' h' tk x ⟨q1,?_,λm=>?_,I.lo,λn k' e=>by rw [hc] at e;exact no1 e⟩ q2 ?_
  ·obtain ⟨m,hm,hv⟩:=i'.fr
   refine ⟨m,hm,λn sv e=>?_⟩
   obtain ⟨v,hv1,hv2⟩:=hv n sv e
   have:=VR.ren q3 sv v hv2
   rw [hl' n sv e _ fx] at this
   exact ⟨v,hv1,this⟩
  ·obtain ⟨ns,e,hd⟩:=q2.ext
   rw [e] at m
   rcases List.mem_append.mp m with m | m
   ·exact I.off m
   ·refine oEA (I.fr) λmm z1 u0=>?_;obtain ⟨o,es,ep,ho,_⟩:=z1
    exact no1 ((hd _ m).symm.trans ho)
  ·cases vx;exact .next
theorem WK.forget {c:EC}{t b hp hp' X}{lc lc':List (Str×SV)}{k:Nat}(C:WK w g0 M c t b hp lc .next (hp'++X) lc')(hk:hp.length=k)(hk':hp'.length=k)(c1:∀ρ,Fix k ρ→Ac4 ρ hp')
  (hl':∀n sv,look lc' n=some sv→∀ρ,Fix k ρ→svR ρ sv=sv)(hc:c.cells = []):WK w g0 M c t b hp lc .next hp' lc':=λH env A as s O ok I RR kk=>by
 refine C H O ok I RR λas' h' tk x i' S vx=>?_
 have fx:Fix k (rn (List.range k) (hp'++X).length):=Ab5
 have P:Picked (List.range k) hp' (hp'++X):=⟨by rw [List.length_range,hk'],List.nodup_range,λi o e=>by
  have hi:i<k:=hk'▸(List.getElem?_eq_some_iff.mp e).1
  exact ⟨i,o,by rw [List.getElem?_range hi],by rw [List.getElem?_append_left (hk'▸hi)];exact e,(c1 _ fx).get i o e⟩⟩
 obtain ⟨r1,hA⟩:=Au0 P i'.hr
 obtain ⟨ns,e,hd⟩:=S.ext
 have hlen:as.length=k:=by simp only [I.hr.len,hk]
 have e1:As4 (List.range k) as'=as:=by
  unfold As4
  rw [e,← hlen]
  have e:∀j∈List.range as.length,(as++ns)[j]?=some ((as[j]?).getD 0):=λj m=>by
   rw [List.getElem?_append_left (List.mem_range.mp m),List.getElem?_eq_getElem (List.mem_range.mp m)];rfl
  rw [Ah2 (g:=λj=>(as[j]?).getD 0) e]
  refine List.ext_getElem (by simp) λi h1 h2=>?_
  simp [h2]
 rw [e1] at r1 hA
 refine kk as h' tk x ⟨r1,?_,I.off,I.lo,λn k' e=>by rw [hc] at e;exact no1 e⟩ ⟨⟨[],by simp,λu0 h=>(nomatch h)⟩,S.live,S.keep,S.imm⟩ (by cases vx;exact .next)
 obtain ⟨m,hm,hv⟩:=i'.fr
 refine ⟨m,hm,λn sv q=>?_⟩
 obtain ⟨v,hv1,hv2⟩:=hv n sv q
 exact ⟨v,hv1,VR.unren hA sv v (by exact (hl' n sv q _ fx).symm▸hv2)⟩
end
theorem Af6 {α:Type}{p:Str×α}{r:List (Str×α)}{n:Str}{v:α}(h:look (p::r) n=some v):(n=p.1∧v=p.2)∨look r n=some v:=by
 replace h:=show (match seq p.1 n with | true=>some p.2 | false=>look r n)=some v from h
 cases q:seq p.1 n with
 | true=>rw [q] at h;(replace h:=A9 h;subst h);exact .inl ⟨(Ab0.mp q).symm,rfl⟩
 | false=>rw [q] at h;exact .inr h
theorem lcX_look {n:Str}{v:SV}(h:look lcX n=some v):(n = "typed_fn"∧v = .loc 0)∨(n = "world"∧v = .loc 4)∨(n = "left"∧v = .loc 7)∨(n = "found"∧v = .loc 6):=by
 refine (Af6 h).elim (λh=>?_) λh=>?_
 ·exact .inl h
 ·refine (Af6 h).elim (λh=>?_) λh=>?_
  ·exact .inr (.inl h)
  ·refine (Af6 h).elim (λh=>?_) λh=>?_
   ·exact .inr (.inr (.inl h))
   ·refine (Af6 h).elim (λh=>?_) λh=>?_
    ·exact .inr (.inr (.inr h))
    ·exact no1 h
section
variable {w:World}{g0:Heap}{M N:Nat}
structure Bb0 (body:List SV)(es:List (SV×SV))(l:List SV):Prop where
 b:∀ρ,svRs ρ body=body
 e:∀ρ,esR ρ es=es
 l:∀ρ,svRs ρ l=l
theorem Ck6 {body l:List SV}{es:List (SV×SV)}(x:Bb0 body es l){n:Nat}(hl:l.length≤n):∀ρ,Fix 8 ρ→Ac4 ρ (hpW body es l n):=λρ f=>by
 have f0:=f 1 (by decide)
 have f2:=f 2 (by decide)
 have f3:=f 3 (by decide)
 have f5:=f 5 (by decide)
 refine ⟨?_,Af9 ?_,A3 rfl (by decide),Aa2 rfl,?_,Af9 rfl,Aa2 (x.e ρ),A3 (x.l ρ) hl,trivial⟩
 ·show A0.inst 95 1 = .inst 95 (ρ 1);exact congrArg _ f0.symm
 ·show [(_,_),(_,SV.loc (ρ 2)),(_,_),(_,_),(_,_),(_,SV.tup (svRs ρ body)),(_,SV.loc (ρ 3))]=_;simp only [f2,f3,x.b];rfl
 ·show A0.inst 854 5 = .inst 854 (ρ 5);exact congrArg _ f5.symm
theorem hpW_re {body l:List SV}{es:List (SV×SV)}(x:Bb0 body es l){n:Nat}:∀ρ,Fix 8 ρ→Bj7 ρ (hpW body es l n):=λρ f=>by
 have f0:=f 1 (by decide)
 have f2:=f 2 (by decide)
 have f3:=f 3 (by decide)
 have f5:=f 5 (by decide)
 refine ⟨?_,?_,rfl,rfl,?_,rfl,?_,?_,trivial⟩
 ·show A0.inst 95 (ρ 1) = .inst 95 1;exact congrArg _ f0
 ·show A0.ns [(_,_),(_,SV.loc (ρ 2)),(_,_),(_,_),(_,_),(_,SV.tup (svRs ρ body)),(_,SV.loc (ρ 3))]=_;simp only [f2,f3,x.b];rfl
 ·show A0.inst 854 (ρ 5) = .inst 854 5;exact congrArg _ f5
 ·show A0.dict (esR ρ es)=_;rw [x.e]
 ·show A0.list (svRs ρ l) n=_;rw [x.l]
def BW (w:World)(g0:Heap)(M:Nat)(body:List SV)(esE es:List (SV×SV))(l:List SV):Prop:=WK w g0 M bxC bxT bxS (hpW body es l 1000) lcX .next (hpW body esE [] 1000) lcX
theorem Bd1 {n:Str}{v:SV}(h:look lcX n=some v):∀ρ,Fix 8 ρ→svR ρ v=v:=λρ f=>by
 rcases lcX_look h with ⟨_,rfl⟩ | ⟨_,rfl⟩ | ⟨_,rfl⟩ | ⟨_,rfl⟩<;>exact congrArg SV.loc (f _ (by decide))
theorem BW.to (B:B4 w g0){sums:List Nat}{body l l':List SV}{esE es es':List (SV×SV)}{os:List Orc}{ob:A7→List Prop}(hs:Aj9 sums=true)(r:Bk2 (topG sums false false) body es l es' l' os ob)
  (x':Bb0 body es' l')(hl':l'.length≤1000)(xe:Bb0 body esE [])(hob:All (ob (TM w g0 (M+1) (M+1+4*12))))(y:BW w g0 (M+1+4*12) body esE es' l'):BW w g0 (M+1+4*12) body esE es l:=by
 refine oE r λn hr=>?_
 obtain ⟨e1,e2⟩:=hr (TM w g0 (M+1) (M+1+4*12))
 have e3:=e2 esE
 generalize stOf (bxRun (topG sums false false) (TM w g0 (M+1) (M+1+4*12)) body es l (os++[stopW]))=S at e1 e3
 have k1:=congrArg (·.1) e1
 have k2:look S.lc "world"=some (.loc 4):=congrArg (·.2.1) e1
 have k3:look S.lc "left"=some (.loc 7):=congrArg (·.2.2.1) e1
 have k4:look S.lc "found"=some (.loc 6):=congrArg (·.2.2.2) e1
 have Y:WK w g0 (M+1+4*12) bxC bxT bxS (hpW body es' l' n++S.hp.drop 8) S.lc .next (hpW body esE [] 1000++S.hp.drop 8) lcX:=by
  have Y0:WK w g0 (M+1+4*12) bxC bxT bxS (hpW body es' l' 1000++S.hp.drop 8) S.lc .next (hpW body esE [] 1000++S.hp.drop 8) lcX:=
   WK.ext (k:=8) y rfl rfl (Ck6 x' hl') (hpW_re xe) (λm sv q=>⟨by rcases lcX_look q with ⟨rfl,rfl⟩ | ⟨rfl,rfl⟩ | ⟨rfl,rfl⟩ | ⟨rfl,rfl⟩<;>assumption,Bd1 q⟩) (λm sv q=>Bd1 q) rfl
  exact Y0.pre ⟨.refl _,.refl _,.refl _,.refl _,.refl _,.refl _,.refl _,Aj8 hl',Ae8.refl _⟩
 exact WK.forget (k:=8) (Cu7 B hs e3 (hob.append (.cons Y .nil))) rfl rfl (Ck6 xe (Nat.zero_le _)) (λm sv q=>Bd1 q) rfl
def bxE (T:A7)(body:List SV)(es:List (SV×SV)):Option (A8×St×List Prop):=(Bw7 G0 T 160 12).whl bxC bxT bxS ⟨hpW body es [] 1000,lcX,[]⟩
theorem bx_end (T:A7)(body:List SV)(es:List (SV×SV)):bxE T body es=some (.next,⟨hpW body es [] 1000++(stOf (bxE T body es)).hp.drop 8,lcX,[]⟩,[]):=by kernel_rfl
theorem BW.fin (B:B4 w g0){body:List SV}{es:List (SV×SV)}(x:Bb0 body es []):BW w g0 (M+1+4*12) body es es []:=
 WK.forget (k:=8) (Cu7 B (sums:=[]) rfl (bx_end (TM w g0 (M+1) (M+1+4*12)) body es) .nil) rfl rfl (Ck6 x (Nat.zero_le _)) (λm sv q=>Bd1 q) rfl
end
def dfC:EC:=ecOf (st 103)
def dfT:Expr:=(whAt (st 103) 1).1
def dfS:List Stmt:=(whAt (st 103) 1).2
noncomputable def lcD (body:List SV):List (Str×SV):=[("statements",.tup body),("left",.loc 0)]
def endD (body:List SV):Orc:=.loop dfT.pos.line .next (λhp=>.list [] 1000::hp.drop 1) λu0=>lcD body
def stopD:Orc:=.loop dfT.pos.line .next (λhp=>hp) λlc=>lc
def turnsD (n:Nat):List Orc:=List.replicate n (.turn dfT.pos.line)
def Aw7 (T:A7)(body:List SV):Option (SV×St×List Prop):=(Ae2 G0 T 60 8).call (.glb 772) [.tup body] ⟨[],[],[endD body]⟩
noncomputable def Ap4 (T:A7)(body:List SV)(n:Nat):Option (SV×St×List Prop):=some (.bool false,⟨[.list [] 1000],[],[]⟩,[T.whl dfC dfT dfS [.list body.reverse n] (lcD body) .next [.list [] 1000] (lcD body)])
theorem Dw4 (T:A7)(s1 s2 s3 s4 s5:SV):Aw7 T [s1,s2,s3,s4,s5]=Ap4 T [s1,s2,s3,s4,s5] 5:=by kernel_rfl
theorem Dw3 (T:A7)(s1 s2 s3 s4 s5 s6 s7:SV):Aw7 T [s1,s2,s3,s4,s5,s6,s7]=Ap4 T [s1,s2,s3,s4,s5,s6,s7] 7:=by kernel_rfl
theorem Dw2 (T:A7)(s1 s2 s3 s4 s5 s6 s7 s8 s9:SV):Aw7 T [s1,s2,s3,s4,s5,s6,s7,s8,s9]=Ap4 T [s1,s2,s3,s4,s5,s6,s7,s8,s9] 9:=by kernel_rfl
theorem Dd4 (T:A7)(s1 s2 s3 s4 s5 s6 s7 s8 s9 s10 s11:SV):Aw7 T [s1,s2,s3,s4,s5,s6,s7,s8,s9,s10,s11]=Ap4 T [s1,s2,s3,s4,s5,s6,s7,s8,s9,s10,s11] 11:=by kernel_rfl
def dfRun (T:A7)(body l:List SV)(o:List Orc):Option (A8×St×List Prop):=(Bw7 G0 T 120 6).whl dfC dfT dfS ⟨[.list l 1000],lcD body,o⟩
def Bk1 (body l l':List SV)(k n:Nat):Prop:=∀T:A7,
 (look (stOf (dfRun T body l (turnsD k++[stopD]))).lc "statements",look (stOf (dfRun T body l (turnsD k++[stopD]))).lc "left")=(some (.tup body),some (.loc 0))∧
 dfRun T body l (turnsD k++[endD body])=some (.next,⟨.list [] 1000::(stOf (dfRun T body l (turnsD k++[stopD]))).hp.drop 1,lcD body,[]⟩,
  [T.whl dfC dfT dfS (.list l' n::(stOf (dfRun T body l (turnsD k++[stopD]))).hp.drop 1) (stOf (dfRun T body l (turnsD k++[stopD]))).lc .next (.list [] 1000::(stOf (dfRun T body l (turnsD k++[stopD]))).hp.drop 1) (lcD body)])
theorem df_pl (body r:List SV)(p:Pl):∃k n,Bk1 body (p.tree::r) r k n:=by
 cases p with
 | p=>exact ⟨5,1004,λT=>⟨by kernel_rfl,by kernel_rfl⟩⟩
 | a k=>cases k<;>exact ⟨7,1006,λT=>⟨by kernel_rfl,by kernel_rfl⟩⟩
 | _=>exact ⟨2,1001,λT=>⟨by kernel_rfl,by kernel_rfl⟩⟩
theorem df_vl (body r:List SV)(v:Vl):∃k n,Bk1 body (v.tree::r) r k n:=by
 cases v with
 | sum p n=>
  cases p with
  | p=>exact ⟨9,1008,λT=>⟨by kernel_rfl,by kernel_rfl⟩⟩
  | a k=>cases k<;>exact ⟨11,1010,λT=>⟨by kernel_rfl,by kernel_rfl⟩⟩
  | _=>exact ⟨6,1005,λT=>⟨by kernel_rfl,by kernel_rfl⟩⟩
 | _=>exact ⟨2,1001,λT=>⟨by kernel_rfl,by kernel_rfl⟩⟩
theorem Dd0 (body r:List SV):Bk1 body (shown::r) r 32 1031:=λT=>⟨by kernel_rfl,by kernel_rfl⟩
theorem Dw1 (body r:List SV):Bk1 body (let1::r) r 9 1008:=λT=>⟨by kernel_rfl,by kernel_rfl⟩
theorem Dw0 (body r:List SV):Bk1 body (let2::r) r 8 1007:=λT=>⟨by kernel_rfl,by kernel_rfl⟩
theorem Dv9 (body r:List SV):Bk1 body (let3::r) r 16 1015:=λT=>⟨by kernel_rfl,by kernel_rfl⟩
theorem df_set (body r ps es:List SV):Bk1 body (setS ps es::r) (.tup es:: .tup ps::r) 1 1002:=λT=>⟨by kernel_rfl,by kernel_rfl⟩
theorem df_upd (body r:List SV)(h1 h2:SV)(r1 r2:List SV):Bk1 body (Dl4 (eT h1 r1) (eT h2 r2)::r) (eT h2 r2::eT h1 r1::r) 1 1002:=λT=>⟨by kernel_rfl,by kernel_rfl⟩
def plK:Option Pl→List SV
 | none=>[]
 | some p=>[p.tree]
theorem Dd3 (body r:List SV)(p:Option Pl):Bk1 body (.tup [A5 p]::r) ((plK p++oTs []).reverse++r) 1 (1000+(plK p++oTs []).length):=by
 cases p with
 | none=>exact λT=>⟨by kernel_rfl,by kernel_rfl⟩
 | some p=>
  cases p with
  | a k=>cases k<;>exact λT=>⟨by kernel_rfl,by kernel_rfl⟩
  | _=>exact λT=>⟨by kernel_rfl,by kernel_rfl⟩
theorem Dd2 (body r:List SV)(p:Option Pl)(q2:Option (SV×List SV)):Bk1 body (.tup [A5 p,oPl q2]::r) ((plK p++oTs [q2]).reverse++r) 1 (1000+(plK p++oTs [q2]).length):=by
 cases p with
 | none=>cases q2<;>exact λT=>⟨by kernel_rfl,by kernel_rfl⟩
 | some p=>
  cases p with
  | a k=>cases k<;>cases q2<;>exact λT=>⟨by kernel_rfl,by kernel_rfl⟩
  | _=>cases q2<;>exact λT=>⟨by kernel_rfl,by kernel_rfl⟩
theorem Dd1 (body r:List SV)(p:Option Pl)(q2:Option (SV×List SV))(q3:Option (SV×List SV)):Bk1 body (.tup [A5 p,oPl q2,oPl q3]::r) ((plK p++oTs [q2,q3]).reverse++r) 1 (1000+(plK p++oTs [q2,q3]).length):=by
 cases p with
 | none=>cases q2<;>cases q3<;>exact λT=>⟨by kernel_rfl,by kernel_rfl⟩
 | some p=>
  cases p with
  | a k=>cases k<;>cases q2<;>cases q3<;>exact λT=>⟨by kernel_rfl,by kernel_rfl⟩
  | _=>cases q2<;>cases q3<;>exact λT=>⟨by kernel_rfl,by kernel_rfl⟩
theorem Dc9 (body r:List SV)(v:Vl):Bk1 body (.tup [v.tree]::r) (([v.tree]).reverse++r) 1 1001:=by
 cases v with
 | sum p m=>
  cases p with
  | a k=>cases k<;>exact λT=>⟨by kernel_rfl,by kernel_rfl⟩
  | _=>exact λT=>⟨by kernel_rfl,by kernel_rfl⟩
 | _=>exact λT=>⟨by kernel_rfl,by kernel_rfl⟩
theorem Dc8 (body r:List SV)(v:Vl)(h2:SV)(r2:List SV):Bk1 body (.tup [v.tree,eT h2 r2]::r) (([v.tree,eT h2 r2]).reverse++r) 1 1002:=by
 cases v with
 | sum p m=>
  cases p with
  | a k=>cases k<;>exact λT=>⟨by kernel_rfl,by kernel_rfl⟩
  | _=>exact λT=>⟨by kernel_rfl,by kernel_rfl⟩
 | _=>exact λT=>⟨by kernel_rfl,by kernel_rfl⟩
theorem Dc7 (body r:List SV)(v:Vl)(h2:SV)(r2:List SV)(h3:SV)(r3:List SV):Bk1 body (.tup [v.tree,eT h2 r2,eT h3 r3]::r) (([v.tree,eT h2 r2,eT h3 r3]).reverse++r) 1 1003:=by
 cases v with
 | sum p m=>
  cases p with
  | a k=>cases k<;>exact λT=>⟨by kernel_rfl,by kernel_rfl⟩
  | _=>exact λT=>⟨by kernel_rfl,by kernel_rfl⟩
 | _=>exact λT=>⟨by kernel_rfl,by kernel_rfl⟩
section
variable {w:World}{g0:Heap}{M N:Nat}
theorem Au5 (e:SV)(he:∀ρ,svR ρ e=e):∀ρ,Fix 17 ρ→svRs ρ [.loc 0,e] = [.loc 0,e]:=λρ f=>by simp only [svN,svC,svT,svL,svI,svS,svO,he,f 0 (by decide)]
theorem re_fix {v:SV}(h:∀ρ,svR ρ v=v):∀ρ,Fix 17 ρ→svR ρ v=v:=λρ u0=>h ρ
theorem none_re:∀ρ,svR ρ .none = .none:=λu0=>rfl
theorem Cc2 (B:B4 w g0)(b:Bool)(g:Int)(v:Vl){P:Pc}(x:PcB 990 P):CK w g0 49 554 [.loc 0,v.tree] (hpl b g P) (vlO b v P.R) (hpl b g (vlP b v P.R P.I)):=
 Ar1 (M:=0) (hd:=hd3) B Aa8 rfl (Cc1 b g v P.R P.I) rfl (λu0 h=>by cases h) hd3_re ((vlP_b x b v).mono (by simp +arith)) (by exact Nat.le_add_right _ _) (by exact Nat.le_add_right _ _) (re_fix (vlO_re b v _))
theorem Cs9 (B:B4 w g0)(b:Bool)(g:Int)(p:Option Pl)(hp:okT b p=true){P:Pc}(x:PcB 990 P):CK w g0 49 522 [.loc 0,A5 p] (hpl b g P) (tgV p (tgO p P.R)) (hpl b g (tgP p P.R P.I)):=
 Ar1 (M:=0) (hd:=hd3) B Aa8 rfl (Bw2 b g p hp P.R P.I) rfl (λu0 h=>by cases h) hd3_re ((tgP_b x p).mono (by simp +arith)) (by exact Nat.le_add_right _ _) (by exact Nat.le_add_right _ _) (re_fix (tgV_re p (tgO_re p _)))
theorem De5 (B:B4 w g0)(b:Bool)(g:Int)(p:Option Pl){o v:SV}(ho:∀ρ,svR ρ o=o)(hv:∀ρ,svR ρ v=v){P:Pc}(x:PcB 990 P):CK w g0 49 529 [.loc 0,tgV p o,v] (hpl b g P) .none (hpl b g (asP p o v P.R P.I)):=
 Ar1 (M:=0) (hd:=hd3) B Aa8 rfl (Ca4 b g p o v P.R P.I) rfl (λu0 h=>by cases h) hd3_re ((asP_b x p ho hv).mono (by simp +arith)) (by exact Nat.le_add_right _ _) (by exact Nat.le_add_right _ _) (re_fix none_re)
theorem kept_c (B:B4 w g0)(b:Bool)(g:Int)(o:Op){P:Pc}(x:PcB 990 P):CK w g0 49 294 [.loc 0,o.sv,B1] (hpl b g P) (kpO o P.R).sv (hpl b g (kpP o P.R P.I)):=
 Ar1 (M:=0) (hd:=hd3) B Aa8 rfl (Cz3 b g o P.R P.I) rfl (λu0 h=>by cases h) hd3_re ((kpP_b x o).mono (by simp +arith)) (by exact Nat.le_add_right _ _) (by exact Nat.le_add_right _ _) (re_fix (opv_re _))
theorem Cc4 (B:B4 w g0)(b:Bool)(g:Int)(p:Pl){o:SV}(ho:∀ρ,svR ρ o=o){P:Pc}(x:PcB 990 P):CK w g0 49 543 [.loc 0,tgV (some p) o,B1] (hpl b g P) (vaO p P.R) (hpl b g (vaP p o P.R P.I)):=
 Ar1 (M:=0) (hd:=hd3) B Aa8 rfl (Bk9 b g p o P.R P.I) rfl (λu0 h=>by cases h) hd3_re ((vaP_b x p ho).mono (by simp +arith)) (by exact Nat.le_add_right _ _) (by exact Nat.le_add_right _ _) (re_fix (vaO_re _ _))
theorem Cj0 {f:Addr}{args:List SV}{v:SV}{b:Bool}{g:Int}{P Q:Pc}(C:CK w g0 M f args (hpl b g P) v (hpl b g Q))(hP:PcB 1000 P)(hQ:PcB 1000 Q)(ha:∀ρ,Fix 17 ρ→svRs ρ args=args)(hv:∀ρ,Fix 17 ρ→svR ρ v=v)(ex:List A0):
  CK w g0 M f args (hpl b g P++ex) v (hpl b g Q++(ex++[])):=
 CK.ext (k:=17) (hp:=hpl b g P) (pre:=hpl b g Q) (new:=[]) (ex:=ex) (by exact C) rfl rfl (Ck8 (hd:=hd3) hd3_re hP (Nat.le_refl _) (Nat.le_refl _)) (Di5 (hd:=hd3) hd3_re hQ) rfl (ha _ Ab5) (hv _ Ab5)
theorem Cs3 (B:B4 w g0)(b:Bool)(g:Int)(v:Vl){P:Pc}(x:PcB 990 P)(ex:List A0):
  CK w g0 81 561 [.loc 0,v.tree] (hpl b g P++ex) (.loc (17+ex.length)) (hpl b g (vlP b v P.R P.I)++(ex++[.list [vlO b v P.R] 1])):=by
 have C:CK w g0 (48+1+4*8) 561 [.loc 0,v.tree] (hpl b g P) (.loc 17) (hpl b g (vlP b v P.R P.I)++[.list [vlO b v P.R] 1]):=
  Ad2 (M:=48) B Aa5 (sums:=[554]) rfl (Bv8 (TM w g0 49 49) b g v P (vlP b v P.R P.I) (vlO b v P.R)) (λp h=>by
   simp only [List.mem_singleton.mp h];exact Cc2 B b g v x)
 refine CK.ext (k:=17) (hp:=hpl b g P) (pre:=hpl b g (vlP b v P.R P.I)) (ex:=ex) C rfl rfl (Ck8 (hd:=hd3) hd3_re (x.mono (by simp +arith)) (Nat.le_refl _) (Nat.le_refl _)) (Di5 (hd:=hd3) hd3_re (vlP_b x b v)) ?_ (Au5 _ (Be8 v) _ Ab5) ?_
 ·simp [Al2,svN,svC,vlO_re]
 ·show SV.loc _=_
  rfl
theorem Cs2 (B:B4 w g0)(b:Bool)(g:Int)(v:Vl){P:Pc}(x:PcB 990 P)(ex:List A0):CK w g0 81 561 [.loc 0,v.tree] (hpl b g P++ex) (.loc (17+ex.length)) (hpl b g (vlP b v P.R P.I)++(ex++[.list [vlO b v P.R] 1])):=Cs3 B b g v x ex
theorem Aq1 (B:B4 w g0)(b:Bool)(g:Int)(v:Vl){P:Pc}(x:PcB 990 P)(ex:List A0):CK w g0 81 554 [.loc 0,v.tree] (hpl b g P++ex) (vlO b v P.R) (hpl b g (vlP b v P.R P.I)++(ex++[])):=
 (Cj0 (Cc2 B b g v x) (x.mono (by simp +arith)) ((vlP_b x b v).mono (by simp +arith)) (Au5 _ (Be8 v)) (re_fix (vlO_re b v _)) ex).mono (by simp +arith)
theorem Ai3 (B:B4 w g0)(b:Bool)(g:Int)(p:Option Pl)(hp:okT b p=true){P:Pc}(x:PcB 990 P)(ex:List A0):CK w g0 81 522 [.loc 0,A5 p] (hpl b g P++ex) (tgV p (tgO p P.R)) (hpl b g (tgP p P.R P.I)++(ex++[])):=
 (Cj0 (Cs9 B b g p hp x) (x.mono (by simp +arith)) ((tgP_b x p).mono (by simp +arith)) (Au5 _ (Bm0 p)) (re_fix (tgV_re p (tgO_re p _))) ex).mono (by simp +arith)
theorem Aj0 (B:B4 w g0)(b:Bool)(g:Int)(p:Option Pl){o v:SV}(ho:∀ρ,svR ρ o=o)(hv:∀ρ,svR ρ v=v){P:Pc}(x:PcB 990 P)(ex:List A0):CK w g0 81 529 [.loc 0,tgV p o,v] (hpl b g P++ex) .none (hpl b g (asP p o v P.R P.I)++(ex++[])):=
 (Cj0 (De5 B b g p ho hv x) (x.mono (by simp +arith)) ((asP_b x p ho hv).mono (by simp +arith)) (λρ f=>by simp only [svN,svC,svT,svL,svI,svS,svO,tgV_re p ho,hv,f 0 (by decide)]) (re_fix none_re) ex).mono (by simp +arith)
theorem Bh5 (B:B4 w g0)(b:Bool)(g:Int)(o:Op){P:Pc}(x:PcB 990 P)(ex:List A0):CK w g0 81 294 [.loc 0,o.sv,B1] (hpl b g P++ex) (kpO o P.R).sv (hpl b g (kpP o P.R P.I)++(ex++[])):=
 (Cj0 (kept_c B b g o x) (x.mono (by simp +arith)) ((kpP_b x o).mono (by simp +arith)) (λρ f=>by simp only [svN,svC,svT,svL,svI,svS,svO,opv_re,f 0 (by decide)]) (re_fix (opv_re _)) ex).mono (by simp +arith)
theorem Cc3 (B:B4 w g0)(b:Bool)(g:Int)(p:Pl){o:SV}(ho:∀ρ,svR ρ o=o){P:Pc}(x:PcB 990 P)(ex:List A0):CK w g0 81 543 [.loc 0,tgV (some p) o,B1] (hpl b g P++ex) (vaO p P.R) (hpl b g (vaP p o P.R P.I)++(ex++[])):=
 (Cj0 (Cc4 B b g p ho x) (x.mono (by simp +arith)) ((vaP_b x p ho).mono (by simp +arith)) (λρ f=>by simp only [svN,svC,svT,svL,svI,svS,svO,tgV_re (some p) ho,f 0 (by decide)]) (re_fix (vaO_re _ _)) ex).mono (by simp +arith)
end
def vlOp (b:Bool)(v:Vl)(R:List SV):Op:=match v with
 | .i=>.r 0
 | .j=>.r 1
 | .c n=>.c n
 | .sum p n=>.r (reg (rdP b p R []).R)
theorem Aq0 (b:Bool)(v:Vl)(R:List SV):(vlOp b v R).sv=vlO b v R:=by cases v<;>rfl
def tg1 (p:Option Pl)(P:Pc):Pc:=tgP p P.R P.I
def vl1 (b:Bool)(v:Vl)(P:Pc):Pc:=vlP b v P.R P.I
def kp1 (o:Op)(P:Pc):Pc:=kpP o P.R P.I
def as1 (p:Option Pl)(o v:SV)(P:Pc):Pc:=asP p o v P.R P.I
def va1 (p:Pl)(o:SV)(P:Pc):Pc:=vaP p o P.R P.I
def vk1 (b:Bool)(v:Vl)(P:Pc):Pc:=kp1 (vlOp b v P.R) (vl1 b v P)
def vkO (b:Bool)(v:Vl)(P:Pc):Op:=kpO (vlOp b v P.R) (vl1 b v P).R
noncomputable def Bq4:List (Option Pl)→Pc→Pc
 | [],P=>P
 | p::l,P=>Bq4 l (tg1 p P)
noncomputable def Dm3:List (Option Pl)→Pc→List SV
 | [],_=>[]
 | p::l,P=>tgO p P.R::Dm3 l (tg1 p P)
noncomputable def Cr9 (b:Bool):List Vl→Pc→Pc
 | [],P=>P
 | v::l,P=>Cr9 b l (vk1 b v P)
noncomputable def Cs0 (b:Bool):List Vl→Pc→List Op
 | [],_=>[]
 | v::l,P=>vkO b v P::Cs0 b l (vk1 b v P)
noncomputable def De6:List (Option Pl)→List SV→List Op→Pc→Pc
 | p::ps,o::os,k::ks,P=>De6 ps os ks (as1 p o k.sv P)
 | _,_,_,P=>P
def Do3 (b:Bool)(ps:List (Option Pl))(vs:List Vl)(P:Pc):Pc:=match ps,vs with
 | [p],[v]=>as1 p (tgO p P.R) (vlO b v (tg1 p P).R) (vl1 b v (tg1 p P))
 | ps,vs=>De6 ps (Dm3 ps P) (Cs0 b vs (Bq4 ps P)) (Cr9 b vs (Bq4 ps P))
def updP (b:Bool)(p:Pl)(v:Vl)(P:Pc):Pc:=
 let P1:=tg1 (some p) P
 let P2:=va1 p (tgO (some p) P.R) P1
 let P3:=vl1 b v P2
 as1 (some p) (tgO (some p) P.R) (rg (reg P3.R)) ⟨B1::P3.R,ins "binary" (reg P3.R) [.str "+",vaO p P1.R,vlO b v P2.R,B1]::P3.I⟩
section
variable {w:World}{g0:Heap}{M N:Nat}
theorem Am0 (v:Vl):∃h r,v.tree=eT h r:=by cases v<;>exact ⟨_,_,rfl⟩
theorem pl_eT (p:Pl):∃h r,p.tree=eT h r:=by cases p<;>exact ⟨_,_,rfl⟩
theorem vlOp_re (b:Bool)(v:Vl)(R:List SV):∀ρ,svR ρ (vlO b v R)=vlO b v R:=vlO_re b v R
theorem set1_c (B:B4 w g0)(b:Bool)(g:Int)(p:Option Pl)(hp:okT b p=true)(v:Vl){P:Pc}(x:PcB 900 P):CK w g0 113 726 [.loc 0,setS [A5 p] [v.tree]] (hpl b g P) .none (hpl b g (Do3 b [p] [v] P)):=by
 have x1:=tgP_b x p
 have x2:=vlP_b x1 b v
 have x3:=asP_b (p:=p) (o:=tgO p P.R) (v:=vlO b v (tg1 p P).R) x2 (tgO_re p _) (vlO_re b v _)
 exact Ar1 (M:=80) (d:=8) (hd:=hd3) B Aa5 rfl (Cu5 (TM w g0 81 81) b g (A5 p) v.tree (tgV p (tgO p P.R)) (vlO b v (tg1 p P).R) P (tg1 p P) (vl1 b v (tg1 p P)) (Do3 b [p] [v] P)) rfl
  (.cons (Ai3 B b g p hp (x.mono (by simp +arith)) [cl0]) (.cons (Cs2 B b g v (x1.mono (by simp +arith)) [cl0,.list [tgV p (tgO p P.R)] 1,cl0]) (.cons (Aj0 B b g p (tgO_re p _) (vlO_re b v _) (x2.mono (by simp +arith)) _) .nil)))
  hd3_re (x3.mono (by simp +arith)) (Nat.le_refl _) (Nat.le_refl _) (re_fix none_re)
theorem set2_c (B:B4 w g0)(b:Bool)(g:Int)(p1 p2:Option Pl)(hp1:okT b p1=true)(hp2:okT b p2=true)(v1 v2:Vl){P:Pc}(x:PcB 900 P):CK w g0 113 726 [.loc 0,setS [A5 p1,A5 p2] [v1.tree,v2.tree]] (hpl b g P) .none (hpl b g (Do3 b [p1,p2] [v1,v2] P)):=by
 obtain ⟨h1,r1,e1⟩:=Am0 v1
 obtain ⟨h2,r2,e2⟩:=Am0 v2
 let P1:=tg1 p1 P
 let P2:=tg1 p2 P1
 let P3:=vl1 b v1 P2
 let P4:=vk1 b v1 P2
 let P5:=vl1 b v2 P4
 let P6:=vk1 b v2 P4
 let k1:=(vkO b v1 P2).sv
 let k2:=(vkO b v2 P4).sv
 let t1:=tgO p1 P.R
 let t2:=tgO p2 P1.R
 have y1:PcB 901 P1:=tgP_b x p1
 have y2:PcB 902 P2:=tgP_b y1 p2
 have y3:PcB 906 P3:=vlP_b y2 b v1
 have y4:PcB 907 P4:=kpP_b y3 _
 have y5:PcB 911 P5:=vlP_b y4 b v2
 have y6:PcB 912 P6:=kpP_b y5 _
 have y7:PcB 914 (as1 p1 t1 k1 P6):=asP_b y6 p1 (tgO_re p1 _) (opv_re _)
 have y8:PcB 916 (as1 p2 t2 k2 (as1 p1 t1 k1 P6)):=asP_b y7 p2 (tgO_re p2 _) (opv_re _)
 have run:=Cu4 (TM w g0 81 81) b g (A5 p1) (A5 p2) h1 h2 (tgV p1 t1) (tgV p2 t2) (vlO b v1 P2.R) (vlO b v2 P4.R) k1 k2 r1 r2 P P1 P2 P3 P4 P5 P6 (as1 p1 t1 k1 P6) (as1 p2 t2 k2 (as1 p1 t1 k1 P6))
 rw [← e1,← e2] at run
 refine Ar1 (M:=80) (d:=8) (hd:=hd3) B Aa5 rfl run rfl ?_ hd3_re (y8.mono (by simp +arith)) (Nat.le_refl _) (Nat.le_refl _) (re_fix none_re)
 refine .cons (Ai3 B b g p1 hp1 (x.mono (by omega)) _) (.cons (Ai3 B b g p2 hp2 (y1.mono (by simp +arith)) _) (.cons (Aq1 B b g v1 (y2.mono (by simp +arith)) _) (.cons ?_ (.cons (Aq1 B b g v2 (y4.mono (by simp +arith)) _) (.cons ?_
  (.cons (Aj0 B b g p1 (tgO_re p1 _) (opv_re _) (y6.mono (by simp +arith)) _) (.cons (Aj0 B b g p2 (tgO_re p2 _) (opv_re _) (y7.mono (by simp +arith)) _) .nil)))))))
 ·rw [← Aq0];exact Bh5 B b g _ (y3.mono (by simp +arith)) _
 ·rw [← Aq0];exact Bh5 B b g _ (y5.mono (by simp +arith)) _
theorem set3_c (B:B4 w g0)(b:Bool)(g:Int)(p1 p2 p3:Option Pl)(hp1:okT b p1=true)(hp2:okT b p2=true)(hp3:okT b p3=true)(v1 v2 v3:Vl){P:Pc}(x:PcB 900 P):
  CK w g0 113 726 [.loc 0,setS [A5 p1,A5 p2,A5 p3] [v1.tree,v2.tree,v3.tree]] (hpl b g P) .none (hpl b g (Do3 b [p1,p2,p3] [v1,v2,v3] P)):=by
 obtain ⟨h1,r1,e1⟩:=Am0 v1
 obtain ⟨h2,r2,e2⟩:=Am0 v2
 obtain ⟨h3,r3,e3⟩:=Am0 v3
 let P1:=tg1 p1 P
 let P2:=tg1 p2 P1
 let P3:=tg1 p3 P2
 let P4:=vl1 b v1 P3
 let P5:=vk1 b v1 P3
 let P6:=vl1 b v2 P5
 let P7:=vk1 b v2 P5
 let P8:=vl1 b v3 P7
 let P9:=vk1 b v3 P7
 let k1:=(vkO b v1 P3).sv
 let k2:=(vkO b v2 P5).sv
 let k3:=(vkO b v3 P7).sv
 let t1:=tgO p1 P.R
 let t2:=tgO p2 P1.R
 let t3:=tgO p3 P2.R
 have y1:PcB 901 P1:=tgP_b x p1
 have y2:PcB 902 P2:=tgP_b y1 p2
 have y3:PcB 903 P3:=tgP_b y2 p3
 have y4:PcB 907 P4:=vlP_b y3 b v1
 have y5:PcB 908 P5:=kpP_b y4 _
 have y6:PcB 912 P6:=vlP_b y5 b v2
 have y7:PcB 913 P7:=kpP_b y6 _
 have y8:PcB 917 P8:=vlP_b y7 b v3
 have y9:PcB 918 P9:=kpP_b y8 _
 have z1:PcB 920 (as1 p1 t1 k1 P9):=asP_b y9 p1 (tgO_re p1 _) (opv_re _)
 have z2:PcB 922 (as1 p2 t2 k2 (as1 p1 t1 k1 P9)):=asP_b z1 p2 (tgO_re p2 _) (opv_re _)
 have z3:PcB 924 (as1 p3 t3 k3 (as1 p2 t2 k2 (as1 p1 t1 k1 P9))):=asP_b z2 p3 (tgO_re p3 _) (opv_re _)
 have run:=Cu3 (TM w g0 81 81) b g (A5 p1) (A5 p2) (A5 p3) h1 h2 h3 (tgV p1 t1) (tgV p2 t2) (tgV p3 t3) (vlO b v1 P3.R) (vlO b v2 P5.R) (vlO b v3 P7.R) k1 k2 k3 r1 r2 r3 P P1 P2 P3 P4 P5 P6 P7 P8 P9 (as1 p1 t1 k1 P9) (as1 p2 t2 k2 (as1 p1 t1 k1 P9)) (as1 p3 t3 k3 (as1 p2 t2 k2 (as1 p1 t1 k1 P9)))
 rw [← e1,← e2,← e3] at run
 refine Ar1 (M:=80) (d:=8) (hd:=hd3) B Aa5 rfl run rfl ?_ hd3_re (z3.mono (by simp +arith)) (Nat.le_refl _) (Nat.le_refl _) (re_fix none_re)
 refine .cons (Ai3 B b g p1 hp1 (x.mono (by omega)) _) (.cons (Ai3 B b g p2 hp2 (y1.mono (by omega)) _) (.cons (Ai3 B b g p3 hp3 (y2.mono (by omega)) _) (.cons (Aq1 B b g v1 (y3.mono (by simp +arith)) _) (.cons ?_ (.cons (Aq1 B b g v2 (y5.mono (by simp +arith)) _) (.cons ?_ (.cons (Aq1 B b g v3 (y7.mono (by simp +arith)) _) (.cons ?_
  (.cons (Aj0 B b g p1 (tgO_re p1 _) (opv_re _) (y9.mono (by simp +arith)) _) (.cons (Aj0 B b g p2 (tgO_re p2 _) (opv_re _) (z1.mono (by simp +arith)) _) (.cons (Aj0 B b g p3 (tgO_re p3 _) (opv_re _) (z2.mono (by simp +arith)) _) .nil)))))))))))
 ·rw [← Aq0];exact Bh5 B b g _ (y4.mono (by omega)) _
 ·rw [← Aq0];exact Bh5 B b g _ (y6.mono (by omega)) _
 ·rw [← Aq0];exact Bh5 B b g _ (y8.mono (by simp +arith)) _
theorem upd_c (B:B4 w g0)(b:Bool)(g:Int)(p:Pl)(hp:okT b (some p)=true)(v:Vl){P:Pc}(x:PcB 900 P):CK w g0 113 726 [.loc 0,Dl4 p.tree v.tree] (hpl b g P) .none (hpl b g (updP b p v P)):=by
 obtain ⟨h1,r1,e1⟩:=pl_eT p
 let P1:=tg1 (some p) P
 let P2:=va1 p (tgO (some p) P.R) P1
 let P3:=vl1 b v P2
 let P4:Pc:=⟨B1::P3.R,ins "binary" (reg P3.R) [.str "+",vaO p P1.R,vlO b v P2.R,B1]::P3.I⟩
 have y1:PcB 901 P1:=tgP_b x (some p)
 have y2:PcB 903 P2:=vaP_b y1 p (tgO_re (some p) _)
 have y3:PcB 907 P3:=vlP_b y2 b v
 have y4:PcB 908 P4:=y3.push (λu0=>rfl) λρ=>by simp only [svT,svL,svI,svS,svO,svN,svC,vaO_re,vlO_re]
 have y5:PcB 910 (updP b p v P):=asP_b y4 (some p) (tgO_re (some p) _) λu0=>rfl
 have run:=Dl3 (TM w g0 81 81) b g h1 v.tree (tgV (some p) (tgO (some p) P.R)) (vaO p P1.R) (vlO b v P2.R) r1 P P1 P2 P3 (updP b p v P)
 rw [← e1] at run
 refine Ar1 (M:=80) (d:=8) (hd:=hd3) B Aa5 rfl run rfl ?_ hd3_re (y5.mono (by simp +arith)) (Nat.le_refl _) (Nat.le_refl _) (re_fix none_re)
 refine .cons (Ai3 B b g (some p) hp (x.mono (by omega)) _) (.cons (Cc3 B b g p (tgO_re (some p) _) (y1.mono (by omega)) _) (.cons (Aq1 B b g v (y2.mono (by omega)) _) (.cons ?_ .nil)))
 have C:=Aj0 B b g (some p) (tgO_re (some p) P.R) (v:=rg (reg P3.R)) (λu0=>rfl) (y4.mono (m:=990) (by omega)) []
 rw [List.append_nil] at C ⊢
 exact C.pre (Di4 (hd:=hd3) (y4.mono (by simp +arith)) (Nat.le_refl _) (Nat.le_refl _))
end
theorem Ag5 (ρ:Nat→Nat){a b:List SV}(x:svRs ρ a=a)(y:svRs ρ b=b):svRs ρ (a++b)=a++b:=by simp only [Bl3,x,y]
def Tr1 (t:SV):Prop:=(∃p:Pl,t=p.tree)∨∃v:Vl,t=v.tree
theorem Tr1.re {t:SV}(h:Tr1 t):∀ρ,svR ρ t=t:=by
 rcases h with ⟨p,rfl⟩ | ⟨v,rfl⟩
 ·exact Cv8 p
 ·exact Be8 v
theorem As1 {l:List SV}(h:∀t∈l,Tr1 t)(ρ:Nat→Nat):svRs ρ l=l:=by
 induction l with
 | nil=>rfl
 | cons a l ih=>show svR ρ a::svRs ρ l=_;rw [(h a (List.mem_cons_self ..)).re,ih λt m=>h t (List.mem_cons_of_mem _ m)]
theorem Bc1 (p:Option Pl):∃q,A5 p=oPl q∧oTs [q]=plK p:=by
 cases p with
 | none=>exact ⟨none,rfl,rfl⟩
 | some p=>cases p<;>exact ⟨some (_,_),rfl,rfl⟩
theorem At5 (q:Option (SV×List SV))(l:List (Option (SV×List SV))):oTs (q::l)=oTs [q]++oTs l:=by cases q<;>rfl
theorem plK_tr (p:Option Pl):∀t∈plK p,Tr1 t:=λt m=>by
 cases p with
 | none=>cases m
 | some p=>exact (List.mem_cons.mp m).elim (λe=>.inl ⟨p,e⟩) nofun
theorem Dq0 (p:Option Pl):(plK p).length≤1:=by cases p<;>simp [plK]
theorem Cm5 (a:Bool):∀ρ,esR ρ (esA a)=esA a:=λρ=>by cases a<;>rfl
theorem Ba2 (a:Bool):∀ρ,esR ρ (esB a)=esB a:=λρ=>by cases a<;>rfl
theorem Ba1:∀(l k:List Bool) (a:Bool),esO a (l++k)=esO (esO a l) k
 | [],_,_=>rfl
 | b::l,k,a=>Ba1 l k (a||b)
section
variable {w:World}{g0:Heap}{M N:Nat}
theorem part_x (B:B4 w g0)(p:Option Pl)(HP:List A0):CK w g0 33 47 [A5 p] HP (.bool (Ax5 p)) HP:=by
 refine oEA (Aa0 (Cw0 p)) λst e1 e2=>?_
 exact ((Ad2 (M:=0) B Aa8 rfl e1 .nil).take (k:=0) (Nat.le_refl _) e2 rfl (λu0 u0=>trivial) λu0 u0=>rfl).pure HP (Df0 (Bm0 p)) λu0=>rfl
theorem root_x (B:B4 w g0)(k:Ix){body l:List SV}{es:List (SV×SV)}{n:Nat}(ex:List A0):CK w g0 33 40 [(Pl.a k).tree,.loc 4] (hpW body es l n++ex) (.int 4) (hpW body es l n++ex):=by
 refine oEA (Aa0 (Cv2 k)) λst e1 e2=>?_
 exact ((Ad2 (M:=0) B Aa8 rfl e1 .nil).take (k:=2) (Nat.le_refl _) e2 rfl (λρ f=>⟨by show _=A0.inst 854 (ρ 1);rw [f 1 (by decide)],Af9 rfl,trivial⟩) λu0 u0=>rfl).ro (js:=[4,5]) rfl ⟨⟨rfl,rfl⟩,⟨rfl,Af9 rfl⟩,trivial⟩ (by show [svR _ (Pl.a k).tree,SV.loc _]=_;rw [Cv8];rfl) rfl
theorem ob_x (B:B4 w g0){body r:List SV}{L:Nat}(gb:List A0):∀(ps:List (Option Pl)) (a:Bool),All (obX (TM w g0 33 L) body r gb a (ps.map A5) (ps.map Ax5))
 | [],a=>All.nil
 | p::ps,a=>by
  have P:=part_x B p (hpW body (esA a) r 1000++gb)
  cases e:Ax5 p with
  | false=>
   rw [e] at P
   rw [List.map_cons,List.map_cons,e]
   exact .cons P (ob_x B gb ps a)
  | true=>
   rw [e] at P
   rw [List.map_cons,List.map_cons,e]
   refine .cons P (.cons ?_ (ob_x B gb ps true))
   cases p with
   | none=>cases e
   | some p=>
    cases p with
    | a k=>exact root_x B k gb
    | _=>exact B3 e
abbrev LvB:Nat:=32+1+4*12
theorem Bu9 (B:B4 w g0){body r:List SV}{esE es:List (SV×SV)}(xe:Bb0 body esE [])(x:Bb0 body es r):∀{l:List SV},(∀t∈l,Tr1 t)→l.length+r.length≤1000→BW w g0 LvB body esE es r→BW w g0 LvB body esE es (l++r)
 | [],_,_,y=>y
 | t::l,h,hl,y=>by
  rw [List.length_cons] at hl
  have ih:=Bu9 B xe x (l:=l) (λt m=>h t (List.mem_cons_of_mem _ m)) (by lia) y
  have x':Bb0 body es (l++r):=⟨x.b,x.e,λρ=>Ag5 ρ (As1 (λt m=>h t (List.mem_cons_of_mem _ m)) ρ) (x.l ρ)⟩
  have hl':(l++r).length≤1000:=by rw [List.length_append];lia
  rcases h t (List.mem_cons_self ..) with ⟨p,rfl⟩ | ⟨v,rfl⟩
  ·obtain ⟨k,b⟩:=bx_pl body (l++r) es p
   exact BW.to (M:=32) (sums:=[]) B rfl b x' hl' xe .nil ih
  ·obtain ⟨k,b⟩:=bx_vl body (l++r) es v
   exact BW.to (M:=32) (sums:=[]) B rfl b x' hl' xe .nil ih
theorem Ay3 {l:List SV}(h:∀ρ,svRs ρ l=l)(ρ:Nat→Nat):svR ρ (.tup l) = .tup l:=by show SV.tup (svRs ρ l)=_;rw [h]
theorem Ch0 (l:List (Option Pl))(ρ:Nat→Nat):svRs ρ (l.map A5)=l.map A5:=by
 induction l with
 | nil=>rfl
 | cons a l ih=>show svR ρ (A5 a)::svRs ρ (l.map A5)=_;simp only [Bm0,ih];rfl
theorem Df5 (l:List Vl)(ρ:Nat→Nat):svRs ρ (l.map Vl.tree)=l.map Vl.tree:=by
 induction l with
 | nil=>rfl
 | cons a l ih=>show svR ρ a.tree::svRs ρ (l.map Vl.tree)=_;simp only [Be8,ih];rfl
theorem An7 {a:SV}{l:List SV}(ha:∀ρ,svR ρ a=a)(hl:∀ρ,svRs ρ l=l)(ρ:Nat→Nat):svRs ρ (a::l)=a::l:=by show svR ρ a::svRs ρ l=_;simp only [ha,hl]
noncomputable def plKs:List (Option Pl)→List SV
 | []=>[]
 | p::l=>plK p++plKs l
theorem Bl9:∀(l:List (Option Pl)),∀t∈plKs l,Tr1 t
 | [],t,m=>by cases m
 | p::l,t,m=>(List.mem_append.mp m).elim (plK_tr p t) (Bl9 l t)
theorem Bc0:∀(l:List (Option Pl)),(plKs l).length≤l.length
 | []=>Nat.le_refl _
 | p::l=>by
  have h1:=Dq0 p
  have h2:=Bc0 l
  show (plK p++plKs l).length≤l.length+1
  rw [List.length_append];lia
theorem Dy2 (B:B4 w g0){body r:List SV}{esE es:List (SV×SV)}(xe:Bb0 body esE [])(x:Bb0 body es r)(hr:r.length≤900)(l:List (Option Pl))(hl:1≤l.length∧l.length≤3)(y:BW w g0 LvB body esE es r):
  BW w g0 LvB body esE es (.tup (l.map A5)::r):=by
 have go:∀{qs:List SV} {os:List Orc},Bk2 G0 body es (.tup (l.map A5)::r) es (qs.reverse++r) os nob→qs=plKs l→BW w g0 LvB body esE es (.tup (l.map A5)::r):=λ{qs os} b e=>by
  have h1:∀t∈qs.reverse,Tr1 t:=λt m=>Bl9 l t (by exact e▸List.mem_reverse.mp m)
  have h2:qs.reverse.length≤3:=by rw [List.length_reverse,e];have:=Bc0 l;lia
  exact BW.to (M:=32) (sums:=[]) B rfl b ⟨x.b,x.e,λρ=>Ag5 ρ (As1 h1 ρ) (x.l ρ)⟩ (by rw [List.length_append];omega) xe .nil (Bu9 B xe x h1 (by lia) y)
 revert go;refine l3E hl (λp go=>?_) (λp1 p2 go=>?_) (λp1 p2 p3 go=>?_)
 ·refine oEA (Bc1 p) λq e f=>?_
  have b:=Co7 body r es q
  rw [← e] at b
  exact go b (by refine Eq.trans f ?_;show _=plK p++[];rw [List.append_nil])
 ·obtain ⟨q1,e1,f1⟩:=Bc1 p1
  refine oEA (Bc1 p2) λq2 e2 f2=>?_
  have b:=Co6 body r es q1 q2
  rw [← e1,← e2] at b
  exact go b (by simp only [At5,f1,f2];show _=plK p1++(plK p2++[]);rw [List.append_nil])
 ·refine oEA (Bc1 p1) λq1 e1 f1=>?_
  refine oEA (Bc1 p2) λq2 e2 f2=>?_
  refine oEA (Bc1 p3) λq3 e3 f3=>?_
  have b:=Co5 body r es q1 q2 q3
  rw [← e1,← e2,← e3] at b
  exact go b (by rw [At5,At5 q2];simp only [f1,f2,f3];show _=plK p1++(plK p2++(plK p3++[]));rw [List.append_nil])
theorem Dy1 (B:B4 w g0){body r:List SV}{esE es:List (SV×SV)}(xe:Bb0 body esE [])(x:Bb0 body es r)(hr:r.length≤900)(l:List Vl)(hl:1≤l.length∧l.length≤3)(y:BW w g0 LvB body esE es r):
  BW w g0 LvB body esE es (.tup (l.map Vl.tree)::r):=by
 have go:∀{qs:List SV} {os:List Orc},Bk2 G0 body es (.tup (l.map Vl.tree)::r) es (qs.reverse++r) os nob→qs=l.map Vl.tree→BW w g0 LvB body esE es (.tup (l.map Vl.tree)::r):=λ{qs os} b e=>by
  have h1:∀t∈qs.reverse,Tr1 t:=λt m=>by
   rw [List.mem_reverse,e,List.mem_map] at m
   obtain ⟨v,_,rfl⟩:=m
   exact .inr ⟨v,rfl⟩
  have h2:qs.reverse.length≤3:=by rw [List.length_reverse,e,List.length_map];lia
  exact BW.to (M:=32) (sums:=[]) B rfl b ⟨x.b,x.e,λρ=>Ag5 ρ (As1 h1 ρ) (x.l ρ)⟩ (by rw [List.length_append];omega) xe .nil (Bu9 B xe x h1 (by lia) y)
 revert go;refine l3E hl (λv go=>?_) (λv1 v2 go=>?_) (λv1 v2 v3 go=>?_)
 ·obtain ⟨h,t,e⟩:=Am0 v
  have b:=Co7 body r es (some (h,t))
  rw [show oPl (some (h,t))=v.tree from e.symm] at b
  exact go b (by show [eT h t] = [v.tree];rw [e])
 ·obtain ⟨h1,t1,e1⟩:=Am0 v1
  obtain ⟨h2,t2,e2⟩:=Am0 v2
  have b:=Co6 body r es (some (h1,t1)) (some (h2,t2))
  rw [show oPl (some (h1,t1))=v1.tree from e1.symm,show oPl (some (h2,t2))=v2.tree from e2.symm] at b
  exact go b (by show [eT h1 t1,eT h2 t2] = [v1.tree,v2.tree];rw [e1,e2])
 ·refine oEE (Am0 v1) λh1 t1 e1=>?_
  obtain ⟨h2,t2,e2⟩:=Am0 v2
  obtain ⟨h3,t3,e3⟩:=Am0 v3
  have b:=Co5 body r es (some (h1,t1)) (some (h2,t2)) (some (h3,t3))
  rw [show oPl (some (h1,t1))=v1.tree from e1.symm,show oPl (some (h2,t2))=v2.tree from e2.symm,show oPl (some (h3,t3))=v3.tree from e3.symm] at b
  exact go b (by show [eT h1 t1,eT h2 t2,eT h3 t3] = [v1.tree,v2.tree,v3.tree];simp only [e1,e2,e3])
theorem Co8 (B:B4 w g0){body r:List SV}{esE:List (SV×SV)}(xe:Bb0 body esE [])(a:Bool){ps:List (Option Pl)}{vs:List Vl}{os:List Orc}{gb:List A0}(hp:1≤ps.length∧ps.length≤3)(hv:1≤vs.length∧vs.length≤3)
  (x:Bb0 body (esA (esO a (ps.map Ax5))) r)(hr:r.length≤800)(y:BW w g0 LvB body esE (esA (esO a (ps.map Ax5))) r)
  (b:Bk2 Gx body (esA a) (setS (ps.map A5) (vs.map Vl.tree)::r) (esA (esO a (ps.map Ax5))) (.tup (vs.map Vl.tree):: .tup (ps.map A5)::r) os λT=>obX T body r gb a (ps.map A5) (ps.map Ax5)):
  BW w g0 LvB body esE (esA a) (setS (ps.map A5) (vs.map Vl.tree)::r):=by
 have x1:Bb0 body (esA (esO a (ps.map Ax5))) (.tup (ps.map A5)::r):=⟨x.b,x.e,An7 (Ay3 (Ch0 ps)) x.l⟩
 exact BW.to (M:=32) (sums:=[47,40]) B rfl b (⟨x.b,x.e,An7 (Ay3 (Df5 vs)) x1.l⟩) (by simp only [List.length_cons];lia) xe (ob_x B gb ps a) (Dy1 B xe x1 (by simp only [List.length_cons];lia) vs hv (Dy2 B xe x (by lia) ps hp y))
theorem bw_row (B:B4 w g0){body r:List SV}{esE:List (SV×SV)}(xe:Bb0 body esE [])(a:Bool)(row:Row)(x:Bb0 body (esA (esO a (row.pl.map Ax5))) r)(hr:r.length≤800)
  (y:BW w g0 LvB body esE (esA (esO a (row.pl.map Ax5))) r):BW w g0 LvB body esE (esA a) (row.stm::r):=by
 cases row with
 | set1 p v=>exact Co8 B xe a (ps:=[p]) (vs:=[v]) ⟨by simp,by simp⟩ ⟨by simp,by simp⟩ x hr y (Dx4 body r a (A5 p) [v.tree] (Ax5 p))
 | set2 p q v u=>exact Co8 B xe a (ps:=[p,q]) (vs:=[v,u]) ⟨by simp,by simp⟩ ⟨by simp,by simp⟩ x hr y (Dx3 body r a (A5 p) (A5 q) [v.tree,u.tree] (Ax5 p) (Ax5 q))
 | set3 p q s v u t=>exact Co8 B xe a (ps:=[p,q,s]) (vs:=[v,u,t]) ⟨by simp,by simp⟩ ⟨by simp,by simp⟩ x hr y (Dx2 body r a (A5 p) (A5 q) (A5 s) [v.tree,u.tree,t.tree] (Ax5 p) (Ax5 q) (Ax5 s))
 | upd p v=>
  obtain ⟨h1,t1,e1⟩:∃h t,p.tree=eT h t:=by cases p<;>exact ⟨_,_,rfl⟩
  refine oEE (Am0 v) λh2 t2 e2=>?_
  have b:=bx_upd body r a h1 h2 t1 t2 (Ax5 (some p))
  rw [← e1,← e2] at b
  have h:∀t∈[v.tree,p.tree],Tr1 t:=λt m=>by
   refine (List.mem_cons.mp m).elim (λe=>?_) λm=>?_
   ·exact .inr ⟨v,e⟩
   ·exact .inl ⟨p,List.mem_singleton.mp m⟩
  exact BW.to (M:=32) (sums:=[47,40]) B rfl b ⟨x.b,x.e,λρ=>Ag5 ρ (As1 h ρ) (x.l ρ)⟩ (by simp only [List.length_cons];lia) xe (ob_x B _ [some p] a)
   (Bu9 B xe x h (by simp only [List.length_cons,List.length_nil];lia) y)
noncomputable def Af0:List Row→List SV
 | []=>lets
 | r::l=>shown::r.stm::Af0 l
theorem Ae6:∀(l:List Row) (ρ:Nat→Nat),svRs ρ (Af0 l)=Af0 l
 | [],ρ=>rfl
 | r::l,ρ=>by
  show svR ρ shown::svR ρ r.stm::svRs ρ (Af0 l)=_
  simp only [Au8,Ae6 l];rfl
theorem Ai2:∀(l:List Row),(Af0 l).length=3+2*l.length
 | []=>rfl
 | r::l=>by
  show (Af0 l).length+1+1=3+2*(l.length+1)
  refine (Ai2 l)▸?_;rfl
def lent (l:List Row)(a:Bool):Bool:=esO a (l.flatMap λr=>r.pl.map Ax5)
theorem Co9 (B:B4 w g0){body:List SV}(hb:∀ρ,svRs ρ body=body)(b:Bool):∀(l:List Row) (a:Bool),l.length≤300→lent l a=b→BW w g0 LvB body (esB b) (esA a) (Af0 l)
 | [],a,hl,e=>by
  have e:a=b:=e
  subst e
  have xe:Bb0 body (esB a) []:=⟨hb,Ba2 a,λu0=>rfl⟩
  obtain ⟨k1,b1⟩:=Dx7 body [] (esB a)
  obtain ⟨k2,b2⟩:=Dx6 body [let1] a
  obtain ⟨k3,b3⟩:=Dx5 body [let2,let1] (esA a)
  have y0:BW w g0 LvB body (esB a) (esB a) []:=BW.fin (M:=32) B xe
  have y1:BW w g0 LvB body (esB a) (esB a) [let1]:=BW.to (M:=32) (sums:=[]) B rfl b1 xe (Nat.zero_le _) xe .nil y0
  have y2:BW w g0 LvB body (esB a) (esA a) [let2,let1]:=BW.to (M:=32) (sums:=[]) B rfl b2 ⟨hb,Ba2 a,λu0=>rfl⟩ (by decide) xe .nil y1
  exact BW.to (M:=32) (sums:=[]) B rfl b3 ⟨hb,Cm5 a,λu0=>rfl⟩ (by decide) xe .nil y2
 | r::l,a,hl,e=>by
  rw [List.length_cons] at hl
  have e':lent l (esO a (r.pl.map Ax5))=b:=by
   unfold lent at e ⊢
   rw [List.flatMap_cons,Ba1] at e
   exact e
  have xe:Bb0 body (esB b) []:=⟨hb,Ba2 b,λu0=>rfl⟩
  have y:=Co9 B hb b l _ (by exact Nat.le_of_lt ‹_›) e'
  have ln:=Ai2 l
  obtain ⟨k,b1⟩:=Dd9 body (r.stm::Af0 l) (esA a)
  exact BW.to (M:=32) (sums:=[]) B rfl b1 ⟨hb,Cm5 _,An7 (Au8 r) (Ae6 l)⟩ (by simp only [List.length_cons];lia) xe .nil (bw_row B xe a r ⟨hb,Cm5 _,Ae6 l⟩ (by lia) y)
end
section
variable {w:World}{g0:Heap}{M N:Nat}
def DW (w:World)(g0:Heap)(M:Nat)(body l:List SV):Prop:=WK w g0 M dfC dfT dfS [.list l 1000] (lcD body) .next [.list [] 1000] (lcD body)
theorem lcD_look {body:List SV}{n:Str}{v:SV}(h:look (lcD body) n=some v):(n = "statements"∧v = .tup body)∨(n = "left"∧v = .loc 0):=by
 refine (Af6 h).elim (λh=>?_) λh=>?_
 ·exact .inl h
 ·refine (Af6 h).elim (λh=>?_) λh=>?_
  ·exact .inr h
  ·exact no1 h
theorem Bd2 {body:List SV}(hb:∀ρ,svRs ρ body=body){n:Str}{v:SV}(h:look (lcD body) n=some v):∀ρ,Fix 1 ρ→svR ρ v=v:=λρ f=>by
 rcases lcD_look h with ⟨_,rfl⟩ | ⟨_,rfl⟩
 ·exact congrArg SV.tup (hb ρ)
 ·exact congrArg SV.loc (f _ (by decide))
theorem Dr9 {l:List SV}(x:∀ρ,svRs ρ l=l){n:Nat}(hl:l.length≤n):∀ρ,Fix 1 ρ→Ac4 ρ [.list l n]:=λρ f=>⟨A3 (x ρ) hl,trivial⟩
abbrev LvD:Nat:=0+1+4*6
theorem DW.to (B:B4 w g0){body l l':List SV}{k n:Nat}(hb:∀ρ,svRs ρ body=body)(r:Bk1 body l l' k n)(x':∀ρ,svRs ρ l'=l')(hl':l'.length≤1000)(y:DW w g0 LvD body l'):DW w g0 LvD body l:=by
 refine oA (r (TM w g0 (0+1) LvD)) λe1 e3=>?_
 generalize stOf (dfRun (TM w g0 (0+1) LvD) body l (turnsD k++[stopD]))=S at e1 e3
 have k1:look S.lc "statements"=some (.tup body):=congrArg (·.1) e1
 have k2:look S.lc "left"=some (.loc 0):=congrArg (·.2) e1
 have Y:WK w g0 LvD dfC dfT dfS ([.list l' n]++S.hp.drop 1) S.lc .next ([.list [] 1000]++S.hp.drop 1) (lcD body):=by
  have Y0:WK w g0 LvD dfC dfT dfS ([.list l' 1000]++S.hp.drop 1) S.lc .next ([.list [] 1000]++S.hp.drop 1) (lcD body):=
   WK.ext (k:=1) y rfl rfl (Dr9 x' hl') (λρ f=>⟨rfl,trivial⟩) (λm sv q=>⟨by rcases lcD_look q with ⟨rfl,rfl⟩ | ⟨rfl,rfl⟩<;>assumption,Bd2 hb q⟩) (λm sv q=>Bd2 hb q) rfl
  exact Y0.pre ⟨Aj8 hl',Ae8.refl _⟩
 exact WK.forget (k:=1) (hp':=[.list [] 1000]) (Cu7 (M:=0) B (sums:=[]) rfl e3 (.cons Y .nil)) rfl rfl (Dr9 (λu0=>rfl) (Nat.zero_le _)) (λm sv q=>Bd2 hb q) rfl
def dfE (T:A7)(body:List SV):Option (A8×St×List Prop):=(Bw7 G0 T 120 6).whl dfC dfT dfS ⟨[.list [] 1000],lcD body,[]⟩
theorem df_end (T:A7)(body:List SV):dfE T body=some (.next,⟨[.list [] 1000]++(stOf (dfE T body)).hp.drop 1,lcD body,[]⟩,[]):=by kernel_rfl
theorem DW.fin (B:B4 w g0){body:List SV}(hb:∀ρ,svRs ρ body=body):DW w g0 LvD body []:=
 WK.forget (k:=1) (hp':=[.list [] 1000]) (Cu7 (M:=0) B (sums:=[]) rfl (df_end (TM w g0 (0+1) LvD) body) .nil) rfl rfl (Dr9 (λu0=>rfl) (Nat.zero_le _)) (λm sv q=>Bd2 hb q) rfl
theorem Bu2 (B:B4 w g0){body r:List SV}(hb:∀ρ,svRs ρ body=body)(x:∀ρ,svRs ρ r=r):∀{l:List SV},(∀t∈l,Tr1 t)→l.length+r.length≤1000→DW w g0 LvD body r→DW w g0 LvD body (l++r)
 | [],_,_,y=>y
 | t::l,h,hl,y=>by
  rw [List.length_cons] at hl
  have ih:=Bu2 B hb x (l:=l) (λt m=>h t (List.mem_cons_of_mem _ m)) (by lia) y
  have x':∀ρ,svRs ρ (l++r)=l++r:=λρ=>Ag5 ρ (As1 (λt m=>h t (List.mem_cons_of_mem _ m)) ρ) (x ρ)
  have hl':(l++r).length≤1000:=by rw [List.length_append];lia
  rcases h t (List.mem_cons_self ..) with ⟨p,rfl⟩ | ⟨v,rfl⟩
  ·refine oEE (df_pl body (l++r) p) λk n b=>?_
   exact DW.to B hb b x' hl' ih
  ·refine oEE (df_vl body (l++r) v) λk n b=>?_
   exact DW.to B hb b x' hl' ih
theorem Dv5 (B:B4 w g0){body r:List SV}(hb:∀ρ,svRs ρ body=body)(x:∀ρ,svRs ρ r=r)(hr:r.length≤900)(l:List (Option Pl))(hl:1≤l.length∧l.length≤3)(y:DW w g0 LvD body r):DW w g0 LvD body (.tup (l.map A5)::r):=by
 have go:∀{qs:List SV} {n:Nat},Bk1 body (.tup (l.map A5)::r) (qs.reverse++r) 1 n→qs=plKs l→DW w g0 LvD body (.tup (l.map A5)::r):=λ{qs n} b e=>by
  have h1:∀t∈qs.reverse,Tr1 t:=λt m=>Bl9 l t (by exact e▸List.mem_reverse.mp m)
  have h2:qs.reverse.length≤3:=by rw [List.length_reverse,e];have:=Bc0 l;lia
  exact DW.to B hb b (λρ=>Ag5 ρ (As1 h1 ρ) (x ρ)) (by rw [List.length_append];omega) (Bu2 B hb x h1 (by lia) y)
 revert go;refine l3E hl (λp go=>?_) (λp1 p2 go=>?_) (λp1 p2 p3 go=>?_)
 ·exact go (Dd3 body r p) (by rfl)
 ·refine oEA (Bc1 p2) λq2 e2 f2=>?_
  have b:=Dd2 body r p1 q2
  rw [← e2] at b
  exact go b (by refine Eq.trans (congrArg _ f2) ?_;show _=plK p1++(plK p2++[]);rw [List.append_nil])
 ·refine oEA (Bc1 p2) λq2 e2 f2=>?_
  refine oEA (Bc1 p3) λq3 e3 f3=>?_
  have b:=Dd1 body r p1 q2 q3
  rw [← e2,← e3] at b
  exact go b (by rw [At5 q2,f2,f3];show _=plK p1++(plK p2++(plK p3++[]));rw [List.append_nil])
theorem Dv4 (B:B4 w g0){body r:List SV}(hb:∀ρ,svRs ρ body=body)(x:∀ρ,svRs ρ r=r)(hr:r.length≤900)(l:List Vl)(hl:1≤l.length∧l.length≤3)(y:DW w g0 LvD body r):DW w g0 LvD body (.tup (l.map Vl.tree)::r):=by
 have go:∀{qs:List SV} {n:Nat},Bk1 body (.tup (l.map Vl.tree)::r) (qs.reverse++r) 1 n→qs=l.map Vl.tree→DW w g0 LvD body (.tup (l.map Vl.tree)::r):=λ{qs n} b e=>by
  have h1:∀t∈qs.reverse,Tr1 t:=λt m=>by
   rw [List.mem_reverse,e,List.mem_map] at m
   obtain ⟨v,_,rfl⟩:=m
   exact .inr ⟨v,rfl⟩
  have h2:qs.reverse.length≤3:=by rw [List.length_reverse,e,List.length_map];lia
  exact DW.to B hb b (λρ=>Ag5 ρ (As1 h1 ρ) (x ρ)) (by rw [List.length_append];omega) (Bu2 B hb x h1 (by lia) y)
 revert go;refine l3E hl (λv go=>?_) (λv1 v2 go=>?_) (λv1 v2 v3 go=>?_)
 ·exact go (Dc9 body r v) rfl
 ·obtain ⟨h2,t2,e2⟩:=Am0 v2
  have b:=Dc8 body r v1 h2 t2
  rw [← e2] at b
  exact go b rfl
 ·refine oEE (Am0 v2) λh2 t2 e2=>?_
  refine oEE (Am0 v3) λh3 t3 e3=>?_
  have b:=Dc7 body r v1 h2 t2 h3 t3
  rw [← e2,← e3] at b
  exact go b rfl
theorem Cn2 (B:B4 w g0){body r:List SV}(hb:∀ρ,svRs ρ body=body){ps:List (Option Pl)}{vs:List Vl}(hp:1≤ps.length∧ps.length≤3)(hv:1≤vs.length∧vs.length≤3)(x:∀ρ,svRs ρ r=r)(hr:r.length≤800)(y:DW w g0 LvD body r):
  DW w g0 LvD body (setS (ps.map A5) (vs.map Vl.tree)::r):=by
 exact DW.to B hb (df_set body r (ps.map A5) (vs.map Vl.tree)) (An7 (Ay3 (Df5 vs)) (An7 (Ay3 (Ch0 ps)) x)) (by simp only [List.length_cons];lia) (Dv4 B hb (An7 (Ay3 (Ch0 ps)) x) (by simp only [List.length_cons];lia) vs hv (Dv5 B hb x (by lia) ps hp y))
theorem dw_row (B:B4 w g0){body r:List SV}(hb:∀ρ,svRs ρ body=body)(row:Row)(x:∀ρ,svRs ρ r=r)(hr:r.length≤800)(y:DW w g0 LvD body r):DW w g0 LvD body (row.stm::r):=by
 cases row with
 | set1 p v=>exact Cn2 B hb (ps:=[p]) (vs:=[v]) ⟨by simp,by simp⟩ ⟨by simp,by simp⟩ x hr y
 | set2 p q v u=>exact Cn2 B hb (ps:=[p,q]) (vs:=[v,u]) ⟨by simp,by simp⟩ ⟨by simp,by simp⟩ x hr y
 | set3 p q s v u t=>exact Cn2 B hb (ps:=[p,q,s]) (vs:=[v,u,t]) ⟨by simp,by simp⟩ ⟨by simp,by simp⟩ x hr y
 | upd p v=>
  obtain ⟨h1,t1,e1⟩:∃h t,p.tree=eT h t:=by cases p<;>exact ⟨_,_,rfl⟩
  refine oEE (Am0 v) λh2 t2 e2=>?_
  have b:=df_upd body r h1 h2 t1 t2
  rw [← e1,← e2] at b
  have h:∀t∈[v.tree,p.tree],Tr1 t:=λt m=>by
   refine (List.mem_cons.mp m).elim (λe=>?_) λm=>?_
   ·exact .inr ⟨v,e⟩
   ·exact .inl ⟨p,List.mem_singleton.mp m⟩
  exact DW.to B hb b (λρ=>Ag5 ρ (As1 h ρ) (x ρ)) (by simp only [List.length_cons];lia) (Bu2 B hb x h (by simp only [List.length_cons,List.length_nil];lia) y)
theorem Cn3 (B:B4 w g0){body:List SV}(hb:∀ρ,svRs ρ body=body):∀(l:List Row),l.length≤300→DW w g0 LvD body (Af0 l)
 | [],hl=>by
  have y1:DW w g0 LvD body [let1]:=DW.to B hb (Dw1 body []) (λu0=>rfl) (Nat.zero_le _) (DW.fin B hb)
  have y2:DW w g0 LvD body [let2,let1]:=DW.to B hb (Dw0 body [let1]) (λu0=>rfl) (by decide) y1
  exact DW.to B hb (Dv9 body [let2,let1]) (λu0=>rfl) (by decide) y2
 | r::l,hl=>by
  simp only [List.length_cons] at hl
  have y:=Cn3 B hb l (by exact Nat.le_of_lt ‹_›)
  have ln:=Ai2 l
  exact DW.to B hb (Dd0 body (r.stm::Af0 l)) (An7 (Au8 r) (Ae6 l)) (by rw [List.length_cons];lia) (dw_row B hb r (Ae6 l) (by lia) y)
theorem Bv0 (B:B4 w g0){body:List SV}{l:List Row}{b:Bool}{n:Nat}(hbody:body=(Af0 l).reverse)(hl:l.length≤300)(hn:n≤1000)(hb:lent l false=b)(e:Aw9 (TM w g0 LvB LvB) body (esB b)=Ap7 (TM w g0 LvB LvB) body (esB b) n):
  CK w g0 113 78 [.loc 0,.loc 4] (hpX body) (.loc 6) (hpX body++[.dict (esB b)]):=by
 have br:∀ρ,svRs ρ body=body:=λρ=>by simp only [hbody,Ac5,Ae6]
 have ln:=Ai2 l
 have Y:BW w g0 LvB body (esB b) [] body.reverse:=by
  have:=Co9 B br b l false hl hb
  rw [hbody,List.reverse_reverse,← hbody]
  exact this
 have lb:body.reverse.length≤1000:=by simp only [hbody,List.reverse_reverse,ln];lia
 have C:=Ad2 (M:=LvB-1) (T:=TM w g0 LvB LvB) B Aa5 (sums:=[]) rfl e (.cons (Y.pre (hp0:=hpW body [] body.reverse n) ⟨.refl _,.refl _,.refl _,.refl _,.refl _,.refl _,.refl _,Aj8 lb,trivial⟩) .nil)
 have xe:Bb0 body (esB b) []:=⟨br,Ba2 b,λu0=>rfl⟩
 refine C.take (k:=7) (show 6≤7 by decide) rfl rfl (λρ f=>?_) (λρ f=>congrArg SV.loc (f _ (by decide)))
 have f0:=f 1 (by decide)
 have f2:=f 2 (by decide)
 have f3:=f 3 (by decide)
 have f5:=f 5 (by decide)
 refine ⟨?_,Af9 ?_,A3 rfl (by decide),Aa2 rfl,?_,Af9 rfl,Aa2 (Ba2 b ρ),trivial⟩
 ·show A0.inst 95 1 = .inst 95 (ρ 1);rw [f0]
 ·show [(_,_),(_,SV.loc (ρ 2)),(_,_),(_,_),(_,_),(_,SV.tup (svRs ρ body)),(_,SV.loc (ρ 3))]=_;rw [f2,f3,br];rfl
 ·show A0.inst 854 5 = .inst 854 (ρ 5);rw [f5]
theorem Bu4 (B:B4 w g0){body:List SV}{l:List Row}{n:Nat}(hbody:body=(Af0 l).reverse)(hl:l.length≤300)(e:Aw7 (TM w g0 LvD LvD) body=Ap4 (TM w g0 LvD LvD) body n)(HP:List A0):
  CK w g0 113 772 [.tup body] HP (.bool false) HP:=by
 have br:∀ρ,svRs ρ body=body:=λρ=>by simp only [hbody,Ac5,Ae6]
 have ln:=Ai2 l
 have Y:DW w g0 LvD body body.reverse:=by
  have:=Cn3 B br l hl
  rw [hbody,List.reverse_reverse,← hbody]
  exact this
 have lb:body.reverse.length≤1000:=by simp only [hbody,List.reverse_reverse,ln];lia
 have C:=Ad2 (M:=LvD-1) (T:=TM w g0 LvD LvD) B Aa5 (sums:=[]) rfl e (.cons (Y.pre (hp0:=[.list body.reverse n]) ⟨Aj8 lb,trivial⟩) .nil)
 have C0:=C.take (k:=0) (Nat.le_refl _) rfl rfl (λu0 u0=>trivial) λu0 u0=>rfl
 exact (C0.pure HP (Df0 (Ay3 br)) λu0=>rfl).mono (by decide)
theorem Dy4 (B:B4 w g0){l:List Row}{b:Bool}(h1:l≠[])(h2:l.length≤4)(hb:lent l false=b):CK w g0 113 78 [.loc 0,.loc 4] (hpX (Af0 l).reverse) (.loc 6) (hpX (Af0 l).reverse++[.dict (esB b)]):=by
 revert hb
 exact l4E h1 h2 (λr1 hb=>Bv0 B rfl (by simp) (by decide) hb (Dy0 _ let1 let2 let3 r1.stm shown (esB b))) (λr2 r1 hb=>Bv0 B rfl (by simp) (by decide) hb (Dx9 _ let1 let2 let3 r1.stm shown r2.stm shown (esB b))) (λr3 r2 r1 hb=>Bv0 B rfl (by simp) (by decide) hb (Dx8 _ let1 let2 let3 r1.stm shown r2.stm shown r3.stm shown (esB b))) (λr4 r3 r2 r1 hb=>Bv0 B rfl (by simp) (by decide) hb (De0 _ let1 let2 let3 r1.stm shown r2.stm shown r3.stm shown r4.stm shown (esB b)))
theorem Dw5 (B:B4 w g0){l:List Row}(h1:l≠[])(h2:l.length≤4)(HP:List A0):CK w g0 113 772 [.tup (Af0 l).reverse] HP (.bool false) HP:=by
 exact l4E h1 h2 (λr1=>Bu4 B rfl (by simp) (Dw4 _ let1 let2 let3 r1.stm shown) HP) (λr2 r1=>Bu4 B rfl (by simp) (Dw3 _ let1 let2 let3 r1.stm shown r2.stm shown) HP) (λr3 r2 r1=>Bu4 B rfl (by simp) (Dw2 _ let1 let2 let3 r1.stm shown r2.stm shown r3.stm shown) HP) (λr4 r3 r2 r1=>Bu4 B rfl (by simp) (Dd4 _ let1 let2 let3 r1.stm shown r2.stm shown r3.stm shown r4.stm shown) HP)
end
section
variable {w:World}{g0:Heap}{M N:Nat}
theorem R1_b:PcB 4 ⟨R1,I1⟩:=⟨λu0=>rfl,λu0=>rfl,by decide,by decide⟩
theorem R2_b:PcB 5 ⟨R2,I2⟩:=⟨λu0=>rfl,λu0=>rfl,by decide,by decide⟩
theorem R3_b (b:Bool):PcB 8 ⟨R3 b,I3 b⟩:=by cases b<;>exact ⟨λu0=>rfl,λu0=>rfl,by decide,by decide⟩
theorem let1_c (B:B4 w g0)(b:Bool):CK w g0 113 726 [.loc 0,let1] (hpI b 0 [] [] [] 1000 1000) .none (hpI b 1 hd1 R1 I1 1000 1000):=
 (Ar1 (M:=0) (Q:=⟨R1,I1⟩) B Aa8 rfl (Cy6 b) rfl .nil (λu0=>rfl) (R1_b.mono (by simp +arith)) (by decide) (by decide) (re_fix none_re)).mono (by decide)
theorem let2_c (B:B4 w g0)(b:Bool):CK w g0 113 726 [.loc 0,let2] (hpI b 1 hd1 R1 I1 1000 1000) .none (hpI b 1 hd2 R2 I2 1000 1000):=
 (Ar1 (M:=0) (Q:=⟨R2,I2⟩) B Aa8 rfl (Cy5 b) rfl .nil (λu0=>rfl) (R2_b.mono (by simp +arith)) (by decide) (by decide) (re_fix none_re)).mono (by simp +arith)
theorem let3_c (B:B4 w g0)(b:Bool):CK w g0 113 726 [.loc 0,let3] (hpI b 1 hd2 R2 I2 1000 1000) .none (hpI b (g3 b) hd3 (R3 b) (I3 b) 1000 1000):=
 (Ar1 (M:=0) (Q:=⟨R3 b,I3 b⟩) B Aa8 rfl (Cy4 b) rfl .nil (λu0=>rfl) ((R3_b b).mono (by simp +arith)) (by decide) (by cases b<;>decide) (re_fix none_re)).mono (by simp +arith)
theorem Cu0 {n:Nat}{P:Pc}(x:PcB n P)(b:Bool):PcB (n+13) (shP b P):=by
 have y1:=Cf5 x b .x
 have y2:=Cf5 y1 b (.a (.c 0))
 exact ((Cf5 (Cf5 y2 b (.a (.c 1))) b (.a (.c 2))).put (i:=.tup [.str "print",.tup [rg 0,rg 1,rdO b .x P.R,rdO b (.a (.c 0)) (rdP b .x P.R P.I).R,rdO b (.a (.c 1)) _,rdO b (.a (.c 2)) _],.tup [B1,B1,B1,B1,B1,B1]]) λρ=>by simp only [svT,svL,svI,svS,svO,svN,svC,Dg9])
theorem Do2 (B:B4 w g0)(b:Bool)(g:Int){P:Pc}(x:PcB 900 P):CK w g0 113 726 [.loc 0,shown] (hpl b g P) .none (hpl b g (shP b P)):=
 (Ar1 (M:=0) (hd:=hd3) B Aa8 rfl (Cd7 b g P) rfl .nil hd3_re ((Cu0 x b).mono (by simp +arith)) (by exact Nat.le_add_right _ _) (by exact Nat.le_add_right _ _) (re_fix none_re)).mono (by simp +arith)
noncomputable def NsTo:List (Str×SV)→List (Str×SV)→Prop
 | [],[]=>True
 | p::l,q::m=>p.1=q.1∧Ag2 p.2 q.2∧NsTo l m
 | _,_=>False
theorem NsTo.look:∀{l m:List (Str×SV)},NsTo l m→∀n:Str,(∀v,look m n=some v→∃u,look l n=some u∧Ag2 u v)∧(look m n=none→look l n=none)
 | [],[],_,n=>⟨λv e=>(by exact no1 e),λu0=>rfl⟩
 | p::l,q::m,h,n=>by
  have ih:=NsTo.look h.2.2 n
  show (∀v,(match seq q.1 n with | true=>some q.2 | false=>Mine.look m n)=some v→∃u,(match seq p.1 n with | true=>some p.2 | false=>Mine.look l n)=some u∧Ag2 u v)∧((match seq q.1 n with | true=>some q.2 | false=>Mine.look m n)=none→(match seq p.1 n with | true=>some p.2 | false=>Mine.look l n)=none)
  refine (h.1).symm▸?_
  cases seq q.1 n with
  | true=>exact ⟨λv e=>by cases e;exact ⟨p.2,rfl,h.2.1⟩,λe=>by exact no3 e⟩
  | false=>exact ih
theorem to_ns {es es':List (Str×SV)}(t:NsTo es es'):Bj8 w (.ns es) (.ns es'):=λX as h a x=>by
 refine Bk4 x λm hm h1 h2=>?_
 refine ⟨m,hm,λn v e=>?_,λn e=>h2 n ((t.look n).2 e)⟩
 refine oEA ((t.look n).1 v e) λu e1 q=>?_
 obtain ⟨y,e2,vy⟩:=h1 n u e1
 exact ⟨y,e2,q X as h y vy⟩
theorem Ag2.fset {l m:List Int}(h:∀i:Int,(l.any λj=>decide (j=i))=m.any λj=>decide (j=i)):Ag2 (.fset l) (.fset m):=λX as hh x v=>by
 cases v with
 | fset l a f=>
  obtain ⟨o,es,n,t,ho,hc,hd,r⟩:=f
  refine .fset _ _ ⟨o,es,n,t,ho,hc,hd,λp w' i tk A Q E s hs k=>?_⟩
  exact r p w' i tk A Q E s hs λtk'=>by rw [h];exact k tk'
noncomputable def Bk0:List (SV×SV)→List (SV×SV)→Prop
 | [],[]=>True
 | p::l,q::m=>p.1=q.1∧Ag2 p.2 q.2∧Bk0 l m
 | _,_=>False
theorem Bk0.s [X:Hid]{as:List Addr}{h:Heap}:∀{l m:List (SV×SV)} {vs:List (MK×Value)},Bk0 l m→DRs as h l vs→DRs as h m vs
 | [],[],vs,_,x=>x
 | p::l,q::m,vs,t,x=>by
  obtain ⟨k,v,ws,rfl,e,hv,r⟩:=x.cons_inv
  obtain ⟨q1,q2⟩:=q
  have e':q1=k.sv:=by exact e▸t.1.symm
  subst e'
  exact DRs.cons (t.2.1 X as h v hv) (Bk0.s t.2.2 r)
theorem to_dict {es es':List (SV×SV)}(t:Bk0 es es'):Bj8 w (.dict es) (.dict es'):=λX as h a x=>by
 refine oEA x λkvs hd hr=>?_
 exact ⟨kvs,hd,t.s hr⟩
end
section
variable {w:World}{g0:Heap}{M N:Nat}
noncomputable def jsL:List Nat:=[14,13,5,6,1,2,11,15,16,20,3,19,21,18,23,22,4]
abbrev Cz8 (bd cd:SV)(b:Bool)(bx:List Int)(S:Ls)(n m:Nat):List A0:=Ck9 bd cd (esB b) bx S n m++[.list [] 0]
theorem Ct4 (b:Bool)(bd cd:SV)(S:Ls)(hh:∀ρ,esR ρ S.hd=S.hd)(x:PcB 1000 S.P):Ak9 (rn jsL (Cz8 bd cd b (bxs b) S 1000 1000).length) (Cz8 bd cd b (bxs b) S 1000 1000) jsL (hpI b S.g S.hd S.P.R S.P.I 1000 1000):=
 ⟨⟨_,rfl,rfl⟩,⟨_,rfl,Af9 rfl⟩,⟨_,rfl,rfl⟩,⟨_,rfl,Af9 rfl⟩,⟨_,rfl,rfl⟩,
  ⟨_,rfl,_,rfl,rfl,.inr rfl,rfl,.inr rfl,rfl,.inr rfl,rfl,.inr rfl,rfl,.inr rfl,rfl,.inl rfl,rfl,.inr rfl,trivial⟩,
  ⟨_,rfl,_,rfl,rfl,.inr rfl,rfl,.inr rfl,rfl,.inr rfl,rfl,.inr rfl,rfl,.inl rfl,trivial⟩,
  ⟨_,rfl,Aa2 (hh _)⟩,⟨_,rfl,Aa2 rfl⟩,⟨_,rfl,rfl⟩,⟨_,rfl,A3 rfl (by decide)⟩,⟨_,rfl,Af9 rfl⟩,⟨_,rfl,A3 (x.r _) x.lr⟩,⟨_,rfl,A3 rfl (by decide)⟩,⟨_,rfl,A3 rfl (by decide)⟩,⟨_,rfl,A3 (x.i _) x.li⟩,⟨_,rfl,Aa2 rfl⟩,trivial⟩
theorem Ct3 (b:Bool)(S:Ls)(hh:∀ρ,esR ρ S.hd=S.hd)(x:PcB 1000 S.P)(n:Nat)(hn:n=25):An8 (rn jsL n) (Cz8 .any .any b (bxs b) S 1000 1000) 0 (hpI b S.g S.hd S.P.R S.P.I 1000 1000):=by
 refine ⟨rfl,rfl,rfl,rfl,rfl,rfl,rfl,?_,rfl,rfl,rfl,rfl,?_,rfl,rfl,?_,rfl,trivial⟩
 ·exact congrArg (λl=>some (A0.dict l)) (hh _).symm
 ·exact congrArg (λl=>some (A0.list l 1000)) (x.r _).symm
 ·exact congrArg (λl=>some (A0.list l 1000)) (x.i _).symm
theorem fsB (b:Bool):Ag2 (.fset (bxB b)) (.fset (bxs b)):=by
 cases b with
 | true=>exact Ag2.fset λi=>by simp only [bxB,bxs,List.any_cons,List.any_nil,Bool.or_false];exact Bool.or_comm _ _
 | false=>exact .refl _
theorem fsB' (b:Bool):Ag2 (.fset (bxs b)) (.fset (bxB b)):=by
 cases b with
 | true=>exact Ag2.fset λi=>by simp only [bxB,bxs,List.any_cons,List.any_nil,Bool.or_false];exact Bool.or_comm _ _
 | false=>exact .refl _
theorem Ae8.append:∀{a b c d:List A0},Ae8 w a b→Ae8 w c d→Ae8 w (a++c) (b++d)
 | [],[],c,d,_,y=>y
 | [],_::_,_,_,h,_=>h.elim
 | _::_,[],_,_,h,_=>h.elim
 | o::a,p::b,c,d,x,y=>⟨x.1,Ae8.append x.2 y⟩
theorem bx_to {bx bx':List Int}(h:Ag2 (.fset bx) (.fset bx'))(bd cd:SV)(b:Bool)(S:Ls){n m:Nat}(hn:S.P.R.length≤1000)(hm:S.P.I.length≤1000):Ae8 w (Cz8 bd cd b bx S n m) (Cz8 bd cd b bx' S 1000 1000):=
 ⟨.refl _,.refl _,.refl _,.refl _,.refl _,.refl _,.refl _,.refl _,.refl _,.refl _,.refl _,.refl _,.refl _,to_ns ⟨rfl,.refl _,rfl,.refl _,rfl,h,rfl,.refl _,rfl,.refl _,rfl,.refl _,rfl,.refl _,rfl,.refl _,rfl,.refl _,rfl,.refl _,rfl,.refl _,trivial⟩,
  .refl _,.refl _,.refl _,.refl _,.refl _,.refl _,.refl _,Aj8 hn,Aj8 hm,.refl _,.refl _,trivial⟩
theorem Cd2 {b:Bool}{S S':Ls}{s:SV}(bd cd:SV)(C:CK w g0 M 726 [.loc 0,s] (hpI b S.g S.hd S.P.R S.P.I 1000 1000) .none (hpI b S'.g S'.hd S'.P.R S'.P.I 1000 1000))(hs:∀ρ,svR ρ s=s)
  (hh:∀ρ,esR ρ S.hd=S.hd)(x:PcB 1000 S.P)(hh':∀ρ,esR ρ S'.hd=S'.hd)(x':PcB 1000 S'.P){n m:Nat}:
  CK w g0 M 726 [.loc 14,s] (Cz8 bd cd b (bxB b) S n m) .none (Cz8 .any .any b (bxB b) S' 1000 1000):=by
 have F:CK w g0 M 726 [.loc 14,s] (Cz8 bd cd b (bxs b) S 1000 1000) .none (Cz8 .any .any b (bxs b) S' 1000 1000):=
  C.frame (js:=jsL) rfl (Ct4 b bd cd S hh x) rfl (Nat.le_refl _)
   ⟨rfl,trivial,trivial,trivial,trivial,trivial,trivial,rfl,rfl,rfl,rfl,trivial,rfl,trivial,trivial,trivial,trivial,rfl,trivial,trivial,trivial,trivial,trivial,trivial,rfl,trivial⟩
   (Ct3 b S' hh' x' _ rfl) (by show [SV.loc 14,svR _ s]=_;rw [hs]) rfl
 exact (F.pre (bx_to (fsB b) bd cd b S x.lr x.li)).post (bx_to (fsB' b) .any .any b S' x'.lr x'.li)
end
inductive Es where
 | e0 | e1 (x:Int) | e2 (x a0 a1 a2:Int)
def Es.es:Es→List (SV×SV)
 | .e0=>[]
 | .e1 x=>ob1 x
 | .e2 x a0 a1 a2=>ob2 x a0 a1 a2
noncomputable def Es.mny:Es→Int
 | .e0=>0
 | .e1 _=>1
 | .e2 _ _ _ _=>2
abbrev Rg:=Nat→Option VV
def rgM (f:Rg):CM:=λk=>match k with
 | .i (.ofNat n)=>(f n).map VV.sv
 | _=>none
noncomputable def Rg.put (f:Rg)(n:Nat)(v:VV):Rg:=λk=>if k=n then some v else f k
theorem Cf1 (f:Rg)(n:Nat)(v:VV):Am2 (rgM f) n v.sv=rgM (f.put n v):=by
 funext k
 unfold Am2 rgM Rg.put
 cases k with
 | s x=>rfl
 | i z=>cases z with
  | ofNat k=>
   by_cases h:k=n
   ·subst h;simp
   ·have:¬ (MK.i (Int.ofNat k)=MK.i (n:Int)):=λe=>by cases e;exact h rfl
    refine Eq.trans (if_neg this) ?_;dsimp only;exact congrArg _ (if_neg h).symm
  | negSucc k=>exact (if_neg (λe=>by cases e))
theorem Ab1 {f:Rg}{n:Nat}{v:VV}(h:f n=some v):rgM f (.i (n:Int))=some v.sv:=by
 show (f n).map VV.sv=_
 exact congrArg _ h
theorem sv_re (v:VV)(ρ:Nat→Nat):svR ρ v.sv=v.sv:=by cases v<;>rfl
theorem Bg0 (f:Rg)(ρ:Nat→Nat):(λk=>(rgM f k).map (svR ρ))=rgM f:=by
 funext k
 unfold rgM
 cases k with
 | s x=>rfl
 | i z=>cases z with
  | ofNat k=>
   dsimp only
   cases f k with
   | none=>rfl
   | some v=>show some _=some _;rw [sv_re]
  | negSucc k=>rfl
def Rg.Lt (f:Rg)(N:Nat):Prop:=∀n,f n≠none→n<N
theorem Rg.Lt.put {f:Rg}{N n:Nat}{v:VV}(h:f.Lt N)(hn:n<N):(f.put n v).Lt N:=λk hk=>by
 unfold Rg.put at hk
 by_cases e:k=n
 ·exact e▸hn
 ·rw [if_neg e] at hk;exact h k hk
theorem rgM_ks {f:Rg}{N:Nat}(h:f.Lt N):∀k,rgM f k≠none→k∈(List.range N).map λn=>MK.i (Int.ofNat n):=λk hk=>by
 unfold rgM at hk
 cases k with
 | s x=>exact absurd rfl hk
 | i z=>cases z with
  | ofNat k=>
   dsimp only at hk
   exact List.mem_map.mpr ⟨k,List.mem_range.mpr (h k λe=>by replace hk:=e▸hk;exact hk rfl),rfl⟩
  | negSucc k=>exact absurd rfl hk
inductive Opv (f:Rg):SV→VV→Prop
 | r (q:Nat) (v:VV):f q=some v→Opv f (rg q) v
 | c (n:Int):Opv f (cop n) (.int n)
inductive Ay1:Es×Rg→SV→Es×Rg→Prop
 | move (e f) (r:Nat) (o:SV) (v:VV):Opv f o v→Ay1 (e,f) (ins "move" r [o]) (e,f.put r v)
 | bin (e f) (r q:Nat) (o:SV) (a n:Int):f q=some (.int a)→Opv f o (.int n)→Ay1 (e,f) (ins "binary" r [.str "+",rg q,o,B1]) (e,f.put r (.int (a+n)))
 | load1 (f x) (r q:Nat):f q=some .px→Ay1 (.e1 x,f) (ins "load" r [rg q]) (.e1 x,f.put r (.int x))
 | load2 (f x a0 a1 a2) (r q:Nat):f q=some .px→Ay1 (.e2 x a0 a1 a2,f) (ins "load" r [rg q]) (.e2 x a0 a1 a2,f.put r (.int x))
 | loada (f x a0 a1 a2) (r q:Nat) (k:Fin 3):f q=some (.pe (k:Int))→Ay1 (.e2 x a0 a1 a2,f) (ins "load" r [rg q]) (.e2 x a0 a1 a2,f.put r (.int (at3 a0 a1 a2 k)))
 | store1 (f x) (q:Nat) (o:SV) (v:Int):f q=some .px→Opv f o (.int v)→Ay1 (.e1 x,f) (stS q o) (.e1 v,f)
 | store2 (f x a0 a1 a2) (q:Nat) (o:SV) (v:Int):f q=some .px→Opv f o (.int v)→Ay1 (.e2 x a0 a1 a2,f) (stS q o) (.e2 v a0 a1 a2,f)
 | storea (f x a0 a1 a2) (q:Nat) (k:Fin 3) (o:SV) (v:Int):f q=some (.pe (k:Int))→Opv f o (.int v)→Ay1 (.e2 x a0 a1 a2,f) (stS q o) (.e2 x (set3 a0 a1 a2 v k).1 (set3 a0 a1 a2 v k).2.1 (set3 a0 a1 a2 v k).2.2,f)
 | storarr (f x b0 b1 b2 a0 a1 a2) (q p:Nat):f q=some .pa→f p=some (.arr a0 a1 a2)→Ay1 (.e2 x b0 b1 b2,f) (stS q (rg p)) (.e2 x a0 a1 a2,f)
 | eptr (e f) (r q:Nat) (o:SV) (k:Int):f q=some .pa→Opv f o (.int k)→Ay1 (e,f) (ins "elemptr" r [rg q,o]) (e,f.put r (.pe k))
 | elem (e f) (r q:Nat) (o:SV) (a0 a1 a2:Int) (k:Fin 3):f q=some (.arr a0 a1 a2)→Opv f o (.int (k:Int))→Ay1 (e,f) (ins "elem" r [rg q,o]) (e,f.put r (.int (at3 a0 a1 a2 k)))
 | newx (f) (r:Nat) (s:SV):Ay1 (.e0,f) (ins "new" r [B1,.tup [.str "main.f",s]]) (.e1 0,f.put r .px)
 | newa (f x) (r:Nat) (s:SV):Ay1 (.e1 x,f) (ins "new" r [Cp9,.tup [.str "main.f",s]]) (.e2 x 0 0 0,f.put r .pa)
 | arr (e f) (r:Nat) (a b c:Int):Ay1 (e,f) (ins "array" r [.tup [cop a,cop b,cop c]]) (e,f.put r (.arr a b c))
def wrt (s:Es×Rg)(t:Es×Rg)(N:Nat):Prop:=s.2.Lt N→t.2.Lt N
def Ai6 (s:Es×Rg)(l:Int)(pr:List SV):Ms:=⟨s.1.es,s.1.mny,l,pr,rgM s.2⟩
theorem Bz4 (e:Es)(ρ:Nat→Nat):esR ρ e.es=e.es:=by cases e<;>rfl
section
variable {w:World}{g0:Heap}{M N:Nat}
def ExOk (ex:List A0):Prop:=∀ρ,Fix (7+ex.length) ρ→Ac4 ρ ex
theorem Ac4.append {ρ:Nat→Nat}:∀{l m:List A0},Ac4 ρ l→Ac4 ρ m→Ac4 ρ (l++m)
 | [],m,_,y=>y
 | o::l,m,x,y=>⟨x.1,Ac4.append x.2 y⟩
theorem Ae8.app:∀{a b c d:List A0},Ae8 w a b→Ae8 w c d→Ae8 w (a++c) (b++d)
 | [],[],c,d,_,y=>y
 | [],_::_,_,_,h,_=>h.elim
 | _::_,[],_,_,h,_=>h.elim
 | o::a,p::b,c,d,x,y=>⟨x.1,Ae8.app x.2 y⟩
theorem Cf8 (ρ:Nat→Nat):∀k:Nat,Fix (13+k) ρ→svRs ρ (B6 13 k)=B6 13 k
 | 0,_=>rfl
 | k+1,f=>by
  show SV.loc (ρ (13+k))::svRs ρ (B6 13 k)=_
  simp only [f (13+k) (by exact Nat.le_refl _),Cf8 ρ k λj hj=>f j (by lia)];rfl
theorem An1 (N:Nat):∀k:Nat,(B6 N k).length=k
 | 0=>rfl
 | k+1=>congrArg (· + 1) (An1 N k)
theorem Di1 {s:Es×Rg}{l:Int}{k:Nat}{n:Nat}(hk:k≤4):∀ρ,Fix (13+k) ρ→Ac4 ρ (Bn4 (Ai6 s l (B6 13 k)) n):=λρ f=>by
 have f3:=f 3 (by simp +arith)
 have f5:=f 5 (by simp +arith)
 have f6:=f 6 (by simp +arith)
 exact ⟨Aa2 (by simp [esN,esC,svT,svL,svI,svS,svO,(f 1 (by simp +arith)),(f 2 (by simp +arith)),f3]),Aa2 (Bz4 _ _),A3 (Cf8 ρ k f) (by rw [show (Ai6 s l (B6 13 k)).pr.length=k from An1 13 k];lia),Aa2 rfl,Aa2 (by simp [esN,esC,svT,svL,svI,svS,svO,f5,f6]),At8 (Bg0 _ _) (Nat.le_refl _),A3 rfl (Nat.le_refl _),trivial⟩
theorem hpV_to {s:Es×Rg}{l:Int}{pr:List SV}{n:Nat}(h:s.2.Lt 900):Ae8 w (Bn4 (Ai6 s l pr) n) (Bn4 (Ai6 s l pr) 1000):=
 ⟨.refl _,.refl _,.refl _,.refl _,.refl _,Bq3 (rgM_ks h) (by simp),.refl _,trivial⟩
def StC (w:World)(g0:Heap)(s:Es×Rg)(l:Int)(ex:List A0)(row:SV)(t:Es×Rg):Prop:=
 CK w g0 49 1024 [.loc 0,.any,.loc 4,row] (Bn4 (Ai6 s l (B6 13 (ex.length-6))) 1000++ex) .none (Bn4 (Ai6 t (l-1) (B6 13 (ex.length-6))) 1000++ex)
theorem Bf6 (B:B4 w g0){s t:Es×Rg}{l:Int}{ex:List A0}(hx:Exs ex)(ho:ExOk ex){row:SV}{o:List SV}{n:Nat}{ob:List Prop}(ht:t.2.Lt 900)
  (e:Aa9 s.1.es s.1.mny l (B6 13 (ex.length-6)) (rgM s.2) row o ex=some (.none,hpV t.1.es t.1.mny (l-1) (B6 13 (ex.length-6)) (rgM t.2) n++ex,ob))(hob:All ob):StC w g0 s l ex row t:=by
 refine oEA (Aa0 e) λst e1 e2=>?_
 have hl:(Bn4 (Ai6 t (l-1) (B6 13 (ex.length-6))) n++ex).length=7+ex.length:=by exact (List.length_append)
 have C:=(Ad2 (M:=0) B Aa8 rfl e1 hob).take (k:=7+ex.length) (by exact (List.length_append)▸Nat.le_refl _) e2 hl (λρ f=>?_) λρ u0=>rfl
 ·exact C.post (Ae8.app (hpV_to ht) (.refl _))
 ·have h6:7+ex.length=13+(ex.length-6):=by have:=hx.1;grind
  exact Ac4.append (Di1 (s:=t) (l:=l-1) (by have:=hx.2;lia) ρ (h6▸f)) (ho ρ f)
end
section
variable {w:World}{g0:Heap}{M N:Nat}
theorem Ag8 (B:B4 w g0){s:Es×Rg}{e':Es}{r:Nat}{v:VV}{l:Int}{ex:List A0}(hx:Exs ex)(ho:ExOk ex){row:SV}{o:List SV}{n:Nat}{ob:List Prop}(ht:(s.2.put r v).Lt 900)
  (e:Aa9 s.1.es s.1.mny l (B6 13 (ex.length-6)) (rgM s.2) row o ex=some (.none,hpV e'.es e'.mny (l-1) (B6 13 (ex.length-6)) (Am2 (rgM s.2) r v.sv) n++ex,ob))
  (hob:rgM (s.2.put r v) (.i (r:Int))=some v.sv→All ob):StC w g0 s l ex row (e',s.2.put r v):=by
 refine Bf6 B hx ho ht (by rw [← Cf1];exact e) (hob (Ab1 ?_))
 unfold Rg.put
 rw [if_pos rfl]
theorem Ao4 {f:Rg}{r:Nat}{v:VV}(z:rgM (f.put r v) (.i (r:Int))=some v.sv):Am2 (rgM f) r v.sv (.i (r:Int))=some v.sv:=by
 rw [Cf1];exact z
theorem step_c (B:B4 w g0){s t:Es×Rg}{l:Int}{ex:List A0}(hx:Exs ex)(ho:ExOk ex){row:SV}(h:Ay1 s row t)(ht:t.2.Lt 900):StC w g0 s l ex row t:=by
 cases h with
 | move e f r o v hv=>
  cases hv with
  | r q v h=>exact Ag8 B hx ho ht (move_r e.es e.mny l _ (rgM f) r q v hx) λz=>.cons (Ab1 h) (.cons (Ao4 z) .nil)
  | c n=>exact Ag8 (v:=.int n) B hx ho ht (move_c e.es e.mny l _ (rgM f) r n hx) λz=>.cons (Ao4 (v:=.int n) z) .nil
 | bin e f r q o a n h hv=>
  cases hv with
  | r p _ h2=>exact Ag8 (v:=.int (a+n)) B hx ho ht (bin_rr e.es e.mny l _ (rgM f) r q p a n hx) λz=>.cons (Ab1 h) (.cons (Ab1 h2) (.cons (Ao4 (v:=.int (a+n)) z) .nil))
  | c _=>exact Ag8 (v:=.int (a+n)) B hx ho ht (bin_rc e.es e.mny l _ (rgM f) r q a n hx) λz=>.cons (Ab1 h) (.cons (Ao4 (v:=.int (a+n)) z) .nil)
 | load1 f x r q h=>exact Ag8 (e':=.e1 x) (v:=.int x) B hx ho ht (load_1 1 l _ (rgM f) r q x hx) λz=>.cons (Ab1 h) (.cons (Ao4 (v:=.int x) z) .nil)
 | load2 f x a0 a1 a2 r q h=>exact Ag8 (e':=.e2 x a0 a1 a2) (v:=.int x) B hx ho ht (load_x 2 l _ (rgM f) r q x a0 a1 a2 hx) λz=>.cons (Ab1 h) (.cons (Ao4 (v:=.int x) z) .nil)
 | loada f x a0 a1 a2 r q k h=>exact Ag8 (e':=.e2 x a0 a1 a2) (v:=.int (at3 a0 a1 a2 k)) B hx ho ht (load_a 2 l _ (rgM f) r q x a0 a1 a2 k hx) λz=>.cons (Ab1 h) (.cons (Ao4 (v:=.int (at3 a0 a1 a2 k)) z) .nil)
 | store1 f x q o v h hv=>
  cases hv with
  | r p _ h2=>exact Bf6 (t:=(.e1 v,f)) B hx ho ht (Dn7 1 l _ (rgM f) q p x v hx) (.cons (Ab1 h) (.cons (Ab1 h2) .nil))
  | c _=>exact Bf6 (t:=(.e1 v,f)) B hx ho ht (Ct2 1 l _ (rgM f) q x v hx) (.cons (Ab1 h) .nil)
 | store2 f x a0 a1 a2 q o v h hv=>
  cases hv with
  | r p _ h2=>exact Bf6 (t:=(.e2 v a0 a1 a2,f)) B hx ho ht (Dn5 2 l _ (rgM f) q p x a0 a1 a2 v hx) (.cons (Ab1 h) (.cons (Ab1 h2) .nil))
  | c _=>exact Bf6 (t:=(.e2 v a0 a1 a2,f)) B hx ho ht (Ct0 2 l _ (rgM f) q x a0 a1 a2 v hx) (.cons (Ab1 h) .nil)
 | storea f x a0 a1 a2 q k o v h hv=>
  cases hv with
  | r p _ h2=>exact Bf6 (t:=(.e2 x _ _ _,f)) B hx ho ht (Dn6 2 l _ (rgM f) q p x a0 a1 a2 v k hx) (.cons (Ab1 h) (.cons (Ab1 h2) .nil))
  | c _=>exact Bf6 (t:=(.e2 x _ _ _,f)) B hx ho ht (Ct1 2 l _ (rgM f) q x a0 a1 a2 v k hx) (.cons (Ab1 h) .nil)
 | storarr f x b0 b1 b2 a0 a1 a2 q p h h2=>exact Bf6 (t:=(.e2 x a0 a1 a2,f)) B hx ho ht (Cd0 2 l _ (rgM f) q p x b0 b1 b2 a0 a1 a2 hx) (.cons (Ab1 h) (.cons (Ab1 h2) .nil))
 | eptr e f r q o k h hv=>
  cases hv with
  | r p _ h2=>exact Ag8 (v:=.pe k) B hx ho ht (eptr_r e.es e.mny l _ (rgM f) r q p k hx) λz=>.cons (Ab1 h) (.cons (Ab1 h2) (.cons (Ao4 z) .nil))
  | c _=>exact Ag8 (v:=.pe k) B hx ho ht (eptr_c e.es e.mny l _ (rgM f) r q k hx) λz=>.cons (Ab1 h) (.cons (Ao4 z) .nil)
 | elem e f r q o a0 a1 a2 k h hv=>
  cases hv with
  | r p _ h2=>exact Ag8 (v:=.int (at3 a0 a1 a2 k)) B hx ho ht (elem_r e.es e.mny l _ (rgM f) r q p a0 a1 a2 k hx) λz=>.cons (Ab1 h) (.cons (Ab1 h2) (.cons (Ao4 (v:=.int (at3 a0 a1 a2 k)) z) .nil))
  | c _=>exact Ag8 (v:=.int (at3 a0 a1 a2 k)) B hx ho ht (elem_c e.es e.mny l _ (rgM f) r q a0 a1 a2 k hx) λz=>.cons (Ab1 h) (.cons (Ao4 (v:=.int (at3 a0 a1 a2 k)) z) .nil)
 | newx f r s=>exact Ag8 (e':=.e1 0) (v:=.px) B hx ho ht (new_x l _ (rgM f) r s hx) λz=>.cons (Ao4 z) .nil
 | newa f x r s=>exact Ag8 (e':=.e2 x 0 0 0) (v:=.pa) B hx ho ht (new_a l _ (rgM f) r x s hx) λz=>.cons (Ao4 z) .nil
 | arr e f r a b c=>exact Ag8 (v:=.arr a b c) B hx ho ht (arr_c e.es e.mny l _ (rgM f) r a b c hx) λz=>.cons (Ao4 z) .nil
end
section
variable {w:World}{g0:Heap}{M N:Nat}
noncomputable def Af4 (ρ:Nat→Nat):List A0→List A0→Prop
 | [],[]=>True
 | o::l,O::L=>Af5 ρ o O∧Af4 ρ l L
 | _,_=>False
theorem Af4.get {ρ:Nat→Nat}:∀{l L:List A0},Af4 ρ l L→l.length=L.length∧∀(k:Nat) (o:A0),l[k]?=some o→∃O,L[k]?=some O∧Af5 ρ o O
 | [],[],_=>⟨rfl,λk o e=>by simp at e⟩
 | [],_::_,h=>h.elim
 | _::_,[],h=>h.elim
 | o::l,O::L,h=>by
  obtain ⟨i1,i2⟩:=h.2.get
  refine ⟨by rw [List.length_cons,List.length_cons,i1],λk o' e=>?_⟩
  cases k with
  | zero=>(replace e:=A9 e;subst e);exact ⟨O,rfl,h.1⟩
  | succ k=>rw [List.getElem?_cons_succ] at e ⊢;exact i2 k o' e
theorem Af4.of {ρ:Nat→Nat}:∀{l:List A0},Ac4 ρ l→Af4 ρ l l
 | [],_=>trivial
 | o::l,h=>⟨h.1,Af4.of h.2⟩
theorem Af4.append {ρ:Nat→Nat}:∀{a b c d:List A0},Af4 ρ a b→Af4 ρ c d→Af4 ρ (a++c) (b++d)
 | [],[],c,d,_,y=>y
 | [],_::_,_,_,h,_=>h.elim
 | _::_,[],_,_,h,_=>h.elim
 | o::a,p::b,c,d,x,y=>⟨x.1,Af4.append x.2 y⟩
theorem CK.skip {f:Addr}{hp hp' pre pre':List A0}{args:List SV}{v:SV}{c x:A0}{n:Nat}(C:CK w g0 M f args hp v hp')(e:hp'.take (n+2)=pre++[c,x])(hn:pre.length=n)(hk:hp.length≤n)
  (hl:∀ρ,Fix n ρ→ρ n=n+1→Af4 ρ pre' pre∧Af5 ρ x x)(hv:∀ρ,Fix n ρ→svR ρ v=v):CK w g0 M f args hp v (pre'++[x]):=λX=>by
 have hj:List.range hp.length++((List.range (n-hp.length)).map (hp.length + ·)++[n+1])=List.range n++[n+1]:=by
  rw [← List.append_assoc,← List.range_add]
  congr 2;grind
 have fx:Fix n (rn (List.range n++[n+1]) hp'.length):=λj h=>by
  refine Aq4 ?_
  rw [List.getElem?_append_left (by simpa using h),List.getElem?_range h]
 have fn:rn (List.range n++[n+1]) hp'.length n=n+1:=by
  refine Aq4 ?_
  rw [List.getElem?_append_right (by simp)];simp
 obtain ⟨l1,l2⟩:=hl _ fx fn
 have get:∀i,i<n+2→hp'[i]?=(pre++[c,x])[i]?:=λi hi=>by rw [← e,List.getElem?_take,if_pos hi]
 have pl:pre'.length=n:=by rw [l1.get.1,hn]
 refine Ai8 (ks:=(List.range (n-hp.length)).map (hp.length + ·)++[n+1]) (C X) ⟨by rw [hj];simp [pl],?_,λi o ei=>?_⟩ (λj hj'=>?_) ?_
 ·rw [hj,List.nodup_append]
  exact ⟨List.nodup_range,by simp,λa ha b hb q=>by rw [List.mem_singleton.mp hb] at q;have:=List.mem_range.mp ha;lia⟩
 ·rw [hj]
  by_cases hi:i<n
  ·rw [List.getElem?_append_left (pl▸hi)] at ei
   obtain ⟨O,e1,e2⟩:=l1.get.2 i o ei
   exact ⟨i,O,by rw [List.getElem?_append_left (by simpa using hi),List.getElem?_range hi],by rw [get i (by lia),List.getElem?_append_left (hn▸hi)];exact e1,e2⟩
  ·have hi':i=n:=by
    have:=(List.getElem?_eq_some_iff.mp ei).1
    rw [List.length_append,pl,List.length_singleton] at this
    lia
   subst hi'
   rw [List.getElem?_append_right (by lia),pl] at ei
   have:x=o:=by simpa using ei
   subst this
   exact ⟨i+1,x,by rw [List.getElem?_append_right (by simp)];simp,by rw [get (i+1) (by exact Nat.le_refl _),List.getElem?_append_right (by lia),hn];simp,l2⟩
 ·rcases List.mem_append.mp hj' with q | q
  ·obtain ⟨i,_,rfl⟩:=List.mem_map.mp q;exact Nat.le_add_right _ _
  ·rw [List.mem_singleton.mp q];lia
 ·rw [hj];exact hv _ fx
abbrev Sh:=Int×Int×Int×Int×Int×Int
noncomputable def shO (d:Sh):A0:=shL d.1 d.2.1 d.2.2.1 d.2.2.2.1 d.2.2.2.2.1 d.2.2.2.2.2
def exB (I:List SV)(tl:List Sh):List A0:=hpC I++(cF::tl.map shO)
theorem Aw4 (I:List SV)(tl:List Sh):(exB I tl).length=6+tl.length:=by
 show (hpC I++(cF::tl.map shO)).length=_
 rw [List.length_append,List.length_cons,List.length_map]
 show 5+_=_
 simp +arith
theorem Ct9:∀(tl:List Sh) (ρ:Nat→Nat),Ac4 ρ (tl.map shO)
 | [],_=>trivial
 | d::tl,ρ=>⟨A3 rfl (Nat.le_refl _),Ct9 tl ρ⟩
structure IOk (I:List SV):Prop where
 re:∀ρ,svRs ρ I=I
 len:I.length≤1000
theorem Cl6 {I:List SV}(hI:IOk I)(tl:List Sh):ExOk (exB I tl):=λρ f=>by
 rw [Aw4] at f
 have f4:=f 4 (by simp +arith)
 have f7:=f 7 (by simp +arith)
 have f8:=f 8 (by simp +arith)
 have f9:=f 9 (by simp +arith)
 have f10:=f 10 (by simp +arith)
 refine Ac4.append (l:=hpC I) ⟨A3 (hI.re ρ) hI.len,A3 (by simp [svN,svC,svT,svL,svI,svS,svO,svB,svA,svF,svG,f7]) (by simp),A3 (by simp [svN,svC,svT,svL,svI,svS,svO,svB,svA,svF,svG,f8]) (by simp),Af9 (by simp [nsN,nsC,svT,svL,svI,svS,svO,svB,svA,svF,svG,f9]),?_,trivial⟩ ⟨?_,Ct9 tl ρ⟩
 ·show A0.inst 136 10=A0.inst 136 (ρ 10);rw [f10]
 ·show cF=A0.cell (some (.loc (ρ 4)));rw [f4]
theorem exB_x (I:List SV){tl:List Sh}(h:tl.length≤3):Exs (exB I tl):=by
 unfold Exs
 rw [Aw4];lia
def hpK (s:Es×Rg)(l:Int)(I:List SV)(tl:List Sh):List A0:=hpB (Ai6 s l (B6 13 tl.length)) I (cF::tl.map shO)
theorem Bt5 (s:Es×Rg)(l:Int)(I:List SV)(tl:List Sh):Bn4 (Ai6 s l (B6 13 ((exB I tl).length-6))) 1000++exB I tl=hpK s l I tl:=by
 rw [Aw4,Nat.add_sub_cancel_left];rfl
abbrev StK (w:World)(g0:Heap)(M:Nat)(I:List SV)(s:Es×Rg)(l:Int)(tl:List Sh)(row:SV)(t:Es×Rg)(tl':List Sh):Prop:=
 CK w g0 M 1024 [.loc 0,.any,.loc 4,row] (hpK s l I tl) .none (hpK t (l-1) I tl')
theorem step_k (B:B4 w g0){I:List SV}(hI:IOk I){s t:Es×Rg}{l:Int}{tl:List Sh}(h3:tl.length≤3){row:SV}(h:Ay1 s row t)(ht:t.2.Lt 900):StK w g0 49 I s l tl row t tl:=by
 have:=step_c B (l:=l) (exB_x I h3) (Cl6 hI tl) h ht
 unfold StC at this
 rw [Bt5,Bt5] at this
 exact this
theorem Dp5 (B:B4 w g0){I:List SV}(hI:IOk I){s:Es×Rg}{l:Int}{tl:List Sh}(h3:tl.length≤3)(hs:s.2.Lt 900)(o1 o2 o3 o4 o5 o6:Nat)(d:Sh)(ty:SV)
  (h1:s.2 o1=some (.int d.1))(h2:s.2 o2=some (.int d.2.1))(h4:s.2 o3=some (.int d.2.2.1))(h5:s.2 o4=some (.int d.2.2.2.1))(h6:s.2 o5=some (.int d.2.2.2.2.1))(h7:s.2 o6=some (.int d.2.2.2.2.2)):
  StK w g0 49 I s l tl (prS o1 o2 o3 o4 o5 o6 ty) s (tl++[d]):=by
 obtain ⟨st,e1,e2⟩:=Aa0 (Cf9 s.1.es s.1.mny l (rgM s.2) o1 o2 o3 o4 o5 o6 d.1 d.2.1 d.2.2.1 d.2.2.2.1 d.2.2.2.2.1 d.2.2.2.2.2 ty (exB_x I h3))
 have C:=Ad2 (M:=0) B Aa8 rfl e1 (.cons (Ab1 h1) (.cons (Ab1 h2) (.cons (Ab1 h4) (.cons (Ab1 h5) (.cons (Ab1 h6) (.cons (Ab1 h7) .nil))))))
 rw [show hpV s.1.es s.1.mny l (B6 13 ((exB I tl).length-6)) (rgM s.2) 1000++exB I tl=hpK s l I tl from Bt5 s l I tl] at C
 have hl:=Aw4 I tl
 have C2:=C.skip (n:=7+(exB I tl).length) (pre':=Bn4 (Ai6 s (l-1) (.loc (7+(exB I tl).length)::B6 13 tl.length)) 1000++exB I tl) (c:=.cell (some (.loc 4))) (x:=shO d)
  (by rw [show 7+(exB I tl).length+2=9+(exB I tl).length by simp +arith];exact e2) (by rw [List.length_append];rfl) (by rw [← Bt5,List.length_append];exact Nat.le_refl _) (λρ f g=>?_) λρ u0=>rfl
 ·unfold StK
  rw [show hpK s (l-1) I (tl++[d])=Bn4 (Ai6 s (l-1) (.loc (7+(exB I tl).length)::B6 13 tl.length)) 1000++exB I tl++[shO d] from ?_]
  ·exact C2
  ·unfold hpK
   rw [List.length_append,List.length_singleton,List.map_append,hl,show 7+(6+tl.length)=13+tl.length by simp +arith]
   show _++(cF::(tl.map shO++[shO d]))=_
   rw [← List.cons_append,← List.append_assoc]
   rfl
 ·have hx:=Cl6 hI tl ρ f
  rw [hl] at f g
  have f1:=f 1 (by simp +arith)
  have f2:=f 2 (by simp +arith)
  have f3:=f 3 (by simp +arith)
  have f5:=f 5 (by simp +arith)
  have f6:=f 6 (by exact Nat.le_add_right _ _)
  have fp:Fix (13+tl.length) ρ:=λj h=>f j (by lia)
  refine ⟨Af4.append ⟨Aa2 (by simp [esN,esC,svT,svL,svI,svS,svO,f1,f2,f3,Ai6]),Aa2 (Bz4 _ _),?_,Aa2 rfl,Aa2 (by simp [esN,esC,svT,svL,svI,svS,svO,f5,f6]),At8 (Bg0 _ _) (Nat.le_refl _),A3 rfl (Nat.le_refl _),trivial⟩ (Af4.of hx),A3 rfl (Nat.le_refl _)⟩
  refine A3 ?_ ?_
  ·show SV.loc (ρ (7+(exB I tl).length))::svRs ρ (B6 13 tl.length)=_
   rw [Cf8 ρ _ fp,hl,g,Nat.add_sub_cancel_left]
   rw [show 7+(6+tl.length)+1=8+(6+tl.length) by simp +arith]
  ·show (SV.loc _::B6 13 tl.length).length≤1000
   rw [List.length_cons,An1];lia
end
inductive Ax0:Es×Rg→List Sh→List SV→Es×Rg→List Sh→Prop
 | nil (s tl):Ax0 s tl [] s tl
 | step {s t u row rows tl tl'}:Ay1 s row t→t.2.Lt 900→tl.length≤3→Ax0 t tl rows u tl'→Ax0 s tl (row::rows) u tl'
 | print {s u rows tl tl'} (o1 o2 o3 o4 o5 o6:Nat) (d:Sh) (ty:SV):s.2.Lt 900→tl.length≤3→s.2 o1=some (.int d.1)→s.2 o2=some (.int d.2.1)→s.2 o3=some (.int d.2.2.1)→s.2 o4=some (.int d.2.2.2.1)→s.2 o5=some (.int d.2.2.2.2.1)→
   s.2 o6=some (.int d.2.2.2.2.2)→Ax0 s (tl++[d]) rows u tl'→Ax0 s tl (prS o1 o2 o3 o4 o5 o6 ty::rows) u tl'
theorem Ax0.app {s t u:Es×Rg}{tl tl' tl'':List Sh}{a b:List SV}(x:Ax0 s tl a t tl')(y:Ax0 t tl' b u tl''):Ax0 s tl (a++b) u tl'':=by
 induction x with
 | nil=>exact y
 | step h1 h2 h3 _ ih=>exact .step h1 h2 h3 (ih y)
 | print o1 o2 o3 o4 o5 o6 d ty h1 h2 h3 h4 h5 h6 h7 h8 _ ih=>exact .print o1 o2 o3 o4 o5 o6 d ty h1 h2 h3 h4 h5 h6 h7 h8 (ih y)
noncomputable def Bo3:List (Str×SV)→List SV→List (Str×SV)
 | lc,[]=>lc
 | _,r::l=>Bo3 (lcT r) l
theorem Cn1:∀(r:SV) (l:List SV) (lc:List (Str×SV)),∃q,Bo3 lc (r::l)=lcT q
 | r,[],_=>⟨r,rfl⟩
 | r,q::l,_=>Cn1 q l (lcT r)
section
variable {w:World}{g0:Heap}{M N:Nat}
theorem Bo4 {α:Type}{l:List α}{i:Nat}{r:α}{rs:List α}(h:l.drop i=r::rs):l[i]?=some r∧l.drop (i+1)=rs:=by
 have h1:(l.drop i)[0]?=some r:=by refine h▸?_;rfl
 rw [List.getElem?_drop] at h1
 have h2:(l.drop i).drop 1=rs:=by exact congrArg _ h
 rw [List.drop_drop] at h2
 exact ⟨h1,h2⟩
theorem loop_f (B:B4 w g0){I:List SV}(hI:IOk I){s t:Es×Rg}{tl tl':List Sh}{rows:List SV}(h:Ax0 s tl rows t tl'):∀(i:Nat) (l:Int) (lc:List (Str×SV)),I.reverse.drop i=rows→(lc=lcB∨∃r,lc=lcT r)→
  FK w g0 65 blC blT (.lst 7 i) blS (hpK s l I tl) lc .next (hpK t (l-rows.length) I tl') (Bo3 lc rows):=by
 have one:∀{s t:Es×Rg} {tl tl' tlE:List Sh} {row:SV} {rows:List SV} {u:Es×Rg} {i:Nat} {l:Int} {lc:List (Str×SV)},I.reverse.drop i=row::rows→(lc=lcB∨∃r,lc=lcT r)→StK w g0 49 I s l tl row t tl'→
   (∀l lc,(lc=lcB∨∃r,lc=lcT r)→FK w g0 65 blC blT (.lst 7 (i+1)) blS (hpK t l I tl') lc .next (hpK u (l-rows.length) I tlE) (Bo3 lc rows))→
   FK w g0 65 blC blT (.lst 7 i) blS (hpK s l I tl) lc .next (hpK u (l-(row::rows).length) I tlE) (Bo3 lc (row::rows)):=by
  intro s t tl tl' tlE row rows u i l lc hd hl st ih
  refine oA (Bo4 hd) λd1 d2=>?_
  have F:=ih (l-1) (lcT row) (.inr ⟨row,rfl⟩)
  have el:l-1-(rows.length:Int)=l-((row::rows).length:Nat):=by simp +arith
  replace F:=el▸F
  rcases hl with rfl | ⟨r,rfl⟩
  ·exact Cu8 (M:=48) (d:=4) B rfl (turn_0 (TM w g0 49 65) (Ai6 s l (B6 13 tl.length)) (Ai6 t (l-1) (B6 13 tl'.length)) I (tl.map shO) (tl'.map shO) row (Bo3 (lcT row) rows) (hpK u (l-(row::rows).length) I tlE) i) (.cons d1 (.cons st (.cons F .nil)))
  ·exact Cu8 (M:=48) (d:=4) B rfl (turn_1 (TM w g0 49 65) (Ai6 s l (B6 13 tl.length)) (Ai6 t (l-1) (B6 13 tl'.length)) I (tl.map shO) (tl'.map shO) row r (Bo3 (lcT row) rows) (hpK u (l-(row::rows).length) I tlE) i) (.cons d1 (.cons st (.cons F .nil)))
 induction h with
 | nil s tl=>
  intro i l lc hd hl
  have d1:I.reverse[i]?=none:=List.getElem?_eq_none_iff.mpr (List.drop_eq_nil_iff.mp hd)
  rw [show l-(([]:List SV).length:Int)=l by simp]
  rcases hl with rfl | ⟨r,rfl⟩
  ·exact Cu8 (M:=48) (d:=4) B rfl (end_0 (TM w g0 49 65) (Ai6 s l (B6 13 tl.length)) I (tl.map shO) i) (.cons d1 .nil)
  ·exact Cu8 (M:=48) (d:=4) B rfl (end_1 (TM w g0 49 65) (Ai6 s l (B6 13 tl.length)) I (tl.map shO) r i) (.cons d1 .nil)
 | step h1 h2 h3 _ ih=>exact λi l lc hd hl=>one hd hl (step_k B hI h3 h1 h2) λl lc hl=>ih (i+1) l lc (Bo4 hd).2 hl
 | print o1 o2 o3 o4 o5 o6 d ty h1 h2 h3 h4 h5 h6 h7 h8 _ ih=>exact λi l lc hd hl=>one hd hl (Dp5 B hI h2 h1 o1 o2 o3 o4 o5 o6 d ty h3 h4 h5 h6 h7 h8) λl lc hl=>ih (i+1) l lc (Bo4 hd).2 hl
theorem bl_run (T:A7)(s s':Ms)(I:List SV)(tl:List A0)(row:SV)(h:1≤tl.length)(h':tl.length≤4):Ca0 T s s' I tl row=Ca1 T s s' I tl row:=by
 rcases tl with _ | ⟨a,_ | ⟨b,_ | ⟨c,_ | ⟨d,_ | ⟨e,l⟩⟩⟩⟩⟩
 ·exact absurd h (by simp)
 ·exact Dz2 ..
 ·exact Dz1 ..
 ·exact Dz0 ..
 ·exact Dy9 ..
 ·exact absurd h' (by simp)
theorem pl_run (T:A7)(s:Ms)(I pr:List SV)(tl:List A0)(h:1≤tl.length)(h':tl.length≤4):Cg6 T s I pr tl=Cg8 T s I pr tl:=by
 rcases tl with _ | ⟨a,_ | ⟨b,_ | ⟨c,_ | ⟨d,_ | ⟨e,l⟩⟩⟩⟩⟩
 ·exact absurd h (by simp)
 ·exact Dq4 ..
 ·exact Dq3 ..
 ·exact Dq2 ..
 ·exact Dq1 ..
 ·exact absurd h' (by simp)
noncomputable def mc0:Es×Rg:=(.e0,λu0=>none)
theorem Dy8 (B:B4 w g0){I:List SV}(hI:IOk I){t:Es×Rg}{tl:List Sh}(h:Ax0 mc0 [] I.reverse t tl)(ht:1≤tl.length)(ht':tl.length≤4)(l:Int):
  CK w g0 89 1019 [.loc 0,.any,.loc 11,.loc 4,.int 0] (hpB (Ai6 mc0 l []) I []) (.tup [.str "done",.loc (13+tl.length)]) (hpB (dn (Ai6 t (l-I.length) (B6 13 tl.length))) I (cF::(tl.map shO++[.list [] 0]))):=by
 have F:=loop_f B hI h 0 l lcB rfl (.inl rfl)
 cases hr:I.reverse with
 | nil=>
  replace h:=hr▸h
  cases h
  exact absurd ht (by simp)
 | cons r rs=>
  rw [List.length_reverse] at F
  obtain ⟨q,hq⟩:=Cn1 r rs lcB
  simp only [hr,hq] at F
  have go:∀{L:List A0},L.length=tl.length→L=tl.map shO→Ca0 (TM w g0 65 65) (Ai6 mc0 l []) (Ai6 t (l-I.length) (B6 13 tl.length)) I L q=Ca1 (TM w g0 65 65) (Ai6 mc0 l []) (Ai6 t (l-I.length) (B6 13 tl.length)) I L q→
    CK w g0 89 1019 [.loc 0,.any,.loc 11,.loc 4,.int 0] (hpB (Ai6 mc0 l []) I []) (.tup [.str "done",.loc (13+tl.length)]) (hpB (dn (Ai6 t (l-I.length) (B6 13 tl.length))) I (cF::(tl.map shO++[.list [] 0]))):=λ{L} hL e h1=>by
   refine oEA (Aa0 h1) λst e1 e2=>?_
   subst e
   rw [hL] at e1 e2
   refine (Ad2 (M:=64) B Aa5 rfl e1 (.cons F .nil)).take (k:=13+tl.length+1) (show 12≤_ by simp +arith) e2 ?_ (λρ f=>?_) λρ f=>?_
   ·show (Bn4 _ 1000++hpC I++(cF::(tl.map shO++[.list [] 0]))).length=_
    simp only [List.length_append,List.length_append,List.length_cons,List.length_append,List.length_map]
    show 7+5+(tl.length+1+1)=_
    simp +arith
   ·have hx:=Cl6 hI tl ρ (by rw [Aw4];exact λj hj=>f j (by omega))
    have:=Ac4.append (Ac4.append (Di1 (s:=t) (l:=l-I.length-1) (n:=1000) ht' ρ λj hj=>f j (by omega)) hx) (show Ac4 ρ [.list [] 0] from ⟨A3 rfl (Nat.le_refl _),trivial⟩)
    rw [show hpB (dn (Ai6 t (l-I.length) (B6 13 tl.length))) I (cF::(tl.map shO++[.list [] 0]))=Bn4 (Ai6 t (l-I.length-1) (B6 13 tl.length)) 1000++exB I tl++[.list [] 0] from by
     unfold exB
     rfl]
    exact this
   ·simp [svT,svL,svI,svS,svO,svN,svC,f (13+tl.length) (by exact Nat.le_refl _)]
  exact go (by simp) rfl (bl_run _ _ _ I (tl.map shO) q (by simpa using ht) (by simpa using ht'))
end
theorem Ab7 (R:List SV):reg R=(R.length:Nat):=by unfold reg;simp +arith
noncomputable def esOf:Bool→Rk→Es
 | true,k=>.e2 k.x k.a0 k.a1 k.a2
 | false,k=>.e1 k.x
noncomputable def arO:Bool→Rk→VV
 | true,_=>.pa
 | false,k=>.arr k.a0 k.a1 k.a2
structure Sim (b:Bool)(k:Rk)(N:Nat)(s:Es×Rg):Prop where
 es:s.1=esOf b k
 r0:s.2 0=some (.int k.i)
 r1:s.2 1=some (.int k.j)
 r2:s.2 2=some .px
 r3:s.2 3=some .px
 r5:s.2 5=some (arO b k)
 lt:s.2.Lt N
 six:6≤N
structure Go (P:Pc)(s:Es×Rg)(Q:Pc)(s':Es×Rg):Prop where
 rows:∃rows,Q.I=rows.reverse++P.I∧∀tl:List Sh,tl.length≤3→Ax0 s tl rows s' tl
 grow:P.R.length≤Q.R.length
 old:∀n,n<P.R.length→s'.2 n=s.2 n
 es:s'.1=s.1
 lt:s'.2.Lt Q.R.length
theorem Go.refl {P:Pc}{s:Es×Rg}(h:s.2.Lt P.R.length):Go P s P s:=⟨⟨[],rfl,λtl u0=>.nil _ _⟩,Nat.le_refl _,λu0 u0=>rfl,rfl,h⟩
theorem Br1 {P Q T:Pc}{s t u:Es×Rg}(x:∃rows,Q.I=rows.reverse++P.I∧∀tl:List Sh,tl.length≤3→Ax0 s tl rows t tl)(y:∃rows,T.I=rows.reverse++Q.I∧∀tl:List Sh,tl.length≤3→Ax0 t tl rows u tl):
  ∃rows,T.I=rows.reverse++P.I∧∀tl:List Sh,tl.length≤3→Ax0 s tl rows u tl:=by
 refine oEA x λa ea ra=>?_
 refine oEA y λb eb rb=>?_
 exact ⟨a++b,by rw [eb,ea,List.reverse_append,List.append_assoc],λtl h=>(ra tl h).app (rb tl h)⟩
theorem Go.trans {P Q T:Pc}{s t u:Es×Rg}(x:Go P s Q t)(y:Go Q t T u):Go P s T u:=
 ⟨Br1 x.rows y.rows,Nat.le_trans x.grow y.grow,λn h=>(y.old n (Nat.lt_of_lt_of_le h x.grow)).trans (x.old n h),y.es.trans x.es,y.lt⟩
theorem Sim.go {b:Bool}{k:Rk}{P Q:Pc}{s t:Es×Rg}(x:Sim b k P.R.length s)(y:Go P s Q t):Sim b k Q.R.length t:=
 have h:=x.six
 ⟨y.es.trans x.es,(y.old 0 (by lia)).trans x.r0,(y.old 1 (by lia)).trans x.r1,(y.old 2 (by lia)).trans x.r2,(y.old 3 (by lia)).trans x.r3,(y.old 5 (by assumption)).trans x.r5,y.lt,Nat.le_trans x.six y.grow⟩
theorem Ao5 (f:Rg)(n:Nat)(v:VV):f.put n v n=some v:=by unfold Rg.put;exact (if_pos rfl)
theorem Aj4 (f:Rg){n m:Nat}(v:VV)(h:m≠n):f.put n v m=f m:=by unfold Rg.put;exact (if_neg h)
theorem Dh6 {f:Rg}{N:Nat}(h:f.Lt N)(v:VV):(f.put N v).Lt (N+1):=λk hk=>by
 by_cases e:k=N
 ·exact e▸Nat.lt_succ_self _
 ·rw [Aj4 f v e] at hk;exact Nat.lt_succ_of_lt (h k hk)
theorem Rg.Lt.mono {f:Rg}{N M:Nat}(h:f.Lt N)(l:N≤M):f.Lt M:=λk hk=>Nat.lt_of_lt_of_le (h k hk) l
theorem An5 {P:Pc}{s:Es×Rg}{t i:SV}{v:VV}(h:s.2.Lt P.R.length)(b:P.R.length<900)(st:Ay1 s i (s.1,s.2.put P.R.length v)):Go P s ⟨t::P.R,i::P.I⟩ (s.1,s.2.put P.R.length v):=
 ⟨⟨[i],rfl,λtl hl=>.step st ((Dh6 h v).mono (by assumption)) hl (.nil _ _)⟩,Nat.le_succ _,λn hn=>Aj4 _ _ (Nat.ne_of_lt hn),rfl,Dh6 h v⟩
section
variable {b:Bool}{k:Rk}{P:Pc}{s:Es×Rg}{n:Nat}
inductive Opk (f:Rg)(N:Nat):SV→VV→Prop
 | r (q:Nat) (v:VV):6≤q→q<N→f q=some v→Opk f N (rg q) v
 | c (n:Int):Opk f N (cop n) (.int n)
theorem Opk.opv {f:Rg}{N:Nat}{o:SV}{v:VV}(x:Opk f N o v):Opv f o v:=by
 cases x with
 | r q v _ _ h=>exact .r q v h
 | c n=>exact .c n
theorem Opk.go {P Q:Pc}{s t:Es×Rg}{o:SV}{v:VV}(x:Opk s.2 P.R.length o v)(y:Go P s Q t):Opk t.2 Q.R.length o v:=by
 cases x with
 | r q v h1 h2 h=>exact .r q v h1 (Nat.lt_of_lt_of_le h2 y.grow) ((y.old q h2).trans h)
 | c n=>exact .c n
theorem Opv.go {P Q:Pc}{s t:Es×Rg}{o:SV}{v:VV}(h:s.2.Lt P.R.length)(x:Opv s.2 o v)(y:Go P s Q t):Opv t.2 o v:=by
 cases x with
 | r q v e=>exact .r q v ((y.old q (h q (by refine e▸?_;simp))).trans e)
 | c n=>exact .c n
theorem Av6 (h:s.2.Lt P.R.length)(hb:P.R.length<900){o:SV}{v:VV}(t:SV)(ho:Opv s.2 o v)(six:6≤P.R.length):∃s',Go P s ⟨t::P.R,ins "move" (reg P.R) [o]::P.I⟩ s'∧Opk s'.2 (P.R.length+1) (rg (reg P.R)) v:=by
 refine ⟨_,An5 (v:=v) h hb ?_,?_⟩
 ·rw [Ab7];exact .move _ _ _ _ _ ho
 ·rw [Ab7];exact .r _ _ six (Nat.lt_succ_self _) (Ao5 _ _ _)
theorem ix_go (S:Sim b k P.R.length s)(hb:P.R.length<900)(x:Ix):∃s',Go P s (ixP x P.R P.I) s'∧Opk s'.2 (ixP x P.R P.I).R.length (ixO x P.R) (.int (k.ix x)):=by
 cases x with
 | i=>exact Av6 S.lt hb B1 (.r 0 _ S.r0) S.six
 | j=>exact Av6 S.lt hb B1 (.r 1 _ S.r1) S.six
 | c n=>exact ⟨s,.refl S.lt,.c n⟩
theorem Dh3 {n:Int}(h:ok3 n):(VV.pe n)=VV.pe ((fin3 n:Fin 3):Int):=by exact congrArg _ (Bn7 h).symm
theorem Dj7 (k:Rk)(q:Fin 3):at3 k.a0 k.a1 k.a2 q=k.at (.e q):=by
 exact Bh9 q rfl rfl rfl
theorem esT {k:Rk}{s:Es×Rg}(S:Sim true k n s):s=(.e2 k.x k.a0 k.a1 k.a2,s.2):=by
 obtain ⟨a,c⟩:=s
 refine (show a=esOf true k from S.es)▸?_;rfl
theorem At7 {q:Nat}(S:Sim b k P.R.length s)(hb:P.R.length<900)(t:SV)(hq:s.2 q=some .px):∃s',Go P s ⟨t::P.R,ins "load" (reg P.R) [rg q]::P.I⟩ s'∧Opk s'.2 (P.R.length+1) (rg (reg P.R)) (.int k.x):=by
 refine ⟨_,An5 (v:=.int k.x) S.lt hb ?_,?_⟩
 ·rw [Ab7]
  obtain ⟨e,f⟩:=s
  have he:e=esOf b k:=S.es
  subst he
  cases b with
  | true=>exact .load2 _ _ _ _ _ _ _ hq
  | false=>exact .load1 _ _ _ _ hq
 ·rw [Ab7];exact .r _ _ S.six (Nat.lt_succ_self _) (Ao5 _ _ _)
theorem Bo2 {o:SV}{m:Int}(S:Sim true k P.R.length s)(hb:P.R.length<900)(t:SV)(ho:Opv s.2 o (.int m)):∃s',Go P s ⟨t::P.R,ins "elemptr" (reg P.R) [rg 5,o]::P.I⟩ s'∧Opk s'.2 (P.R.length+1) (rg (reg P.R)) (.pe m):=by
 refine ⟨_,An5 (v:=.pe m) S.lt hb ?_,?_⟩
 ·rw [Ab7];exact .eptr _ _ _ 5 _ _ S.r5 ho
 ·rw [Ab7];exact .r _ _ S.six (Nat.lt_succ_self _) (Ao5 _ _ _)
theorem Bs6 {q:Nat}{m:Int}(S:Sim true k P.R.length s)(hb:P.R.length<900)(t:SV)(hm:ok3 m)(hq:s.2 q=some (.pe m)):∃s',Go P s ⟨t::P.R,ins "load" (reg P.R) [rg q]::P.I⟩ s'∧Opk s'.2 (P.R.length+1) (rg (reg P.R)) (.int (k.at (.e (fin3 m)))):=by
 refine ⟨_,An5 (v:=.int (k.at (.e (fin3 m)))) S.lt hb ?_,?_⟩
 ·rw [Ab7]
  rw [Dh3 hm] at hq
  have:=Ay1.loada s.2 k.x k.a0 k.a1 k.a2 P.R.length q (fin3 m) hq
  simp only [← esT S,Dj7] at this
  simp only [show s.1=Es.e2 k.x k.a0 k.a1 k.a2 from S.es]
  exact this
 ·rw [Ab7];exact .r _ _ S.six (Nat.lt_succ_self _) (Ao5 _ _ _)
theorem Dv3 {o:SV}{m:Int}(S:Sim false k P.R.length s)(hb:P.R.length<900)(t:SV)(hm:ok3 m)(ho:Opv s.2 o (.int m)):∃s',Go P s ⟨t::P.R,ins "elem" (reg P.R) [rg 5,o]::P.I⟩ s'∧Opk s'.2 (P.R.length+1) (rg (reg P.R)) (.int (k.at (.e (fin3 m)))):=by
 refine ⟨_,An5 (v:=.int (k.at (.e (fin3 m)))) S.lt hb ?_,?_⟩
 ·rw [Ab7,← Dj7]
  exact .elem _ _ _ 5 _ _ _ _ _ S.r5 (by exact (Bn7 hm).symm▸ho)
 ·rw [Ab7];exact .r _ _ S.six (Nat.lt_succ_self _) (Ao5 _ _ _)
theorem no23 {a b c d e:SV}{P:Prop}(h:SV.tup [a,b] = .tup [c,d,e]):P:=nomatch congrArg (λx=>(Ar8 x).map List.length) h
theorem Br6 {f:Rg}{N:Nat}{R:List SV}{v:VV}(x:Opk f N (rg (reg R)) v):f R.length=some v:=by
 rw [Ab7] at x
 generalize hr:rg ((R.length:Nat):Int)=o at x
 cases x with
 | r q v _ _ h=>
  have:R.length=q:=by
   cases hr;rfl
  exact this▸h
 | c n=>exact no23 hr
theorem Cf4 (S:Sim b k P.R.length s)(ok:k.Ok)(hb:P.R.length+3<900)(p:Pl)(hp:p.ok):∃s',Go P s (rdP b p P.R P.I) s'∧Opv s'.2 (rdO b p P.R) (.int (k.rd p))∧∃q:Nat,rdO b p P.R=rg q:=by
 cases p with
 | i=>exact ⟨s,.refl S.lt,.r 0 _ S.r0,0,rfl⟩
 | j=>exact ⟨s,.refl S.lt,.r 1 _ S.r1,1,rfl⟩
 | x=>
  refine oEA (At7 S (by omega) B1 S.r2) λs1 g1 o1=>?_
  exact ⟨s1,g1,o1.opv,_,by show rg (reg P.R)=_;rw [Ab7]⟩
 | p=>
  refine oEA (Av6 S.lt (by omega) ptrT (.r 3 _ S.r3) S.six) λs1 g1 o1=>?_
  have S1:=S.go g1
  refine oEA (At7 (P:=⟨ptrT::P.R,ins "move" (reg P.R) [rg 3]::P.I⟩) S1 (by simp;omega) B1 (Br6 o1)) λs2 g2 o2=>?_
  rw [← Ab7] at g2
  exact ⟨s2,g1.trans g2,o2.opv,_,by show rg (reg (ptrT::P.R))=_;rw [Ab7]⟩
 | a x=>
  cases b with
  | true=>
   refine oEA (ix_go S (by omega) x) λs1 g1 o1=>?_
   have l1:(ixP x P.R P.I).R.length≤P.R.length+1:=by cases x<;>simp [ixP]
   refine oEA (Bo2 (S.go g1) (by lia) ptrT o1.opv) λs2 g2 o2=>?_
   obtain ⟨s3,g3,o3⟩:=Bs6 (P:=⟨ptrT::(ixP x P.R P.I).R,ins "elemptr" (reg (ixP x P.R P.I).R) [rg 5,ixO x P.R]::(ixP x P.R P.I).I⟩) ((S.go g1).go g2) (by simp;lia) B1 (Cj6 ok hp) (Br6 o2)
   rw [← Ab7] at g3
   refine ⟨s3,(g1.trans g2).trans g3,?_,(ptrT::(ixP x P.R []).R).length,?_⟩
   ·have e:rdO true (.a x) P.R=rg (reg (ptrT::(ixP x P.R P.I).R)):=by cases x<;>rfl
    rw [e];exact o3.opv
   ·show rg (reg _)=_;rw [Ab7]
  | false=>
   have hx:Opv s.2 (ixD x) (.int (k.ix x)):=by
    cases x with
    | i=>exact .r 0 _ S.r0
    | j=>exact .r 1 _ S.r1
    | c n=>exact .c n
   obtain ⟨s1,g1,o1⟩:=Dv3 S (by omega) B1 (Cj6 ok hp) hx
   exact ⟨s1,g1,o1.opv,_,by show rg (reg P.R)=_;rw [Ab7]⟩
end
section
variable {b:Bool}{k t:Rk}{P:Pc}{s:Es×Rg}{n:Nat}
theorem ixP_l (x:Ix)(R I:List SV):(ixP x R I).R.length≤R.length+1:=by cases x<;>simp [ixP]
theorem Bx3 (b:Bool)(p:Pl)(R I:List SV):(rdP b p R I).R.length≤R.length+3:=by
 cases p with
 | a x=>have:=ixP_l x R I;cases b<;>simp [rdP]<;>omega
 | _=>simp [rdP]
theorem Dl2 (b:Bool)(v:Vl)(P:Pc):(vl1 b v P).R.length≤P.R.length+4:=by
 cases v with
 | sum p n=>have:=Bx3 b p P.R P.I;show (rdP b p P.R P.I).R.length+1≤_;lia
 | _=>simp [vl1,vlP]
theorem kp1_l (o:Op)(P:Pc):(kp1 o P).R.length≤P.R.length+1:=by cases o<;>simp [kp1,kpP]
theorem Dm5 (p:Option Pl)(P:Pc):(tg1 p P).R.length≤P.R.length+1:=by
 cases p with
 | none=>simp [tg1,tgP]
 | some p=>cases p with
  | a x=>exact ixP_l x P.R P.I
  | _=>simp [tg1,tgP]
theorem Dz6 (p:Option Pl)(o v:SV)(P:Pc):(as1 p o v P).R.length≤P.R.length+1:=by
 cases p with
 | none=>simp [as1,asP]
 | some p=>cases p<;>simp [as1,asP]
theorem Az0 {f:Rg}{q:Nat}{v:VV}(x:Opv f (rg q) v):f q=some v:=by
 generalize hr:rg (q:Int)=o at x
 cases x with
 | r q' v h=>
  have:q=q':=by
   cases hr;rfl
  exact this▸h
 | c n=>exact no23 hr
theorem Dl0 (S:Sim b k P.R.length s)(ok:k.Ok)(hb:P.R.length+4<900)(v:Vl)(hv:∀p n,v = .sum p n→p.ok):∃s',Go P s (vl1 b v P) s'∧Opv s'.2 (vlO b v P.R) (.int (k.vl v)):=by
 cases v with
 | i=>exact ⟨s,.refl S.lt,.r 0 _ S.r0⟩
 | j=>exact ⟨s,.refl S.lt,.r 1 _ S.r1⟩
 | c n=>exact ⟨s,.refl S.lt,.c n⟩
 | sum p n=>
  obtain ⟨s1,g1,o1,q,hq⟩:=Cf4 S ok (by exact Nat.le_of_lt ‹_›) p (hv p n rfl)
  have l1:=Bx3 b p P.R P.I
  rw [hq] at o1
  refine ⟨_,g1.trans (An5 (P:=rdP b p P.R P.I) (t:=B1) (v:=.int (k.rd p+n)) (S.go g1).lt (by lia) (i:=ins "binary" (reg (rdP b p P.R P.I).R) [.str "+",rdO b p P.R,cop n,B1]) ?_),?_⟩
  ·rw [Ab7,hq];exact .bin _ _ _ _ _ _ _ (Az0 o1) (.c n)
  ·show Opv _ (rg (reg (rdP b p P.R []).R)) _
   rw [rdP_R b p P.R [] P.I,Ab7]
   exact .r _ _ (Ao5 _ _ _)
theorem kp_go (S:Sim b k P.R.length s)(hb:P.R.length<900)(o:Op){m:Int}(ho:Opv s.2 o.sv (.int m)):∃s',Go P s (kp1 o P) s'∧Opk s'.2 (kp1 o P).R.length (kpO o P.R).sv (.int m):=by
 cases o with
 | r q=>exact Av6 S.lt hb B1 ho S.six
 | c q=>
  refine ⟨s,.refl S.lt,?_⟩
  have:q=m:=by
   generalize hr:Op.sv (.c q)=o at ho
   cases ho with
   | r _ _ _=>exact no23 hr.symm
   | c n=>cases hr;rfl
  exact this.symm▸.c m
def TgV (k:Rk)(f:Rg)(N:Nat)(p:Option Pl)(o:SV):Prop:=match p with
 | some .p=>Opk f N o .px
 | some (.a x)=>Opk f N o (.int (k.ix x))
 | _=>True
theorem TgV.go {P Q:Pc}{s u:Es×Rg}{p:Option Pl}{o:SV}(x:TgV k s.2 P.R.length p o)(y:Go P s Q u):TgV k u.2 Q.R.length p o:=by
 cases p with
 | none=>trivial
 | some p=>cases p with
  | p=>exact Opk.go x y
  | a z=>exact Opk.go x y
  | _=>trivial
theorem Dm4 (S:Sim b k P.R.length s)(hb:P.R.length<900)(p:Option Pl):∃s',Go P s (tg1 p P) s'∧TgV k s'.2 (tg1 p P).R.length p (tgO p P.R):=by
 cases p with
 | none=>exact ⟨s,.refl S.lt,trivial⟩
 | some p=>cases p with
  | p=>exact Av6 S.lt hb ptrT (.r 3 _ S.r3) S.six
  | a x=>exact ix_go S hb x
  | _=>exact ⟨s,.refl S.lt,trivial⟩
structure Gw2 (P:Pc)(s:Es×Rg)(Q:Pc)(s':Es×Rg):Prop where
 rows:∃rows,Q.I=rows.reverse++P.I∧∀tl:List Sh,tl.length≤3→Ax0 s tl rows s' tl
 grow:P.R.length≤Q.R.length
 old:∀n,6≤n→n<P.R.length→s'.2 n=s.2 n
theorem Go.ga {P Q:Pc}{s u:Es×Rg}(x:Go P s Q u):Gw2 P s Q u:=⟨x.rows,x.grow,λn u0 h=>x.old n h⟩
theorem Gw2.trans {P Q T:Pc}{s t u:Es×Rg}(x:Gw2 P s Q t)(y:Gw2 Q t T u):Gw2 P s T u:=
 ⟨Br1 x.rows y.rows,Nat.le_trans x.grow y.grow,λn h6 h=>(y.old n h6 (Nat.lt_of_lt_of_le h x.grow)).trans (x.old n h6 h)⟩
theorem Opk.ga {P Q:Pc}{s t:Es×Rg}{o:SV}{v:VV}(x:Opk s.2 P.R.length o v)(y:Gw2 P s Q t):Opk t.2 Q.R.length o v:=by
 cases x with
 | r q v h1 h2 h=>exact .r q v h1 (Nat.lt_of_lt_of_le h2 y.grow) ((y.old q h1 h2).trans h)
 | c n=>exact .c n
theorem TgV.ga {P Q:Pc}{s u:Es×Rg}{p:Option Pl}{o:SV}(x:TgV k s.2 P.R.length p o)(y:Gw2 P s Q u):TgV k u.2 Q.R.length p o:=by
 cases p with
 | none=>trivial
 | some p=>cases p with
  | p=>exact Opk.ga x y
  | a z=>exact Opk.ga x y
  | _=>trivial
theorem Av3 {P:Pc}{s s':Es×Rg}{i:SV}(st:Ay1 s i s')(lt:s'.2.Lt 900):∃rows,(⟨P.R,i::P.I⟩:Pc).I=rows.reverse++P.I∧∀tl:List Sh,tl.length≤3→Ax0 s tl rows s' tl:=
 ⟨[i],rfl,λtl hl=>.step st lt hl (.nil _ _)⟩
theorem Bg2 {f:Rg}{m:Nat}{v:VV}(hm:m<6):∀n,6≤n→(f.put m v) n=f n:=λn h=>Aj4 f v (by lia)
theorem Dg1 {q:Nat}{v:SV}{m:Int}(S:Sim b t P.R.length s)(hb:P.R.length<900)(hq:s.2 q=some .px)(hv:Opv s.2 v (.int m)):∃s',Gw2 P s ⟨P.R,.tup [.str "store",rg q,v]::P.I⟩ s'∧Sim b {t with x:=m} P.R.length s':=by
 obtain ⟨e,f⟩:=s
 have he:e=esOf b t:=S.es
 subst he
 cases b with
 | true=>exact ⟨_,⟨Av3 (.store2 f _ _ _ _ q v m hq hv) (S.lt.mono (by exact Nat.le_of_lt ‹_›)),Nat.le_refl _,λu0 u0 u0=>rfl⟩,⟨rfl,S.r0,S.r1,S.r2,S.r3,S.r5,S.lt,S.six⟩⟩
 | false=>exact ⟨_,⟨Av3 (.store1 f _ q v m hq hv) (S.lt.mono (by exact Nat.le_of_lt ‹_›)),Nat.le_refl _,λu0 u0 u0=>rfl⟩,⟨rfl,S.r0,S.r1,S.r2,S.r3,S.r5,S.lt,S.six⟩⟩
theorem Do4 (t:Rk)(m:Int)(q:Fin 3):esOf true (t.put m (.e q)) = .e2 t.x (set3 t.a0 t.a1 t.a2 m q).1 (set3 t.a0 t.a1 t.a2 m q).2.1 (set3 t.a0 t.a1 t.a2 m q).2.2:=by
 exact Bh9 q rfl rfl rfl
theorem put_e (t:Rk)(m:Int)(q:Fin 3):(t.put m (.e q)).i=t.i∧(t.put m (.e q)).j=t.j:=by
 exact Bh9 q ⟨rfl,rfl⟩ ⟨rfl,rfl⟩ ⟨rfl,rfl⟩
theorem ar_eq {b:Bool}{t t':Rk}(h0:t'.a0=t.a0)(h1:t'.a1=t.a1)(h2:t'.a2=t.a2):arO b t=arO b t':=by
 cases b with
 | true=>rfl
 | false=>show VV.arr _ _ _=VV.arr _ _ _;simp only [h0,h1,h2]
theorem Dz4 (S:Sim b t P.R.length s)(ok:k.Ok)(hb:P.R.length+1<900){p:Option Pl}(hp:Ca8 p)(hB:okT b p=true){o v:SV}{m:Int}(hT:TgV k s.2 P.R.length p o)(hv:Opv s.2 v (.int m)):
  ∃s',Gw2 P s (as1 p o v P) s'∧Sim b (t.puto m (k.kyo p)) (as1 p o v P).R.length s':=by
 cases p with
 | none=>exact ⟨s,(Go.refl S.lt).ga,S⟩
 | some p=>
  have h6:=S.six
  cases p with
  | i=>
   refine ⟨(s.1,s.2.put 0 (.int m)),⟨Av3 (.move _ _ 0 v _ hv) ((S.lt.put (by lia)).mono (by lia)),Nat.le_refl _,λn h u0=>Bg2 (by decide) n h⟩,⟨S.es.trans (by cases b<;>rfl),Ao5 s.2 0 (.int m),?_,?_,?_,?_,S.lt.put (by omega),S.six⟩⟩
   ·exact (Aj4 (n:=0) (m:=1) s.2 (.int m) (by decide)).trans S.r1
   ·exact (Aj4 (n:=0) (m:=2) s.2 (.int m) (by decide)).trans S.r2
   ·exact (Aj4 (n:=0) (m:=3) s.2 (.int m) (by decide)).trans S.r3
   ·exact ((Aj4 (n:=0) (m:=5) s.2 (.int m) (by decide)).trans S.r5).trans (congrArg some (ar_eq rfl rfl rfl))
  | j=>
   refine ⟨(s.1,s.2.put 1 (.int m)),⟨Av3 (.move _ _ 1 v _ hv) ((S.lt.put (by lia)).mono (by omega)),Nat.le_refl _,λn h u0=>Bg2 (by decide) n h⟩,⟨S.es.trans (by cases b<;>rfl),?_,Ao5 s.2 1 (.int m),?_,?_,?_,S.lt.put (by omega),S.six⟩⟩
   ·exact (Aj4 (n:=1) (m:=0) s.2 (.int m) (by decide)).trans S.r0
   ·exact (Aj4 (n:=1) (m:=2) s.2 (.int m) (by decide)).trans S.r2
   ·exact (Aj4 (n:=1) (m:=3) s.2 (.int m) (by decide)).trans S.r3
   ·exact ((Aj4 (n:=1) (m:=5) s.2 (.int m) (by decide)).trans S.r5).trans (congrArg some (ar_eq rfl rfl rfl))
  | x=>exact Dg1 (q:=2) S (by exact Nat.le_of_lt ‹_›) S.r2 hv
  | p=>
   cases hT with
   | r q _ _ _ hq=>exact Dg1 S (by exact Nat.le_of_lt ‹_›) hq hv
  | a x=>
   cases b with
   | false=>exact B3 hB
   | true=>
    refine oEA (Bo2 S (by exact Nat.le_of_lt ‹_›) ptrT hT.opv) λs1 g1 o1=>?_
    have S1:=S.go g1
    have hq:=Br6 o1
    rw [Dh3 (Cj6 ok (show x.ok from hp))] at hq
    have st:=Ay1.storea s1.2 t.x t.a0 t.a1 t.a2 P.R.length (fin3 (k.ix x)) v m hq (hv.go S.lt g1)
    rw [← esT S1,← Do4] at st
    obtain ⟨p1,p2⟩:=put_e t m (fin3 (k.ix x))
    refine ⟨(esOf true (t.put m (.e (fin3 (k.ix x)))),s1.2),g1.ga.trans ⟨Av3 (P:=⟨ptrT::P.R,ins "elemptr" (reg P.R) [rg 5,o]::P.I⟩) (i:=.tup [.str "store",rg (reg P.R),v]) (by rw [Ab7];exact st) (S1.lt.mono (by simp;lia)),Nat.le_refl _,λu0 u0 u0=>rfl⟩,⟨rfl,?_,?_,S1.r2,S1.r3,S1.r5,S1.lt,S1.six⟩⟩
    ·show s1.2 0=some (.int (t.put m (.e (fin3 (k.ix x)))).i);exact p1▸S1.r0
    ·show s1.2 1=some (.int (t.put m (.e (fin3 (k.ix x)))).j);exact p2▸S1.r1
end
section
variable {b:Bool}{k t:Rk}{P:Pc}{s:Es×Rg}{n:Nat}
noncomputable def Ea0 (k:Rk)(f:Rg)(N:Nat):List (Option Pl)→List SV→Prop
 | p::ps,o::os=>TgV k f N p o∧Ea0 k f N ps os
 | [],[]=>True
 | _,_=>False
noncomputable def Ea1 (f:Rg)(N:Nat):List Op→List Int→Prop
 | o::os,m::ms=>Opk f N o.sv (.int m)∧Ea1 f N os ms
 | [],[]=>True
 | _,_=>False
theorem Ea0.ga {P Q:Pc}{s u:Es×Rg}(y:Gw2 P s Q u):∀{ps:List (Option Pl)} {os:List SV},Ea0 k s.2 P.R.length ps os→Ea0 k u.2 Q.R.length ps os
 | [],[],_=>trivial
 | p::ps,o::os,x=>⟨x.1.ga y,Ea0.ga y x.2⟩
theorem Ea1.ga {P Q:Pc}{s u:Es×Rg}(y:Gw2 P s Q u):∀{os:List Op} {ms:List Int},Ea1 s.2 P.R.length os ms→Ea1 u.2 Q.R.length os ms
 | [],[],_=>trivial
 | o::os,m::ms,x=>⟨x.1.ga y,Ea1.ga y x.2⟩
theorem Df8:∀(ps:List (Option Pl)) {P:Pc} {s:Es×Rg},Sim b k P.R.length s→P.R.length+ps.length<900→∃s',Go P s (Bq4 ps P) s'∧Ea0 k s'.2 (Bq4 ps P).R.length ps (Dm3 ps P)∧(Bq4 ps P).R.length≤P.R.length+ps.length
 | [],P,s,S,_=>⟨s,.refl S.lt,trivial,Nat.le_refl _⟩
 | p::ps,P,s,S,hb=>by
  rw [List.length_cons] at hb
  obtain ⟨s1,g1,o1⟩:=Dm4 S (by lia) p
  have l1:=Dm5 p P
  refine Bk4 (Df8 ps (S.go g1) (by lia)) λs2 g2 o2 l2=>?_
  exact ⟨s2,g1.trans g2,⟨o1.go g2,o2⟩,by simp only [List.length_cons];show (Bq4 ps (tg1 p P)).R.length≤_;lia⟩
theorem Df6 (ok:k.Ok):∀(vs:List Vl) {P:Pc} {s:Es×Rg},Sim b k P.R.length s→P.R.length+5*vs.length+5<900→(∀v∈vs,∀p n,v = .sum p n→p.ok)→
  ∃s',Go P s (Cr9 b vs P) s'∧Ea1 s'.2 (Cr9 b vs P).R.length (Cs0 b vs P) (vs.map k.vl)∧(Cr9 b vs P).R.length≤P.R.length+5*vs.length
 | [],P,s,S,_,_=>⟨s,.refl S.lt,trivial,Nat.le_refl _⟩
 | v::vs,P,s,S,hb,hv=>by
  rw [List.length_cons] at hb
  obtain ⟨s1,g1,o1⟩:=Dl0 S ok (by lia) v (hv v (List.mem_cons_self ..))
  have l1:=Dl2 b v P
  rw [← Aq0] at o1
  obtain ⟨s2,g2,o2⟩:=kp_go (S.go g1) (by lia) (vlOp b v P.R) o1
  have l2:=kp1_l (vlOp b v P.R) (vl1 b v P)
  have S2:=(S.go g1).go g2
  obtain ⟨s3,g3,o3,l3⟩:=Df6 ok vs (P:=vk1 b v P) S2 (by show (kp1 _ _).R.length+_+_<_;lia) λv h=>hv v (List.mem_cons_of_mem _ h)
  have l2':(vk1 b v P).R.length≤P.R.length+5:=by show (kp1 _ _).R.length≤_;lia
  exact ⟨s3,(g1.trans g2).trans g3,⟨Opk.go (P:=vk1 b v P) o2 g3,o3⟩,by simp only [List.length_cons];show (Cr9 b vs (vk1 b v P)).R.length≤_;lia⟩
noncomputable def Cf6 (k:Rk):Rk→List (Option Pl)→List Int→Rk
 | t,p::ps,m::ms=>Cf6 k (t.puto m (k.kyo p)) ps ms
 | t,_,_=>t
theorem ass_go (ok:k.Ok)(ps:List (Option Pl)):∀(os:List SV) (ks:List Op) (ms:List Int) {P:Pc} {s:Es×Rg} {t:Rk},Sim b t P.R.length s→P.R.length+ps.length+1<900→(∀p∈ps,Ca8 p∧okT b p=true)→Ea0 k s.2 P.R.length ps os→Ea1 s.2 P.R.length ks ms→ps.length=ks.length→
  ∃s',Gw2 P s (De6 ps os ks P) s'∧Sim b (Cf6 k t ps ms) (De6 ps os ks P).R.length s'∧(De6 ps os ks P).R.length≤P.R.length+ps.length:=by
 induction ps with
 | nil=>
  intro os ks ms P s t S _ _ _ _ _
  exact ⟨s,(Go.refl S.lt).ga,S,Nat.le_refl _⟩
 | cons p ps ih=>
  intro os ks ms P s t S hb hp x y hl
  cases os with
  | nil=>exact x.elim
  | cons o os=>
   cases ks with
   | nil=>exact nomatch hl
   | cons c ks=>
    cases ms with
    | nil=>exact y.elim
    | cons m ms=>
     simp only [List.length_cons] at hb
     refine oEA (Dz4 S ok (by lia) (hp p (List.mem_cons_self ..)).1 (hp p (List.mem_cons_self ..)).2 x.1 y.1.opv) λs1 g1 S1=>?_
     have l1:=Dz6 p o c.sv P
     refine Bk4 (ih os ks ms S1 (by lia) (λq h=>hp q (List.mem_cons_of_mem _ h)) (x.2.ga g1) (y.2.ga g1) (by simpa using hl)) λs2 g2 S2 l2=>?_
     exact ⟨s2,g1.trans g2,S2,by simp only [List.length_cons];show (De6 ps os ks (as1 p o c.sv P)).R.length≤_;lia⟩
theorem va_go {p:Pl}{o:SV}(S:Sim b k P.R.length s)(ok:k.Ok)(hb:P.R.length+2<900)(hn:At1 (some p)=false)(hp:p.ok)(hB:okT b (some p)=true)(hT:TgV k s.2 P.R.length (some p) o):
  ∃s',Go P s (va1 p o P) s'∧Opv s'.2 (vaO p P.R) (.int (k.rd p))∧(∃q:Nat,vaO p P.R=rg q)∧(va1 p o P).R.length≤P.R.length+2:=by
 cases p with
 | i=>exact noB hn
 | j=>exact noB hn
 | x=>
  refine oEA (At7 S (by lia) B1 S.r2) λs1 g1 o1=>?_
  exact ⟨s1,g1,o1.opv,⟨_,by show rg (reg P.R)=_;rw [Ab7]⟩,by simp [va1,vaP]⟩
 | p=>
  cases hT with
  | r q _ _ _ hq=>
   refine oEA (At7 S (by lia) B1 hq) λs1 g1 o1=>?_
   exact ⟨s1,g1,o1.opv,⟨_,by show rg (reg P.R)=_;rw [Ab7]⟩,by simp [va1,vaP]⟩
 | a x=>
  cases b with
  | false=>exact nomatch hB
  | true=>
   refine oEA (Bo2 S (by lia) ptrT hT.opv) λs1 g1 o1=>?_
   refine oEA (Bs6 (P:=⟨ptrT::P.R,ins "elemptr" (reg P.R) [rg 5,o]::P.I⟩) (S.go g1) (by exact Nat.le_of_lt ‹_›) B1 (Cj6 ok hp) (Br6 o1)) λs2 g2 o2=>?_
   rw [← Ab7] at g2
   exact ⟨s2,g1.trans g2,o2.opv,⟨_,by show rg (reg (ptrT::P.R))=_;rw [Ab7]⟩,by simp [va1,vaP]⟩
def Bw8 (b:Bool)(r:Row)(P:Pc):Pc:=match r with
 | .upd p v=>updP b p v P
 | .set1 p v=>Do3 b [p] [v] P
 | .set2 p q v u=>Do3 b [p,q] [v,u] P
 | .set3 p q r v u t=>Do3 b [p,q,r] [v,u,t] P
def Cv1 (b:Bool)(r:Row):Prop:=∀p∈r.pl,okT b p=true
theorem Am7 {p:Option Pl}{v:Vl}(h:Bb3 p v):∀q n,v = .sum q n→q.ok:=λq n e=>by
 subst e
 unfold Bb3 at h
 cases hp:At1 p with
 | true=>rw [hp] at h;exact h.elim
 | false=>simp only [hp] at h;exact h
theorem Ce1 (ok:k.Ok){ps:List (Option Pl)}{vs:List Vl}(S:Sim b k P.R.length s)(hb:P.R.length+30<900)(hl:ps.length=vs.length)(h3:ps.length≤3)(hp:∀p∈ps,Ca8 p∧okT b p=true)(hv:∀v∈vs,∀p n,v = .sum p n→p.ok):
  ∃s',Gw2 P s (De6 ps (Dm3 ps P) (Cs0 b vs (Bq4 ps P)) (Cr9 b vs (Bq4 ps P))) s'∧Sim b (Cf6 k k ps (vs.map k.vl)) (De6 ps (Dm3 ps P) (Cs0 b vs (Bq4 ps P)) (Cr9 b vs (Bq4 ps P))).R.length s'∧
   (De6 ps (Dm3 ps P) (Cs0 b vs (Bq4 ps P)) (Cr9 b vs (Bq4 ps P))).R.length≤P.R.length+30:=by
 refine Bk4 (Df8 ps S (by lia)) λs1 g1 o1 l1=>?_
 refine Bk4 (Df6 ok vs (S.go g1) (by lia) hv) λs2 g2 o2 l2=>?_
 have lo:∀(vs:List Vl) (P:Pc),(Cs0 b vs P).length=vs.length:=by
  intro vs
  induction vs with
  | nil=>intro P;rfl
  | cons v vs ih=>intro P;show (Cs0 b vs _).length+1=_;rw [ih];rfl
 refine Bk4 (ass_go ok ps (Dm3 ps P) (Cs0 b vs (Bq4 ps P)) (vs.map k.vl) ((S.go g1).go g2) (by lia) hp (o1.ga g2.ga) o2 (by rw [lo];exact hl)) λs3 g3 S3 l3=>?_
 exact ⟨s3,(g1.ga.trans g2.ga).trans g3,S3,by lia⟩
theorem row_go (S:Sim b k P.R.length s)(ok:k.Ok)(hb:P.R.length+30<900){r:Row}(hr:r.ok)(hB:Cv1 b r):∃s',Gw2 P s (Bw8 b r P) s'∧Sim b (k.row r) (Bw8 b r P).R.length s'∧(Bw8 b r P).R.length≤P.R.length+30:=by
 cases r with
 | upd p v=>
  have hB:okT b (some p)=true:=hB _ (by simp [Row.pl])
  obtain ⟨s1,g1,o1⟩:=Dm4 S (by lia) (some p)
  have l1:=Dm5 (some p) P
  have S1:=S.go g1
  refine oEAAA (va_go S1 ok (by lia) hr.1 hr.2.1 hB o1) λs2 g2 o2 z3 l2=>?_;obtain ⟨q,hq⟩:=z3
  have S2:=S1.go g2
  refine oEA (Dl0 S2 ok (by lia) v (Am7 hr.2.2)) λs3 g3 o3=>?_
  have l3:=Dl2 b v (va1 p (tgO (some p) P.R) (tg1 (some p) P))
  have S3:=S2.go g3
  have o2':=o2.go S2.lt g3
  rw [hq] at o2'
  have g4:=An5 (P:=vl1 b v (va1 p (tgO (some p) P.R) (tg1 (some p) P))) (t:=B1) (v:=.int (k.rd p+k.vl v)) S3.lt (by lia) (i:=ins "binary" (reg (vl1 b v (va1 p (tgO (some p) P.R) (tg1 (some p) P))).R) [.str "+",vaO p (tg1 (some p) P).R,vlO b v (va1 p (tgO (some p) P.R) (tg1 (some p) P)).R,B1])
   (by rw [Ab7,hq];exact .bin _ _ _ _ _ _ _ (Az0 o2') o3)
  have S4:=S3.go g4
  have T4:TgV k _ _ (some p) (tgO (some p) P.R):=((o1.go g2).go g3).go g4
  refine oEA (Dz4 (v:=rg (reg (vl1 b v (va1 p (tgO (some p) P.R) (tg1 (some p) P))).R)) S4 ok (by simp;lia) (p:=some p) hr.2.1 hB T4 (m:=k.rd p+k.vl v) (by rw [Ab7];exact .r _ _ (Ao5 _ _ _))) λs5 g5 S5=>?_
  have l5:=Dz6 (some p) (tgO (some p) P.R) (rg (reg (vl1 b v (va1 p (tgO (some p) P.R) (tg1 (some p) P))).R)) ⟨B1::(vl1 b v (va1 p (tgO (some p) P.R) (tg1 (some p) P))).R,ins "binary" (reg (vl1 b v (va1 p (tgO (some p) P.R) (tg1 (some p) P))).R) [.str "+",vaO p (tg1 (some p) P).R,vlO b v (va1 p (tgO (some p) P.R) (tg1 (some p) P)).R,B1]::(vl1 b v (va1 p (tgO (some p) P.R) (tg1 (some p) P))).I⟩
  refine ⟨s5,(((g1.trans g2).trans g3).trans g4).ga.trans g5,S5,Nat.le_trans l5 ?_⟩
  show (vl1 b v (va1 p (tgO (some p) P.R) (tg1 (some p) P))).R.length+1+1≤_
  lia
 | set1 p v=>
  obtain ⟨s1,g1,o1⟩:=Dm4 S (by omega) p
  have l1:=Dm5 p P
  have S1:=S.go g1
  refine oEA (Dl0 S1 ok (by lia) v (Am7 hr.2)) λs2 g2 o2=>?_
  have l2:=Dl2 b v (tg1 p P)
  refine oEA (Dz4 (S1.go g2) ok (by lia) hr.1 (hB p (by simp [Row.pl])) (o1.go g2) o2) λs3 g3 S3=>?_
  exact ⟨s3,(g1.trans g2).ga.trans g3,S3,Nat.le_trans (Dz6 p (tgO p P.R) (vlO b v (tg1 p P).R) (vl1 b v (tg1 p P))) (by lia)⟩
 | set2 p q v u=>
  exact Ce1 ok (ps:=[p,q]) (vs:=[v,u]) S hb rfl (by simp) (λx h=>⟨by rcases List.mem_cons.mp h with e | e;exact e▸hr.1;exact (List.mem_singleton.mp e)▸hr.2.2.1,hB x h⟩) λx h=>by
   rcases List.mem_cons.mp h with e | e
   ·exact e▸Am7 hr.2.1
   ·exact (List.mem_singleton.mp e)▸Am7 hr.2.2.2
 | set3 p q r v u w=>
  exact Ce1 ok (ps:=[p,q,r]) (vs:=[v,u,w]) S hb rfl (by simp) (λx h=>⟨by
   rcases List.mem_cons.mp h with e | e
   ·exact e▸hr.1
   rcases List.mem_cons.mp e with e | e
   ·exact e▸hr.2.2.1
   ·exact (List.mem_singleton.mp e)▸hr.2.2.2.2.1,hB x h⟩) λx h=>by
   rcases List.mem_cons.mp h with e | e
   ·exact e▸Am7 hr.2.1
   refine (List.mem_cons.mp e).elim (λe=>?_) λe=>?_
   ·exact e▸Am7 hr.2.2.2.1
   ·exact (List.mem_singleton.mp e)▸Am7 hr.2.2.2.2.2
end
noncomputable def Rk.sh (k:Rk):Sh:=(k.i,k.j,k.x,k.a0,k.a1,k.a2)
section
variable {b:Bool}{k t:Rk}{P:Pc}{s:Es×Rg}{n:Nat}
theorem sh_go (S:Sim b k P.R.length s)(ok:k.Ok)(hb:P.R.length+15<900):∃s',(∃rows,(shP b P).I=rows.reverse++P.I∧∀tl:List Sh,tl.length≤3→Ax0 s tl rows s' (tl++[k.sh]))∧Sim b k (shP b P).R.length s'∧(shP b P).R.length≤P.R.length+12:=by
 refine By0 (Cf4 S ok (by lia) .x trivial) λs1 g1 o1 q1 e1=>?_
 have l1:=Bx3 b .x P.R P.I
 have S1:=S.go g1
 refine By0 (Cf4 S1 ok (by lia) (.a (.c 0)) ⟨by decide,by decide⟩) λs2 g2 o2 q2 e2=>?_
 have l2:=Bx3 b (.a (.c 0)) (rdP b .x P.R P.I).R (rdP b .x P.R P.I).I
 have S2:=S1.go g2
 refine By0 (Cf4 S2 ok (by lia) (.a (.c 1)) ⟨by decide,by decide⟩) λs3 g3 o3 q3 e3=>?_
 have l3:=Bx3 b (.a (.c 1)) (rdP b (.a (.c 0)) (rdP b .x P.R P.I).R (rdP b .x P.R P.I).I).R (rdP b (.a (.c 0)) (rdP b .x P.R P.I).R (rdP b .x P.R P.I).I).I
 have S3:=S2.go g3
 refine By0 (Cf4 S3 ok (by lia) (.a (.c 2)) ⟨by decide,by decide⟩) λs4 g4 o4 q4 e4=>?_
 have S4:=S3.go g4
 have p1:=((o1.go S1.lt g2).go S2.lt g3).go S3.lt g4
 have p2:=(o2.go S2.lt g3).go S3.lt g4
 have p3:=o3.go S3.lt g4
 obtain ⟨rows,er,rr⟩:=(((g1.trans g2).trans g3).trans g4).rows
 have el:(shP b P).R.length≤P.R.length+12:=by
  exact Nat.le_trans (Bx3 b (.a (.c 2)) (rdP b (.a (.c 1)) (rdP b (.a (.c 0)) (rdP b .x P.R P.I).R (rdP b .x P.R P.I).I).R (rdP b (.a (.c 0)) (rdP b .x P.R P.I).R (rdP b .x P.R P.I).I).I).R (rdP b (.a (.c 1)) (rdP b (.a (.c 0)) (rdP b .x P.R P.I).R (rdP b .x P.R P.I).I).R (rdP b (.a (.c 0)) (rdP b .x P.R P.I).R (rdP b .x P.R P.I).I).I).I) (by lia)
 refine ⟨s4,⟨rows++[prS ((0:Nat):Int) ((1:Nat):Int) q1 q2 q3 q4 (.tup [B1,B1,B1,B1,B1,B1])],?_,λtl h=>(rr tl h).app ?_⟩,S4,el⟩
 ·rw [List.reverse_append,List.append_assoc]
  show _::(rdP b (.a (.c 2)) _ _).I=_::_
  congr 1
  show SV.tup [_,SV.tup [rg 0,rg 1,rdO b .x P.R,rdO b (.a (.c 0)) _,rdO b (.a (.c 1)) _,rdO b (.a (.c 2)) _],_]=_
  simp only [e1,e2,e3,e4];rfl
 ·rw [e1] at p1
  rw [e2] at p2
  rw [e3] at p3
  rw [e4] at o4
  exact .print 0 1 q1 q2 q3 q4 k.sh _ (S4.lt.mono (Nat.le_trans el (by lia))) h S4.r0 S4.r1 (Az0 p1) (Az0 p2) (Az0 p3) (Az0 o4) (.nil _ _)
noncomputable def rowsP (b:Bool):List Row→Pc→Pc
 | [],P=>P
 | r::rs,P=>rowsP b rs (shP b (Bw8 b r P))
noncomputable def Ap3 (k:Rk):List Row→List Sh
 | []=>[]
 | r::rs=>(k.row r).sh::Ap3 (k.row r) rs
theorem Bu3:∀(rs:List Row) (k:Rk),(Ap3 k rs).length=rs.length
 | [],_=>rfl
 | r::rs,k=>congrArg (· + 1) (Bu3 rs _)
theorem all_go (rs:List Row):∀{P:Pc} {s:Es×Rg} {k:Rk},Sim b k P.R.length s→k.Ok→P.R.length+45*rs.length<900→(∀r∈rs,r.ok∧Cv1 b r)→
  ∃s',∃rows,(rowsP b rs P).I=rows.reverse++P.I∧∀tl:List Sh,tl.length+rs.length≤4→Ax0 s tl rows s' (tl++Ap3 k rs):=by
 induction rs with
 | nil=>intro P s k S ok _ _;exact ⟨s,[],rfl,λtl u0=>by rw [show Ap3 k [] = [] from rfl,List.append_nil];exact .nil _ _⟩
 | cons r rs ih=>
  intro P s k S ok hb hr
  simp only [List.length_cons] at hb
  refine Bk4 (row_go S ok (by lia) (hr r (List.mem_cons_self ..)).1 (hr r (List.mem_cons_self ..)).2) λs1 g1 S1 l1=>?_
  have ok1:=Dg6 ok (hr r (List.mem_cons_self ..)).1
  refine Bk4 (sh_go S1 ok1 (by lia)) λs2 z1 S2 l2=>?_;obtain ⟨rows2,e2,r2⟩:=z1
  obtain ⟨s3,rows3,e3,r3⟩:=ih S2 ok1 (by lia) λq h=>hr q (List.mem_cons_of_mem _ h)
  obtain ⟨rows1,e1,r1⟩:=g1.rows
  refine ⟨s3,(rows1++rows2)++rows3,?_,λtl h=>?_⟩
  ·show (rowsP b rs (shP b (Bw8 b r P))).I=_
   simp only [e3,e2,e1];simp
  ·simp only [List.length_cons] at h
   have:=(r1 tl (by lia)).app (r2 tl (by lia))
   refine this.app ?_
   have h3:=r3 (tl++[(k.row r).sh]) (by simp only [List.length_append,List.length_singleton];lia)
   simp only [List.append_assoc] at h3
   exact h3
noncomputable def rk0:Rk:=⟨0,2,9,5,6,7⟩
theorem Dg8:rk0.Ok:=⟨.inl rfl,.inr (.inr rfl)⟩
def fN:Rg:=λu0=>none
def f0:Rg:=Rg.put (Rg.put (Rg.put (Rg.put (Rg.put fN 0 (.int 0)) 1 (.int 2)) 2 .px) 3 .px) 4 (.arr 5 6 7)
def s3:Bool→Es×Rg
 | true=>(.e2 9 5 6 7,f0.put 5 .pa)
 | false=>(.e1 9,f0.put 5 (.arr 5 6 7))
theorem lts (f:Rg)(h:∀n,6≤n→f n=none):f.Lt 6:=λn hn=>by
 refine Nat.lt_of_not_le λq=>hn (h n q)
theorem Ay8 {f:Rg}{m:Nat}{v:VV}(hm:m<6)(h:∀n,6≤n→f n=none):∀n,6≤n→(f.put m v) n=none:=λn hn=>(Aj4 f v (by lia)).trans (h n hn)
theorem nil6:∀n,6≤n→fN n=none:=λu0 u0=>rfl
theorem Dp6 (b:Bool):Sim b rk0 (R3 b).length (s3 b):=by
 cases b with
 | true=>exact ⟨rfl,rfl,rfl,rfl,rfl,rfl,lts _ (Ay8 (by decide) (Ay8 (by decide) (Ay8 (by decide) (Ay8 (by decide) (Ay8 (by decide) (Ay8 (by decide) nil6)))))),Nat.le_refl _⟩
 | false=>exact ⟨rfl,rfl,rfl,rfl,rfl,rfl,lts _ (Ay8 (by decide) (Ay8 (by decide) (Ay8 (by decide) (Ay8 (by decide) (Ay8 (by decide) (Ay8 (by decide) nil6)))))),Nat.le_refl _⟩
theorem Cv6 (b:Bool):Ax0 mc0 [] (I3 b).reverse (s3 b) []:=by
 have L (f:Rg) (h:∀n,6≤n→f n=none):f.Lt 900:=(lts f h).mono (by decide)
 have h1:=Ay8 (m:=0) (v:=.int 0) (by decide) nil6
 have h2:=Ay8 (m:=1) (v:=.int 2) (by decide) h1
 have h3:=Ay8 (m:=2) (v:=.px) (by decide) h2
 have h4:=Ay8 (m:=3) (v:=.px) (by decide) h3
 have h5:=Ay8 (m:=4) (v:=.arr 5 6 7) (by decide) h4
 have z:∀{a:List Sh},a = []→a.length≤3:=λe=>by refine e▸?_;decide
 cases b with
 | true=>
  exact .step (.move .e0 _ 0 (cop 0) _ (.c 0)) (L _ h1) (z rfl) (.step (.move _ _ 1 (cop 2) _ (.c 2)) (L _ h2) (z rfl) (.step (.newx _ 2 (.int 1)) (L _ h3) (z rfl) (.step (.store1 _ 0 2 (cop 9) 9 rfl (.c 9)) (L _ h3) (z rfl)
   (.step (.move _ _ 3 (rg 2) .px (.r 2 _ rfl)) (L _ h4) (z rfl) (.step (.arr _ _ 4 5 6 7) (L _ h5) (z rfl) (.step (.newa _ 9 5 (.int 2)) (L _ (Ay8 (by decide) h5)) (z rfl) (.step (.storarr _ 9 0 0 0 5 6 7 5 4 rfl rfl) (L _ (Ay8 (by decide) h5)) (z rfl) (.nil _ _))))))))
 | false=>
  exact .step (.move .e0 _ 0 (cop 0) _ (.c 0)) (L _ h1) (z rfl) (.step (.move _ _ 1 (cop 2) _ (.c 2)) (L _ h2) (z rfl) (.step (.newx _ 2 (.int 1)) (L _ h3) (z rfl) (.step (.store1 _ 0 2 (cop 9) 9 rfl (.c 9)) (L _ h3) (z rfl)
   (.step (.move _ _ 3 (rg 2) .px (.r 2 _ rfl)) (L _ h4) (z rfl) (.step (.arr _ _ 4 5 6 7) (L _ h5) (z rfl) (.step (.move _ _ 5 (rg 4) (.arr 5 6 7) (.r 4 _ rfl)) (L _ (Ay8 (by decide) h5)) (z rfl) (.nil _ _)))))))
theorem Bv6 {rs:List Row}(h4:rs.length≤4)(hr:∀r∈rs,r.ok∧Cv1 b r):∃t,Ax0 mc0 [] (rowsP b rs ⟨R3 b,I3 b⟩).I.reverse t (Ap3 rk0 rs):=by
 have l3:(R3 b).length=6:=by cases b<;>rfl
 refine oEEA (all_go (b:=b) rs (P:=⟨R3 b,I3 b⟩) (Dp6 b) Dg8 (by refine l3▸?_;lia) hr) λt rows e r=>?_
 refine ⟨t,?_⟩
 simp only [e,List.reverse_append,List.reverse_reverse]
 exact (Cv6 b).app (r [] (by simpa using h4))
end
section
variable {w:World}{g0:Heap}{M N:Nat}
theorem CK.keep {f:Addr}{hp A A' X rest rest':List A0}{args:List SV}{v v':SV}{n q m:Nat}(C:CK w g0 M f args hp v (A++(X++rest)))(hn:A.length=n)(hq:X.length=q)(hm:rest.length=m)(hk:hp.length≤n)
  (hl:∀ρ,Fix n ρ→(∀j,j<m→ρ (n+j)=n+q+j)→Af4 ρ A' A∧Af4 ρ rest' rest∧svR ρ v'=v):CK w g0 M f args hp v' (A'++rest'):=λX'=>by
 let ks:=(List.range (n-hp.length)).map (hp.length + ·)++(List.range m).map (n+q + ·)
 let N:=(A++(X++rest)).length
 have hj:List.range hp.length++ks=List.range n++(List.range m).map (n+q + ·):=by
  show List.range hp.length++((List.range (n-hp.length)).map (hp.length + ·)++(List.range m).map (n+q + ·))=_
  rw [← List.append_assoc,← List.range_add]
  congr 2;omega
 have get1:∀j,j<n→(List.range n++(List.range m).map (n+q + ·))[j]?=some j:=λj h=>by rw [List.getElem?_append_left (by simpa using h),List.getElem?_range h]
 have get2:∀j,j<m→(List.range n++(List.range m).map (n+q + ·))[n+j]?=some (n+q+j):=λj h=>by
  rw [List.getElem?_append_right (by simp),List.length_range,Nat.add_sub_cancel_left,List.getElem?_map,List.getElem?_range h];rfl
 obtain ⟨l1,l2,l3⟩:=hl (rn (List.range n++(List.range m).map (n+q + ·)) N) (λj h=>Aq4 (get1 j h)) λj h=>Aq4 (get2 j h)
 have pl:A'.length=n:=by rw [l1.get.1,hn]
 have rl:rest'.length=m:=by rw [l2.get.1,hm]
 refine Ai8 (ks:=ks) (C X') ⟨by rw [hj];simp [pl,rl],?_,λi o ei=>?_⟩ (λj hj'=>?_) ?_
 ·rw [hj,List.nodup_append]
  refine ⟨List.nodup_range,?_,λa ha b hb e=>?_⟩
  ·rw [List.nodup_iff_pairwise_ne,List.pairwise_map]
   exact List.Pairwise.imp (λ{a b} h e=>h (Nat.add_left_cancel e)) (List.nodup_iff_pairwise_ne.mp List.nodup_range)
  ·obtain ⟨j,_,rfl⟩:=List.mem_map.mp hb
   have:=List.mem_range.mp ha
   omega
 ·rw [hj]
  by_cases hi:i<n
  ·rw [List.getElem?_append_left (pl▸hi)] at ei
   obtain ⟨O,e1,e2⟩:=l1.get.2 i o ei
   exact ⟨i,O,get1 i hi,by rw [List.getElem?_append_left (hn▸hi)];exact e1,e2⟩
  ·obtain ⟨j,rfl⟩:=Nat.exists_eq_add_of_le (Nat.le_of_not_lt hi)
   rw [List.getElem?_append_right (by omega),pl,Nat.add_sub_cancel_left] at ei
   have hjm:j<m:=rl▸(List.getElem?_eq_some_iff.mp ei).1
   obtain ⟨O,e1,e2⟩:=l2.get.2 j o ei
   refine ⟨n+q+j,O,get2 j hjm,?_,e2⟩
   rw [List.getElem?_append_right (by omega),hn,List.getElem?_append_right (by omega),hq,show n+q+j-n-q=j by omega]
   exact e1
 ·rcases List.mem_append.mp hj' with e | e
  ·obtain ⟨i,_,rfl⟩:=List.mem_map.mp e;exact Nat.le_add_right _ _
  ·obtain ⟨i,_,rfl⟩:=List.mem_map.mp e;omega
 ·rw [hj];exact l3
def shE (tl:List Sh):List A0:=tl.map shO++[.list [] 0]
theorem Bb8 (tl:List Sh):(shE tl).length=tl.length+1:=by unfold shE;rw [List.length_append,List.length_map];rfl
theorem Cd8 (tl:List Sh)(ρ:Nat→Nat):Af4 ρ (shE tl) (shE tl):=Af4.of (Ac4.append (Ct9 tl ρ) ⟨A3 rfl (Nat.le_refl _),trivial⟩)
theorem An0 (ρ:Nat→Nat)(a b:Nat):∀k:Nat,(∀j,j<k→ρ (a+j)=b+j)→svRs ρ (B6 a k)=B6 b k
 | 0,_=>rfl
 | k+1,f=>by
  show SV.loc (ρ (a+k))::svRs ρ (B6 a k)=_
  rw [f k (by omega),An0 ρ a b k λj hj=>f j (by omega)];rfl
theorem Bg4 {ρ:Nat→Nat}{A:List A0}:∀{rest pre:List A0} {k:Nat},(∀j,j<pre.length+rest.length→ρ (k+j)=A.length+j)→(∀o∈rest,Al2 ρ o=o)→An8 ρ (A++(pre++rest)) (k+pre.length) rest
 | [],pre,k,_,_=>trivial
 | o::rest,pre,k,h,hr=>by
  refine ⟨?_,?_⟩
  ·rw [h pre.length (by simp),List.getElem?_append_right (Nat.le_add_right _ _),Nat.add_sub_cancel_left,List.getElem?_append_right (Nat.le_refl _),Nat.sub_self,hr o (List.mem_cons_self ..)];rfl
  ·have:=Bg4 (A:=A) (rest:=rest) (pre:=pre++[o]) (k:=k) (λj hj=>h j (by simp at hj ⊢;omega)) λo' h'=>hr o' (List.mem_cons_of_mem _ h')
   rw [List.length_append,List.length_singleton,List.append_assoc] at this
   exact this
theorem Dg4 (tl:List Sh)(ρ:Nat→Nat):∀o∈shE tl,Al2 ρ o=o:=λo h=>by
 rcases List.mem_append.mp h with h | h
 ·obtain ⟨d,_,rfl⟩:=List.mem_map.mp h;rfl
 ·rw [List.mem_singleton.mp h];rfl
theorem Dy7 (B:B4 w g0){I:List SV}(hI:IOk I){t:Es×Rg}{tl:List Sh}(h:Ax0 mc0 [] I.reverse t tl)(ht:1≤tl.length)(ht':tl.length≤4):
  CK w g0 89 1019 [.loc 9,.loc 0,.loc 5,.loc 13,.int 0] (At9 I++hpQ0) (.tup [.str "done",.loc (14+tl.length)]) (At9 I++(hpQ (dn (Ai6 t (1500-I.length) [])) (B6 14 tl.length) 1000++shE tl)):=by
 have C0:=Dy8 B hI h ht ht' 1500
 have C1:CK w g0 89 1019 [.loc 0,.any,.loc 11,.loc 4,.int 0] (hpB (Ai6 mc0 1500 []) I []) (.tup [.str "done",.loc (12+tl.length)]) ((Bn4 (dn (Ai6 t (1500-I.length) (B6 12 tl.length))) 1000++hpC I)++shE tl):=by
  refine CK.keep (A:=Bn4 (dn (Ai6 t (1500-I.length) (B6 13 tl.length))) 1000++hpC I) (X:=[cF]) (rest:=shE tl) (n:=12) (q:=1) C0 rfl rfl (Bb8 tl) (Nat.le_refl _) λρ f g=>?_
  have fx:∀j,j<12→ρ j=j:=f
  refine ⟨Af4.append (a:=Bn4 (dn (Ai6 t (1500-I.length) (B6 12 tl.length))) 1000) ⟨Aa2 (by simp [esN,esC,svT,svL,svI,svS,svO,svB,svA,svF,svG,fx,dn,Ai6]),Aa2 (Bz4 _ _),A3 (An0 ρ 12 13 _ λj hj=>by rw [g j (by omega)]) (by show (B6 12 tl.length).length≤1000;rw [An1];omega),Aa2 rfl,Aa2 (by simp [esN,esC,svT,svL,svI,svS,svO,svB,svA,svF,svG,fx]),At8 (Bg0 _ _) (Nat.le_refl _),A3 rfl (Nat.le_refl _),trivial⟩
   ⟨A3 (hI.re ρ) hI.len,A3 (by simp [svN,svC,svT,svL,svI,svS,svO,svB,svA,svF,svG,fx]) (by simp),A3 (by simp [svN,svC,svT,svL,svI,svS,svO,svB,svA,svF,svG,fx]) (by simp),Af9 (by simp [nsN,nsC,svT,svL,svI,svS,svO,svB,svA,svF,svG,fx]),?_,trivial⟩,Cd8 tl ρ,?_⟩
  ·show A0.inst 136 10=A0.inst 136 (ρ 10);rw [fx 10 (by decide)]
  ·simp [svT,svL,svI,svS,svO,svB,svA,svF,svG,svN,svC,g tl.length (by omega)]
 have hN:(At9 I++hpQ0).length=14:=rfl
 have r12:∀j,rn [9,6,7,8,13,11,12,1,2,3,4,5] 14 (12+j)=14+j:=λj=>by rw [Bf9 (by simp)];simp
 refine (C1.frame (ARGS:=[.loc 9,.any,.loc 5,.loc 13,.int 0]) (js:=[9,6,7,8,13,11,12,1,2,3,4,5]) rfl ?_ ?_ ?_ ?_ ?_ ?_ ?_).args ⟨.refl _,.any _,.refl _,.refl _,.refl _,trivial⟩
 ·refine ⟨⟨_,rfl,Aa2 rfl⟩,⟨_,rfl,Aa2 rfl⟩,⟨_,rfl,A3 rfl (Nat.zero_le _)⟩,⟨_,rfl,Aa2 rfl⟩,⟨_,rfl,Aa2 rfl⟩,⟨_,rfl,.inr ⟨[],rfl,λk=>?_,Nat.zero_le _⟩⟩,⟨_,rfl,A3 rfl (Nat.le_refl _)⟩,
   ⟨_,rfl,A3 (hI.re _) hI.len⟩,⟨_,rfl,A3 rfl (by simp)⟩,⟨_,rfl,A3 rfl (by simp)⟩,⟨_,rfl,Af9 rfl⟩,⟨_,rfl,rfl⟩,trivial⟩
  have:rgM mc0.2 k=none:=by unfold rgM mc0;cases k with | s x=>rfl | i z=>cases z<;>rfl
  show Option.map _ (rgM mc0.2 k)=_
  rw [this];rfl
 ·rw [List.length_append,List.length_append,List.length_append,List.length_append,List.length_append]
  show 6+(8+(shE tl).length)+12=14+(12+(shE tl).length)
  omega
 ·show 12≤_
  rw [List.length_append]
  exact Nat.le_add_right 12 _
 ·exact ⟨rfl,trivial,trivial,trivial,trivial,trivial,trivial,trivial,trivial,trivial,rfl,trivial,trivial,trivial,trivial⟩
 ·rw [hN]
  refine ⟨rfl,?_,?_,rfl,rfl,?_,rfl,?_,rfl,rfl,rfl,rfl,?_⟩
  ·exact congrArg (λe=>some (A0.dict e)) (Bz4 t.1 _).symm
  ·exact congrArg (λe=>some (A0.list e 1000)) (An0 _ 12 14 _ λj u0=>r12 j).symm
  ·exact congrArg (λe=>some (A0.idict e 1000)) (Bg0 t.2 _).symm
  ·exact congrArg (λe=>some (A0.list e 1000)) (hI.re _).symm
  ·have:=Bg4 (ρ:=rn [9,6,7,8,13,11,12,1,2,3,4,5] 14) (A:=At9 I++hpQ (dn (Ai6 t (1500-I.length) [])) (B6 14 tl.length) 1000) (rest:=shE tl) (pre:=[]) (k:=12) (λj u0=>r12 j) (Dg4 tl _)
   rw [List.append_assoc] at this
   exact this
 ·rfl
 ·show SV.tup [_,SV.loc (rn _ 14 (12+tl.length))]=_
  rw [r12];rfl
theorem Cv7 (B:B4 w g0){I:List SV}(hI:IOk I){t:Es×Rg}{tl:List Sh}(h:Ax0 mc0 [] I.reverse t tl)(ht:1≤tl.length)(ht':tl.length≤4):
  CK w g0 121 1031 [.loc 0,.str "main.f"] (At9 I) (.tup [.tup [.str "done",.loc (7+tl.length)],.loc 6]) (At9 I++(.list (B6 7 tl.length) 1000::shE tl)):=by
 have Cb:=Dy7 B hI h ht ht'
 obtain ⟨st,e1,e2⟩:=Aa0 (pl_run (TM w g0 89 89) (dn (Ai6 t (1500-I.length) [])) I (B6 14 tl.length) (tl.map shO) (by simpa using ht) (by simpa using ht'))
 rw [List.length_map] at e1 e2
 have hl:(At9 I++(hpQ (dn (Ai6 t (1500-I.length) [])) (B6 14 tl.length) 1000++shE tl)).length=15+tl.length:=by
  rw [List.length_append,List.length_append,Bb8]
  show 6+(8+_)=_
  omega
 have C:=(Ad2 (M:=88) B Aa5 rfl e1 (.cons Cb .nil)).take (k:=15+tl.length) (show 6≤_ by omega) e2 hl (λρ f=>?_) λρ f=>by simp [svT,svL,svI,svS,svO,svB,svA,svF,svG,svN,svC,f 7 (by omega),f (14+tl.length) (by omega)]
 ·have C2:CK w g0 121 1031 [.loc 0,.str "main.f"] (At9 I) (.tup [.tup [.str "done",.loc (8+tl.length)],.loc 7]) ((At9 I++[.dict t.1.es,.list (B6 8 tl.length) 1000])++shE tl):=by
   refine CK.keep (A:=At9 I++[.dict t.1.es,.list (B6 14 tl.length) 1000]) (X:=(hpQ (dn (Ai6 t (1500-I.length) [])) (B6 14 tl.length) 1000).drop 2) (rest:=shE tl) (n:=8) (q:=6) C rfl rfl (Bb8 tl) (show 6≤8 by decide) λρ f g=>?_
   have fx:∀j,j<8→ρ j=j:=f
   refine ⟨Af4.append (hpPl_le hI ρ (λj hj=>fx j (by omega))) ⟨Aa2 (Bz4 _ _),A3 (An0 ρ 8 14 _ λj hj=>by rw [g j (by omega)]) (by rw [An1];omega),trivial⟩,Cd8 tl ρ,?_⟩
   simp [svT,svL,svI,svS,svO,svB,svA,svF,svG,svN,svC,g tl.length (by omega),fx 7 (by decide)]
  refine CK.keep (A:=At9 I) (X:=[.dict t.1.es]) (rest:=.list (B6 8 tl.length) 1000::shE tl) (n:=6) (q:=1) (m:=tl.length+2) (by rw [List.append_assoc] at C2;exact C2) rfl rfl (by rw [List.length_cons,Bb8]) (Nat.le_refl _) λρ f g=>?_
  have g':∀j,j<tl.length+1→ρ (7+j)=8+j:=λj hj=>by have:=g (1+j) (by omega);rw [show 6+(1+j)=7+j by omega,show 6+1+(1+j)=8+j by omega] at this;exact this
  refine ⟨hpPl_le hI ρ f,⟨A3 (An0 ρ 7 8 _ λj hj=>g' j (by omega)) (by rw [An1];omega),Cd8 tl ρ⟩,?_⟩
  have:=g 0 (by omega)
  simp [svT,svL,svI,svS,svO,svB,svA,svF,svG,svN,svC,g' tl.length (by omega),this]
 ·have fx:∀j,j<15+tl.length→ρ j=j:=f
  have h2:Ac4 ρ (hpQ (dn (Ai6 t (1500-I.length) [])) (B6 14 tl.length) 1000):=
   ⟨Aa2 (Bz4 _ _),A3 (An0 ρ 14 14 _ λj hj=>fx _ (by omega)) (by rw [An1];omega),Aa2 rfl,Aa2 (by simp [esN,esC,svT,svL,svI,svS,svO,svB,svA,svF,svG,fx 6 (by omega),fx 7 (by omega),fx 8 (by omega)]),A3 rfl (Nat.le_refl _),At8 (Bg0 _ _) (Nat.le_refl _),A3 rfl (Nat.le_refl _),Aa2 (by simp [esN,esC,svT,svL,svI,svS,svO,svB,svA,svF,svG,fx 11 (by omega),fx 12 (by omega)]),trivial⟩
  exact Ac4.append (hpPl_la hI ρ λj hj=>fx j (by omega)) (Ac4.append h2 (Ac4.append (Ct9 tl ρ) ⟨A3 rfl (Nat.le_refl _),trivial⟩))
where
 hpPl_la {I:List SV} (hI:IOk I) (ρ:Nat→Nat) (f:∀j,j<6→ρ j=j):Ac4 ρ (At9 I):=
  ⟨Aa2 (by simp [esN,esC,svT,svL,svI,svS,svO,svB,svA,svF,svG,f]),A3 (hI.re ρ) hI.len,A3 (by simp [svN,svC,svT,svL,svI,svS,svO,svB,svA,svF,svG,f]) (by simp),A3 (by simp [svN,svC,svT,svL,svI,svS,svO,svB,svA,svF,svG,f]) (by simp),Af9 (by simp [nsN,nsC,svT,svL,svI,svS,svO,svB,svA,svF,svG,f]),by show A0.inst 136 4=A0.inst 136 (ρ 4);rw [f 4 (by decide)],trivial⟩
 hpPl_le {I:List SV} (hI:IOk I) (ρ:Nat→Nat) (f:∀j,j<6→ρ j=j):Af4 ρ (At9 I) (At9 I):=Af4.of (hpPl_la hI ρ f)
end
section
variable {w:World}{g0:Heap}{M N:Nat}
theorem row_b {n:Nat}{P:Pc}(x:PcB n P)(b:Bool)(r:Row):PcB (n+40) (Bw8 b r P):=by
 cases r with
 | set1 p v=>exact (asP_b (p:=p) (o:=tgO p P.R) (v:=vlO b v (tg1 p P).R) (vlP_b (tgP_b x p) b v) (tgO_re p _) (vlO_re b v _)).mono (by simp +arith)
 | set2 p1 p2 v1 v2=>
  have y2:PcB (n+1+1) (tg1 p2 (tg1 p1 P)):=tgP_b (tgP_b x p1) p2
  have y4:PcB (n+1+1+4+1) (vk1 b v1 (tg1 p2 (tg1 p1 P))):=kpP_b (vlP_b y2 b v1) _
  have y6:PcB (n+1+1+4+1+4+1) (vk1 b v2 (vk1 b v1 (tg1 p2 (tg1 p1 P)))):=kpP_b (vlP_b y4 b v2) _
  have y7:=asP_b y6 p1 (o:=tgO p1 P.R) (v:=(vkO b v1 (tg1 p2 (tg1 p1 P))).sv) (tgO_re p1 _) (opv_re _)
  exact (asP_b y7 p2 (o:=tgO p2 (tg1 p1 P).R) (v:=(vkO b v2 (vk1 b v1 (tg1 p2 (tg1 p1 P)))).sv) (tgO_re p2 _) (opv_re _)).mono (by simp +arith)
 | set3 p1 p2 p3 v1 v2 v3=>
  let P3:=tg1 p3 (tg1 p2 (tg1 p1 P))
  have y3:PcB (n+1+1+1) P3:=tgP_b (tgP_b (tgP_b x p1) p2) p3
  have y4:PcB (n+1+1+1+4+1) (vk1 b v1 P3):=kpP_b (vlP_b y3 b v1) _
  have y5:PcB (n+1+1+1+4+1+4+1) (vk1 b v2 (vk1 b v1 P3)):=kpP_b (vlP_b y4 b v2) _
  have y6:PcB (n+1+1+1+4+1+4+1+4+1) (vk1 b v3 (vk1 b v2 (vk1 b v1 P3))):=kpP_b (vlP_b y5 b v3) _
  have z1:=asP_b y6 p1 (o:=tgO p1 P.R) (v:=(vkO b v1 P3).sv) (tgO_re p1 _) (opv_re _)
  have z2:=asP_b z1 p2 (o:=tgO p2 (tg1 p1 P).R) (v:=(vkO b v2 (vk1 b v1 P3)).sv) (tgO_re p2 _) (opv_re _)
  exact (asP_b z2 p3 (o:=tgO p3 (tg1 p2 (tg1 p1 P)).R) (v:=(vkO b v3 (vk1 b v2 (vk1 b v1 P3))).sv) (tgO_re p3 _) (opv_re _)).mono (by simp +arith)
 | upd p v=>
  let P1:=tg1 (some p) P
  let P2:=va1 p (tgO (some p) P.R) P1
  let P3:=vl1 b v P2
  have y3:PcB (n+1+2+4) P3:=vlP_b (vaP_b (tgP_b x (some p)) p (tgO_re (some p) _)) b v
  have y4:=y3.push (t:=B1) (i:=ins "binary" (reg P3.R) [.str "+",vaO p P1.R,vlO b v P2.R,B1]) (λu0=>rfl) λρ=>by simp only [svT,svL,svI,svS,svO,svN,svC,vaO_re,vlO_re]
  have y5:=asP_b y4 (some p) (o:=tgO (some p) P.R) (v:=rg (reg P3.R)) (tgO_re (some p) _) λu0=>rfl
  exact PcB.mono (P:=updP b p v P) y5 (by simp +arith)
theorem Br0 (b:Bool):∀(rs:List Row) {n:Nat} {P:Pc},PcB n P→PcB (n+53*rs.length) (rowsP b rs P)
 | [],n,P,x=>x
 | r::rs,n,P,x=>by
  have:=Br0 b rs (Cu0 (row_b x b r) b)
  exact this.mono (by simp +arith)
theorem row_s (B:B4 w g0)(b:Bool)(g:Int)(r:Row)(hr:Cv1 b r){P:Pc}(x:PcB 900 P):CK w g0 113 726 [.loc 0,r.stm] (hpl b g P) .none (hpl b g (Bw8 b r P)):=by
 cases r with
 | set1 p v=>exact set1_c B b g p (hr p (by simp [Row.pl])) v x
 | set2 p q v u=>exact set2_c B b g p q (hr p (by simp [Row.pl])) (hr q (by simp [Row.pl])) v u x
 | set3 p q s v u t=>exact set3_c B b g p q s (hr p (by simp [Row.pl])) (hr q (by simp [Row.pl])) (hr s (by simp [Row.pl])) v u t x
 | upd p v=>exact upd_c B b g p (hr (some p) (by simp [Row.pl])) v x
abbrev lsP (b:Bool)(P:Pc):Ls:=⟨hd3,g3 b,P⟩
noncomputable def Bb7:List Row→List SV
 | []=>[]
 | r::l=>r.stm::shown::Bb7 l
noncomputable def lsL (b:Bool):List Row→Pc→List Ls
 | [],_=>[]
 | r::l,P=>lsP b (Bw8 b r P)::lsP b (shP b (Bw8 b r P))::lsL b l (shP b (Bw8 b r P))
theorem Cd1 (B:B4 w g0)(b:Bool){L:Nat}:∀(rs:List Row),(∀r∈rs,Cv1 b r)→∀{n:Nat} {P:Pc},PcB n P→n+53*rs.length≤900→
  All (obsL (TM w g0 113 L) b (Ck9 .any .any (esB b) (bxB b) (lsP b P) 1000 1000) (Bb7 rs) (lsL b rs P))
 | [],_,n,P,x,h=>.nil
 | r::rs,hr,n,P,x,h=>by
  rw [List.length_cons] at h
  have x1:=row_b x b r
  have C1:=Cd2 (b:=b) (S:=lsP b P) (S':=lsP b (Bw8 b r P)) (n:=1000) (m:=1000) .any .any (row_s B b (g3 b) r (hr r (List.mem_cons_self ..)) (x.mono (by lia))) (Au8 r) (λu0=>rfl) (x.mono (by lia)) (λu0=>rfl) (x1.mono (by lia))
  have C2:=Cd2 (b:=b) (S:=lsP b (Bw8 b r P)) (S':=lsP b (shP b (Bw8 b r P))) (n:=1000) (m:=1000) .any .any (Do2 B b (g3 b) (x1.mono (by lia))) (λu0=>rfl) (λu0=>rfl) (x1.mono (by lia)) (λu0=>rfl) ((Cu0 x1 b).mono (by lia))
  exact .cons C1 (.cons C2 (Cd1 B b rs (λr m=>hr r (List.mem_cons_of_mem _ m)) (Cu0 x1 b) (by lia)))
def Ay0 (rs:List Row):List SV:=let1::let2::let3::Bb7 rs
def Cp1 (b:Bool)(rs:List Row):List Ls:=⟨hd1,1,⟨R1,I1⟩⟩::⟨hd2,1,⟨R2,I2⟩⟩::lsP b ⟨R3 b,I3 b⟩::lsL b rs ⟨R3 b,I3 b⟩
theorem Dy5 (B:B4 w g0)(b:Bool){L:Nat}(body:SV)(rs:List Row)(hr:∀r∈rs,Cv1 b r)(hl:rs.length≤4):All (obsL (TM w g0 113 L) b (Ck9 body (.loc 8) (esB b) (bxB b) ls0 0 0) (Ay0 rs) (Cp1 b rs)):=by
 have x3:=R3_b b
 have C2:=Cd2 (b:=b) (S:=⟨hd1,1,⟨R1,I1⟩⟩) (S':=⟨hd2,1,⟨R2,I2⟩⟩) (n:=1000) (m:=1000) .any .any (let2_c B b) (λu0=>rfl) (λu0=>rfl) (R1_b.mono (by simp +arith)) (λu0=>rfl) (R2_b.mono (by simp +arith))
 have C3:=Cd2 (b:=b) (S:=⟨hd2,1,⟨R2,I2⟩⟩) (S':=lsP b ⟨R3 b,I3 b⟩) (n:=1000) (m:=1000) .any .any (let3_c B b) (λu0=>rfl) (λu0=>rfl) (R2_b.mono (by simp +arith)) (λu0=>rfl) ((R3_b b).mono (by simp +arith))
 exact .cons (Cd2 (b:=b) (S:=ls0) (S':=⟨hd1,1,⟨R1,I1⟩⟩) (n:=0) (m:=0) body (.loc 8) (let1_c B b) (λu0=>rfl) (λu0=>rfl) (PcB.nil.mono (by simp +arith)) (λu0=>rfl) (R1_b.mono (by simp +arith))) (.cons C2 (.cons C3 (Cd1 B b rs hr x3 (by lia))))
end
section
variable {w:World}{g0:Heap}{M N:Nat}
noncomputable abbrev nsX (a b:Nat)(bd:SV):List (Str×SV):=[("key",.str "main.f"),("locals",.loc a),("params",.tup []),("results",.tup []),("captured",.tup []),("body",bd),("literals",.loc b)]
noncomputable abbrev jsX:List Nat:=[1,2,3,4,5,6]
theorem Dy3 {body:List SV}{b:Bool}(hb:∀ρ,svRs ρ body=body)(C:CK w g0 M 78 [.loc 0,.loc 4] (hpX body) (.loc 6) (hpX body++[.dict (esB b)])):
  CK w g0 M 78 [.loc 1,.loc 5] (hpFa (.tup body) (.loc 8)) (.loc 12) (hpFa (.tup body) (.loc 8)++[.dict (esB b)]):=by
 have e1:nsR (rn jsX 12) (nsX 2 3 (.tup body))=nsX 3 4 (.tup body):=by
  show [(_,_),(_,_),(_,_),(_,_),(_,_),(_,SV.tup (svRs _ body)),(_,_)]=_
  rw [hb];rfl
 refine C.frame (js:=jsX) rfl ⟨⟨_,rfl,rfl⟩,⟨_,rfl,Af9 e1⟩,⟨_,rfl,A3 rfl (by decide)⟩,⟨_,rfl,Aa2 rfl⟩,⟨_,rfl,rfl⟩,⟨_,rfl,Af9 rfl⟩,trivial⟩ rfl (by show 6≤7;decide)
  ⟨rfl,trivial,trivial,trivial,trivial,trivial,trivial,rfl,rfl,rfl,rfl,rfl,trivial⟩ ⟨rfl,?_,rfl,rfl,rfl,rfl,?_,trivial⟩ rfl rfl
 ·exact congrArg (λl=>some (A0.ns l)) e1.symm
 ·exact congrArg (λl=>some (A0.dict l)) (Ba2 b _).symm
noncomputable abbrev jsE:List Nat:=[0,1,2,3,4,5,6,8,40,41,39,42,43]
theorem Cx7 (B:B4 w g0){body:List SV}{b:Bool}{SS:List Ls}{S:Ls}(hS:∀ρ,svRs ρ S.P.I=S.P.I)(hl:S.P.I.length≤1000)(e:Al4 (TM w g0 113 113) body b SS=some (.loc 8,Bn6 (esB b) (bxB b) S,Dq5 (TM w g0 113 113) body b SS))
  (hob:All (Dq5 (TM w g0 113 113) body b SS)):CK w g0 177 791 [.loc 1,.loc 5] (hpF (.tup body)) (.loc 7) (hpF .any++Ad4 7 S.P.I):=by
 refine oEA (Aa0 e) λst e1 e2=>?_
 have C:=Ad2 (M:=112) (T:=TM w g0 113 113) B Aa5 (sums:=[78,772,726]) rfl e1 hob
 have e3:st.hp=Bn6 (esB b) (bxB b) S++st.hp.drop 48:=by rw [← e2,List.take_append_drop]
 generalize st.hp.drop 48=X at e3
 simp only [e3] at C
 refine C.forget (js:=jsE) (ks:=[8,40,41,39,42,43]) rfl rfl
  ⟨⟨_,rfl,rfl⟩,⟨_,rfl,rfl⟩,⟨_,rfl,Af9 rfl⟩,⟨_,rfl,A3 rfl (by decide)⟩,⟨_,rfl,Aa2 rfl⟩,⟨_,rfl,rfl⟩,⟨_,rfl,Af9 rfl⟩,
   ⟨_,rfl,Aa2 rfl⟩,⟨_,rfl,A3 (by simp only [hS,List.reverse_reverse]) hl⟩,⟨_,rfl,A3 rfl (by decide)⟩,⟨_,rfl,A3 rfl (by decide)⟩,
   ⟨_,rfl,_,rfl,rfl,.inl rfl,rfl,.inl rfl,rfl,.inl rfl,rfl,.inr rfl,rfl,.inl rfl,rfl,.inl rfl,rfl,.inr rfl,trivial⟩,⟨_,rfl,rfl⟩,trivial⟩ (λj m=>?_) rfl
 simp at m
 show 7≤j
 lia
def LowG (w:World)(g0:Heap)(b:Bool)(rs:List Row):Prop:=
 (Af0 rs.reverse).reverse=Ay0 rs∧Al4 (TM w g0 113 113) (Ay0 rs) b (Cp1 b rs)=some (.loc 8,Bn6 (esB b) (bxB b) (lsP b (rowsP b rs ⟨R3 b,I3 b⟩)),Dq5 (TM w g0 113 113) (Ay0 rs) b (Cp1 b rs))
theorem Dr6 (b:Bool)(rs:List Row)(h1:rs≠[])(h2:rs.length≤4):LowG w g0 b rs:=by
 cases rs with
 | nil=>exact absurd rfl h1
 | cons r1 rs=>cases rs with
  | nil=>exact ⟨rfl,By6 _ b let1 let2 let3 r1.stm shown _ _ _ _ _⟩
  | cons r2 rs=>cases rs with
   | nil=>exact ⟨rfl,By5 _ b let1 let2 let3 r1.stm shown r2.stm shown _ _ _ _ _ _ _⟩
   | cons r3 rs=>cases rs with
    | nil=>exact ⟨rfl,By4 _ b let1 let2 let3 r1.stm shown r2.stm shown r3.stm shown _ _ _ _ _ _ _ _ _⟩
    | cons r4 rs=>cases rs with
     | nil=>exact ⟨rfl,Bm6 _ b let1 let2 let3 r1.stm shown r2.stm shown r3.stm shown r4.stm shown _ _ _ _ _ _ _ _ _ _ _⟩
     | cons _ _=>exact absurd (Nat.le_trans (Nat.le_add_left 5 _) h2) (by decide)
theorem Dr5 (B:B4 w g0){rs:List Row}{b:Bool}(h1:rs≠[])(h2:rs.length≤4)(hr:∀r∈rs,Cv1 b r)(hb:lent rs.reverse false=b):
  CK w g0 177 791 [.loc 1,.loc 5] (hpF (.tup (Ay0 rs))) (.loc 7) (hpF .any++Ad4 7 (rowsP b rs ⟨R3 b,I3 b⟩).I):=by
 have l1:rs.reverse≠[]:=by simpa using h1
 have l2:rs.reverse.length≤4:=by simpa using h2
 have C1:=Dy3 (λρ=>by rw [Ac5,Ae6]) (Dy4 B l1 l2 hb)
 have C2:=Dw5 B l1 l2 (w:=w) (Ck9 (.tup (Ay0 rs)) (.loc 8) (esB b) (bxB b) ls0 0 0)
 have C3:=Dy5 B b (L:=113) (.tup (Ay0 rs)) rs hr h2
 have g:=Dr6 (w:=w) (g0:=g0) b rs h1 h2
 rw [g.1] at C1 C2
 exact Cx7 B (Br0 b rs (R3_b b)).i (Nat.le_trans (Br0 b rs (R3_b b)).li (by lia)) g.2 (.cons C1 (.cons C2 C3))
end
section
variable {w:World}{g0:Heap}{M N:Nat}
theorem sum_ok {p:Option Pl}{v:Vl}(h:Bb3 p v):∀q n,v = .sum q n→q.ok:=λq n e=>by
 subst e
 unfold Bb3 at h
 cases hp:At1 p with
 | true=>rw [hp] at h;exact h.elim
 | false=>simp only [hp] at h;exact h
abbrev hpDn (s:Rk)(r:Row):List A0:=[runM s,psO r,vsO r]
theorem hpDn_le (s:Rk)(r:Row):∀ρ,Fix 3 ρ→Ac4 ρ (hpDn s r):=λρ u0=>⟨Ai4 s ρ,psO_le' r ρ,vsO_le' r ρ,trivial⟩
where
 psO_le' (r:Row):∀ρ,Af5 ρ (psO r) (psO r):=λρ=>A3 (Av2 r ρ) (by simp)
 vsO_le' (r:Row):∀ρ,Af5 ρ (vsO r) (vsO r):=λρ=>A3 (Au3 r ρ) (by simp)
def Cr2 (s:Rk)(p:Option Pl):Option MK:=(s.kyo p).map Ky.mk
theorem Aq5 (s:Rk)(p:Option Pl):okPK p (Cr2 s p)=true:=by cases p<;>rfl
theorem Av4 {s:Rk}{ex:List A0}{T:A7}(h:∀p:Pl,p.ok→T.ok 926 [.loc 0,p.law] (runM s::ex) (.key (s.ky p).mk) (runM s::ex)):∀ps:List (Option Pl),(∀p∈ps,Ca8 p)→All (obK T (runM s::ex) (ps.map Ac0) (ps.map (Cr2 s)))
 | [],_=>.nil
 | none::l,hp=>Av4 h l λq hq=>hp q (List.mem_cons_of_mem _ hq)
 | some p::l,hp=>.cons (h p (hp _ (List.mem_cons_self ..))) (Av4 h l λq hq=>hp q (List.mem_cons_of_mem _ hq))
theorem done_c (B:B4 w g0){s:Rk}(h:s.Ok){r:Row}(hr:r.ok):CK w g0 97 938 [.loc 0,.tup [.str r.word,.loc 1,.loc 2]] (hpDn s r) .none (hpDn (s.row r) r):=by
 have go:∀{e:Option (SV×List A0×List Prop)} {ps vs:List SV} {o:List Orc} {n:Nat} {m:CMr} {ob:List Prop},hpD (mkM s) 1000 ps vs=hpDn s r→hpD m n ps vs = [.idict m n,psO r,vsO r]→m=mkM (s.row r)→
   e=some (.none,hpD m n ps vs,ob)→e=Aw6 (TM w g0 65 65) r.word (mkM s) ps vs o→All ob→CK w g0 (64+1+4*8) 938 [.loc 0,.tup [.str r.word,.loc 1,.loc 2]] (hpDn s r) .none (hpDn (s.row r) r):=λ{e ps vs o n m ob} h0 h0' hm h1 h2 h3=>by
  refine oEA (Aa0 (h2.symm.trans h1)) λst e1 e2=>?_
  rw [h0] at e1
  rw [h0',hm] at e2
  refine ((Ad2 B Aa5 rfl e1 h3).take (k:=3) (Nat.le_refl _) e2 rfl (λρ u0=>⟨.inl ⟨n,?_,Nat.le_refl _⟩,A3 (Av2 r ρ) (by simp),A3 (Au3 r ρ) (by simp),trivial⟩) λρ u0=>rfl).post ⟨Bq3 (mkM_ks _) (by decide),.refl _,.refl _,trivial⟩
  have:=Am8 (s.row r) ρ
  injection this with q
  exact q.symm▸rfl
 have aK:∀ex,∀p:Pl,p.ok→(TM w g0 65 65).ok 926 [.loc 0,p.law] (runM s::ex) (.key (s.ky p).mk) (runM s::ex):=λex p hp=>(at_x B h p hp ex).mono (by decide)
 have aW:∀ex,∀(p:Option Pl) (v:Vl),Bb3 p v→(TM w g0 65 65).ok 933 [.loc 0,v.law] (runM s::ex) (.int (s.vl v)) (runM s::ex):=λex p v hv=>Dk6 B h v (sum_ok hv) ex
 cases r with
 | upd p v=>
  exact go rfl rfl (Ci7 s _ (s.ky p)) (done_u (TM w g0 65 65) (mkM s) p v.law (s.ky p).mk (s.vl v) (s.rd p)) rfl (.cons (aK _ p hr.2.1) (.cons (aW _ _ v hr.2.2) (.cons (Ci8 s _) .nil)))
 | set1 p v=>
  exact go rfl rfl (Al3 s _ (s.kyo p)) (done_1 (TM w g0 65 65) (mkM s) p v.law (Cr2 s p) (Aq5 s p) (s.vl v)) rfl (.append (Av4 (aK _) [p] (by simpa using hr.1)) (.cons (aW _ _ v hr.2) .nil))
 | set2 p q v u=>
  refine oEA (Cg0 p (Cr2 s p) (Aq5 s p)) λp' e1 k1=>?_
  refine oEA (Cg0 q (Cr2 s q) (Aq5 s q)) λq' e2 k2=>?_
  have run:=done_2 (TM w g0 65 65) (mkM s) p' q' v.law u.law (s.vl v) (s.vl u)
  unfold dL2 dR2 at run
  simp only [e1,e2,k1,k2] at run
  refine go rfl rfl ?_ run rfl (.append (Av4 (aK _) [p,q] (by simpa using ⟨hr.1,hr.2.2.1⟩)) (.cons (aW _ _ v hr.2.1) (.cons (aW _ _ u hr.2.2.2) .nil)))
  unfold Cr2
  simp only [Al3,Al3];rfl
 | set3 p q r v u t=>
  refine oEA (Cg0 p (Cr2 s p) (Aq5 s p)) λp' e1 k1=>?_
  refine oEA (Cg0 q (Cr2 s q) (Aq5 s q)) λq' e2 k2=>?_
  refine oEA (Cg0 r (Cr2 s r) (Aq5 s r)) λr' e3 k3=>?_
  have run:=done_3 (TM w g0 65 65) (mkM s) p' q' r' v.law u.law t.law (s.vl v) (s.vl u) (s.vl t)
  unfold dL3 dR3 at run
  simp only [e1,e2,e3,k1,k2,k3] at run
  refine go rfl rfl ?_ run rfl (.append (Av4 (aK _) [p,q,r] (by simpa using ⟨hr.1,hr.2.2.1,hr.2.2.2.2.1⟩)) (.cons (aW _ _ v hr.2.1) (.cons (aW _ _ u hr.2.2.2.1) (.cons (aW _ _ t hr.2.2.2.2.2) .nil))))
  unfold Cr2
  simp only [Al3,Al3,Al3];rfl
end
theorem Ac7 {α:Type}{X Y:List α}{N:Nat}(h:X.length=N)(i:Nat):(X++Y)[N+i]?=Y[i]?:=by
 rw [List.getElem?_append_right (by lia),h,Nat.add_sub_cancel_left]
section
variable {w:World}{g0:Heap}{M N:Nat}
theorem CK.put1 {f:Addr}{j:Nat}{js:List Nat}{o o' O:A0}{ro HP:List A0}{args ARGS:List SV}{v V:SV}(C:CK w g0 M f args (o::ro) v (o'::ro))(nd:ndB (j::js)=true)(hO:HP[j]?=some O)(le:Af5 (rn (j::js) HP.length) o O)
  (P:Cq4 (rn (j::js) HP.length) HP js ro)(ha:svRs (rn (j::js) HP.length) args=ARGS)(hv:svR (rn (j::js) HP.length) v=V):CK w g0 M f ARGS HP V (HP.set j (Al2 (rn (j::js) HP.length) o')):=λX=>by
 have hn:j∉js:=(List.nodup_cons.mp (Ci2 nd)).1
 have hj:j<HP.length:=(List.getElem?_eq_some_iff.mp hO).1
 have F:Ap9 (j::js) (o::ro) (o'::ro) HP (HP.set j (Al2 (rn (j::js) HP.length) o')):={
  jl:=congrArg (· + 1) P.get.1
  nd:=Ci2 nd
  pre:=λk q e=>by
   cases k with
   | zero=>(replace e:=A9 e;subst e);exact ⟨j,O,rfl,hO,le⟩
   | succ k=>rw [List.getElem?_cons_succ] at e;obtain ⟨i,e1,e2,e3⟩:=P.get.2 k q e;exact ⟨i,_,by rw [List.getElem?_cons_succ];exact e1,e2,e3⟩
  len:=by simp
  le:=by simp
  same:=λi hi hni=>by exact (List.getElem?_set_ne (λq:j=i=>hni (q▸List.mem_cons_self ..)))
  post:=λk q e=>by
   cases k with
   | zero=>cases e;rw [Aq4 (j:=j) rfl,List.getElem?_set_self hj]
   | succ k=>
    obtain ⟨i,e1,e2,_⟩:=P.get.2 k q e
    rw [Aq4 (j:=i) (by rw [List.getElem?_cons_succ];exact e1),List.getElem?_set_ne (λq:j=i=>hn (q▸List.mem_of_getElem? e1))]
    exact e2}
 have:=Ad9 F (C X)
 simp only [ha,hv] at this
 exact this
theorem CK.shift {f:Addr}{hp hp' Z HQ:List A0}{args:List SV}{v:SV}{n:Nat}(C:CK w g0 M f args hp v hp')(hZ:Z.length=n)(hl:hp.length≤hp'.length)(le:Af4 (n + ·) hp HQ):CK w g0 M f (svRs (n + ·) args) (Z++HQ) (svR (n + ·) v) (Z++hp'.map (Al2 (n + ·))):=λX=>by
 have lq:hp.length=HQ.length:=le.get.1
 have er:rn ((List.range hp.length).map (n + ·)) (Z++HQ).length=(n + ·):=by
  funext k
  by_cases h:k<hp.length
  ·exact Aq4 (by simp only [List.getElem?_map,List.getElem?_range h];rfl)
  ·refine Eq.trans (Bf9 (by simp;lia)) ?_
   simp;grind
 have F:Ap9 ((List.range hp.length).map (n + ·)) hp hp' (Z++HQ) (Z++hp'.map (Al2 (n + ·))):={
  jl:=by simp
  nd:=List.pairwise_map.mpr (List.nodup_range.imp λh q=>h (Nat.add_left_cancel q))
  pre:=λk o e=>by
   refine er.symm▸?_
   have hk:=(List.getElem?_eq_some_iff.mp e).1
   refine oEA (le.get.2 k o e) λO e1 e2=>?_
   exact ⟨n+k,O,by simp only [List.getElem?_map,List.getElem?_range hk];rfl,by rw [Ac7 hZ];exact e1,e2⟩
  len:=by simp;lia
  le:=hl
  same:=λj hj hnj=>by
   have:j<Z.length:=Nat.lt_of_not_le λq=>hnj (List.mem_map.mpr ⟨j-n,List.mem_range.mpr (by simp only [List.length_append] at hj;grind),by show n+(j-n)=j;lia⟩)
   simp only [List.getElem?_append_left this,List.getElem?_append_left this]
  post:=λk o e=>by rw [er];simp only [Ac7 hZ,List.getElem?_map,e];rfl}
 have:=Ad9 F (C X)
 replace this:=er▸this
 exact this
end
section
variable {w:World}{g0:Heap}{M N:Nat}
def rdOf (q:Row×(Int×Int)):Rd:=⟨q.1.word,psO q.1,vsO q.1,q.2⟩
theorem Az4:∀l:List Rd,(Ah7 l).length=2*l.length
 | []=>rfl
 | d::l=>by show (Ah7 l++[d.p,d.v]).length=_;simp only [List.length_append,Az4 l,List.length_cons];simp;rfl
theorem Dg2 (ab:Int×Int):∀ρ,Af5 ρ (srcO ab) (srcO ab):=λρ=>A3 rfl (Nat.le_refl _)
theorem row_x (B:B4 w g0)(o:A0)(ab:Int×Int)(l:List Rd):∃q:Row×(Int×Int),q.1.ok∧CK w g0 121 943 [.loc 8] (Ck7 o ab (Ah7 l)) (Ce9 (rdOf q) l.length) (Ck7 o q.2 (Ah7 (rdOf q::l))):=by
 refine Ai5 (row_c B ab.1 ab.2) λr a' b' ok C=>?_
 refine ⟨(r,(a',b')),ok,?_⟩
 have:=CK.at1 (x:=srcO ab) (x':=srcO (a',b')) (A:=Cb0 o (some (.loc 8))) (L:=Ah7 l) (new:=[psO r,vsO r]) (new':=[psO r,vsO r]) (ARGS:=[.loc 8]) (n:=8) C rfl (Dg2 ab) (λu0=>rfl)
  (by simp [Al2,psO,vsO,← List.map_reverse];exact ⟨by have:=Av2 r (rn [8] (8+1+(Ah7 l).length));exact congrArg (A0.list · _) (by simpa using this),by have:=Au3 r (rn [8] (8+1+(Ah7 l).length));exact congrArg (A0.list · _) (by simpa using this)⟩) rfl rfl
 have e:svR (rn [8] (8+1+(Ah7 l).length)) (.tup [.str r.word,.loc 1,.loc 2])=Ce9 (rdOf (r,(a',b'))) l.length:=by
  show SV.tup [_,.loc (rn _ _ 1),.loc (rn _ _ 2)]=SV.tup [_,.loc _,.loc _]
  rw [Bf9 (show [8].length≤1 by decide),Bf9 (show [8].length≤2 by decide),Az4]
  have h1:8+1+2*l.length+(1 - [8].length)=9+2*l.length:=by rfl
  have h2:8+1+2*l.length+(2 - [8].length)=10+2*l.length:=by simp +arith
  simp only [h1,h2];rfl
 exact e▸this
theorem draws (B:B4 w g0)(hM:121≤M)(o:A0)(n:Nat):∀(ab:Int×Int) (l:List Rd),∃qs:List (Row×(Int×Int)),qs.length=n∧(∀q∈qs,q.1.ok)∧All (obD (TM w g0 M M) o ab l (qs.map rdOf)):=by
 induction n with
 | zero=>exact λab l=>⟨[],rfl,(λu0 h=>by cases h),.nil⟩
 | succ n ih=>
  intro ab l
  refine oEA (row_x B o ab l) λq ok C=>?_
  obtain ⟨qs,h1,h2,h3⟩:=ih q.2 (rdOf q::l)
  exact ⟨q::qs,by rw [List.length_cons,h1],λx hx=>(List.mem_cons.mp hx).elim (λe=>e▸ok) (h2 x),.cons (C.mono hM) h3⟩
theorem Ah5 (r:Row):∀ρ,Af5 ρ (psO r) (psO r):=λρ=>A3 (Av2 r ρ) (by simp)
theorem Ah3 (r:Row):∀ρ,Af5 ρ (vsO r) (vsO r):=λρ=>A3 (Au3 r ρ) (by simp)
theorem Ag9 (r:Row):∀ρ,Al2 ρ (psO r)=psO r:=λρ=>by show A0.list (svRs ρ _) _=_;rw [Av2];rfl
theorem Ag4 (r:Row):∀ρ,Al2 ρ (vsO r)=vsO r:=λρ=>by show A0.list (svRs ρ _) _=_;rw [Au3];rfl
theorem Ab4 {ρ:Nat→Nat}{o:A0}(h:Al2 ρ o=o):(some o:Option A0)=some (Al2 ρ o):=by exact congrArg _ h.symm
theorem Dv6 (R:Bv3 w g0 M)(o:A0)(ab:Int×Int)(qs:List (Row×(Int×Int)))(h1:qs≠[])(h2:qs.length≤4)(h3:∀q∈qs,q.1.ok):
  CK w g0 M 1036 [.loc (9+2*qs.length)] (hpW2 o ab (qs.map rdOf)) (.bool true) (hpW2 o ab (qs.map rdOf)):=by
 have C:=R (qs.map (·.1)) (by simpa using h1) (by simpa using h2) λr hr=>by
  refine oEA (List.mem_map.mp hr) λq hq z2=>?_;subst z2
  exact h3 q hq
 revert C
 exact l4E h1 h2 (λq1 C=>C.frame (js:=[0,9,10,11]) rfl ⟨⟨_,rfl,rfl⟩,⟨_,rfl,Ah5 _ _⟩,⟨_,rfl,Ah3 _ _⟩,⟨_,rfl,A3 rfl (Nat.le_of_ble_eq_true rfl)⟩,trivial⟩ rfl (Nat.le_refl _)
   ⟨trivial,rfl,rfl,rfl,rfl,rfl,rfl,rfl,rfl,trivial,trivial,trivial,trivial⟩ ⟨rfl,Ab4 (Ag9 _ _),Ab4 (Ag4 _ _),rfl,trivial⟩ rfl rfl)
  (λq1 q2 C=>C.frame (js:=[0,9,10,11,12,13]) rfl ⟨⟨_,rfl,rfl⟩,⟨_,rfl,Ah5 _ _⟩,⟨_,rfl,Ah3 _ _⟩,⟨_,rfl,Ah5 _ _⟩,⟨_,rfl,Ah3 _ _⟩,⟨_,rfl,A3 rfl (Nat.le_of_ble_eq_true rfl)⟩,trivial⟩ rfl (Nat.le_refl _)
   ⟨trivial,rfl,rfl,rfl,rfl,rfl,rfl,rfl,rfl,trivial,trivial,trivial,trivial,trivial,trivial⟩ ⟨rfl,Ab4 (Ag9 _ _),Ab4 (Ag4 _ _),Ab4 (Ag9 _ _),Ab4 (Ag4 _ _),rfl,trivial⟩ rfl rfl)
  (λq1 q2 q3 C=>C.frame (js:=[0,9,10,11,12,13,14,15]) rfl ⟨⟨_,rfl,rfl⟩,⟨_,rfl,Ah5 _ _⟩,⟨_,rfl,Ah3 _ _⟩,⟨_,rfl,Ah5 _ _⟩,⟨_,rfl,Ah3 _ _⟩,⟨_,rfl,Ah5 _ _⟩,⟨_,rfl,Ah3 _ _⟩,⟨_,rfl,A3 rfl (Nat.le_of_ble_eq_true rfl)⟩,trivial⟩ rfl (Nat.le_refl _)
   ⟨trivial,rfl,rfl,rfl,rfl,rfl,rfl,rfl,rfl,trivial,trivial,trivial,trivial,trivial,trivial,trivial,trivial⟩ ⟨rfl,Ab4 (Ag9 _ _),Ab4 (Ag4 _ _),Ab4 (Ag9 _ _),Ab4 (Ag4 _ _),Ab4 (Ag9 _ _),Ab4 (Ag4 _ _),rfl,trivial⟩ rfl rfl)
  (λq1 q2 q3 q4 C=>C.frame (js:=[0,9,10,11,12,13,14,15,16,17]) rfl ⟨⟨_,rfl,rfl⟩,⟨_,rfl,Ah5 _ _⟩,⟨_,rfl,Ah3 _ _⟩,⟨_,rfl,Ah5 _ _⟩,⟨_,rfl,Ah3 _ _⟩,⟨_,rfl,Ah5 _ _⟩,⟨_,rfl,Ah3 _ _⟩,⟨_,rfl,Ah5 _ _⟩,⟨_,rfl,Ah3 _ _⟩,⟨_,rfl,A3 rfl (Nat.le_of_ble_eq_true rfl)⟩,trivial⟩ rfl (Nat.le_refl _)
   ⟨trivial,rfl,rfl,rfl,rfl,rfl,rfl,rfl,rfl,trivial,trivial,trivial,trivial,trivial,trivial,trivial,trivial,trivial,trivial⟩ ⟨rfl,Ab4 (Ag9 _ _),Ab4 (Ag4 _ _),Ab4 (Ag9 _ _),Ab4 (Ag4 _ _),Ab4 (Ag9 _ _),Ab4 (Ag4 _ _),Ab4 (Ag9 _ _),Ab4 (Ag4 _ _),rfl,trivial⟩ rfl rfl)
theorem Ds3 (T:A7)(o:A0)(x y:Int×Int)(l:List Rd)(t:Nat)(h:l.length=t+1)(ht:t<4):Bh2 T o x y l t=Bh3 T o x y l t:=by
 cases l with
 | nil=>exact absurd h (Nat.succ_ne_zero t).symm
 | cons x1 l=>
  obtain rfl:=Nat.succ.inj h
  cases l with
  | nil=>exact Cz1 _ o x y _
  | cons x2 l=>cases l with
   | nil=>exact Cz0 _ o x y _ _
   | cons x3 l=>cases l with
    | nil=>exact Cy9 _ o x y _ _ _
    | cons x4 l=>cases l with
     | nil=>exact Cy8 _ o x y _ _ _ _
     | cons _ _=>exact absurd (Nat.lt_of_le_of_lt (Nat.le_add_left 4 _) ht) (by decide)
theorem law_c (B:B4 w g0)(R:Bv3 w g0 (M+1))(hM:121≤M){o:A0}(ho:ScO o):CK w g0 (M+1+4*10) 1041 [.loc 1] [.tab 163,o] (.bool true) [.tab 163,o]:=by
 refine oE (pool_c B ho) λab0 Cp=>?_
 refine Ai5 (Am1 B ab0.1 ab0.2 4 (by decide) (by decide)) λt a b ht Ct=>?_
 refine Bk4 (draws B (M:=M+1) (by lia) o (t+1) (a,b) []) λqs q1 q2 q3=>?_
 have ht:t<4:=by lia
 have Cp':CK w g0 (M+1) 865 [.loc 1,.int 0] (Cb0 o none) (.loc 8) (Cb0 o none++[srcO ab0]):=
  (CK.at1 (A:=[.tab 163]) (L:=.cell none::(fixL++[.list [.tup [.str "set",.loc 5,.loc 6],.tup [.str "set",.loc 3,.loc 4]] 2])) (n:=1) Cp rfl (Do6 ho).1 (Do6 ho).2 rfl rfl rfl).mono (by lia)
 have Ct':CK w g0 (M+1) 872 [.loc 8,.int 4] (Ck7 o ab0 []) (.int t) (Ck7 o (a,b) []):=
  (CK.at1 (A:=Cb0 o (some (.loc 8))) (L:=[]) (n:=8) (x:=srcO ab0) (x':=srcO (a,b)) (new:=[]) Ct rfl (Dg2 ab0) (λu0=>rfl) rfl rfl rfl).mono (by omega)
 have le:∀ρ,Fix 2 ρ→Ac4 ρ [.tab 163,o]:=λρ u0=>⟨rfl,(Do6 ho).1 ρ,trivial⟩
 have Cd:CK w g0 (M+1) 1036 [.loc (9+2*(qs.map rdOf).length)] (hpW2 o (a,b) (qs.map rdOf)) (.bool true) (hpW2 o (a,b) (qs.map rdOf)):=by
  rw [List.length_map];exact Dv6 R o (a,b) qs (by intro e;replace q1:=e▸q1;cases q1) (by lia) q2
 refine oEA (Aa0 (Ds3 (TM w g0 (M+1) (M+1)) o ab0 (a,b) (qs.map rdOf) t ((List.length_map _).trans q1) ht)) λst e1 e2=>?_
 exact (Ad2 B Aa5 rfl e1 (.cons (fix_c R) (.cons Cp' (.cons Ct' (.append q3 (.cons Cd .nil)))))).take (k:=2) (Nat.le_refl _) e2 rfl le λu0 u0=>rfl
end
noncomputable def riF:Nat→Rk→List Row→List Ri
 | _,_,[]=>[]
 | k,s,r::l=>⟨.tup [.str r.word,.loc k,.loc (k+1)],r.stm,mkM (s.row r),(s.row r).sh⟩::riF (k+2) (s.row r) l
noncomputable def AtR (L:List A0):Nat→List Row→Prop
 | _,[]=>True
 | k,r::l=>L[k]?=some (psO r)∧L[k+1]?=some (vsO r)∧AtR L (k+2) l
theorem keq_mk (a b:MK):keq a.sv b.sv=decide (a=b):=by
 exact @Av9 ⟨[]⟩ a b
theorem Dv8 (a k:MK)(v:SV)(l:List (SV×SV)):Ak5 ((a.sv,v)::l) k.sv=if k=a then some v else Ak5 l k.sv:=by
 show (match keq a.sv k.sv with | true=>some v | false=>Ak5 l k.sv)=_
 rw [keq_mk]
 by_cases h:a=k
 ·rw [if_pos h.symm];simp [h]
 ·rw [if_neg (Ne.symm h)];simp [h]
theorem Dp0 (k:MK)(ρ:Nat→Nat):(mkM rk0 k).map (svR ρ)=Ak5 run0 k.sv:=by
 show _=Ak5 [((MK.s "i").sv,.int 0),((MK.s "j").sv,.int 2),((MK.s "x").sv,.int 9),((MK.i 0).sv,.int 5),((MK.i 1).sv,.int 6),((MK.i 2).sv,.int 7)] k.sv
 simp only [Dv8]
 unfold mkM
 repeat' (first | rfl | split)
theorem An4 (L:List A0)(rows:List Ri):(hpR L rows).length=L.length+2:=by simp [hpR]
theorem Bt3 {L:List A0}{rows:List Ri}{Y:List A0}{k:Nat}{o:A0}(h:L[k]?=some o):(hpR L rows++Y)[k+1]?=some o:=by
 have hk:=(List.getElem?_eq_some_iff.mp h).1
 show (A0.tab 163::((L++_)++Y))[k+1]?=_
 simp only [List.getElem?_cons_succ,List.append_assoc,List.getElem?_append_left hk,h]
theorem T1_set (L:List A0)(rows:List Ri)(r:Ri)(l:List Ri)(m:Option CM)(m':CM):(Di2 L rows r l m).set (L.length+4) (.idict m' 1000)=Di2 L rows r l (some m'):=by
 unfold Di2
 rw [List.set_append_right _ _ (by rw [An4];simp +arith),An4]
 have:L.length+4-(L.length+2)=2:=by simp +arith
 simp only [this];rfl
theorem T1_at (L:List A0)(rows:List Ri)(r:Ri)(l:List Ri)(m:Option CM):(Di2 L rows r l m)[L.length+4]?=some (runO m):=by
 show (hpR L rows++_)[L.length+2+2]?=_
 rw [Ac7 (An4 L rows)];rfl
section
variable {w:World}{g0:Heap}{M N:Nat}
theorem Bq1 (B:B4 w g0){L:List A0}{rows:List Ri}:∀(rs:List Row) (k:Nat) (s:Rk) (l:List Ri),s.Ok→(∀r∈rs,r.ok)→(Bh4 l=none∧s=rk0∨Bh4 l=some (mkM s))→AtR L k rs→All (obT (TM w g0 177 177) L rows l (riF (k+1) s rs))
 | [],k,s,l,_,_,_,_=>.nil
 | r::rs,k,s,l,ok,hr,hm,⟨a1,a2,a3⟩=>by
  have h1:k<L.length:=(List.getElem?_eq_some_iff.mp a1).1
  have h2:k+1<L.length:=(List.getElem?_eq_some_iff.mp a2).1
  have r1:r.ok:=hr r (List.mem_cons_self ..)
  have nd:ndB [L.length+4,k+1,k+2]=true:=Av5 (by simp;lia)
  have nd2:ndB [k+1,k+2]=true:=Av5 (by simp)
  have C1:CK w g0 177 948 [.tup [.str r.word,.loc (k+1),.loc (k+1+1)]] (hpT L rows l) r.stm (hpT L rows l):=
   ((stm_c B r).ro (js:=[k+1,k+2]) nd2 ⟨⟨by rw [Ag9];exact Bt3 a1,by rw [Ag9];exact Ah5 r _⟩,⟨by rw [Ag4];exact Bt3 a2,by rw [Ag4];exact Ah3 r _⟩,trivial⟩ rfl (Au8 r _)).mono (by decide)
  have C2:CK w g0 177 953 [] (hpT L rows l) shown (hpT L rows l):=(Do1 B _).mono (by decide)
  have C3:CK w g0 177 938 [.loc (L.length+4),.tup [.str r.word,.loc (k+1),.loc (k+1+1)]] (Di2 L rows ⟨.tup [.str r.word,.loc (k+1),.loc (k+1+1)],r.stm,mkM (s.row r),(s.row r).sh⟩ l (Bh4 l)) .none (Di2 L rows ⟨.tup [.str r.word,.loc (k+1),.loc (k+1+1)],r.stm,mkM (s.row r),(s.row r).sh⟩ l (some (mkM (s.row r)))):=by
   have C:=(done_c B ok r1).put1 (js:=[k+1,k+2]) (ARGS:=[.loc (L.length+4),.tup [.str r.word,.loc (k+1),.loc (k+1+1)]]) (V:=.none) nd (T1_at L rows ⟨.tup [.str r.word,.loc (k+1),.loc (k+1+1)],r.stm,mkM (s.row r),(s.row r).sh⟩ l (Bh4 l)) (by
     rcases hm with ⟨e1,e2⟩ | e1
     ·rw [e1,e2];exact .inr ⟨run0,rfl,λq=>Dp0 q _,by decide⟩
     ·rw [e1];exact Ai4 s _) ⟨⟨by rw [Ag9];exact Bt3 a1,by simp only [Ag9];exact Ah5 r _⟩,⟨by rw [Ag4];exact Bt3 a2,by simp only [Ag4];exact Ah3 r _⟩,trivial⟩ rfl rfl
   simp only [Am8,T1_set] at C
   exact C.mono (by decide)
  have e:∀q:Ky,mkM (s.row r) q.mk=some (.int ((s.row r).at q)):=Ci8 _
  exact .cons C1 (.cons C2 (.cons C3 (.append (.cons (e .i) (.cons (e .j) (.cons (e .x) (.cons (e (.e 0)) (.cons (e (.e 1)) (.cons (e (.e 2)) .nil)))))) (Bq1 B (rows:=rows) rs (k+2) (s.row r) (⟨.tup [.str r.word,.loc (k+1),.loc (k+1+1)],r.stm,mkM (s.row r),(s.row r).sh⟩::l) (Dg6 ok r1) (λq m=>hr q (List.mem_cons_of_mem _ m)) (.inr rfl) a3))))
end
theorem At2 {α:Type}{X Y:List α}{k:Nat}{o:α}(h:X[k]?=some o):(X++Y)[k]?=some o:=by
 rw [List.getElem?_append_left (List.getElem?_eq_some_iff.mp h).1,h]
noncomputable abbrev jsLo (N:Nat):List Nat:=[0,N+3,N+2,N,N+1,N+5,N+4]
abbrev fn6 (N:Nat)(bd:SV)(wn:A0):List A0:=fnR N bd++[wn,.inst 854 (N+4)]
section
variable {w:World}{g0:Heap}{M N:Nat}
theorem Dr4 {bd:SV}{I:List SV}(C:CK w g0 M 791 [.loc 1,.loc 5] (hpF bd) (.loc 7) (hpF .any++Ad4 7 I))(hbd:∀ρ,svR ρ bd=bd)(hI:∀ρ,svRs ρ I=I){X W:List A0}(hX:X[0]?=some (.tab 163))(hN:X.length=N)(K:Nat){n:Nat}(hn:n=N+6+W.length):
  CK w g0 M 791 [.loc (N+3),.loc (N+5)] (X++(fn6 N bd (wnR K)++W)) (.loc n) ((X++(fn6 N .any (.ns Bp5)++W))++Ad4 n I):=λY=>by
 have hn':(X++(fn6 N bd (wnR K)++W)).length=n:=by simp [fn6,fnR];lia
 have hz:(X++(fn6 N .any (.ns Bp5)++W)).length=n:=by simp [fn6,fnR];lia
 have hp0:0<N:=by refine hN▸?_;exact (List.getElem?_eq_some_iff.mp hX).1
 have e1 (b:SV) (hb:∀ρ,svR ρ b=b):nsR (rn (jsLo N) n) (nsX 3 4 b)=nsX N (N+1) b:=by
  show [(_,_),(_,_),(_,_),(_,_),(_,_),(_,svR _ b),(_,_)]=_
  rw [hb];rfl
 have pre:∀i o,(fn6 N bd (wnR K))[i]?=some o→(X++(fn6 N bd (wnR K)++W))[N+i]?=some o:=λi o e=>(Ac7 hN i).trans (At2 e)
 have pos:∀i o,(fn6 N .any (.ns Bp5))[i]?=some o→((X++(fn6 N .any (.ns Bp5)++W))++Ad4 n I)[N+i]?=some o:=λi o e=>At2 ((Ac7 hN i).trans (At2 e))
 have cod:∀i,((X++(fn6 N .any (.ns Bp5)++W))++Ad4 n I)[n+i]?=(Ad4 n I)[i]?:=Ac7 hz
 have F:Ap9 (jsLo N) (hpF bd) (hpF .any++Ad4 7 I) (X++(fn6 N bd (wnR K)++W)) ((X++(fn6 N .any (.ns Bp5)++W))++Ad4 n I):=by
  refine {toPicked:=Picked.of (Av5 (by simp;lia)) ?_,len:=?_,le:=(by show 7≤13;decide),same:=λj hj hnj=>?_,post:=λk o e=>?_}
  ·refine hn'▸?_
   exact ⟨⟨_,At2 hX,rfl⟩,⟨_,pre 3 _ rfl,rfl⟩,⟨_,pre 2 _ rfl,Af9 (e1 bd hbd)⟩,⟨_,pre 0 _ rfl,A3 rfl (by decide)⟩,⟨_,pre 1 _ rfl,Aa2 rfl⟩,⟨_,pre 5 _ rfl,rfl⟩,
    ⟨_,pre 4 _ rfl,_,rfl,rfl,.inl rfl,rfl,.inl rfl,rfl,.inl rfl,rfl,.inl rfl,rfl,.inl rfl,rfl,.inl rfl,rfl,.inl rfl,rfl,.inl rfl,rfl,.inl rfl,rfl,.inl rfl,rfl,.inl rfl,rfl,.inl rfl,rfl,.inl rfl,trivial⟩,trivial⟩
  ·simp only [List.length_append,hz,hn'];rfl
  ·simp only [hn'] at hj
   rw [List.getElem?_append_left (by simp only [hz];exact hj)]
   by_cases q:j<X.length
   ·simp only [List.getElem?_append_left q,List.getElem?_append_left q]
   ·refine oE (Nat.exists_eq_add_of_le (show N≤j by lia)) λi z1=>?_;subst z1
    simp only [Ac7 hN,Ac7 hN]
    refine oE (Nat.exists_eq_add_of_le (show 6≤i by simp at hnj;lia)) λi z1=>?_;subst z1
    rw [Ac7 (X:=fn6 N .any (.ns Bp5)) (N:=6) rfl,Ac7 (X:=fn6 N bd (wnR K)) (N:=6) rfl]
  ·refine hn'.symm▸?_
   have P:An8 (rn (jsLo N) n) ((X++(fn6 N .any (.ns Bp5)++W))++Ad4 n I) 0 (hpF .any++Ad4 7 I):=
    ⟨At2 (At2 hX),pos 3 _ rfl,(pos 2 _ rfl).trans (congrArg (λl=>some (A0.ns l)) (e1 .any λu0=>rfl).symm),pos 0 _ rfl,pos 1 _ rfl,pos 5 _ rfl,pos 4 _ rfl,
     cod 0,(cod 1).trans (congrArg (λl=>some (A0.list l 1000)) (hI _).symm),cod 2,cod 3,cod 4,cod 5,trivial⟩
   have:=P.get k o e
   simp only [Nat.zero_add] at this
   exact this
 have:=Ad9 F (C Y)
 exact hn'▸this
theorem play_x {I:List SV}{q:Nat}{tl:List Sh}(C:CK w g0 M 1031 [.loc 0,.str "main.f"] (At9 I) (.tup [.tup [.str "done",.loc (7+q)],.loc 6]) (At9 I++(.list (B6 7 q) 1000::shE tl)))(hI:IOk I){Z:List A0}{n:Nat}(hZ:Z.length=n):
  CK w g0 M 1031 [.loc n,.str "main.f"] (Z++Ad4 n I) (.tup [.tup [.str "done",.loc (n+(7+q))],.loc (n+6)]) (Z++(Ad4 n I++(.list (B6 (n+7) q) 1000::shE tl))):=by
 have pr:Af4 (n + ·) (At9 I) (Ad4 n I):=⟨Aa2 rfl,A3 (hI.re _) hI.len,A3 rfl (by decide),A3 rfl (by decide),Af9 rfl,rfl,trivial⟩
 have:=C.shift hZ (by simp only [List.length_append];exact Nat.le_add_right _ _) pr
 have e:(At9 I++(.list (B6 7 q) 1000::shE tl)).map (Al2 (n + ·))=Ad4 n I++(.list (B6 (n+7) q) 1000::shE tl):=by
  simp only [List.map_append,List.map_cons]
  have h1:(At9 I).map (Al2 (n + ·))=Ad4 n I:=by
   show [A0.dict _,A0.list (svRs _ I) 1000,_,_,_,_]=_
   rw [hI.re];rfl
  have h3:Al2 (n + ·) (.list (B6 7 q) 1000) = .list (B6 (n+7) q) 1000:=congrArg (A0.list · 1000) (An0 _ 7 (n+7) q λj u0=>by show n+(7+j)=n+7+j;simp +arith)
  simp only [h1,((List.map_congr_left (Dg4 tl _)).trans (List.map_id' _)),h3]
 simp only [e] at this
 exact this
end
noncomputable def dat (d:Sh):PyData:=.list [.int d.1,.int d.2.1,.int d.2.2.1,.int d.2.2.2.1,.int d.2.2.2.2.1,.int d.2.2.2.2.2]
theorem SRds.append {hp:List A0}{a b:List SV}{x y:List PyData}(h:SRds hp a x)(k:SRds hp b y):SRds hp (a++b) (x++y):=by
 induction a generalizing x with
 | nil=>cases h;exact k
 | cons v a ih=>cases h with
  | cons _ _ d ds h1 h2=>exact .cons _ _ _ _ h1 (ih h2)
theorem Dg3 {hp:List A0}{k:Nat}{d:Sh}(h:hp[k]?=some (.list (d6 d) 6)):SRd hp (.loc k) (dat d):=
 .lst k 6 [.int d.1,.int d.2.1,.int d.2.2.1,.int d.2.2.2.1,.int d.2.2.2.2.1,.int d.2.2.2.2.2] _ h (.cons _ _ _ _ (.int _) (.cons _ _ _ _ (.int _) (.cons _ _ _ _ (.int _) (.cons _ _ _ _ (.int _) (.cons _ _ _ _ (.int _) (.cons _ _ _ _ (.int _) .nil))))))
noncomputable def prU (N:Nat):List Sh→List SV
 | []=>[]
 | d::l=>.loc N::prU (N+1) l
theorem Br5:∀(k N:Nat),(B6 N (k+1)).reverse = .loc N::(B6 (N+1) k).reverse
 | 0,N=>rfl
 | k+1,N=>by
  show (SV.loc (N+(k+1))::B6 N (k+1)).reverse = .loc N::(SV.loc (N+1+k)::B6 (N+1) k).reverse
  rw [List.reverse_cons,Br5 k N,List.reverse_cons,List.cons_append]
  have:N+(k+1)=N+1+k:=by simp +arith
  exact this▸rfl
theorem Dh1 {hp:List A0}:∀(tl:List Sh) (N:Nat),(∀i d,tl[i]?=some d→hp[N+i]?=some (shO d))→SRds hp (B6 N tl.length).reverse (tl.map dat)
 | [],N,_=>.nil
 | d::tl,N,h=>by
  simp only [List.length_cons,Br5]
  exact .cons _ _ _ _ (Dg3 (h 0 d rfl)) (Dh1 tl (N+1) λi d' e=>by refine Eq.trans (congrArg _ (show N+1+i=N+(i+1) by simp +arith)) ?_;exact h (i+1) d' e)
theorem Au6:∀l:List Ri,(Bl1 l).length=4*l.length
 | []=>rfl
 | r::l=>by
  show (Bl1 l++_).length=_
  simp only [List.length_append,Au6 l];simp;rfl
theorem Di7 {hp:List A0}{B:Nat}:∀(l:List Ri),(∀i o,(Bl1 l)[i]?=some o→hp[B+4+i]?=some o)→SRds hp (dueR B l).reverse ((l.map λr=>dat r.d).reverse)
 | [],_=>.nil
 | r::l,h=>by
  show SRds hp (SV.loc _::dueR B l).reverse (_::_).reverse
  rw [List.reverse_cons,List.reverse_cons]
  refine (Di7 l λi o e=>h i o (At2 e)).append (.cons _ _ _ _ (Dg3 ?_) .nil)
  have:=h (4*l.length+3) (.list (d6 r.d) 6) ((Ac7 (Au6 l) 3).trans rfl)
  exact (show B+7+4*l.length=B+4+(4*l.length+3) by simp +arith)▸this
theorem Di9:∀tl:List Sh,PyData.canLayAll0 (tl.map dat)=true∧PyData.depthAll (tl.map dat)≤1
 | []=>⟨by simp [PyData.canLayAll0],by simp [PyData.depthAll]⟩
 | d::tl=>by
  obtain ⟨h1,h2⟩:=Di9 tl
  refine ⟨?_,?_⟩
  ·simp [PyData.canLayAll0,PyData.canLay0,dat,h1]
  ·simp [PyData.depthAll,PyData.depth,dat,h2]
theorem deq_of {hp:List A0}{tl:List Sh}{N N1 D E1 E2 n m:Nat}{du:List SV}(h1:hp[N]?=some (.list (B6 N1 tl.length) n))(h2:SRds hp (B6 N1 tl.length).reverse (tl.map dat))(h3:hp[D]?=some (.list du m))(h4:SRds hp du.reverse (tl.map dat))
  (h5:hp[E1]?=some (.list [] 0))(h6:hp[E2]?=some (.list [] 0)):DEq hp (.tup [.tup [.str "done",.loc E1],.loc N]) (.tup [.tup [.str "done",.loc E2],.loc D]):=by
 refine oA (Di9 tl) λk1 k2=>?_
 have c:PyData.canLay0 (.tuple [.tuple [.str "done",.list []],.list (tl.map dat)])=true:=by
  simp only [PyData.canLayAll0,PyData.canLay0,k1];decide +kernel
 refine ⟨.tuple [.tuple [.str "done",.list []],.list (tl.map dat)],c,?_,SeqAt.eqv_refl _ c,?_,?_⟩
 ·simp [PyData.depthAll,PyData.depth];lia
 ·exact .tup _ _ (.cons _ _ _ _ (.tup _ _ (.cons _ _ _ _ (.str _) (.cons _ _ _ _ (.lst _ 0 [] [] h5 .nil) .nil))) (.cons _ _ _ _ (.lst _ n _ _ (by rw [List.reverse_reverse];exact h1) h2) .nil))
 ·exact .tup _ _ (.cons _ _ _ _ (.tup _ _ (.cons _ _ _ _ (.str _) (.cons _ _ _ _ (.lst _ 0 [] [] h6 .nil) .nil))) (.cons _ _ _ _ (.lst _ m _ _ (by rw [List.reverse_reverse];exact h3) h4) .nil))
theorem Bl7:∀(l:List Row) (k:Nat) (s:Rk),(riF k s l).length=l.length
 | [],_,_=>rfl
 | r::l,k,s=>congrArg (· + 1) (Bl7 l (k+2) (s.row r))
theorem Cf0:∀(l:List Row) (k:Nat) (s:Rk),(riF k s l).map (·.row)=Bl6 k l
 | [],_,_=>rfl
 | r::l,k,s=>congrArg (_::·) (Cf0 l (k+2) (s.row r))
theorem riF_d:∀(l:List Row) (k:Nat) (s:Rk),(riF k s l).map (·.d)=Ap3 s l
 | [],_,_=>rfl
 | r::l,k,s=>congrArg (_::·) (riF_d l (k+2) (s.row r))
theorem Br4:∀(l:List Row) (k:Nat) (s:Rk) (m:List Ri),Be2 ((riF k s l).reverse++m)=(Bb7 l).reverse++Be2 m
 | [],_,_,_=>rfl
 | r::l,k,s,m=>by
  show Be2 ((_::riF (k+2) (s.row r) l).reverse++m)=(r.stm::shown::Bb7 l).reverse++Be2 m
  simp only [List.reverse_cons,List.append_assoc,Br4 l (k+2) (s.row r),List.reverse_cons,List.reverse_cons,List.append_assoc,List.append_assoc]
  rfl
theorem Bp2 (l:List Row)(k:Nat)(s:Rk):(Be2 (riF k s l).reverse).reverse=Ay0 l:=by
 have:=Br4 l k s []
 rw [List.append_nil] at this
 simp only [this,List.reverse_append,List.reverse_reverse];rfl
theorem Av0:∀l:List Row,(rowsL l).length=2*l.length
 | []=>rfl
 | r::l=>by
  show (rowsL l).length+1+1=2*(l.length+1)
  rw [Av0 l];simp +arith
theorem Dj6:∀(l:List Row) (P:List A0),AtR (P++rowsL l) P.length l
 | [],_=>trivial
 | r::l,P=>by
  refine ⟨Ac7 rfl 0,Ac7 rfl 1,?_⟩
  have:=Dj6 l (P++[psO r,vsO r])
  simp only [List.append_assoc,List.length_append] at this
  exact this
theorem Bu1:∀(l:List Bool),esO true l=true
 | []=>rfl
 | b::l=>by show esO (true||b) l=true;exact Bu1 l
theorem Cm4:∀(l:List Bool) (a:Bool),true∈l→esO a l=true
 | b::l,a,h=>by
  show esO (a||b) l=true
  rcases List.mem_cons.mp h with e | e
  ·rw [← e,Bool.or_true];exact Bu1 l
  ·exact Cm4 l _ e
theorem Dp1 {rs:List Row}{r:Row}(h:r∈rs):Cv1 (lent rs.reverse false) r:=λp hp=>by
 have go:Ax5 p=true→lent rs.reverse false=true:=λe=>Cm4 _ _ (List.mem_flatMap.mpr ⟨r,List.mem_reverse.mpr h,List.mem_map.mpr ⟨p,hp,e⟩⟩)
 match p with
 | none=>rfl
 | some .i=>rfl
 | some .j=>rfl
 | some .x=>rfl
 | some .p=>rfl
 | some (.a k)=>exact go rfl
theorem Cx9 (L:List A0)(rows l:List Ri)(bd:SV)(wn:A0):hpLo L rows l bd wn=hpT L rows l++(fn6 (L.length+6+4*l.length) bd wn++wldR (L.length+12+4*l.length)):=by
 unfold hpLo fn6
 rw [show L.length+10+4*l.length=L.length+6+4*l.length+4 by simp +arith]
theorem Dt5 (L:List A0)(rows l:List Ri):(hpT L rows l).length=L.length+6+4*l.length:=by
 unfold hpT
 simp only [List.length_append,An4,List.length_append,Au6]
 show L.length+2+(4+_)=_
 simp +arith
theorem De1 (l:List Row):∀ρ,svR ρ (.tup (Ay0 l)) = .tup (Ay0 l):=λρ=>by
 rw [← Bp2 l 0 rk0]
 have:∀m:List Row,∀ρ,svRs ρ (Bb7 m)=Bb7 m:=λm=>by
  induction m with
  | nil=>intro ρ;rfl
  | cons r m ih=>intro ρ;show svR ρ r.stm::svR ρ shown::svRs ρ (Bb7 m)=_;simp only [Au8,ih];rfl
 rw [Bp2]
 show SV.tup (svR ρ let1::svR ρ let2::svR ρ let3::svRs ρ (Bb7 l))=_
 rw [this];rfl
theorem Bf7:∀(l:List Row) (k:Nat),(Bl6 k l).length=l.length
 | [],_=>rfl
 | r::l,k=>congrArg (· + 1) (Bf7 l (k+2))
theorem Bf8:∀(l:List Row) (k:Nat) (ρ:Nat→Nat),(∀j,j<k+2*l.length→ρ j=j)→svRs ρ (Bl6 k l)=Bl6 k l
 | [],_,_,_=>rfl
 | r::l,k,ρ,f=>by
  simp only [List.length_cons] at f
  show SV.tup [.str r.word,.loc (ρ k),.loc (ρ (k+1))]::svRs ρ (Bl6 (k+2) l)=_
  rw [f k (by simp +arith),f (k+1) (by simp +arith),Bf8 l (k+2) ρ λj h=>f j (by lia)];rfl
theorem Br2:∀(l:List Row) (ρ:Nat→Nat),Ac4 ρ (rowsL l)
 | [],_=>trivial
 | r::l,ρ=>⟨Ah5 r ρ,Ah3 r ρ,Br2 l ρ⟩
section
variable {w:World}{g0:Heap}{M N:Nat}
theorem At4 (B:B4 w g0){rs:List Row}(h1:rs≠[])(h2:rs.length≤4)(hr:∀r∈rs,r.ok)(run:∀I,Ao2 (TM w g0 177 177) (rowsL rs) (riF 1 rk0 rs) I ((Ap3 rk0 rs).map shO)=Ao3 (TM w g0 177 177) (rowsL rs) (riF 1 rk0 rs) I ((Ap3 rk0 rs).map shO)):
  CK w g0 217 1036 [.loc (2*rs.length+1)] (Aw2 rs) (.bool true) (Aw2 rs):=by
 have hB:∀r∈rs,Cv1 (lent rs.reverse false) r:=λr m=>Dp1 m
 generalize hb:lent rs.reverse false=b at hB
 have x:=Br0 b rs (R3_b b)
 have C1:=Dr5 B h1 h2 hB hb
 have hI:IOk (rowsP b rs ⟨R3 b,I3 b⟩).I:=⟨x.i,Nat.le_trans x.li (by lia)⟩
 refine oE (Bv6 h2 λr m=>⟨hr r m,hB r m⟩) λt hw=>?_
 have hd:(Ap3 rk0 rs).length=rs.length:=Bu3 rs rk0
 have h0:1≤rs.length:=Nat.one_le_iff_ne_zero.mpr λq=>h1 (List.length_eq_zero_iff.mp q)
 have C2:=Cv7 B hI hw (by omega) (by omega)
 have run:=run (rowsP b rs ⟨R3 b,I3 b⟩).I
 generalize (rowsP b rs ⟨R3 b,I3 b⟩).I=I at C1 C2 hI run
 have eL:(riF 1 rk0 rs).reverse.length=rs.length:=by rw [List.length_reverse,Bl7]
 have eb:=Bp2 rs 1 rk0
 have ed:((riF 1 rk0 rs).reverse.map λr=>dat r.d).reverse=(Ap3 rk0 rs).map dat:=by rw [← List.map_reverse,List.reverse_reverse,← riF_d rs 1 rk0,List.map_map];rfl
 have T1:=Bq1 B (L:=rowsL rs) (rows:=riF 1 rk0 rs) rs 0 rk0 [] Dg8 hr (.inl ⟨rfl,rfl⟩) (Dj6 rs [])
 have hR:hpR (rowsL rs) (riF 1 rk0 rs)=Aw2 rs:=by unfold hpR Aw2;rw [Cf0,Bl7]
 generalize hl:(riF 1 rk0 rs).reverse=l at eL eb ed
 have O:All (obL (TM w g0 177 177) (rowsL rs) (riF 1 rk0 rs) l I ((Ap3 rk0 rs).map shO)):=by
  generalize rowsL rs=L at *
  generalize riF 1 rk0 rs=rows at *
  have lT:=Dt5 L rows l
  have lW:(wldR (L.length+12+4*l.length)).length=22:=rfl
  have A1:=Dr4 (C1) (De1 rs) hI.re (X:=hpT L rows l) (W:=wldR (L.length+12+4*l.length)) rfl lT (L.length+12+4*l.length) (n:=L.length+34+4*l.length) (by rw [lW];omega)
  rw [← Cx9,← Cx9,← eb,show L.length+6+4*l.length+3=L.length+9+4*l.length by omega,show L.length+6+4*l.length+5=L.length+11+4*l.length by omega] at A1
  have lZ:(hpLo L rows l .any (.ns Bp5)).length=L.length+34+4*l.length:=by
   rw [Cx9,List.length_append,List.length_append,lT,lW]
   show _+(6+22)=_
   omega
  have A2:=play_x C2 hI lZ
  have eP:hpLo L rows l .any (.ns Bp5)++(Ad4 (L.length+34+4*l.length) I++(.list (B6 (L.length+34+4*l.length+7) (Ap3 rk0 rs).length) 1000::shE (Ap3 rk0 rs)))=Dt6 L rows l I ((Ap3 rk0 rs).map shO):=by
   unfold Dt6 Cr3 shE
   rw [List.append_assoc,List.length_map,show L.length+34+4*l.length+7=L.length+41+4*l.length by omega]
  have eV:SV.tup [.tup [.str "done",.loc (L.length+34+4*l.length+(7+(Ap3 rk0 rs).length))],.loc (L.length+34+4*l.length+6)]=Bz7 (L.length+40+4*l.length) ((Ap3 rk0 rs).map shO).length:=by
   unfold Bz7
   rw [List.length_map,show L.length+34+4*l.length+(7+(Ap3 rk0 rs).length)=L.length+40+4*l.length+(Ap3 rk0 rs).length+1 by omega,show L.length+34+4*l.length+6=L.length+40+4*l.length by omega]
  rw [eP,eV] at A2
  refine .cons A1 (.cons (A2.mono (by decide)) (.cons ?_ .nil))
  have lp:(Cr3 L rows l I).length=L.length+40+4*l.length:=by
   unfold Cr3
   rw [List.length_append,lZ]
   show _+6=_
   omega
  have ePd:Dt6 L rows l I ((Ap3 rk0 rs).map shO)++[.list [] 0]=Cr3 L rows l I++(.list (B6 (L.length+41+4*l.length) (Ap3 rk0 rs).length) 1000::((Ap3 rk0 rs).map shO++[.list [] 0,.list [] 0])):=by
   unfold Dt6
   rw [List.append_assoc,List.cons_append,List.append_assoc,List.length_map];rfl
  have eT:Cr3 L rows l I=hpT L rows l++((fn6 (L.length+6+4*l.length) .any (.ns Bp5)++wldR (L.length+12+4*l.length))++Ad4 (L.length+34+4*l.length) I):=by
   unfold Cr3
   rw [Cx9,List.append_assoc]
  rw [ePd]
  unfold Bz7
  rw [List.length_map]
  refine deq_of (N1:=L.length+41+4*l.length) (n:=1000) (m:=l.length) (du:=dueR (L.length+2) l) (Ac7 lp 0) (Dh1 _ _ λi d e=>?_) (At2 ?_) ?_ ?_ ?_
  ·rw [show L.length+41+4*l.length+i=L.length+40+4*l.length+(i+1) by omega,Ac7 lp,List.getElem?_cons_succ]
   exact At2 (by rw [List.getElem?_map,e];rfl)
  ·rw [eT]
   refine At2 ?_
   show (hpR L rows++_)[L.length+2+3]?=_
   rw [Ac7 (An4 L rows)];rfl
  ·rw [← ed]
   refine Di7 l λi o e=>At2 ?_
   rw [eT]
   refine At2 ?_
   show (hpR L rows++(Da0 (L.length+2) l (Bh4 l)++Bl1 l))[L.length+2+4+i]?=_
   rw [show L.length+2+4+i=L.length+2+(4+i) by omega,Ac7 (An4 L rows),Ac7 (X:=Da0 (L.length+2) l (Bh4 l)) (N:=4) rfl]
   exact e
  ·rw [show L.length+40+4*l.length+(Ap3 rk0 rs).length+1=L.length+40+4*l.length+((Ap3 rk0 rs).length+0+1) by omega,Ac7 lp,List.getElem?_cons_succ];exact (Ac7 (X:=(Ap3 rk0 rs).map shO) (N:=(Ap3 rk0 rs).length) (by rw [List.length_map]) 0).trans rfl
  ·rw [show L.length+42+4*l.length+(Ap3 rk0 rs).length=L.length+40+4*l.length+((Ap3 rk0 rs).length+1+1) by omega,Ac7 lp,List.getElem?_cons_succ];exact (Ac7 (X:=(Ap3 rk0 rs).map shO) (N:=(Ap3 rk0 rs).length) (by rw [List.length_map]) 1).trans rfl
 obtain ⟨st,e1,e2⟩:=Aa0 run
 rw [hR] at e1 e2
 have C:=Ad2 (M:=176) (T:=TM w g0 177 177) B Aa5 (sums:=[948,953,938,791,1031]) rfl e1 (T1.append (by rw [hl];exact O))
 have lR:(Aw2 rs).length=2*rs.length+2:=by rw [← hR,An4,(Av0 rs)]
 rw [(Av0 rs)] at C e2
 refine C.take (k:=2*rs.length+2) (Nat.le_of_eq lR) e2 lR (λρ f=>?_) λu0 u0=>rfl
 refine ⟨rfl,Ac4.append (Br2 rs ρ) ⟨A3 ?_ (by rw [List.length_reverse,Bf7];exact Nat.le_refl _),trivial⟩⟩
 rw [Ac5,Bf8 rs 1 ρ λj h=>f j (by omega)]
theorem Dp2 (B:B4 w g0):Bv3 w g0 217:=λrs h1 h2=>by
 have k1:=h1
 have k2:=h2
 revert k1 k2
 exact l4E h1 h2 (λr1 h1 h2 hr=>At4 B h1 h2 hr λI=>Bx2 _ _ _ _ _ I) (λr1 r2 h1 h2 hr=>At4 B h1 h2 hr λI=>Bx1 _ _ _ _ _ _ _ _ _ I) (λr1 r2 r3 h1 h2 hr=>At4 B h1 h2 hr λI=>Bx0 _ _ _ _ _ _ _ _ _ _ _ _ _ I) (λr1 r2 r3 r4 h1 h2 hr=>At4 B h1 h2 hr λI=>Bw9 _ _ _ _ _ _ _ _ _ _ _ _ _ _ _ _ _ I)
theorem law_ok (B:B4 w g0){o:A0}(ho:ScO o):CK w g0 257 1041 [.loc 1] [.tab 163,o] (.bool true) [.tab 163,o]:=law_c (M:=216) B (Dp2 B) (by decide) ho
end
noncomputable abbrev vS (x:String)(t:Nat):Value:=.str (Str.ofString x) t
noncomputable abbrev vN (n:Nat):Value:=.int (Int.ofNat n) 0
abbrev vR (n:Nat):Value:=.ref n
noncomputable abbrev oT (l:List Value):Obj:=⟨.type "tuple",none,.seq l.toArray 0,#[]⟩
noncomputable abbrev oF (c:Value)(l:List Value):Obj:=⟨c,none,.fields l.toArray,#[]⟩
noncomputable abbrev oD (P:Params)(l:List (String×Nat×Value))(n:Nat):Obj:=⟨.type "dict",none,.dict (l.map λe=>⟨PyData.keyHash P (Str.ofString e.1),.str (Str.ofString e.1) e.2.1,e.2.2⟩).toArray n,#[]⟩
noncomputable abbrev oC (name q:String)(bases mro:List Value)(ns:Nat)(subs:List Value)(sl:List (Option Value)):Obj:=⟨.type "type",none,.cls ⟨Str.ofString name,bases,mro,ns,Str.ofString q,true,[],subs,false,none,false⟩,sl.toArray⟩
noncomputable abbrev oFr (l:List (Option Value)):Obj:=⟨.type "frame",none,.plain,l.toArray⟩
noncomputable def oFn (c:Value)(q:Str)(s:Option Stmt)(glob:Nat)(dflt md code:Value):Obj:=match s with
 | some (.FunctionDef name args body _ _ _ scope _ _ _)=>⟨c,none,.func ⟨name,q,args,.stmts body,scope,glob,[],dflt,.none,.none,md,none,code,.none,0⟩,#[]⟩
 | _=>default
noncomputable def Ce4 (s:Option Stmt):Str:=match s with
 | some (.FunctionDef name _ _ _ _ _ _ _ _ _)=>name
 | _=>Str.empty
noncomputable def Cu6 (s:Option Stmt):Nat:=match s with
 | some s=>s.pos.line
 | _=>0
noncomputable def sArgs (s:Option Stmt):Nat:=match s with
 | some (.FunctionDef _ args _ _ _ _ _ _ _ _)=>args.args.length
 | _=>0
abbrev Du3:Str:=Str.ofString "/claim/cut.py"
noncomputable def strsF:Nat→List String→List Value
 | _,[]=>[]
 | t,x::l=>.str (Str.ofString x) t::strsF (t+1) l
def dFs (s:Option Stmt)(q:Str)(md dflt:Value)(a t:Nat)(F:List Value)(vn:Option (List String)):List Obj:=match vn with
 | some l=>[oT [],oF .none F,oT (strsF (t+3) l),oT [],oFn .none q s 0 .none .none .none,
   oF (.type "code") [.str (Ce4 s) t,.str q (t+1),.str Du3 (t+2),vN (Cu6 s),vN (sArgs s),vN 0,vN 0,vN 3,vR a,.bool true,vN 181,vR (a+1),.none,vR (a+2),vR (a+3),vR (a+4),vN (t+3+l.length),vN (Cu6 s),.str Du3 (t+4+l.length)],
   oFn (.type "function") q s 3 dflt md (vR (a+5))]
 | none=>[oT [],oF .none F,oFn .none q s 0 .none .none .none,
   oF (.type "code") [.str (Ce4 s) t,.str q (t+1),.str Du3 (t+2),vN (Cu6 s),vN (sArgs s),vN 0,vN 0,vN 3,vR a,.bool true,vN 181,vR (a+1),.none,.none,.none,vR (a+2),vN (t+3),vN (Cu6 s),.str Du3 (t+4)],
   oFn (.type "function") q s 3 dflt md (vR (a+3))]
def dT (i:Nat)(md:Value)(a t:Nat)(vn:Option (List String)):List Obj:=dFs (st i) (Ce4 (st i)) md .none a t [] vn
def dM (i j:Nat)(q:String)(md dflt:Value)(a t:Nat)(vn:Option (List String)):List Obj:=dFs (sub i j) (Str.ofString q) md dflt a t [] vn
noncomputable def gE:List (String×Nat×Value):=[("__name__",165,vS "law_zu0006_03" 1486),("__doc__",166,.none),("__package__",167,.none),("__loader__",168,.builtin "__main__.__loader__#opaque"),("__spec__",169,.none),("__annotations__",170,vR 6),("__builtins__",171,vR 4),("__file__",173,vS "/claim/cut.py" 172),("__cached__",174,.none),("_wall",193,vR 21),("underlying_of",203,vR 28),("zero_value",209,vR 33),("ADDRESS",213,vS "address" 212),("root_local",222,vR 40),("is_part",229,vR 47),("assigned_places",235,vR 52),("lent_places",242,vR 59),("boxed_of",253,vR 66),("is_type",260,vR 73),("boxed_locals",266,vR 78),("TypedFn",309,vR 95),("Code",376,vR 136),("next_blocks",383,vR 147),("blocks_reached",394,vR 154),("led_elsewhere",402,vR 161),("with_kept_blocks",416,vR 168),("LowerState",641,vR 339),("INT_lower_calls",646,vR 344),("BOOL_lower_calls",648,vR 345),("SYNCS",654,vR 346),("result_types",661,vR 353),("called_of",670,vR 360),("call_values",676,vR 365),("builtin_values",682,vR 370),("builtin_with",692,vR 377),("builtin_deed",698,vR 382),("made_value",709,vR 611),("made_value_lower_calls",710,vR 389),("chosen_value",725,vR 396),("later_call",731,vR 401),("builtin_code",737,vR 406),("ChanError",771,vR 424),("NameFault",787,vR 437),("TypeFault",803,vR 449),("RUNTIME_ERROR",806,vR 452),("base_kind",816,vR 459),("is_in_memory",825,vR 466),("global_pointer",832,vR 473),("way_to",842,vR 480),("pointer_along",855,vR 487),("address_of",864,vR 494),("ask_pointer",876,vR 501),("new_variable",886,vR 508),("load_place",895,vR 515),("target_of",904,vR 522),("assign_target",914,vR 529),("begin_with",923,vR 536),("value_at",933,vR 543),("BOOL_lower_exprs",937,vR 544),("INT_lower_exprs",940,vR 545),("READ",945,vR 546),("PAIRS",949,vR 547),("value_of",958,vR 554),("values_of",966,vR 561),("operands_of",972,vR 566),("constant_of",980,vR 573),("function_value",986,vR 578),("worked_value",998,vR 585),("lazy_value",1009,vR 592),("asked_values",1022,vR 599),("cut_value",1028,vR 604),("made_value_lower_exprs",1041,vR 611),("slice_value",1047,vR 616),("table_value",1053,vR 621),("INT_lower_loops",1058,vR 622),("RUNE",1061,vR 623),("BOOL_lower_loops",1063,vR 624),("put_for",1082,vR 631),("put_range",1096,vR 638),("give_name",1106,vR 645),("counted_value",1117,vR 652),("put_counted",1139,vR 659),("put_walked",1160,vR 666),("put_received",1178,vR 673),("put_switch",1184,vR 678),("tested_type",1198,vR 685),("put_types",1222,vR 692),("put_named",1232,vR 699),("comm_row",1242,vR 706),("put_choose",1248,vR 711),("LOOPS",1261,vR 712),("put_block",1270,vR 719),("put_statement",1280,vR 726),("put_plain",1294,vR 733),("kept_operands",1300,vR 738),("put_set",1306,vR 743),("put_let",1317,vR 750),("put_if",1328,vR 757),("put_return",1334,vR 762),("give_back",1340,vR 767),("has_defer",1346,vR 772),("begin_function",1359,vR 779),("lower_one",1370,vR 786),("lower_function",1376,vR 791),("PLAIN",1380,vR 794),("NamedRow",1415,vR 811),("known_rows",1427,vR 822),("World",1485,vR 854),("_law_pool",1498,vR 865),("_law_take",1507,vR 872),("_law_one",1515,vR 879),("_law_int",1518,vR 880),("_law_array",1523,vR 882),("_law_pointer",1527,vR 884),("_law_const",1534,vR 891),("_law_tree",1541,vR 898),("_law_place",1550,vR 905),("_law_value",1558,vR 912),("_law_e",1565,vR 919),("_law_at",1573,vR 926),("_law_worth",1581,vR 933),("_law_done",1587,vR 938),("_law_row",1593,vR 943),("_law_statement",1599,vR 948),("_law_shown",1605,vR 953),("_law_read",1613,vR 960),("_law_loaded",1623,vR 967),("_law_stored",1635,vR 974),("_law_reckoned",1644,vR 981),("_law_made",1650,vR 986),("_law_callee",1659,vR 993),("_law_framed",1675,vR 1000),("_law_unwound",1688,vR 1007),("_law_deferred",1700,vR 1014),("_law_block",1706,vR 1019),("_law_stepped",1712,vR 1024),("_law_played",1722,vR 1031),("_law_right",1728,vR 1036),("law",1734,vR 1041)]
noncomputable def mE:List Value:=[vN 1,vN 0,vR 20,vN 5,vN 0,vR 27,vN 7,vN 0,vR 32,vN 22,vN 0,vR 39,vN 29,vN 0,vR 46,vN 31,vN 0,vR 51,vN 42,vN 0,vR 58,vN 46,vN 0,vR 65,vN 56,vN 0,vR 72,vN 60,vN 0,vR 77,vN 78,vN 0,vR 84,vN 89,vN 0,vR 105,vN 109,vN 0,vR 146,vN 115,vN 0,vR 153,vN 124,vN 0,vR 160,vN 130,vN 0,vR 167,vN 141,vN 0,vR 174,vN 247,vN 0,vR 352,vN 249,vN 0,vR 359,vN 254,vN 0,vR 364,vN 260,vN 0,vR 369,vN 262,vN 0,vR 376,vN 278,vN 0,vR 381,vN 292,vN 0,vR 388,vN 303,vN 0,vR 395,vN 313,vN 0,vR 400,vN 322,vN 0,vR 405,vN 332,vN 0,vR 412,vN 338,vN 0,vR 433,vN 340,vN 0,vR 445,vN 344,vN 0,vR 458,vN 346,vN 0,vR 465,vN 355,vN 0,vR 472,vN 357,vN 0,vR 479,vN 372,vN 0,vR 486,vN 377,vN 0,vR 493,vN 384,vN 0,vR 500,vN 391,vN 0,vR 507,vN 396,vN 0,vR 514,vN 405,vN 0,vR 521,vN 416,vN 0,vR 528,vN 426,vN 0,vR 535,vN 432,vN 0,vR 542,vN 445,vN 0,vR 553,vN 466,vN 0,vR 560,vN 476,vN 0,vR 565,vN 478,vN 0,vR 572,vN 484,vN 0,vR 577,vN 493,vN 0,vR 584,vN 508,vN 0,vR 591,vN 520,vN 0,vR 598,vN 535,vN 0,vR 603,vN 540,vN 0,vR 610,vN 553,vN 0,vR 615,vN 561,vN 0,vR 620,vN 571,vN 0,vR 630,vN 589,vN 0,vR 637,vN 597,vN 0,vR 644,vN 601,vN 0,vR 651,vN 605,vN 0,vR 658,vN 624,vN 0,vR 665,vN 641,vN 0,vR 672,vN 655,vN 0,vR 677,vN 670,vN 0,vR 684,vN 680,vN 0,vR 691,vN 698,vN 0,vR 698,vN 702,vN 0,vR 705,vN 708,vN 0,vR 710,vN 732,vN 0,vR 718,vN 735,vN 0,vR 725,vN 755,vN 0,vR 732,vN 770,vN 0,vR 737,vN 774,vN 0,vR 742,vN 779,vN 0,vR 749,vN 788,vN 0,vR 756,vN 798,vN 0,vR 761,vN 810,vN 0,vR 766,vN 814,vN 0,vR 771,vN 823,vN 0,vR 778,vN 836,vN 0,vR 785,vN 847,vN 0,vR 790,vN 856,vN 0,vR 800,vN 863,vN 0,vR 821,vN 871,vN 0,vR 828,vN 903,vN 0,vR 864,vN 910,vN 0,vR 871,vN 917,vN 0,vR 878,vN 922,vN 0,vR 890,vN 924,vN 0,vR 897,vN 932,vN 0,vR 904,vN 935,vN 0,vR 911,vN 939,vN 0,vR 918,vN 945,vN 0,vR 925,vN 949,vN 0,vR 932,vN 953,vN 0,vR 937,vN 960,vN 0,vR 942,vN 966,vN 0,vR 947,vN 971,vN 0,vR 952,vN 974,vN 0,vR 959,vN 976,vN 0,vR 966,vN 981,vN 0,vR 973,vN 988,vN 0,vR 980,vN 994,vN 0,vR 985,vN 1020,vN 0,vR 992,vN 1025,vN 0,vR 999,vN 1044,vN 0,vR 1006,vN 1056,vN 0,vR 1013,vN 1063,vN 0,vR 1018,vN 1078,vN 0,vR 1023,vN 1104,vN 0,vR 1030,vN 1108,vN 0,vR 1035,vN 1120,vN 0,vR 1040]
def Dq6 (P:Params):List Obj:=dT 0 (vS "__main__" 164) 15 187 (some ["k"])++
 (dT 2 (vS "chancore.types" 194) 22 196 (some ["world","T"])++
 (dT 3 (vS "chancore.types" 194) 29 204 none++
 (dT 6 (vS "chancore.captures" 210) 34 214 (some ["place","world","inner"])++
 (dT 7 (vS "chancore.captures" 210) 41 223 (some ["place"])++
 (dT 8 (vS "chancore.captures" 210) 48 230 none++
 (dT 9 (vS "chancore.captures" 210) 53 236 (some ["node"])++
 (dT 10 (vS "chancore.captures" 210) 60 243 (some ["node","world","found","place","local"])++
 (dT 11 (vS "chancore.captures" 210) 67 254 (some ["node"])++
 (dT 12 (vS "chancore.captures" 210) 74 261 none++
 ([oT [],oF (.type "builtin_function_or_method") [.builtin "type.__prepare__",.type "type"],oD P [("__module__",276,vS "chancore.check_state" 267),("__qualname__",278,vS "TypedFn" 277),("__firstlineno__",280,.int 78 279),("__init__",294,vR 92),("__static_attributes__",302,vR 93)] 5,oT [],oF .none [vN 80,vN 4,vR 91],oF (.type "code") [vS "TypedFn" 271,vS "TypedFn" 272,vS "/claim/cut.py" 273,vN 78,vN 0,vN 0,vN 0,vN 0,vR 82,.bool false,vN 181,vR 83,.none,.none,.none,.none,vN 274,vN 78,vS "/claim/cut.py" 275],oFr [some (vR 84),some (vR 3),some (vR 81),none,some (vS "chancore.check_state" 267),none,some (vR 0)]]++
 (dM 14 0 "TypedFn.__init__" (vS "chancore.check_state" 267) .none 86 281 (some ["self","key","rows","params","results","captured","body","literals"])++
 ([oT [vS "body" 295,vS "captured" 296,vS "key" 297,vS "literals" 298,vS "locals" 299,vS "params" 300,vS "results" 301],oD P [("__module__",276,vS "chancore.check_state" 267),("__firstlineno__",280,.int 78 279),("__init__",294,vR 92),("__static_attributes__",302,vR 93),("__dict__",304,vR 96),("__weakref__",306,vR 97),("__doc__",307,.none)] 4,oC "TypedFn" "TypedFn" [.type "object"] [vR 95,.type "object"] 94 [] [none,none,some (vS "TypedFn" 269),some (vS "TypedFn" 277),some (.builtin "object.__new__"),some (.bool true)],oF (.type "getset_descriptor") [vS "__dict__" 303,vR 95,.builtin "function.__dict__",.builtin "function.__dict__#set"],oF (.type "getset_descriptor") [vS "__weakref__" 305,vR 95,.builtin "ExceptionGroup.__weakref__",.none],oF (.type "super") [vR 95,vR 95,vR 95],oF (.type "builtin_function_or_method") [.builtin "object.__init_subclass__",vR 95],oT [],oF (.type "builtin_function_or_method") [.builtin "type.__prepare__",.type "type"],oD P [("__module__",319,vS "chancore.code" 310),("__qualname__",321,vS "Code" 320),("__firstlineno__",323,.int 89 322),("__init__",339,vR 114),("instructions",347,vR 121),("terminator",355,vR 128),("row",361,vR 133),("__static_attributes__",369,vR 134)] 8,oT [],oF .none [vN 91,vN 4,vR 113,vN 100,vN 4,vR 120,vN 103,vN 4,vR 127,vN 106,vN 4,vR 132],oF (.type "code") [vS "Code" 314,vS "Code" 315,vS "/claim/cut.py" 316,vN 89,vN 0,vN 0,vN 0,vN 0,vR 103,.bool false,vN 181,vR 104,.none,.none,.none,.none,vN 317,vN 89,vS "/claim/cut.py" 318],oFr [some (vR 105),some (vR 3),some (vR 102),none,some (vS "chancore.code" 310),none,some (vR 0)],oT [.int 0 324,.int 0 325,.none]]++
 (dM 16 0 "Code.__init__" (vS "chancore.code" 310) (vR 107) 108 326 (some ["self","key","params","registers","blocks","captured","results","recovery"])++
 (dM 16 1 "Code.instructions" (vS "chancore.code" 310) .none 115 340 (some ["self","block"])++
 (dM 16 2 "Code.terminator" (vS "chancore.code" 310) .none 122 348 (some ["self","block"])++
 (dM 16 3 "Code.row" (vS "chancore.code" 310) .none 129 356 none++
 ([oT [vS "blocks" 362,vS "captured" 363,vS "key" 364,vS "params" 365,vS "recovery" 366,vS "registers" 367,vS "results" 368],oD P [("__module__",319,vS "chancore.code" 310),("__firstlineno__",323,.int 89 322),("__init__",339,vR 114),("instructions",347,vR 121),("terminator",355,vR 128),("row",361,vR 133),("__static_attributes__",369,vR 134),("__dict__",371,vR 137),("__weakref__",373,vR 138),("__doc__",374,.none)] 4,oC "Code" "Code" [.type "object"] [vR 136,.type "object"] 135 [] [none,none,some (vS "Code" 312),some (vS "Code" 320),some (.builtin "object.__new__"),some (.bool true)],oF (.type "getset_descriptor") [vS "__dict__" 370,vR 136,.builtin "function.__dict__",.builtin "function.__dict__#set"],oF (.type "getset_descriptor") [vS "__weakref__" 372,vR 136,.builtin "ExceptionGroup.__weakref__",.none],oF (.type "super") [vR 136,vR 136,vR 136],oF (.type "builtin_function_or_method") [.builtin "object.__init_subclass__",vR 136]]++
 (dT 17 (vS "chancore.code" 310) 141 377 (some ["terminator"])++
 (dT 18 (vS "chancore.code" 310) 148 384 (some ["code","found","waiting","met","block"])++
 (dT 19 (vS "chancore.code" 310) 155 395 (some ["terminator","turned"])++
 ([oT [],oF .none [],oT [vS "code" 406,vS "kept" 407,vS "block" 408,vS "blocks" 409,vS "some" 410,vS "end" 411,vS "recovery" 412],oT [vS "places" 413],oFn .none (Ce4 (st 20)) (st 20) 0 .none .none .none,oF (.type "code") [vS "with_kept_blocks" 403,vS "with_kept_blocks" 404,vS "/claim/cut.py" 405,vN 130,vN 2,vN 0,vN 0,vN 3,vR 162,.bool true,vN 181,vR 163,.none,vR 164,vR 165,vR 166,vN 414,vN 130,vS "/claim/cut.py" 415],oFn (.type "function") (Ce4 (st 20)) (st 20) 3 .none (vS "chancore.code" 310) (vR 167)])))))))))))))))))))))
def ob2_ (P:Params):List Obj:=[oT [],oF (.type "builtin_function_or_method") [.builtin "type.__prepare__",.type "type"],oD P [("__module__",426,vS "chancore.lower_state" 417),("__qualname__",428,vS "LowerState" 427),("__firstlineno__",430,.int 141 429),("__init__",441,vR 182),("new_register",449,vR 189),("new_block",456,vR 196),("put",464,vR 203),("fresh",474,vR 210),("close",482,vR 217),("end",490,vR 224),("go",498,vR 231),("next_site",505,vR 238),("type_of_local",513,vR 245),("is_boxed",521,vR 252),("take_register",530,vR 259),("begin_local",540,vR 266),("pointer_of",548,vR 273),("local_value",556,vR 280),("set_local",565,vR 287),("kept",574,vR 294),("zero_operand",582,vR 301),("value",590,vR 308),("values",598,vR 315),("address",606,vR 322),("block",614,vR 329),("finished",622,vR 336),("__static_attributes__",634,vR 337)] 27,oT [],oF .none [vN 143,vN 4,vR 181,vN 156,vN 4,vR 188,vN 160,vN 4,vR 195,vN 164,vN 4,vR 202,vN 167,vN 4,vR 209,vN 172,vN 4,vR 216,vN 175,vN 4,vR 223,vN 179,vN 4,vR 230,vN 183,vN 4,vR 237,vN 187,vN 4,vR 244,vN 190,vN 4,vR 251,vN 193,vN 4,vR 258,vN 198,vN 4,vR 265,vN 206,vN 4,vR 272,vN 209,vN 4,vR 279,vN 214,vN 4,vR 286,vN 220,vN 4,vR 293,vN 223,vN 4,vR 300,vN 226,vN 4,vR 307,vN 229,vN 4,vR 314,vN 232,vN 4,vR 321,vN 235,vN 4,vR 328,vN 238,vN 4,vR 335],oF (.type "code") [vS "LowerState" 421,vS "LowerState" 422,vS "/claim/cut.py" 423,vN 141,vN 0,vN 0,vN 0,vN 0,vR 172,.bool false,vN 181,vR 173,.none,.none,.none,.none,vN 424,vN 141,vS "/claim/cut.py" 425],oFr [some (vR 174),some (vR 3),some (vR 171),none,some (vS "chancore.lower_state" 417),none,some (vR 0)]]++
 (dM 22 0 "LowerState.__init__" (vS "chancore.lower_state" 417) .none 176 431 (some ["self","world","typed_fn","boxed","known"])++
 (dM 22 1 "LowerState.new_register" (vS "chancore.lower_state" 417) .none 183 442 (some ["self","told_type"])++
 (dM 22 2 "LowerState.new_block" (vS "chancore.lower_state" 417) .none 190 450 (some ["self"])++
 (dM 22 3 "LowerState.put" (vS "chancore.lower_state" 417) .none 197 457 (some ["self","instruction"])++
 (dM 22 4 "LowerState.fresh" (vS "chancore.lower_state" 417) .none 204 465 (some ["self","told_type","row","register"])++
 (dM 22 5 "LowerState.close" (vS "chancore.lower_state" 417) .none 211 475 (some ["self","terminator"])++
 (dM 22 6 "LowerState.end" (vS "chancore.lower_state" 417) .none 218 483 (some ["self","terminator"])++
 (dM 22 7 "LowerState.go" (vS "chancore.lower_state" 417) .none 225 491 (some ["self","block"])++
 (dM 22 8 "LowerState.next_site" (vS "chancore.lower_state" 417) .none 232 499 (some ["self"])++
 (dM 22 9 "LowerState.type_of_local" (vS "chancore.lower_state" 417) .none 239 506 (some ["self","local"])++
 (dM 22 10 "LowerState.is_boxed" (vS "chancore.lower_state" 417) .none 246 514 (some ["self","local"])++
 (dM 22 11 "LowerState.take_register" (vS "chancore.lower_state" 417) .none 253 522 (some ["self","local","told_type"])++
 (dM 22 12 "LowerState.begin_local" (vS "chancore.lower_state" 417) .none 260 531 (some ["self","local","told_type","register"])++
 (dM 22 13 "LowerState.pointer_of" (vS "chancore.lower_state" 417) .none 267 541 (some ["self","local"])++
 (dM 22 14 "LowerState.local_value" (vS "chancore.lower_state" 417) .none 274 549 (some ["self","local"])++
 (dM 22 15 "LowerState.set_local" (vS "chancore.lower_state" 417) .none 281 557 (some ["self","local","operand"])++
 (dM 22 16 "LowerState.kept" (vS "chancore.lower_state" 417) .none 288 566 (some ["self","operand","told_type"])++
 (dM 22 17 "LowerState.zero_operand" (vS "chancore.lower_state" 417) .none 295 575 (some ["self","told_type"])++
 (dM 22 18 "LowerState.value" (vS "chancore.lower_state" 417) .none 302 583 (some ["self","e"])++
 (dM 22 19 "LowerState.values" (vS "chancore.lower_state" 417) .none 309 591 (some ["self","e"])++
 (dM 22 20 "LowerState.address" (vS "chancore.lower_state" 417) .none 316 599 (some ["self","e"])++
 (dM 22 21 "LowerState.block" (vS "chancore.lower_state" 417) .none 323 607 (some ["self","statements"])++
 (dM 22 22 "LowerState.finished" (vS "chancore.lower_state" 417) .none 330 615 (some ["self","block"])++
 ([oT [vS "boxed" 623,vS "code" 624,vS "has_defers" 625,vS "held" 626,vS "here" 627,vS "known" 628,vS "loops" 629,vS "sites" 630,vS "spot" 631,vS "typed_fn" 632,vS "world" 633],oD P [("__module__",426,vS "chancore.lower_state" 417),("__firstlineno__",430,.int 141 429),("__init__",441,vR 182),("new_register",449,vR 189),("new_block",456,vR 196),("put",464,vR 203),("fresh",474,vR 210),("close",482,vR 217),("end",490,vR 224),("go",498,vR 231),("next_site",505,vR 238),("type_of_local",513,vR 245),("is_boxed",521,vR 252),("take_register",530,vR 259),("begin_local",540,vR 266),("pointer_of",548,vR 273),("local_value",556,vR 280),("set_local",565,vR 287),("kept",574,vR 294),("zero_operand",582,vR 301),("value",590,vR 308),("values",598,vR 315),("address",606,vR 322),("block",614,vR 329),("finished",622,vR 336),("__static_attributes__",634,vR 337),("__dict__",636,vR 340),("__weakref__",638,vR 341),("__doc__",639,.none)] 4,oC "LowerState" "LowerState" [.type "object"] [vR 339,.type "object"] 338 [] [none,none,some (vS "LowerState" 419),some (vS "LowerState" 427),some (.builtin "object.__new__"),some (.bool true)],oF (.type "getset_descriptor") [vS "__dict__" 635,vR 339,.builtin "function.__dict__",.builtin "function.__dict__#set"],oF (.type "getset_descriptor") [vS "__weakref__" 637,vR 339,.builtin "ExceptionGroup.__weakref__",.none],oF (.type "super") [vR 339,vR 339,vR 339],oF (.type "builtin_function_or_method") [.builtin "object.__init_subclass__",vR 339]]))))))))))))))))))))))))
def ob3_ (P:Params):List Obj:=[oT [vS "int" 644,vS "int" 645],oT [vS "bool" 647],oT [vS "lock" 649,vS "unlock" 650,vS "add" 651,vS "wait" 652,vS "gosched" 653]]++
 (dT 27 (vS "chancore.lower_calls" 642) 347 655 (some ["told_type"])++
 (dT 28 (vS "chancore.lower_calls" 642) 354 662 (some ["state","callee","operand"])++
 (dT 29 (vS "chancore.lower_calls" 642) 361 671 none++
 (dT 30 (vS "chancore.lower_calls" 642) 366 677 none++
 (dT 31 (vS "chancore.lower_calls" 642) 371 683 (some ["state","e","operands","name"])++
 (dT 32 (vS "chancore.lower_calls" 642) 378 693 none++
 (dT 33 (vS "chancore.lower_calls" 642) 383 699 (some ["state","e","operands","kind","room"])++
 (dT 35 (vS "chancore.lower_calls" 642) 390 711 (some ["state","told_type","op","operands","found","operand","is_before","other","behind"])++
 (dT 36 (vS "chancore.lower_calls" 642) 397 726 none++
 (dT 37 (vS "chancore.lower_calls" 642) 402 732 none++
 ([oT [.type "Exception"],oF (.type "builtin_function_or_method") [.builtin "type.__prepare__",.type "type"],oD P [("__module__",747,vS "chancore.errors" 738),("__qualname__",749,vS "ChanError" 748),("__firstlineno__",751,.int 332 750),("__init__",761,vR 421),("__static_attributes__",764,vR 422)] 5,oT [],oF .none [vN 334,vN 4,vR 420],oF (.type "code") [vS "ChanError" 742,vS "ChanError" 743,vS "/claim/cut.py" 744,vN 332,vN 0,vN 0,vN 0,vN 0,vR 410,.bool false,vN 181,vR 411,.none,.none,.none,.none,vN 745,vN 332,vS "/claim/cut.py" 746],oFr [some (vR 412),some (vR 3),some (vR 409),none,some (vS "chancore.errors" 738),none,some (vR 0)],oT [.int 0 752]]++
 (dM 39 0 "ChanError.__init__" (vS "chancore.errors" 738) (vR 414) 415 753 (some ["self","message","spot"])++
 ([oT [vS "message" 762,vS "spot" 763],oD P [("__module__",747,vS "chancore.errors" 738),("__firstlineno__",751,.int 332 750),("__init__",761,vR 421),("__static_attributes__",764,vR 422),("__weakref__",766,vR 425),("__doc__",767,.none)] 3,oC "ChanError" "ChanError" [.type "Exception"] [vR 424,.type "Exception",.type "BaseException",.type "object"] 423 [vR 437,vR 449] [some (vR 407),none,some (vS "ChanError" 740),some (vS "ChanError" 748),some (.builtin "Exception.__new__"),some (.bool true)],oF (.type "getset_descriptor") [vS "__weakref__" 765,vR 424,.builtin "ExceptionGroup.__weakref__",.none],oF (.type "super") [vR 424,vR 424,vR 424],oF (.type "builtin_function_or_method") [.builtin "object.__init_subclass__",vR 424],oT [vR 424],oF (.type "builtin_function_or_method") [.builtin "type.__prepare__",.type "type"],oD P [("__module__",779,vS "chancore.errors" 738),("__qualname__",781,vS "NameFault" 780),("__firstlineno__",783,.int 338 782),("__static_attributes__",784,vR 435)] 4,oT [],oF .none [],oF (.type "code") [vS "NameFault" 774,vS "NameFault" 775,vS "/claim/cut.py" 776,vN 338,vN 0,vN 0,vN 0,vN 0,vR 431,.bool false,vN 181,vR 432,.none,.none,.none,.none,vN 777,vN 338,vS "/claim/cut.py" 778],oFr [some (vR 433),some (vR 3),some (vR 430),none,some (vS "chancore.errors" 738),none,some (vR 0)],oT [],oD P [("__module__",779,vS "chancore.errors" 738),("__firstlineno__",783,.int 338 782),("__static_attributes__",784,vR 435),("__doc__",785,.none)] 2,oC "NameFault" "NameFault" [vR 424] [vR 437,vR 424,.type "Exception",.type "BaseException",.type "object"] 436 [] [some (vR 428),none,some (vS "NameFault" 772),some (vS "NameFault" 780),some (.builtin "Exception.__new__"),some (.bool true)],oF (.type "super") [vR 437,vR 437,vR 437],oF (.type "builtin_function_or_method") [.builtin "object.__init_subclass__",vR 437],oT [vR 424],oF (.type "builtin_function_or_method") [.builtin "type.__prepare__",.type "type"],oD P [("__module__",795,vS "chancore.errors" 738),("__qualname__",797,vS "TypeFault" 796),("__firstlineno__",799,.int 340 798),("__static_attributes__",800,vR 447)] 4,oT [],oF .none [],oF (.type "code") [vS "TypeFault" 790,vS "TypeFault" 791,vS "/claim/cut.py" 792,vN 340,vN 0,vN 0,vN 0,vN 0,vR 443,.bool false,vN 181,vR 444,.none,.none,.none,.none,vN 793,vN 340,vS "/claim/cut.py" 794],oFr [some (vR 445),some (vR 3),some (vR 442),none,some (vS "chancore.errors" 738),none,some (vR 0)],oT [],oD P [("__module__",795,vS "chancore.errors" 738),("__firstlineno__",799,.int 340 798),("__static_attributes__",800,vR 447),("__doc__",801,.none)] 2,oC "TypeFault" "TypeFault" [vR 424] [vR 449,vR 424,.type "Exception",.type "BaseException",.type "object"] 448 [] [some (vR 440),none,some (vS "TypeFault" 788),some (vS "TypeFault" 796),some (.builtin "Exception.__new__"),some (.bool true)],oF (.type "super") [vR 449,vR 449,vR 449],oF (.type "builtin_function_or_method") [.builtin "object.__init_subclass__",vR 449],oT [vS "named" 804,vS "runtime.Error" 805]]++
 (dT 44 (vS "chancore.lower_places" 807) 453 809 (some ["state","e"])++
 (dT 45 (vS "chancore.lower_places" 807) 460 817 (some ["state","e","kind"])++
 (dT 46 (vS "chancore.lower_places" 807) 467 826 (some ["e"])++
 (dT 47 (vS "chancore.lower_places" 807) 474 833 (some ["state","e","begin","steps"])++
 (dT 48 (vS "chancore.lower_places" 807) 481 843 (some ["state","way","pointer","steps","word","told","reached"])++
 (dT 49 (vS "chancore.lower_places" 807) 488 856 (some ["state","e","way"])++
 (dT 50 (vS "chancore.lower_places" 807) 495 865 (some ["state","pointer","told","is_nil","wrong","behind"])++
 (dT 51 (vS "chancore.lower_places" 807) 502 877 (some ["state","e","operand","pointer"])++
 (dT 52 (vS "chancore.lower_places" 807) 509 887 (some ["state","e","base"])++
 (dT 53 (vS "chancore.lower_places" 807) 516 896 (some ["state","place","table"])++
 (dT 54 (vS "chancore.lower_places" 807) 523 905 (some ["state","target","operand","word"])++
 (dT 55 (vS "chancore.lower_places" 807) 530 915 (some ["state","local","operand"])++
 (dT 56 (vS "chancore.lower_places" 807) 537 924 (some ["state","target","told_type","register"])))))))))))))))))))))))))))
def ob4_ (P:Params):List Obj:=[oT [vS "bool" 936],oT [vS "int" 938,vS "int" 939],oT [vS "global" 941,vS "field" 942,vS "deref" 943,vS "index" 944],oT [vS "assert" 946,vS "key" 947,vS "receive" 948]]++
 (dT 62 (vS "chancore.lower_exprs" 934) 548 950 (some ["state","e","kind"])++
 (dT 63 (vS "chancore.lower_exprs" 934) 555 959 (some ["state","e"])++
 (dT 64 (vS "chancore.lower_exprs" 934) 562 967 none++
 (dT 65 (vS "chancore.lower_exprs" 934) 567 973 (some ["state","e"])++
 (dT 66 (vS "chancore.lower_exprs" 934) 574 981 none++
 (dT 67 (vS "chancore.lower_exprs" 934) 579 987 (some ["state","e","kind","one","other","operand"])++
 (dT 68 (vS "chancore.lower_exprs" 934) 586 999 (some ["state","e","found","asked","behind"])++
 (dT 69 (vS "chancore.lower_exprs" 934) 593 1010 (some ["state","e","told_type","parts","op","found","truth"])++
 (dT 70 (vS "chancore.lower_exprs" 934) 600 1023 none++
 (dT 71 (vS "chancore.lower_exprs" 934) 605 1029 (some ["state","e","row_type","cells","place","one"])++
 (dT 73 (vS "chancore.lower_exprs" 934) 612 1042 none++
 (dT 74 (vS "chancore.lower_exprs" 934) 617 1048 none++
 ([oT [vS "int" 1056,vS "int" 1057],oT [vS "int" 1059,vS "int32" 1060],oT [vS "bool" 1062]]++
 (dT 79 (vS "chancore.lower_loops" 1054) 625 1064 (some ["state","statement","spot","number","own","asked","post","body","head","inside","again","behind","local"])++
 (dT 80 (vS "chancore.lower_loops" 1054) 632 1083 (some ["state","statement","spot","number","kind","names","e","body"])++
 (dT 81 (vS "chancore.lower_loops" 1054) 639 1097 (some ["state","name","operand","place"])++
 (dT 82 (vS "chancore.lower_loops" 1054) 646 1107 (some ["state","kind","operand","place","told"])++
 (dT 83 (vS "chancore.lower_loops" 1054) 653 1118 (some ["state","number","kind","names","e","body","told","operand","index_type","many","place","head","inside","again","behind","inner"])++
 (dT 84 (vS "chancore.lower_loops" 1054) 660 1140 (some ["state","number","kind","names","e","body","told","types","walk","head","inside","behind","is_there","key","value"])++
 (dT 85 (vS "chancore.lower_loops" 1054) 667 1161 (some ["state","number","names","e","body","told","channel","head","inside","behind","value","is_sent"])++
 (dT 86 (vS "chancore.lower_loops" 1054) 674 1179 none++
 (dT 87 (vS "chancore.lower_loops" 1054) 679 1185 (some ["state","face","face_type","wanted","goal","following","found","is_so"])++
 (dT 88 (vS "chancore.lower_loops" 1054) 686 1199 (some ["state","statement","spot","number","e","rows","default","face","behind","goals","values","types","local","statements","goal","found","wanted","at"])++
 (dT 89 (vS "chancore.lower_loops" 1054) 693 1223 (some ["state","local","operand","statements"])++
 (dT 90 (vS "chancore.lower_loops" 1054) 700 1233 (some ["state","comm","node","channel"])++
 (dT 91 (vS "chancore.lower_loops" 1054) 707 1243 none))))))))))))))))))))))))))
noncomputable def ob5_ (P:Params):List Obj:=[oD P [("for",1251,vR 631),("range",1252,vR 638),("switch",1253,vR 678),("types",1254,vR 692),("choose",1255,vR 711)] 5]
def ob6_ (P:Params):List Obj:=dT 94 (vS "chancore.lower_statements" 1249) 713 1262 (some ["state","statements","statement"])++
 (dT 95 (vS "chancore.lower_statements" 1249) 720 1271 (some ["state","statement","spot","kind"])++
 (dT 96 (vS "chancore.lower_statements" 1249) 727 1281 (some ["state","statement","kind","channel","target","told","before","operand"])++
 (dT 97 (vS "chancore.lower_statements" 1249) 734 1295 none++
 (dT 98 (vS "chancore.lower_statements" 1249) 739 1301 none++
 (dT 99 (vS "chancore.lower_statements" 1249) 744 1307 (some ["state","locals_told","es","local","operand"])++
 (dT 100 (vS "chancore.lower_statements" 1249) 751 1318 (some ["state","statement","yes","no","behind"])++
 (dT 101 (vS "chancore.lower_statements" 1249) 758 1329 none++
 (dT 102 (vS "chancore.lower_statements" 1249) 763 1335 none++
 (dT 103 (vS "chancore.lower_statements" 1249) 768 1341 none++
 (dT 104 (vS "chancore.lower_statements" 1249) 773 1347 (some ["state","typed_fn","late","own","outer","local","operand"])++
 (dT 105 (vS "chancore.lower_statements" 1249) 780 1360 (some ["typed_fn","world","codes","known","state"])++
 (dT 106 (vS "chancore.lower_statements" 1249) 787 1371 none++
 ([oT [],oT [],oT [vS "func" 1379,vR 792,vR 793,.bool false],oT [],oF (.type "builtin_function_or_method") [.builtin "type.__prepare__",.type "type"],oD P [("__module__",1388,vS "chancore.world" 1377),("__qualname__",1390,vS "NamedRow" 1389),("__firstlineno__",1392,.int 856 1391),("__init__",1403,vR 808),("__static_attributes__",1408,vR 809)] 5,oT [],oF .none [vN 858,vN 4,vR 807],oF (.type "code") [vS "NamedRow" 1383,vS "NamedRow" 1384,vS "/claim/cut.py" 1385,vN 856,vN 0,vN 0,vN 0,vN 0,vR 798,.bool false,vN 181,vR 799,.none,.none,.none,.none,vN 1386,vN 856,vS "/claim/cut.py" 1387],oFr [some (vR 800),some (vR 3),some (vR 797),none,some (vS "chancore.world" 1377),none,some (vR 0)]]++
 (dM 109 0 "NamedRow.__init__" (vS "chancore.world" 1377) .none 802 1393 (some ["self","path","package","underlying","methods"])++
 ([oT [vS "methods" 1404,vS "package" 1405,vS "path" 1406,vS "underlying" 1407],oD P [("__module__",1388,vS "chancore.world" 1377),("__firstlineno__",1392,.int 856 1391),("__init__",1403,vR 808),("__static_attributes__",1408,vR 809),("__dict__",1410,vR 812),("__weakref__",1412,vR 813),("__doc__",1413,.none)] 4,oC "NamedRow" "NamedRow" [.type "object"] [vR 811,.type "object"] 810 [] [none,none,some (vS "NamedRow" 1381),some (vS "NamedRow" 1389),some (.builtin "object.__new__"),some (.bool true)],oF (.type "getset_descriptor") [vS "__dict__" 1409,vR 811,.builtin "function.__dict__",.builtin "function.__dict__#set"],oF (.type "getset_descriptor") [vS "__weakref__" 1411,vR 811,.builtin "ExceptionGroup.__weakref__",.none],oF (.type "super") [vR 811,vR 811,vR 811],oF (.type "builtin_function_or_method") [.builtin "object.__init_subclass__",vR 811]]++
 (dT 110 (vS "chancore.world" 1377) 816 1416 (some ["text","adding","held","told","locks","waits"])++
 ([oT [],oF (.type "builtin_function_or_method") [.builtin "type.__prepare__",.type "type"],oD P [("__module__",1435,vS "chancore.world" 1377),("__qualname__",1437,vS "World" 1436),("__firstlineno__",1439,.int 871 1438),("__init__",1447,vR 837),("base_of",1456,vR 844),("settled",1464,vR 851),("__static_attributes__",1478,vR 852)] 7,oT [],oF .none [vN 873,vN 4,vR 836,vN 888,vN 4,vR 843,vN 900,vN 4,vR 850],oF (.type "code") [vS "World" 1430,vS "World" 1431,vS "/claim/cut.py" 1432,vN 871,vN 0,vN 0,vN 0,vN 0,vR 826,.bool false,vN 181,vR 827,.none,.none,.none,.none,vN 1433,vN 871,vS "/claim/cut.py" 1434],oFr [some (vR 828),some (vR 3),some (vR 825),none,some (vS "chancore.world" 1377),none,some (vR 0)],oT [.none]]++
 (dM 111 0 "World.__init__" (vS "chancore.world" 1377) (vR 830) 831 1440 (some ["self","packages"])++
 (dM 111 1 "World.base_of" (vS "chancore.world" 1377) .none 838 1448 (some ["self","told","row"])++
 (dM 111 2 "World.settled" (vS "chancore.world" 1377) .none 845 1457 (some ["self","entry"])++
 ([oT [vS "bodies" 1465,vS "consts" 1466,vS "files" 1467,vS "funcs" 1468,vS "globals" 1469,vS "is_whole" 1470,vS "late_keys" 1471,vS "named" 1472,vS "order" 1473,vS "packages" 1474,vS "scopes" 1475,vS "settle" 1476,vS "starts" 1477],oD P [("__module__",1435,vS "chancore.world" 1377),("__firstlineno__",1439,.int 871 1438),("__init__",1447,vR 837),("base_of",1456,vR 844),("settled",1464,vR 851),("__static_attributes__",1478,vR 852),("__dict__",1480,vR 855),("__weakref__",1482,vR 856),("__doc__",1483,.none)] 4,oC "World" "World" [.type "object"] [vR 854,.type "object"] 853 [] [none,none,some (vS "World" 1428),some (vS "World" 1436),some (.builtin "object.__new__"),some (.bool true)],oF (.type "getset_descriptor") [vS "__dict__" 1479,vR 854,.builtin "function.__dict__",.builtin "function.__dict__#set"],oF (.type "getset_descriptor") [vS "__weakref__" 1481,vR 854,.builtin "ExceptionGroup.__weakref__",.none],oF (.type "super") [vR 854,vR 854,vR 854],oF (.type "builtin_function_or_method") [.builtin "object.__init_subclass__",vR 854]]++
 (dT 113 (vS "law_zu0006_03" 1486) 859 1488 (some ["script","k","cell","big","mixed"])++
 (dT 114 (vS "law_zu0006_03" 1486) 866 1499 (some ["source","top","drawn"])++
 (dT 115 (vS "law_zu0006_03" 1486) 873 1508 (some ["source","things"])++
 ([oT [vS "int" 1516,vS "int" 1517],oT [vS "int" 1521,vS "int" 1522],oT [vS "array" 1519,.int 3 1520,vR 881],oT [vS "int" 1525,vS "int" 1526],oT [vS "ptr" 1524,vR 883]])))))))))))))))))))))))))
def ob7_ (P:Params):List Obj:=dT 119 (vS "law_zu0006_03" 1486) 885 1528 (some ["number"])++
 (dT 120 (vS "law_zu0006_03" 1486) 892 1535 (some ["place"])++
 (dT 121 (vS "law_zu0006_03" 1486) 899 1542 (some ["source","may_lack","some"])++
 (dT 122 (vS "law_zu0006_03" 1486) 906 1551 (some ["source","place"])++
 (dT 123 (vS "law_zu0006_03" 1486) 913 1559 (some ["value"])++
 (dT 124 (vS "law_zu0006_03" 1486) 920 1566 (some ["run","place"])++
 (dT 125 (vS "law_zu0006_03" 1486) 927 1574 (some ["run","value"])++
 (dT 126 (vS "law_zu0006_03" 1486) 934 1582 none++
 (dT 127 (vS "law_zu0006_03" 1486) 939 1588 none++
 (dT 128 (vS "law_zu0006_03" 1486) 944 1594 none++
 (dT 129 (vS "law_zu0006_03" 1486) 949 1600 none++
 (dT 130 (vS "law_zu0006_03" 1486) 954 1606 (some ["frame","operand"])++
 (dT 131 (vS "law_zu0006_03" 1486) 961 1614 (some ["room","pointer","value","place"])++
 (dT 132 (vS "law_zu0006_03" 1486) 968 1624 (some ["room","pointer","value","held","place","around"])++
 (dT 133 (vS "law_zu0006_03" 1486) 975 1636 (some ["op","one","other"])++
 (dT 134 (vS "law_zu0006_03" 1486) 982 1645 none++
 (dT 135 (vS "law_zu0006_03" 1486) 987 1651 (some ["frame","called","value"])++
 (dT 136 (vS "law_zu0006_03" 1486) 994 1660 (some ["room","codes","key","given","above","code","frame","here","told","ended"])++
 (dT 137 (vS "law_zu0006_03" 1486) 1001 1676 (some ["room","codes","frame","value","key","given","told"])++
 (dT 138 (vS "law_zu0006_03" 1486) 1008 1689 (some ["room","codes","frame","key","given","told"])++
 (dT 139 (vS "law_zu0006_03" 1486) 1015 1701 none++
 (dT 140 (vS "law_zu0006_03" 1486) 1020 1707 none++
 (dT 141 (vS "law_zu0006_03" 1486) 1025 1713 (some ["codes","key","room","told"])++
 (dT 142 (vS "law_zu0006_03" 1486) 1032 1723 none++
 (dT 143 (vS "law_zu0006_03" 1486) 1037 1729 none))))))))))))))))))))))))
def obA (P:Params)(o2 o3:Obj)(n:Nat):List Obj:=[boot_o_0 P,boot_o_1 P,o2,o3,boot_o_4 P,boot_o_5 P,boot_o_6 P,boot_o_7 P,boot_o_8 P,boot_o_9 P,boot_o_10 P,oT [],oF .none (mE.take n),
 oF (.type "code") [vS "<module>" 182,vS "<module>" 183,.str Du3 184,vN 1,vN 0,vN 0,vN 0,vN 0,vR 11,.bool false,vN 181,vR 12,.none,.none,.none,.none,vN 185,vN 1,.str Du3 186],
 oFr [some (vR 13),some (vR 3),some (vR 3),none,some (vS "__main__" 164),none,some (vR 0)]]
noncomputable def oD0 (P:Params)(l:List (String×Nat×Value))(n:Nat):Obj:=⟨.none,none,.dict (l.map λe=>⟨PyData.keyHash P (Str.ofString e.1),.str (Str.ofString e.1) e.2.1,e.2.2⟩).toArray n,#[]⟩
def sub2 (P:Params):Obj:=oD0 P [("type.__subclasses__.Exception.0",768,vN 424),("type.__subclasses__.Exception.n",769,vN 1)] 2
def gN (P:Params)(k:Nat)(x:String)(t:Nat)(mv:Bool):Obj:=oD P (("__name__",165,vS x t)::((gE.take k).drop 1).map λe=>match mv,e.2.1==709 with
 | true,true=>(e.1,e.2.1,vR 389)
 | _,_=>e) k
noncomputable def BTof (l:List Obj):BT:=(l.foldl (λ(st:BT×Nat) o=>(st.1.ins st.2 o,st.2+1)) (BT.nil,0)).1
def stT (l:List Obj)(n toks:Nat)(os:OsState):SharedT:=⟨BTof l,n,{},#[],{},toks,os⟩
def hp0_ (P:Params):List Obj:=obA P (oD0 P [] 0) (gN P 9 "__main__" 164 false) 0
def s0_ (w:World)(os:OsState):SharedT:=stT (hp0_ w.params) 15 187 os
def hp1_ (P:Params):List Obj:=obA P (oD0 P [] 0) (gN P 26 "chancore.lower_state" 417 false) 48++(Dq6 P)
def s1_ (w:World)(os:OsState):SharedT:=stT (hp1_ w.params) 169 419 os
def hp2_ (P:Params):List Obj:=obA P (oD0 P [] 0) (gN P 27 "chancore.lower_state" 417 false) 51++(Dq6 P++(ob2_ P))
def s2_ (w:World)(os:OsState):SharedT:=stT (hp2_ w.params) 344 642 os
def hp3_ (P:Params):List Obj:=obA P (sub2 P) (gN P 58 "chancore.lower_places" 807 true) 129++(Dq6 P++(ob2_ P++(ob3_ P)))
def s3_ (w:World)(os:OsState):SharedT:=stT (hp3_ w.params) 544 934 os
def hp4_ (P:Params):List Obj:=obA P (sub2 P) (gN P 90 "chancore.lower_statements" 1249 false) 204++(Dq6 P++(ob2_ P++(ob3_ P++(ob4_ P))))
def s4_ (w:World)(os:OsState):SharedT:=stT (hp4_ w.params) 712 1251 os
def hp5_ (P:Params):List Obj:=obA P (sub2 P) (gN P 91 "chancore.lower_statements" 1249 false) 204++(Dq6 P++(ob2_ P++(ob3_ P++(ob4_ P++(ob5_ P)))))
def s5_ (w:World)(os:OsState):SharedT:=stT (hp5_ w.params) 713 1262 os
def hp6_ (P:Params):List Obj:=obA P (sub2 P) (gN P 114 "law_zu0006_03" 1486 false) 261++(Dq6 P++(ob2_ P++(ob3_ P++(ob4_ P++(ob5_ P++(ob6_ P))))))
def s6_ (w:World)(os:OsState):SharedT:=stT (hp6_ w.params) 885 1528 os
def hp7_ (P:Params):List Obj:=obA P (sub2 P) (gN P 139 "law_zu0006_03" 1486 false) 336++(Dq6 P++(ob2_ P++(ob3_ P++(ob4_ P++(ob5_ P++(ob6_ P++(ob7_ P)))))))
def s7_ (w:World)(os:OsState):SharedT:=stT (hp7_ w.params) 1042 1735 os
abbrev pwH:Program:=PySem.Challenge.pw_zu0006_03
noncomputable def mEnv:Env:={scope:=pwH.main.scope,locals:=mainNs,globals:=mainNs,cells:=[],code:=.ref 13,frame:=some 14}
noncomputable def Cx6:List Stmt:=behindTheImports pwH
def Aj6:Code:=.body Cx6 mEnv
noncomputable def mP (line:Nat)(endL endC:Nat):Pos:=⟨line,0,endL,endC⟩
def Ax9 (i n:Nat):List Stmt:=(Bs3.drop i).take n
def Cq9 (w:World)(n:Nat)(s:OsState→SharedT)(i k:Nat)(p:Pos):OsState→Option (Flow×SharedT×Code×Pos):=
 λos=>segRunT treeTable pwH w 11 (some (.ref 6)) 1 n (s os) (piecesOf (Ax9 i k) mEnv Aj6 p [topFrame (⟨0,0,0,0⟩:Pos)])
theorem seg1 (w:World):Cq9 w 1200 (s0_ w) 0 22 ⟨0,0,0,0⟩=λos=>some (.next,s1_ w os,Aj6,⟨140,0,140,8⟩):=by kernel_rfl
theorem seg2 (w:World):Cq9 w 1000 (s1_ w) 22 1 ⟨140,0,140,8⟩=λos=>some (.next,s2_ w os,Aj6,⟨141,0,242,77⟩):=by kernel_rfl
theorem seg3 (w:World):Cq9 w 2000 (s2_ w) 23 34 ⟨141,0,242,77⟩=λos=>some (.next,s3_ w os,Aj6,⟨432,0,439,76⟩):=by kernel_rfl
theorem seg4 (w:World):Cq9 w 2000 (s3_ w) 57 36 ⟨432,0,439,76⟩=λos=>some (.next,s4_ w os,Aj6,⟨730,0,730,8⟩):=by kernel_rfl
theorem seg5f (w:World):Cq9 (w.withFollow "special-get-raises" false) 100 (s4_ (w.withFollow "special-get-raises" false)) 93 1 ⟨730,0,730,8⟩=λos=>some (.next,s5_ (w.withFollow "special-get-raises" false) os,Aj6,⟨731,0,731,5⟩):=by kernel_rfl
theorem seg5t (w:World):Cq9 (w.withFollow "special-get-raises" true) 100 (s4_ (w.withFollow "special-get-raises" true)) 93 1 ⟨730,0,730,8⟩=λos=>some (.next,s5_ (w.withFollow "special-get-raises" true) os,Aj6,⟨731,0,731,5⟩):=by kernel_rfl
theorem seg6 (w:World):Cq9 w 2000 (s5_ w) 94 25 ⟨731,0,731,5⟩=λos=>some (.next,s6_ w os,Aj6,⟨921,0,921,12⟩):=by kernel_rfl
theorem seg7 (w:World):Cq9 w 2000 (s6_ w) 119 25 ⟨921,0,921,12⟩=λos=>some (.next,s7_ w os,Aj6,⟨1120,0,1124,85⟩):=by kernel_rfl
noncomputable abbrev Dz8:Option Value:=some (.ref 6)
abbrev p0:Pos:=⟨0,0,0,0⟩
noncomputable abbrev mB:List Frame:=[topFrame p0]
def sA (w:World)(os:OsState):Shared:=⟨⟨(hp0_ w.params).toArray,{}⟩,#[],{},187,os⟩
theorem t_pre (w:World):(λos=>topGo treeTable pwH w 11 Dz8 12 ⟨boot_heap w.params,#[],boot_drawn,boot_toks,os⟩ (topStub pwH))=λos=>some (sA w os,⟨denote treeTable Aj6,Aj6,p0,mB⟩):=by kernel_rfl
theorem t_abs0 (w:World):(λos=>(s0_ w os).abs)=sA w:=by kernel_rfl
theorem Dn0 (w:World):(λos=>segRun treeTable pwH w 11 Dz8 1 1 (sA w os) (blockOf Cx6 mEnv Aj6 p0 mB))=λos=>some (.next,sA w os,Aj6,p0):=by kernel_rfl
def H1 (P:Params):Heap:=⟨(hp7_ P).toArray,{}⟩
def sZ (w:World)(os:OsState):Shared:=⟨H1 w.params,#[],{},1735,os⟩
theorem t_abs7 (w:World):(λos=>(s7_ w os).abs)=sZ w:=by kernel_rfl
theorem t_fin (w:World):(λos=>topRun treeTable pwH w 11 Dz8 2 (sZ w os) ⟨doneF .next,Aj6,⟨1120,0,1124,85⟩,mB⟩)=λos=>some (sZ w os):=by kernel_rfl
theorem t_body:Cx6=Ax9 0 22++(Ax9 22 1++(Ax9 23 34++(Ax9 57 36++(Ax9 93 1++(Ax9 94 25++(Ax9 119 25++[])))))):=by kernel_rfl
theorem seg5 (w:World):Cq9 w 100 (s4_ w) 93 1 ⟨730,0,730,8⟩=λos=>some (.next,s5_ w os,Aj6,⟨731,0,731,5⟩):=by
 have e:=World.withFollow_self w "special-get-raises"
 cases hb:w.params.followText "special-get-raises" with
 | false=>rw [hb] at e;have:=seg5f w;rw [e] at this;exact this
 | true=>rw [hb] at e;have:=seg5t w;rw [e] at this;exact this
theorem go_ (w:World)(os:OsState){n N:Nat}{s s':OsState→SharedT}{r:Shared}{i k:Nat}{rest:List Stmt}{p p':Pos}(h:Cq9 w n s i k p=λos=>some (.next,s' os,Aj6,p'))
  (g:topRun treeTable pwH w 11 Dz8 N (s' os).abs (restOf rest mEnv Aj6 p' mB)=some r):topRun treeTable pwH w 11 Dz8 (n+N) (s os).abs (restOf (Ax9 i k++rest) mEnv Aj6 p mB)=some r:=
 piece_app (segRun_of (congrFun h os)) g
theorem t_run (w:World)(os:OsState):topRun treeTable pwH w 11 Dz8 (12+(1+(1200+(1000+(2000+(2000+(100+(2000+(2000+2))))))))) ⟨boot_heap w.params,#[],boot_drawn,boot_toks,os⟩ (topStub pwH)=some (sZ w os):=by
 refine go_top (congrFun (t_pre w) os) ?_
 refine piece_block (congrFun (Dn0 w) os) ?_
 rw [← congrFun (t_abs0 w) os]
 show topRun _ _ _ _ _ _ _ (restOf Cx6 _ _ _ _)=_
 rw [t_body]
 refine go_ w os (seg1 w) (go_ w os (seg2 w) (go_ w os (seg3 w) (go_ w os (seg4 w) (go_ w os (seg5 w) (go_ w os (seg6 w) (go_ w os (seg7 w) ?_))))))
 rw [congrFun (t_abs7 w) os]
 exact piece_nil (congrFun (t_fin w) os)
theorem Bt9 {α β:Type}{f g:α→Option β}:∀{l:List α},(∀x∈l,f x=g x)→l.filterMap f=l.filterMap g
 | [],_=>rfl
 | a::l,h=>by rw [List.filterMap_cons,List.filterMap_cons,h a (List.mem_cons_self ..),Bt9 λx m=>h x (List.mem_cons_of_mem _ m)]
theorem Ay2:∀{ns:List Str} {vs:List Value},ns.Nodup→ns.length=vs.length→(ns.filterMap λn=>((ns.zip vs).lookup n).map λv=>(n,v))=ns.zip vs
 | [],_,_,_=>by simp
 | n::ns,v::vs,hn,hl=>by
  have hn':=List.nodup_cons.mp hn
  have ih:=Ay2 hn'.2 (by simpa using hl)
  rw [List.zip_cons_cons,List.filterMap_cons,List.lookup_cons,beq_self_eq_true]
  show (n,v)::List.filterMap _ ns=(n,v)::ns.zip vs
  refine congrArg _ (Eq.trans (Bt9 λm hm=>?_) ih)
  rw [List.lookup_cons]
  have:(m==n)=false:=by
   rw [beq_eq_false_iff_ne]
   rintro rfl
   exact hn'.1 hm
  exact this▸rfl
theorem Cb5:∀{ns:List Str} {vs:List Value} {n:Str},n∈ns→ns.length=vs.length→((ns.zip vs).lookup n).isNone=false
 | n'::ns,v::vs,n,h,hl=>by
  rw [List.zip_cons_cons,List.lookup_cons]
  cases q:n==n' with
  | true=>rfl
  | false=>
   have:n∈ns:=by
    rcases List.mem_cons.mp h with e | e
    ·rw [e,beq_self_eq_true] at q;exact noB q
    ·exact e
   exact Cb5 this (by simpa using hl)
theorem As6 {p:Prop}{α:Type}{f:¬p→α}{g:p→α}{inst:Decidable p}(h:¬p):@Decidable.rec p (λu0=>α) f g inst=f h:=by
 cases inst with
 | isTrue q=>exact absurd q h
 | isFalse _=>rfl
theorem Ca2 {fd:FuncData}{args:List Arg}{vs:List Value}(hp:fd.params=⟨[],args,none,[],[],none,[]⟩)(hd:fd.defaults = .none)(hn:(args.map (·.arg)).Nodup)(hl:args.length=vs.length):
  bindArgs fd ⟨vs,[]⟩=pure ((args.map (·.arg)).zip vs):=by
 obtain ⟨nm,q,p,b,sc,gl,cl,df,kd,r1,r2,r3,r4,r5,r6⟩:=fd
 dsimp only at hp hd
 subst hp hd
 have hl':(args.map (·.arg)).length=vs.length:=(List.length_map _).trans hl
 have hz:List.filter (λn=>(((args.map (·.arg)).zip vs).lookup n).isNone) (args.map (·.arg)) = []:=List.filter_eq_nil_iff.mpr λn hm=>by rw [Cb5 hm hl'];decide
 have e2:=Ay2 hn hl'
 conv=>lhs;whnf
 refine (As6 ?_).trans ?_
 ·show ¬(decide (vs.length>(List.map (·.arg) args).length)&&true)=true
  rw [decide_eq_false (by simp only [List.length_map,hl];exact Nat.lt_irrefl _)];exact Bool.false_ne_true
 conv=>lhs;whnf
 refine (As6 ?_).trans ?_
 ·show ¬(!(List.filter (λn=>(List.lookup n ((args.map (·.arg)).zip vs)).isNone) (List.take ((args.map (·.arg)).length-(List.drop (0-(args.map (·.arg)).length) ([]:List Value)).length) (args.map (·.arg)))).isEmpty)=true
  simp only [List.drop_nil,List.length_nil,Nat.sub_zero,List.take_length,hz];exact Bool.false_ne_true
 simp [-List.filterMap_map,e2]
noncomputable def freedO:Obj:=⟨.none,none,.freed,#[]⟩
def Hzl (P:Params):List Obj:=set (hp7_ P) 163 freedO
def Hz (P:Params):Heap:=⟨(Hzl P).toArray,{}⟩
def Di6:Data→Bool
 | .freed=>true
 | _=>false
def lget (l:List Obj)(a:Nat):Option Obj:=(at? l a).bind λo=>bif Di6 o.data then none else some o
theorem hget (l:List Obj)(f:Life)(a:Addr):(Heap.mk l.toArray f).get? a=lget l a:=by
 unfold Heap.get? lget
 rw [at?_eq,List.getElem?_toArray]
 cases l[a]? with
 | none=>rfl
 | some o=>cases o with
  | mk c d dt sl=>cases dt<;>rfl
def fnAs:List Nat:=fT.map λe=>e.1
noncomputable def clAs:List Nat:=[94,95,107,135,136,338,339,810,811,830,853,854]
noncomputable def Kof (l:List Obj):List Nat→Frag
 | []=>[]
 | a::r=>match lget l a with
  | some o=>(a,o)::Kof l r
  | none=>Kof l r
theorem Cq7 (l:List Obj)(f:Life):∀as:List Nat,(Kof l as).In (Heap.mk l.toArray f)
 | [],a,o,e=>by exact no1 e
 | b::r,a,o,e=>by
  replace e:=show (match lget l b with | some o=>(b,o)::Kof l r | none=>Kof l r).lookup a=some o from e
  cases h:lget l b with
  | none=>rw [h] at e;exact Cq7 l f r a o e
  | some x=>
   rw [h] at e
   dsimp only at e
   rw [List.lookup_cons] at e
   cases q:a==b with
   | true=>rw [q] at e;(replace e:=A9 e;subst e);rw [hget,eq_of_beq q];exact h
   | false=>rw [q] at e;exact Cq7 l f r a o e
def KT (P:Params):Frag:=Kof (Hzl P) (clAs++fnAs)
noncomputable def asBlt:SV→Option BI
 | .blt b=>some b
 | _=>none
noncomputable def asGlb:SV→Option Nat
 | .glb a=>some a
 | _=>none
noncomputable def Cb1 {α:Type}(f:α→Bool):Option α→Bool
 | some a=>f a
 | none=>false
def Cy7 (v:SV):Value→Bool
 | .none=>Ad8 v
 | .bool b=>decide (Cp8 v=some b)
 | .int j _=>decide (Af3 v=some j)
 | .str t _=>Cb1 (seq · t) (Bp3 v)
 | .type n=>Cb1 (λt=>decide (t.name=n)) (Dz5 v)
 | .builtin n=>Cb1 (λt=>decide (t.name=n)) (asBlt v)
 | .ref a=>decide (asGlb v=some a)
 | _=>false
def refW:Value→Option Nat
 | .ref a=>some a
 | _=>none
noncomputable def seqW:Data→Option (Array Value×Nat)
 | .seq vs n=>some (vs,n)
 | _=>none
def tupW (l:List Obj)(u:Value):Option (List Value):=(refW u).bind λa=>(lget l a).bind λo=>(seqW o.data).bind λq=>
 bif decide (o.cls = .type "tuple")&&Cw7 o.dict&&Ae9 o.slots.toList then some q.1.toList else none
noncomputable def allV (f:SV→Value→Bool):List SV→List Value→Bool
 | []=>Ae9
 | x::xs=>λvs=>match vs with
  | []=>false
  | v::vs=>f x v&&allV f xs vs
noncomputable def Dx0 (l:List Obj):Nat→SV→Value→Bool
 | 0=>Cy7
 | n+1=>λv u=>match Ar8 v with
  | none=>Cy7 v u
  | some xs=>Cb1 (allV (Dx0 l n) xs) (tupW l u)
def mgT (P:Params):Str→Option Value:=(Hz P).nsMap mainGlobals
def mbT (P:Params):Str→Option Value:=(Hz P).nsMap builtinsNs
noncomputable def Bo6:Option Obj→List DictEntry
 | some ⟨_,_,.dict ⟨es⟩ _,_⟩=>es
 | _=>[]
def keyB (v:Value)(k:List Nat):Bool:=match v with
 | .str s _=>Bk5 s.cps.toList k
 | _=>false
noncomputable def nsF (es:List DictEntry)(k:List Nat):Option Value:=match es with
 | []=>none
 | e::r=>match keyB e.key k with
  | true=>some e.val
  | false=>nsF r k
noncomputable def Co3 (l:List Obj)(es:List DictEntry):List (List Nat×SV)→Bool
 | []=>true
 | (k,v)::r=>match nsF es k with
  | some u=>match Dx0 l 5 v u with
   | true=>Co3 l es r
   | false=>false
  | none=>false
theorem glob_k (P:Params):Co3 (Hzl P) (Bo6 (lget (Hzl P) 3)) gT=true:=by kernel_rfl
theorem blt_k (P:Params):Co3 (Hzl P) (Bo6 (lget (Hzl P) 0)) bT=true:=by kernel_rfl
noncomputable def Br9 (es:List DictEntry):List (List Nat×SV)→Bool
 | []=>true
 | (k,_)::r=>match nsF es k with
  | some _=>false
  | none=>Br9 es r
theorem blt_n (P:Params):Br9 (Bo6 (lget (Hzl P) 3)) bT=true:=by kernel_rfl
noncomputable def Ar4 (K:Frag)(C:Nat):List (List Nat)→Bool
 | []=>true
 | k::r=>(findIn K (.ref C) ⟨k.toArray⟩==some none)&&Ar4 K C r
noncomputable def Bj1 (K:Frag)(C:Nat):Bool:=plainGet K C Str.empty&&hasDictIn K C&&(findIn K (.ref C) "__setattr__" == some (some (.builtin "object.__setattr__")))&&plainOver K C&&keepIn K (.ref C)&&makesIn K C
noncomputable def Bd9 (K:Frag):List (Nat×List (List Nat))→Bool
 | []=>true
 | (C,l)::r=>Bj1 K C&&Ar4 K C l&&Bd9 K r
theorem cls_k (P:Params):Bd9 (KT P) aT=true:=by kernel_rfl
noncomputable def Bd8 (K:Frag):List (Nat×List Nat×Nat)→Bool
 | []=>true
 | (C,k,f)::r=>plainGet K C Str.empty&&(findIn K (.ref C) ⟨k.toArray⟩==some (some (.ref f)))&&(typeIn K (.ref f)==some (.type "function"))&&fnIn K f&&Bd8 K r
theorem meth_k (P:Params):Bd8 (KT P) mT=true:=by kernel_rfl
noncomputable def funD:Data→Option FuncData
 | .func fd=>some fd
 | _=>none
def Du4 (l:List Obj)(a:Nat):Option FuncData:=(lget l a).bind λo=>funD o.data
theorem fn_sig (P:Params):fT.map (λe=>(Du4 (Hzl P) e.1).map λfd=>(fd.params.args.map (·.arg),fd.body,fd.scope,fd.closure,fd.globals,fd.builtins))=fT.map λe=>some (e.2.params,FuncBody.stmts e.2.body,e.2.scope,[],3,0):=by kernel_rfl
noncomputable def Cj7 {α:Type}:List α→Bool
 | []=>true
 | _=>false
def Bb9 (p:Arguments):Bool:=Cj7 p.posonlyargs&&p.vararg.isNone&&Cj7 p.kwonlyargs&&Cj7 p.kw_defaults&&p.kwarg.isNone
noncomputable def fldW:Data→Option (Array Value)
 | .fields vs=>some vs
 | _=>none
noncomputable def strW:Value→Option Str
 | .str s _=>some s
 | _=>none
def Dj1 (l:List Obj)(fd:FuncData):Bool:=Cb1 (Cb1 λo=>Cb1 (λvs=>Cb1 (Cb1 (seq · fd.qualname)) ((vs.toList[1]?).map strW)) (fldW o.data)) ((refW fd.code).map (lget l))
noncomputable def ndS:List Str→Bool
 | []=>true
 | a::l=>!(l.any (seq a))&&ndS l
def isFn1:ScopeKind→Bool
 | .function=>true
 | _=>false
def Ds9:Value→Bool
 | .none=>true
 | _=>false
noncomputable def clOk (names:List (Str×NameKind)):List Str→Bool
 | []=>true
 | x::r=>!(As5 (look names x))&&clOk names r
def Dx1 (l:List Obj)(e:Nat×Fn):Bool:=match Du4 l e.1 with
 | some fd=>Bb9 fd.params&&Dj1 l fd && !fd.scope.isCoroutine && !fd.scope.isGenerator&&isFn1 fd.scope.kind&&(look fd.scope.names "__debug__").isNone&&ndS (cn fd.scope.names)&&ndS e.2.params&&clOk fd.scope.names (cn fd.scope.names) &&
   (match e.2.dflt with | []=>Ds9 fd.defaults&&Cj7 fd.params.defaults | _=>Nat.beq e.1 114||Nat.beq e.1 837)
 | none=>false
theorem fn_k (P:Params):fT.all (Dx1 (Hzl P))=true:=by kernel_rfl
theorem lam_k (P:Params):(Du4 (Hzl P) 168).map (·.code)=some (.ref 167):=by kernel_rfl
def tabKs (l:List Obj)(a:Nat):List (Option Str):=(Bo6 (lget l a)).map λe=>match e.key with
 | .str s _=>some s
 | _=>none
theorem tab_6 (P:Params):lget (Hzl P) 6=some ⟨.type "dict",none,.dict #[] 0,#[]⟩:=by kernel_rfl
def es712 (P:Params):List DictEntry:=Bo6 (lget (Hzl P) 712)
theorem Dm8 (P:Params):lget (Hzl P) 712=some (oD P [("for",1251,vR 631),("range",1252,vR 638),("switch",1253,vR 678),("types",1254,vR 692),("choose",1255,vR 711)] 5):=by kernel_rfl
theorem big_k (P:Params):(lget (Hzl P) 1).isSome=true:=by kernel_rfl
theorem Bu5 (P:Params):lget (Hzl P) 167=some (oF (.type "code") [vS "with_kept_blocks" 403,vS "with_kept_blocks" 404,vS "/claim/cut.py" 405,vN 130,vN 2,vN 0,vN 0,vN 3,vR 162,.bool true,vN 181,vR 163,.none,vR 164,vR 165,vR 166,vN 414,vN 130,vS "/claim/cut.py" 415]):=by kernel_rfl
theorem Bl2 (P:Params):lget (Hzl P) 163=none:=by kernel_rfl
theorem bm_k (P:Params):nsF (Bo6 (lget (Hzl P) 3)) [95,95,98,117,105,108,116,105,110,115,95,95]=some (.ref 4):=by kernel_rfl
theorem mod_4 (P:Params):lget (Hzl P) 4=some ⟨.type "module",some 0,.plain,#[]⟩:=by kernel_rfl
theorem isNs_k (P:Params):((Hz P).isNs mainGlobals,(Hz P).isNs builtinsNs,(Hz P).isNs cStatics,(Hz P).nsMap cStatics "sys.recursionlimit")=(true,true,true,none):=by kernel_rfl
theorem d114 (P:Params):(Du4 (Hzl P) 114).map (·.defaults)=some (.ref 107):=by kernel_rfl
theorem d837 (P:Params):(Du4 (Hzl P) 837).map (·.defaults)=some (.ref 830):=by kernel_rfl
section
set_option tactic.hygienic true
theorem Ds5 (v:Value)(n:Str):v.isStr n=keyB v n.cps.toList:=by
 cases v with
 | str s t=>exact (Aq3 s n).symm
 | _=>rfl
theorem nsF_eq (n:Str)(es:List DictEntry):(es.find? λe=>e.key.isStr n).map (·.val)=nsF es n.cps.toList:=by
 induction es with
 | nil=>rfl
 | cons e r ih=>
  rw [List.find?_cons,Ds5 e.key n]
  show _=(match keyB e.key n.cps.toList with | true=>some e.val | false=>nsF r n.cps.toList)
  cases keyB e.key n.cps.toList with
  | true=>rfl
  | false=>exact ih
theorem Bc3 (l:List Obj)(f:Life)(a:Addr)(n:Str):(Heap.mk l.toArray f).nsMap a n=nsF (Bo6 (lget l a)) n.cps.toList:=by
 unfold Heap.nsMap
 rw [hget]
 cases lget l a with
 | none=>rfl
 | some o=>
  obtain ⟨c,d,dt,sl⟩:=o
  cases dt with
  | dict es ep=>obtain ⟨es⟩:=es;show Option.map _ (Array.find? _ es.toArray)=_;rw [List.find?_toArray];exact nsF_eq n es
  | _=>rfl
theorem Bo8 {l:List Obj}{es:List DictEntry}{k:List Nat}{v:SV}:∀{t:List (List Nat×SV)},Co3 l es t=true→Bm8 t k=some v→∃u,nsF es k=some u∧Dx0 l 5 v u=true
 | [],_,e=>by exact no1 e
 | (k',v')::r,h,e=>by
  replace h:=show (match nsF es k' with | some u=>(match Dx0 l 5 v' u with | true=>Co3 l es r | false=>false) | none=>false)=true from h
  replace e:=show (match Bk5 k' k with | true=>some v' | false=>Bm8 r k)=some v from e
  cases hq:nsF es k' with
  | none=>rw [hq] at h;exact B3 h
  | some u=>
   rw [hq] at h
   dsimp only at h
   cases hc:Dx0 l 5 v' u with
   | false=>rw [hc] at h;cases h
   | true=>
    rw [hc] at h
    cases hb:Bk5 k' k with
    | true=>rw [hb] at e;(replace e:=A9 e;subst e);exact (Ao8.mp hb)▸⟨u,hq,hc⟩
    | false=>replace e:=hb▸e;exact Bo8 h e
theorem Br8 {es:List DictEntry}{k:List Nat}{v:SV}:∀{t:List (List Nat×SV)},Br9 es t=true→Bm8 t k=some v→nsF es k=none
 | [],_,e=>by exact no1 e
 | (k',v')::r,h,e=>by
  replace h:=show (match nsF es k' with | some _=>false | none=>Br9 es r)=true from h
  replace e:=show (match Bk5 k' k with | true=>some v' | false=>Bm8 r k)=some v from e
  cases hq:nsF es k' with
  | some u=>rw [hq] at h;cases h
  | none=>
   rw [hq] at h
   cases hb:Bk5 k' k with
   | true=>rw [hb] at e;(replace e:=A9 e;subst e);exact (Ao8.mp hb)▸hq
   | false=>rw [hb] at e;exact Br8 h e
theorem De9 {v:SV}{i:BI}(e:asBlt v=some i):v = .blt i:=by
 cases v with
 | blt j=>exact congrArg _ (A9 e)
 | _=>exact no1 e
theorem De8 {v:SV}{i:Nat}(e:asGlb v=some i):v = .glb i:=by
 cases v with
 | glb j=>exact congrArg _ (A9 e)
 | _=>exact no1 e
theorem Dz7 {α:Type}{f:α→Bool}{o:Option α}{P:Prop}(e:Cb1 f o=true)(k:∀a,o=some a→f a=true→P):P:=by
 cases o with
 | none=>exact B3 e
 | some a=>exact k a rfl e
theorem Cf3 {u:Value}{a:Nat}(e:refW u=some a):u = .ref a:=by
 cases u with
 | ref j=>exact congrArg _ (A9 e)
 | _=>exact no1 e
theorem Do5 {d:Data}{q:Array Value×Nat}(e:seqW d=some q):d = .seq q.1 q.2:=by
 cases d with
 | seq v n=>exact A9 e▸rfl
 | _=>exact no1 e
theorem Dn4 {u:Value}{s:Str}(e:strW u=some s):∃t,u = .str s t:=by
 cases u with
 | str s t=>exact A9 e▸⟨t,rfl⟩
 | _=>exact no1 e
theorem Du2 {d:Data}{q:Array Value}(e:fldW d=some q):d = .fields q:=by
 cases d with
 | fields v=>exact A9 e▸rfl
 | _=>exact no1 e
theorem Dt9 {d:Data}{q:FuncData}(e:funD d=some q):d = .func q:=by
 cases d with
 | func v=>exact A9 e▸rfl
 | _=>exact no1 e
theorem anymE {α β:Type}{f:β→Bool}{g:α→β}{o:Option α}{P:Prop}(e:Cb1 f (o.map g)=true)(k:∀a,o=some a→f (g a)=true→P):P:=by
 cases o with
 | none=>exact B3 e
 | some a=>exact k a rfl e
theorem Dd7 {l:List Obj}{f:Life}{fd:FuncData}(e:Dj1 l fd=true):(Heap.mk l.toArray f).CodeRec fd.code fd.qualname:=
 anymE e λc hc e=>Dz7 e λo ho e=>Dz7 e λvs hv e=>anymE e λu hu e=>Dz7 e λs hs e=>(Dn4 hs).elim λt ht=>
  ⟨c,o,vs,t,Cf3 hc,(hget l f c).trans ho,Du2 hv,by rw [← Array.getElem?_toList,hu,ht,Ab0.mp e]⟩
section
variable [X:Hid]
theorem Cj4 {h:Heap}{v:SV}{u:Value}(e:Cy7 v u=true):VR [] h v u:=by
 cases u with
 | none=>rw [Ad0 e];exact .none
 | bool b=>rw [Cp7 (of_decide_eq_true e)];exact .bool b
 | int j t=>rw [Ab2 (of_decide_eq_true e)];exact .int j t
 | str s t=>exact Dz7 e λa q r=>by simp only [Au2 q,Ab0.mp r];exact .str s t
 | type n=>exact Dz7 e λa q r=>by simp only [Bv1 q,← of_decide_eq_true r];exact .typ a
 | builtin n=>exact Dz7 e λa q r=>by simp only [De9 q,← of_decide_eq_true r];exact .blt a
 | ref a=>rw [De8 (of_decide_eq_true e)];exact .glb a
 | _=>exact B3 e
theorem tupW_s {l:List Obj}{f:Life}(hX:Ba9 X (Heap.mk l.toArray f)){u:Value}{vs:List Value}(e:tupW l u=some vs):∃a,u = .ref a∧Ab6 (Heap.mk l.toArray f) a vs:=by
 refine oEA (Option.bind_eq_some_iff.mp e) λa q e=>?_
 refine oEA (Option.bind_eq_some_iff.mp e) λz0 ho e=>?_;obtain ⟨c,d,dt,sl⟩:=z0
 refine oEA (Option.bind_eq_some_iff.mp e) λz0 hs e=>?_;obtain ⟨ws,n⟩:=z0
 have ho:=(hget l f a).trans ho
 refine ⟨a,Cf3 q,λm=>no1 ((hX a m).symm.trans ho),n,?_⟩
 refine Eq.trans ho ?_
 cases hb:(decide (c = .type "tuple")&&Cw7 d&&Ae9 sl.toList) with
 | false=>dsimp only at e;rw [hb] at e;exact no1 e
 | true=>
  dsimp only at e;rw [hb] at e
  have ⟨h1,h3⟩:=Bool.and_eq_true_iff.mp hb
  have ⟨h1,h2⟩:=Bool.and_eq_true_iff.mp h1
  rw [show dt=_ from Do5 hs,of_decide_eq_true h1,Br7 h2,← A9 e,show sl = #[] from Array.toList_eq_nil_iff.mp (Ab8 h3)]
theorem allV_s {h:Heap}{f:SV→Value→Bool}(H:∀x v,f x v=true→VR [] h x v)(xs:List SV):∀vs,allV f xs vs=true→VRs [] h xs vs:=by
 induction xs with
 | nil=>exact λvs e=>Ab8 e▸VRs.nil
 | cons x xs ih=>
  intro vs e
  cases vs with
  | nil=>exact B3 e
  | cons v vs=>exact VRs.cons (H _ _ (Bool.and_eq_true_iff.mp e).1) (ih _ (Bool.and_eq_true_iff.mp e).2)
theorem Dj4 {l:List Obj}{f:Life}(hX:Ba9 X (Heap.mk l.toArray f))(n:Nat):∀v u,Dx0 l n v u=true→VR [] (Heap.mk l.toArray f) v u:=by
 induction n with
 | zero=>exact λv u e=>Cj4 e
 | succ n ih=>
  intro v u e
  replace e:=show (match Ar8 v with | none=>Cy7 v u | some xs=>Cb1 (allV (Dx0 l n) xs) (tupW l u))=true from e
  cases ht:Ar8 v with
  | none=>rw [ht] at e;exact Cj4 e
  | some xs=>
   rw [ht] at e
   rw [Al8 ht]
   exact Dz7 e λvs q r=>(tupW_s hX q).elim λa p=>p.1▸have g:=allV_s ih xs vs r;.tup xs vs a p.2 g.1 g.2
end
theorem Be4 {α:Type}{n:Nat}{x:α}:∀{t:List (Nat×α)},atN t n=some x→(n,x)∈t
 | [],e=>by exact no1 e
 | p::r,e=>by
  replace e:=show (match Nat.beq p.1 n with | true=>some p.2 | false=>atN r n)=some x from e
  cases h:Nat.beq p.1 n with
  | true=>rw [h] at e;(replace e:=A9 e;subst e);rw [← Nat.eq_of_beq_eq_true h];exact List.mem_cons_self ..
  | false=>rw [h] at e;exact List.mem_cons_of_mem _ (Be4 e)
theorem Dh5 {α β:Type}{f g:α→β}:∀{l:List α},l.map f=l.map g→∀x∈l,f x=g x
 | a::l,h,x,m=>by
  simp only [List.map_cons,List.map_cons,List.cons.injEq] at h
  rcases List.mem_cons.mp m with e | e
  ·exact e▸h.1
  ·exact Dh5 h.2 x e
theorem fdOf_s {l:List Obj}{a:Nat}{fd:FuncData}(h:Du4 l a=some fd):∃o,lget l a=some o∧o.data = .func fd:=by
 exact (Option.bind_eq_some_iff.mp h).elim λo q=>⟨o,q.1,Dt9 q.2⟩
theorem Cw9 {α:Type}{l:List α}(h:Cj7 l=true):l = []:=by cases l<;>first | rfl | cases h
theorem Bl8 {p:Arguments}(h:Bb9 p=true):p=⟨[],p.args,none,[],[],none,p.defaults⟩:=by
 obtain ⟨a,b,c,d,e,f,g⟩:=p
 simp only [Bb9,Bool.and_eq_true,Option.isNone_iff_eq_none] at h
 obtain ⟨⟨⟨⟨h1,h2⟩,h3⟩,h4⟩,h5⟩:=h
 simp only [Cw9 h1,Cw9 h3,Cw9 h4,h2,h5]
theorem Cx4:∀{l:List Str},ndS l=true→l.Nodup
 | [],_=>List.nodup_nil
 | a::l,h=>by
  simp only [ndS,Bool.and_eq_true,Bool.not_eq_true'] at h
  refine List.nodup_cons.mpr ⟨λm=>?_,Cx4 h.2⟩
  have:l.any (seq a)=true:=List.any_eq_true.mpr ⟨a,m,Bq9 a⟩
  replace this:=(h.1).symm.trans this;exact B3 this
theorem Dj3 {names:List (Str×NameKind)}:∀{l:List Str},clOk names l=true→∀x∈l,look names x≠some .local
 | a::l,h,x,m=>by
  replace h:=show (!(As5 (look names a))&&clOk names l)=true from h
  simp only [Bool.and_eq_true,Bool.not_eq_true'] at h
  rcases List.mem_cons.mp m with e | e
  ·subst e;intro q;replace h:=q▸h;cases h.1
  ·exact Dj3 h.2 x e
theorem Bn0 {l:List Obj}{a:Nat}{o:Obj}(e:lget l a=some o):∀{as:List Nat},a∈as→(Kof l as).lookup a=some o
 | b::r,m=>by
  show (match lget l b with | some o=>(b,o)::Kof l r | none=>Kof l r).lookup a=some o
  cases hb:lget l b with
  | none=>
   rcases List.mem_cons.mp m with q | q
   ·rw [← q,e] at hb;cases hb
   ·exact Bn0 e q
  | some x=>
   dsimp only
   rw [List.lookup_cons]
   cases q:a==b with
   | true=>rw [← eq_of_beq q,e] at hb;(replace hb:=A9 hb;subst hb);rfl
   | false=>
    rcases List.mem_cons.mp m with q' | q'
    ·rw [q',beq_self_eq_true] at q;exact noB q
    ·exact Bn0 e q'
section
variable {P:Params}
theorem As7 (a:Addr):(Hz P).get? a=lget (Hzl P) a:=hget _ _ a
theorem KT_in:(KT P).In (Hz P):=Cq7 _ _ _
theorem Bt8 {a:Nat}{f:Fn}(h:atN fT a=some f):∃o fd,lget (Hzl P) a=some o∧o.data = .func fd∧fd.params.args.map (·.arg)=f.params∧fd.body = .stmts f.body∧fd.scope=f.scope∧fd.closure = []∧fd.globals=3∧fd.builtins=0∧Dx1 (Hzl P) (a,f)=true∧Du4 (Hzl P) a=some fd:=by
 have m:=Be4 h
 have e:=Dh5 (fn_sig P) _ m
 dsimp only at e
 refine oEA (Option.map_eq_some_iff.mp e) λfd hf e=>?_
 refine oEA (fdOf_s hf) λo ho hd=>?_
 simp only [Prod.mk.injEq] at e
 exact ⟨o,fd,ho,hd,e.1,e.2.1,e.2.2.1,e.2.2.2.1,e.2.2.2.2.1,e.2.2.2.2.2,List.all_eq_true.mp (fn_k P) _ m,hf⟩
theorem Cl2 {a:Nat}{f:Fn}(h:atN fT a=some f):keepIn (KT P) (.ref a)=true:=by
 refine Ae3 (Bt8 (P:=P) h) λo fd ho hd u0=>?_
 have m:a∈clAs++fnAs:=List.mem_append_right _ (List.mem_map.mpr ⟨_,Be4 h,rfl⟩)
 unfold keepIn
 dsimp only
 refine (show (KT P).lookup a=some o from Bn0 ho m)▸?_
 obtain ⟨c,d,dt,sl⟩:=o
 dsimp only at hd
 subst hd
 rfl
theorem bind_d [X:Hid]{h:Heap}(hk:∀b o,(Hz P).get? b=some o→h.get? b=some o):True:=trivial
theorem Db0 {ps:List Str}{args:List SV}{q:List (Str×SV)}(e:fill ps [] args=some q):args.length=ps.length∧q=ps.zip args:=by
 unfold fill at e
 dsimp only at e
 cases h1:Nat.ble args.length ps.length with
 | false=>replace e:=h1▸e;exact no1 e
 | true=>
  cases h2:Nat.ble ps.length (args.length+([]:List SV).length) with
  | false=>rw [h1,h2] at e;exact no1 e
  | true=>
   rw [h1,h2] at e
   have a:=Nat.le_of_ble_eq_true h1
   have b:=Nat.le_of_ble_eq_true h2
   replace e:=A9 e;subst e
   exact ⟨Nat.le_antisymm a b,by simp⟩
theorem bind0 [X:Hid]{fd:FuncData}{f:Fn}(hp:Bb9 fd.params=true)(hdf:fd.params.defaults = [])(hd:fd.defaults = .none)(hn:fd.params.args.map (·.arg)=f.params)(nd:f.params.Nodup)(hf:f.dflt = [])
  (as:List Addr)(h:Heap)(args:List SV)(vs:List Value)(ps:List (Str×SV))(hv:VRs as h args vs)(e:fill f.params f.dflt args=some ps):
  ∃us:List Value,us.length=f.params.length∧(∀s:Shared,s.heap=h→BindsTo s fd ⟨vs,[]⟩ (f.params.zip us))∧∃l,ps=f.params.zip l∧VRs as h l us:=by
 rw [hf] at e
 obtain ⟨e1,e2⟩:=Db0 e
 refine ⟨vs,by rw [← hv.1,e1],λs u0=>BindsTo.of_eq ?_,args,e2,hv⟩
 refine hn▸?_
 refine Ca2 (by rw [Bl8 hp];simp only [hdf]) hd (by exact hn▸nd) ?_
 simp only [← hv.1,e1,← hn,List.length_map]
end
theorem t107 (P:Params):lget (Hzl P) 107=some (oT [.int 0 324,.int 0 325,.none]):=by kernel_rfl
theorem t830 (P:Params):lget (Hzl P) 830=some (oT [.none]):=by kernel_rfl
noncomputable def nmC:List Str:=["self","key","params","registers","blocks","captured","results","recovery"]
noncomputable def nmW:List Str:=["self","packages"]
@[elab_as_elim] theorem Ac9 {n:Str}{ns:List Str}{C:List Arg→Prop}{a:List Arg}(h:a.map (·.arg)=n::ns)(k:∀r x p,r.map (·.arg)=ns→C (⟨n,x,p⟩::r)):C a:=by
 cases a with
 | nil=>exact noL h
 | cons y r=>cases y with
  | mk m x p=>exact (show m=n from (Cz5 h).1)▸k r x p (Cz5 h).2
@[elab_as_elim] theorem Bv2 {C:List Arg→Prop}{a:List Arg}(h:a.map (·.arg) = [])(k:C []):C a:=by
 cases a with
 | nil=>exact k
 | cons y r=>exact noL' h
@[elab_as_elim] theorem Al5 {α:Type}{C:List α→Prop}{n m:Nat}{l:List α}(h1:n+1≤l.length)(h2:l.length≤m+1)(k:∀a r,n≤r.length→r.length≤m→C (a::r)):C l:=by
 cases l with
 | nil=>exact absurd h1 (Nat.not_succ_le_zero n)
 | cons a r=>exact k a r (Nat.le_of_succ_le_succ h1) (Nat.le_of_succ_le_succ h2)
@[elab_as_elim] theorem Bd0 {α:Type}{C:List α→Prop}{m:Nat}{l:List α}(h2:l.length≤m+1)(k0:C [])(k:∀a r,r.length≤m→C (a::r)):C l:=by
 cases l with
 | nil=>exact k0
 | cons a r=>exact k a r (Nat.le_of_succ_le_succ h2)
@[elab_as_elim] theorem Cj3 {α:Type}{C:List α→Prop}{l:List α}(h:l.length≤0)(k:C []):C l:=by
 cases l with
 | nil=>exact k
 | cons a r=>exact absurd h (Nat.not_succ_le_zero _)
theorem Az8 {T:Nat}{o:Obj}{h:Heap}(ho:h.get? T=some o):Frag.In [(T,o)] h:=λa q e=>by
 rw [List.lookup_cons] at e
 cases b:a==T with
 | true=>rw [b] at e;simp only [eq_of_beq b,← A9 e];exact ho
 | false=>rw [b] at e;exact no1 e
noncomputable def dvC:List Value:=[.int 0 324,.int 0 325,.none]
theorem bindC {s:Shared}{fd:FuncData}{args:List Arg}{dfl:List Expr}{vs:List Value}(hp:fd.params=⟨[],args,none,[],[],none,dfl⟩)(hn:args.map (·.arg)=nmC)(hd:fd.defaults = .ref 107)(ho:s.heap.get? 107=some (oT dvC))(h1:5≤vs.length)(h2:vs.length≤8):
  BindsTo s fd ⟨vs,[]⟩ (nmC.zip (vs++dvC.drop (vs.length+3-8))):=by
 obtain ⟨nm,q,p,b,sc,gl,cl,df,kd,r1,r2,r3,r4,r5,r6⟩:=fd
 dsimp only at hp hd
 subst hp hd
 refine Ac9 hn λr x p hn=>Ac9 hn λr x p hn=>Ac9 hn λr x p hn=>Ac9 hn λr x p hn=>Ac9 hn λr x p hn=>Ac9 hn λr x p hn=>Ac9 hn λr x p hn=>Ac9 hn λr x p hn=>Bv2 hn ?_
 refine Al5 h1 h2 λa l h1 h2=>Al5 h1 h2 λa l h1 h2=>Al5 h1 h2 λa l h1 h2=>Al5 h1 h2 λa l h1 h2=>Al5 h1 h2 λa l h1 h2=>?_
 exact Bd0 h2 (kp_binds (Az8 ho) λS=>by kernel_rfl) λa l h2=>Bd0 h2 (kp_binds (Az8 ho) λS=>by kernel_rfl) λa l h2=>Bd0 h2 (kp_binds (Az8 ho) λS=>by kernel_rfl) λa l h2=>Cj3 h2 (kp_binds (Az8 ho) λS=>by kernel_rfl)
theorem bindW {s:Shared}{fd:FuncData}{args:List Arg}{dfl:List Expr}{vs:List Value}(hp:fd.params=⟨[],args,none,[],[],none,dfl⟩)(hn:args.map (·.arg)=nmW)(hd:fd.defaults = .ref 830)(ho:s.heap.get? 830=some (oT [.none]))(h1:1≤vs.length)(h2:vs.length≤2):
  BindsTo s fd ⟨vs,[]⟩ (nmW.zip (vs++[Value.none].drop (vs.length+1-2))):=by
 obtain ⟨nm,q,p,b,sc,gl,cl,df,kd,r1,r2,r3,r4,r5,r6⟩:=fd
 dsimp only at hp hd
 subst hp hd
 refine Ac9 hn λr x p hn=>Ac9 hn λr x p hn=>Bv2 hn ?_
 refine Al5 h1 h2 λa l h1 h2=>?_
 exact Bd0 h2 (kp_binds (Az8 ho) λS=>by kernel_rfl) λa l h2=>Cj3 h2 (kp_binds (Az8 ho) λS=>by kernel_rfl)
theorem Bi1 {ps:List Str}{d args:List SV}{q:List (Str×SV)}(e:fill ps d args=some q):args.length≤ps.length∧ps.length≤args.length+d.length∧q=ps.zip (args++d.drop (args.length+d.length-ps.length)):=by
 unfold fill at e
 dsimp only at e
 cases h1:Nat.ble args.length ps.length with
 | false=>replace e:=h1▸e;exact no1 e
 | true=>
  cases h2:Nat.ble ps.length (args.length+d.length) with
  | false=>rw [h1,h2] at e;exact no1 e
  | true=>
   rw [h1,h2] at e
   replace e:=A9 e;subst e
   exact ⟨Nat.le_of_ble_eq_true h1,Nat.le_of_ble_eq_true h2,rfl⟩
theorem fn_ok [X:Hid](P:Params){a:Nat}{f:Fn}(h:atN fT a=some f):∃o fd,Ea7 (Hz P) a (Ap5 a f) o fd:=by
 refine Bg7 (Bt8 (P:=P) h) λo fd ho hd e1 e2 e3 e4 e5 e6 ck hfd=>?_
 unfold Dx1 at ck
 dsimp only at ck
 rw [hfd] at ck
 dsimp only at ck
 simp only [Bool.and_eq_true,Bool.not_eq_true'] at ck
 obtain ⟨⟨⟨⟨⟨⟨⟨⟨⟨c1,c2⟩,c3⟩,c4⟩,c5⟩,c6⟩,c7⟩,c8⟩,c9⟩,c10⟩:=ck
 have eb:(Ap5 a f).body=f.body∧(Ap5 a f).scope=f.scope∧(Ap5 a f).params=f.params∧(Ap5 a f).dflt=f.dflt:=by
  unfold Ap5;split<;>exact ⟨rfl,rfl,rfl,rfl⟩
 rw [e3] at c3 c4 c5 c6 c7 c9
 refine ⟨o,fd,⟨by rw [As7];exact ho,hd,by rw [e2,eb.1],e4,by rw [e3,eb.2.1],by rw [eb.2.1];exact c3,by rw [eb.2.1];exact c4,?_,?_,e5,e6,?_,?_,?_,?_,?_,?_⟩⟩
 ·refine Eq.trans (congrArg _ (eb.2.1)) ?_
  revert c5
  cases f.scope.kind<;>first | (intro _;rfl) | (intro q;exact B3 q)
 ·exact Dd7 c2
 ·rw [eb.2.1];exact Option.isNone_iff_eq_none.mp c6
 ·intro k b e
  unfold Ap5 at e
  split at e
  ·rename_i hb
   have ha:=Nat.eq_of_beq_eq_true hb
   subst ha
   cases e
   have:=lam_k P
   rw [hfd] at this
   exact Option.some.inj this
  ·have:∀x∈fT,x.2.lam=none:=by
    intro x m
    have:fT.all (λx=>x.2.lam.isNone)=true:=by kernel_rfl
    exact Option.isNone_iff_eq_none.mp (List.all_eq_true.mp this x m)
   exact no1 ((this _ (Be4 h)).symm.trans e)
 ·rw [eb.2.1];exact Cx4 c7
 ·simp only [eb.2.2.1];exact Cx4 c8
 ·exact (eb.2.1)▸Dj3 c9
 ·rw [eb.2.2.1,eb.2.2.2]
  intro as hh args vs ps hk hv e
  cases hdf:f.dflt with
  | nil=>
   rw [hdf] at c10 e
   simp only [Bool.and_eq_true] at c10
   have hdn:fd.defaults = .none:=by
    revert c10
    cases fd.defaults<;>intro q<;>first | rfl | cases q.1
   exact bind0 c1 (Cw9 c10.2) hdn e1 (Cx4 c8) hdf as hh args vs ps hv (by rw [hdf];exact e)
  | cons x y=>
   rw [hdf] at c10 e
   dsimp only at c10
   simp only [Bool.or_eq_true] at c10
   rcases c10 with q | q
   ·have ha:=Nat.eq_of_beq_eq_true q
    subst ha
    have hf:f=B0 (sub 16 0) [.int (0),.int (0),.none]:=by
     have h2:atN fT 114=some (B0 (sub 16 0) [.int (0),.int (0),.none]):=by kernel_rfl
     exact (Option.some.inj h).symm
    have hps:f.params=nmC:=by refine Eq.trans (congrArg _ hf) ?_;kernel_rfl
    have hdd:x::y = [.int 0,.int 0,.none]:=by rw [← hdf,hf];kernel_rfl
    have d:=d114 P
    rw [hfd] at d
    have d:=Option.some.inj d
    rw [hps,hdd] at e
    obtain ⟨l1,l2,rfl⟩:=Bi1 e
    have lv:=hv.1
    rw [hps]
    have dd:VRs as hh [.int 0,.int 0,.none] dvC:=VRs.cons (.int _ _) (VRs.cons (.int _ _) (VRs.cons .none VRs.nil))
    refine ⟨vs++dvC.drop (vs.length+3-8),?_,λs hs=>?_,_,rfl,VRs.append hv (by exact lv▸dd.drop _)⟩
    ·have l1':args.length≤8:=l1
     have l2':8≤args.length+3:=l2
     simp only [List.length_append,List.length_drop]
     show vs.length+(3-(vs.length+3-8))=8
     grind
    ·have l1':args.length≤8:=l1
     have l2':8≤args.length+3:=l2
     exact bindC (Bl8 c1) (e1.trans hps) d (by refine hs▸?_;exact hk _ _ (by exact t107 P)) (by lia) (by lia)
   ·have ha:=Nat.eq_of_beq_eq_true q
    subst ha
    have hf:f=B0 (sub 111 0) [.none]:=by
     have h2:atN fT 837=some (B0 (sub 111 0) [.none]):=by kernel_rfl
     exact (Option.some.inj h).symm
    have hps:f.params=nmW:=by refine Eq.trans (congrArg _ hf) ?_;kernel_rfl
    have hdd:x::y = [.none]:=by rw [← hdf,hf];kernel_rfl
    have d:=d837 P
    rw [hfd] at d
    have d:=Option.some.inj d
    rw [hps,hdd] at e
    obtain ⟨l1,l2,rfl⟩:=Bi1 e
    have lv:=hv.1
    refine hps.symm▸?_
    have dd:VRs as hh [.none] [Value.none]:=VRs.cons .none VRs.nil
    have l1':args.length≤2:=l1
    have l2':2≤args.length+1:=l2
    refine ⟨vs++[Value.none].drop (vs.length+1-2),?_,λs hs=>?_,_,rfl,VRs.append hv (by exact lv▸dd.drop _)⟩
    ·simp only [List.length_append,List.length_drop]
     show vs.length+(1-(vs.length+1-2))=2
     grind
    ·exact bindW (Bl8 c1) (e1.trans hps) d (by refine hs▸?_;exact hk _ _ (by exact t830 P)) (by lia) (by lia)
end
theorem Ch4 [X:Hid]{w:World}{h:Heap}{a:Addr}{l:List (String×Nat×Value)}{n:Nat}(e:h.get? a=some (oD w.params l n))(nd:((l.map λe=>MK.s (Str.ofString e.1))).Nodup):
  ∃kvs:List (MK×Value),h.DictOf (Aa1 w) a kvs∧kvs.map (·.1)=l.map λe=>MK.s (Str.ofString e.1):=by
 refine ⟨l.map λe=>(MK.s (Str.ofString e.1),e.2.2),⟨_,_,_,e,⟨rfl,rfl,rfl⟩,rfl,λq hq=>?_,?_,?_⟩,by exact (List.map_map)⟩
 ·rw [List.mem_toArray,List.mem_map] at hq
  obtain ⟨x,_,rfl⟩:=hq
  exact ⟨.s (Str.ofString x.1),decide_eq_true (p:=_=_) rfl,rfl⟩
 ·simp only [List.toList_toArray]
  clear e nd
  induction l with
  | nil=>exact .nil
  | cons x l ih=>exact .cons (decide_eq_true (p:=_=_) rfl) rfl ih
 ·simp only [List.map_map];exact nd
theorem Ck5 {K:Frag}{C:Nat}{n:Str}:∀{l:List (List Nat)},Ar4 K C l=true→hasS l n.cps.toList=true→findIn K (.ref C) n=some none
 | k::r,h,e=>by
  replace h:=show ((findIn K (.ref C) ⟨k.toArray⟩==some none)&&Ar4 K C r)=true from h
  simp only [Bool.and_eq_true,beq_iff_eq] at h
  replace e:=show (match Bk5 k n.cps.toList with | true=>true | false=>hasS r n.cps.toList)=true from e
  cases q:Bk5 k n.cps.toList with
  | true=>
   have:n=⟨k.toArray⟩:=by
    rw [Ao8.mp q]
   refine Eq.trans (congrArg _ this) ?_;exact h.1
  | false=>replace e:=q▸e;exact Ck5 h.2 e
theorem Co2 {K:Frag}{C:Nat}{l:List (List Nat)}:∀{t:List (Nat×List (List Nat))},Bd9 K t=true→atN t C=some l→Bj1 K C=true∧Ar4 K C l=true
 | (C',l')::r,h,e=>by
  replace h:=show (Bj1 K C'&&Ar4 K C' l'&&Bd9 K r)=true from h
  simp only [Bool.and_eq_true] at h
  replace e:=show (match Nat.beq C' C with | true=>some l' | false=>atN r C)=some l from e
  cases q:Nat.beq C' C with
  | true=>rw [q] at e;(replace e:=A9 e;subst e);exact (Nat.eq_of_beq_eq_true q)▸h.1
  | false=>replace e:=q▸e;exact Co2 h.2 e
theorem Ci9 {K:Frag}{C f:Nat}{n:Str}:∀{t:List (Nat×List Nat×Nat)},Bd8 K t=true→atM t C n.cps.toList=some f→plainGet K C n=true∧findIn K (.ref C) n=some (some (.ref f))∧typeIn K (.ref f)=some (.type "function")∧fnIn K f=true
 | (C',k,f')::r,h,e=>by
  replace h:=show (plainGet K C' Str.empty&&(findIn K (.ref C') ⟨k.toArray⟩==some (some (.ref f')))&&(typeIn K (.ref f')==some (.type "function"))&&fnIn K f'&&Bd8 K r)=true from h
  simp only [Bool.and_eq_true,beq_iff_eq] at h
  replace e:=show (match Nat.beq C' C with | true=>(match Bk5 k n.cps.toList with | true=>some f' | false=>atM r C n.cps.toList) | false=>atM r C n.cps.toList)=some f from e
  cases q:Nat.beq C' C with
  | true=>
   rw [q] at e
   dsimp only at e
   cases q2:Bk5 k n.cps.toList with
   | true=>
    rw [q2] at e;cases e
    have:n=⟨k.toArray⟩:=by
     rw [Ao8.mp q2]
    rw [this,← Nat.eq_of_beq_eq_true q]
    exact ⟨h.1.1.1.1,h.1.1.1.2,h.1.1.2,h.1.2⟩
   | false=>rw [q2] at e;exact Ci9 h.2 e
  | false=>rw [q] at e;exact Ci9 h.2 e
theorem sums_s {l:List Nat}{a:Nat}(h:Aj9 l=true)(m:memN l a=true):∃f,atN fT a=some f:=by
 induction l with
 | nil=>exact B3 m
 | cons b l ih=>
  unfold Aj9 at h
  replace m:=show (match Nat.beq b a with | true=>true | false=>memN l a)=true from m
  cases q:atN fT b with
  | none=>replace h:=q▸h;cases h
  | some f=>
   rw [q] at h
   cases q2:Nat.beq b a with
   | true=>exact (Nat.eq_of_beq_eq_true q2)▸⟨f,q⟩
   | false=>rw [q2] at m;exact ih h m
theorem gok (w:World)(sums:List Nat)(asks deep:Bool)(hs:Aj9 sums=true)(X:Hid)(hX:Ba9 X (Hz w.params)):@GOk X w (topG sums asks deep) (KT w.params) (Hz w.params) ((Hz w.params).nsMap mainGlobals) ((Hz w.params).nsMap builtinsNs):=by
 have ns:=isNs_k w.params
 simp only [Prod.mk.injEq] at ns
 obtain ⟨n1,n2,n3,n4⟩:=ns
 refine {
  tab:=⟨?_,λt ks e=>?_⟩
  kin:=KT_in
  lim:=⟨_,.of_isNs n3,n4⟩
  ns:=.of_isNs n1
  nb:=.of_isNs n2
  glob:=λn v e=>?_
  blt:=λn v e e'=>?_
  free:=λC n e=>?_
  meth:=λC n f e=>Ci9 (meth_k _) e
  fn:=λa f e=>?_
  sum:=λa e=>let ⟨f,h⟩:=sums_s hs e;Cl2 h
  cls:=λa e=>?_
  code:=λa P e=>?_}
 ·obtain ⟨o,h⟩:=Option.isSome_iff_exists.mp (big_k w.params)
  exact ⟨o,by exact h⟩
 ·change atN tT t=some ks at e
  unfold atN tT at e
  dsimp only at e
  cases q:Nat.beq 6 t with
  | true=>
   replace e:=q▸e;(replace e:=A9 e;subst e)
   refine (Nat.eq_of_beq_eq_true q)▸?_
   exact ⟨by decide,Ch4 (l:=[]) (n:=0) (by exact tab_6 w.params) List.nodup_nil⟩
  | false=>
   replace e:=q▸e
   dsimp only [atN] at e
   cases q:Nat.beq 712 t with
   | true=>
    replace e:=q▸e;cases e
    rw [← Nat.eq_of_beq_eq_true q]
    exact ⟨by decide,Ch4 (by rw [As7];exact Dm8 w.params) (by decide)⟩
   | false=>rw [q] at e;exact no1 e
 ·refine oEA (Bo8 (glob_k w.params) e) λu hu hc=>?_
  exact ⟨u,by refine Eq.trans (show (Hz w.params).nsMap mainGlobals n=_ from Bc3 _ _ _ _) ?_;exact hu,Dj4 hX _ _ _ hc⟩
 ·refine oEA (Bo8 (blt_k w.params) e') λu hu hc=>?_
  exact ⟨by refine Eq.trans (show (Hz w.params).nsMap mainGlobals n=_ from Bc3 _ _ _ _) ?_;exact Br8 (blt_n w.params) e',u,by refine Eq.trans (show (Hz w.params).nsMap builtinsNs n=_ from Bc3 _ _ _ _) ?_;exact hu,Dj4 hX _ _ _ hc⟩
 ·have e:(match atN aT C with | some l=>hasS l n.cps.toList | none=>false)=true:=e
  cases q:atN aT C with
  | none=>replace e:=q▸e;exact B3 e
  | some l=>
   rw [q] at e
   obtain ⟨c1,c2⟩:=Co2 (cls_k w.params) q
   have f:=Ck5 c2 e
   simp only [Bj1,Bool.and_eq_true,beq_iff_eq] at c1
   obtain ⟨⟨⟨⟨⟨a1,a2⟩,a3⟩,a4⟩,a5⟩,a6⟩:=c1
   exact ⟨a1,a2,⟨none,f,rfl⟩,a3,a4,by unfold takerIn;refine f.symm▸?_;rfl⟩
 ·have e:(match atN fT a with | some f=>some (Ap5 a f) | none=>none)=some f:=e
  cases q:atN fT a with
  | none=>replace e:=q▸e;exact no1 e
  | some f'=>replace e:=q▸e;cases e;exact ⟨Cl2 q,fn_ok _ q⟩
 ·have e:(match atN aT a with | some _=>true | none=>false)=true:=e
  cases q:atN aT a with
  | none=>replace e:=q▸e;exact B3 e
  | some l=>
   obtain ⟨c1,c2⟩:=Co2 (cls_k w.params) q
   simp only [Bj1,Bool.and_eq_true,beq_iff_eq] at c1
   obtain ⟨⟨⟨⟨⟨a1,a2⟩,a3⟩,a4⟩,a5⟩,a6⟩:=c1
   exact ⟨a5,a6⟩
 ·have e:(match Nat.beq a 167 with | true=>some 163 | false=>none)=some P:=e
  cases q:Nat.beq a 167 with
  | false=>rw [q] at e;exact no1 e
  | true=>
   replace e:=q▸e;cases e
   refine (Nat.eq_of_beq_eq_true q)▸?_
   refine ⟨⟨_,_,Du3,415,3,0,true,181,0,by rw [As7];exact Bu5 _,rfl,rfl,rfl,rfl,rfl,rfl,rfl,rfl,by decide⟩,⟨4,_,?_,by decide,by decide,by decide,by rw [As7];exact mod_4 _,rfl,rfl,rfl⟩,by rw [As7];exact Bl2 _⟩
   exact bm_k _
theorem base (w:World):B4 w (Hz w.params):=⟨λsums asks deep hs=>⟨_,_,_,λY hY=>gok w sums asks deep hs Y hY⟩⟩
noncomputable def Ac3:Program:=view pwH [143]
def Af8:List Str:=((gE.drop 9).map λe=>Str.ofString e.1).filter λn=>n != Str.ofString "law"
theorem t_open:∀w:World,(fencedOpening treeTable pwH w 20000).map (λs=>(s.heap,s.gens,s.drawn,s.toks))=some (boot_heap w.params,Array.mk [],boot_drawn,boot_toks):=
 boot_open (by kernel_rfl) (by decide) (λs=>by kernel_rfl)
theorem t_size (w:World):((boot_heap w.params).isNs mainGlobals&&(Array.mk []:Array GenState).size==0,(boot_heap w.params).objs.size,(boot_heap w.params).nsMap mainGlobals "__annotations__")=(true,11,Dz8):=by kernel_rfl
theorem look_a (w:World):(λos=>staticsOk (importedModules pwH.main.body) (boot_heap w.params) (H1 w.params)&&namesBound pwH (H1 w.params)&&gensDone (sZ w os)&&laidKept (boot_heap w.params) (H1 w.params))=λu0=>true:=by kernel_rfl
abbrev sZ0 (w:World):OsState→Shared:=λos=>sZ w os
noncomputable abbrev modsL:List Str:=importedModules pwH.main.body
theorem look_1 (w:World):(λos=>seen ((recsOf Ac3).map (·.name)) (ownsOf Ac3) [] {sZ w os with gens:=#[]})=λu0=>expectedOf Ac3:=by kernel_rfl
theorem look_2 (w:World):(H1 w.params).bltView=bltViewBooted:=by kernel_rfl
theorem Dr8 (w:World):(H1 w.params).keysOk (looseW Ac3 Af8) ((recsOf Ac3).map (·.name)) ((litsOf Ac3).map (·.1)) ((clssOf Ac3 (looseW Ac3 Af8)).map (·.name))=true:=by kernel_rfl
theorem Dr7 (w:World):(H1 w.params).accountedOkI modsL&&(H1 w.params).isNs mainGlobals&&(H1 w.params).isNs builtinsNs&&tablesOk Ac3 (H1 w.params)=true:=by kernel_rfl
theorem look_4 (w:World):(λos=>tabsOk Ac3 (sZ w os))=λu0=>true:=by kernel_rfl
theorem look_5 (w:World):(λos=>pinSeenD Ac3 (drecsOf Ac3) (sZ w os))=λu0=>pinGoodD (drecsOf Ac3):=by kernel_rfl
theorem look_6 (w:World):(λos=>plainSeenE Ac3 (looseW Ac3 Af8) (sZ w os))=λu0=>plainGoodE Ac3 (looseW Ac3 Af8):=by kernel_rfl
theorem look_7 (w:World):(λos=>plainSeenD Ac3 Af8 (sZ w os))=λu0=>plainGoodD Ac3 Af8:=by kernel_rfl
theorem look_8 (w:World):(λos=>wideSeen Ac3 (sZ w os))=λu0=>wideGood Ac3:=by kernel_rfl
theorem look_9 (w:World):(λos=>clsSeenW Ac3 Af8 (sZ w os))=λu0=>clsGoodW Ac3 Af8:=by kernel_rfl
theorem Ah1 {α β:Type}{a a':α}{b b':β}(h:a=a')(k:b=b'):(a,b)=(a',b'):=by simp only [h,k]
theorem looks (w:World):(λos=>((staticsOk (importedModules pwH.main.body) (boot_heap w.params) (H1 w.params)&&namesBound pwH (H1 w.params)&&gensDone (sZ w os)&&laidKept (boot_heap w.params) (H1 w.params)),
  openSeen Ac3 Af8 (importedModules pwH.main.body) (λu0=>true) true (sZ w os),(sZ w os).heap))=λu0=>(true,openGood Ac3 Af8,H1 w.params):=by
 funext os
 have h3:((H1 w.params).keysOk (looseW Ac3 Af8) ((recsOf Ac3).map (·.name)) ((litsOf Ac3).map (·.1)) ((clssOf Ac3 (looseW Ac3 Af8)).map (·.name))&&(H1 w.params).accountedOkI modsL&&(H1 w.params).isNs mainGlobals&&(H1 w.params).isNs builtinsNs&&tablesOk Ac3 (H1 w.params)&&true&&true)=true:=by
  have h:=Dr7 w
  simp only [Bool.and_eq_true] at h ⊢
  exact ⟨⟨⟨⟨⟨⟨Dr8 w,h.1.1.1⟩,h.1.1.2⟩,h.1.2⟩,h.2⟩,trivial⟩,trivial⟩
 have a1:=congrFun (look_a w) os
 have b1:=congrFun (look_1 w) os
 have b4:=congrFun (look_4 w) os
 have b5:=congrFun (look_5 w) os
 have b6:=congrFun (look_6 w) os
 have b7:=congrFun (look_7 w) os
 have b8:=congrFun (look_8 w) os
 have b9:=congrFun (look_9 w) os
 dsimp only at a1 b1 b4 b5 b6 b7 b8 b9
 refine Ah1 a1 (Ah1 ?_ rfl)
 refine Ah1 b1 (Ah1 (look_2 w) (Ah1 h3 (Ah1 b4 (Ah1 b5 (Ah1 b6 (Ah1 b7 (Ah1 b8 b9)))))))
theorem left_:LeftO pwH Ac3 Af8 (λu0=>true) (λs=>s.heap) (λw=>H1 w.params) 20000:=
 LeftO.of_pieces (M:=12+(1+(1200+(1000+(2000+(2000+(100+(2000+(2000+2))))))))) t_open t_size t_run rfl looks
section
set_option tactic.hygienic true
noncomputable abbrev Cr0:OpenRow:=PySem.Challenge.rw_zu0006_03.row
theorem law_at (P:Params):(Hz P).nsMap mainGlobals "law"=some (.ref 1041):=by kernel_rfl
theorem t163 (P:Params):lget (hp7_ P) 163=some (tabObj #[]):=by kernel_rfl
noncomputable def Bc4 (o:Obj):Bool:=match o.cls with
 | .type n=>!decide (n = "list")
 | _=>true
noncomputable def Bm2:List Obj→Bool
 | []=>true
 | o::l=>Bc4 o&&Bm2 l
theorem Cw8 (P:Params):Bm2 (hp7_ P)=true:=by kernel_rfl
theorem Az3:∀{l:List Obj} {k:Nat} {o:Obj},Bm2 l=true→l[k]?=some o→Bc4 o=true
 | [],k,o,h,e=>by simp at e
 | o'::l,k,o,h,e=>by
  obtain ⟨h1,h2⟩:=Bool.and_eq_true_iff.mp h
  cases k with
  | zero=>(replace e:=A9 e;subst e);exact h1
  | succ k=>exact Az3 h2 (by exact e)
theorem Cj2 {l:List Obj}{a:Nat}{o:Obj}(h:lget l a=some o):l[a]?=some o:=by
 unfold lget at h
 rw [at?_eq] at h
 refine oEA (Option.bind_eq_some_iff.mp h) λo' h1 h2=>?_
 cases hf:Di6 o'.data with
 | true=>rw [hf] at h2;exact no1 h2
 | false=>rw [hf] at h2;exact h1.trans h2
theorem Hz_h1 (P:Params){a:Addr}{o:Obj}(h:(Hz P).get? a=some o):a≠163∧(H1 P).get? a=some o∧Bc4 o=true:=by
 have n:a≠163:=λq=>by
  simp only [q,As7,Bl2] at h;exact no1 h
 rw [As7] at h
 have e:lget (Hzl P) a=lget (hp7_ P) a:=by
  unfold lget Hzl
  simp only [at?_eq,at?_eq,Bq8,List.getElem?_set_ne (Ne.symm n)]
 rw [e] at h
 exact ⟨n,(hget _ _ a).trans h,Az3 (Cw8 P) (Cj2 h)⟩
theorem get_h1 (P:Params):(H1 P).get? 163=some (tabObj #[]):=(hget _ _ 163).trans (t163 P)
theorem Dt8 (P:Params):∃o vs,(Hz P).get? 167=some o∧o.cls = .type "code"∧o.data = .fields vs∧vs[11]?=some (.ref 163):=⟨_,_,by exact Bu5 P,rfl,rfl,rfl⟩
def YPz (w:World)(h:Heap):Prop:=∀a o,(H1 w.params).get? a=some o→h.get? a=some o
theorem Cr8 {P:Params}{h:Heap}{vs:List Value}{xs:List WData}(x:WellAll P h vs xs):vs.length=xs.length:=by
 induction xs generalizing vs with
 | nil=>cases x;rfl
 | cons d ds ih=>exact (wellAll_cons_inv x).elim λv q=>q.elim λvs' q=>q.1▸congrArg (· + 1) (ih q.2.2)
theorem len_of {xs:List WData}(h:WTm.holds [] (.and (.not (.lt (.lit (.int 63)) (.len (.arg 0)))) (.lit (.bool true))) {args:=[.list xs]}=true):xs.length≤63:=by
 replace h:=show WTm.holds [] (.and (.not (.lit (.bool (decide ((63:Int)<(xs.length:Int)))))) (.lit (.bool true))) {args:=[]}=true from h
 cases d:decide ((63:Int)<(xs.length:Int)) with
 | true=>replace h:=d▸h;exact B3 h
 | false=>exact Int.ofNat_le.mp (Int.not_lt.mp (of_decide_eq_false d))
theorem Ds0 {w:World}{h:Heap}{la:Addr}{vs:List Value}{xs:List WData}(hi:WShape.hasItems [] xs .int=true)(hl:xs.length≤63)(hg:h.get? la=some ⟨.type "list",none,.seq vs.toArray 0,#[]⟩)(hw:WellAll w.params h vs xs):
  ∃la' ob,[Value.ref la] = [.ref la']∧h.get? la'=some ob∧ob.cls = .type "list"∧(∃o,ScO o∧(∀(X:Hid) as,@OR X w as h o la')∧∀(X:Hid) as h',@OR X w as h' o la'→h'.get? la'=some ob):=by
 refine ⟨la,_,rfl,hg,rfl,?_⟩
 cases hw with
 | nil=>exact ⟨.lst0 .none 0 63 _,.inl ⟨_,rfl⟩,λX as=>⟨Nat.zero_le _,hg,[],0,rfl,rfl,λv ws q=>nomatch q⟩,λX as h' o=>o.2.1⟩
 | @cons v vs d ds hv hw=>
  cases d with
  | int c=>
   cases hv with
   | int _ t=>
    exact ⟨.lst0 (.int c) (vs.length+1) 63 _,.inr ⟨c,vs.length,_,rfl⟩,λX as=>⟨(Cr8 hw)▸hl,hg,.int c t::vs,0,rfl,rfl,λv' ws q=>(Cz5 q).1▸.int _ t⟩,λX as h' o=>o.2.1⟩
  | _=>exact B3 hi
theorem Cw2 {args:List WData}(hsh:WShape.hasAll [] args [.list .int]=true):∃xs,args = [.list xs]∧WShape.hasItems [] xs .int=true:=by
 cases args with
 | nil=>exact B3 hsh
 | cons x l=>
  replace hsh:=Bool.and_eq_true_iff.mp (show (WShape.has [] x (.list .int)&&WShape.hasAll [] l [])=true from hsh)
  cases l with
  | cons y l=>exact B3 hsh.2
  | nil=>
   replace hsh:=hsh.1
   cases x with
   | list xs=>exact ⟨xs,rfl,(Bool.or_false _).symm.trans hsh⟩
   | _=>exact B3 hsh
theorem Cw1 {P:Params}{h:Heap}{vals:List Value}{xs:List WData}(x:WellAll P h vals [.list xs]):∃la vs,vals = [.ref la]∧h.get? la=some ⟨.type "list",none,.seq (List.toArray vs) 0,#[]⟩∧WellAll P h vs xs:=by
 cases x with
 | cons hv hn=>
  cases hn
  cases hv with
  | list hg hw=>exact ⟨_,_,rfl,hg,hw⟩
theorem arg_of {w:World}{h:Heap}{args:List WData}{vals:List Value}(hpre:Cr0.toRowW.claim.pre args=true)(hwl:WellAll w.params h vals args):
  ∃la ob,vals = [.ref la]∧h.get? la=some ob∧ob.cls = .type "list"∧(∃o,ScO o∧(∀(X:Hid) as,@OR X w as h o la)∧∀(X:Hid) as h',@OR X w as h' o la→h'.get? la=some ob):=by
 refine oA (pre_splitW hpre) λhsh hpc=>?_
 refine oEA (Cw2 hsh) λxs z1 hi=>?_;subst z1
 obtain ⟨la,vs,rfl,hg,hw⟩:=Cw1 hwl
 exact Ds0 hi (len_of hpc) hg hw
def hid0:Hid:=⟨[]⟩
theorem Dp7 (args:List WData):Cr0.toRowW.claim.post args (.bool true) args=true:=by
 refine Bool.and_eq_true_iff.mpr ⟨rfl,?_⟩
 show WTm.holds [] (.lit (.bool (W.same (.bool true) (.bool true)))) {args:=[]}=true
 rw [show W.same (.bool true) (.bool true)=true from by simp [W.same]]
 rfl
theorem walk {d:DefRec}{kwd:List (Str×Expr)}(hd:d.name = "law"):WalkO Ac3 Af8 (λu0 u0=>True) YPz Cr0.toRowW d kwd λf vs=>PySem.call f vs:=by
 intro w s₀ s₁ mg mb G Y a o pm cd doc dV kV hget hdata hcode hDf hmg hgens args vals as hpre hlay hrd hwl hlo
 letI:Hid:=hid0
 refine Ch2 (arg_of hpre hwl) λla ob z2 hla hcl sc hsc hor hex=>?_;subst z2
 have keep:∀b q,(Hz w.params).get? b=some q→s₁.heap.get? b=some q:=λb q e=>Y b q (Hz_h1 _ e).2.1
 have h163:s₁.heap.get? 163=some (tabObj #[]):=Y _ _ (get_h1 _)
 have ha:a=1041:=by
  have n1:=(gok w [] false false rfl hid0 (λu0 h=>nomatch h)).ns.keeps keep
  have:=n1.agree G.T.g "law"
  rw [law_at,← hd,hmg] at this
  cases this;rfl
 subst ha
 have hne:la≠163:=λq=>by
  simp only [q,h163] at hla;cases hla;exact PySem.Value.noConfusion hcl
 have C:=@law_ok w _ (base w) sc hsc
 have hr:HR w (Hz w.params) [163,la] [.tab 163,sc] s₁.heap:={
  len:=rfl
  nd:=by simp [Ne.symm hne]
  lo:=λb m=>by
   rcases List.mem_cons.mp m with e | m
   ·rw [e,As7];exact Bl2 _
   ·rw [List.mem_singleton.mp m]
    cases q:(Hz w.params).get? la with
    | none=>rfl
    | some x=>
     have:=(Hz_h1 _ q).2.2
     replace hla:=(keep _ _ q).symm.trans hla;cases hla
     unfold Bc4 at this
     replace this:=hcl▸this;exact B3 this
  base:=keep
  at_:=λk x e=>by
   match k with
   | 0=>cases e;exact ⟨163,rfl,rfl,#[],h163,trivial⟩
   | 1=>(replace e:=A9 e;subst e);exact ⟨la,rfl,hor _ _⟩
   | k+2=>simp at e
  hid:=λu0 h=>nomatch h}
 refine C hid0 callerA [163,la] s₁ [.ref la] ⟨rfl,by decide,by decide⟩ hr (VRs.cons (.loc _ _ rfl) VRs.nil) _ _ λas' h' tk b hr' S vb=>?_
 cases vb
 obtain ⟨ns,e1,_⟩:=S.ext
 have e2:as' = [163,la]:=by
  have l:=hr'.len
  rw [e1] at l ⊢
  cases ns with
  | nil=>rfl
  | cons x ns=>simp at l
 have q0:∃ps,h'.get? 163=some (tabObj ps):=by
  obtain ⟨x,ex,q,ps,hp,_⟩:=hr'.at_ 0 _ rfl
  replace hp:=q▸hp;exact ⟨ps,hp⟩
 have q1:h'.get? la=some ob:=by
  obtain ⟨x,ex,q⟩:=hr'.at_ 1 _ rfl
  rw [e2] at ex;(replace ex:=A9 ex;subst ex)
  exact hex _ _ _ q
 refine ⟨.inl ⟨.bool true,.bool true,[],rfl,λu0=>rfl,.bool true,Dp7 args,λu0=>⟨List.nodup_nil,λu0 h=>nomatch h⟩⟩,⟨λx y e=>?_,λx y e=>S.live x y e⟩,rfl,by simp only [hgens];exact .empty⟩
 by_cases n1:x=163
 ·subst n1
  replace e:=h163.symm.trans e;cases e
  obtain ⟨ps,hp⟩:=q0
  refine oEEAAA (Dt8 w.params) λo vs g1 g2 g3 g4=>?_
  exact .inr (.inl ⟨⟨167,o,vs,keep _ _ g1,g2,g3,g4⟩,rfl,#[],ps,rfl,by rw [hp,Array.empty_append]⟩)
 ·by_cases n2:x=la
  ·subst n2;rw [hla] at e;(replace e:=A9 e;subst e);exact .inl q1
  ·exact .inl (S.keep x y e (by simp [n1,n2]) λh=>no1 h)
end
theorem Cb9 {α:Type}(A:TablesWhole.Alg α)(h1:∀x,A.both A.unit x=x)(h2:∀x y z,A.both (A.both x y) z=A.both x (A.both y z))(top:Scope)(cx:TablesWhole.Ctx)(sc:Scope)(b:List Stmt)(a:List Stmt):
  TablesWhole.wSs A top cx sc (a++b)=A.both (TablesWhole.wSs A top cx sc a) (TablesWhole.wSs A top cx sc b):=by
 induction a with
 | nil=>exact (h1 _).symm
 | cons s a ih=>
  show A.both (TablesWhole.wS A top cx sc s) (TablesWhole.wSs A top cx sc (a++b))=A.both (A.both (TablesWhole.wS A top cx sc s) (TablesWhole.wSs A top cx sc a)) _
  rw [ih,h2]
abbrev mS:Scope:=PySem.Challenge.pw_zu0006_03.main.scope
noncomputable abbrev mD (k:Nat):List Stmt:=PySem.Challenge.pw_zu0006_03.main.body.drop k
noncomputable def wH (l:List Stmt):Bool:=TablesWhole.wSs TablesWhole.holds mS ⟨mS,[],[],[],none⟩ mS l
noncomputable def wG (l:List Stmt):List Str:=TablesWhole.wSs TablesWhole.gather mS ⟨mS,[],[],[],none⟩ mS l
def wB (k:Nat):Prop:=wH (mD k)=true∧wG (mD k) = []
theorem Bb2 {k:Nat}(n:Nat)(h:wH ((mD k).take n)=true)(g:wG ((mD k).take n) = [])(r:wB (k+n)):wB k:=by
 have e:mD k=(mD k).take n++mD (k+n):=(List.take_append_drop n (mD k)).symm.trans (congrArg ((mD k).take n++·) List.drop_drop)
 unfold wB
 rw [e]
 refine ⟨?_,?_⟩
 ·refine (Cb9 TablesWhole.holds (λ_=>rfl) Bool.and_assoc mS _ mS _ _).trans ?_
  exact Bool.and_eq_true_iff.mpr ⟨h,r.1⟩
 ·refine (Cb9 TablesWhole.gather (λ_=>rfl) List.append_assoc mS _ mS _ _).trans ?_
  show wG _++wG _ = []
  rw [g,r.2];rfl
theorem w9:wB 128:=Bb2 16 (by kernel_rfl) (by kernel_rfl) ⟨by kernel_rfl,by kernel_rfl⟩
theorem w8:wB 112:=Bb2 16 (by kernel_rfl) (by kernel_rfl) w9
theorem w7:wB 96:=Bb2 16 (by kernel_rfl) (by kernel_rfl) w8
theorem w6:wB 80:=Bb2 16 (by kernel_rfl) (by kernel_rfl) w7
theorem w5:wB 64:=Bb2 16 (by kernel_rfl) (by kernel_rfl) w6
theorem w4:wB 48:=Bb2 16 (by kernel_rfl) (by kernel_rfl) w5
theorem w3:wB 32:=Bb2 16 (by kernel_rfl) (by kernel_rfl) w4
theorem w2:wB 16:=Bb2 16 (by kernel_rfl) (by kernel_rfl) w3
theorem w1:wB 0:=Bb2 16 (by kernel_rfl) (by kernel_rfl) w2
theorem mod_of {m:Module}(h:TablesWhole.noTwice m.scope=true)(g:TablesWhole.wSs TablesWhole.gather m.scope ⟨m.scope,[],[],[],none⟩ m.scope m.body = [])(a:TablesWhole.wSs TablesWhole.holds m.scope ⟨m.scope,[],[],[],none⟩ m.scope m.body=true):
  TablesWhole.wModule TablesWhole.holds m=true:=by
 show (true&&(TablesWhole.noTwice m.scope&&(TablesWhole.wSs TablesWhole.holds m.scope ⟨m.scope,[],TablesWhole.wSs TablesWhole.gather m.scope ⟨m.scope,[],[],[],none⟩ m.scope m.body,[],none⟩ m.scope m.body&&true)))=true
 rw [g,a,h];rfl
theorem Dp4 {p:Program}(h:TablesWhole.wModule TablesWhole.holds p.main=true)(h1:p.modules = [])(h2:p.parses = [])(h3:p.harvested = []):p.tablesWhole=true:=by
 unfold Program.tablesWhole TablesWhole.wProgram
 rw [h,h1,h2,h3];rfl
theorem tab_k:Cr0.prog.tablesWhole=true:=Dp4 (p:=PySem.Challenge.pw_zu0006_03) (mod_of (by kernel_rfl) w1.2 w1.1) rfl rfl rfl
abbrev rwZ:OpenLaw:=PySem.Challenge.rw_zu0006_03
abbrev pwZ:Program:=PySem.Challenge.pw_zu0006_03
abbrev bdZ:List Stmt:=pwZ.main.body
theorem said_1:(importedModules bdZ).all cThrough.contains=true:=by kernel_rfl
theorem said_a:readsOut pwZ bdZ "vars"=false:=by kernel_rfl
theorem said_b:readsOut pwZ bdZ "dir"=false:=by kernel_rfl
theorem said_c:readsOut pwZ bdZ "locals"=false:=by kernel_rfl
theorem Ce3 {p:Str→Bool}{x:Str}{l:List Str}(h:p x=false)(k:l.filter p = []):(x::l).filter p = []:=by rw [List.filter,h,k]
theorem said_2:((["vars","dir","locals"]:List Str).filter (readsOut pwZ bdZ)) = []:=Ce3 said_a (Ce3 said_b (Ce3 said_c rfl))
theorem said_3:noRoadLSs {strict:=false,foot:=none,bare:=[]} bdZ=true:=by kernel_rfl
theorem said_4:noRoadLSs {strict:=!(importedModules bdZ).all cThrough.contains,foot:=none,bare:=(["vars","dir","locals"]:List Str).filter (readsOut pwZ bdZ)} bdZ=true:=by rw [said_1,said_2];exact said_3
theorem said_d:namesResolve pwZ=true:=by kernel_rfl
theorem said_e:(namesMeet pwZ bdZ λ_ n=>attrL n)=true:=by kernel_rfl
theorem said_5:looksOpen rwZ.row.prog=true:=look_both (look_both (look_both (look_both (look_both (by kernel_rfl) (by kernel_rfl)) said_d) (by kernel_rfl)) said_4) said_e
theorem said_6:rwZ.row.partSaid=true:=by
 unfold OpenRow.partSaid
 rw [said_5]
 kernel_rfl
theorem said_7:rwZ.row.wellSaid=true:=look_both (look_both said_6 (by kernel_rfl)) (by kernel_rfl)
theorem said_f:(namesMeet rwZ.prog rwZ.above λ_ n=>!rwZ.own.contains n)=true:=by kernel_rfl
theorem said_g:(rwZ.bound'.all λn=>!builtinNamed n||rwZ.about == [n] || !rwZ.reads n)=true:=by kernel_rfl
theorem said_h:noRoadLSs {strict:=true,foot:=some rwZ.bound',writes:=rwZ.writes,may:=rwZ.may} rwZ.footing=true:=by kernel_rfl
theorem said_k:rwZ.wellSaid=true:=by
 refine look_both (look_both ?_ said_f) (by kernel_rfl)
 iterate 6 (refine look_both ?_ (by kernel_rfl))
 refine look_both ?_ said_g
 iterate 3 (refine look_both ?_ (by kernel_rfl))
 refine look_both ?_ said_h
 iterate 5 (refine look_both ?_ (by kernel_rfl))
 exact said_7
theorem def_k:∃d kwd,defOf Ac3 "law"=some (d,kwd)∧d.name = "law"∧PySem.Challenge.pw_zu0006_03.theDef "law"=some (d.params,d.body,d.scope)∧kwWritten? d.params.kwonlyargs d.params.kw_defaults=some kwd:=⟨_,_,rfl,rfl,rfl,rfl⟩
theorem ok_k:(chainsOk Ac3&&opensWell Cr0.prog&&(frees Cr0.toRowW&&Cr0.within.isEmpty))=true:=by decide +kernel
theorem bare_k:Cr0.prog.bare:=⟨rfl,rfl,rfl,rfl,rfl,tab_k⟩
theorem prom_k:Cr0.toRowW.promised:=⟨[.list []],by decide +kernel,by decide +kernel⟩
theorem law_holds:PySem.Challenge.rw_zu0006_03.Holds:=holds_law said_k λsaid=>by
 obtain ⟨d,kwd,h1,h2,h3,h4⟩:=def_k
 exact holds_open (r:=Cr0) (q:=Ac3) (loose:=Af8) (Xt:=λu0=>true) (XP:=λu0 u0=>True) (Yf:=λs=>s.heap) (Ya:=λw=>H1 w.params) (YP:=YPz) (N:=20000) left_
  (λw s e a o q=>by rw [show s.heap=H1 w.params from e];exact q) (λw h h' y k a o q=>k a o (y a o q)) (λu0 u0=>trivial) (λu0 u0 u0 u0 u0=>trivial) h1 h3 h4 (λs u0=>recFacts_of rfl) rfl said ok_k bare_k prom_k (walk h2)
end Mine
end
theorem PySem.Challenge.cw_zu0006_03_holds : PySem.Challenge.rw_zu0006_03.Holds := by
  exact Mine.law_holds
