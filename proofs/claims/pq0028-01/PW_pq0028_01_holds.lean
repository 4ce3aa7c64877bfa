import PyProof.Rows.All
import Wide.All
import OpenK.AllK
import Wide.FinOn
import KE.KDictSum
import KE.KDictOf
import PyProof.EnumMake
import PyProof.ExcBaseAll.Exception
import PyProof.InstStoreFacts
import KE.KSuper
import PyProof.ExcArgs
import PySem.Challenge.RW_pq0028_01
set_option Elab.async false
set_option genSizeOf false
set_option genCtorIdx false
set_option genInjectivity false
set_option tactic.hygienic false
set_option bootstrap.genMatcherCode false
set_option autoImplicit false
set_option maxRecDepth 100000
set_option maxHeartbeats 0
set_option linter.unusedVariables false
noncomputable section
section
namespace Mine
theorem ea01{p0 p1:Prop}{G:Prop}(h:p0∧p1)(k:p0→p1→G):G:=k h.1 h.2
theorem ea02{p0 p1 p2:Prop}{G:Prop}(h:p0∧p1∧p2)(k:p0→p1→p2→G):G:=ea01 h fun h0 h1=>k h0 h1.1 h1.2
theorem ea03{p0 p1 p2 p3:Prop}{G:Prop}(h:p0∧p1∧p2∧p3)(k:p0→p1→p2→p3→G):G:=ea02 h fun h0 h1 h2=>k h0 h1 h2.1 h2.2
theorem ea04{p0 p1 p2 p3 p4:Prop}{G:Prop}(h:p0∧p1∧p2∧p3∧p4)(k:p0→p1→p2→p3→p4→G):G:=ea03 h fun h0 h1 h2 h3=>k h0 h1 h2 h3.1 h3.2
theorem ea05{p0 p1 p2 p3 p4 p5:Prop}{G:Prop}(h:p0∧p1∧p2∧p3∧p4∧p5)(k:p0→p1→p2→p3→p4→p5→G):G:=ea04 h fun h0 h1 h2 h3 h4=>k h0 h1 h2 h3 h4.1 h4.2
theorem ea10{α0:Type _}{p0:α0→Prop}{G:Prop}(h:∃x0,p0 x0)(k:∀x0,p0 x0→G):G:=Exists.elim h k
theorem ea11{α0:Type _}{p0 p1:α0→Prop}{G:Prop}(h:∃x0,p0 x0∧p1 x0)(k:∀x0,p0 x0→p1 x0→G):G:=ea10 h fun x0 h0=>k x0 h0.1 h0.2
theorem ea12{α0:Type _}{p0 p1 p2:α0→Prop}{G:Prop}(h:∃x0,p0 x0∧p1 x0∧p2 x0)(k:∀x0,p0 x0→p1 x0→p2 x0→G):G:=ea11 h fun x0 h0 h1=>k x0 h0 h1.1 h1.2
theorem ea13{α0:Type _}{p0 p1 p2 p3:α0→Prop}{G:Prop}(h:∃x0,p0 x0∧p1 x0∧p2 x0∧p3 x0)(k:∀x0,p0 x0→p1 x0→p2 x0→p3 x0→G):G:=ea12 h fun x0 h0 h1 h2=>k x0 h0 h1 h2.1 h2.2
theorem ea14{α0:Type _}{p0 p1 p2 p3 p4:α0→Prop}{G:Prop}(h:∃x0,p0 x0∧p1 x0∧p2 x0∧p3 x0∧p4 x0)(k:∀x0,p0 x0→p1 x0→p2 x0→p3 x0→p4 x0→G):G:=ea13 h fun x0 h0 h1 h2 h3=>k x0 h0 h1 h2 h3.1 h3.2
theorem ea20{α0 α1:Type _}{p0:α0→α1→Prop}{G:Prop}(h:∃x0 x1,p0 x0 x1)(k:∀x0 x1,p0 x0 x1→G):G:=Exists.elim h fun x0 h=>Exists.elim h (k x0)
theorem ea21{α0 α1:Type _}{p0 p1:α0→α1→Prop}{G:Prop}(h:∃x0 x1,p0 x0 x1∧p1 x0 x1)(k:∀x0 x1,p0 x0 x1→p1 x0 x1→G):G:=ea20 h fun x0 x1 h0=>k x0 x1 h0.1 h0.2
theorem ea22{α0 α1:Type _}{p0 p1 p2:α0→α1→Prop}{G:Prop}(h:∃x0 x1,p0 x0 x1∧p1 x0 x1∧p2 x0 x1)(k:∀x0 x1,p0 x0 x1→p1 x0 x1→p2 x0 x1→G):G:=ea21 h fun x0 x1 h0 h1=>k x0 x1 h0 h1.1 h1.2
theorem ea23{α0 α1:Type _}{p0 p1 p2 p3:α0→α1→Prop}{G:Prop}(h:∃x0 x1,p0 x0 x1∧p1 x0 x1∧p2 x0 x1∧p3 x0 x1)(k:∀x0 x1,p0 x0 x1→p1 x0 x1→p2 x0 x1→p3 x0 x1→G):G:=ea22 h fun x0 x1 h0 h1 h2=>k x0 x1 h0 h1 h2.1 h2.2
theorem ea24{α0 α1:Type _}{p0 p1 p2 p3 p4:α0→α1→Prop}{G:Prop}(h:∃x0 x1,p0 x0 x1∧p1 x0 x1∧p2 x0 x1∧p3 x0 x1∧p4 x0 x1)(k:∀x0 x1,p0 x0 x1→p1 x0 x1→p2 x0 x1→p3 x0 x1→p4 x0 x1→G):G:=ea23 h fun x0 x1 h0 h1 h2 h3=>k x0 x1 h0 h1 h2 h3.1 h3.2
theorem ea25{α0 α1:Type _}{p0 p1 p2 p3 p4 p5:α0→α1→Prop}{G:Prop}(h:∃x0 x1,p0 x0 x1∧p1 x0 x1∧p2 x0 x1∧p3 x0 x1∧p4 x0 x1∧p5 x0 x1)(k:∀x0 x1,p0 x0 x1→p1 x0 x1→p2 x0 x1→p3 x0 x1→p4 x0 x1→p5 x0 x1→G):G:=ea24 h fun x0 x1 h0 h1 h2 h3 h4=>k x0 x1 h0 h1 h2 h3 h4.1 h4.2
theorem ea30{α0 α1 α2:Type _}{p0:α0→α1→α2→Prop}{G:Prop}(h:∃x0 x1 x2,p0 x0 x1 x2)(k:∀x0 x1 x2,p0 x0 x1 x2→G):G:=Exists.elim h fun x0 h=>ea20 h (k x0)
theorem ea31{α0 α1 α2:Type _}{p0 p1:α0→α1→α2→Prop}{G:Prop}(h:∃x0 x1 x2,p0 x0 x1 x2∧p1 x0 x1 x2)(k:∀x0 x1 x2,p0 x0 x1 x2→p1 x0 x1 x2→G):G:=ea30 h fun x0 x1 x2 h0=>k x0 x1 x2 h0.1 h0.2
theorem ea32{α0 α1 α2:Type _}{p0 p1 p2:α0→α1→α2→Prop}{G:Prop}(h:∃x0 x1 x2,p0 x0 x1 x2∧p1 x0 x1 x2∧p2 x0 x1 x2)(k:∀x0 x1 x2,p0 x0 x1 x2→p1 x0 x1 x2→p2 x0 x1 x2→G):G:=ea31 h fun x0 x1 x2 h0 h1=>k x0 x1 x2 h0 h1.1 h1.2
theorem ea33{α0 α1 α2:Type _}{p0 p1 p2 p3:α0→α1→α2→Prop}{G:Prop}(h:∃x0 x1 x2,p0 x0 x1 x2∧p1 x0 x1 x2∧p2 x0 x1 x2∧p3 x0 x1 x2)(k:∀x0 x1 x2,p0 x0 x1 x2→p1 x0 x1 x2→p2 x0 x1 x2→p3 x0 x1 x2→G):G:=ea32 h fun x0 x1 x2 h0 h1 h2=>k x0 x1 x2 h0 h1 h2.1 h2.2
theorem ea34{α0 α1 α2:Type _}{p0 p1 p2 p3 p4:α0→α1→α2→Prop}{G:Prop}(h:∃x0 x1 x2,p0 x0 x1 x2∧p1 x0 x1 x2∧p2 x0 x1 x2∧p3 x0 x1 x2∧p4 x0 x1 x2)(k:∀x0 x1 x2,p0 x0 x1 x2→p1 x0 x1 x2→p2 x0 x1 x2→p3 x0 x1 x2→p4 x0 x1 x2→G):G:=ea33 h fun x0 x1 x2 h0 h1 h2 h3=>k x0 x1 x2 h0 h1 h2 h3.1 h3.2
theorem ea35{α0 α1 α2:Type _}{p0 p1 p2 p3 p4 p5:α0→α1→α2→Prop}{G:Prop}(h:∃x0 x1 x2,p0 x0 x1 x2∧p1 x0 x1 x2∧p2 x0 x1 x2∧p3 x0 x1 x2∧p4 x0 x1 x2∧p5 x0 x1 x2)(k:∀x0 x1 x2,p0 x0 x1 x2→p1 x0 x1 x2→p2 x0 x1 x2→p3 x0 x1 x2→p4 x0 x1 x2→p5 x0 x1 x2→G):G:=ea34 h fun x0 x1 x2 h0 h1 h2 h3 h4=>k x0 x1 x2 h0 h1 h2 h3 h4.1 h4.2
theorem ea40{α0 α1 α2 α3:Type _}{p0:α0→α1→α2→α3→Prop}{G:Prop}(h:∃x0 x1 x2 x3,p0 x0 x1 x2 x3)(k:∀x0 x1 x2 x3,p0 x0 x1 x2 x3→G):G:=Exists.elim h fun x0 h=>ea30 h (k x0)
theorem ea41{α0 α1 α2 α3:Type _}{p0 p1:α0→α1→α2→α3→Prop}{G:Prop}(h:∃x0 x1 x2 x3,p0 x0 x1 x2 x3∧p1 x0 x1 x2 x3)(k:∀x0 x1 x2 x3,p0 x0 x1 x2 x3→p1 x0 x1 x2 x3→G):G:=ea40 h fun x0 x1 x2 x3 h0=>k x0 x1 x2 x3 h0.1 h0.2
theorem ea42{α0 α1 α2 α3:Type _}{p0 p1 p2:α0→α1→α2→α3→Prop}{G:Prop}(h:∃x0 x1 x2 x3,p0 x0 x1 x2 x3∧p1 x0 x1 x2 x3∧p2 x0 x1 x2 x3)(k:∀x0 x1 x2 x3,p0 x0 x1 x2 x3→p1 x0 x1 x2 x3→p2 x0 x1 x2 x3→G):G:=ea41 h fun x0 x1 x2 x3 h0 h1=>k x0 x1 x2 x3 h0 h1.1 h1.2
theorem ea43{α0 α1 α2 α3:Type _}{p0 p1 p2 p3:α0→α1→α2→α3→Prop}{G:Prop}(h:∃x0 x1 x2 x3,p0 x0 x1 x2 x3∧p1 x0 x1 x2 x3∧p2 x0 x1 x2 x3∧p3 x0 x1 x2 x3)(k:∀x0 x1 x2 x3,p0 x0 x1 x2 x3→p1 x0 x1 x2 x3→p2 x0 x1 x2 x3→p3 x0 x1 x2 x3→G):G:=ea42 h fun x0 x1 x2 x3 h0 h1 h2=>k x0 x1 x2 x3 h0 h1 h2.1 h2.2
theorem ea44{α0 α1 α2 α3:Type _}{p0 p1 p2 p3 p4:α0→α1→α2→α3→Prop}{G:Prop}(h:∃x0 x1 x2 x3,p0 x0 x1 x2 x3∧p1 x0 x1 x2 x3∧p2 x0 x1 x2 x3∧p3 x0 x1 x2 x3∧p4 x0 x1 x2 x3)(k:∀x0 x1 x2 x3,p0 x0 x1 x2 x3→p1 x0 x1 x2 x3→p2 x0 x1 x2 x3→p3 x0 x1 x2 x3→p4 x0 x1 x2 x3→G):G:=ea43 h fun x0 x1 x2 x3 h0 h1 h2 h3=>k x0 x1 x2 x3 h0 h1 h2 h3.1 h3.2
theorem ea45{α0 α1 α2 α3:Type _}{p0 p1 p2 p3 p4 p5:α0→α1→α2→α3→Prop}{G:Prop}(h:∃x0 x1 x2 x3,p0 x0 x1 x2 x3∧p1 x0 x1 x2 x3∧p2 x0 x1 x2 x3∧p3 x0 x1 x2 x3∧p4 x0 x1 x2 x3∧p5 x0 x1 x2 x3)(k:∀x0 x1 x2 x3,p0 x0 x1 x2 x3→p1 x0 x1 x2 x3→p2 x0 x1 x2 x3→p3 x0 x1 x2 x3→p4 x0 x1 x2 x3→p5 x0 x1 x2 x3→G):G:=ea44 h fun x0 x1 x2 x3 h0 h1 h2 h3 h4=>k x0 x1 x2 x3 h0 h1 h2 h3 h4.1 h4.2
theorem ea50{α0 α1 α2 α3 α4:Type _}{p0:α0→α1→α2→α3→α4→Prop}{G:Prop}(h:∃x0 x1 x2 x3 x4,p0 x0 x1 x2 x3 x4)(k:∀x0 x1 x2 x3 x4,p0 x0 x1 x2 x3 x4→G):G:=Exists.elim h fun x0 h=>ea40 h (k x0)
theorem ea51{α0 α1 α2 α3 α4:Type _}{p0 p1:α0→α1→α2→α3→α4→Prop}{G:Prop}(h:∃x0 x1 x2 x3 x4,p0 x0 x1 x2 x3 x4∧p1 x0 x1 x2 x3 x4)(k:∀x0 x1 x2 x3 x4,p0 x0 x1 x2 x3 x4→p1 x0 x1 x2 x3 x4→G):G:=ea50 h fun x0 x1 x2 x3 x4 h0=>k x0 x1 x2 x3 x4 h0.1 h0.2
theorem ea52{α0 α1 α2 α3 α4:Type _}{p0 p1 p2:α0→α1→α2→α3→α4→Prop}{G:Prop}(h:∃x0 x1 x2 x3 x4,p0 x0 x1 x2 x3 x4∧p1 x0 x1 x2 x3 x4∧p2 x0 x1 x2 x3 x4)(k:∀x0 x1 x2 x3 x4,p0 x0 x1 x2 x3 x4→p1 x0 x1 x2 x3 x4→p2 x0 x1 x2 x3 x4→G):G:=ea51 h fun x0 x1 x2 x3 x4 h0 h1=>k x0 x1 x2 x3 x4 h0 h1.1 h1.2
theorem ea53{α0 α1 α2 α3 α4:Type _}{p0 p1 p2 p3:α0→α1→α2→α3→α4→Prop}{G:Prop}(h:∃x0 x1 x2 x3 x4,p0 x0 x1 x2 x3 x4∧p1 x0 x1 x2 x3 x4∧p2 x0 x1 x2 x3 x4∧p3 x0 x1 x2 x3 x4)(k:∀x0 x1 x2 x3 x4,p0 x0 x1 x2 x3 x4→p1 x0 x1 x2 x3 x4→p2 x0 x1 x2 x3 x4→p3 x0 x1 x2 x3 x4→G):G:=ea52 h fun x0 x1 x2 x3 x4 h0 h1 h2=>k x0 x1 x2 x3 x4 h0 h1 h2.1 h2.2
theorem ea54{α0 α1 α2 α3 α4:Type _}{p0 p1 p2 p3 p4:α0→α1→α2→α3→α4→Prop}{G:Prop}(h:∃x0 x1 x2 x3 x4,p0 x0 x1 x2 x3 x4∧p1 x0 x1 x2 x3 x4∧p2 x0 x1 x2 x3 x4∧p3 x0 x1 x2 x3 x4∧p4 x0 x1 x2 x3 x4)(k:∀x0 x1 x2 x3 x4,p0 x0 x1 x2 x3 x4→p1 x0 x1 x2 x3 x4→p2 x0 x1 x2 x3 x4→p3 x0 x1 x2 x3 x4→p4 x0 x1 x2 x3 x4→G):G:=ea53 h fun x0 x1 x2 x3 x4 h0 h1 h2 h3=>k x0 x1 x2 x3 x4 h0 h1 h2 h3.1 h3.2
theorem ea55{α0 α1 α2 α3 α4:Type _}{p0 p1 p2 p3 p4 p5:α0→α1→α2→α3→α4→Prop}{G:Prop}(h:∃x0 x1 x2 x3 x4,p0 x0 x1 x2 x3 x4∧p1 x0 x1 x2 x3 x4∧p2 x0 x1 x2 x3 x4∧p3 x0 x1 x2 x3 x4∧p4 x0 x1 x2 x3 x4∧p5 x0 x1 x2 x3 x4)(k:∀x0 x1 x2 x3 x4,p0 x0 x1 x2 x3 x4→p1 x0 x1 x2 x3 x4→p2 x0 x1 x2 x3 x4→p3 x0 x1 x2 x3 x4→p4 x0 x1 x2 x3 x4→p5 x0 x1 x2 x3 x4→G):G:=ea54 h fun x0 x1 x2 x3 x4 h0 h1 h2 h3 h4=>k x0 x1 x2 x3 x4 h0 h1 h2 h3 h4.1 h4.2
end Mine
end
section
set_option backward.match.sparseCases false
namespace Mine
open PySem
noncomputable def lEq:List Nat→List Nat→Bool
 |[],[]=>true
 |a::r,b::t=>cond (Nat.beq a b) (lEq r t) false
 |[],_::_=>false
 |_::_,[]=>false
theorem lEq_to:∀{a b:List Nat},lEq a b=true→a=b
 |[],[],_=>rfl
 |[],_::_,h=>Bool.noConfusion h
 |_::_,[],h=>Bool.noConfusion h
 |a::r,b::t,h=>by
  have h:cond (Nat.beq a b) (lEq r t) false=true:=h
  cases e:Nat.beq a b<;>rw[e]at h
  ·exact Bool.noConfusion h
  ·rw[Nat.eq_of_beq_eq_true e,lEq_to h]
theorem lEq_self:∀a:List Nat,lEq a a=true
 |[]=>rfl
 |a::r=>by
  show cond (Nat.beq a a) (lEq r r) false=true
  rw[Nat.beq_refl]
  exact lEq_self r
noncomputable def sEq(a b:Str):Bool:=lEq a.cps.toList b.cps.toList
noncomputable def look{α:Type}(x:Str):List (Str×α)→Option α
 |[]=>none
 |p::r=>cond (sEq p.1 x) (some p.2) (look x r)
theorem look_t{α:Type}{x:Str}{p:Str×α}{r:List (Str×α)}(h:sEq p.1 x=true):look x (p::r)=some p.2:=by
 show cond _ _ _=_
 rw[h]
 rfl
theorem look_f{α:Type}{x:Str}{p:Str×α}{r:List (Str×α)}(h:sEq p.1 x=false):look x (p::r)=look x r:=by
 show cond _ _ _=_
 rw[h]
 rfl
noncomputable def lookI{α:Type}(x:Int):List (Int×α)→Option α
 |[]=>none
 |p::r=>cond (decide (p.1=x)) (some p.2) (lookI x r)
noncomputable def lookN{α:Type}(x:Nat):List (Nat×α)→Option α
 |[]=>none
 |p::r=>cond (Nat.beq p.1 x) (some p.2) (lookN x r)
noncomputable def putS{α:Type}(x:Str)(v:α):List (Str×α)→List (Str×α)
 |[]=>[(x,v)]
 |p::r=>cond (sEq p.1 x) ((p.1,v)::r) (p::putS x v r)
noncomputable def putI{α:Type}(x:Int)(v:α):List (Int×α)→List (Int×α)
 |[]=>[(x,v)]
 |p::r=>cond (decide (p.1=x)) ((p.1,v)::r) (p::putI x v r)
noncomputable def nameV:Expr→Option (Str×Pos)
 | .Name x p=>some (x,p)
 |_=>none
noncomputable def tupV:Expr→Option (List Expr×Nat×Pos)
 | .Tuple ts n p=>some (ts,n,p)
 |_=>none
noncomputable def constV:Expr→Option (Const×Nat×Pos)
 | .Constant c n p=>some (c,n,p)
 |_=>none
noncomputable def asText:Const→Option Str
 | .str x=>some x
 |_=>none
noncomputable def sliceV:Expr→Option (Option Expr×Option Expr×Option Expr×Pos)
 | .Slice lo hi st p=>some (lo,hi,st,p)
 |_=>none
noncomputable def subV:Expr→Option (Expr×Expr×Pos)
 | .Subscript o i p=>some (o,i,p)
 |_=>none
structure CompE where
 elt:Expr
 t:Expr
 it:Expr
 ifs:List Expr
 csc:Scope
 pos:Pos
noncomputable def compS:Expr→Option (Expr×List Comprehension×Scope×Pos)
 | .ListComp elt gens csc pos=>some (elt,gens,csc,pos)
 |_=>none
structure CallV where
 x:Str
 p1:Pos
 args:List Expr
 p2:Pos
noncomputable def callV:Expr→Option CallV
 | .Call f args kw p2=>match kw with
   |[]=>match nameV f with
    |some q=>some ⟨q.1,q.2,args,p2⟩
    |none=>none
   |_::_=>none
 |_=>none
noncomputable def one?{α:Type}:List α→Option α
 |[]=>none
 |a::r=>match r with
  |[]=>some a
  |_::_=>none
noncomputable def two?{α:Type}:List α→Option (α×α)
 |[]=>none
 |a::r=>match one? r with
  |some b=>some (a,b)
  |none=>none
theorem noneNe{α:Type}{a:α}{p:Prop}(h:(none:Option α)=some a):p:=nomatch h
theorem ffNe{p:Prop}(h:false=true):p:=nomatch h
noncomputable def attrV:Expr→Option (Expr×Str×Pos)
 | .Attribute o x p=>some (o,x,p)
 |_=>none
theorem attrV_inv{e:Expr}{q:Expr×Str×Pos}(h:attrV e=some q):e= .Attribute q.1 q.2.1 q.2.2:=by
 cases e with
 |Attribute _ _ _=>exact Option.some.inj h▸rfl
 |_=>exact noneNe h
theorem sliceV_inv{e:Expr}{q:Option Expr×Option Expr×Option Expr×Pos}(h:sliceV e=some q):e= .Slice q.1 q.2.1 q.2.2.1 q.2.2.2:=by
 cases e with
 |Slice _ _ _ _=>exact Option.some.inj h▸rfl
 |_=>exact noneNe h
theorem subV_inv{e:Expr}{q:Expr×Expr×Pos}(h:subV e=some q):e= .Subscript q.1 q.2.1 q.2.2:=by
 cases e with
 |Subscript _ _ _=>exact Option.some.inj h▸rfl
 |_=>exact noneNe h
theorem compS_inv{e:Expr}{q:Expr×List Comprehension×Scope×Pos}(h:compS e=some q):e= .ListComp q.1 q.2.1 q.2.2.1 q.2.2.2:=by
 cases e with
 |ListComp _ _ _ _=>exact Option.some.inj h▸rfl
 |_=>exact noneNe h
theorem nameV_inv{e:Expr}{q:Str×Pos}(h:nameV e=some q):e= .Name q.1 q.2:=by
 cases e with
 |Name x p=>exact Option.some.inj h▸rfl
 |_=>exact noneNe h
theorem tupV_inv{e:Expr}{q:List Expr×Nat×Pos}(h:tupV e=some q):e= .Tuple q.1 q.2.1 q.2.2:=by
 cases e with
 |Tuple us n p=>exact Option.some.inj h▸rfl
 |_=>exact noneNe h
theorem constV_inv{e:Expr}{q:Const×Nat×Pos}(h:constV e=some q):e= .Constant q.1 q.2.1 q.2.2:=by
 cases e with
 |Constant c n p=>exact Option.some.inj h▸rfl
 |_=>exact noneNe h
theorem asText_inv{c:Const}{x:Str}(h:asText c=some x):c= .str x:=by
 cases c with
 |str y=>exact Option.some.inj h▸rfl
 |_=>exact noneNe h
theorem callV_inv{e:Expr}{c:CallV}(h:callV e=some c):e= .Call (.Name c.x c.p1) c.args [] c.p2:=by
 cases e with
 |Call f args kw p2=>
  cases kw with
  |cons _ _=>exact noneNe h
  |nil=>
   have h':(match nameV f with|some q=>some (⟨q.1,q.2,args,p2⟩:CallV)|none=>none)=some c:=h
   cases hf:nameV f with
   |none=>rw[hf]at h';exact noneNe h'
   |some q=>
    rw[hf]at h'
    rw[nameV_inv hf,←Option.some.inj h']
 |_=>exact noneNe h
theorem one_inv{α:Type}{l:List α}{a:α}(h:one? l=some a):l=[a]:=by
 cases l with
 |nil=>exact noneNe h
 |cons b r=>
  cases r with
  |nil=>exact Option.some.inj h▸rfl
  |cons _ _=>exact noneNe h
theorem two_inv{α:Type}{l:List α}{q:α×α}(h:two? l=some q):l=[q.1,q.2]:=by
 cases l with
 |nil=>exact noneNe h
 |cons b r=>
  have h':(match one? r with|some c=>some (b,c)|none=>none)=some q:=h
  cases hr:one? r with
  |none=>rw[hr]at h';exact noneNe h'
  |some c=>rw[hr]at h';rw[one_inv hr,←Option.some.inj h']
noncomputable def genV(elt:Expr)(gens:List Comprehension)(csc:Scope)(pos:Pos):Option CompE:=match one? gens with
 |some c=>match decide (c.is_async=0)with
  |true=>some ⟨elt,c.target,c.iter,c.ifs,csc,pos⟩
  |false=>none
 |none=>none
theorem genV_inv{elt:Expr}{gens:List Comprehension}{csc:Scope}{pos:Pos}{c:CompE}(h:genV elt gens csc pos=some c):gens=[⟨c.t,c.it,c.ifs,0⟩]∧elt=c.elt∧csc=c.csc∧pos=c.pos:=by
 unfold genV at h
 cases hg:one? gens with
 |none=>rw[hg]at h;exact noneNe h
 |some k=>
  rw[hg]at h;dsimp only at h
  cases hk:decide (k.is_async=0)with
  |false=>rw[hk]at h;exact noneNe h
  |true=>
   rw[hk]at h
   have h:=Option.some.inj h
   subst h
   have hk:=of_decide_eq_true hk
   refine⟨?_,rfl,rfl,rfl⟩
   rw[one_inv hg]
   obtain⟨t,it,ifs,k⟩:=k
   have hk:k=0:=hk
   subst hk
   rfl
noncomputable def compParts(e:Expr):Option CompE:=match compS e with
 |some q=>genV q.1 q.2.1 q.2.2.1 q.2.2.2
 |none=>none
theorem compParts_inv{e:Expr}{c:CompE}(h:compParts e=some c):e= .ListComp c.elt [⟨c.t,c.it,c.ifs,0⟩] c.csc c.pos:=by
 unfold compParts at h
 cases hq:compS e with
 |none=>rw[hq]at h;exact noneNe h
 |some q=>
  rw[hq]at h
  refine ea03 (genV_inv h) fun h1 h2 h3 h4=>?_
  rw[compS_inv hq,h1,h2,h3,h4]
inductive AV where
 |none
 |bool (b:Bool)
 |int (i:Int)
 |str (x:Str)
 |tup (xs:List AV)
 |ob (i:Nat)
 |fix (v:Value)
inductive AO where
 |list (xs:List AV)
 |dstr (kvs:List (Str×AV))
 |dint (kvs:List (Int×AV))
 |inst (C:Addr) (attrs:List (Str×AV))
 |meth (f:Addr) (self:AV)
 |frozen
noncomputable def AV.ctorIdx(x:AV):Nat:=AV.casesOn x 0 (fun _=>1) (fun _=>2) (fun _=>3) (fun _=>4) (fun _=>5) (fun _=>6)
noncomputable def AO.ctorIdx(x:AO):Nat:=AO.casesOn x (fun _=>0) (fun _=>1) (fun _=>2) (fun _ _=>3) (fun _ _=>4) 5
theorem AV.ob_inj{i j:Nat}(h:AV.ob i= .ob j):i=j:=AV.noConfusion h id
theorem AO.list_inj{x y:List AV}(h:AO.list x= .list y):x=y:=AO.noConfusion h id
noncomputable abbrev Store:=List AO
noncomputable abbrev Loc:=List (Str×AV)
noncomputable def asStr:AV→Option Str
 | .str x=>some x
 |_=>none
noncomputable def asTup:AV→Option (List AV)
 | .tup xs=>some xs
 |_=>none
noncomputable def asInt:AV→Option Int
 | .int i=>some i
 |_=>none
noncomputable def asBool:AV→Option Bool
 | .bool b=>some b
 |_=>none
noncomputable def typeV:AV→Option String
 | .fix u=>match u with
   | .type T=>some T
   |_=>none
 |_=>none
theorem asStr_inv{v:AV}{x:Str}(h:asStr v=some x):v= .str x:=by
 cases v with
 |str y=>exact Option.some.inj h▸rfl
 |_=>exact noneNe h
theorem asTup_inv{v:AV}{xs:List AV}(h:asTup v=some xs):v= .tup xs:=by
 cases v with
 |tup ys=>exact Option.some.inj h▸rfl
 |_=>exact noneNe h
theorem asInt_inv{v:AV}{x:Int}(h:asInt v=some x):v= .int x:=by
 cases v with
 |int y=>exact Option.some.inj h▸rfl
 |_=>exact noneNe h
theorem asBool_inv{v:AV}{x:Bool}(h:asBool v=some x):v= .bool x:=by
 cases v with
 |bool y=>exact Option.some.inj h▸rfl
 |_=>exact noneNe h
theorem typeV_inv{v:AV}{T:String}(h:typeV v=some T):v= .fix (.type T):=by
 cases v with
 |fix u=>
  cases u with
  |type U=>exact Option.some.inj h▸rfl
  |_=>exact noneNe h
 |_=>exact noneNe h
noncomputable def listOf(σ:Store)(v:AV):Option (Nat×List AV):=match v with
 | .ob n=>match σ[n]? with
   |some o=>match o with
    | .list xs=>some (n,xs)
    |_=>none
   |none=>none
 |_=>none
theorem listOf_inv{σ:Store}{v:AV}{q:Nat×List AV}(h:listOf σ v=some q):v= .ob q.1∧σ[q.1]? =some (.list q.2):=by
 cases v with
 |ob n=>
  unfold listOf at h
  dsimp only at h
  cases ho:σ[n]? with
  |none=>rw[ho]at h;exact noneNe h
  |some o=>
   rw[ho]at h
   cases o with
   |list xs=>exact Option.some.inj h▸⟨rfl,ho⟩
   |_=>exact noneNe h
 |_=>exact noneNe h
noncomputable def dstrOf(σ:Store)(v:AV):Option (Nat×List (Str×AV)):=match v with
 | .ob n=>match σ[n]? with
   |some o=>match o with
    | .dstr kvs=>some (n,kvs)
    |_=>none
   |none=>none
 |_=>none
theorem dstrOf_inv{σ:Store}{v:AV}{q:Nat×List (Str×AV)}(h:dstrOf σ v=some q):v= .ob q.1∧σ[q.1]? =some (.dstr q.2):=by
 cases v with
 |ob n=>
  unfold dstrOf at h
  dsimp only at h
  cases ho:σ[n]? with
  |none=>rw[ho]at h;exact noneNe h
  |some o=>
   rw[ho]at h
   cases o with
   |dstr kvs=>exact Option.some.inj h▸⟨rfl,ho⟩
   |_=>exact noneNe h
 |_=>exact noneNe h
noncomputable def dintOf(σ:Store)(v:AV):Option (Nat×List (Int×AV)):=match v with
 | .ob n=>match σ[n]? with
   |some o=>match o with
    | .dint kvs=>some (n,kvs)
    |_=>none
   |none=>none
 |_=>none
theorem dintOf_inv{σ:Store}{v:AV}{q:Nat×List (Int×AV)}(h:dintOf σ v=some q):v= .ob q.1∧σ[q.1]? =some (.dint q.2):=by
 cases v with
 |ob n=>
  unfold dintOf at h
  dsimp only at h
  cases ho:σ[n]? with
  |none=>rw[ho]at h;exact noneNe h
  |some o=>
   rw[ho]at h
   cases o with
   |dint kvs=>exact Option.some.inj h▸⟨rfl,ho⟩
   |_=>exact noneNe h
 |_=>exact noneNe h
noncomputable def instOf(σ:Store)(v:AV):Option (Nat×Addr×List (Str×AV)):=match v with
 | .ob n=>match σ[n]? with
   |some o=>match o with
    | .inst C attrs=>some (n,C,attrs)
    |_=>none
   |none=>none
 |_=>none
theorem instOf_inv{σ:Store}{v:AV}{q:Nat×Addr×List (Str×AV)}(h:instOf σ v=some q):v= .ob q.1∧σ[q.1]? =some (.inst q.2.1 q.2.2):=by
 cases v with
 |ob n=>
  unfold instOf at h
  dsimp only at h
  cases ho:σ[n]? with
  |none=>rw[ho]at h;exact noneNe h
  |some o=>
   rw[ho]at h
   cases o with
   |inst C attrs=>exact Option.some.inj h▸⟨rfl,ho⟩
   |_=>exact noneNe h
 |_=>exact noneNe h
noncomputable def methOf(σ:Store)(v:AV):Option (Nat×Addr×AV):=match v with
 | .ob n=>match σ[n]? with
   |some o=>match o with
    | .meth f u=>some (n,f,u)
    |_=>none
   |none=>none
 |_=>none
theorem methOf_inv{σ:Store}{v:AV}{q:Nat×Addr×AV}(h:methOf σ v=some q):v= .ob q.1∧σ[q.1]? =some (.meth q.2.1 q.2.2):=by
 cases v with
 |ob n=>
  unfold methOf at h
  dsimp only at h
  cases ho:σ[n]? with
  |none=>rw[ho]at h;exact noneNe h
  |some o=>
   rw[ho]at h
   cases o with
   |«meth» f u=>exact Option.some.inj h▸⟨rfl,ho⟩
   |_=>exact noneNe h
 |_=>exact noneNe h
inductive XA where
 |pf (place:AV)
 |tf
noncomputable def XA.ctorIdx(x:XA):Nat:=XA.casesOn x (fun _=>0) 1
inductive Out(ε α:Type) where
 |stuck
 |exc (x:ε) (σ:Store)
 |ok (a:α) (σ:Store)
noncomputable def Out.ctorIdx{ε α:Type}(x:Out ε α):Nat:=Out.casesOn x 0 (fun _ _=>1) (fun _ _=>2)
noncomputable def Out.bd{ε α β:Type}(m:Out ε α)(f:α→Store→Out ε β):Out ε β:=match m with
 | .stuck=> .stuck
 | .exc x σ=> .exc x σ
 | .ok a σ=>f a σ
noncomputable abbrev Res(α:Type):=Out XA α
noncomputable abbrev ResL(α:Type):=Out (XA×Loc) α
noncomputable def chk{ε α:Type}(b:Bool)(m:Out ε α):Out ε α:=match b with
 |true=>m
 |false=> .stuck
noncomputable def ofO{ε α β:Type}(o:Option α)(f:α→Out ε β):Out ε β:=match o with
 |some a=>f a
 |none=> .stuck
noncomputable def els{ε α β:Type}(o:Option β)(f:β→Out ε α)(m:Out ε α):Out ε α:=match o with
 |some a=>f a
 |none=>m
noncomputable def quiet{ε α:Type}(m:Out ε α):Out ε α:=match m with
 | .exc _ _=> .stuck
 |m=>m
noncomputable def Out.at{α:Type}(m:Res α)(ρ:Loc):ResL α:=match m with
 | .stuck=> .stuck
 | .exc x σ=> .exc (x,ρ) σ
 | .ok a σ=> .ok a σ
inductive Fl where
 |next
 |ret (v:AV)
noncomputable def Fl.ctorIdx(x:Fl):Nat:=Fl.casesOn x 0 (fun _=>1)
mutual
noncomputable def AV.closed(n:Nat):AV→Bool
 | .none=>true
 | .bool _=>true
 | .int _=>true
 | .str _=>true
 | .tup xs=>AV.closeds n xs
 | .ob i=>Nat.blt i n
 | .fix _=>true
noncomputable def AV.closeds(n:Nat):List AV→Bool
 |[]=>true
 |x::xs=>x.closed n&&AV.closeds n xs
end
noncomputable def AO.closed(n:Nat):AO→Bool
 | .list xs=>AV.closeds n xs
 | .dstr kvs=>AV.closeds n (kvs.map (·.2))
 | .dint kvs=>AV.closeds n (kvs.map (·.2))
 | .inst _ kvs=>AV.closeds n (kvs.map (·.2))
 | .meth _ v=>v.closed n
 | .frozen=>true
noncomputable def trunc(n:Nat)(v:AV)(σ:Store):Store:=match v.closed n&&(σ.take n).all (AO.closed n)with
 |true=>σ.take n
 |false=>σ
structure Fn where
 params:List Str
 body:List Stmt
 scope:Scope
structure Prg where
 glob:Str→Option AV
 fn:Addr→Option Fn
 cls:Addr→Bool
 meth:Addr→Str→Option Addr
 init:Addr→Option Addr
 pf:Addr
 tf:Addr
 script:Addr→Option (List Int)
 attr:Addr→Str→Bool
structure Rec where
 ev:Scope→Loc→Store→Expr→Res AV
 ts:Scope→Loc→Store→Expr→Res Bool
 ex:Scope→Loc→Store→List Stmt→ResL (Fl×Loc)
 call:Addr→List AV→Store→Res AV
noncomputable def okName(x:Str):Bool:=match x.cps.toList with
 |95::95::_=>false
 |_=>true
noncomputable def chkO{α:Type}(b:Bool)(x:Option α):Option α:=match b with
 |true=>x
 |false=>none
theorem chkO_inv{α:Type}{b:Bool}{x:Option α}{y:α}(h:chkO b x=some y):b=true∧x=some y:=by
 cases b with
 |true=>exact⟨rfl,h⟩
 |false=>exact noneNe h
noncomputable def gK{α:Type}(o:Option NameKind)(r:Option α):Option α:=match o with
 |some k=>match k with
  | .globalImplicit=>r
  |_=>none
 |none=>none
theorem gK_inv{α:Type}{o:Option NameKind}{r:Option α}{v:α}(h:gK o r=some v):o=some .globalImplicit∧r=some v:=by
 cases o with
 |none=>exact noneNe h
 |some k=>
  cases k with
  |globalImplicit=>exact⟨rfl,h⟩
  |_=>exact noneNe h
noncomputable def locK(o:Option NameKind):Bool:=match o with
 |some k=>match k with
  | .local=>true
  | .cell=>true
  |_=>false
 |none=>false
noncomputable def isK(j:Fin 3)(o:Option NameKind):Bool:=match o with
 |some k=>match k with
  | .local=>Nat.beq j.1 0
  | .cell=>Nat.beq j.1 1
  | .free=>Nat.beq j.1 2
  |_=>false
 |none=>false
theorem isK_loc{o:Option NameKind}(h:isK 0 o=true):o=some .local:=by
 cases o with
 |none=>exact Bool.noConfusion h
 |some k=>
  cases k with
  |«local» =>rfl
  |_=>exact Bool.noConfusion h
theorem isK_cell{o:Option NameKind}(h:isK 1 o=true):o=some .cell:=by
 cases o with
 |none=>exact Bool.noConfusion h
 |some k=>
  cases k with
  |cell=>rfl
  |_=>exact Bool.noConfusion h
theorem isK_free{o:Option NameKind}(h:isK 2 o=true):o=some .free:=by
 cases o with
 |none=>exact Bool.noConfusion h
 |some k=>
  cases k with
  |free=>rfl
  |_=>exact Bool.noConfusion h
noncomputable def kOk(k:NameKind)(a b:Option NameKind):Bool:=match k with
 | .free=>isK 1 a
 | .local=>isK 0 b
 | .cell=>false
 |_=>true
noncomputable def isFn(k:ScopeKind):Bool:=match k with
 | .function=>true
 |_=>false
theorem isFn_inv{k:ScopeKind}(h:isFn k=true):k= .function:=by
 cases k with
 |function=>rfl
 |_=>exact Bool.noConfusion h
noncomputable def nameA(P:Prg)(sc:Scope)(ρ:Loc)(x:Str):Option AV:=chkO (okName x) ((look x ρ).elim (gK (look x sc.names) (P.glob x)) some)
theorem nameA_inv{P:Prg}{sc:Scope}{ρ:Loc}{x:Str}{v:AV}(h:nameA P sc ρ x=some v):okName x=true∧(look x ρ=some v∨look x sc.names=some .globalImplicit∧P.glob x=some v):=by
 refine And.intro (chkO_inv h).1 ?_
 have h:(look x ρ).elim (gK (look x sc.names) (P.glob x)) some=some v:=(chkO_inv h).2
 cases hu:look x ρ with
 |some u=>rw[hu]at h;exact .inl h
 |none=>rw[hu]at h;exact .inr (gK_inv h)
noncomputable def bound:Nat:=100000
noncomputable def alloc(o:AO)(σ:Store):Res AV:= .ok (.ob σ.length) (σ++[o])
noncomputable def mkTup(xs:List AV)(σ:Store):Res AV:=match Nat.ble xs.length bound with
 |true=> .ok (.tup xs) σ
 |false=> .stuck
noncomputable def mkList(xs:List AV)(σ:Store):Res AV:=match Nat.ble xs.length bound with
 |true=>alloc (.list xs) σ
 |false=> .stuck
noncomputable def constA:Const→Option AV
 | .none=>some .none
 | .bool b=>some (.bool b)
 | .int i=>some (.int i)
 | .str x=>some (.str x)
 |_=>none
noncomputable def orStuck(v:Option AV)(σ:Store):Res AV:=match v with
 |some v=> .ok v σ
 |none=> .stuck
noncomputable def mapO{α β:Type}(f:α→Option β):List α→Option (List β)
 |[]=>some []
 |x::xs=>(f x).bind fun y=>(mapO f xs).map fun ys=>y::ys
theorem mapO_cons{α β:Type}{f:α→Option β}{x:α}{xs:List α}{y:β}{ys:List β}(h:f x=some y)(k:mapO f xs=some ys):mapO f (x::xs)=some (y::ys):=by
 show((f x).bind fun y=>(mapO f xs).map fun ys=>y::ys)=_
 rw[h,k]
 rfl
noncomputable def toPy(σ:Store):Nat→AV→Option PyData
 |0,_=>none
 |_+1,.none=>some .none
 |_+1,.bool b=>some (.bool b)
 |_+1,.int i=>some (.int i)
 |_+1,.str x=>some (.str x)
 |n+1,.tup xs=>(mapO (toPy σ n) xs).map .tuple
 |n+1,.ob i=>(listOf σ (.ob i)).bind fun q=>(mapO (toPy σ n) q.2).map .list
 |_+1,.fix _=>none
mutual
noncomputable def layL:PyData→Bool
 | .none| .bool _| .int _=>true
 | .str x=>x.cps.toList.all fun c=>decide (c<0x110000)
 | .list xs| .tuple xs=>laysL xs
 | .dict _=>false
noncomputable def laysL:List PyData→Bool
 |[]=>true
 |x::xs=>layL x&&laysL xs
end
noncomputable def shpL(d:PyData):Bool:=layL d&&decide (d.depth≤64)
theorem strOk_L(x:Str):PyData.strOk x=x.cps.toList.all fun c=>decide (c<0x110000):=by
 unfold PyData.strOk
 rw[Array.all_toList]
mutual
theorem lay_L:∀d:PyData,PyData.canLay0 d=layL d
 | .none| .bool _| .int _=>rfl
 | .str x=>strOk_L x
 | .list xs=>lays_L xs
 | .tuple xs=>lays_L xs
 | .dict _=>rfl
theorem lays_L:∀ds:List PyData,PyData.canLayAll0 ds=laysL ds
 |[]=>rfl
 |x::xs=>by
  show(PyData.canLay0 x&&PyData.canLayAll0 xs)=(layL x&&laysL xs)
  rw[lay_L x,lays_L xs]
end
theorem shaped_L(d:PyData):PySem.SeqAt.shaped d=shpL d:=by
 unfold PySem.SeqAt.shaped shpL
 rw[lay_L]
noncomputable def okStr(x:Str):Bool:=x.cps.toList.all fun c=>decide (c<0x110000)
noncomputable def eqA(σ:Store)(a b:AV):Option Bool:=(toPy σ 40 a).bind fun x=>(toPy σ 40 b).bind fun y=>chkO (shpL x&&shpL y) (some (PyData.eqv x y))
noncomputable def strs?:List AV→Option (List Str)
 |[]=>some []
 |x::r=>(asStr x).bind fun y=>(strs? r).map fun ys=>y::ys
noncomputable def ints?:List AV→Option (List Int)
 |[]=>some []
 |x::r=>(asInt x).bind fun y=>(ints? r).map fun ys=>y::ys
noncomputable def memS(x:Str):List Str→Bool
 |[]=>false
 |y::r=>match sEq y x with
  |true=>true
  |false=>memS x r
noncomputable def inStrs(x:Str)(l:List Str):Option Bool:=chkO (okStr x&&l.all okStr) (some (memS x l))
noncomputable def inA(σ:Store)(a b:AV):Option Bool:=match asTup b with
 |some ys=>(asStr a).bind fun x=>(strs? ys).bind (inStrs x)
 |none=>match listOf σ b with
  |some q=>(asStr a).bind fun x=>(strs? q.2).bind (inStrs x)
  |none=>match dstrOf σ b with
   |some q=>(asStr a).map fun x=>(look x q.2).isSome
   |none=>(dintOf σ b).bind fun q=>(asInt a).map fun x=>(lookI x q.2).isSome
noncomputable def cmpA(σ:Store)(op:CmpOp)(a b:AV):Option Bool:=match op with
 | .Eq=>eqA σ a b
 | .NotEq=>(eqA σ a b).map (!·)
 | .Lt=>(asInt a).bind fun x=>(asInt b).map fun y=>decide (x<y)
 | .LtE=>(asInt a).bind fun x=>(asInt b).map fun y=>decide (x≤y)
 | .Gt=>(asInt a).bind fun x=>(asInt b).map fun y=>decide (y<x)
 | .In=>inA σ a b
 | .NotIn=>(inA σ a b).map (!·)
 |_=>none
noncomputable def small(x:Int):Bool:=decide (x.natAbs<4294967296)
noncomputable def addA(σ:Store)(a b:AV):Res AV:=els (asInt a) (fun x=>ofO (asInt b) fun y=> .ok (.int (x+y)) σ) (els (asTup a) (fun xs=>ofO (asTup b) fun ys=>mkTup (xs++ys) σ) (ofO (listOf σ a) fun p=>ofO (listOf σ b) fun q=>mkList (p.2++q.2) σ))
noncomputable def binA(σ:Store)(op:Operator)(a b:AV):Res AV:=match op with
 | .Add=>addA σ a b
 | .Sub=>ofO (asInt a) fun x=>ofO (asInt b) fun y=> .ok (.int (x - y)) σ
 | .Mult=>ofO (asInt a) fun x=>ofO (asInt b) fun y=>chk (small x&&small y) (.ok (.int (x*y)) σ)
 | .Mod=>ofO (asInt a) fun x=>ofO (asInt b) fun y=>chk (!decide (y=0)) (.ok (.int (Int.fmod x y)) σ)
 |_=> .stuck
noncomputable def atA(xs:List AV)(i:Int):Option AV:=match PySem.seqIndex? i xs.length with
 |some j=>xs[j]?
 |none=>none
noncomputable def itemA(σ:Store)(o i:AV):Option AV:=match asTup o with
 |some xs=>(asInt i).bind (atA xs)
 |none=>match listOf σ o with
  |some q=>(asInt i).bind (atA q.2)
  |none=>match dintOf σ o with
   |some q=>(asInt i).bind fun k=>lookI k q.2
   |none=>(dstrOf σ o).bind fun q=>(asStr i).bind fun x=>look x q.2
noncomputable def natOf(v:AV):Option Nat:=match asInt v with
 |some i=>match decide (0≤i)with
  |true=>some i.toNat
  |false=>none
 |none=>none
noncomputable def partL{α:Type}(xs:List α)(lo:Nat)(hi:Option Nat):List α:=match hi with
 |none=>xs.drop lo
 |some h=>(xs.drop lo).take (h - lo)
noncomputable def scriptOf(P:Prg):AV→Option (List Int)
 | .fix u=>match u with
   | .ref a=>P.script a
   |_=>none
 |_=>none
noncomputable def sliceA(P:Prg)(σ:Store)(o:AV)(lo:Nat)(hi:Option Nat):Res AV:=els (asTup o) (fun xs=> .ok (.tup (partL xs lo hi)) σ) (els (asStr o) (fun x=>chk (Nat.ble (partL x.cps.toList lo hi).length bound) (.ok (.str ⟨(partL x.cps.toList lo hi).toArray⟩) σ))
 (els (listOf σ o) (fun q=>alloc (.list (partL q.2 lo hi)) σ) (ofO (scriptOf P o) fun l=>alloc (.list ((partL l lo hi).map .int)) σ)))
noncomputable def isinstA(σ:Store):AV→String→Option Bool
 | .none,_=>some false
 | .bool _,T=>some (T=="bool"||T=="int")
 | .int _,T=>some (T=="int")
 | .str _,T=>some (T=="str")
 | .tup _,T=>some (T=="tuple")
 | .ob n,_=>(listOf σ (.ob n)).map fun _=>false
 | .fix _,_=>none
noncomputable def itemsA(σ:Store)(v:AV):Option (List AV):=match asTup v with
 |some xs=>some xs
 |none=>(listOf σ v).map (·.2)
noncomputable def pairV(v:AV):Option (Str×AV):=(asTup v).bind fun xs=>(two? xs).bind fun q=>(asStr q.1).map fun k=>(k,q.2)
noncomputable def pairsA:List AV→Option (List (Str×AV))
 |[]=>some []
 |x::r=>(pairV x).bind fun q=>(pairsA r).map fun l=>q::l
noncomputable def mergeA(l:List (Str×AV))(acc:List (Str×AV)):List (Str×AV):=match l with
 |[]=>acc
 |p::r=>mergeA r (putS p.1 p.2 acc)
noncomputable def sortU:List Str→Option (List Str)
 |[]=>some []
 |[a]=>some [a]
 |[a,b]=>match sEq a b with
  |true=>some [a]
  |false=>match decide (a.cps.toList<b.cps.toList)with
   |true=>some [a,b]
   |false=>some [b,a]
 |_=>none
noncomputable def sumL:List Int→Int
 |[]=>0
 |x::r=>x+sumL r
noncomputable def lenA(σ:Store)(v:AV):Res AV:=els (asTup v) (fun xs=> .ok (.int xs.length) σ) (ofO (listOf σ v) fun q=> .ok (.int q.2.length) σ)
noncomputable def isiA(σ:Store)(q:AV×AV):Res AV:=ofO (typeV q.2) fun T=>chk (T=="tuple"||T=="str"||T=="int"||T=="bool") (orStuck ((isinstA σ q.1 T).map .bool) σ)
noncomputable def sumA(σ:Store)(v:AV):Res AV:=ofO (listOf σ v) fun q=>ofO (ints? q.2) fun l=> .ok (.int (sumL l)) σ
noncomputable def builtinA(σ:Store)(id:String)(vs:List AV):Res AV:=
 if id=="len" then ofO (one? vs) (lenA σ)
 else if id=="isinstance" then ofO (two? vs) (isiA σ)
 else if id=="sum" then ofO (one? vs) (sumA σ)
 else .stuck
noncomputable def tupleA(σ:Store)(v:AV):Res AV:=els (asTup v) (fun xs=> .ok (.tup xs) σ) (ofO (listOf σ v) fun q=> .ok (.tup q.2) σ)
noncomputable def listA(σ:Store)(v:AV):Res AV:=ofO (itemsA σ v) fun xs=>alloc (.list xs) σ
noncomputable def dictOfA(σ:Store)(v:AV):Res AV:=els (asTup v) (fun xs=>ofO (pairsA xs) fun l=>alloc (.dstr (mergeA l [])) σ) (ofO (dstrOf σ v) fun q=>alloc (.dstr q.2) σ)
noncomputable def intA(σ:Store)(v:AV):Res AV:=els (asInt v) (fun i=> .ok (.int i) σ) (ofO (asBool v) fun b=> .ok (.int (if b then 1 else 0)) σ)
noncomputable def typeA(σ:Store)(T:String)(vs:List AV):Res AV:=
 if T=="tuple" then ofO (one? vs) (tupleA σ)
 else if T=="list" then ofO (one? vs) (listA σ)
 else if T=="dict" then ofO (one? vs) (dictOfA σ)
 else if T=="int" then ofO (one? vs) (intA σ)
 else .stuck
noncomputable def noneV:AV→Bool
 | .none=>true
 |_=>false
noncomputable def refA(P:Prg)(r:Rec)(a:Addr)(vs:List AV)(σ:Store):Res AV:=match P.cls a with
 |true=>ofO (P.init a) fun i=>(r.call i (.ob σ.length::vs) (σ++[.inst a []])).bd fun v σ₁=>chk (noneV v) (.ok (.ob σ.length) σ₁)
 |false=>ofO (P.fn a) fun _=>r.call a vs σ
noncomputable def applyA(P:Prg)(r:Rec)(f:AV)(vs:List AV)(σ:Store):Res AV:=match f with
 | .fix u=>match u with
   | .builtin id=>builtinA σ id vs
   | .type T=>typeA σ T vs
   | .ref a=>refA P r a vs σ
   |_=> .stuck
 |_=>ofO (methOf σ f) fun q=>ofO (P.fn q.2.1) fun _=>r.call q.2.1 (q.2.2::vs) σ
noncomputable def appendS:Str:="append"
noncomputable def extendS:Str:="extend"
noncomputable def popS:Str:="pop"
inductive MK where
 |user (f:Addr)
 |app
 |ext
 |pop
noncomputable def listMK(name:Str):Option MK:=match sEq name appendS with
 |true=>some .app
 |false=>match sEq name extendS with
  |true=>some .ext
  |false=>match sEq name popS with
   |true=>some .pop
   |false=>none
noncomputable def methB(P:Prg)(σ:Store)(o:AV)(name:Str):Option MK:=match listOf σ o with
 |some _=>listMK name
 |none=>(instOf σ o).bind fun q=>match look name q.2.2 with
  |some _=>none
  |none=>(P.meth q.2.1 name).bind fun f=>(P.fn f).map fun _=> .user f
noncomputable def appA(o:AV)(vs:List AV)(σ:Store):Res AV:=ofO (listOf σ o) fun q=>ofO (one? vs) fun v=>chk (Nat.blt q.2.length bound) (.ok .none (σ.set q.1 (.list (q.2++[v]))))
noncomputable def extA(o:AV)(vs:List AV)(σ:Store):Res AV:=ofO (listOf σ o) fun q=>ofO (one? vs) fun v=>ofO (itemsA σ v) fun ys=>chk (Nat.ble (q.2.length+ys.length) bound) (.ok .none (σ.set q.1 (.list (q.2++ys))))
noncomputable def popA(o:AV)(vs:List AV)(σ:Store):Res AV:=ofO (listOf σ o) fun q=>chk vs.isEmpty (match q.2.reverse with
 |x::ys=> .ok x (σ.set q.1 (.list ys.reverse))
 |[]=> .stuck)
noncomputable def methGo(r:Rec)(o:AV)(k:MK)(vs:List AV)(σ:Store):Res AV:=match k with
 | .user f=>r.call f (o::vs) σ
 | .app=>appA o vs σ
 | .ext=>extA o vs σ
 | .pop=>popA o vs σ
noncomputable def baseOk(e:Expr):Bool:=match callV e with
 |some c=> !c.args.isEmpty
 |none=>true
noncomputable def handA:AV→Bool
 | .fix (.builtin _)=>false
 |_=>true
noncomputable def attrA(P:Prg)(o:AV)(name:Str)(σ:Store):Res AV:=ofO (instOf σ o) fun q=>els (look name q.2.2) (fun v=>chk (P.attr q.2.1 name&&handA v) (.ok v σ)) (ofO (P.meth q.2.1 name) fun f=>ofO (P.fn f) fun _=>alloc (.meth f o) σ)
noncomputable def evs(r:Rec)(sc:Scope)(ρ:Loc):List Expr→Store→Res (List AV)
 |[],σ=> .ok [] σ
 |e::es,σ=>(r.ev sc ρ σ e).bd fun v σ=>(evs r sc ρ es σ).bd fun vs σ=> .ok (v::vs) σ
noncomputable def star?(e:Expr):Bool:=Nat.beq e.ctorIdx 22
noncomputable def evPairs(r:Rec)(sc:Scope)(ρ:Loc):List (Option Expr)→List Expr→Store→Res (List (AV×AV))
 |[],[],σ=> .ok [] σ
 |some k::ks,v::vs,σ=>(r.ev sc ρ σ k).bd fun k σ=>(r.ev sc ρ σ v).bd fun v σ=>(evPairs r sc ρ ks vs σ).bd fun l σ=> .ok ((k,v)::l) σ
 |_,_,_=> .stuck
noncomputable def strKeys:List (AV×AV)→Option (List (Str×AV))
 |[]=>some []
 |p::r=>(asStr p.1).bind fun k=>(strKeys r).map fun l=>(k,p.2)::l
noncomputable def intKeys:List (AV×AV)→Option (List (Int×AV))
 |[]=>some []
 |p::r=>(asInt p.1).bind fun k=>(intKeys r).map fun l=>(k,p.2)::l
noncomputable def mergeI(l:List (Int×AV))(acc:List (Int×AV)):List (Int×AV):=match l with
 |[]=>acc
 |p::r=>mergeI r (putI p.1 p.2 acc)
noncomputable def dictA(l:List (AV×AV))(σ:Store):Res AV:=chk (Nat.ble l.length 1000) (els (strKeys l) (fun kvs=>alloc (.dstr (mergeA kvs [])) σ) (ofO (intKeys l) fun kvs=>alloc (.dint (mergeI kvs [])) σ))
noncomputable def goesOn:BoolOp→Bool→Bool
 | .And,b=>b
 | .Or,b=> !b
noncomputable def boolA(r:Rec)(sc:Scope)(ρ:Loc)(op:BoolOp):List Expr→Store→Res AV
 |[],_=> .stuck
 |e::es,σ=>match es with
  |[]=>r.ev sc ρ σ e
  |_::_=>(r.ev sc ρ σ e).bd fun v σ=>ofO (asBool v) fun b=>match goesOn op b with
   |true=>boolA r sc ρ op es σ
   |false=> .ok v σ
noncomputable def chainA(r:Rec)(sc:Scope)(ρ:Loc)(left:AV):List CmpOp→List Expr→Store→Res AV
 |[],_,_=> .stuck
 |op::ops,es,σ=>match es with
  |[]=> .stuck
  |e::es=>(r.ev sc ρ σ e).bd fun v σ=>ofO (cmpA σ op left v) fun b=>match ops with
   |[]=>chk es.isEmpty (.ok (.bool b) σ)
   |_::_=>match b with
    |true=>chainA r sc ρ v ops es σ
    |false=> .ok (.bool false) σ
noncomputable def isSet(e:Expr):Bool:=Nat.beq e.ctorIdx 7
noncomputable def optNat(r:Rec)(sc:Scope)(ρ:Loc)(e:Option Expr)(σ:Store):Res (Option Nat):=match e with
 |none=> .ok none σ
 |some e=>(r.ev sc ρ σ e).bd fun v σ=>ofO (natOf v) fun n=> .ok (some n) σ
noncomputable def compOk(sc csc:Scope):Bool:=isFn csc.kind&&csc.names.all fun p=>kOk p.2 (look p.1 sc.names) (look p.1 csc.names)
noncomputable def freeOnly(sc:Scope):Loc→Loc
 |[]=>[]
 |p::r=>cond (isK 2 (look p.1 sc.names)) (p::freeOnly sc r) (freeOnly sc r)
noncomputable def localIn(sc:Scope)(x:Str):Bool:=locK (look x sc.names)
theorem localIn_inv{sc:Scope}{x:Str}(h:localIn sc x=true):look x sc.names=some .local∨look x sc.names=some .cell:=by
 have h:locK (look x sc.names)=true:=h
 cases hk:look x sc.names with
 |none=>rw[hk]at h;exact Bool.noConfusion h
 |some k=>
  rw[hk]at h
  cases k with
  |«local» =>exact .inl rfl
  |cell=>exact .inr rfl
  |_=>exact Bool.noConfusion h
noncomputable def bindNames(sc:Scope):List Expr→List AV→Loc→Option Loc
 |[],[],ρ=>some ρ
 |t::ts,v::vs,ρ=>(nameV t).bind fun q=>chkO (localIn sc q.1) (bindNames sc ts vs ((q.1,v)::ρ))
 |[],_::_,_=>none
 |_::_,[],_=>none
noncomputable def bindA(sc:Scope)(t:Expr)(v:AV)(ρ:Loc):Option Loc:=match nameV t with
 |some q=>match localIn sc q.1 with
  |true=>some ((q.1,v)::ρ)
  |false=>none
 |none=>match tupV t with
  |some q=>match asTup v with
   |some vs=>bindNames sc q.1 vs ρ
   |none=>none
  |none=>none
noncomputable def testsA(r:Rec)(sc:Scope)(ρ:Loc):List Expr→Store→Res Bool
 |[],σ=> .ok true σ
 |e::es,σ=>(r.ts sc ρ σ e).bd fun b σ=>match b with
  |true=>testsA r sc ρ es σ
  |false=> .ok false σ
noncomputable def compGo(r:Rec)(sc:Scope)(ρ:Loc)(t:Expr)(ifs:List Expr)(elt:Expr):List AV→Store→Res (List AV)
 |[],σ=> .ok [] σ
 |x::xs,σ=>ofO (bindA sc t x ρ) fun ρ₁=>(testsA r sc ρ₁ ifs σ).bd fun b σ=>match b with
  |true=>(r.ev sc ρ₁ σ elt).bd fun y σ=>(compGo r sc ρ t ifs elt xs σ).bd fun ys σ=> .ok (y::ys) σ
  |false=>compGo r sc ρ t ifs elt xs σ
noncomputable def thaw{ε α:Type}(n:Nat)(xs:List AV)(m:Out ε α):Out ε α:=match m with
 | .stuck=> .stuck
 | .exc x σ=> .exc x (σ.set n (.list xs))
 | .ok a σ=> .ok a (σ.set n (.list xs))
noncomputable def over{ε α:Type}(v:AV)(σ:Store)(f:List AV→Store→Out ε α):Out ε α:=els (asTup v) (fun xs=>f xs σ) (ofO (listOf σ v) fun q=>thaw q.1 q.2 (f q.2 (σ.set q.1 .frozen)))
noncomputable def joinOk(x:Str):Bool:=Nat.ble x.length bound
noncomputable def smallInt(v:AV):Option Int:=match asInt v with
 |some i=>match decide (0≤i∧i<1000)with
  |true=>some i
  |false=>none
 |none=>none
noncomputable def fmtV:Expr→Option (Expr×Int×Option Expr×Pos)
 | .FormattedValue e c f p=>some (e,c,f,p)
 |_=>none
theorem fmtV_inv{e:Expr}{q:Expr×Int×Option Expr×Pos}(h:fmtV e=some q):e= .FormattedValue q.1 q.2.1 q.2.2.1 q.2.2.2:=by
 cases e with
 |FormattedValue _ _ _ _=>exact Option.some.inj h▸rfl
 |_=>exact noneNe h
noncomputable def joinA(r:Rec)(sc:Scope)(ρ:Loc):List Expr→Str→Store→Res Str
 |[],acc,σ=> .ok acc σ
 |e::es,acc,σ=>els (constV e) (fun q=>ofO (asText q.1) fun x=>chk (joinOk (acc++x)) (joinA r sc ρ es (acc++x) σ))
  (ofO (fmtV e) fun q=>chk (decide (q.2.1= -1)&&q.2.2.1.isNone) ((r.ev sc ρ σ q.1).bd fun v σ=>ofO (smallInt v) fun i=>chk (joinOk (acc++(toString i:Str))) (joinA r sc ρ es (acc++(toString i:Str)) σ)))
noncomputable def setS:Str:="set"
noncomputable def sortedS:Str:="sorted"
noncomputable def isBuiltinFn(v:Option AV)(id:String):Bool:=match v with
 |some (.fix (.builtin i))=>i==id
 |_=>false
noncomputable def isTypeFn(v:Option AV)(id:String):Bool:=match v with
 |some (.fix (.type i))=>i==id
 |_=>false
structure SortV where
 x:Str
 p:Pos
 c:CallV
 e:Expr
noncomputable def sortV(f:Expr)(args:List Expr):Option SortV:=match nameV f with
 |some q=>match one? args with
  |some a=>match callV a with
   |some c=>match one? c.args with
    |some e=>some ⟨q.1,q.2,c,e⟩
    |none=>none
   |none=>none
  |none=>none
 |none=>none
noncomputable def sortedSet?(P:Prg)(sc:Scope)(ρ:Loc)(f:Expr)(args:List Expr):Option Expr:=match sortV f args with
 |some v=>match isBuiltinFn (nameA P sc ρ v.x) "sorted"&&isTypeFn (nameA P sc ρ v.c.x) "set"&& !star? v.e with
  |true=>some v.e
  |false=>none
 |none=>none
theorem sortV_inv{f:Expr}{args:List Expr}{v:SortV}(h:sortV f args=some v):f= .Name v.x v.p∧args=[.Call (.Name v.c.x v.c.p1) [v.e] [] v.c.p2]:=by
 unfold sortV at h
 cases hf:nameV f with
 |none=>rw[hf]at h;exact noneNe h
 |some q=>
  rw[hf]at h;dsimp only at h
  cases ha:one? args with
  |none=>rw[ha]at h;exact noneNe h
  |some a=>
   rw[ha]at h;dsimp only at h
   cases hc:callV a with
   |none=>rw[hc]at h;exact noneNe h
   |some c=>
    rw[hc]at h;dsimp only at h
    cases he:one? c.args with
    |none=>rw[he]at h;exact noneNe h
    |some e=>
     rw[he]at h
     have h:=Option.some.inj h
     subst h
     exact⟨nameV_inv hf,by rw[one_inv ha,callV_inv hc,one_inv he]⟩
noncomputable def sortA(v:AV)(σ:Store):Res AV:=ofO (listOf σ v) fun q=>ofO (strs? q.2) fun l=>ofO (sortU l) fun ys=>alloc (.list (ys.map .str)) σ
noncomputable def callE(P:Prg)(r:Rec)(sc:Scope)(ρ:Loc)(σ:Store)(f:Expr)(args:List Expr)(pos:Pos):Res AV:=
 els (sortedSet? P sc ρ f args) (fun e=>(r.ev sc ρ σ e).bd sortA) (chk (!args.any star?) (els (attrV f)
  (fun a=>chk (baseOk a.1&&(Nat.beq a.2.2.endLine pos.line&&Nat.blt args.length 29)) ((r.ev sc ρ σ a.1).bd fun ov σ=>ofO (methB P σ ov a.2.1) fun k=>(evs r sc ρ args σ).bd fun vs σ=>methGo r ov k vs σ))
  ((r.ev sc ρ σ f).bd fun fv σ=>(evs r sc ρ args σ).bd fun vs σ=>applyA P r fv vs σ)))
noncomputable def evStep(P:Prg)(r:Rec)(sc:Scope)(ρ:Loc)(σ:Store):Expr→Res AV
 | .Constant c _ _=>orStuck (constA c) σ
 | .Name x _=>orStuck (nameA P sc ρ x) σ
 | .BoolOp op es _=>boolA r sc ρ op es σ
 | .BinOp a op b _=>(r.ev sc ρ σ a).bd fun x σ=>(r.ev sc ρ σ b).bd fun y σ=>binA σ op x y
 | .UnaryOp op e _=>match op with
   | .Not=>(r.ev sc ρ σ e).bd fun v σ=>ofO (asBool v) fun b=> .ok (.bool (!b)) σ
   | .USub=>(r.ev sc ρ σ e).bd fun v σ=>ofO (asInt v) fun i=> .ok (.int (-i)) σ
   |_=> .stuck
 | .IfExp t a b _=>(r.ts sc ρ σ t).bd fun c σ=>match c with
   |true=>r.ev sc ρ σ a
   |false=>r.ev sc ρ σ b
 | .Dict ks vs _=>chk ((Nat.ble ks.length 15&&Nat.blt 0 ks.length)&&(ks.all (·.isSome)&&Nat.beq ks.length vs.length)) ((evPairs r sc ρ ks vs σ).bd fun l σ=>dictA l σ)
 | .Tuple es _ _=>chk (!es.any star?) ((evs r sc ρ es σ).bd fun vs σ=>mkTup vs σ)
 | .List es _=>chk (!es.any star?) ((evs r sc ρ es σ).bd fun vs σ=>mkList vs σ)
 | .Compare l ops es _=>chk (!es.any isSet) ((r.ev sc ρ σ l).bd fun v σ=>chainA r sc ρ v ops es σ)
 | .Subscript o i _=>(r.ev sc ρ σ o).bd fun ov σ=>els (sliceV i) (fun q=>chk q.2.2.1.isNone ((optNat r sc ρ q.1 σ).bd fun l σ=>(optNat r sc ρ q.2.1 σ).bd fun h σ=>sliceA P σ ov (l.getD 0) h))
   ((r.ev sc ρ σ i).bd fun iv σ=>orStuck (itemA σ ov iv) σ)
 | .Attribute o name _=>chk (baseOk o) ((r.ev sc ρ σ o).bd fun ov σ=>attrA P ov name σ)
 | .ListComp elt gens csc pos=>ofO (genV elt gens csc pos) fun c=>chk (compOk sc c.csc&& !isSet c.it) ((r.ev sc ρ σ c.it).bd fun v σ=>(quiet (over v σ (compGo r c.csc (freeOnly c.csc ρ) c.t c.ifs c.elt))).bd fun ys σ=>mkList ys σ)
 | .JoinedStr es _=>chk (Nat.ble 2 es.length) ((joinA r sc ρ es Str.empty σ).bd fun x σ=> .ok (.str x) σ)
 | .Call f args [] pos=>callE P r sc ρ σ f args pos
 |_=> .stuck
noncomputable def allA(r:Rec)(sc:Scope)(ρ:Loc)(op:BoolOp):List Expr→Store→Res Bool
 |[],σ=> .ok (match op with| .And=>true| .Or=>false) σ
 |e::es,σ=>(r.ts sc ρ σ e).bd fun b σ=>match goesOn op b with
  |true=>allA r sc ρ op es σ
  |false=> .ok b σ
noncomputable def toBool(m:Res AV):Res Bool:=m.bd fun v σ=>ofO (asBool v) fun b=> .ok b σ
noncomputable def tsStep(P:Prg)(r:Rec)(sc:Scope)(ρ:Loc)(σ:Store):Expr→Res Bool
 | .UnaryOp .Not e _=>(r.ts sc ρ σ e).bd fun b σ=> .ok (!b) σ
 | .BoolOp op es _=>allA r sc ρ op es σ
 | .IfExp _ _ _ _=> .stuck
 | .Compare l ops es _=>chk (!es.any isSet) (toBool ((r.ev sc ρ σ l).bd fun v σ=>chainA r sc ρ v ops es σ))
 |e=>toBool (r.ev sc ρ σ e)
noncomputable def enumL(k:Nat):List AV→List AV
 |[]=>[]
 |x::xs=> .tup [.int k,x]::enumL (k+1) xs
noncomputable def rangeL(k:Nat):Nat→List AV
 |0=>[]
 |n+1=> .int k::rangeL (k+1) n
inductive IterK where
 |plain (e:Expr)
 |enum (e:Expr)
 |rng (e:Expr)
noncomputable def callV1(e:Expr):Option (CallV×Expr):=match callV e with
 |some c=>match one? c.args with
  |some a=>some (c,a)
  |none=>none
 |none=>none
theorem callV1_inv{e:Expr}{q:CallV×Expr}(h:callV1 e=some q):e= .Call (.Name q.1.x q.1.p1) [q.2] [] q.1.p2:=by
 unfold callV1 at h
 cases hc:callV e with
 |none=>rw[hc]at h;exact noneNe h
 |some c=>
  rw[hc]at h;dsimp only at h
  cases ha:one? c.args with
  |none=>rw[ha]at h;exact noneNe h
  |some a=>
   rw[ha]at h
   have h:=Option.some.inj h
   subst h
   rw[callV_inv hc,one_inv ha]
noncomputable def iterK(P:Prg)(sc:Scope)(ρ:Loc)(e:Expr):IterK:=match callV1 e with
 |some q=>match star? q.2 with
  |true=> .plain e
  |false=>match isTypeFn (nameA P sc ρ q.1.x) "enumerate" with
   |true=> .enum q.2
   |false=>match isTypeFn (nameA P sc ρ q.1.x) "range" with
    |true=> .rng q.2
    |false=> .plain e
 |none=> .plain e
noncomputable def forGo(r:Rec)(sc:Scope)(t:Expr)(body:List Stmt)(ρ:Loc):List AV→Store→ResL (Fl×Loc)
 |[],σ=> .ok (.next,ρ) σ
 |x::xs,σ=>ofO (bindA sc t x ρ) fun ρ₁=>(r.ex sc ρ₁ σ body).bd fun q σ=>match q.1 with
  | .next=>forGo r sc t body q.2 xs σ
  | .ret v=> .ok (.ret v,q.2) σ
noncomputable def whileGo(r:Rec)(sc:Scope)(t:Expr)(body:List Stmt):Nat→Loc→Store→ResL (Fl×Loc)
 |0,_,_=> .stuck
 |n+1,ρ,σ=>((r.ts sc ρ σ t).at ρ).bd fun b σ=>match b with
  |false=> .ok (.next,ρ) σ
  |true=>(r.ex sc ρ σ body).bd fun q σ=>match q.1 with
   | .next=>whileGo r sc t body n q.2 σ
   | .ret v=> .ok (.ret v,q.2) σ
noncomputable def turns:Nat:=1000
noncomputable def excOf(P:Prg)(a:Addr)(vs:List AV):Option XA:=match Nat.beq a P.pf with
 |true=>match two? vs with
  |some q=>match asStr q.1 with
   |some _=>some (.pf q.2)
   |none=>none
  |none=>none
 |false=>match Nat.beq a P.tf with
  |true=>match one? vs with
   |some v=>match asStr v with
    |some _=>some .tf
    |none=>none
   |none=>none
  |false=>none
noncomputable def refV(v:Option AV):Option Addr:=match v with
 |some v=>match v with
  | .fix u=>match u with
    | .ref a=>some a
    |_=>none
  |_=>none
 |none=>none
theorem refV_inv{v:Option AV}{a:Addr}(h:refV v=some a):v=some (.fix (.ref a)):=by
 cases v with
 |none=>exact noneNe h
 |some v=>
  cases v with
  |fix u=>
   cases u with
   |ref b=>exact Option.some.inj h▸rfl
   |_=>exact noneNe h
  |_=>exact noneNe h
noncomputable def raiseA(P:Prg)(r:Rec)(sc:Scope)(ρ:Loc)(σ:Store)(e:Expr):Res Unit:=ofO (callV e) fun c=>chk (!c.args.any star?) (ofO (refV (nameA P sc ρ c.x)) fun a=>(evs r sc ρ c.args σ).bd fun vs σ=>ofO (excOf P a vs) fun x=> .exc x σ)
noncomputable def placeS:Str:="place"
noncomputable def storeA(P:Prg)(r:Rec)(sc:Scope)(ρ:Loc)(t:Expr)(v:AV)(σ:Store):ResL (Fl×Loc):=els (attrV t)
 (fun a=>((r.ev sc ρ σ a.1).at ρ).bd fun ov σ=>ofO (instOf σ ov) fun q=>chk (P.attr q.2.1 a.2.1&&Nat.blt q.2.2.length 100) (.ok (.next,ρ) (σ.set q.1 (.inst q.2.1 (putS a.2.1 v q.2.2)))))
 (els (subV t) (fun a=>((r.ev sc ρ σ a.1).at ρ).bd fun ov σ=>((r.ev sc ρ σ a.2.1).at ρ).bd fun iv σ=>ofO (dstrOf σ ov) fun q=>ofO (asStr iv) fun k=>chk (Nat.ble q.2.length 1000) (.ok (.next,ρ) (σ.set q.1 (.dstr (putS k v q.2)))))
   (ofO (bindA sc t v ρ) fun ρ₁=> .ok (.next,ρ₁) σ))
noncomputable def raiseS:Stmt→Option (Option Expr×Option Expr×Pos)
 | .Raise e c p=>some (e,c,p)
 |_=>none
theorem raiseS_inv{st:Stmt}{q:Option Expr×Option Expr×Pos}(h:raiseS st=some q):st= .Raise q.1 q.2.1 q.2.2:=by
 cases st with
 |Raise _ _ _=>exact Option.some.inj h▸rfl
 |_=>exact noneNe h
noncomputable def raiseV(st:Stmt):Option (Expr×Pos):=match raiseS st with
 |some q=>match q.1 with
  |some e=>match q.2.1 with
   |none=>some (e,q.2.2)
   |some _=>none
  |none=>none
 |none=>none
theorem raiseV_inv{st:Stmt}{v:Expr×Pos}(h:raiseV st=some v):st= .Raise (some v.1) none v.2:=by
 unfold raiseV at h
 cases hq:raiseS st with
 |none=>rw[hq]at h;exact noneNe h
 |some q=>
  rw[hq]at h
  rw[raiseS_inv hq]
  obtain⟨e,c,p⟩:=q
  cases e with
  |none=>exact noneNe h
  |some e=>
   cases c with
   |none=>exact Option.some.inj h▸rfl
   |some _=>exact noneNe h
structure RaiseV where
 c:CallV
 z:Str
 k:Nat
 p3:Pos
 u:Str×Pos
noncomputable def excV(e:Expr):Option RaiseV:=match callV e with
 |some c=>match two? c.args with
  |some q=>match constV q.1 with
   |some z=>match asText z.1 with
    |some x=>match nameV q.2 with
     |some u=>some ⟨c,x,z.2.1,z.2.2,u⟩
     |none=>none
    |none=>none
   |none=>none
  |none=>none
 |none=>none
noncomputable def RaiseV.expr(v:RaiseV):Expr:= .Call (.Name v.c.x v.c.p1) [.Constant (.str v.z) v.k v.p3,.Name v.u.1 v.u.2] [] v.c.p2
theorem excV_inv{e:Expr}{v:RaiseV}(h:excV e=some v):e=v.expr:=by
 unfold excV at h
 cases hc:callV e with
 |none=>rw[hc]at h;exact noneNe h
 |some c=>
  rw[hc]at h;dsimp only at h
  cases ha:two? c.args with
  |none=>rw[ha]at h;exact noneNe h
  |some q=>
   rw[ha]at h;dsimp only at h
   cases hz:constV q.1 with
   |none=>rw[hz]at h;exact noneNe h
   |some z=>
    rw[hz]at h;dsimp only at h
    cases hx:asText z.1 with
    |none=>rw[hx]at h;exact noneNe h
    |some x=>
     rw[hx]at h;dsimp only at h
     cases hu:nameV q.2 with
     |none=>rw[hu]at h;exact noneNe h
     |some u=>
      rw[hu]at h
      have h:=Option.some.inj h
      subst h
      show _=Expr.Call (.Name c.x c.p1) [.Constant (.str x) z.2.1 z.2.2,.Name u.1 u.2] [] c.p2
      rw[callV_inv hc,two_inv ha,constV_inv hz,asText_inv hx,nameV_inv hu]
noncomputable def hType:ExceptHandler→Option Expr
 | .ExceptHandler t _ _ _=>t
noncomputable def hName:ExceptHandler→Option Str
 | .ExceptHandler _ n _ _=>n
noncomputable def hBody:ExceptHandler→List Stmt
 | .ExceptHandler _ _ b _=>b
noncomputable def hPos:ExceptHandler→Pos
 | .ExceptHandler _ _ _ p=>p
theorem h_eta(h:ExceptHandler):h= .ExceptHandler (hType h) (hName h) (hBody h) (hPos h):=by cases h;rfl
noncomputable def hitTf(P:Prg)(h:ExceptHandler)(c:Option AV):Option RaiseV:=match hName h with
 |some _=>none
 |none=>match one? (hBody h)with
  |some st=>match raiseV st with
   |some e=>match refV c with
    |some a=>match Nat.beq a P.tf with
     |true=>excV e.1
     |false=>none
    |none=>none
   |none=>none
  |none=>none
structure RetV where
 m:Str
 mp:Pos
 x:Str
 ap:Pos
 rp:Pos
noncomputable def retS:Stmt→Option (Option Expr×Pos)
 | .Return e p=>some (e,p)
 |_=>none
theorem retS_inv{st:Stmt}{q:Option Expr×Pos}(h:retS st=some q):st= .Return q.1 q.2:=by
 cases st with
 |Return _ _=>exact Option.some.inj h▸rfl
 |_=>exact noneNe h
noncomputable def retV(st:Stmt):Option RetV:=match retS st with
 |some q=>match q.1 with
  |some e=>match attrV e with
   |some a=>match nameV a.1 with
    |some n=>some ⟨n.1,n.2,a.2.1,a.2.2,q.2⟩
    |none=>none
   |none=>none
  |none=>none
 |none=>none
theorem retV_inv{st:Stmt}{v:RetV}(h:retV st=some v):st= .Return (some (.Attribute (.Name v.m v.mp) v.x v.ap)) v.rp:=by
 unfold retV at h
 cases hq:retS st with
 |none=>rw[hq]at h;exact noneNe h
 |some q=>
  rw[hq]at h
  rw[retS_inv hq]
  obtain⟨e,rp⟩:=q
  cases e with
  |none=>exact noneNe h
  |some e=>
   dsimp only at h
   cases ha:attrV e with
   |none=>rw[ha]at h;exact noneNe h
   |some a=>
    rw[ha]at h;dsimp only at h
    cases hn:nameV a.1 with
    |none=>rw[hn]at h;exact noneNe h
    |some n=>
     rw[hn]at h
     have h:=Option.some.inj h
     subst h
     rw[attrV_inv ha,nameV_inv hn]
noncomputable def hitPf(P:Prg)(sc:Scope)(h:ExceptHandler)(c:Option AV):Bool:=match hName h with
 |some n=>match one? (hBody h)with
  |some st=>match retV st with
   |some v=>match refV c with
    |some a=>okName n&&Nat.beq a P.pf&&sEq n v.m&&sEq v.x placeS&&(match look n sc.names with|some .local=>true|_=>false)
    |none=>false
   |none=>false
  |none=>false
 |none=>false
noncomputable def caught(P:Prg)(sc:Scope)(ρ:Loc)(h:ExceptHandler):Option AV:=match hType h with
 |some t=>match nameV t with
  |some q=>nameA P sc ρ q.1
  |none=>none
 |none=>none
noncomputable def onlyPf(m:Res Unit):Res Unit:=match m with
 | .exc (.pf v) σ=> .exc (.pf v) σ
 |_=> .stuck
noncomputable def tryA(P:Prg)(r:Rec)(sc:Scope)(ρ:Loc)(body:List Stmt)(h:ExceptHandler)(σ:Store):ResL (Fl×Loc):=match r.ex sc ρ σ body with
 | .stuck=> .stuck
 | .ok q σ=> .ok q σ
 | .exc x σ₁=>match x.1 with
   | .tf=>ofO (hitTf P h (caught P sc x.2 h)) fun v=>((onlyPf (raiseA P r sc x.2 σ₁ v.expr)).at x.2).bd fun _ _=> .stuck
   | .pf v=>chk (hitPf P sc h (caught P sc x.2 h)&&handA v) (.ok (.ret v,[]) σ₁)
noncomputable def plainV(e:Expr):Bool:= !(Nat.ble 8 e.ctorIdx&&Nat.ble e.ctorIdx 10)
noncomputable def isLoc(sc:Scope)(x:Str):Bool:=match look x sc.names with
 |some .local=>true
 |_=>false
noncomputable def swapOk(sc:Scope)(a b:Str×Pos)(x y:Expr):Bool:=(((isLoc sc a.1&&isLoc sc b.1)&&(!sEq a.1 b.1&&Nat.beq b.2.line a.2.line))&&(!star? x&& !star? y))&&(!([x,y].all (foldedForSure 8))&& !([x,y].all (constantsAlone 8)))
noncomputable def names2(ts:List Expr):Option ((Str×Pos)×(Str×Pos)):=match two? ts with
 |some q=>match nameV q.1 with
  |some a=>match nameV q.2 with
   |some b=>some (a,b)
   |none=>none
  |none=>none
 |none=>none
theorem names2_inv{ts:List Expr}{q:(Str×Pos)×(Str×Pos)}(h:names2 ts=some q):ts=[.Name q.1.1 q.1.2,.Name q.2.1 q.2.2]:=by
 unfold names2 at h
 cases ha:two? ts with
 |none=>rw[ha]at h;exact noneNe h
 |some p=>
  rw[ha]at h;dsimp only at h
  cases h1:nameV p.1 with
  |none=>rw[h1]at h;exact noneNe h
  |some a=>
   rw[h1]at h;dsimp only at h
   cases h2:nameV p.2 with
   |none=>rw[h2]at h;exact noneNe h
   |some b=>
    rw[h2]at h
    have h:=Option.some.inj h
    subst h
    rw[two_inv ha,nameV_inv h1,nameV_inv h2]
noncomputable def swapTup(sc:Scope)(ts vs:List Expr):Bool:=match names2 ts with
 |some q=>match two? vs with
  |some v=>swapOk sc q.1 q.2 v.1 v.2
  |none=>false
 |none=>false
noncomputable def isList(e:Expr):Bool:=Nat.beq e.ctorIdx 24
noncomputable def assignOk(sc:Scope)(t v:Expr):Bool:=match tupV t with
 |some t=>match tupV v with
  |some v=>swapTup sc t.1 v.1
  |none=>plainV v
 |none=>match isList t with
  |true=>false
  |false=>plainV v
noncomputable def compSwap(sc csc:Scope)(x:Str)(px cpos:Pos):Bool:=(isLoc sc x&&Nat.beq px.line cpos.line)&&csc.names.all fun p=>match sEq p.1 x with
 |true=>match p.2 with
  | .local=>false
  | .cell=>false
  |_=>true
 |false=>true
noncomputable def assignA(P:Prg)(r:Rec)(sc:Scope)(ρ:Loc)(σ:Store)(t v:Expr):ResL (Fl×Loc):=els (compParts v)
 (fun c=>ofO (nameV t) fun q=>chk ((compOk sc c.csc&& !isSet c.it)&&compSwap sc c.csc q.1 q.2 c.pos) ((Out.at ((r.ev sc ρ σ c.it).bd fun v σ=>(quiet (over v σ (compGo r c.csc (freeOnly c.csc ρ) c.t c.ifs c.elt))).bd fun ys σ=>mkList ys σ) ρ).bd fun v σ=> .ok (.next,(q.1,v)::ρ) σ))
 (chk (assignOk sc t v) (((r.ev sc ρ σ v).at ρ).bd fun v σ=>storeA P r sc ρ t v σ))
noncomputable def forBy(P:Prg)(r:Rec)(sc:Scope)(ρ:Loc)(σ:Store)(t:Expr)(body:List Stmt)(k:IterK):ResL (Fl×Loc):=match k with
 | .plain e=>((r.ev sc ρ σ e).at ρ).bd fun v σ=>over v σ (forGo r sc t body ρ)
 | .enum e=>chk (tupV t).isSome (((r.ev sc ρ σ e).at ρ).bd fun v σ=>over v σ fun xs σ=>forGo r sc t body ρ (enumL 0 xs) σ)
 | .rng e=>((r.ev sc ρ σ e).at ρ).bd fun v σ=>ofO (natOf v) fun n=>chk (Nat.ble n 1000) (forGo r sc t body ρ (rangeL 0 n) σ)
noncomputable def exStep(P:Prg)(r:Rec)(sc:Scope)(ρ:Loc)(σ:Store):Stmt→ResL (Fl×Loc)
 | .Assign ts v _=>ofO (one? ts) fun t=>assignA P r sc ρ σ t v
 | .Expr e _=>chk (plainV e) (((r.ev sc ρ σ e).at ρ).bd fun v σ=>chk (noneV v) (.ok (.next,ρ) σ))
 | .If t a b _=>((r.ts sc ρ σ t).at ρ).bd fun c σ=>match c with
   |true=>r.ex sc ρ σ a
   |false=>r.ex sc ρ σ b
 | .Return e _=>ofO e fun e=>((r.ev sc ρ σ e).at ρ).bd fun v σ=> .ok (.ret v,ρ) σ
 | .For t it body els _=>chk (els.isEmpty&& !isSet it) (forBy P r sc ρ σ t body (iterK P sc ρ it))
 | .While t body els _=>chk els.isEmpty (quiet (whileGo r sc t body turns ρ σ))
 | .Raise e c _=>chk c.isNone (ofO e fun e=>((raiseA P r sc ρ σ e).at ρ).bd fun _ _=> .stuck)
 | .Try body hs els fin _=>chk (els.isEmpty&&fin.isEmpty) (ofO (one? hs) fun h=>tryA P r sc ρ body h σ)
 |_=> .stuck
noncomputable def exsStep(P:Prg)(r:Rec)(sc:Scope)(ρ:Loc)(σ:Store):List Stmt→ResL (Fl×Loc)
 |[]=> .ok (.next,ρ) σ
 |st::rest=>(exStep P r sc ρ σ st).bd fun q σ=>match q.1 with
  | .next=>r.ex sc q.2 σ rest
  | .ret v=> .ok (.ret v,q.2) σ
noncomputable def zipP:List Str→List AV→Option Loc
 |[],vs=>match vs with
  |[]=>some []
  |_::_=>none
 |x::xs,vs=>match vs with
  |[]=>none
  |v::vs=>(zipP xs vs).map fun ρ=>(x,v)::ρ
noncomputable def excPl:XA→AV
 | .pf v=>v
 | .tf=> .none
noncomputable def outOf(n:Nat)(m:ResL (Fl×Loc)):Res AV:=match m with
 | .stuck=> .stuck
 | .exc x σ₁=> .exc x.1 (trunc n (excPl x.1) σ₁)
 | .ok q σ₁=>match q.1 with
   | .next=> .ok .none (trunc n .none σ₁)
   | .ret v=> .ok v (trunc n v σ₁)
@[irreducible] noncomputable def callStep (P:Prg) (r:Rec) (a:Addr) (vs:List AV) (σ:Store):Res AV:=ofO (P.fn a) fun f=>ofO (zipP f.params vs) fun ρ=>outOf σ.length (r.ex f.scope ρ σ f.body)
noncomputable def recStep(P:Prg)(r:Rec):Rec:=⟨evStep P r,tsStep P r,exsStep P r,callStep P r⟩
noncomputable def rec0:Rec:=⟨fun _ _ _ _=> .stuck,fun _ _ _ _=> .stuck,fun _ _ _ _=> .stuck,fun _ _ _=> .stuck⟩
noncomputable def run(P:Prg):Nat→Rec
 |0=>rec0
 |n+1=>recStep P (run P n)
noncomputable def mainBody:List Stmt:=PySem.Challenge.pw_pq0028_01.main.body
noncomputable def defV:Option Stmt→Option (Str×Arguments×List Stmt×Scope)
 |some (.FunctionDef name args body _ _ _ scope _ _ _)=>some (name,args,body,scope)
 |_=>none
noncomputable def fnOf(o:Option Stmt):Option Fn:=(defV o).map fun q=>⟨q.2.1.args.map (·.arg),q.2.2.1,q.2.2.2⟩
noncomputable def clsOf:Option Stmt→List Stmt
 |some (.ClassDef _ _ _ body _ _ _ _ _ _ _)=>body
 |_=>[]
noncomputable def defAt(i:Nat):Option Fn:=fnOf mainBody[i]?
noncomputable def methAt(i j:Nat):Option Fn:=fnOf (clsOf mainBody[i]?)[j]?
noncomputable def fnTab:List (Nat×Option Fn):=[(109,defAt 7),(114,defAt 8),(119,defAt 9),(124,defAt 10),(131,defAt 11),(138,defAt 12),(152,defAt 15),(157,defAt 16),
 (209,methAt 23 0),(216,methAt 23 1),(221,methAt 23 2),(250,defAt 24),(269,methAt 26 0),(283,methAt 26 2),(290,methAt 26 3),(297,methAt 26 4),(304,methAt 26 5),(323,methAt 28 0),
 (344,defAt 30),(365,defAt 32),(372,defAt 33),(377,defAt 34),(384,defAt 35),(389,defAt 36),(394,defAt 37),(401,defAt 38),(408,defAt 39)]
noncomputable def fnAt(a:Addr):Option Fn:=(lookN a fnTab).bind id
noncomputable def methTab:List (Nat×List (Str×Addr)):=[(241,[(Str.ofString "__init__",209),(Str.ofString "told_sides",216),(Str.ofString "rule_sides",221)]),(307,[(Str.ofString "__init__",269),(Str.ofString "sides",283),(Str.ofString "stepped",290),(Str.ofString "walk",297),(Str.ofString "paper_of",304)]),(333,[(Str.ofString "__init__",323)])]
noncomputable def attrTab:List (Nat×List (Str×Unit)):=[(241,[(Str.ofString "rules",()),(Str.ofString "told",())]),(307,[(Str.ofString "judge",())]),(333,[(Str.ofString "name",()),(Str.ofString "left",()),(Str.ofString "right",()),(Str.ofString "needs",())])]
noncomputable def attrOf(C:Addr)(x:Str):Bool:=((lookN C attrTab).bind (look x)).isSome
noncomputable def methTo(C:Addr)(x:Str):Option Addr:=(lookN C methTab).bind (look x)
noncomputable def initOf(C:Addr):Option Addr:=methTo C "__init__"
noncomputable def isClsA(a:Addr):Bool:=(lookN a methTab).isSome
noncomputable def sA:AV:= .str "a"
noncomputable def sB:AV:= .str "b"
noncomputable def sF:AV:= .str "f"
noncomputable def sG:AV:= .str "g"
noncomputable def lawTerms:AV:= .tup [.tup [sG,.tup [sA],.tup [sB]],.tup [sF,.tup [sF,.tup [sA]]],.tup [sA],.tup [sG,.tup [sF,.tup [sB]],.tup [sF,.tup [sF,.tup [sB]]]]]
noncomputable def fx(a:Addr):AV:= .fix (.ref a)
noncomputable def nv(x:String)(v:AV):Str×AV:=(Str.ofString x,v)
noncomputable def globTab:List (Str×AV):=[nv "len" (.fix (.builtin "len")),nv "isinstance" (.fix (.builtin "isinstance")),nv "sum" (.fix (.builtin "sum")),nv "sorted" (.fix (.builtin "sorted")),
 nv "tuple" (.fix (.type "tuple")),nv "str" (.fix (.type "str")),nv "int" (.fix (.type "int")),nv "bool" (.fix (.type "bool")),nv "list" (.fix (.type "list")),nv "dict" (.fix (.type "dict")),nv "set" (.fix (.type "set")),
 nv "enumerate" (.fix (.type "enumerate")),nv "range" (.fix (.type "range")),nv "zip" (.fix (.type "zip")),
 nv "is_variable" (fx 109),nv "variables" (fx 114),nv "placed" (fx 119),nv "parts" (fx 124),nv "part_at" (fx 131),nv "replaced" (fx 138),nv "is_plain_term" (fx 152),nv "are_places" (fx 157),nv "is_step" (fx 250),
 nv "_law_told" (fx 344),nv "_law_draw" (fx 365),nv "_law_turns" (fx 372),nv "_law_steps" (fx 377),nv "_law_put" (fx 384),nv "_law_size" (fx 389),nv "_law_drawn" (fx 394),nv "_law_spoiled" (fx 401),nv "_law_place" (fx 408),
 nv "Rule" (fx 333),nv "Judge" (fx 241),nv "Steps" (fx 307),nv "PaperFault" (fx 100),nv "TermFault" (fx 60),nv "_law_terms" (lawTerms)]
noncomputable def globOf(x:Str):Option AV:=look x globTab
noncomputable def prg(sc:Addr→Option (List Int)):Prg:={glob:=globOf,fn:=fnAt,cls:=isClsA,meth:=methTo,init:=initOf,pf:=100,tf:=60,script:=sc,attr:=attrOf}
noncomputable def lawFn:Option Fn:=defAt 40
noncomputable def lawA(n:Nat)(a:Addr)(cells:List Int):ResL (Fl×Loc):=match lawFn with
 |some f=>match f.params with
  |[x]=>(run (prg fun b=>match Nat.beq b a with|true=>some cells|false=>none) n).ex f.scope [(x,.fix (.ref a))] [] f.body
  |_=> .stuck
 |none=> .stuck
end Mine
end
section
namespace Mine
open PySem PyProof.Rows
noncomputable def strV:Value→Str
 | .str x _=>x
 |_=>Str.empty
noncomputable def keysV(es:Array (Int×Value)):List Str:=es.toList.map fun e=>strV e.2
noncomputable def SetG(prog:Program)(w:World)(h:Heap)(a:Addr)(L:List Str):Prop:=
 ∃o es ep t,h.get? a=some o∧o.ExactSet∧o.data= .set es ep t∧ElemsOf (strKind prog w) es.toList∧(keysV es).Perm L∧t.fits es.size=true∧t.led=(!w.params.followText "set-order")∧(es.size≠0→t.plain=false)
theorem layNew_led(t:SetTable)(es:Array (Int×Value))(h:Int)(x:Value):(layNew t es h x).2.1.led=t.led:=by
 unfold layNew
 split
 ·dsimp only
  unfold SetTable.orStandIn
  split<;>rfl
 ·rfl
theorem layNew_plain(t:SetTable)(es:Array (Int×Value))(h:Int)(x:Value):(layNew t es h x).2.1.plain=true→t.plain=true:=by
 unfold layNew
 split
 ·dsimp only
  unfold SetTable.orStandIn
  split
  ·exact id
  ·intro e;cases e
 ·intro e;cases e
set_option tactic.hygienic true in
theorem relay_led(t:SetTable)(es:Array (Int×Value))(n:Nat):(relayAll t es n).2.1.led=t.led∧((relayAll t es n).2.1.plain=true→t.plain=true):=by
 unfold relayAll
 split
 ·rename_i t' order e
  dsimp only
  split
  ·unfold SetTable.relaid SetTable.laid at e
   cases hq:SetTable.layClean (SetTable.sizeAbove n - 1) (es.map (·.1))with
   |none=>rw[hq]at e;cases e
   |some ow=>
    rw[hq]at e
    cases e
    exact⟨rfl,id⟩
  ·exact⟨rfl,fun e=>by cases e⟩
 ·exact⟨rfl,fun e=>by cases e⟩
section
variable{prog:Program}{w:World}{A:Around}{E:Value→Shared→Prop}{s:Shared}
theorem elem_str{es:List (Int×Value)}(h:ElemsOf (strKind prog w) es){e:Int×Value}(he:e∈es):∃t,e.2= .str (strV e.2) t:=by
 obtain⟨⟨k,hk,_⟩,_⟩:=h e he
 refine ea10 (Value.isStrOf_shape hk) fun t ht=>?_
 exact⟨t,by rw[ht];rfl⟩
theorem keysV_size(es:Array (Int×Value)):(keysV es).length=es.size:=by simp[keysV]
theorem keysV_perm{es es':Array (Int×Value)}(h:es'.toList.Perm es.toList):(keysV es').Perm (keysV es):=h.map _
end
end Mine
end
section
namespace Mine
open PySem PyProof.Rows
section
variable{prog:Program}{w:World}{A:Around}{E:Value→Shared→Prop}{s:Shared}
theorem store_get{h:Heap}{a:Addr}{o:Obj}{es:Array (Int×Value)}{ep:Nat}{t:SetTable}(ho:h.get? a=some o)(hd:o.data= .set es ep t)(es':Array (Int×Value))(t':SetTable):
 (h.update a (Obj.putSet es' t')).get? a=some {o with data:= .set es' (ep+1) t'}:=by
 have :=Heap.get?_update_self (Obj.putSet es' t') ho (by rw[putSet_of es' t' hd];rfl)
 rw[putSet_of es' t' hd]at this;exact this
theorem add_end{a:Addr}{o:Obj}{es:Array (Int×Value)}{ep:Nat}{t:SetTable}{g:Bool→Sem Unit}(hg:∀(b:Bool) (s₁:Shared) (Q':Unit→Shared→Prop),Q' () s₁→wpAny (model prog w) A (g b) Q' E s₁)
 (ho:s.heap.get? a=some o) (hex:o.ExactSet) (hd:o.data= .set es ep t) {es1:Array (Int×Value)} {t2:SetTable} {L:List Str} (hel:ElemsOf (strKind prog w) es1.toList) (hp:(keysV es1).Perm L) (hb:es1.size<scanBound)
 (hf:t2.fits es1.size=true) (hled:t2.led=(!w.params.followText "set-order")) (hpl:t2.plain=false) {wasDummy:Bool} {R:Option Bool→Shared→Prop}
 (h:∀h',Heap.SameBut a s.heap h'→SetG prog w h' a L→R (some true) {s with heap:=h'}):
 wpAny (model prog w) A (do
  storeSet a es1 t2
  if(!wasDummy&&t2.tooFull)=true then do
     g (relayAll t2 es1 (SetTable.grown es1.size)).2.2
     storeSet a (relayAll t2 es1 (SetTable.grown es1.size)).1 (relayAll t2 es1 (SetTable.grown es1.size)).2.1
     pure (some true)
   else pure (some true)) R E s:=by
 have g1:=store_get ho hd es1 t2
 have b1:=Heap.SameBut.update s.heap a (Obj.putSet es1 t2)
 refine wpAny_bind (wpAny_storeSet_of ho hd ?_ (fits_of_scanBound hb))
 split
 ·refine ea01 (relay_led t2 es1 (SetTable.grown es1.size)) fun q1 q2=>?_
  have q3:=relayAll_perm t2 es1 (SetTable.grown es1.size)
  have q4:=relayAll_fits t2 es1 (SetTable.grown es1.size)
  generalize relayAll t2 es1 (SetTable.grown es1.size)=Z at q1 q2 q3 q4
  obtain⟨es2,t3,gv⟩:=Z
  dsimp only at q1 q2 q3 q4 ⊢
  have z:es2.size=es1.size:=by rw[←Array.length_toList,q3.length_eq,Array.length_toList]
  have hb2:es2.size<scanBound:=by rw[z];exact hb
  refine wpAny_bind (hg _ _ _ ?_)
  refine wpAny_bind (wpAny_storeSet_of g1 rfl ?_ (fits_of_scanBound hb2))
  refine wpAny_pure (h _ (b1.trans (Heap.SameBut.update _ a _)) ⟨_,es2,_,t3,store_get g1 rfl es2 t3,hex,rfl,hel.perm q3,(keysV_perm q3).trans hp,q4,q1.trans hled,fun _=>?_⟩)
  cases e:t3.plain with
  |false=>rfl
  |true=>rw[q2 e]at hpl;cases hpl
 ·exact wpAny_pure (h _ b1 ⟨_,es1,_,t2,g1,hex,rfl,hel,hp,hf,hled,fun _=>hpl⟩)
set_option tactic.hygienic true in
theorem setG_add{a:Addr}{L:List Str}{x:Str}{u:Tok}{Q:Bool→Shared→Prop}(hS:SetG prog w s.heap a L)(hl:L.length≤1000)
 (h:∀h' b,Heap.SameBut a s.heap h'→SetG prog w h' a (if x∈L then L else L++[x])→Q b {s with heap:=h',toks:=s.toks+1}):wpAny (model prog w) A (setAdd a (.str x u)) Q E s:=by
 refine ea45 hS fun o es ep t ho hex hd hel hpm h1=>?_;clear hS;refine ea02 h1 fun hf hled hpl=>?_;clear h1
 have hn:es.size=L.length:=by rw[←keysV_size,hpm.length_eq]
 have hb:es.size<scanBound:=by unfold scanBound;omega
 have hk:=strKind_is prog w x u
 unfold setAdd
 refine wpAny_holding ?_
 refine wpAny_bind ((strKind prog w).pyHash (k:=x) hk ?_)
 unfold setAddHashed setAddHashedIn
 refine wpAny_holding (wpAny_bind (wpAny_setState_of (s:={s with toks:=s.toks+1}) ho hd hf ?_))
 dsimp only
 rw[byScan_of rfl hb hel]
 simp only [↓reduceIte]
 unfold setAddByScan
 refine wpAny_bind ?_
 refine wpAny_bind (wpAny_rule ?_)
 refine wpAny_bind (wpAny_setScan_of (s:={s with toks:=s.toks+1}) hk ho hd hf hel ?_)
 cases hr:List.findIdx? (fun e=>(strKind prog w).is x e.2) es.toList with
 |some j=>
  dsimp only
  obtain⟨hj,hpj,_⟩:=List.findIdx?_eq_some_iff_getElem.mp hr
  have hm:x∈L:=by
   refine hpm.mem_iff.mp (List.mem_map.mpr ⟨es.toList[j],List.getElem_mem hj,?_⟩)
   refine ea10 (Value.isStrOf_shape hpj) fun t' ht'=>?_
   rw[ht']
   rfl
  refine wpAny_pure (wpAny_pure ?_)
  have :=h s.heap false (Heap.SameBut.refl a s.heap) (by rw[if_pos hm];exact⟨o,es,ep,t,ho,hex,hd,hel,hpm,hf,hled,hpl⟩)
  exact this
 |none=>
  dsimp only
  have hm:x∉L:=fun hm=>by
   refine ea11 (List.mem_map.mp (hpm.mem_iff.mpr hm)) fun e he hx=>?_
   have :=List.findIdx?_eq_none_iff.mp hr e he
   refine ea10 (elem_str hel he) fun t' ht'=>?_
   rw[ht',hx,strKind_is]at this
   cases this
  have hgw:∀(b:Bool) {s₁:Shared} {Q':Unit→Shared→Prop},Q' () s₁→wpAny (model prog w) A (match b with|true=>rule "set.scan.the-table-gave-way"|false=>pure ()) Q' E s₁:=
   fun b s₁ Q' hq=>by cases b<;>first |exact wpAny_pure hq|exact wpAny_rule hq
  have p1:=layNew_perm t es ((strKind prog w).hash x) (.str x u)
  have p2:=layNew_fits t es ((strKind prog w).hash x) (.str x u)
  have p3:=layNew_led t es ((strKind prog w).hash x) (.str x u)
  generalize layNew t es ((strKind prog w).hash x) (.str x u)=Z at p1 p2 p3
  obtain⟨es1,t1,wd,gv⟩:=Z
  dsimp only at p1 p2 p3 ⊢
  rw[Array.toList_push]at p1
  have hel1:ElemsOf (strKind prog w) es1.toList:=(hel.push hk rfl).perm p1
  have hp1:(keysV es1).Perm (L++[x]):=by
   refine(p1.map _).trans ?_
   rw[List.map_append]
   exact List.Perm.append hpm (List.Perm.refl _)
  have hb1:es1.size<scanBound:=by
   rw[←keysV_size,hp1.length_eq,List.length_append,List.length_singleton]
   unfold scanBound;omega
  refine wpAny_bind (hgw _ ?_)
  have fin:∀h',Heap.SameBut a s.heap h'→SetG prog w h' a (L++[x])→Q true {s with heap:=h',toks:=s.toks+1}:=fun h' hs hS=>h h' true hs (by rw[if_neg hm];exact hS)
  have hgg:∀(b:Bool) (s₁:Shared) (Q':Unit→Shared→Prop),Q' () s₁→wpAny (model prog w) A (match b with|true=>rule "set.scan.the-table-gave-way"|false=>pure ()) Q' E s₁:=fun b s₁ Q' hq=>hgw b hq
  split
  ·refine wpAny_bind ?_
   rw[hashByValue_scannable 8 rfl]
   refine wpAny_pure ?_
   exact add_end (s:={s with toks:=s.toks+1}) hgg ho hex hd hel1 hp1 hb1 (SetTable.fits_plain_off p2) (p3.trans hled) rfl fun h' hs hS=>wpAny_pure (fin h' hs hS)
  ·rename_i hq
   refine wpAny_bind (wpAny_pure ?_)
   simp only [↓reduceIte]
   exact add_end (s:={s with toks:=s.toks+1}) hgg ho hex hd hel1 hp1 hb1 p2 (p3.trans hled) (Bool.not_eq_true _▸hq) fun h' hs hS=>wpAny_pure (fin h' hs hS)
end
end Mine
end
section
namespace Mine
open PySem PyProof.Rows
theorem SetG.at{prog:Program}{w:World}{h h':Heap}{a:Addr}{L:List Str}(x:SetG prog w h a L)(e:∀o,h.get? a=some o→h'.get? a=some o):SetG prog w h' a L:=
 let ⟨o,es,ep,t,ho,r⟩:=x;⟨o,es,ep,t,e _ ho,r⟩
noncomputable def dd(acc:List Str):List Str→List Str
 |[]=>acc
 |x::r=>dd (if x∈acc then acc else acc++[x]) r
section
variable{prog:Program}{w:World}{A:Around}{E:Value→Shared→Prop}{s:Shared}{R:Result→Shared→Prop}
set_option tactic.hygienic true in
theorem set_loop(hh:A.in1.handled=none){S I ax:Addr}(hne:ax≠I)(hSI:S≠I)(hSa:S≠ax){vs:List Value}{r:List Value}{ks:List Str}(hk:StrsAre r ks):∀(i:Nat) (acc:List Str) (s:Shared) {R:Result→Shared→Prop},vs.drop i=r→acc.length+r.length≤1000→
 (s.heap.IsListIter I ax i∧s.heap.IsList ax vs.toArray)→SetG prog w s.heap S acc→(∀h' tk,(∀b o,b≠S→b≠I→s.heap.get? b=some o→h'.get? b=some o)→SetG prog w h' S (dd acc ks)→R (.ok (.ret .none)) {s with heap:=h',toks:=tk})→
 codeAny (model prog w) A (.builtin "set.update.loop" ⟨[.ref S,.ref I],[]⟩) R s:=by
 have W:=Walks.list (prog:=prog) (w:=w) hh I ax hne vs.toArray
 induction hk with
 |nil=>
  intro i acc s R hd _ hst hS hR
  refine codeAny_builtin F.entry_set_update_loop ?_
  rw[Around.under_plainId F.plain_set_update_loop _]
  show wpAny _ A.in1 (pyNext (.ref I) >>= _) _ _ s
  have hge:vs.length≤i:=List.drop_eq_nil_iff.mp hd
  have hst':s.heap.IsListIter I ax vs.toArray.size∨vs.toArray.size≤i:= .inr (by simpa using hge)
  refine wpAny_bind (wpAny_pyNext_list_end hh hst.1 hst.2 (by simp[hge]) fun h' he'=>?_)
  refine wpAny_pure (hR h' s.toks (fun b o _ hb e=>he' b o hb e) (hS.at fun o e=>he' S o hSI e))
 |cons x u hr ih=>
  rename_i vs' ks'
  intro i acc s R hd hlen hst hS hR
  have hi:vs[i]? =some (.str x u):=by
   have :=congrArg (·[0]?) hd
   simpa using this
  have hlt:i<vs.length:=(List.getElem?_eq_some_iff.mp hi).1
  refine codeAny_builtin F.entry_set_update_loop ?_
  rw[Around.under_plainId F.plain_set_update_loop _]
  show wpAny _ A.in1 (pyNext (.ref I) >>= _) _ _ s
  refine wpAny_bind (W.item i s _ _ (by simpa using hlt) hst fun v h1 tk hP hst1 hm=>?_)
  have hv:v= .str x u:=by
   have hP:vs.toArray[i]? =some v:=hP
   rw[List.getElem?_toArray,hi]at hP
   exact(Option.some.inj hP).symm
  subst hv
  have hS1:SetG prog w h1 S acc:=hS.at fun o e=>hm S o (by simp[hSI]) e
  show wpAny _ A.in1 (holding [Value.str x u] (setAdd S (.str x u)) >>= _) _ _ {s with heap:=h1,toks:=tk}
  refine wpAny_bind (wpAny_holding (setG_add (s:={s with heap:=h1,toks:=tk}) hS1 (by simp only [List.length_cons]at hlen;omega) fun h2 b hsb hS2=>?_))
  refine wpAny_pure ⟨plainId_quiet F.plain_set_update_loop _,ih (i+1) _ {s with heap:=h2,toks:=tk+1} ?_ ?_ ?_ hS2 fun h' tk' hk' hS'=>?_⟩
  ·rw[←List.drop_drop,List.drop_one]at*
   rw[hd];rfl
  ·simp only [List.length_cons]at hlen
   split
   ·omega
   ·rw[List.length_append,List.length_singleton];omega
  ·exact W.frame (i+1) h1 h2 hst1 fun b hb o e=>(hsb.2 b (by
    simp only [List.mem_cons,List.not_mem_nil,or_false]at hb
    rcases hb with rfl|rfl
    ·exact Ne.symm hSI
    ·exact Ne.symm hSa)).trans e
  ·exact hR h' tk' (fun b o hbS hbI e=>hk' b o hbS hbI ((hsb.2 b hbS).trans (hm b o (by simp[hbI]) e))) hS'
end
end Mine
end
section
namespace Mine
open PySem PyProof.Rows
section
variable{prog:Program}{w:World}{A:Around}{E:Value→Shared→Prop}{s:Shared}
noncomputable def setObj(w:World):Obj:={cls:= .type "set",dict:=none,data:= .set #[] 0 (.fresh 0 0 (!w.params.followText "set-order"))}
theorem set_new(a:Value){Q₁:Value→Shared→Prop}(h:Q₁ (.ref s.heap.objs.size) {s with heap:=s.heap.push (setObj w)}):
 codeAny (model prog w) A (.call (.builtin "set.__new__") ⟨[.type "set",a],[]⟩) (wants Q₁ E) s:=by
 refine codeAny_of_tree ?_
 show wpAny _ A.in1 (do checkBuiltinCall "set.__new__" ⟨[.type "set",a],[]⟩;again (.builtin "set.__new__" ⟨[.type "set",a],[]⟩)) _ _ s
 refine wpAny_bind (wpAny_of_eq (F.newCall_set_1 a) (wpAny_pure ⟨plainId_quiet F.plain_set_new _,codeAny_builtin F.entry_set_new ?_⟩))
 rw[Around.under_plainId F.plain_set_new _]
 unfold Builtin.«set.__new__» Builtin.Frozenset.newClass
 have hsub:=sub_set_self
 obtain⟨hp,g,d,tk,os⟩:=s
 dsimp only
 wp_walk
 refine wpAny_askSetting (wpAny_pure ?_)
 dsimp only
 simp only [newObj]
 refine wpAny_bind (wpAny_alloc (wpAny_pure ?_))
 exact wpAny_pure h
theorem set_fresh{h:Heap}{a:Addr}(ho:h.get? a=some (setObj w)):SetG prog w h a []:=
 ⟨_,#[],0,_,ho,⟨rfl,rfl,rfl⟩,rfl,fun e he=>(by simp at he),List.Perm.refl _,rfl,rfl,fun e=>absurd rfl e⟩
theorem set_call{l:Addr}{vs:List Value}{ks:List Str}{Q:Value→Shared→Prop}(hh:A.handled=none)(hl:s.heap.IsList l vs.toArray)(hk:StrsAre vs ks)(hn:vs.length≤1000)
 (h:∀h' tk,SetG prog w h' s.heap.objs.size (dd [] ks)→(∀b o,s.heap.get? b=some o→h'.get? b=some o)→Q (.ref s.heap.objs.size) {s with heap:=h',toks:=tk}):wpAny (model prog w) A (call (.type "set") [.ref l]) Q E s:=by
 refine ea20 (F.called_set.mro) fun c tl hmro=>?_
 have hmade:=F.called_set.made
 have hsub:=F.called_set.sub
 refine wpAny_call (codeAny_of_tree ?_)
 show wpAny _ _ (callAny (.type "set") _) _ _ _
 refine wpAny_pure ⟨Code.quiet_builtin _ (by decide+kernel),codeAny_builtin F.entry_type_call ?_⟩
 rw[Around.under_plain (weight_type_call_type "set" [.ref l] []) rfl]
 have h1:=F.called_set.notType
 have h2:=F.called_set.canCreate
 have hct:=F.typeCall_set_1 (.ref l)
 repeat(any_goals (first |assumption|wp_step))
 refine codeAny_mono (set_new (.ref l) (E:=E) (Q₁:=fun obj s₁=>obj= .ref s.heap.objs.size∧s₁={s with heap:=s.heap.push (setObj w)}) ⟨rfl,rfl⟩) fun r s₁ hr=>?_
 cases r with
 |error e=>exact hr
 |ok fl=>
  cases fl with
  |ret obj=>
   refine ea01 hr fun z1=>?_;clear hr;subst z1;intro z2;subst z2
   have hS:(s.heap.push (setObj w)).get? s.heap.objs.size=some (setObj w):=Heap.get?_push_size _ rfl
   have hT:Shared.TypeIs {s with heap:=s.heap.push (setObj w)} (.ref s.heap.objs.size) "set":=⟨_,hS,rfl⟩
   have hli:=F.called_set.init.lookup
   have hbi:=F.called_set.init.bind (.ref s.heap.objs.size)
   repeat(any_goals (first |assumption|wp_step))
   refine codeAny_mono (codeAny_call_builtin (R:=wants (fun r s₂=>r= .none∧∃h' tk,s₂={s with heap:=h',toks:=tk}∧SetG prog w h' s.heap.objs.size (dd [] ks)∧(∀b o,s.heap.get? b=some o→h'.get? b=some o)) E)
    F.called_set.init.plain F.entry_set_init (check_set_init_1 hT ?_)) fun r₂ s₂ hr₂=>?_
   ·have hl1:(s.heap.push (setObj w)).IsList l vs.toArray:=hl.push _
    refine ea12 hl fun ol hol hcl h3=>?_;clear hl;refine ea10 h3 fun nl hdl=>?_;clear h3
    obtain⟨ocls,odict,odata,oslots⟩:=ol
    simp only at hcl hdl
    subst hcl;subst hdl
    have hol':(s.heap.push (setObj w)).get? l=some {cls:= .type "list",dict:=odict,data:= .seq vs.toArray nl,slots:=oslots}:=Heap.get?_push_of_some _ hol
    have hsls:=F.sub_list_set
    have hslf:=F.sub_list_frozenset
    have hne:(Value.type "list"==Value.type "dict")=false:=by decide
    unfold Builtin.«set.__init__» noKeywords Builtin.Frozenset.updateFrom
    generalize hPI:pyIter=PI
    have hS':(s.heap.push (setObj w)).get? s.heap.objs.size=some {cls:= .type "set",dict:=none,data:= .set #[] 0 (.fresh 0 0 (!w.params.followText "set-order"))}:=hS
    wp_walk
    subst hPI
    refine wpAny_pyIter_list hl1 ?_
    refine wpAny_bind (wpAny_runValue ?_)
    have hlS:l<s.heap.objs.size:=Heap.lt_size hol
    have sz:(s.heap.push (setObj w)).objs.size=s.heap.objs.size+1:=Heap.size_push ..
    have hh3:A.in1.in1.in1.handled=none:=by simp[hh]
    refine set_loop hh3 (S:=s.heap.objs.size) (I:=(s.heap.push (setObj w)).objs.size) (ax:=l) (by rw[sz];exact Nat.ne_of_lt (Nat.lt_succ_of_lt hlS)) (by rw[sz];exact Nat.ne_of_lt (Nat.lt_succ_self _)) (Nat.ne_of_gt hlS) hk 0 [] _ rfl (by simpa using hn) ⟨⟨_,Heap.get?_push_size _ rfl,rfl,rfl⟩,hl1.push _⟩ (set_fresh (Heap.get?_push_of_some _ hS)) fun h' tk hk' hG=>?_
    show wpAny _ _ _ _ _ _
    refine wpAny_pure ?_
    show wpAny _ _ (ret Value.none) _ _ _
    refine wpAny_pure ⟨rfl,h',tk,rfl,hG,fun b o e=>?_⟩
    have hb:=Heap.lt_size e
    exact hk' b o (Nat.ne_of_lt hb) (by rw[sz];exact Nat.ne_of_lt (Nat.lt_succ_of_lt hb)) (Heap.get?_push_of_some _ (Heap.get?_push_of_some _ e))
   ·cases r₂ with
    |error e=>exact hr₂
    |ok fl₂=>
     cases fl₂ with
     |ret r=>
      refine ea01 hr₂ fun z1=>?_;clear hr₂;subst z1;intro h3;refine ea22 h3 fun h' tk z2=>?_;clear h3;subst z2;intro hG hk'
      repeat(any_goals (first |assumption|wp_step))
      exact h _ _ hG hk'
     |_=>exact hr₂.elim
  |_=>exact hr.elim
end
end Mine
end
section
namespace Mine
open PySem PyProof.Rows
theorem slot_set_next:Slot "set_iterator" "__next__" "set_iterator.__next__":=
 .of (owner:="set_iterator") (n:="__next__") (by rw[typeLookup_type,builtinLookup_eq_fast];kernel_rfl) (by decide+kernel) (by decide+kernel) (by decide+kernel)
  (by first |exact .inl (by decide+kernel)|exact .inr (by decide+kernel)) (by rw[isSubtype_type];kernel_rfl)
theorem entry_set_next:entryFor table "set_iterator.__next__"=some Builtin.«set_iterator.__next__» :=entryFor_of_tree (by kernel_rfl)
theorem owner_set_next:Manifest.owners.lookup (String.ofList ['r','o','t','a','r','e','t','i','_','t','e','s'].reverse)=some Manifest.sig_set_iterator:=by kernel_rfl
theorem args_set_next(a:Value):argsOk "set_iterator.__next__" ⟨[a],[]⟩:=by
 unfold argsOk;rw[signature?_of (id:="set_iterator.__next__") (n:=['_','_','t','x','e','n','_','_']) (o:=['r','o','t','a','r','e','t','i','_','t','e','s']) (by kernel_rfl) owner_set_next];kernel_rfl
theorem entry_set_iter:entryFor table "set.__iter__"=some Builtin.«frozenset.__iter__» :=
 entryFor_alias (id':="frozenset.__iter__") (by kernel_rfl) rfl (by decide+kernel) (by kernel_rfl)
theorem erase_perm{α:Type}:∀{l:List α} {i:Nat} {x:α},l[i]? =some x→(x::l.eraseIdx i).Perm l
 |[],_,_,h=>by simp at h
 |y::l,0,x,h=>by simp at h;subst h;exact List.Perm.refl _
 |y::l,i+1,x,h=>by
  rw[List.getElem?_cons_succ]at h
  rw[List.eraseIdx_cons_succ]
  exact(List.Perm.swap y x _).trans ((erase_perm h).cons y)
set_option tactic.hygienic true in
theorem pick_go{α:Type}(next:Nat→Nat):∀(n k:Nat) (left:List α) (out:Array α),left.length≤n→(pickOrder.go next n k left out).toList.Perm (out.toList++left)
 |0,k,left,out,h=>by
  have :left=[]:=List.length_eq_zero_iff.mp (by omega)
  subst this
  show out.toList.Perm (out.toList++[])
  rw[List.append_nil]
 |n+1,k,left,out,h=>by
  rw[show pickOrder.go next (n+1) k left out=Option.rec (motive:=fun _=>Array α) out (fun x=>pickOrder.go next n (k+1) (left.eraseIdx (next k % left.length)) (out.push x)) (left[next k % left.length]?)from by kernel_rfl]
  cases e:left[next k % left.length]? with
  |none=>
   dsimp only
   have :left=[]:=by
    cases left with
    |nil=>rfl
    |cons x r=>
     have hl:=List.getElem?_eq_none_iff.mp e
     exact absurd (Nat.mod_lt (next k) (Nat.succ_pos r.length)) (Nat.not_lt.mpr hl)
   subst this
   simp
  |some x=>
   dsimp only
   have hp:=erase_perm e
   have hl:(left.eraseIdx (next k % left.length)).length≤n:=by
    have :=hp.length_eq
    simp only [List.length_cons]at this
    omega
   refine(pick_go next n (k+1) _ _ hl).trans ?_
   rw[Array.toList_push,List.append_assoc]
   exact List.Perm.append (List.Perm.refl _) hp
set_option tactic.hygienic true in
theorem pick_perm{α:Type}(next:Nat→Nat)(xs:Array α):(pickOrder next xs).toList.Perm xs.toList:=by
 unfold pickOrder
 refine(pick_go next xs.size 0 xs.toList #[] (by simp)).trans ?_
 simp
section
variable{prog:Program}{w:World}{A:Around}{E:Value→Shared→Prop}{s:Shared}
theorem choose_ok{n:Nat}{Q:Nat→Shared→Prop}(hn:n≠0)(h:∀i d,i<n→Q i {s with drawn:=d}):wpAny (model prog w) A (choose .order n) Q E s:=
 fun _ _ _=>⟨hn,h _ _ (Nat.mod_lt _ (Nat.pos_of_ne_zero hn))⟩
theorem draw_perm{α:Type}:∀(n:Nat) (xs:List α) {s:Shared} {Q:List α→Shared→Prop},xs.length≤n→(∀ys d,ys.Perm xs→Q ys {s with drawn:=d})→wpAny (model prog w) A (drawOrder n xs) Q E s
 |0,xs,s,Q,h,hQ=>by
  have :xs=[]:=List.length_eq_zero_iff.mp (by omega)
  subst this
  exact wpAny_pure (hQ [] s.drawn (List.Perm.refl _))
 |n+1,[],s,Q,h,hQ=>wpAny_pure (hQ [] s.drawn (List.Perm.refl _))
 |n+1,x::r,s,Q,h,hQ=>by
  show wpAny _ _ (choose .order _ >>= _) _ _ _
  refine wpAny_bind (choose_ok (by simp) fun i d hi=>?_)
  cases e:(x::r)[i]? with
  |none=>exact absurd hi (Nat.not_lt.mpr (List.getElem?_eq_none_iff.mp e))
  |some y=>
   dsimp only
   have hp:=erase_perm e
   have hl:((x::r).eraseIdx i).length≤n:=by
    have :=hp.length_eq
    simp only [List.length_cons]at this h
    omega
   refine wpAny_bind (draw_perm n _ hl fun ys d' hy=>?_)
   exact wpAny_pure (hQ (y::ys) d' ((hy.cons y).trans hp))
end
end Mine
end
section
namespace Mine
open PySem PyProof.Rows
noncomputable def SIt(h:Heap)(I S:Addr)(first :Value)(i n ep:Nat):Prop:=∃o,h.get? I=some o∧o.cls= .type "set_iterator"∧o.data= .fields #[first,.int i 0,.ref S,.int n 0,.int ep 0]
noncomputable def SAt(h:Heap)(S:Addr)(es:Array (Int×Value))(ep:Nat)(t:SetTable):Prop:=∃o,h.get? S=some o∧o.data= .set es ep t∧t.fits es.size=true
theorem SIt.at{h h':Heap}{I S:Addr}{first:Value}{i n ep:Nat}(x:SIt h I S first i n ep)(e:∀o,h.get? I=some o→h'.get? I=some o):SIt h' I S first i n ep:=
 let ⟨o,ho,r⟩:=x;⟨o,e _ ho,r⟩
theorem SAt.at{h h':Heap}{S:Addr}{es:Array (Int×Value)}{ep:Nat}{t:SetTable}(x:SAt h S es ep t)(e:∀o,h.get? S=some o→h'.get? S=some o):SAt h' S es ep t:=
 let ⟨o,ho,r⟩:=x;⟨o,e _ ho,r⟩
theorem SIt.typeIs{s:Shared}{I S:Addr}{first:Value}{i n ep:Nat}(x:SIt s.heap I S first i n ep):s.TypeIs (.ref I) "set_iterator":=let ⟨o,ho,hc,_⟩:=x;⟨o,ho,hc⟩
section
variable{prog:Program}{w:World}{A:Around}{E:Value→Shared→Prop}{s:Shared}{I S:Addr}{first:Value}{i n ep:Nat}{es:Array (Int×Value)}{t:SetTable}{Q:Option Value→Shared→Prop}
theorem snext_head{Q:Fin→Shared→Prop}(hit:SIt s.heap I S first i n ep)(hS:SAt s.heap S es ep t)(hn:es.size=n)
 (h:wpAny (model prog w) A (if let .int slot _:=first then do
   match←setNext S slot.toNat (i:Int).toNat (ep:Int).toNat with
   |some (x,next)=>
    setField (.ref I) 0 (rawInt next)
    setField (.ref I) 1 (rawInt ((i:Int)+1))
    ret x
   |none=>setField (.ref I) 2 .none;raiseNew (←newExc (.type "StopIteration") [])
   else do
    let some places←seqItems? first|unsupported "internal:set_iterator"
    match places[(i:Int).toNat]? with
    |some (.int place _)=>
     let x←setNextDrawn S place.toNat (ep:Int).toNat
     setField (.ref I) 1 (rawInt ((i:Int)+1))
     ret x
    |some _=>unsupported "internal:set_iterator"
    |none=>setField (.ref I) 0 (rawInt 0);setField (.ref I) 2 .none;raiseNew (←newExc (.type "StopIteration") [])) Q E s):
 wpAny (model prog w) A (Builtin.«set_iterator.__next__» ⟨[.ref I],[]⟩) Q E s:=by
 refine ea12 (id hit) fun o ho hc hd=>?_
 refine ea12 hS fun oS hoS hdS hf=>?_;clear hS
 unfold Builtin.«set_iterator.__next__»
 refine wpAny_bind (wpAny_pure ?_)
 show wpAny _ _ (fieldsOf (.ref I) >>= _) _ _ s
 refine wpAny_bind (wpAny_fieldsOf ho hd ?_)
 show wpAny _ _ (setEntries S >>= _) _ _ s
 refine wpAny_bind ?_
 unfold setEntries
 refine wpAny_bind (wpAny_setState_of hoS hdS hf (wpAny_pure ?_))
 dsimp only
 have hne:(((es.size:Nat):Int) != (n:Int))=false:=by rw[hn];simp
 rw[hne]
 simp -iota only [Bool.false_eq_true,if_false]
 cases first<;>exact h
theorem pyNext_set(hit:SIt s.heap I S first i n ep)(hc:wpAny (model prog w) A.in1 (Builtin.«set_iterator.__next__» ⟨[.ref I],[]⟩) (fun fin s'=>∃v,fin= .done (.ret v)∧Q (some v) s')
 (fun e s'=>wpAny (model prog w) A (do if←isInstance e (.type "StopIteration")then pure none else throw e) Q E s') s):wpAny (model prog w) A (pyNext (.ref I)) Q E s:=by
 unfold pyNext
 refine wpAny_bind (wpAny_attempt (wpAny_callSpecial?_slot (name:=Str.ofString "__next__") hit.typeIs slot_set_next
  (wpAny_call_entry slot_set_next hit.typeIs entry_set_next ?_ (args_set_next _))))
 refine wpAny_mono hc (fun fin s' x=>?_) fun e s' x=>x
 refine ea11 x fun v z1=>?_;clear x;subst z1;intro hq
 exact⟨v,rfl,wpAny_pure hq⟩
theorem raise_stop{R:Fin→Shared→Prop}(hh:A.handled=none)(hQ:∀h',(∀b o,s.heap.get? b=some o→h'.get? b=some o)→Q none {s with heap:=h'}):
 wpAny (model prog w) A.in1 (do raiseNew (←newExc (.type "StopIteration") [])) R (fun e s'=>wpAny (model prog w) A (do if←isInstance e (.type "StopIteration")then pure none else throw e) Q E s') s:=by
 show wpAny _ _ (newExc (.type "StopIteration") [] >>= _) _ _ _
 refine wpAny_bind ?_
 simp only [newExc,newTuple]
 refine wpAny_bind (wpAny_newObj_type ?_ (by size_fits))
 refine wpAny_bind (m:=firstArgMember _ _) (wpAny_of_eq (a:=Value.none) (by first |rfl|(simp only [firstArgMember];rfl)) ?_)
 refine wpAny_newObj_type ?_ (by size_fits)
 delta raiseNew
 dsimp only
 refine wpAny_bind (wpAny_handled ?_)
 rw[show A.in1.handled=none from hh]
 refine wpAny_bind (wpAny_pure (wpAny_throw ?_))
 refine wpAny_bind (wpAny_isInstance (T:="StopIteration") (b:=true) ⟨_,Heap.get?_push_size _ rfl,rfl⟩ isSubtype_stop ?_)
 exact wpAny_pure (hQ _ fun b o e=>Heap.get?_push_of_some _ (Heap.get?_push_of_some _ e))
theorem sit_set{h:Heap}(k:Nat)(x:Value){o:Obj}{vs:Array Value}(ho:h.get? I=some o)(hc:o.cls= .type "set_iterator")(hd:o.data= .fields vs):
 ∃o',(h.update I (Obj.mapFields (·.setIfInBounds k x))).get? I=some o'∧o'.cls= .type "set_iterator"∧o'.data= .fields (vs.setIfInBounds k x):=
 ⟨_,Heap.get?_update_self _ ho (Obj.isFreed_of_fields (Obj.data_mapFields hd _)),(Obj.cls_mapFields ..).trans hc,Obj.data_mapFields hd _⟩
theorem ext2{h:Heap}(f g:Obj→Obj):Heap.ExtBut I h ((h.update I f).update I g):=fun b o hb e=>(Heap.get?_update_other _ _ (Ne.symm hb)).trans ((Heap.get?_update_other _ _ (Ne.symm hb)).trans e)
theorem snext_item{sl nx:Nat}{x:Value}(hit:SIt s.heap I S (.int sl 0) i n ep)(hS:SAt s.heap S es ep t)(hn:es.size=n)
 (hsn:∀{A:Around} {Q':Option (Value×Nat)→Shared→Prop} {E':Value→Shared→Prop},Q' (some (x,nx)) s→wpAny (model prog w) A (setNext S sl i ep) Q' E' s)
 (hQ:∀h',SIt h' I S (.int nx 0) (i+1) n ep→Heap.ExtBut I s.heap h'→Q (some x) {s with heap:=h'}):wpAny (model prog w) A (pyNext (.ref I)) Q E s:=by
 refine pyNext_set hit (snext_head hit hS hn ?_)
 refine ea12 (id hit) fun o ho hc hd=>?_
 dsimp only
 refine wpAny_bind (hsn ?_)
 dsimp only
 refine ea12 (sit_set 0 (rawInt nx) ho hc hd) fun o1 ho1 hc1 hd1=>?_
 refine wpAny_bind (wpAny_setField ho hd (by simp) ?_)
 refine ea12 (sit_set 1 (rawInt ((i:Int)+1)) ho1 hc1 hd1) fun o2 ho2 hc2 hd2=>?_
 refine wpAny_bind (wpAny_setField ho1 hd1 (by simp) ?_)
 refine wpAny_pure ⟨x,rfl,hQ _ ⟨o2,ho2,hc2,?_⟩ (ext2 _ _)⟩
 rw[hd2];simp[rawInt]
theorem snext_stop{sl:Nat}(hh:A.handled=none)(hit:SIt s.heap I S (.int sl 0) i n ep)(hS:SAt s.heap S es ep t)(hn:es.size=n)
 (hsn:∀{A:Around} {Q':Option (Value×Nat)→Shared→Prop} {E':Value→Shared→Prop},Q' none s→wpAny (model prog w) A (setNext S sl i ep) Q' E' s)
 (hQ:∀h',Heap.ExtBut I s.heap h'→Q none {s with heap:=h'}):wpAny (model prog w) A (pyNext (.ref I)) Q E s:=by
 refine pyNext_set hit (snext_head hit hS hn ?_)
 refine ea12 (id hit) fun o ho hc hd=>?_
 dsimp only
 refine wpAny_bind (hsn ?_)
 dsimp only
 refine wpAny_bind (wpAny_setField ho hd (by simp) ?_)
 refine raise_stop hh fun h' hk=>hQ h' fun b o hb e=>hk b o ((Heap.get?_update_other _ _ (Ne.symm hb)).trans e)
theorem dnext_item{T:Addr}{oT:Obj}{pl:Array Value}{m p:Nat}{x:Int×Value}(hit:SIt s.heap I S (.ref T) i n ep)(hS:SAt s.heap S es ep t)(hn:es.size=n)
 (hoT:s.heap.get? T=some oT) (hdT:oT.data= .seq pl m) (hp:pl[i]? =some (.int p 0)) (hx:es[p]? =some x)
 (hQ:∀h',SIt h' I S (.ref T) (i+1) n ep→Heap.ExtBut I s.heap h'→Q (some x.2) {s with heap:=h'}):wpAny (model prog w) A (pyNext (.ref I)) Q E s:=by
 refine pyNext_set hit (snext_head hit hS hn ?_)
 refine ea12 (id hit) fun o ho hc hd=>?_
 refine ea12 (id hS) fun oS hoS hdS hf=>?_
 dsimp only
 refine wpAny_bind (wpAny_seqItems hoT hdT ?_)
 dsimp only
 rw[Int.toNat_natCast,hp]
 dsimp only
 refine wpAny_bind ?_
 unfold setNextDrawn
 refine wpAny_bind (wpAny_setState_of hoS hdS hf ?_)
 dsimp only
 rw[if_neg (by simp)]
 rw[Int.toNat_natCast,hx]
 dsimp only
 refine wpAny_pure ?_
 refine ea12 (sit_set 1 (rawInt ((i:Int)+1)) ho hc hd) fun o2 ho2 hc2 hd2=>?_
 refine wpAny_bind (wpAny_setField ho hd (by simp) ?_)
 refine wpAny_pure ⟨x.2,rfl,hQ _ ⟨o2,ho2,hc2,?_⟩ (fun b o hb e=>(Heap.get?_update_other _ _ (Ne.symm hb)).trans e)⟩
 rw[hd2];simp[rawInt]
theorem dnext_stop{T:Addr}{oT:Obj}{pl:Array Value}{m:Nat}(hh:A.handled=none)(hit:SIt s.heap I S (.ref T) i n ep)(hS:SAt s.heap S es ep t)(hn:es.size=n)
 (hoT:s.heap.get? T=some oT) (hdT:oT.data= .seq pl m) (hp:pl[i]? =none)
 (hQ:∀h',Heap.ExtBut I s.heap h'→Q none {s with heap:=h'}):wpAny (model prog w) A (pyNext (.ref I)) Q E s:=by
 refine pyNext_set hit (snext_head hit hS hn ?_)
 refine ea12 (id hit) fun o ho hc hd=>?_
 dsimp only
 refine wpAny_bind (wpAny_seqItems hoT hdT ?_)
 dsimp only
 rw[Int.toNat_natCast,hp]
 dsimp only
 refine ea12 (sit_set 0 (rawInt 0) ho hc hd) fun o1 ho1 hc1 hd1=>?_
 refine wpAny_bind (wpAny_setField ho hd (by simp) ?_)
 refine wpAny_bind (wpAny_setField ho1 hd1 (by simp) ?_)
 refine raise_stop hh fun h' hk=>hQ h' fun b o hb e=>hk b o (ext2 _ _ b o hb e)
end
end Mine
end
section
namespace Mine
open PySem PyProof.Rows
theorem slot_setit_iter:Slot "set_iterator" "__iter__" "set_iterator.__iter__":=
 .of (owner:="set_iterator") (n:="__iter__") (by rw[typeLookup_type,builtinLookup_eq_fast];kernel_rfl) (by decide+kernel) (by decide+kernel) (by decide+kernel)
  (by first |exact .inl (by decide+kernel)|exact .inr (by decide+kernel)) (by rw[isSubtype_type];kernel_rfl)
theorem len_setit:typeLookup (.type "set") "__len__"=pure (some (.builtin "set.__len__")):=by rw[typeLookup_type,builtinLookup_eq_fast];kernel_rfl
section
variable{prog:Program}{w:World}{A:Around}{E:Value→Shared→Prop}{s:Shared}{I S:Addr}{n ep:Nat}{es:Array (Int×Value)}{t:SetTable}
structure WalkOf(prog:Program)(w:World)(A:Around)(I S T:Addr)(ord:List Value)(St:Nat→Heap→Prop):Prop where
 item:∀i (s:Shared) (Q:Option Value→Shared→Prop) (E:Value→Shared→Prop),i<ord.length→St i s.heap→
  (∀v h',ord[i]? =some v→St (i+1) h'→Heap.ExtBut I s.heap h'→Q (some v) {s with heap:=h'})→wpAny (model prog w) A (pyNext (.ref I)) Q E s
 done:∀(s:Shared) (Q:Option Value→Shared→Prop) (E:Value→Shared→Prop),St ord.length s.heap→(∀h',Heap.ExtBut I s.heap h'→Q none {s with heap:=h'})→wpAny (model prog w) A (pyNext (.ref I)) Q E s
 frame:∀i h h',St i h→(∀b,b=I∨b=S∨b=T→∀o,h.get? b=some o→h'.get? b=some o)→St i h'
 typ:∀i h,St i h→∃o,h.get? I=some o∧o.cls= .type "set_iterator"
noncomputable def valsOf(es:Array (Int×Value)):List Value:=es.toList.map (·.2)
theorem walk_text(hh:A.handled=none)(hSI:S≠I)(hn:es.size=n)(hb:w.params.followText "set-order"=true):
 WalkOf prog w A I S I (valsOf (pickOrder (w.params.setOrder S ep) es)) (fun i h=>SIt h I S (.int 0 0) i n ep∧SAt h S es ep t):=by
 have key:∀(i:Nat) (s:Shared) (hS:SAt s.heap S es ep t) {A:Around} {Q':Option (Value×Nat)→Shared→Prop} {E':Value→Shared→Prop},Q' (((pickOrder (w.params.setOrder S ep) es)[i]?).map fun e=>(e.2,0)) s→wpAny (model prog w) A (setNext S 0 i ep) Q' E' s:=by
  intro i s hS A Q' E' hq
  refine ea12 hS fun oS hoS hdS hf=>?_;clear hS
  have st:∀{A:Around} {Q'':(Array (Int×Value)×Nat×SetTable)→Shared→Prop} {E'':Value→Shared→Prop},Q'' (es,ep,t) s→wpAny (model prog w) A (setState S) Q'' E'' s:=fun h=>wpAny_setState_of hoS hdS hf h
  have by':∀{A:Around} {Q'':Bool→Shared→Prop} {E'':Value→Shared→Prop},Q'' true s→wpAny (model prog w) A setsByText Q'' E'' s:=fun{A Q'' E''} h=>by
   unfold setsByText
   refine wpAny_bind (wpAny_askSetting (wpAny_pure ?_))
   show Q'' (w.params.followText "set-order") s
   rw[hb];exact h
  unfold setNext
  refine wpAny_bind (st ?_)
  dsimp only
  refine wpAny_bind (by' ?_)
  simp -iota only [if_true,bne_self_eq_false,Bool.false_eq_true,if_false]
  refine wpAny_bind ?_
  unfold setWalk
  refine wpAny_bind (st ?_)
  dsimp only
  refine wpAny_bind (by' ?_)
  simp -iota only [if_true]
  refine wpAny_bind (wpAny_askSetting (wpAny_pure ?_))
  exact wpAny_pure hq
 refine⟨fun i s Q E hi st hQ=>?_,fun s Q E st hQ=>?_,fun i h h' st hk=>⟨st.1.at fun o e=>hk I (.inl rfl) o e,st.2.at fun o e=>hk S (.inr (.inl rfl)) o e⟩,fun i h st=>let ⟨o,ho,hc,_⟩:=st.1;⟨o,ho,hc⟩⟩
 ·unfold valsOf at hi hQ
  rw[List.length_map,Array.length_toList]at hi
  have hx:(pickOrder (w.params.setOrder S ep) es)[i]? =some (pickOrder (w.params.setOrder S ep) es)[i]:=Array.getElem?_eq_getElem hi
  refine snext_item (nx:=0) (x:=(pickOrder (w.params.setOrder S ep) es)[i].2) st.1 st.2 hn (fun{A Q' E'} hq=>key i s st.2 (by rw[hx];exact hq)) fun h' hit hk=>?_
  exact hQ _ h' (by rw[List.getElem?_map,Array.getElem?_toList,hx];rfl) ⟨hit,st.2.at fun o e=>hk S o hSI e⟩ hk
 ·unfold valsOf at st
  rw[List.length_map,Array.length_toList]at st
  refine snext_stop hh st.1 st.2 hn (fun{A Q' E'} hq=>key _ s st.2 (by rw[Array.getElem?_eq_none (Nat.le_refl _)];exact hq)) hQ
noncomputable def pickAt(es:Array (Int×Value))(p:Nat):Value:=((es[p]?).map (·.2)).getD .none
theorem pickAt_range(es:Array (Int×Value)):(List.range es.size).map (pickAt es)=valsOf es:=by
 refine List.ext_getElem? fun j=>?_
 unfold valsOf pickAt
 rw[List.getElem?_map,List.getElem?_map,Array.getElem?_toList (xs:=es)]
 by_cases hj:j<es.size
 ·rw[List.getElem?_range hj,Array.getElem?_eq_getElem hj];simp[hj]
 ·rw[List.getElem?_eq_none (by simpa using hj),Array.getElem?_eq_none (Nat.le_of_not_lt hj)];rfl
theorem walk_drawn(hh:A.handled=none){T:Addr}{is:List Nat}(hSI:S≠I)(hTI:T≠I)(hn:es.size=n)(hp:is.Perm (List.range n)):
 WalkOf prog w A I S T (is.map (pickAt es)) (fun i h=>SIt h I S (.ref T) i n ep∧SAt h S es ep t∧∃oT m,h.get? T=some oT∧oT.data= .seq (is.map fun p:Nat=>rawInt p).toArray m):=by
 refine⟨fun i s Q E hi st hQ=>?_,fun s Q E st hQ=>?_,fun i h h' st hk=>⟨st.1.at fun o e=>hk I (.inl rfl) o e,st.2.1.at fun o e=>hk S (.inr (.inl rfl)) o e,let ⟨oT,m,h1,h2⟩:=st.2.2;⟨oT,m,hk T (.inr (.inr rfl)) _ h1,h2⟩⟩,fun i h st=>let ⟨o,ho,hc,_⟩:=st.1;⟨o,ho,hc⟩⟩
 ·rw[List.length_map]at hi
  refine ea21 (st.2.2) fun oT m hoT hdT=>?_
  have hm:is[i]<es.size:=by
   have :=hp.mem_iff.mp (List.getElem_mem hi)
   rw[hn];exact List.mem_range.mp this
  refine dnext_item (p:=is[i]) (x:=es[is[i]]) st.1 st.2.1 hn hoT hdT ?_ (Array.getElem?_eq_getElem hm) fun h' hit hk=>?_
  ·rw[List.getElem?_toArray,List.getElem?_map,List.getElem?_eq_getElem hi];rfl
  ·refine hQ _ h' ?_ ⟨hit,st.2.1.at fun o e=>hk S o hSI e,oT,m,hk T _ hTI hoT,hdT⟩ hk
   rw[List.getElem?_map,List.getElem?_eq_getElem hi]
   simp only [Option.map_some,pickAt,Array.getElem?_eq_getElem hm,Option.getD_some]
 ·rw[List.length_map]at st
  refine ea21 (st.2.2) fun oT m hoT hdT=>?_
  exact dnext_stop hh st.1 st.2.1 hn hoT hdT (by rw[List.getElem?_toArray,List.getElem?_map,List.getElem?_eq_none (Nat.le_refl _)];rfl) hQ
theorem below_zero(xs:Array Nat)(h:xs.size≤1):SetTable.below xs 0=0:=by
 show SetTable.below.go xs 0 xs.size 0 xs.size=0
 rcases Nat.lt_or_ge 0 xs.size with h0|h0
 ·have h1:xs.size=1:=Nat.le_antisymm h h0
  rw[h1]
  show(if 0<1 then(if xs.getD 0 0<0 then _ else _)else _)=0
  rw[if_pos Nat.zero_lt_one,if_neg (Nat.not_lt_zero _)]
  rfl
 ·have h1:xs.size=0:=Nat.eq_zero_of_le_zero h0
  rw[h1];rfl
theorem below_next(xs:Array Nat)(j:Nat)(h:xs.size=1)(hj:xs[0]? =some j):SetTable.below xs (j+1)=1:=by
 show SetTable.below.go xs (j+1) xs.size 0 xs.size=1
 rw[h]
 have hg:xs.getD 0 (j+1)=j:=by rw[Array.getD_eq_getD_getElem?,hj];rfl
 show(if 0<1 then(if xs.getD 0 (j+1)<j+1 then _ else _)else _)=1
 rw[if_pos Nat.zero_lt_one,hg,if_pos (Nat.lt_succ_self _)]
 rfl
noncomputable def oneSlot(t:SetTable):Nat→Nat
 |0=>0
 |_+1=>t.place.getD 0 0+1
theorem walk_one(hh:A.handled=none)(hSI:S≠I)(hn:es.size=n)(h1:es.size≤1)(hled:t.led=true)(hb:w.params.followText "set-order"=false):
 WalkOf prog w A I S I (valsOf es) (fun i h=>SIt h I S (.int (oneSlot t i) 0) i n ep∧SAt h S es ep t):=by
 have by':∀{s:Shared} {A:Around} {Q'':Bool→Shared→Prop} {E'':Value→Shared→Prop},Q'' false s→wpAny (model prog w) A setsByText Q'' E'' s:=fun{s A Q'' E''} h=>by
  unfold setsByText
  refine wpAny_bind (wpAny_askSetting (wpAny_pure ?_))
  show Q'' (w.params.followText "set-order") s
  rw[hb];exact h
 have key:∀(sl i:Nat) (s:Shared) (hS:SAt s.heap S es ep t) {A:Around} {Q':Option (Value×Nat)→Shared→Prop} {E':Value→Shared→Prop},Q' (match es[SetTable.below t.place sl]?,t.place[SetTable.below t.place sl]? with
  |some (_,x),some j=>some (x,j+1)
  |_,_=>none) s→wpAny (model prog w) A (setNext S sl i ep) Q' E' s:=by
  intro sl i s hS A Q' E' hq
  refine ea12 hS fun oS hoS hdS hf=>?_;clear hS
  unfold setNext
  refine wpAny_bind (wpAny_setState_of hoS hdS hf ?_)
  dsimp only
  refine wpAny_bind (by' ?_)
  simp -iota only [Bool.false_eq_true,if_false]
  refine wpAny_ite_split (fun hd=>absurd (show(!t.plain&&decide (es.size > 1))=true from hd) (by simp[Nat.not_lt.mpr h1])) fun _=>?_
  refine wpAny_bind (wpAny_of_eq (a:=()) (show(if(!t.led&& !es.isEmpty)=true then _ else pure ())=pure () by rw[hled];rfl) ?_)
  exact wpAny_pure hq
 have ends:∀(sl:Nat) (s:Shared) (Q:Option Value→Shared→Prop) (E:Value→Shared→Prop) {i:Nat},SIt s.heap I S (.int sl 0) i n ep→SAt s.heap S es ep t→es.size≤SetTable.below t.place sl→(∀h',Heap.ExtBut I s.heap h'→Q none {s with heap:=h'})→
  wpAny (model prog w) A (pyNext (.ref I)) Q E s:=fun sl s Q E i hit hS hl hQ=>
  snext_stop hh hit hS hn (fun{A Q' E'} hq=>key sl _ s hS (by rw[Array.getElem?_eq_none hl];exact hq)) hQ
 have pl:∀s:Shared,SAt s.heap S es ep t→t.place.size=es.size:=fun s ⟨_,_,_,hf⟩=>by
  simp only [SetTable.fits,Bool.and_eq_true,beq_iff_eq,decide_eq_true_eq]at hf
  exact hf.1
 refine⟨fun i s Q E hi st hQ=>?_,fun s Q E st hQ=>?_,fun i h h' st hk=>⟨st.1.at fun o e=>hk I (.inl rfl) o e,st.2.at fun o e=>hk S (.inr (.inl rfl)) o e⟩,fun i h st=>let ⟨o,ho,hc,_⟩:=st.1;⟨o,ho,hc⟩⟩
 ·unfold valsOf at hi hQ
  rw[List.length_map,Array.length_toList]at hi
  have hz:es.size=1:=Nat.le_antisymm h1 (Nat.lt_of_le_of_lt (Nat.zero_le i) hi)
  have hi0:i=0:=Nat.lt_one_iff.mp (hz▸hi)
  subst hi0
  have hp:=pl s st.2
  have hx:es[0]? =some es[0]:=Array.getElem?_eq_getElem hi
  have hj:t.place[0]? =some t.place[0]:=Array.getElem?_eq_getElem (by rw[hp,hz];exact Nat.one_pos)
  refine snext_item (sl:=0) (nx:=oneSlot t 1) (x:=es[0].2) st.1 st.2 hn (fun{A Q' E'} hq=>key 0 0 s st.2 ?_) fun h' hit hk=>?_
  ·rw[below_zero _ (by first |exact hp.trans hz|(rw[hp,hz];exact Nat.one_pos)|omega),hx,hj]
   have :oneSlot t 1=t.place[0]+1:=by
    show t.place.getD 0 0+1=_
    rw[Array.getD_eq_getD_getElem?,hj];rfl
   rw[this]at hq
   exact hq
  ·exact hQ _ h' (by rw[List.getElem?_map,Array.getElem?_toList,hx];rfl) ⟨hit,st.2.at fun o e=>hk S o hSI e⟩ hk
 ·unfold valsOf at st
  rw[List.length_map,Array.length_toList]at st
  refine ends _ s Q E st.1 st.2 ?_ hQ
  have hp:=pl s st.2
  rcases Nat.lt_or_ge 0 es.size with h0|h0
  ·have hz:es.size=1:=Nat.le_antisymm h1 h0
   have hj:t.place[0]? =some t.place[0]:=Array.getElem?_eq_getElem (by rw[hp,hz];exact Nat.one_pos)
   rw[hz]
   show 1≤SetTable.below t.place (t.place.getD 0 0+1)
   rw[below_next _ _ (by first |exact hp.trans hz|(rw[hp,hz];exact Nat.one_pos)|omega) (by rw[Array.getD_eq_getD_getElem?,hj];rfl)]
   exact Nat.le_refl _
  ·have hz:es.size=0:=Nat.le_zero.mp h0
   rw[hz];exact Nat.zero_le _
end
end Mine
end
section
namespace Mine
open PySem PyProof.Rows
theorem entry_setit_iter:entryFor table "set_iterator.__iter__"=some Builtin.«dict_keyiterator.__iter__» :=
 entryFor_alias (id':="dict_keyiterator.__iter__") (by kernel_rfl) rfl (by decide+kernel) (by kernel_rfl)
theorem args_setit_iter(a:Value):argsOk "set_iterator.__iter__" ⟨[a],[]⟩:=by
 unfold argsOk;rw[signature?_of (id:="set_iterator.__iter__") (n:=['_','_','r','e','t','i','_','_']) (o:=['r','o','t','a','r','e','t','i','_','t','e','s']) (by kernel_rfl) owner_set_next];kernel_rfl
section
variable{prog:Program}{w:World}{A:Around}{E:Value→Shared→Prop}{s:Shared}{I S T:Addr}{ord:List Value}{St:Nat→Heap→Prop}
theorem WalkOf.walks(W:WalkOf prog w A I S T ord St):Walks prog w A I [I,S,T] [I] ord.length (fun i v=>ord[i]? =some v) St where
 sub:=fun b hb=>by rw[List.mem_singleton.mp hb];exact List.mem_cons_self
 frame:=fun i h h' st hk=>W.frame i h h' st fun b hb=>hk b (by rcases hb with rfl|rfl|rfl<;>simp)
 item:=fun i s Q E hi st hQ=>W.item i s Q E hi st fun v h' hv st' he=>hQ v h' s.toks hv st' fun b o hb e=>he b o (fun h=>hb (by simp[h])) e
 done:=fun s Q E st hQ=>W.done s Q E st fun h' he=>hQ h' s.toks fun b o hb e=>he b o (fun h=>hb (by simp[h])) e
 self:=fun i s Q E st hQ=>by
  have hT:s.TypeIs (.ref I) "set_iterator":=W.typ i _ st
  refine wpAny_pyIter_slot hT slot_setit_iter (wpAny_call_entry slot_setit_iter hT entry_setit_iter ?_ (args_setit_iter _))
  show wpAny _ _ (ret (.ref I)) _ _ s
  exact wpAny_pure ⟨_,rfl,"set_iterator",_,hT,slot_set_next.lookup,hQ⟩
noncomputable def SWalk(prog:Program)(w:World)(S:Addr)(L:List Str)(h₀ h:Heap)(I:Addr):Prop:=
 ∃(T:Addr) (ord:List Value) (ks:List Str) (St:Nat→Heap→Prop),(∀A:Around,A.handled=none→WalkOf prog w A I S T ord St)∧St 0 h∧StrsAre ord ks∧ks.Perm L∧h₀.objs.size≤I∧I<h.objs.size∧h₀.objs.size≤T
theorem strs_of_vals:∀{vs:List Value},(∀v∈vs,∃t,v= .str (strV v) t)→StrsAre vs (vs.map strV)
 |[],_=> .nil
 |v::vs,h=>by
  refine ea10 (h v (List.mem_cons_self ..)) fun t ht=>?_
  rw[List.map_cons]
  have :=StrsAre.cons (strV v) t (strs_of_vals fun u hu=>h u (List.mem_cons_of_mem _ hu))
  rwa [←ht]at this
theorem strs_of_elems{es:List (Int×Value)}(hel:ElemsOf (strKind prog w) es){ord:List Value}(hp:ord.Perm (es.map (·.2))):StrsAre ord (ord.map strV):=by
 refine strs_of_vals fun v hv=>?_
 refine ea11 (List.mem_map.mp (hp.mem_iff.mp hv)) fun e he z1=>?_;subst z1
 exact elem_str hel he
theorem ord_perm{es:Array (Int×Value)}{ord:List Value}{L:List Str}(hp:ord.Perm (es.toList.map (·.2)))(hL:(keysV es).Perm L):(ord.map strV).Perm L:=by
 refine(hp.map strV).trans ?_
 rw[List.map_map]
 exact hL
theorem setG_iter{L:List Str}{Q:Value→Shared→Prop}(hS:SetG prog w s.heap S L)(hl:L.length≤1000)
 (h:∀h' d I,(∀b o,s.heap.get? b=some o→h'.get? b=some o)→SWalk prog w S L s.heap h' I→Q (.ref I) {s with heap:=h',drawn:=d}):
 wpAny (model prog w) A (pyIter (.ref S)) Q E s:=by
 refine ea45 (id hS) fun o es ep t ho hex hd hel hpm h2=>?_;refine ea02 h2 fun hf hled hpl=>?_;clear h2
 have hT:s.TypeIs (.ref S) "set":=⟨o,ho,hex.1⟩
 have st:∀{A:Around} {s:Shared} {Q'':(Array (Int×Value)×Nat×SetTable)→Shared→Prop} {E'':Value→Shared→Prop},s.heap.get? S=some o→Q'' (es,ep,t) s→wpAny (model prog w) A (setState S) Q'' E'' s:=fun ho h=>wpAny_setState_of ho hd hf h
 refine wpAny_pyIter_slot hT F.slot_set_iter (wpAny_call_entry F.slot_set_iter hT entry_set_iter ?_ (F.args_set_iter_1 _))
 unfold Builtin.«frozenset.__iter__»
 refine wpAny_bind (m:=Builtin.Frozenset.slot0 "__iter__" ⟨[.ref S],[]⟩) (wpAny_pure ?_)
 refine wpAny_bind ?_
 unfold Builtin.Frozenset.sizeOf setEntries
 refine wpAny_bind (wpAny_bind (st ho (wpAny_pure (wpAny_pure ?_))))
 dsimp only
 refine wpAny_bind ?_
 unfold setDrawn
 refine wpAny_bind (st ho ?_)
 dsimp only
 refine wpAny_bind ?_
 unfold setsByText
 refine wpAny_bind (wpAny_askSetting (wpAny_pure ?_))
 show wpAny _ _ (pure (!w.params.followText "set-order"&&(!t.plain&&decide (es.size > 1)))) _ _ _
 refine wpAny_pure ?_
 have stop:∀{s:Shared} (first :Value) {R:Fin→Shared→Prop},s.heap.get? S=some o→(R (.done (.ret (.ref s.heap.objs.size))) {s with heap:=s.heap.push {cls:= .type "set_iterator",data:= .fields #[first,.int 0 0,.ref S,.int es.size 0,.int ep 0]}})→
  wpAny (model prog w) A.in1 (do ret (←newFields "set_iterator" [first,rawInt 0,.ref S,rawInt es.size,rawInt (←setEpoch S)])) R E s:=fun{s} first R ho h=>by
  unfold setEpoch
  refine wpAny_bind (wpAny_bind (st ho (wpAny_pure ?_)))
  exact wpAny_bind (wpAny_newObj_type (wpAny_pure h))
 have hlt:S<s.heap.objs.size:=Heap.lt_size ho
 have hesz:es.size=L.length:=by rw[←keysV_size,hpm.length_eq]
 by_cases hdr:(!w.params.followText "set-order"&&(!t.plain&&decide (es.size > 1)))=true
 ·rw[hdr]
  simp only [if_true]
  refine wpAny_bind (draw_perm es.size (List.range es.size) (by simp) fun is d hp=>?_)
  refine wpAny_bind (wpAny_newTuple ?_ (by rw[List.length_map,hp.length_eq,List.length_range,sizeLine_eq];omega))
  have ho1:=Heap.get?_push_of_some {cls:= .type "tuple",data:= .seq (is.map fun p:Nat=>rawInt p).toArray} ho
  refine stop _ ho1 ⟨_,rfl,"set_iterator",_,⟨_,Heap.get?_push_size _ rfl,rfl⟩,slot_set_next.lookup,?_⟩
  refine h _ d _ (fun b o e=>Heap.get?_push_of_some _ (Heap.get?_push_of_some _ e)) ⟨s.heap.objs.size,is.map (pickAt es),_,_,fun A hh=>walk_drawn (es:=es) (t:=t) (ep:=ep) hh ?_ ?_ rfl hp,⟨⟨_,Heap.get?_push_size _ rfl,rfl,rfl⟩,⟨o,Heap.get?_push_of_some _ ho1,hd,hf⟩,_,_,Heap.get?_push_of_some _ (Heap.get?_push_size _ rfl),rfl⟩,strs_of_elems hel ?_,ord_perm ?_ hpm,?_,?_,?_⟩
  ·rw[size_push'];exact Nat.ne_of_lt (Nat.lt_succ_of_lt hlt)
  ·rw[size_push'];exact Nat.ne_of_lt (Nat.lt_succ_self _)
  ·show(is.map (pickAt es)).Perm (valsOf es)
   rw[←pickAt_range];exact hp.map _
  ·show(is.map (pickAt es)).Perm (valsOf es)
   rw[←pickAt_range];exact hp.map _
  ·rw[size_push'];exact Nat.le_succ _
  ·simp only [size_push'];exact Nat.lt_succ_self _
  ·exact Nat.le_refl _
 ·rw[Bool.not_eq_true]at hdr
  rw[hdr]
  simp only [Bool.false_eq_true,if_false]
  refine wpAny_bind (wpAny_pure ?_)
  refine stop (rawInt 0) ho ⟨_,rfl,"set_iterator",_,⟨_,Heap.get?_push_size _ rfl,rfl⟩,slot_set_next.lookup,?_⟩
  by_cases hb:w.params.followText "set-order"=true
  ·refine h _ s.drawn _ (fun b o e=>Heap.get?_push_of_some _ e) ⟨s.heap.objs.size,valsOf (pickOrder (w.params.setOrder S ep) es),_,_,fun A hh=>walk_text (es:=es) (t:=t) (ep:=ep) hh (Nat.ne_of_lt hlt) rfl hb,⟨⟨_,Heap.get?_push_size _ rfl,rfl,rfl⟩,⟨o,Heap.get?_push_of_some _ ho,hd,hf⟩⟩,strs_of_elems hel ?_,ord_perm ?_ hpm,Nat.le_refl _,?_,?_⟩
   ·exact(pick_perm _ es).map _
   ·exact(pick_perm _ es).map _
   ·rw[size_push'];exact Nat.lt_succ_self _
   ·exact Nat.le_refl _
  ·rw[Bool.not_eq_true]at hb
   have h1:es.size≤1:=by
    rw[hb]at hdr
    by_cases hz:es.size=0
    ·omega
    ·rw[hpl hz]at hdr
     simpa using hdr
   rw[hb]at hled
   refine h _ s.drawn _ (fun b o e=>Heap.get?_push_of_some _ e) ⟨s.heap.objs.size,valsOf es,_,_,fun A hh=>walk_one (es:=es) (t:=t) (ep:=ep) hh (Nat.ne_of_lt hlt) rfl h1 hled hb,⟨⟨_,Heap.get?_push_size _ rfl,rfl,rfl⟩,⟨o,Heap.get?_push_of_some _ ho,hd,hf⟩⟩,strs_of_elems hel (List.Perm.refl _),ord_perm (List.Perm.refl _) hpm,Nat.le_refl _,?_,?_⟩
   ·rw[size_push'];exact Nat.lt_succ_self _
   ·exact Nat.le_refl _
theorem hint_set{Q:Bool→Shared→Prop}(hT:s.TypeIs (.ref S) "set")(h:Q false s):wpAny (model prog w) A (Builtin.List.listLengthHint (.ref S)) Q E s:=by
 unfold Builtin.List.listLengthHint
 refine wpAny_bind (wpAny_specialOf hT len_setit ?_)
 generalize hid:("set.__len__":String)=id0
 wp_delta
 rw[show splitId id0=some ("set","__len__")from by subst hid;decide+kernel]
 subst hid
 refine wpAny_bind (wpAny_isInstance (T:="set") (b:=true) hT (by rw[isSubtype_type];kernel_rfl) ?_)
 refine wpAny_ite_split (fun hab=>absurd hab (by decide)) (fun _=>?_)
 refine wpAny_ite_split (fun _=>?_) (fun hab=>absurd (by decide+kernel) hab)
 refine wpAny_bind (wpAny_typeOf hT ?_)
 exact wpAny_pure h
end
end Mine
end
section
namespace Mine
open PySem PySem.Calls PySem.Spec PyProof.Rows
section
variable{prog:Program}{w:World}{A:Around}{E:Value→Shared→Prop}{s:Shared}{S:Addr}{L:List Str}
theorem setG_extend{R:Result→Shared→Prop}(hh:A.handled=none)(hG:SetG prog w s.heap S L)(hl:L.length≤1000)(D:Addr)(hDS:D≠S)(res:Value)(c₀:Nat)(hD:s.heap.get? D=some {cls:= .type "list",data:= .seq #[] c₀})
 (hR:∀h' tk d vs ks c',(∀b o,b≠D→s.heap.get? b=some o→h'.get? b=some o)→h'.get? D=some {cls:= .type "list",dict:=none,data:= .seq (List.toArray vs) c',slots:=#[]}→StrsAre vs ks→ks.Perm L→R (.ok (.ret res)) {s with heap:=h',toks:=tk,drawn:=d}):
 wpAny (model prog w) A.in1 (Builtin.List.listExtendWith (.ref D) (.ref S) res)
  (fun fin s'=>match fin with| .done f=>R (.ok f) s'| .again c'=>c'.quiet=true∧codeAny (model prog w) A c' R s') (fun e s'=>R (.error e) s') s:=by
 have hT:∀{s:Shared},SetG prog w s.heap S L→s.TypeIs (.ref S) "set":=fun{s} ⟨o,_,_,_,ho,hex,_⟩=>⟨o,ho,hex.1⟩
 unfold Builtin.List.listExtendWith
 refine wpAny_bind (wpAny_typeOf (T:="set") (hT hG) ?_)
 have h1:Builtin.List.listSameRef (.ref D) (.ref S)=false:=by simp[Builtin.List.listSameRef,hDS]
 have h2:(Value.type "set"==Value.type "list")=false:=by decide
 have h3:(Value.type "set"==Value.type "tuple")=false:=by decide
 simp only [h1,h2,h3,Bool.or_false,Bool.false_eq_true,if_false]
 refine wpAny_bind (setG_iter hG hl fun h₁ d I hk ⟨T,ord,ks,St,hW,hst,hks,hp,hI,hI',hT'⟩=>?_)
 have W:=(hW A.in1 hh).walks.toS
 have hn:ord.length≤sizeLine:=by
  have e1:ks.length=L.length:=hp.length_eq
  have e2:ord.length=ks.length:=StrsAre.length hks
  rw[sizeLine_eq];omega
 have hlt:=Heap.lt_size hD
 have hDI:D≠I:=Nat.ne_of_lt (Nat.lt_of_lt_of_le hlt hI)
 have hDT:D≠T:=Nat.ne_of_lt (Nat.lt_of_lt_of_le hlt hT')
 have hSf:D∉[I,S,T]:=by simp only [List.mem_cons,List.not_mem_nil,or_false,not_or];exact⟨hDI,hDS,hDT⟩
 have hD₁:=hk _ _ hD
 have key:∀(h:Heap) (c₁:Nat),St 0 h→(∀b o,b≠D→s.heap.get? b=some o→h.get? b=some o)→
  h.get? D=some {cls:= .type "list",data:= .seq #[] c₁}→codeAny (model prog w) A (.builtin "list.extend.loop" ⟨[.ref D,.ref I,res],[]⟩) R {s with heap:=h,drawn:=d}:=by
  intro h c₁ hst hk hS₁
  refine codeAny_extend_loopS W hn D hSf res ord.length 0 _ #[] c₁ rfl (Nat.zero_le _) hst hS₁ (ItemsOf.nil _) fun s' acc' c' hm hS' hacc=>?_
  have hacc':acc'=ord.toArray:=by
   refine Array.ext_getElem? fun j=>?_
   have e2:ord.toArray[j]? =ord[j]? :=List.getElem?_toArray
   rw[e2]
   by_cases hj:j<acc'.size
   ·rw[Array.getElem?_eq_getElem hj]
    exact(hacc.2 j _ (Array.getElem?_eq_getElem hj)).symm
   ·rw[Array.getElem?_eq_none (Nat.le_of_not_lt hj),List.getElem?_eq_none (by rw[←hacc.1];exact Nat.le_of_not_lt hj)]
  subst hacc'
  have es:s'={s with heap:=s'.heap,toks:=s'.toks,drawn:=d}:=Moved.eq_with hm
  rw[es]
  refine hR s'.heap s'.toks d ord ks c' (fun b o hb e=>hm.heap b o (fun hmem=>?_) (hk b o hb e)) hS' hks hp
  rcases List.mem_cons.mp hmem with e'|hmem
  ·exact hb e'
  ·exact absurd (Heap.lt_size e) (by rw[List.mem_singleton.mp hmem];exact Nat.not_lt.mpr hI)
 refine wpAny_bind (wpAny_holding (hint_set (hT (hG.at fun o e=>hk _ o e)) ?_))
 refine wpAny_ite_split (fun _=>?_) (fun _=>wpAny_pure ⟨plainId_quiet PySem.F.plain_extend_loop _,key _ c₀ hst (fun b o _ e=>hk b o e) hD₁⟩)
 refine wpAny_bind (wpAny_rule ?_)
 refine wpAny_bind ?_
 show wpAny _ _ (updateSeq D (·.push .none) >>= fun _=>updateSeq D (·.pop)) _ _ _
 refine wpAny_bind (wpAny_updateSeq hD₁ rfl ?_)
 have hS₂:=Heap.get?_update_self (Obj.mapSeq (·.push Value.none)) hD₁ rfl
 refine wpAny_updateSeq (hz:=by seq_fits) hS₂ rfl ?_
 have hS₃:=Heap.get?_update_self (Obj.mapSeq (·.pop)) hS₂ rfl
 refine wpAny_pure ⟨plainId_quiet PySem.F.plain_extend_loop _,key _ _ ?_ (fun b o hb e=>?_) hS₃⟩
 ·refine W.frame 0 {s with heap:=h₁,drawn:=d} _ s.toks hst (Nat.le_refl _) fun b hb o e=>?_
  have hbS:b≠D:=fun h=>hSf (h▸hb)
  exact(Heap.get?_update_other _ _ (Ne.symm hbS)).trans ((Heap.get?_update_other _ _ (Ne.symm hbS)).trans e)
 ·exact(Heap.get?_update_other _ _ (Ne.symm hb)).trans ((Heap.get?_update_other _ _ (Ne.symm hb)).trans (hk _ _ e))
theorem setG_collect{R:List Value→Shared→Prop}(hh:A.handled=none)(hG:SetG prog w s.heap S L)(hl:L.length≤1000)
 (h:∀(h':Heap) tk d vs ks,(∀b o,s.heap.get? b=some o→h'.get? b=some o)→StrsAre vs ks→ks.Perm L→R vs {s with heap:=h',toks:=tk,drawn:=d}):
 wpAny (model prog w) A (collect (.ref S)) R E s:=by
 have hS:S<s.heap.objs.size:=let ⟨o,_,_,_,ho,_⟩:=hG;Heap.lt_size ho
 unfold collect
 refine wpAny_bind (wpAny_runValue (codeAny_builtin PySem.F.entry_proto_collect ?_))
 rw[Around.under_plainId PySem.F.plain_proto_collect _]
 show wpAny _ A.in1 (newList [] >>= fun l=>again (.builtin "list.__iadd__" ⟨[l,.ref S],[]⟩)) _ _ s
 refine wpAny_bind (wpAny_newObj_type ?_)
 refine wpAny_pure ⟨plainId_quiet PySem.F.plain_list_iadd _,codeAny_builtin PySem.F.entry_list_iadd ?_⟩
 rw[Around.under_plainId PySem.F.plain_list_iadd _]
 have hS₁:(s.heap.push {cls:= .type "list",data:= .seq ([]:List Value).toArray}).get? s.heap.objs.size=some {cls:= .type "list",data:= .seq #[]}:=Heap.get?_push_size _ rfl
 show wpAny _ A.in1 (Builtin.List.listExtendWith (.ref s.heap.objs.size) (.ref S) (.ref s.heap.objs.size)) _ _ _
 have key:=setG_extend (A:=A) (s:={s with heap:=s.heap.push {cls:= .type "list",data:= .seq ([]:List Value).toArray}})
  (R:=fun(q:Result) (s':Shared)=>∃(h':Heap) (tk:Nat) (d:Drawn) (vs:List Value) (ks:List Str) (c':Nat),q= .ok (.ret (.ref s.heap.objs.size))∧s'={s with heap:=h',toks:=tk,drawn:=d}∧
    (∀b o,s.heap.get? b=some o→h'.get? b=some o)∧h'.get? s.heap.objs.size=some {cls:= .type "list",dict:=none,data:= .seq (List.toArray vs) c',slots:=#[]}∧StrsAre vs ks∧ks.Perm L)
  hh (hG.at fun o e=>Heap.get?_push_of_some _ e) hl s.heap.objs.size (Nat.ne_of_gt hS) (.ref s.heap.objs.size) 0 hS₁
  (fun h' tk d vs ks c' hk hS' hs hp=>⟨h',tk,d,vs,ks,c',rfl,rfl,fun b o e=>hk b o (Nat.ne_of_lt (Heap.lt_size e)) (Heap.get?_push_of_some _ e),hS',hs,hp⟩)
 refine wpAny_mono key (fun fin s' x=>?_) fun e s' x=>?_
 ·cases fin with
  |done f=>
   obtain⟨h',tk,d,vs,ks,c',e,rfl,hk,hS',hs,hp⟩:=x
   cases e
   show wpAny _ A (load s.heap.objs.size >>= _) _ _ _
   refine wpAny_bind (wpAny_load hS' ?_)
   exact wpAny_pure (h h' tk d vs ks hk hs hp)
  |again c₁=>
   refine⟨x.1,codeAny_mono x.2 fun q s₂ y=>?_⟩
   obtain⟨h',tk,d,vs,ks,c',rfl,rfl,hk,hS',hs,hp⟩:=y
   show wpAny _ A (load s.heap.objs.size >>= _) _ _ _
   refine wpAny_bind (wpAny_load hS' ?_)
   exact wpAny_pure (h h' tk d vs ks hk hs hp)
 ·obtain⟨_,_,_,_,_,_,e',_⟩:=x
  cases e'
theorem setG_sorted{Q:Value→Shared→Prop}(hh:A.handled=none)(hG:SetG prog w s.heap S L)(hl:L.length<64)
 (h:∀(D:Addr) (h':Heap) tk d,(∀b o,s.heap.get? b=some o→h'.get? b=some o)→s.heap.get? D=none→(∃vs ks m,h'.get? D=some (seqObj "list" (List.toArray vs) m)∧StrsAre vs ks∧ks.Perm L∧PyProof.Rows.sortedS ks=true)→Q (.ref D) {s with heap:=h',toks:=tk,drawn:=d}):
 wpAny (model prog w) A (call (.builtin "sorted") [.ref S]) Q E s:=by
 refine call_function_entry kind_sorted plain_sorted entry_sorted (args_sorted1 _) ?_
 unfold Builtin.«sorted»
 refine wpAny_bind (m:=checkCount "sorted" 1 1 _) (wpAny_pure ?_)
 refine wpAny_bind (setG_collect (A:=A.in1) hh hG (by omega) fun h' tk d vs ks hk hst hp=>?_)
 have h64:vs.length<64:=by rw[StrsAre.length hst,hp.length_eq];exact hl
 refine wpAny_bind (wpAny_newList ?_ (by rw[sizeLine_eq];omega))
 have hoL:(h'.push (seqObj "list" vs.toArray 0)).get? h'.objs.size=some (seqObj "list" vs.toArray 0):=Heap.get?_push_size _ rfl
 refine wpAny_bind (wpAny_holding (wpAny_call_entry slot_list_sort ⟨_,hoL,rfl⟩ entry_list_sort (list_sort_treeK strKind_oneLt hoL hst.keysOf (fun v₁ v₂ rest e=>keyKind_strs (by rw[←e];exact hst)) h64 fun st' a1 a2=>⟨_,rfl,?_⟩) (args_list_sort _)))
 refine ea12 (sorted_out_str hst a1 a2) fun ss' b1 b2 b3=>?_
 refine ea10 (sortedHeap_at (out:=(arrOf st').map (·.2)) hoL) fun e he=>?_
 refine wpAny_pure ⟨_,rfl,h h'.objs.size _ tk d (fun b o e=>?_) ?_ ⟨((arrOf st').map (·.2)).toList,ss',_,he,b1,b2.trans hp,b3⟩⟩
 ·have hb:=Heap.lt_size (hk b o e)
  rw[sortedHeap_old (Nat.ne_of_lt hb) (by rw[size_push'];exact Nat.lt_succ_of_lt hb)]
  exact Heap.get?_push_of_some _ (hk b o e)
 ·cases q:s.heap.get? h'.objs.size with
  |none=>rfl
  |some o=>exact absurd (Heap.lt_size (hk _ _ q)) (Nat.lt_irrefl _)
end
end Mine
end
section
namespace Mine
open PySem PySem.Calls PySem.Spec PyProof.Rows
theorem tuple_no_keys:typeLookup (.type "tuple") "keys"=pure none:=am_miss_of_fast (by decide+kernel)
theorem entry_dict_loop:entryFor table "dict.update.loop"=some Builtin.«dict.update.loop» :=entryFor_of_tree (by kernel_rfl)
theorem plain_dict_loop:plainId "dict.update.loop"=true:=by decide+kernel
section
variable{prog:Program}{w:World}{A:Around}{E:Value→Shared→Prop}{s:Shared}
theorem keys_miss_tuple{a:Addr}{xs:Array Value}{k:Nat}{sl:Array (Option Value)}{Q:Option Value→Shared→Prop}(hA:A.handled=none)
 (hx:s.heap.get? a=some {cls:= .type "tuple",dict:=none,data:= .seq xs k,slots:=sl})
 (h:∀h' tk,(∀b o,s.heap.get? b=some o→h'.get? b=some o)→Q none {s with heap:=h',toks:=tk}):
 wpAny (model prog w) A (getAttr? (.ref a) "keys") Q E s:=by
 obtain⟨hp,g,d,tk,os⟩:=s
 have hT:∀tk',(⟨hp,g,d,tk',os⟩:Shared).TypeIs (.ref a) "tuple":=fun _=>⟨_,hx,rfl⟩
 have f1:=sub_AttributeError
 have f3:=F.slot_tuple_getattribute.lookup
 have f4:=F.slot_tuple_getattribute.bind (.ref a)
 have f5:=am_tuple_getattr_none
 unfold getAttr? getAttrBy? getAttrBy
 repeat(any_goals (first |assumption|exact hT _|((with_reducible show wpAny _ _ (call (Value.builtin "tuple.__getattribute__") _ _) _ _ _);refine call_meets F.slot_tuple_getattribute (hT _) am_entry_tuple_getattribute (F.args_tuple_getattribute_2 _ _) (meets_getattribute_miss_tuple a xs k sl "keys" _ tuple_no_keys (by decide+kernel) (by decide+kernel)) ⟨hx,hA,fun h' tk' e hx'=>?_⟩)|wp_step))
 refine ea20 (hx'.there) fun t' u' he=>?_
 show wpAny _ _ (getattributeRaised _ _ _ _ _ _ _) _ _ _
 unfold getattributeRaised
 repeat(any_goals (first |assumption|wp_step))
 exact h _ _ hx'.keeps
end
end Mine
end
section
namespace Mine
open PySem PySem.Calls PySem.Spec PyProof.Rows
inductive PairsAt(h:Heap):List Value→List (Str×Value)→Prop
 |nil:PairsAt h [] []
 |cons {a:Addr} {k:Str} {u:Tok} {v:Value} {m:Nat} {vs:List Value} {kvs:List (Str×Value)}:h.get? a=some {cls:= .type "tuple",data:= .seq #[.str k u,v] m}→PairsAt h vs kvs→PairsAt h (.ref a::vs) ((k,v)::kvs)
theorem stored_le{κ:Type}[DecidableEq κ](kvs:List (κ×Value))(k:κ)(v:Value):(stored kvs k v).length≤kvs.length+1:=by
 unfold stored
 split
 ·rw[List.length_map];exact Nat.le_succ _
 ·rw[List.length_append,List.length_singleton];exact Nat.le_refl _
section
variable{prog:Program}{w:World}{A:Around}{E:Value→Shared→Prop}{s:Shared}
theorem pair_items{a:Addr}{xs:Array Value}{m:Nat}{Q:List Value→Shared→Prop}(hx:s.heap.get? a=some {cls:= .type "tuple",data:= .seq xs m})(h:Q xs.toList s):
 wpAny (model prog w) A (Builtin.Dict.pairItems (.ref a)) Q E s:=by
 unfold Builtin.Dict.pairItems
 refine wpAny_bind (wpAny_typeOf (T:="tuple") ⟨_,hx,rfl⟩ ?_)
 rw[if_pos (by decide)]
 refine wpAny_bind (wpAny_seqItems hx rfl ?_)
 exact wpAny_pure h
theorem update_loop(hh:A.handled=none){h0:Heap}{D I t:Addr}(hDI:D≠I)(hD0:h0.get? D=none)(hI0:h0.get? I=none){vs:List Value}(ht:h0.IsTuple t vs.toArray){r:List Value}{kvs:List (Str×Value)}(hp:PairsAt h0 r kvs):
 ∀(i:Nat) (acc:List (Str×Value)) (s:Shared) {R:Result→Shared→Prop},vs.drop i=r→acc.length+r.length≤200000→(∀b o,h0.get? b=some o→s.heap.get? b=some o)→s.heap.IsTupleIter I t i→s.heap.DictOf (strKind prog w) D acc→
 (∀h' tk,(∀b o,h0.get? b=some o→h'.get? b=some o)→h'.DictOf (strKind prog w) D (merged acc kvs)→R (.ok (.ret .none)) {s with heap:=h',toks:=tk})→
 codeAny (model prog w) A (.builtin "dict.update.loop" ⟨[.ref D,.ref I,.int i 0,.none],[]⟩) R s:=by
 induction hp with
 |nil=>
  intro i acc s R hd _ hk hit hD hR
  refine codeAny_builtin entry_dict_loop ?_
  rw[Around.under_plainId plain_dict_loop _]
  show wpAny _ A.in1 (pyNext (.ref I) >>= _) _ _ s
  have hge:vs.length≤i:=List.drop_eq_nil_iff.mp hd
  refine wpAny_bind (wpAny_pyNext_tuple_end hh hit (ht.at fun o e=>hk _ o e) (by simp[hge]) fun h' he'=>?_)
  show wpAny _ A.in1 (Builtin.Dict.addKeywords D [] >>= _) _ _ _
  refine wpAny_bind (wpAny_pure ?_)
  exact wpAny_pure (hR h' s.toks (fun b o e=>he' b o (fun q=>by rw[q,hI0]at e;cases e) (hk b o e)) (hD.extBut he' hDI))
 | @cons a k u v m vs' kvs' ha hr ih=>
   intro i acc s R hd hlen hk hit hD hR
   have hi:vs[i]? =some (.ref a):=by
    have :=congrArg (·[0]?) hd
    simpa using this
   refine codeAny_builtin entry_dict_loop ?_
   rw[Around.under_plainId plain_dict_loop _]
   show wpAny _ A.in1 (pyNext (.ref I) >>= _) _ _ s
   refine wpAny_bind (wpAny_pyNext_tuple_item hit (ht.at fun o e=>hk _ o e) (x:= .ref a) (by rw[List.getElem?_toArray];exact hi) fun h1 hit1 hs1=>?_)
   have hk1:∀b o,h0.get? b=some o→h1.get? b=some o:=fun b o e=>(hs1.2 b (fun q=>by rw[q,hI0]at e;cases e)).trans (hk b o e)
   have hD1:h1.DictOf (strKind prog w) D acc:=hD.extBut hs1.extBut hDI
   dsimp only
   refine wpAny_bind (wpAny_holding ?_)
   refine wpAny_bind (wpAny_tryCatch (pair_items (hk1 _ _ ha) ?_))
   simp only [List.length_cons]at hlen
   refine wpAny_holding (wpAny_dictSet_pairs (knd:=strKind prog w) (k:=k) (strKind_is prog w k u) hD1 (fun h2 hD2 hs2=>?_) (by rw[sizeLine_eq];omega))
   refine wpAny_pure ⟨plainId_quiet plain_dict_loop _,?_⟩
   have hst:=stored_le acc k v
   refine ih (i+1) _ {s with heap:=h2,toks:=s.toks+1} ?_ (by omega) (fun b o e=>(hs2.2 b (fun q=>by rw[q,hD0]at e;cases e)).trans (hk1 b o e)) (hit1.extBut hs2.extBut (Ne.symm hDI)) hD2 fun h' tk' hk' hD'=>hR h' tk' hk' hD'
   rw[←List.drop_drop,List.drop_one]at*
   rw[hd];rfl
theorem dict_pairs_call{t:Addr}{vs:List Value}{m:Nat}{kvs:List (Str×Value)}{Q:Value→Shared→Prop}(hh:A.handled=none)(ht:s.heap.get? t=some {cls:= .type "tuple",data:= .seq vs.toArray m})(hp:PairsAt s.heap vs kvs)(hn:vs.length≤200000)
 (h:∀h' tk,(∀b o,s.heap.get? b=some o→h'.get? b=some o)→h'.DictOf (strKind prog w) s.heap.objs.size (merged [] kvs)→Q (.ref s.heap.objs.size) {s with heap:=h',toks:=tk}):
 wpAny (model prog w) A (PySem.call (.type "dict") [.ref t]) Q E s:=by
 refine callType_codes (Q₁:=fun obj s₁=>obj= .ref s.heap.objs.size∧s₁={s with heap:=s.heap.push {cls:= .type "dict",data:= .dict #[]}}) F.kt_called_dict (F.kt_typeCall_dict_1 _) F.entry_dict_init (kt_code_dict_new _ ⟨rfl,rfl⟩) ?_
 rintro obj s₁ ⟨rfl,rfl⟩
 have hnew:(s.heap.push {cls:= .type "dict",data:= .dict #[]}).DictOf (strKind prog w) s.heap.objs.size []:=Heap.DictOf.new s.heap
 have hk1:∀b o,s.heap.get? b=some o→(s.heap.push {cls:= .type "dict",data:= .dict #[]}).get? b=some o:=fun b o e=>Heap.get?_push_of_some _ e
 have ht1:=hk1 _ _ ht
 refine⟨hnew.typeIs,F.args_dict_init_2 _ _,?_⟩
 unfold Builtin.«dict.__init__»
 refine wpAny_bind ?_
 unfold Builtin.Dict.selfAndRest
 refine wpAny_bind (wpAny_notOrdered_dict hnew.typeIs ?_)
 show wpAny _ _ (pure (s.heap.objs.size,[Value.ref t])) _ _ _
 refine wpAny_pure ?_
 show wpAny _ _ (Builtin.Dict.updateFrom "dict.__init__" s.heap.objs.size (.ref t) [] .none) _ _ _
 unfold Builtin.Dict.updateFrom
 refine wpAny_bind (wpAny_typeOf (T:="tuple") ⟨_,ht1,rfl⟩ ?_)
 rw[if_pos (by decide)]
 refine wpAny_bind (keys_miss_tuple hh ht1 fun h2 tk hk2=>?_)
 rw[if_pos (by decide)]
 refine wpAny_bind (wpAny_rule ?_)
 have hk12:∀b o,s.heap.get? b=some o→h2.get? b=some o:=fun b o e=>hk2 b o (hk1 b o e)
 refine wpAny_bind (wpAny_pyIter_tuple ⟨_,hk12 _ _ ht,rfl,_,rfl⟩ ?_)
 have hD2:h2.DictOf (strKind prog w) s.heap.objs.size []:=by
  refine ea31 hnew fun o es ep ho r=>?_;clear hnew
  exact⟨o,es,ep,hk2 _ _ ho,r⟩
 have hlt:s.heap.objs.size<h2.objs.size:=by
  refine ea31 hD2 fun o es ep ho r=>?_;clear hD2
  exact Heap.lt_size ho
 have n0:∀b,s.heap.objs.size≤b→s.heap.get? b=none:=fun b hb=>by
  cases e:s.heap.get? b with
  |none=>rfl
  |some o=>exact absurd (Heap.lt_size e) (Nat.not_lt.mpr hb)
 refine wpAny_pure ⟨plainId_quiet plain_dict_loop _,update_loop (prog:=prog) (w:=w) (A:=A.in1) hh (h0:=s.heap) (D:=s.heap.objs.size) (I:=h2.objs.size) (t:=t) (Nat.ne_of_lt hlt) (n0 _ (Nat.le_refl _)) (n0 _ (Nat.le_of_lt hlt)) ⟨_,ht,rfl,_,rfl⟩ hp 0 [] _ rfl (by simpa using hn) (fun b o e=>Heap.get?_push_of_some _ (hk12 b o e)) ⟨_,Heap.get?_push_size _ rfl,rfl,rfl⟩ (hD2.push _) fun h' tk' hk' hD'=>?_⟩
 exact⟨rfl,h h' tk' hk' hD'⟩
end
end Mine
end
section
namespace Mine
open PySem PySem.Calls PySem.Spec PyProof.Rows
theorem lEq_iff(a b:List Nat):lEq a b=true↔a=b:=⟨lEq_to,fun h=>h▸lEq_self a⟩
theorem sEq_iff(a b:Str):sEq a b=true↔a=b:=by
 unfold sEq
 rw[lEq_iff]
 cases a;cases b
 simp only [Str.mk.injEq]
 exact Array.toList_inj
theorem sEq_false{a b:Str}:sEq a b=false↔a≠b:=by
 rw[←Bool.not_eq_true,sEq_iff]
theorem sEq_self(a:Str):sEq a a=true:=(sEq_iff a a).mpr rfl
theorem look_eq{α:Type}(x:Str):∀l:List (Str×α),look x l=l.lookup x
 |[]=>rfl
 |(y,v)::r=>by
  rw[List.lookup_cons]
  cases h:sEq y x with
  |true=>
   have :=(sEq_iff _ _).mp h
   subst this
   rw[look_t h]
   simp
  |false=>
   have hne:=sEq_false.mp h
   have :(x==y)=false:=beq_eq_false_iff_ne.mpr (Ne.symm hne)
   rw[look_f h,this]
   exact look_eq x r
noncomputable abbrev Gh:=List (Addr×Addr)
noncomputable def PT(h:Heap)(a:Addr)(vs:Array Value):Prop:=∃n,h.get? a=some {cls:= .type "tuple",data:= .seq vs n}
theorem PT.is{h:Heap}{a:Addr}{vs:Array Value}(x:PT h a vs):h.IsTuple a vs:=let ⟨n,e⟩:=x;⟨_,e,rfl,n,rfl⟩
mutual
inductive VR(h:Heap)(γ:Gh):Value→AV→Prop
 |none:VR h γ .none .none
 |bool (b:Bool):VR h γ (.bool b) (.bool b)
 |int (i:Int) (t:Tok):VR h γ (.int i t) (.int i)
 |str (x:Str) (t:Tok):VR h γ (.str x t) (.str x)
 |tup {a:Addr} {vs:List Value} {xs:List AV}:PT h a vs.toArray→vs.length≤bound→VRs h γ vs xs→VR h γ (.ref a) (.tup xs)
 |ob {i:Nat} {p:Addr×Addr}:γ[i]? =some p→VR h γ (.ref p.1) (.ob i)
 |fix (v:Value):VR h γ v (.fix v)
inductive VRs(h:Heap)(γ:Gh):List Value→List AV→Prop
 |nil:VRs h γ [] []
 |cons {v:Value} {x:AV} {vs:List Value} {xs:List AV}:VR h γ v x→VRs h γ vs xs→VRs h γ (v::vs) (x::xs)
end
inductive KR{κ:Type}(h:Heap)(γ:Gh):List (κ×Value)→List (κ×AV)→Prop
 |nil:KR h γ [] []
 |cons {k:κ} {v:Value} {x:AV} {vs:List (κ×Value)} {xs:List (κ×AV)}:VR h γ v x→KR h γ vs xs→KR h γ ((k,v)::vs) ((k,x)::xs)
inductive ER(h:Heap)(γ:Gh):List DictEntry→List (Str×AV)→Prop
 |nil:ER h γ [] []
 |cons {hsh:Int} {k:Str} {t:Tok} {v:Value} {x:AV} {es:List DictEntry} {xs:List (Str×AV)}:VR h γ v x→ER h γ es xs→ER h γ (⟨hsh,.str k t,v⟩::es) ((k,x)::xs)
noncomputable def TupKeep(h h':Heap):Prop:=∀a vs,PT h a vs→PT h' a vs
theorem TupKeep.refl(h:Heap):TupKeep h h:=fun _ _ x=>x
theorem TupKeep.trans{h₁ h₂ h₃:Heap}(x:TupKeep h₁ h₂)(y:TupKeep h₂ h₃):TupKeep h₁ h₃:=fun a vs z=>y a vs (x a vs z)
theorem TupKeep.of_keeps{h h':Heap}(k:∀b o,h.get? b=some o→h'.get? b=some o):TupKeep h h':=fun _ _ ⟨n,ho⟩=>⟨n,k _ _ ho⟩
theorem get_pre{γ add:Gh}{i:Nat}{p:Addr×Addr}(h:γ[i]? =some p):(γ++add)[i]? =some p:=by
 obtain⟨hl,e⟩:=List.getElem?_eq_some_iff.mp h
 rw[List.getElem?_append_left hl];exact h
theorem VRs.ind{h:Heap}{γ:Gh}{p:List Value→List AV→Prop}(nil:p [] [])(cons:∀{v x vs xs},VR h γ v x→VRs h γ vs xs→p vs xs→p (v::vs) (x::xs)){vs:List Value}{xs:List AV}(r:VRs h γ vs xs):p vs xs:=
 VRs.rec (motive_1:=fun _ _ _=>True) (motive_2:=fun vs xs _=>p vs xs) trivial (fun _=>trivial) (fun _ _=>trivial) (fun _ _=>trivial) (fun _ _ _ _=>trivial) (fun _=>trivial) (fun _=>trivial) nil (fun a r _ ih=>cons a r ih) r
theorem VR.mono{h h':Heap}{γ:Gh}(add:Gh)(k:TupKeep h h'){v:Value}{x:AV}(r:VR h γ v x):VR h' (γ++add) v x:=
 VR.rec (motive_1:=fun v x _=>VR h' (γ++add) v x) (motive_2:=fun vs xs _=>VRs h' (γ++add) vs xs) .none .bool .int .str (fun ht hb _ ih=> .tup (k _ _ ht) hb ih) (fun hi=> .ob (get_pre hi)) .fix .nil (fun _ _ a r=> .cons a r) r
theorem VRs.mono{h h':Heap}{γ:Gh}(add:Gh)(k:TupKeep h h'){vs:List Value}{xs:List AV}(r:VRs h γ vs xs):VRs h' (γ++add) vs xs:=r.ind .nil fun a _ ih=> .cons (a.mono add k) ih
theorem VR.keep{h h':Heap}{γ:Gh}{v:Value}{x:AV}(r:VR h γ v x)(k:TupKeep h h'):VR h' γ v x:=by
 have :=r.mono [] k
 rwa [List.append_nil]at this
theorem VRs.keep{h h':Heap}{γ:Gh}{v:List Value}{x:List AV}(r:VRs h γ v x)(k:TupKeep h h'):VRs h' γ v x:=by
 have :=r.mono [] k
 rwa [List.append_nil]at this
theorem KR.mono{κ:Type}{h h':Heap}{γ:Gh}(add:Gh)(k:TupKeep h h'){vs:List (κ×Value)}{xs:List (κ×AV)}(r:KR h γ vs xs):KR h' (γ++add) vs xs:=by
 induction r with
 |nil=>exact .nil
 |cons a _ ih=>exact .cons (a.mono add k) ih
theorem ER.mono{h h':Heap}{γ:Gh}(add:Gh)(k:TupKeep h h'){vs:List DictEntry}{xs:List (Str×AV)}(r:ER h γ vs xs):ER h' (γ++add) vs xs:=by
 induction r with
 |nil=>exact .nil
 |cons a _ ih=>exact .cons (a.mono add k) ih
theorem VRs.length{h:Heap}{γ:Gh}{vs:List Value}{xs:List AV}(r:VRs h γ vs xs):vs.length=xs.length:=r.ind (p:=fun vs xs=>vs.length=xs.length) rfl fun _ _ ih=>congrArg Nat.succ ih
theorem VRs.append{h:Heap}{γ:Gh}{vs:List Value}{xs:List AV}(r:VRs h γ vs xs){ws:List Value}{ys:List AV}(k:VRs h γ ws ys):VRs h γ (vs++ws) (xs++ys):=r.ind (p:=fun vs xs=>VRs h γ (vs++ws) (xs++ys)) k fun a _ ih=> .cons a ih
theorem VRs.get{h:Heap}{γ:Gh}{vs:List Value}{xs:List AV}(r:VRs h γ vs xs):∀{i:Nat} {x:AV},xs[i]? =some x→∃v,vs[i]? =some v∧VR h γ v x:=
 r.ind (p:=fun vs xs=>∀{i:Nat} {x:AV},xs[i]? =some x→∃v,vs[i]? =some v∧VR h γ v x) (fun e=>nomatch e) fun a _ ih i _ e=>match i with
  |0=>⟨_,rfl,Option.some.inj e▸a⟩
  |_+1=>ih e
theorem VRs.drop{h:Heap}{γ:Gh}{vs:List Value}{xs:List AV}(r:VRs h γ vs xs):∀n:Nat,VRs h γ (vs.drop n) (xs.drop n):=
 r.ind (p:=fun vs xs=>∀n:Nat,VRs h γ (vs.drop n) (xs.drop n)) (fun n=>by cases n<;>exact .nil) fun a r ih n=>match n with
  |0=> .cons a r
  |n+1=>ih n
theorem VRs.take{h:Heap}{γ:Gh}{vs:List Value}{xs:List AV}(r:VRs h γ vs xs):∀n:Nat,VRs h γ (vs.take n) (xs.take n):=
 r.ind (p:=fun vs xs=>∀n:Nat,VRs h γ (vs.take n) (xs.take n)) (fun n=>by cases n<;>exact .nil) fun a r ih n=>match n with
  |0=> .nil
  |n+1=> .cons a (ih n)
noncomputable def NT(o:Obj):Prop:=¬(o.cls= .type "tuple"∧∃xs n,o.data= .seq xs n)
theorem NT.cls{o:Obj}(h:o.cls≠ .type "tuple"):NT o:=fun e=>h e.1
theorem NT.dict{o:Obj}{es:Array DictEntry}{ep:Nat}(h:o.data= .dict es ep):NT o:=fun e=>by
 refine ea01 e fun _ h1=>?_;clear e;refine ea20 h1 fun xs n e=>?_;clear h1
 rw[h]at e;cases e
noncomputable def Own(o:Obj):Prop:=(∀vs,o.data≠ .fields vs)∧NT o
theorem Own.dict{o:Obj}{es:Array DictEntry}{ep:Nat}(h:o.data= .dict es ep):Own o:=⟨(fun vs e=>by rw[h]at e;cases e),NT.dict h⟩
theorem NT.not{h:Heap}{a:Addr}{o:Obj}{vs:Array Value}(n:NT o)(ho:h.get? a=some o):¬h.IsTuple a vs:=fun⟨o',ho',hc,m,hd⟩=>by
 rw[ho]at ho';cases ho'
 exact n ⟨hc,_,_,hd⟩
section
variable(prog:Program)(w:World)(base:Heap)
noncomputable def OR(h:Heap)(γ:Gh)(p:Addr×Addr):AO→Prop
 | .list xs=>p.2=p.1∧∃vs:List Value,h.PlainList p.1 vs.toArray∧vs.length≤bound∧VRs h γ vs xs
 | .dstr kvs=>p.2=p.1∧∃vs:List (Str×Value),h.DictOf (strKind prog w) p.1 vs∧vs.length≤bound∧KR h γ vs kvs
 | .dint kvs=>p.2=p.1∧∃vs:List (Int×Value),h.DictOf (intKind prog w) p.1 vs∧vs.length≤bound∧KR h γ vs kvs
 | .inst C attrs=>p.2≠p.1∧(∃o,h.get? p.1=some o∧o.cls= .ref C∧o.dict=some p.2∧o.data= .plain)∧
    ∃es n,h.get? p.2=some {cls:= .type "dict",data:= .dict (List.toArray es) n}∧es.length≤1000∧ER h γ es attrs
 | .meth f self=>p.2=p.1∧∃u,h.get? p.1=some {cls:= .type "method",data:= .fields #[.ref f,u]}∧VR h γ u self
 | .frozen=>True
structure SR(h:Heap)(γ:Gh)(σ:Store):Prop where
 stays:base.StaysIn h
 len:γ.length=σ.length
 obj:∀(i:Nat) (p:Addr×Addr) (o:AO),γ[i]? =some p→σ[i]? =some o→OR prog w h γ p o
 live:∀p∈γ,(∃o,h.get? p.1=some o∧NT o)∧(∃o,h.get? p.2=some o∧NT o)
 new:∀p∈γ,base.get? p.1=none∧base.get? p.2=none
 apart:∀(i j:Nat) (p q:Addr×Addr),γ[i]? =some p→γ[j]? =some q→i≠j→p.1≠q.1∧p.1≠q.2∧p.2≠q.1∧p.2≠q.2
noncomputable def Mut(γ:Gh)(σ:Store)(b:Addr):Prop:=∃(i:Nat) (p:Addr×Addr),γ[i]? =some p∧(b=p.1∨b=p.2)∧σ[i]?≠some .frozen
noncomputable def Ext(W:List Addr)(S:List Addr)(γ:Gh)(σ:Store)(h h':Heap):Prop:=
 ∀b o,h.get? b=some o→b∉W→¬Mut γ σ b→∃sl,h'.get? b=some {o with slots:=sl}∧(b∉S→sl=o.slots)
structure Post(W S:List Addr)(s:Shared)(γ:Gh)(σ:Store)(s':Shared)(γ':Gh)(σ':Store):Prop where
 same:∃h tk d,s'={s with heap:=h,toks:=tk,drawn:=d}
 pre:∃add,γ'=γ++add∧∀p∈add,s.heap.get? p.1=none∧s.heap.get? p.2=none
 ext:Ext W S γ σ s.heap s'.heap
 tup:TupKeep s.heap s'.heap
 dom:∀b o,s.heap.get? b=some o→∃o',s'.heap.get? b=some o'∧(Own o→Own o')
 frz:∀i:Nat,σ[i]? =some .frozen→σ'[i]? =some .frozen
 sr:SR prog w base s'.heap γ' σ'
end
section
variable{prog:Program}{w:World}{base:Heap}{W S:List Addr}{s s₁ s₂:Shared}{γ γ₁ γ₂:Gh}{σ σ₁ σ₂:Store}
theorem set_slots_self(o:Obj):{o with slots:=o.slots}=o:=rfl
theorem Ext.refl(W S:List Addr)(γ:Gh)(σ:Store)(h:Heap):Ext W S γ σ h h:=fun _ o e _ _=>⟨o.slots,e,fun _=>rfl⟩
theorem Ext.of_keeps{h h':Heap}(k:∀b o,h.get? b=some o→h'.get? b=some o):Ext W S γ σ h h':=fun b o e _ _=>⟨o.slots,k b o e,fun _=>rfl⟩
theorem Post.refl(R:SR prog w base s.heap γ σ):Post prog w base W S s γ σ s γ σ:=
 ⟨⟨s.heap,s.toks,s.drawn,rfl⟩,⟨[],(List.append_nil _).symm,fun _ h=>nomatch h⟩,Ext.refl _ _ _ _ _,TupKeep.refl _,fun _ o h=>⟨o,h,id⟩,fun _ h=>h,R⟩
theorem Post.wide{W':List Addr}(x:Post prog w base [] S s γ σ s₁ γ₁ σ₁):Post prog w base W' S s γ σ s₁ γ₁ σ₁:=
 ⟨x.same,x.pre,fun b o e _ hm=>x.ext b o e (fun h=>nomatch h) hm,x.tup,x.dom,x.frz,x.sr⟩
theorem SR.vr_there{h:Heap}(R:SR prog w base h γ σ){i:Nat}{p:Addr×Addr}(hi:γ[i]? =some p):∃o,h.get? p.1=some o:=let ⟨o,ho,_⟩:=(R.live p (List.mem_of_getElem? hi)).1;⟨o,ho⟩
theorem Mut.back(x:Post prog w base W S s γ σ s₁ γ₁ σ₁){b:Addr}{o:Obj}(hb:s.heap.get? b=some o)(m:Mut γ₁ σ₁ b):Mut γ σ b:=by
 refine ea22 m fun i p hi hp hf=>?_;clear m
 refine ea11 (x.pre) fun add z1=>?_;subst z1;intro hn
 by_cases hl:i<γ.length
 ·rw[List.getElem?_append_left hl]at hi
  exact⟨i,p,hi,hp,fun e=>hf (x.frz i e)⟩
 ·rw[List.getElem?_append_right (Nat.le_of_not_lt hl)]at hi
  have :=hn p (List.mem_of_getElem? hi)
  rcases hp with rfl|rfl
  ·rw[hb]at this;cases this.1
  ·rw[hb]at this;cases this.2
theorem Post.trans(x:Post prog w base W S s γ σ s₁ γ₁ σ₁)(y:Post prog w base W S s₁ γ₁ σ₁ s₂ γ₂ σ₂):Post prog w base W S s γ σ s₂ γ₂ σ₂:=by
 refine⟨?_,?_,?_,x.tup.trans y.tup,fun b o h=>let ⟨o',h',n'⟩:=x.dom b o h;let ⟨o2,h2,n2⟩:=y.dom b o' h';⟨o2,h2,fun n=>n2 (n' n)⟩,fun i h=>y.frz i (x.frz i h),y.sr⟩
 ·refine ea30 (x.same) fun h1 t1 d1 e1=>?_
  refine ea30 (y.same) fun h2 t2 d2 e2=>?_
  exact⟨h2,t2,d2,by rw[e2,e1]⟩
 ·refine ea11 (x.pre) fun a1 e1 n1=>?_
  refine ea11 (y.pre) fun a2 e2 n2=>?_
  refine⟨a1++a2,by rw[e2,e1,List.append_assoc],fun p hp=>?_⟩
  rcases List.mem_append.mp hp with hp|hp
  ·exact n1 p hp
  ·have old:∀b,s₁.heap.get? b=none→s.heap.get? b=none:=fun b hb=>by
    cases q:s.heap.get? b with
    |none=>rfl
    |some o=>
     refine ea11 (x.dom b o q) fun o' ho' _=>?_
     rw[hb]at ho';cases ho'
   exact⟨old _ (n2 p hp).1,old _ (n2 p hp).2⟩
 ·intro b o e hw hm
  refine ea11 (x.ext b o e hw hm) fun sl e1 k1=>?_
  refine ea11 (y.ext b _ e1 hw (fun m=>hm (m.back x e))) fun sl2 e2 k2=>?_
  exact⟨sl2,e2,fun hs=>(k2 hs).trans (k1 hs)⟩
theorem OR.keep{h h':Heap}{p:Addr×Addr}(add:Gh)(k:TupKeep h h')(e1:∀o,h.get? p.1=some o→h'.get? p.1=some o)(e2:∀o,h.get? p.2=some o→h'.get? p.2=some o)
 {o:AO} (x:OR prog w h γ p o):OR prog w h' (γ++add) p o:=by
 cases o with
 |list _=>exact x.imp id (Exists.imp fun _ h=>⟨h.1.imp fun _=>e1 _,h.2.1,h.2.2.mono add k⟩)
 |dstr _=>exact x.imp id (Exists.imp fun _ h=>⟨h.1.imp fun _=>Exists.imp fun _=>Exists.imp fun _ q=>⟨e1 _ q.1,q.2⟩,h.2.1,h.2.2.mono add k⟩)
 |dint _=>exact x.imp id (Exists.imp fun _ h=>⟨h.1.imp fun _=>Exists.imp fun _=>Exists.imp fun _ q=>⟨e1 _ q.1,q.2⟩,h.2.1,h.2.2.mono add k⟩)
 |inst _ attrs=>exact⟨x.1,x.2.1.imp fun _ q=>⟨e1 _ q.1,q.2⟩,x.2.2.imp fun _=>Exists.imp fun _ q=>⟨e2 _ q.1,q.2.1,q.2.2.mono add k⟩⟩
 |«meth» _ _=>exact x.imp id (Exists.imp fun _ q=>⟨e1 _ q.1,q.2.mono add k⟩)
 |frozen=>trivial
theorem SR.keeps{h h':Heap}(R:SR prog w base h γ σ)(k:∀b o,h.get? b=some o→h'.get? b=some o):SR prog w base h' γ σ:=by
 refine⟨fun b o e=>k b o (R.stays b o e),R.len,fun i p o hp ho=>?_,fun p hp=>?_,R.new,R.apart⟩
 ·have :=OR.keep (add:=[]) (.of_keeps k) (fun o e=>k _ o e) (fun o e=>k _ o e) (R.obj i p o hp ho)
  rwa [List.append_nil]at this
 ·obtain⟨⟨o,ho,h1⟩,o',ho',h2⟩:=R.live p hp
  exact⟨⟨o,k _ _ ho,h1⟩,o',k _ _ ho',h2⟩
theorem Post.keeps(R:SR prog w base s.heap γ σ){h:Heap}{tk:Tok}(k:∀b o,s.heap.get? b=some o→h.get? b=some o):Post prog w base W S s γ σ {s with heap:=h,toks:=tk} γ σ:=
 ⟨⟨h,tk,_,rfl⟩,⟨[],(List.append_nil _).symm,fun _ h=>nomatch h⟩,Ext.of_keeps k,.of_keeps k,fun b o e=>⟨o,k b o e,id⟩,fun _ h=>h,R.keeps k⟩
theorem get_snoc{α:Type}{l:List α}{x:α}{i:Nat}{y:α}(h:(l++[x])[i]? =some y):(l[i]? =some y∧i<l.length)∨(i=l.length∧y=x):=by
 by_cases hl:i<l.length
 ·rw[List.getElem?_append_left hl]at h;exact .inl ⟨h,hl⟩
 ·rw[List.getElem?_append_right (Nat.le_of_not_lt hl)]at h
  have :i - l.length=0:=by
   cases hq:i - l.length with
   |zero=>rfl
   |succ n=>rw[hq]at h;simp at h
  rw[this]at h
  simp only [List.getElem?_cons_zero,Option.some.injEq]at h
  exact .inr ⟨by omega,h.symm⟩
theorem SR.push{h h':Heap}(R:SR prog w base h γ σ)(k:∀b o,h.get? b=some o→h'.get? b=some o){p:Addr×Addr}{o:AO}(n1:h.get? p.1=none)(n2:h.get? p.2=none)
 (l1:∃o,h'.get? p.1=some o∧NT o) (l2:∃o,h'.get? p.2=some o∧NT o) (hO:OR prog w h' (γ++[p]) p o):SR prog w base h' (γ++[p]) (σ++[o]):=by
 have R':=R.keeps k
 have fr:∀b,h.get? b=none→base.get? b=none:=fun b hb=>by
  cases q:base.get? b with
  |none=>rfl
  |some o=>have :=R.stays b o q;rw[hb]at this;cases this
 have ne:∀q∈γ,p.1≠q.1∧p.1≠q.2∧p.2≠q.1∧p.2≠q.2:=fun q hq=>by
  obtain⟨⟨o1,h1,_⟩,o2,h2,_⟩:=R.live q hq
  refine⟨?_,?_,?_,?_⟩<;>intro e
  ·rw[e,h1]at n1;cases n1
  ·rw[e,h2]at n1;cases n1
  ·rw[e,h1]at n2;cases n2
  ·rw[e,h2]at n2;cases n2
 refine⟨R'.stays,by simp[R.len],fun i q o' hq ho'=>?_,fun q hq=>?_,fun q hq=>?_,fun i j q q' hq hq' hij=>?_⟩
 ·rcases get_snoc hq with ⟨hq,hl⟩|⟨rfl,rfl⟩
  ·rw[List.getElem?_append_left (R.len▸hl)]at ho'
   exact OR.keep (add:=[p]) (.of_keeps k) (fun o e=>k _ o e) (fun o e=>k _ o e) (R.obj i q o' hq ho')
  ·rw[R.len,List.getElem?_append_right (Nat.le_refl _)]at ho'
   simp only [Nat.sub_self,List.getElem?_cons_zero,Option.some.injEq]at ho'
   subst ho'
   exact hO
 ·rcases List.mem_append.mp hq with hq|hq
  ·exact R'.live q hq
  ·rw[List.mem_singleton.mp hq];exact⟨l1,l2⟩
 ·rcases List.mem_append.mp hq with hq|hq
  ·exact R.new q hq
  ·rw[List.mem_singleton.mp hq];exact⟨fr _ n1,fr _ n2⟩
 ·rcases get_snoc hq with ⟨hq1,hl⟩|⟨e1,e2⟩
  ·rcases get_snoc hq' with ⟨hq2,_⟩|⟨e1,e2⟩
   ·exact R.apart i j q q' hq1 hq2 hij
   ·refine ea03 (ne q (List.mem_of_getElem? hq1)) fun a b c d=>?_
    rw[e2]
    exact⟨a.symm,c.symm,b.symm,d.symm⟩
  ·rcases get_snoc hq' with ⟨hq2,_⟩|⟨e3,e4⟩
   ·rw[e2];exact ne q' (List.mem_of_getElem? hq2)
   ·exact absurd (e1.trans e3.symm) hij
theorem frz_snoc{i:Nat}{o:AO}(h:σ[i]? =some .frozen):(σ++[o])[i]? =some .frozen:=by
 obtain⟨hl,_⟩:=List.getElem?_eq_some_iff.mp h
 rw[List.getElem?_append_left hl];exact h
theorem Post.push(R:SR prog w base s.heap γ σ){h:Heap}{tk:Tok}(k:∀b o,s.heap.get? b=some o→h.get? b=some o){p:Addr×Addr}{o:AO}(n1:s.heap.get? p.1=none)(n2:s.heap.get? p.2=none)
 (l1:∃o,h.get? p.1=some o∧NT o) (l2:∃o,h.get? p.2=some o∧NT o) (hO:OR prog w h (γ++[p]) p o):
 Post prog w base W S s γ σ {s with heap:=h,toks:=tk} (γ++[p]) (σ++[o]):=
 ⟨⟨h,tk,_,rfl⟩,⟨[p],rfl,fun q hq=>by rw[List.mem_singleton.mp hq];exact⟨n1,n2⟩⟩,Ext.of_keeps k,.of_keeps k,fun b o e=>⟨o,k b o e,id⟩,fun _ h=>frz_snoc h,R.push k n1 n2 l1 l2 hO⟩
theorem VR.of_push{h:Heap}{p:Addr×Addr}(e:γ.length=σ.length):VR h (γ++[p]) (.ref p.1) (.ob σ.length):=by
 refine .ob (p:=p) ?_
 rw[←e,List.getElem?_append_right (Nat.le_refl _)]
 simp
noncomputable def But(q:Addr)(h h':Heap):Prop:=∀b o,b≠q→h.get? b=some o→h'.get? b=some o
theorem But.same{q:Addr}{h h':Heap}(x:Heap.SameBut q h h'):But q h h':=fun b _ n e=>(x.2 b n).trans e
theorem SR.set{h h':Heap}(R:SR prog w base h γ σ){i:Nat}{p:Addr×Addr}{q:Addr}{o':AO}(hi:γ[i]? =some p)(hq:q=p.1∨q=p.2)(hs:But q h h')
 (nt:∀o,h'.get? q=some o→NT o) (th:∃o,h'.get? q=some o) (hO:OR prog w h' γ p o'):TupKeep h h'∧SR prog w base h' γ (σ.set i o'):=by
 have lv:=R.live p (List.mem_of_getElem? hi)
 have tk:TupKeep h h':=fun a vs ⟨m,ho⟩=>by
  refine⟨m,hs a _ ?_ ho⟩
  rintro rfl
  rcases hq with rfl|rfl
  ·refine ea11 (lv.1) fun o1 h1 n1=>?_
   rw[ho]at h1;cases h1;exact n1 ⟨rfl,_,_,rfl⟩
  ·refine ea11 (lv.2) fun o1 h1 n1=>?_
   rw[ho]at h1;cases h1;exact n1 ⟨rfl,_,_,rfl⟩
 have nw:=R.new p (List.mem_of_getElem? hi)
 refine⟨tk,fun b o e=>hs b _ ?_ (R.stays b o e),by rw[List.length_set];exact R.len,fun j r o hr ho=>?_,fun r hr=>?_,R.new,R.apart⟩
 ·rintro rfl
  rcases hq with rfl|rfl
  ·rw[nw.1]at e;cases e
  ·rw[nw.2]at e;cases e
 ·by_cases hij:i=j
  ·subst hij
   rw[hi]at hr;cases hr
   rw[List.getElem?_set_self']at ho
   cases hs':σ[i]? with
   |none=>rw[hs']at ho;simp at ho
   |some _=>rw[hs']at ho;simp at ho;subst ho;exact hO
  ·rw[List.getElem?_set_ne hij]at ho
   have a:=R.apart i j p r hi hr hij
   have d:∀b,(b=r.1∨b=r.2)→b≠q:=by
    rintro b (rfl|rfl) e
    ·rcases hq with rfl|rfl
     ·exact a.1 e.symm
     ·exact a.2.2.1 e.symm
    ·rcases hq with rfl|rfl
     ·exact a.2.1 e.symm
     ·exact a.2.2.2 e.symm
   have :=OR.keep (add:=[]) tk (fun o e=>hs _ _ (d _ (.inl rfl)) e) (fun o e=>hs _ _ (d _ (.inr rfl)) e) (R.obj j r o hr ho)
   rwa [List.append_nil]at this
 ·have l:=R.live r hr
  have one:∀b,(∃o,h.get? b=some o∧NT o)→∃o,h'.get? b=some o∧NT o:=fun b ⟨o,ho,hn⟩=>by
   by_cases e:b=q
   ·subst e
    refine ea10 th fun o' ho'=>?_;clear th
    exact⟨o',ho',nt _ ho'⟩
   ·exact⟨o,hs b _ e ho,hn⟩
  exact⟨one _ l.1,one _ l.2⟩
theorem Post.dom1(x:Post prog w base W S s γ σ s₁ γ₁ σ₁){b:Addr}(h:s₁.heap.get? b=none):s.heap.get? b=none:=by
 cases q:s.heap.get? b with
 |none=>rfl
 |some o=>
  refine ea11 (x.dom b o q) fun o' ho' _=>?_
  rw[h]at ho';cases ho'
theorem Post.set(R:SR prog w base s.heap γ σ){h':Heap}{tk:Tok}{i:Nat}{p:Addr×Addr}{q:Addr}{o o':AO}(hi:γ[i]? =some p)(ho:σ[i]? =some o)(hf:o≠ .frozen)(hq:q=p.1∨q=p.2)(hs:But q s.heap h')
 (nt:∀o,h'.get? q=some o→NT o) (th:∃o,h'.get? q=some o∧Own o) (hO:OR prog w h' γ p o'):Post prog w base W S s γ σ {s with heap:=h',toks:=tk} γ (σ.set i o'):=by
 refine ea01 (R.set hi hq hs nt (let ⟨o,h,_⟩:=th;⟨o,h⟩) hO) fun t R'=>?_
 refine⟨⟨h',tk,_,rfl⟩,⟨[],(List.append_nil _).symm,fun _ h=>nomatch h⟩,fun b ob e _ hm=>⟨ob.slots,hs b _ ?_ e,fun _=>rfl⟩,t,fun b ob e=>?_,fun j hj=>?_,R'⟩
 ·rintro rfl
  refine hm ⟨i,p,hi,hq,fun e'=>?_⟩
  rw[ho]at e';cases e';exact hf rfl
 ·by_cases e':b=q
  ·subst e';refine ea11 th fun o' ho' hn=>?_;clear th;exact⟨o',ho',fun _=>hn⟩
  ·exact⟨ob,hs b _ e' e,id⟩
 ·by_cases hij:i=j
  ·subst hij;rw[ho]at hj;cases hj;exact absurd rfl hf
  ·rw[List.getElem?_set_ne hij];exact hj
end
end Mine
end
section
namespace Mine
open PySem PySem.Calls PySem.Spec PyProof.Rows
noncomputable def owns(env:Env):List Addr:=env.locals::env.cells.map (·.2)
noncomputable def frs(fr:List Env):List Addr:=fr.filterMap (·.frame)
structure Fram(env:Env)(h:Heap)(γ:Gh)(ρ:Loc):Prop where
 ns:∃m,h.Ns env.locals m∧∀x v,look x ρ=some v→
  (env.kindOf x=some .local∧∃u,m x=some u∧VR h γ u v)∨
  ((env.kindOf x=some .cell∨env.kindOf x=some .free)∧∃c,env.cells.lookup x=some c∧∃u,h.IsCell c (some u)∧VR h γ u v)
 cell:∀q∈env.cells,∃o v,h.get? q.2=some o∧o.data= .cell v
inductive Mark where
 |fresh
 |off
 |at (L:Addr)
noncomputable def Mark.ctorIdx(x:Mark):Nat:=Mark.casesOn x 0 1 (fun _=>2)
noncomputable def Mark.val:Mark→Value
 | .fresh=> .none
 | .off=> .none
 | .at L=>rawInt L
noncomputable def Mark.ok(L:Addr):Mark→Prop
 | .fresh=>True
 | .off=>True
 | .at L'=>L'=L
noncomputable def FlyOk(x:XA)(vs:Array Value):Prop:=1<vs.size∧(x= .tf→vs[2]? =some .none)
theorem FlyOk.set1{x:XA}{vs:Array Value}(h:FlyOk x vs)(v:Value):FlyOk x (vs.setIfInBounds 1 v):=⟨by rw[Array.size_setIfInBounds];exact h.1,fun e=>by
 rw[Array.getElem?_setIfInBounds_ne (by decide)];exact h.2 e⟩
structure Fly(h₀ h:Heap)(γ:Gh)(e d C:Addr)(mk:Mark)(x:XA):Prop where
 obj:∃vs sl,h.get? e=some ⟨.ref C,some d,.fields vs,sl⟩∧FlyOk x vs∧match mk with
  | .fresh=>vs[1]? =some .none
  |mk=>∃T o ts,vs[1]? =some (.ref T)∧T≠e∧T≠d∧h₀.get? T=none∧(∀p∈γ,T≠p.1∧T≠p.2)∧h.get? T=some o∧o.data= .fields ts∧ts[3]? =some mk.val
 newE:h₀.get? e=none
 newD:h₀.get? d=none
 ed:e≠d
 offE:∀p∈γ,e≠p.1∧e≠p.2
 offD:∀p∈γ,d≠p.1∧d≠p.2
noncomputable def XR(P:Prg)(h:Heap)(γ:Gh)(C d:Addr):XA→Prop
 | .pf v=>C=P.pf∧∃m u,h.Ns d m∧m placeS=some u∧VR h γ u v
 | .tf=>C=P.tf∧∃m,h.Ns d m
structure AOK(A:Around)(fr:List Env)(L:Addr)(n:Nat):Prop where
 frames:A.frames=some fr
 handled:A.handled=none
 depth:A.depth+n<900
 units:A.units+30*n<9000
 head:∃f r,fr=f::r∧f.frame=some L
section
variable(prog:Program)(w:World)(base:Heap)(P:Prg)
noncomputable def FF(base h:Heap)(fr:List Env):Prop:=∀env∈fr,env.scope.kind≠ .module∧∃L o,env.frame=some L∧base.get? L=none∧h.get? L=some o∧Own o
structure Inv(fr:List Env)(env:Env)(s:Shared)(γ:Gh)(σ:Store)(ρ:Loc):Prop where
 sr:SR prog w base s.heap γ σ
 ff:FF base s.heap fr
 sap:∀b∈frs fr,∀p∈γ,b≠p.1∧b≠p.2
 fram:Fram env s.heap γ ρ
 oap:∀b∈owns env,base.get? b=none∧∀p∈γ,b≠p.1∧b≠p.2
noncomputable def EX(W S:List Addr)(L:Addr)(s:Shared)(γ:Gh)(σ:Store)(s':Shared)(γ':Gh)(σ':Store)(v:Value)(x:XA):Prop:=
 Post prog w base W S s γ σ s' γ' σ'∧∃e d C mk,v= .ref e∧Mark.ok L mk∧Fly s.heap s'.heap γ' e d C mk x∧XR P s'.heap γ' C d x
noncomputable def Does{ε α β:Type}(W:List Addr)(A:Around)(fr:List Env)(L:Addr)(s:Shared)(γ:Gh)(σ:Store)(t:Sem β)(m:Out ε α)(rel:Heap→Gh→β→α→Prop)(gx:ε→XA)(er:Heap→Gh→ε→Prop):Prop:=
 match m with
 | .stuck=>True
 | .ok a σ'=>∀(Q:β→Shared→Prop) (E:Value→Shared→Prop),(∀b s' γ',Post prog w base W (frs fr) s γ σ s' γ' σ'→rel s'.heap γ' b a→Q b s')→wpAny (model prog w) A t Q E s
 | .exc x σ'=>∀(Q:β→Shared→Prop) (E:Value→Shared→Prop),(∀v s' γ',EX prog w base P W (frs fr) L s γ σ s' γ' σ' v (gx x)→er s'.heap γ' x→E v s')→wpAny (model prog w) A t Q E s
end
section
variable{prog:Program}{w:World}{base:Heap}{P:Prg}{W:List Addr}{A:Around}{fr:List Env}{L:Addr}{s s₁:Shared}{γ γ₁:Gh}{σ σ₁:Store}{env:Env}{ρ ρ₁:Loc}
theorem Post.ns{W S:List Addr}(x:Post prog w base W S s γ σ s₁ γ₁ σ₁){b:Addr}{m:Str→Option Value}(hn:s.heap.Ns b m)(hw:b∉W)(hp:∀p∈γ,b≠p.1∧b≠p.2):s₁.heap.Ns b m:=by
 refine ea31 hn fun o es ep ho r=>?_;clear hn
 obtain⟨sl,e,_⟩:=x.ext b o ho hw (fun⟨i,p,hi,hb,_⟩=>by
  have :=hp p (List.mem_of_getElem? hi)
  rcases hb with rfl|rfl
  ·exact this.1 rfl
  ·exact this.2 rfl)
 exact⟨_,es,ep,e,r⟩
theorem Post.slots{W S:List Addr}(x:Post prog w base W S s γ σ s₁ γ₁ σ₁){b:Addr}{o:Obj}(ho:s.heap.get? b=some o)(hw:b∉W)(hp:∀p∈γ,b≠p.1∧b≠p.2):∃sl,s₁.heap.get? b=some {o with slots:=sl}:=by
 obtain⟨sl,e,_⟩:=x.ext b o ho hw (fun⟨i,p,hi,hb,_⟩=>by
  have :=hp p (List.mem_of_getElem? hi)
  rcases hb with rfl|rfl
  ·exact this.1 rfl
  ·exact this.2 rfl)
 exact⟨sl,e⟩
theorem Post.apart{W S:List Addr}(x:Post prog w base W S s γ σ s₁ γ₁ σ₁){b:Addr}{o:Obj}(ho:s.heap.get? b=some o)(hp:∀p∈γ,b≠p.1∧b≠p.2):∀p∈γ₁,b≠p.1∧b≠p.2:=by
 refine ea11 (x.pre) fun add z1=>?_;subst z1;intro hn
 intro p hq
 rcases List.mem_append.mp hq with hq|hq
 ·exact hp p hq
 ·have :=hn p hq
  refine⟨?_,?_⟩<;>rintro rfl
  ·rw[ho]at this;cases this.1
  ·rw[ho]at this;cases this.2
theorem FF.post{W S:List Addr}(x:Post prog w base W S s γ σ s₁ γ₁ σ₁){l:List Env}(hl:FF base s.heap l):FF base s₁.heap l:=fun env he=>by
 refine ea01 (hl env he) fun k h1=>?_;refine ea23 h1 fun L o hf hn ho hd=>?_;clear h1
 refine ea11 (x.dom L o ho) fun o' ho' hd'=>?_
 exact⟨k,L,o',hf,hn,ho',hd' hd⟩
theorem FF.there{h:Heap}{l:List Env}(hl:FF base h l):∀b∈frs l,base.get? b=none∧∃o,h.get? b=some o∧Own o:=fun b hb=>by
 refine ea11 (List.mem_filterMap.mp hb) fun env he hf=>?_
 refine ea01 (hl env he) fun _ h1=>?_;refine ea23 h1 fun L o hf' hn ho hd=>?_;clear h1
 rw[hf']at hf;cases hf
 exact⟨hn,o,ho,hd⟩
theorem FF.funFrames{h:Heap}:∀{l:List Env},FF base h l→h.FunFrames base l
 |[],_=>trivial
 |env::r,hl=>by
  refine ea01 (hl env (.head _)) fun k h1=>?_;refine ea23 h1 fun L o hf hn ho hd=>?_;clear h1
  exact⟨k,⟨L,o,hf,hn,ho,hd.1⟩,FF.funFrames fun e he=>hl e (.tail _ he)⟩
theorem VR.post{W S:List Addr}(x:Post prog w base W S s γ σ s₁ γ₁ σ₁){u:Value}{v:AV}(r:VR s.heap γ u v):VR s₁.heap γ₁ u v:=by
 refine ea11 (x.pre) fun add z1=>?_;subst z1;intro _
 exact r.mono add x.tup
theorem VRs.post{W S:List Addr}(x:Post prog w base W S s γ σ s₁ γ₁ σ₁){u:List Value}{v:List AV}(r:VRs s.heap γ u v):VRs s₁.heap γ₁ u v:=by
 refine ea11 (x.pre) fun add z1=>?_;subst z1;intro _
 exact r.mono add x.tup
theorem Fram.own{h:Heap}(F:Fram env h γ ρ):∀b∈owns env,∃o,h.get? b=some o∧(∀vs,o.data≠ .fields vs)∧NT o:=by
 intro b hb
 rcases List.mem_cons.mp hb with rfl|hb
 ·obtain⟨m,⟨o,es,ep,ho,hd,_⟩,_⟩:=F.ns
  exact⟨o,ho,(fun vs e=>by rw[hd]at e;cases e),NT.dict hd⟩
 ·refine ea11 (List.mem_map.mp hb) fun q hq z1=>?_;subst z1
  refine ea21 (F.cell q hq) fun o v ho hd=>?_
  exact⟨o,ho,(fun vs e=>by rw[hd]at e;cases e),fun e=>by refine ea01 e fun _ h1=>?_;clear e;refine ea20 h1 fun xs n e=>?_;clear h1;rw[hd]at e;cases e⟩
theorem mem_of_lookup{α:Type}{x:Str}{c:α}:∀{l:List (Str×α)},l.lookup x=some c→(x,c)∈l
 |[],h=>by cases h
 |(y,d)::r,h=>by
  rw[List.lookup_cons]at h
  by_cases e:(x==y)=true
  ·simp only [e]at h;cases h
   rw[eq_of_beq e];exact .head _
  ·simp only [e]at h
   exact .tail _ (mem_of_lookup h)
theorem Inv.step(I:Inv prog w base fr env s γ σ ρ)(x:Post prog w base [] (frs fr) s γ σ s₁ γ₁ σ₁):Inv prog w base fr env s₁ γ₁ σ₁ ρ:=by
 refine⟨x.sr,FF.post x I.ff,fun b hb=>?_,⟨?_,fun q hq=>?_⟩,fun b hb=>?_⟩
 ·refine ea01 (FF.there I.ff b hb) fun _ h1=>?_;refine ea11 h1 fun o ho _=>?_;clear h1
  exact x.apart ho (I.sap b hb)
 ·refine ea11 (I.fram.ns) fun m hn r=>?_
  have ol:=(I.oap env.locals (.head _)).2
  refine⟨m,x.ns hn (fun h=>nomatch h) ol,fun y v hy=>?_⟩
  ·rcases r y v hy with ⟨hk,u,hu,hr⟩|⟨hk,c,hc,u,⟨oc,hoc,hd⟩,hr⟩
   ·exact .inl ⟨hk,u,hu,hr.post x⟩
   ·have oc':=(I.oap c (.tail _ (List.mem_map.mpr ⟨(y,c),mem_of_lookup hc,rfl⟩))).2
    refine ea10 (x.slots hoc (fun h=>nomatch h) oc') fun sl e=>?_
    exact .inr ⟨hk,c,hc,u,⟨_,e,hd⟩,hr.post x⟩
 ·refine ea21 (I.fram.cell q hq) fun o v ho hd=>?_
  refine ea10 (x.slots ho (fun h=>nomatch h) (I.oap q.2 (.tail _ (List.mem_map.mpr ⟨q,hq,rfl⟩))).2) fun sl e=>?_
  exact⟨_,v,e,hd⟩
 ·refine ea11 (I.fram.own b hb) fun o ho _=>?_
  exact⟨(I.oap b hb).1,x.apart ho (I.oap b hb).2⟩
theorem Inv.stepX(I:Inv prog w base fr env s γ σ ρ)(x:Post prog w base (owns env) (frs fr) s γ σ s₁ γ₁ σ₁)(F:Fram env s₁.heap γ₁ ρ₁):Inv prog w base fr env s₁ γ₁ σ₁ ρ₁:=by
 refine⟨x.sr,FF.post x I.ff,fun b hb=>?_,F,fun b hb=>?_⟩
 ·refine ea01 (FF.there I.ff b hb) fun _ h1=>?_;refine ea11 h1 fun o ho _=>?_;clear h1
  exact x.apart ho (I.sap b hb)
 ·refine ea11 (I.fram.own b hb) fun o ho _=>?_
  exact⟨(I.oap b hb).1,x.apart ho (I.oap b hb).2⟩
theorem EX.after{S:List Addr}{s₂:Shared}{γ₂:Gh}{σ₂:Store}{v:Value}{x:XA}(p:Post prog w base W S s γ σ s₁ γ₁ σ₁)(e:EX prog w base P W S L s₁ γ₁ σ₁ s₂ γ₂ σ₂ v x):EX prog w base P W S L s γ σ s₂ γ₂ σ₂ v x:=by
 obtain⟨q,a,d,C,mk,rfl,hm,⟨⟨vs,sl,ho,hs,hb⟩,n1,n2,ed,o1,o2⟩,hx⟩:=e
 refine⟨p.trans q,a,d,C,mk,rfl,hm,⟨⟨vs,sl,ho,hs,?_⟩,p.dom1 n1,p.dom1 n2,ed,o1,o2⟩,hx⟩
 cases mk with
 |fresh=>exact hb
 |off=>obtain⟨T,o,ts,h1,h2,h3,h4,r⟩:=hb;exact⟨T,o,ts,h1,h2,h3,p.dom1 h4,r⟩
 |«at» L'=>obtain⟨T,o,ts,h1,h2,h3,h4,r⟩:=hb;exact⟨T,o,ts,h1,h2,h3,p.dom1 h4,r⟩
section
variable{ε α α' β β':Type}{t:Sem β}{m:Out ε α}{rel:Heap→Gh→β→α→Prop}{rel':Heap→Gh→β'→α'→Prop}{gx:ε→XA}{er:Heap→Gh→ε→Prop}
theorem Does.bind{k:β→Sem β'}{f:α→Store→Out ε α'}(h:Does prog w base P W A fr L s γ σ t m rel gx er)
 (hk:∀a σ' b s' γ',m= .ok a σ'→Post prog w base W (frs fr) s γ σ s' γ' σ'→rel s'.heap γ' b a→Does prog w base P W A fr L s' γ' σ' (k b) (f a σ') rel' gx er):
 Does prog w base P W A fr L s γ σ (t >>= k) (m.bd f) rel' gx er:=by
 cases m with
 |stuck=>trivial
 |exc x σ'=>exact fun Q E hE=>wpAny_bind (h _ E hE)
 |ok a σ'=>
  show Does prog w base P W A fr L s γ σ (t >>= k) (f a σ') rel' gx er
  cases hf:f a σ' with
  |stuck=>trivial
  |ok a' σ''=>
   refine fun Q E hQ=>wpAny_bind (h _ E fun b s' γ' hp hr=>?_)
   have :=hk a σ' b s' γ' rfl hp hr
   rw[hf]at this
   exact this Q E fun b' s'' γ'' hp' hr'=>hQ b' s'' γ'' (hp.trans hp') hr'
  |exc x σ''=>
   refine fun Q E hE=>wpAny_bind (h _ E fun b s' γ' hp hr=>?_)
   have :=hk a σ' b s' γ' rfl hp hr
   rw[hf]at this
   exact this Q E fun v s'' γ'' he hr'=>hE v s'' γ'' (he.after hp) hr'
theorem Does.chk{b:Bool}(h:b=true→Does prog w base P W A fr L s γ σ t m rel gx er):Does prog w base P W A fr L s γ σ t (Mine.chk b m) rel gx er:=by
 cases b with
 |true=>exact h rfl
 |false=>trivial
theorem Does.ofO{δ:Type}{o:Option δ}{f:δ→Out ε α}(h:∀a,o=some a→Does prog w base P W A fr L s γ σ t (f a) rel gx er):Does prog w base P W A fr L s γ σ t (Mine.ofO o f) rel gx er:=by
 cases o with
 |some a=>exact h a rfl
 |none=>trivial
theorem Does.opt{δ:Type}{o:Option δ}{f:δ→Out ε α}(h:∀a,o=some a→Does prog w base P W A fr L s γ σ t (f a) rel gx er)(hn:o=none→Does prog w base P W A fr L s γ σ t m rel gx er):
 Does prog w base P W A fr L s γ σ t (Mine.els o f m) rel gx er:=by
 cases o with
 |some a=>exact h a rfl
 |none=>exact hn rfl
theorem Does.ite{c:Prop}[Decidable c]{m':Out ε α}(h:c→Does prog w base P W A fr L s γ σ t m rel gx er)(h':Does prog w base P W A fr L s γ σ t m' rel gx er):Does prog w base P W A fr L s γ σ t (if c then m else m') rel gx er:=by
 by_cases e:c
 ·rw[if_pos e];exact h e
 ·rw[if_neg e];exact h'
theorem Does.none{o:Option α}{f:α→Out ε α'}{rel:Heap→Gh→β→α'→Prop}(e:o=Option.none):Does prog w base P W A fr L s γ σ t (Mine.ofO o f) rel gx er:=by subst e;trivial
theorem Does.tree{t':Sem β}(e:t=t')(h:Does prog w base P W A fr L s γ σ t' m rel gx er):Does prog w base P W A fr L s γ σ t m rel gx er:=e▸h
theorem Does.of_wp{t':Sem β}(k:∀(Q:β→Shared→Prop) (E:Value→Shared→Prop),wpAny (model prog w) A t' Q E s→wpAny (model prog w) A t Q E s)(h:Does prog w base P W A fr L s γ σ t' m rel gx er):Does prog w base P W A fr L s γ σ t m rel gx er:=by
 cases m with
 |stuck=>trivial
 |ok a σ'=>exact fun Q E hQ=>k Q E (h Q E hQ)
 |exc x σ'=>exact fun Q E hQ=>k Q E (h Q E hQ)
theorem Does.stand{pos:Pos}{k:Unit→Sem β}(h:Does prog w base P W A fr L s γ σ (k ()) m rel gx er):Does prog w base P W A fr L s γ σ (standAt pos >>= k) m rel gx er:=
 h.of_wp fun _ _ x=>wpAny_bind (wpAny_standAt x)
theorem Does.rule{tag:String}{k:Unit→Sem β}(h:Does prog w base P W A fr L s γ σ (k ()) m rel gx er):Does prog w base P W A fr L s γ σ (PySem.rule tag >>= k) m rel gx er:=
 h.of_wp fun _ _ x=>wpAny_bind (wpAny_rule x)
theorem Does.hold{vs:List Value}(h:Does prog w base P W A fr L s γ σ t m rel gx er):Does prog w base P W A fr L s γ σ (holding vs t) m rel gx er:=
 h.of_wp fun _ _ x=>wpAny_holding x
theorem Does.ret{a:α}{b:β}(R:SR prog w base s.heap γ σ)(h:rel s.heap γ b a):Does prog w base P W A fr L s γ σ (pure b:Sem β) (.ok a σ:Out ε α) rel gx er:=
 fun _ _ hQ=>wpAny_pure (hQ b s γ (Post.refl R) h)
theorem Does.bindR{k:β→Sem β'}{rel':Heap→Gh→β'→α→Prop}(h:Does prog w base P W A fr L s γ σ t m rel gx er)
 (hk:∀a σ' b s' γ',m= .ok a σ'→Post prog w base W (frs fr) s γ σ s' γ' σ'→rel s'.heap γ' b a→Does prog w base P W A fr L s' γ' σ' (k b) (.ok a σ':Out ε α) rel' gx er):
 Does prog w base P W A fr L s γ σ (t >>= k) m rel' gx er:=by
 have :=Does.bind (f:=fun a σ=> .ok a σ) h hk
 cases m<;>exact this
theorem Does.mono{W':List Addr}{rel2:Heap→Gh→β→α→Prop}(h:Does prog w base P [] A fr L s γ σ t m rel gx er)(hr:∀h γ b a,rel h γ b a→rel2 h γ b a):Does prog w base P W' A fr L s γ σ t m rel2 gx er:=by
 cases m with
 |stuck=>trivial
 |ok a σ'=>exact fun Q E hQ=>h Q E fun b s' γ' hp hb=>hQ b s' γ' hp.wide (hr _ _ _ _ hb)
 |exc x σ'=>exact fun Q E hQ=>h Q E fun b s' γ' hp hb=>hQ b s' γ' ⟨hp.1.wide,hp.2⟩ hb
end
end
end Mine
end
section
namespace Mine
open PySem PySem.Calls PySem.Spec PySem.SeqAt PyProof.Rows
section
variable{prog:Program}{w:World}{base:Heap}{P:Prg}{W:List Addr}{A:Around}{fr:List Env}{L:Addr}{s s₁:Shared}{γ γ₁:Gh}{σ σ₁:Store}{env:Env}{ρ ρ₁:Mine.Loc}
section
variable{ε α β:Type}{t:Sem β}{rel:Heap→Gh→β→α→Prop}{gx:ε→XA}{er:Heap→Gh→ε→Prop}{a:α}
theorem Does.leaf(R:SR prog w base s.heap γ σ)
 (h:∀(Q:β→Shared→Prop) (E:Value→Shared→Prop),(∀(b:β) (h':Heap) (tk:Tok),(∀b o,s.heap.get? b=some o→h'.get? b=some o)→rel h' γ b a→Q b {s with heap:=h',toks:=tk})→wpAny (model prog w) A t Q E s):
 Does prog w base P W A fr L s γ σ t (.ok a σ:Out ε α) rel gx er:=
 fun Q E hQ=>h Q E fun b h' _ k hr=>hQ b _ γ (Post.keeps R k) hr
theorem Does.calm(R:SR prog w base s.heap γ σ)
 (h:∀(Q:β→Shared→Prop) (E:Value→Shared→Prop),(∀(b:β) (tk:Tok),rel s.heap γ b a→Q b {s with toks:=tk})→wpAny (model prog w) A t Q E s):
 Does prog w base P W A fr L s γ σ t (.ok a σ:Out ε α) rel gx er:=
 .leaf R fun Q E hQ=>h Q E fun b tk hr=>hQ b s.heap tk (fun _ _ e=>e) hr
end
noncomputable abbrev nox:Heap→Gh→XA→Prop:=fun _ _ _=>True
noncomputable abbrev VDoes(prog:Program)(w:World)(base:Heap)(P:Prg)(A:Around)(fr:List Env)(L:Addr)(s:Shared)(γ:Gh)(σ:Store)(t:Sem Value)(m:Res AV):Prop:=
 Does prog w base P [] A fr L s γ σ t m VR id nox
noncomputable abbrev Beq:Heap→Gh→Bool→Bool→Prop:=fun _ _ b a=>b=a
noncomputable abbrev BDoes(prog:Program)(w:World)(base:Heap)(P:Prg)(A:Around)(fr:List Env)(L:Addr)(s:Shared)(γ:Gh)(σ:Store)(t:Sem Bool)(m:Res Bool):Prop:=
 Does prog w base P [] A fr L s γ σ t m Beq id nox
theorem VDoes.alloc(R:SR prog w base s.heap γ σ){t:Sem Value}{o:AO}
 (h:∀(Q:Value→Shared→Prop) (E:Value→Shared→Prop),(∀(p:Addr×Addr) (h':Heap) (tk:Tok),(∀b o,s.heap.get? b=some o→h'.get? b=some o)→s.heap.get? p.1=none→s.heap.get? p.2=none→
   (∃o,h'.get? p.1=some o∧NT o)→(∃o,h'.get? p.2=some o∧NT o)→(OR prog w h' (γ++[p]) p o)→Q (.ref p.1) {s with heap:=h',toks:=tk})→wpAny (model prog w) A t Q E s):
 VDoes prog w base P A fr L s γ σ t (Mine.alloc o σ):=
 fun Q E hQ=>h Q E fun p h' tk k n1 n2 l1 l2 hO=>hQ (.ref p.1) _ (γ++[p]) (Post.push R k n1 n2 l1 l2 (hO)) (VR.of_push R.len)
theorem SR.ob(R:SR prog w base s.heap γ σ){v:Value}{i:Nat}{o:AO}(hv:VR s.heap γ v (.ob i))(ho:σ[i]? =some o):∃p,v= .ref p.1∧γ[i]? =some p∧OR prog w s.heap γ p o:=by
 cases hv with
 |ob hi=>exact⟨_,rfl,hi,R.obj _ _ _ hi ho⟩
theorem VR.tupInv{h:Heap}{v:Value}{xs:List AV}(hv:VR h γ v (.tup xs)):∃a vs,v= .ref a∧PT h a vs.toArray∧vs.length≤bound∧VRs h γ vs xs:=by
 cases hv with
 |tup ht hb r=>exact⟨_,_,rfl,ht,hb,r⟩
theorem VRs.consInv{h:Heap}{vs:List Value}{x:AV}{xs:List AV}(r:VRs h γ vs (x::xs)):∃v us,vs=v::us∧VR h γ v x∧VRs h γ us xs:=by
 cases r with
 |cons a r=>exact⟨_,_,rfl,a,r⟩
theorem VRs.snocInv{h:Heap}{vs:List Value}{x:AV}:∀{xs:List AV},VRs h γ vs (xs++[x])→∃us v,vs=us++[v]∧VRs h γ us xs∧VR h γ v x:=by
 intro xs
 induction xs generalizing vs with
 |nil=>
  intro r
  refine ea22 (r.consInv) fun v us z1=>?_;subst z1;intro hv hr
  exact⟨[],v,by rw[List.eq_nil_of_length_eq_zero hr.length];rfl,.nil,hv⟩
 |cons y ys ih=>
  intro r
  refine ea22 (r.consInv) fun v us z1=>?_;subst z1;intro hv hr
  refine ea22 (ih hr) fun ws u z1=>?_;subst z1;intro h1 h2
  exact⟨v::ws,u,rfl,.cons hv h1,h2⟩
theorem VRs.oneInv{h:Heap}{vs:List Value}{x:AV}{xs:List AV}(r:VRs h γ vs xs)(e:one? xs=some x):∃v,vs=[v]∧VR h γ v x:=by
 refine ea22 ((one_inv e▸r:VRs h γ vs [x]).consInv) fun v us z1=>?_;subst z1;intro hv hr
 exact⟨v,by rw[List.eq_nil_of_length_eq_zero hr.length],hv⟩
theorem VRs.twoInv{h:Heap}{vs:List Value}{q:AV×AV}{xs:List AV}(r:VRs h γ vs xs)(e:two? xs=some q):∃v u,vs=[v,u]∧VR h γ v q.1∧VR h γ u q.2:=by
 refine ea22 ((two_inv e▸r:VRs h γ vs [q.1,q.2]).consInv) fun v us z1=>?_;subst z1;intro hv hr
 refine ea11 (hr.oneInv rfl) fun u z1=>?_;subst z1;intro hu
 exact⟨v,u,rfl,hv,hu⟩
section
variable{h:Heap}{v:Value}{x:AV}
theorem VR.intInv{i:Int}(hv:VR h γ v (.int i)):∃t,v= .int i t:=by cases hv with|int _ t=>exact⟨t,rfl⟩
theorem VR.strInv{i:Str}(hv:VR h γ v (.str i)):∃t,v= .str i t:=by cases hv with|str _ t=>exact⟨t,rfl⟩
theorem VR.boolInv{i:Bool}(hv:VR h γ v (.bool i)):v= .bool i:=by cases hv with|bool _=>rfl
theorem VR.noneInv(hv:VR h γ v .none):v= .none:=by cases hv with|none=>rfl
theorem VR.fixInv{u:Value}(hv:VR h γ v (.fix u)):v=u:=by cases hv with|fix _=>rfl
theorem VR.asInt{i:Int}(hv:VR h γ v x)(hx:asInt x=some i):∃t,v= .int i t:=(asInt_inv hx▸hv).intInv
theorem VR.asStr{i:Str}(hv:VR h γ v x)(hx:asStr x=some i):∃t,v= .str i t:=(asStr_inv hx▸hv).strInv
theorem VR.asBool{i:Bool}(hv:VR h γ v x)(hx:asBool x=some i):v= .bool i:=(asBool_inv hx▸hv).boolInv
theorem VR.asTup{xs:List AV}(hv:VR h γ v x)(hx:asTup x=some xs):∃a vs,v= .ref a∧PT h a vs.toArray∧vs.length≤bound∧VRs h γ vs xs:=(asTup_inv hx▸hv).tupInv
end
theorem SR.list(R:SR prog w base s.heap γ σ){v:Value}{x:AV}{q:Nat×List AV}(hv:VR s.heap γ v x)(hx:listOf σ x=some q):
 ∃p vs,v= .ref p.1∧γ[q.1]? =some p∧s.heap.PlainList p.1 vs.toArray∧vs.length≤bound∧VRs s.heap γ vs q.2:=by
 have h:=listOf_inv hx
 refine ea12 (R.ob (h.1▸hv) h.2) fun p e hi hO=>?_
 exact hO.2.elim fun vs k=>⟨p,vs,e,hi,k⟩
theorem SR.dstr(R:SR prog w base s.heap γ σ){v:Value}{x:AV}{q:Nat×List (Str×AV)}(hv:VR s.heap γ v x)(hx:dstrOf σ x=some q):
 ∃p vs,v= .ref p.1∧γ[q.1]? =some p∧s.heap.DictOf (strKind prog w) p.1 vs∧vs.length≤bound∧KR s.heap γ vs q.2:=by
 have h:=dstrOf_inv hx
 refine ea12 (R.ob (h.1▸hv) h.2) fun p e hi hO=>?_
 exact hO.2.elim fun vs k=>⟨p,vs,e,hi,k⟩
theorem SR.dint(R:SR prog w base s.heap γ σ){v:Value}{x:AV}{q:Nat×List (Int×AV)}(hv:VR s.heap γ v x)(hx:dintOf σ x=some q):
 ∃p vs,v= .ref p.1∧γ[q.1]? =some p∧s.heap.DictOf (intKind prog w) p.1 vs∧vs.length≤bound∧KR s.heap γ vs q.2:=by
 have h:=dintOf_inv hx
 refine ea12 (R.ob (h.1▸hv) h.2) fun p e hi hO=>?_
 exact hO.2.elim fun vs k=>⟨p,vs,e,hi,k⟩
theorem sem_eq{α:Type}{t t':Sem α}(h:t=t'){A:Around}{Q:α→Shared→Prop}{E:Value→Shared→Prop}{s:Shared}{M:Model}(x:wpAny M A t' Q E s):wpAny M A t Q E s:=h▸x
theorem const_does{c:Const}{x:AV}{k:Nat}{pos:Pos}(R:SR prog w base s.heap γ σ)(hc:constA c=some x):
 VDoes prog w base P A fr L s γ σ (eval (.Constant c k pos) env) (.ok x σ):=by
 cases c with
 |none=>cases hc;exact .calm R fun Q E hQ=>wpAny_Constant_none (hQ _ s.toks .none)
 |bool b=>cases hc;exact .calm R fun Q E hQ=>wpAny_Constant_bool (hQ _ s.toks (.bool _))
 |int i=>cases hc;exact .calm R fun Q E hQ=>wpAny_Constant_int (hQ _ _ (.int _ _))
 |str y=>cases hc;exact .calm R fun Q E hQ=>wpAny_Constant_str (hQ _ _ (.str _ _))
 |_=>cases hc
set_option tactic.hygienic true in
theorem small_fits{x y:Int}(h:small x=true):IntMulOk x y:=by
 apply IntMulOk.of_left
 have :x.natAbs<4294967296:=of_decide_eq_true h
 unfold Builtin.Int.intBits
 split
 ·exact Nat.zero_le _
 ·have hn:x.natAbs≠0:=by intro e;rename_i hx;exact hx (by simp[Int.natAbs_eq_zero.mp e])
  exact Nat.le_trans (Nat.succ_le_of_lt ((Nat.log2_lt (k:=32) hn).mpr this)) (by decide)
theorem fmod_does{a b:Int}{t u:Tok}(R:SR prog w base s.heap γ σ)(hb:b≠0):VDoes prog w base P A fr L s γ σ (binaryOp .Mod (.int a t) (.int b u)) (.ok (.int (Int.fmod a b)) σ):=
 .calm R fun _ _ hQ=>mod_int' hb (hQ _ _ (.int _ _))
theorem bmap_inv{α β δ:Type}{o:Option α}{p:Option β}{f:α→β→δ}{d:δ}(h:(o.bind fun a=>p.map fun b=>f a b)=some d):∃a b,o=some a∧p=some b∧f a b=d:=by
 refine ea11 (Option.bind_eq_some_iff.mp h) fun a ha h=>?_
 refine ea11 (Option.map_eq_some_iff.mp h) fun b hb h=>?_
 exact⟨a,b,ha,hb,h⟩
theorem reads_all{h:Heap}{f:AV→Option PyData}(hf:∀{v:Value} {x:AV} {d:PyData},VR h γ v x→f x=some d→∃as,Reads h v d as){vs:List Value}{xs:List AV}(r:VRs h γ vs xs):∀{ds:List PyData},mapO f xs=some ds→∃as,ReadsAll h vs ds as:=
 r.ind (p:=fun vs xs=>∀{ds:List PyData},mapO f xs=some ds→∃as,ReadsAll h vs ds as) (fun hm=>⟨[],Option.some.inj hm▸ .nil⟩) fun a _ ih ds hm=>by
  refine ea22 (bmap_inv hm) fun y ys hy hys e=>?_
  refine ea10 (hf a hy) fun as ha=>?_
  refine ea10 (ih hys) fun bs hb=>?_
  exact⟨as++bs,e▸ .cons ha hb⟩
theorem reads_of{h:Heap}(R:SR prog w base h γ σ):∀(n:Nat) {v:Value} {x:AV} {d:PyData},VR h γ v x→toPy σ n x=some d→∃as,Reads h v d as:=by
 intro n
 induction n with
 |zero=>exact fun _ hd=>noneNe hd
 |succ n ih=>
  intro v x d hv hd
  cases hv with
  |none=>exact⟨[],Option.some.inj hd▸ .none⟩
  |bool b=>exact⟨[],Option.some.inj hd▸ .bool _⟩
  |int i t=>exact⟨[],Option.some.inj hd▸ .int _ _⟩
  |str y t=>exact⟨[],Option.some.inj hd▸ .str _ _⟩
  |tup ht hb r=>
   refine ea11 (Option.map_eq_some_iff.mp hd) fun ds hds e=>?_
   refine ea10 (reads_all ih r hds) fun as ha=>?_
   refine ea12 (ht.is) fun o ho hc h1=>?_;refine ea10 h1 fun m hdt=>?_;clear h1
   exact⟨as,e▸ .tuple ho hc hdt (by simpa using ha)⟩
  |ob hi=>
   refine ea11 (Option.bind_eq_some_iff.mp hd) fun q hq hd=>?_
   refine ea11 (Option.map_eq_some_iff.mp hd) fun ds hds e=>?_
   obtain⟨_,vs,⟨m,ho⟩,hb,r⟩:=R.obj _ _ _ hi (AV.ob_inj (listOf_inv hq).1▸(listOf_inv hq).2)
   refine ea10 (reads_all ih r hds) fun as ha=>?_
   exact e▸⟨_,Reads.list ho rfl rfl (by simpa using ha)⟩
  |fix v=>exact noneNe hd
noncomputable def Both(prog:Program)(w:World)(base:Heap)(P:Prg)(A:Around)(fr:List Env)(L:Addr)(s:Shared)(γ:Gh)(σ:Store)(o1 o2:CmpOp)(v u:Value)(b:Bool):Prop:=
 VDoes prog w base P A fr L s γ σ (compareOp o1 v u) (.ok (.bool b) σ)∧VDoes prog w base P A fr L s γ σ (compareOp o2 v u) (.ok (.bool (!b)) σ)
theorem eq_does{v u:Value}{x y:AV}{b:Bool}(R:SR prog w base s.heap γ σ)(hu:A.units<9000)(hv:VR s.heap γ v x)(hw:VR s.heap γ u y)(he:eqA σ x y=some b):Both prog w base P A fr L s γ σ .Eq .NotEq v u b:=by
 refine ea11 (Option.bind_eq_some_iff.mp he) fun dx hx he=>?_
 refine ea11 (Option.bind_eq_some_iff.mp he) fun dy hy he=>?_
 have hc:=chkO_inv he
 have h:=Bool.and_eq_true_iff.mp hc.1
 refine ea10 (reads_of R 40 hv hx) fun as ra=>?_
 refine ea10 (reads_of R 40 hw hy) fun bs rb=>?_
 have hu':A.units+64<cLine:=Nat.add_lt_add_of_lt_of_le hu (by decide:64≤900)
 exact Option.some.inj hc.2▸⟨.calm R fun _ _ hQ=>eq_dataH ra rb ((shaped_L _).trans h.1) ((shaped_L _).trans h.2) hu' (hQ _ _ (.bool _)),.calm R fun _ _ hQ=>ne_dataH ra rb ((shaped_L _).trans h.1) ((shaped_L _).trans h.2) hu' (hQ _ _ (.bool _))⟩
structure Heap0(P:Prg)(base:Heap)(G B:Addr):Prop where
 sys:∃o,base.get? sysModules=some o
 glob:∃mg mb,base.Ns G mg∧base.Ns B mb∧∀x v,P.glob x=some v→∃u,(mg x=some u∨(mg x=none∧mb x=some u))∧VR base [] u v
 script:∀a l,P.script a=some l→∃vs,base.IsList a vs.toArray∧IntsAre vs l∧vs.length≤63
theorem SR.notSys{G B:Addr}(H:Heap0 P base G B){h:Heap}(R:SR prog w base h γ σ){i:Nat}{p:Addr×Addr}(hi:γ[i]? =some p):(p.1==sysModules)=false:=by
 refine ea10 (H.sys) fun o ho=>?_
 have :=(R.new p (List.mem_of_getElem? hi)).1
 apply beq_eq_false_iff_ne.mpr
 intro e
 rw[e,ho]at this
 cases this
theorem KR.keys{κ:Type}{h:Heap}{vs:List (κ×Value)}{xs:List (κ×AV)}(r:KR h γ vs xs):vs.map (·.1)=xs.map (·.1):=by
 induction r with
 |nil=>rfl
 |cons _ _ ih=>simp only [List.map_cons,ih]
theorem KR.length{κ:Type}{h:Heap}{vs:List (κ×Value)}{xs:List (κ×AV)}(r:KR h γ vs xs):vs.length=xs.length:=by
 induction r with
 |nil=>rfl
 |cons _ _ ih=>simp only [List.length_cons,ih]
noncomputable def OptR(h:Heap)(γ:Gh)(o:Option Value)(x:Option AV):Prop:=match x with
 |some x=>∃v,o=some v∧VR h γ v x
 |none=>o=none
theorem OptR.is{h:Heap}{o:Option Value}{x:Option AV}(r:OptR h γ o x):o.isSome=x.isSome:=by
 cases x with
 |none=>rw[show o=none from r];rfl
 |some x=>exact Exists.elim r fun v q=>by rw[q.1];rfl
theorem KR.valueS{h:Heap}{vs:List (Str×Value)}{xs:List (Str×AV)}(r:KR h γ vs xs)(k:Str):OptR h γ (valueAt vs k) (look k xs):=by
 induction r with
 |nil=>rfl
 | @cons k' v x vs xs a r ih=>
   cases e:sEq k' k with
   |true=>rw[look_t e];exact⟨v,by simp[valueAt,(sEq_iff _ _).mp e],a⟩
   |false=>
    rw[show valueAt ((k',v)::vs) k=valueAt vs k by simp[valueAt,sEq_false.mp e],look_f e]
    exact ih
theorem KR.valueI{h:Heap}{vs:List (Int×Value)}{xs:List (Int×AV)}(r:KR h γ vs xs)(k:Int):OptR h γ (valueAt vs k) (lookI k xs):=by
 induction r with
 |nil=>rfl
 | @cons k' v x vs xs a r ih=>
   show OptR h γ _ (cond (decide (k'=k)) (some x) (lookI k xs))
   cases e:decide (k'=k)with
   |true=>exact⟨v,by simp[valueAt,of_decide_eq_true e],a⟩
   |false=>
    rw[show valueAt ((k',v)::vs) k=valueAt vs k by simp[valueAt,of_decide_eq_false e]]
    exact ih
theorem isStrOf_self(x:Str)(t:Tok):(strKind prog w).is x (.str x t)=true:=by
 show Value.isStrOf x (.str x t)=true
 simp[Value.isStrOf]
theorem isInt_self(x:Int)(t:Tok):(intKind prog w).is x (.int x t)=true:=by
 show Value.isInt x (.int x t)=true
 simp[Value.isInt]
theorem strs_reads{h:Heap}{vs:List Value}{xs:List AV}(r:VRs h γ vs xs):∀{l:List Str},strs? xs=some l→ReadsAll h vs (l.map .str) []:=
 r.ind (p:=fun vs xs=>∀{l:List Str},strs? xs=some l→ReadsAll h vs (l.map .str) []) (fun e=>Option.some.inj e▸ .nil) fun a _ ih l e=>by
  refine ea22 (bmap_inv e) fun y ys hy hys e=>?_
  refine ea10 (a.asStr hy) fun t z1=>?_;subst z1
  exact e▸ .cons (.str y t) (ih hys)
theorem memS_any(x:Str):∀l:List Str,((l.map PyData.str).any fun y=>PyData.eqv y (.str x))=memS x l
 |[]=>rfl
 |y::r=>by
  rw[List.map_cons,List.any_cons,memS_any x r]
  show _=match sEq y x with|true=>true|false=>memS x r
  have :PyData.eqv (.str y) (.str x)=sEq y x:=by
   cases h:sEq y x with
   |true=>have :=(sEq_iff _ _).mp h;subst this;simp[PyData.eqv]
   |false=>have :=sEq_false.mp h;simp[PyData.eqv,this]
  rw[this]
  cases sEq y x<;>rfl
theorem canLay_strs:∀l:List Str,PyData.canLayAll0 (l.map .str)=l.all okStr
 |[]=>rfl
 |x::r=>by
  show(PyData.strOk x&&PyData.canLayAll0 (r.map .str))=_
  rw[canLay_strs r,strOk_L];rfl
theorem inStrs_inv{x:Str}{l:List Str}{b:Bool}(h:inStrs x l=some b):memS x l=b∧PyData.canLayAll0 (l.map .str)=true∧(PyData.str x).canLay0=true:=
 have hc:=chkO_inv h
 have q:=Bool.and_eq_true_iff.mp hc.1
 ⟨Option.some.inj hc.2,(canLay_strs l).trans q.2,(strOk_L x).trans q.1⟩
theorem depth_str(x:Str):(PyData.str x).depth=0:=rfl
section
variable{v u:Value}{b:Bool}{x:Str}{l:List Str}{G B:Addr}
theorem in_units(hu:A.units<9000)(xs:List PyData)(z:Str):A.units+1+min (PyData.depthAll xs) (PyData.str z).depth<cLine:=by
 rw[depth_str,Nat.min_zero];exact Nat.add_lt_add_of_lt_of_le hu (by decide:1≤900)
theorem in_tup_does(R:SR prog w base s.heap γ σ)(hu:A.units<9000){t:Tok}{a:Addr}{vs:List Value}{ys:List AV}(ht:PT s.heap a vs.toArray)(r:VRs s.heap γ vs ys)(hl:strs? ys=some l)(hb:inStrs x l=some b):Both prog w base P A fr L s γ σ .In .NotIn (.str x t) (.ref a) b:=by
 have q:=inStrs_inv hb
 refine ea12 (ht.is) fun o ho hc h1=>?_;refine ea10 h1 fun m hd=>?_;clear h1
 have rc:Reads s.heap (.ref a) (.tuple (l.map .str)) []:= .tuple ho hc hd (by simpa using strs_reads r hl)
 rw[←q.1,←memS_any]
 exact⟨.calm R fun _ _ hQ=>in_tuple_reads rc (.str x t) q.2.1 q.2.2 (in_units hu _ _) (hQ _ _ (.bool _)),.calm R fun _ _ hQ=>notIn_tuple_reads rc (.str x t) q.2.1 q.2.2 (in_units hu _ _) (hQ _ _ (.bool _))⟩
theorem in_list_does(R:SR prog w base s.heap γ σ)(hu:A.units<9000){t:Tok}{a:Addr}{vs:List Value}{ys:List AV}(hp:s.heap.PlainList a vs.toArray)(r:VRs s.heap γ vs ys)(hl:strs? ys=some l)(hb:inStrs x l=some b):Both prog w base P A fr L s γ σ .In .NotIn (.str x t) (.ref a) b:=by
 have q:=inStrs_inv hb
 refine ea10 hp fun m ho=>?_;clear hp
 have rc:Reads s.heap (.ref a) (.list (l.map .str)) [a]:= .list ho rfl rfl (by simpa using strs_reads r hl)
 rw[←q.1,←memS_any]
 exact⟨.calm R fun _ _ hQ=>in_list_reads rc (.str x t) q.2.1 q.2.2 (in_units hu _ _) (hQ _ _ (.bool _)),.calm R fun _ _ hQ=>notIn_list_reads rc (.str x t) q.2.1 q.2.2 (in_units hu _ _) (hQ _ _ (.bool _))⟩
theorem in_dict_does{κ:Type}[DecidableEq κ]{K:PySem.KeyKind prog w κ}(R:SR prog w base s.heap γ σ){a:Addr}{z:κ}{vs:List (κ×Value)}(hk:K.is z v=true)(hn:(a==sysModules)=false)(hd:s.heap.MapOf K a (valueAt vs))(hs:(valueAt vs z).isSome=b):Both prog w base P A fr L s γ σ .In .NotIn v (.ref a) b:=by
 rw[←hs]
 exact⟨.calm R fun _ _ hQ=>wpAny_in_of hk hn hd (hQ _ _ (.bool _)),.calm R fun _ _ hQ=>wpAny_notIn_of hk hn hd (hQ _ _ (.bool _))⟩
theorem in_does{x y:AV}(H:Heap0 P base G B)(R:SR prog w base s.heap γ σ)(hu:A.units<9000)(hv:VR s.heap γ v x)(hw:VR s.heap γ u y)(he:inA σ x y=some b):Both prog w base P A fr L s γ σ .In .NotIn v u b:=by
 unfold inA at he
 cases h1:asTup y with
 |some ys=>
  rw[h1]at he
  refine ea11 (Option.bind_eq_some_iff.mp he) fun z hz he=>?_
  refine ea11 (Option.bind_eq_some_iff.mp he) fun l hl he=>?_
  refine ea10 (hv.asStr hz) fun t z1=>?_;subst z1
  refine ea23 (hw.asTup h1) fun a vs z1=>?_;subst z1;intro ht _ r
  exact in_tup_does R hu ht r hl he
 |none=>
  rw[h1]at he
  dsimp only at he
  cases h2:listOf σ y with
  |some q=>
   rw[h2]at he
   refine ea11 (Option.bind_eq_some_iff.mp he) fun z hz he=>?_
   refine ea11 (Option.bind_eq_some_iff.mp he) fun l hl he=>?_
   refine ea10 (hv.asStr hz) fun t z1=>?_;subst z1
   refine ea24 (R.list hw h2) fun p vs z1=>?_;subst z1;intro _ hp _ r
   exact in_list_does R hu hp r hl he
  |none=>
   rw[h2]at he
   dsimp only at he
   cases h3:dstrOf σ y with
   |some q=>
    rw[h3]at he
    refine ea11 (Option.map_eq_some_iff.mp he) fun z hz e=>?_
    refine ea10 (hv.asStr hz) fun t z1=>?_;subst z1
    refine ea24 (R.dstr hw h3) fun p vs z1=>?_;subst z1;intro hi hp _ r
    exact in_dict_does R (isStrOf_self z t) (R.notSys H hi) hp.mapOf ((r.valueS z).is.trans e)
   |none=>
    rw[h3]at he
    refine ea11 (Option.bind_eq_some_iff.mp he) fun q h4 he=>?_
    refine ea11 (Option.map_eq_some_iff.mp he) fun z hz e=>?_
    refine ea10 (hv.asInt hz) fun t z1=>?_;subst z1
    refine ea24 (R.dint hw h4) fun p vs z1=>?_;subst z1;intro hi hp _ r
    exact in_dict_does R (isInt_self z t) (R.notSys H hi) hp.mapOf ((r.valueI z).is.trans e)
theorem ints_does{x y:AV}{op:CmpOp}{f:Int→Int→Bool}(R:SR prog w base s.heap γ σ)(hv:VR s.heap γ v x)(hw:VR s.heap γ u y)(he:((asInt x).bind fun x=>(asInt y).map fun y=>f x y)=some b)
 (h:∀i j t t' (Q E:Value→Shared→Prop),Q (.bool (f i j)) s→wpAny (model prog w) A (compareOp op (.int i t) (.int j t')) Q E s):VDoes prog w base P A fr L s γ σ (compareOp op v u) (.ok (.bool b) σ):=by
 refine ea11 (Option.bind_eq_some_iff.mp he) fun i hi he=>?_
 refine ea11 (Option.map_eq_some_iff.mp he) fun j hj e=>?_
 refine ea10 (hv.asInt hi) fun t z1=>?_;subst z1
 refine ea10 (hw.asInt hj) fun t' z1=>?_;subst z1
 exact e▸ .calm R fun Q E hQ=>h i j t t' Q E (hQ _ s.toks (.bool _))
theorem cmp_does{op:CmpOp}{x y:AV}(H:Heap0 P base G B)(R:SR prog w base s.heap γ σ)(hu:A.units<9000)(hv:VR s.heap γ v x)(hw:VR s.heap γ u y)(he:cmpA σ op x y=some b):
 VDoes prog w base P A fr L s γ σ (compareOp op v u) (.ok (.bool b) σ):=by
 cases op with
 |Eq=>exact(eq_does R hu hv hw he).1
 |NotEq=>
  refine ea11 (Option.map_eq_some_iff.mp he) fun b' h1 e=>?_
  exact e▸(eq_does R hu hv hw h1).2
 |Lt=>exact ints_does R hv hw he fun _ _ _ _ _ _ h=>wpAny_lt_int h
 |LtE=>exact ints_does R hv hw he fun _ _ _ _ _ _ h=>PyProof.Rows.le_int h
 |Gt=>exact ints_does R hv hw he fun _ _ _ _ _ _ h=>PyProof.Rows.gt_int h
 |In=>exact(in_does H R hu hv hw he).1
 |NotIn=>
  refine ea11 (Option.map_eq_some_iff.mp he) fun b' h1 e=>?_
  exact e▸(in_does H R hu hv hw h1).2
 |_=>exact noneNe he
end
end
end Mine
end
section
namespace Mine
open PySem PySem.Calls PySem.Spec PySem.SeqAt PyProof.Rows
section
variable{prog:Program}{w:World}{base:Heap}{P:Prg}{W:List Addr}{A:Around}{fr:List Env}{L:Addr}{s s₁:Shared}{γ γ₁:Gh}{σ σ₁:Store}{env:Env}{ρ ρ₁:Mine.Loc}
theorem bound_size{n:Nat}(h:n≤bound):n≤sizeLine:=Nat.le_trans h (by decide)
theorem push_keeps(h:Heap)(o:Obj):∀b ob,h.get? b=some ob→(h.push o).get? b=some ob:=fun _ _ e=>Heap.get?_push_of_some _ e
theorem push_none(h:Heap):h.get? h.objs.size=none:=by
 cases e:h.get? h.objs.size with
 |none=>rfl
 |some o=>exact absurd (Heap.lt_size e) (Nat.lt_irrefl _)
theorem IsTuple.newVR{h:Heap}{vs:List Value}{xs:List AV}(hb:vs.length≤bound)(r:VRs h γ vs xs):VR (h.push {cls:= .type "tuple",data:= .seq vs.toArray}) γ (.ref h.objs.size) (.tup xs):=
 .tup ⟨_,Heap.get?_push_size _ rfl⟩ hb (r.keep (.of_keeps (push_keeps h _)))
theorem newTup_does{vs:List Value}{xs:List AV}{t:Sem Value}(R:SR prog w base s.heap γ σ)(r:VRs s.heap γ vs xs)
 (h:∀(Q:Value→Shared→Prop) (E:Value→Shared→Prop),vs.length≤bound→Q (.ref s.heap.objs.size) {s with heap:=s.heap.push {cls:= .type "tuple",data:= .seq vs.toArray}}→wpAny (model prog w) A t Q E s):
 VDoes prog w base P A fr L s γ σ t (mkTup xs σ):=by
 unfold mkTup
 cases hb:Nat.ble xs.length bound with
 |false=>trivial
 |true=>
  have hb':=r.length▸Nat.le_of_ble_eq_true hb
  exact .leaf R fun Q E hQ=>h Q E hb' (hQ _ _ s.toks (push_keeps _ _) (IsTuple.newVR hb' r))
theorem list_ne{vs:Array Value}{d:Option Addr}{sl}{n:Nat}:NT ⟨.type "list",d,.seq vs n,sl⟩:= .cls (show Value.type "list"≠Value.type "tuple" by decide)
theorem newList_does{vs:List Value}{xs:List AV}{t:Sem Value}(R:SR prog w base s.heap γ σ)(hb:vs.length≤bound)(r:VRs s.heap γ vs xs)
 (h:∀(Q:Value→Shared→Prop) (E:Value→Shared→Prop),Q (.ref s.heap.objs.size) {s with heap:=s.heap.push {cls:= .type "list",data:= .seq vs.toArray}}→wpAny (model prog w) A t Q E s):
 VDoes prog w base P A fr L s γ σ t (Mine.alloc (.list xs) σ):=
 VDoes.alloc R fun Q E hQ=>h Q E (hQ (s.heap.objs.size,s.heap.objs.size) _ s.toks (push_keeps _ _) (push_none _) (push_none _) ⟨_,Heap.get?_push_size _ rfl,list_ne⟩ ⟨_,Heap.get?_push_size _ rfl,list_ne⟩
  ⟨rfl,vs,⟨_,Heap.get?_push_size _ rfl⟩,hb,r.mono _ (.of_keeps (push_keeps _ _))⟩)
theorem mkList_does{vs:List Value}{xs:List AV}{t:Sem Value}(R:SR prog w base s.heap γ σ)(r:VRs s.heap γ vs xs)
 (h:∀(Q:Value→Shared→Prop) (E:Value→Shared→Prop),vs.length≤bound→Q (.ref s.heap.objs.size) {s with heap:=s.heap.push {cls:= .type "list",data:= .seq vs.toArray}}→wpAny (model prog w) A t Q E s):
 VDoes prog w base P A fr L s γ σ t (mkList xs σ):=by
 unfold mkList
 cases hb:Nat.ble xs.length bound with
 |false=>trivial
 |true=>
  have hb':=r.length▸Nat.le_of_ble_eq_true hb
  exact newList_does R hb' r fun Q E hQ=>h Q E hb' hQ
theorem VRs.nil_of{h:Heap}{xs:List AV}(r:VRs h γ [] xs):xs=[]:=List.eq_nil_of_length_eq_zero r.length.symm
theorem concat_does{v u:Value}{x y:AV}{xs ys:List AV}(R:SR prog w base s.heap γ σ)(hv:VR s.heap γ v x)(hx:asTup x=some xs)(hu:VR s.heap γ u y)(hy:asTup y=some ys):VDoes prog w base P A fr L s γ σ (binaryOp .Add v u) (mkTup (xs++ys) σ):=by
 refine ea23 (hv.asTup hx) fun t vs z1=>?_;subst z1;intro ht hbv rv
 refine ea23 (hu.asTup hy) fun b ws z1=>?_;subst z1;intro hb hbw rw'
 clear hv hu hx hy
 refine ea10 (id ht) fun n ho=>?_
 refine ea10 (id hb) fun n2 ho2=>?_
 refine(?_:Does _ _ _ _ _ _ _ _ _ _ _ _ _ _ _ _)
 unfold mkTup
 cases hbb:Nat.ble (xs++ys).length bound with
 |false=>trivial
 |true=>
  have hl:(vs++ws).length≤bound:=(rv.append rw').length▸Nat.le_of_ble_eq_true hbb
  refine .leaf R fun Q E hQ=>?_
  by_cases hv0:vs=[]
  ·subst hv0
   rw[rv.nil_of]at hQ
   exact concat_meets ⟨_,ho,rfl⟩ ⟨_,ho2,rfl⟩ noFill_tuple_add seq_tuple_add PySem.F.slot_tuple_add PySem.F.entry_tuple_add (PySem.F.args_tuple_add_2 _ _)
    (tuple_addW0 t b _ ws.toArray n n2 _ _ _ _ (by simp)) ⟨ho,ho2,hQ _ s.heap s.toks (fun _ _ e=>e) (.tup hb hbw rw')⟩
  ·by_cases hw0:ws=[]
   ·subst hw0
    rw[rw'.nil_of,List.append_nil]at hQ
    exact concat_meets ⟨_,ho,rfl⟩ ⟨_,ho2,rfl⟩ noFill_tuple_add seq_tuple_add PySem.F.slot_tuple_add PySem.F.entry_tuple_add (PySem.F.args_tuple_add_2 _ _)
     (tuple_addW1 t b vs.toArray _ n n2 _ _ _ _ (by simpa using hv0) (by simp)) ⟨ho,ho2,hQ _ s.heap s.toks (fun _ _ e=>e) (.tup ht hbv rv)⟩
   ·refine concat_meets ⟨_,ho,rfl⟩ ⟨_,ho2,rfl⟩ noFill_tuple_add seq_tuple_add PySem.F.slot_tuple_add PySem.F.entry_tuple_add (PySem.F.args_tuple_add_2 _ _)
     (tuple_addW2 t b vs.toArray ws.toArray n n2 _ _ _ _ (by simpa using hv0) (by simpa using hw0) (by rw[List.size_toArray,List.size_toArray,←List.length_append];exact bound_size hl)) ⟨ho,ho2,?_⟩
    rw[show vs.toArray++ws.toArray=(vs++ws).toArray by simp]
    exact hQ _ _ s.toks (push_keeps _ _) (IsTuple.newVR hl (rv.append rw'))
theorem lists_does{v u:Value}{x y:AV}{p q:Nat×List AV}(R:SR prog w base s.heap γ σ)(hv:VR s.heap γ v x)(hx:listOf σ x=some p)(hu:VR s.heap γ u y)(hy:listOf σ y=some q):VDoes prog w base P A fr L s γ σ (binaryOp .Add v u) (mkList (p.2++q.2) σ):=by
 obtain⟨a,vs,rfl,_,⟨n,ho⟩,_,rv⟩:=R.list hv hx
 obtain⟨b,ws,rfl,_,⟨n2,ho2⟩,_,rw'⟩:=R.list hu hy
 refine mkList_does R (rv.append rw') fun Q E hl hQ=>?_
 refine concat_meets ⟨_,ho,rfl⟩ ⟨_,ho2,rfl⟩ noFill_list_add seq_list_add PySem.F.slot_list_add PySem.F.entry_list_add (PySem.F.args_list_add_2 _ _) (list_addW a.1 b.1 vs.toArray ws.toArray n n2 _ _ _ _ (by rw[List.size_toArray,List.size_toArray,←List.length_append];exact bound_size hl)) ⟨ho,ho2,?_⟩
 rw[show vs.toArray++ws.toArray=(vs++ws).toArray by simp]
 exact hQ
theorem two_ints{op:Operator}{v u:Value}{x y:AV}{f:Int→Int→Res AV}(hv:VR s.heap γ v x)(hu:VR s.heap γ u y)(h:∀i j t t',VDoes prog w base P A fr L s γ σ (binaryOp op (.int i t) (.int j t')) (f i j)):
 VDoes prog w base P A fr L s γ σ (binaryOp op v u) (Mine.ofO (asInt x) fun i=>Mine.ofO (asInt y) fun j=>f i j):=Does.ofO fun i hi=>Does.ofO fun j hj=>by
 refine ea10 (hv.asInt hi) fun t z1=>?_;subst z1
 refine ea10 (hu.asInt hj) fun t' z1=>?_;subst z1
 exact h i j t t'
theorem bin_does{op:Operator}{v u:Value}{x y:AV}(R:SR prog w base s.heap γ σ)(hv:VR s.heap γ v x)(hu:VR s.heap γ u y):VDoes prog w base P A fr L s γ σ (binaryOp op v u) (binA σ op x y):=by
 cases op with
 |Add=>
  refine Does.opt (fun i hi=>Does.ofO fun j hj=>?_) fun _=>Does.opt (fun xs hx=>Does.ofO fun ys hy=>concat_does R hv hx hu hy) fun _=>Does.ofO fun p hp=>Does.ofO fun q hq=>lists_does R hv hp hu hq
  refine ea10 (hv.asInt hi) fun t z1=>?_;subst z1
  refine ea10 (hu.asInt hj) fun t' z1=>?_;subst z1
  exact .calm R fun _ _ hQ=>PyProof.Rows.add_int (hQ _ _ (.int _ _))
 |Sub=>exact two_ints hv hu fun _ _ _ _=> .calm R fun _ _ hQ=>PyProof.Rows.sub_int (hQ _ _ (.int _ _))
 |Mult=>exact two_ints hv hu fun _ _ _ _=>Does.chk fun hs=> .calm R fun _ _ hQ=>PyProof.Rows.mul_int (hQ _ _ (.int _ _)) (small_fits (Bool.and_eq_true_iff.mp hs).1)
 |Mod=>exact two_ints hv hu fun _ _ _ _=>Does.chk fun hs=>fmod_does R (of_decide_eq_false (by simpa using hs))
 |_=>trivial
theorem index_small{n:Nat}{k:Int}{j:Nat}(hn:n≤bound)(h:seqIndex? k n=some j): -(2 ^ 63)≤k∧k<2 ^ 63:=by
 have hn':n≤100000:=hn
 simp only [seqIndex?]at h
 split at h<;>split at h<;>simp_all<;>omega
theorem at_inv{xs:List AV}{k:Int}{z:AV}(h:atA xs k=some z):∃j,seqIndex? k xs.length=some j∧xs[j]? =some z:=by
 unfold atA at h
 cases hj:seqIndex? k xs.length with
 |none=>rw[hj]at h;exact noneNe h
 |some j=>rw[hj]at h;exact⟨j,rfl,h⟩
theorem index_pos{n:Nat}{k:Int}{j:Nat}(h:seqIndex? k n=some j)(hk:0≤k):j=k.toNat:=by
 simp only [seqIndex?]at h
 split at h<;>split at h<;>simp_all<;>omega
theorem index_neg{n:Nat}{k:Int}{j:Nat}(h:seqIndex? k n=some j)(hk:¬0≤k):(k+(n:Int)).toNat=j∧ -(n:Int)≤k:=by
 simp only [seqIndex?]at h
 split at h<;>split at h<;>simp_all<;>omega
section
variable{value slice:Expr}{o i:Value}{x y z:AV}(hs:∀o i,subscripted slice false o i=operate [o,i] (getItem o i))
include hs
theorem itemTup_does{a:Addr}{vs:List Value}{xs:List AV}{k:Int}{u:Tok}(R:SR prog w base s.heap γ σ)(ht:PT s.heap a vs.toArray)(hb:vs.length≤bound)(r:VRs s.heap γ vs xs)(hz:atA xs k=some z):VDoes prog w base P A fr L s γ σ (subscriptTail value slice (.ref a) (.int k u)) (.ok z σ):=by
 refine ea11 (at_inv hz) fun j hj hz=>?_
 refine ea11 (r.get hz) fun v hv hr=>?_
 rw[←r.length]at hj
 have h:=index_small hb hj
 exact .calm R fun _ _ hQ=>item_tupleT ht.is h.1 h.2 hj hv (hQ _ s.toks hr) (hs _ _)
theorem itemList_does{a:Addr}{vs:List Value}{xs:List AV}{k:Int}{u:Tok}(R:SR prog w base s.heap γ σ)(hp:s.heap.PlainList a vs.toArray)(hb:vs.length≤bound)(r:VRs s.heap γ vs xs)(hz:atA xs k=some z):VDoes prog w base P A fr L s γ σ (subscriptTail value slice (.ref a) (.int k u)) (.ok z σ):=by
 refine ea11 (at_inv hz) fun j hj hz=>?_
 refine ea11 (r.get hz) fun v hv hr=>?_
 rw[←r.length]at hj
 have h:=index_small hb hj
 refine .calm R fun _ _ hQ=>tail_any hp.isList.typeIs slot_list_getitem.lookup ?_ (hs _ _)
 by_cases hk:0≤k
 ·exact wpAny_getItem_list (x:=v) hp.isList hk h.2 (by rw[←index_pos hj hk];simpa using hv) (hQ _ s.toks hr)
 ·have e:=index_neg hj hk
  exact wpAny_getItem_list_neg (x:=v) hp.isList (Int.not_le.mp hk) (by rw[List.size_toArray];exact e.2) h.1 (by rw[List.size_toArray,e.1];simpa using hv) (hQ _ s.toks hr)
theorem item_does(R:SR prog w base s.heap γ σ)(ho:VR s.heap γ o x)(hi:VR s.heap γ i y)(hz:itemA σ x y=some z):VDoes prog w base P A fr L s γ σ (subscriptTail value slice o i) (.ok z σ):=by
 unfold itemA at hz
 cases h1:asTup x with
 |some xs=>
  rw[h1]at hz
  refine ea11 (Option.bind_eq_some_iff.mp hz) fun k hk hz=>?_
  refine ea10 (hi.asInt hk) fun u z1=>?_;subst z1
  refine ea23 (ho.asTup h1) fun a vs z1=>?_;subst z1;intro ht hb r
  exact itemTup_does hs R ht hb r hz
 |none=>
  rw[h1]at hz
  dsimp only at hz
  cases h2:listOf σ x with
  |some q=>
   rw[h2]at hz
   refine ea11 (Option.bind_eq_some_iff.mp hz) fun k hk hz=>?_
   refine ea10 (hi.asInt hk) fun u z1=>?_;subst z1
   refine ea24 (R.list ho h2) fun p vs z1=>?_;subst z1;intro _ hp hb r
   exact itemList_does hs R hp hb r hz
  |none=>
   rw[h2]at hz
   dsimp only at hz
   cases h3:dintOf σ x with
   |some q=>
    rw[h3]at hz
    refine ea11 (Option.bind_eq_some_iff.mp hz) fun k hk hz=>?_
    refine ea10 (hi.asInt hk) fun u z1=>?_;subst z1
    refine ea24 (R.dint ho h3) fun p vs z1=>?_;subst z1;intro _ hp _ r
    have hv:=r.valueI k
    rw[show lookI k q.2=some z from hz]at hv
    exact Exists.elim hv fun v hv=> .calm R fun _ _ hQ=>tail_any hp.typeIs slot_dict_getitem.lookup (wpAny_getItem_of (isInt_self k u) hp.mapOf hv.1 (hQ _ _ hv.2)) (hs _ _)
   |none=>
    rw[h3]at hz
    refine ea11 (Option.bind_eq_some_iff.mp hz) fun q h4 hz=>?_
    refine ea11 (Option.bind_eq_some_iff.mp hz) fun k hk hz=>?_
    refine ea10 (hi.asStr hk) fun u z1=>?_;subst z1
    refine ea24 (R.dstr ho h4) fun p vs z1=>?_;subst z1;intro _ hp _ r
    have hv:=r.valueS k
    rw[show look k q.2=some z from hz]at hv
    exact Exists.elim hv fun v hv=> .calm R fun _ _ hQ=>tail_any hp.typeIs slot_dict_getitem.lookup (wpAny_getItem_of (isStrOf_self k u) hp.mapOf hv.1 (hQ _ _ hv.2)) (hs _ _)
end
end
end Mine
end
section
namespace Mine
open PySem PySem.Calls PySem.Spec PySem.SeqAt PyProof.Rows
inductive NatPart:Value→Option Nat→Prop
 |none:NatPart .none none
 |int (n:Nat) (t:Tok):NatPart (.int (n:Int) t) (some n)
noncomputable def SlR(h:Heap)(_γ:Gh)(i:Value)(q:Option Nat×Option Nat):Prop:=∃sl vl vu,i= .ref sl∧h.IsSliceOf sl vl vu .none∧NatPart vl q.1∧NatPart vu q.2
noncomputable def castO:Option Nat→Option Int
 |none=>none
 |some n=>some (n:Int)
theorem NatPart.isPart{v:Value}{n:Option Nat}(h:NatPart v n):IsPart v (castO n):=by
 cases h with
 |none=>exact .none
 |int n t=>exact .int _ t
theorem min_nat(a n:Nat):min (a:Int) (n:Int)=((min a n:Nat):Int):=by
 rcases Nat.le_total a n with h|h
 ·rw[Nat.min_eq_left h];exact Int.min_eq_left (Int.ofNat_le.mpr h)
 ·rw[Nat.min_eq_right h];exact Int.min_eq_right (Int.ofNat_le.mpr h)
theorem clip_nat(a n:Nat):max 0 (min (if(a:Int)<0 then(a:Int)+(n:Int)else(a:Int)) (n:Int))=((min a n:Nat):Int):=by
 rw[if_neg (Int.not_lt.mpr (Int.natCast_nonneg a)),min_nat];exact Int.max_eq_right (Int.natCast_nonneg _)
theorem clip_lo(n:Nat):(0:Int)=((min 0 n:Nat):Int):=by rw[Nat.zero_min];rfl
theorem clip_hi(n:Nat):(n:Int)=((min n n:Nat):Int):=by rw[Nat.min_self]
theorem bounds_nat(lo hi:Option Nat)(n:Nat):sliceBounds (castO lo) (castO hi) none n=(((min (lo.getD 0) n:Nat):Int),((min (hi.getD n) n:Nat):Int),1):=by
 cases lo<;>cases hi
 ·exact Prod.ext (clip_lo n) (Prod.ext (clip_hi n) rfl)
 ·exact Prod.ext (clip_lo n) (Prod.ext (clip_nat _ n) rfl)
 ·exact Prod.ext (clip_nat _ n) (Prod.ext (clip_hi n) rfl)
 ·exact Prod.ext (clip_nat _ n) (Prod.ext (clip_nat _ n) rfl)
theorem drop_over{α:Type}{l:List α}{a:Nat}(h:l.length≤a):l.drop (min a l.length)=l.drop a:=by
 rw[Nat.min_eq_right h,List.drop_of_length_le (Nat.le_refl _),List.drop_of_length_le h]
theorem drop_clip{α:Type}(l:List α)(a:Nat):l.drop (min a l.length)=l.drop a:=(Nat.le_total a l.length).elim (fun h=>by rw[Nat.min_eq_left h]) drop_over
theorem take_clip{α:Type}{l:List α}{a b:Nat}(h:l.length≤b):(l.drop a).take (l.length - min a l.length)=(l.drop a).take (b - a):=by
 have e:(l.drop a).length=l.length - a:=List.length_drop
 rw[List.take_of_length_le (by rw[e];exact Nat.sub_le_sub_left (Nat.min_le_left _ _) _),List.take_of_length_le (by rw[e];exact Nat.sub_le_sub_right h a)]
theorem part_clip{α:Type}(l:List α)(lo hi:Option Nat):(l.drop (min (lo.getD 0) l.length)).take (min (hi.getD l.length) l.length - min (lo.getD 0) l.length)=partL l (lo.getD 0) hi:=by
 rw[drop_clip]
 cases hi with
 |none=>
  show(l.drop _).take (min l.length l.length - _)=l.drop _
  rw[Nat.min_self,take_clip (Nat.le_refl _)]
  exact List.take_of_length_le (Nat.le_of_eq List.length_drop)
 |some b=>
  show(l.drop _).take (min b l.length - _)=(l.drop _).take (b - _)
  rcases Nat.le_total l.length b with h|h
  ·rw[Nat.min_eq_right h,take_clip h]
  ·rw[Nat.min_eq_left h]
   rcases Nat.le_total (lo.getD 0) l.length with h2|h2
   ·rw[Nat.min_eq_left h2]
   ·rw[List.drop_of_length_le h2,List.take_nil,List.take_nil]
theorem pick_nat(items:List Value)(lo hi:Option Nat):slicePick items.toArray (castO lo) (castO hi) none=(partL items (lo.getD 0) hi).toArray:=by
 have e:=bounds_nat lo hi items.toArray.size
 unfold slicePick
 rw[e]
 simp only [sliceRange_one,pick_run]
 congr 1
 rw[List.size_toArray]
 exact part_clip items lo hi
theorem partL_le{α:Type}(l:List α)(lo:Nat)(hi:Option Nat):(partL l lo hi).length≤l.length:=by
 have h:(l.drop lo).length≤l.length:=List.length_drop▸Nat.sub_le _ _
 cases hi with
 |none=>exact h
 |some b=>exact Nat.le_trans (List.length_take_le' _ _) h
theorem VRs.part{h:Heap}{γ:Gh}{vs:List Value}{xs:List AV}(r:VRs h γ vs xs)(lo:Nat)(hi:Option Nat):VRs h γ (partL vs lo hi) (partL xs lo hi):=by
 unfold partL
 cases hi with
 |none=>exact r.drop lo
 |some b=>exact(r.drop lo).take _
section
variable{prog:Program}{w:World}{A:Around}{E:Value→Shared→Prop}{s:Shared}
theorem slicePart_nat{v:Value}{n:Option Nat}{Q:Option Int→Shared→Prop}(p:NatPart v n)(h:Q (castO n) s):wpAny (model prog w) A (Builtin.Slice.slicePartIndex v) Q E s:=by
 cases p with
 |none=>exact slicePart_none h
 |int n t=>exact slicePart_int h
theorem adj_nat(a n:Nat):(if(a:Int)<0 then max ((a:Int)+(n:Int)) 0 else min (a:Int) (n:Int))=((min a n:Nat):Int):=by
 rw[if_neg (Int.not_lt.mpr (Int.natCast_nonneg a)),min_nat]
theorem adjust_nat(lo hi:Option Nat)(n:Nat):Builtin.Slice.sliceAdjust (castO lo) (castO hi) 1 (n:Int)=(((min (lo.getD 0) n:Nat):Int),((min (hi.getD n) n:Nat):Int)):=by
 cases lo<;>cases hi
 ·exact Prod.ext (clip_lo n) (clip_hi n)
 ·exact Prod.ext (clip_lo n) (adj_nat _ n)
 ·exact Prod.ext (adj_nat _ n) (clip_hi n)
 ·exact Prod.ext (adj_nat _ n) (adj_nat _ n)
theorem places_nat(a b:Nat):Builtin.Slice.slicePlaces (a:Int) (b:Int) 1=b - a:=by
 show(if(a:Int)<(b:Int)then((b:Int) - a - 1) / 1+1 else 0).toNat=b - a
 by_cases h:a<b
 ·rw[if_pos (Int.ofNat_lt.mpr h),Int.ediv_one,Int.sub_add_cancel,←Int.ofNat_sub (Nat.le_of_lt h)];rfl
 ·rw[if_neg (fun q=>h (Int.ofNat_lt.mp q)),Nat.sub_eq_zero_of_le (Nat.le_of_not_lt h)];rfl
theorem sliceApplied_nat{sl:Addr}{vl vu:Value}{lo hi:Option Nat}{n:Nat}{Q:Int×Int×Nat→Shared→Prop}(hs:s.heap.IsSliceOf sl vl vu .none)(pl:NatPart vl lo)(pu:NatPart vu hi)
 (h:Q (((min (lo.getD 0) n:Nat):Int),1,min (hi.getD n) n - min (lo.getD 0) n) s):
 wpAny (model prog w) A (Builtin.Slice.sliceApplied (.ref sl) (pure (n:Int))) Q E s:=by
 refine ea12 (id hs) fun os hos hcs hds=>?_
 unfold Builtin.Slice.sliceApplied Builtin.Slice.sliceFields
 refine wpAny_bind (wpAny_bind (wpAny_field hos hds (x:=vl) rfl (wpAny_bind (wpAny_field hos hds (x:=vu) rfl (wpAny_bind (wpAny_field hos hds (x:= .none) rfl (wpAny_pure ?_)))))))
 refine wpAny_bind (slicePart_none ?_)
 show wpAny _ _ (if((1:Int)==0)=true then _ else _) _ _ s
 rw[if_neg (by decide)]
 refine wpAny_bind (slicePart_nat pl (wpAny_bind (slicePart_nat pu (wpAny_bind (wpAny_pure ?_)))))
 show wpAny _ _ (match Builtin.Slice.sliceAdjust (castO lo) (castO hi) 1 (n:Int)with|(lo,hi)=>pure (lo,(1:Int),Builtin.Slice.slicePlaces lo hi 1)) _ _ s
 rw[adjust_nat]
 show wpAny _ _ (pure (((min (lo.getD 0) n:Nat):Int),(1:Int),Builtin.Slice.slicePlaces ((min (lo.getD 0) n:Nat):Int) ((min (hi.getD n) n:Nat):Int) 1)) _ _ s
 rw[places_nat]
 exact wpAny_pure h
theorem pick_part(xs:Array Value)(a k:Nat):((List.range k).filterMap fun(j:Nat)=>xs[((a:Int)+(j:Int)*1).toNat]?).toArray=((xs.toList.drop a).take k).toArray:=by
 have e:(fun(j:Nat)=>xs[((a:Int)+(j:Int)*1).toNat]?)=fun j=>xs[a+j]? :=by
  funext j
  rw[Int.mul_one,←Int.natCast_add,Int.toNat_natCast]
 rw[e]
 have :=pick_run xs a k
 rw[List.filterMap_map]at this
 have e2:((fun x=>xs[x]?)∘fun x=>a+x)=fun j=>xs[a+j]? :=rfl
 rw[e2]at this
 rw[this]
theorem getItem_tuple_part{t sl:Addr}{items:List Value}{vl vu:Value}{lo hi:Option Nat}{Q:Value→Shared→Prop}(ht:IsTup s.heap t items.toArray)(hs:s.heap.IsSliceOf sl vl vu .none)(pl:NatPart vl lo)(pu:NatPart vu hi)
 (h0:partL items (lo.getD 0) hi=items→Q (.ref t) s)
 (h:Q (.ref s.heap.objs.size) {s with heap:=s.heap.push {cls:= .type "tuple",data:= .seq (partL items (lo.getD 0) hi).toArray}})
 (hsz:items.length≤sizeLine):wpAny (model prog w) A (getItem (.ref t) (.ref sl)) Q E s:=by
 have hdrop:sizeOk (.seq (partL items (lo.getD 0) hi).toArray):=by
  show(partL items (lo.getD 0) hi).toArray.size≤sizeLine
  rw[List.size_toArray]
  exact Nat.le_trans (partL_le _ _ _) hsz
 refine ea12 (id hs) fun os hos hcs hds=>?_
 have hTs:s.TypeIs (.ref sl) "slice":=⟨os,hos,hcs⟩
 unfold getItem
 try with_reducible refine wpAny_holding ?_
 first |refine wpAny_bind (wpAny_pure ?_)|skip
 refine wpAny_bind (wpAny_sequenceKey ht.typeIs (by decide) ?_)
 refine wpAny_bind (wpAny_callSpecial?_slot (name:=Str.ofString "__getitem__") ht.typeIs slot_tuple_getitem
  (wpAny_call_entry slot_tuple_getitem ht.typeIs entry_tuple_getitem ?_ (args_tuple_getitem _ _)))
 show wpAny _ _ (Builtin.Tuple.tupleItemsOf (.ref t) >>= _) _ _ s
 refine wpAny_bind (tupleItemsOf_ ht ?_)
 refine wpAny_bind (wpAny_typeOf hTs ?_)
 rw[if_pos (by decide)]
 refine wpAny_bind (sliceApplied_nat hs pl pu ?_)
 have ep:((items.toArray.toList.drop (min (lo.getD 0) items.toArray.size)).take (min (hi.getD items.toArray.size) items.toArray.size - min (lo.getD 0) items.toArray.size))=partL items (lo.getD 0) hi:=by
  rw[List.size_toArray];exact part_clip items lo hi
 show wpAny _ _ (if(((min (lo.getD 0) items.toArray.size:Nat):Int)==0&&(1:Int)==1&&(min (hi.getD items.toArray.size) items.toArray.size - min (lo.getD 0) items.toArray.size)==items.toArray.size)=true then _ else _) _ _ s
 rw[pick_part,ep]
 by_cases hc:(((min (lo.getD 0) items.toArray.size:Nat):Int)==0&&(1:Int)==1&&(min (hi.getD items.toArray.size) items.toArray.size - min (lo.getD 0) items.toArray.size)==items.toArray.size)=true
 ·rw[if_pos hc]
  have hw:partL items (lo.getD 0) hi=items:=by
   refine ea01 (Bool.and_eq_true_iff.mp hc) fun h1 h2=>?_
   refine ea01 (Bool.and_eq_true_iff.mp h1) fun h1 _=>?_
   have h1:min (lo.getD 0) items.toArray.size=0:=by have :=eq_of_beq h1;omega
   have h2:=eq_of_beq h2
   rw[←ep,h2,h1,List.drop_zero,List.size_toArray]
   exact List.take_length
  refine wpAny_bind ?_
  unfold Builtin.Tuple.tupleIsExact
  refine wpAny_bind (wpAny_typeOf ht.typeIs (wpAny_pure ?_))
  rw[if_pos (by decide)]
  refine wpAny_bind (wpAny_rule ?_)
  exact wpAny_bind (wpAny_pure (wpAny_pure ⟨_,rfl,wpAny_pure (h0 hw)⟩))
 ·rw[if_neg hc]
  first
  |exact wpAny_bind (m:=Builtin.Tuple.tupleExact _) (wpAny_newObj_type (wpAny_pure ⟨_,rfl,wpAny_pure h⟩) hdrop)
  |exact wpAny_bind (m:=Builtin.Tuple.tupleExact _) (wpAny_newObj_type (wpAny_bind (wpAny_pure (wpAny_pure ⟨_,rfl,wpAny_pure h⟩))) hdrop)
  |exact wpAny_bind (wpAny_bind (m:=Builtin.Tuple.tupleExact _) (wpAny_newObj_type (wpAny_pure (wpAny_pure ⟨_,rfl,wpAny_pure h⟩)) hdrop))
  |exact wpAny_bind (wpAny_bind (m:=Builtin.Tuple.tupleExact _) (wpAny_newObj_type (wpAny_pure ⟨_,rfl,wpAny_pure h⟩) hdrop))
theorem strPick(x:Str)(lo hi:Option Nat):Builtin.Str.strSliceIndices (castO lo) (castO hi) 1 x.length=sliceRange ((min (lo.getD 0) x.length:Nat):Int) ((min (hi.getD x.length) x.length:Nat):Int) 1:=by
 have k {a b a' b':Int} (h:a=a') (h':b=b'):sliceRange a b 1=sliceRange a' b' 1:=by rw[h,h']
 cases lo<;>cases hi
 ·exact k (clip_lo _) (clip_hi _)
 ·exact k (clip_lo _) (clip_nat _ _)
 ·exact k (clip_nat _ _) (clip_hi _)
 ·exact k (clip_nat _ _) (clip_nat _ _)
end
theorem NatPart.tok{v:Value}{n:Option Nat}(p:NatPart v n):∃l:Option (Int×Tok),v=partValue l∧l.map (·.1)=castO n:=by
 cases p with
 |none=>exact⟨Option.none,rfl,rfl⟩
 |int n t=>exact⟨Option.some ((n:Int),t),rfl,rfl⟩
theorem cut_zero{a b n:Nat}(ha:a≤n)(hb:b≤n)(h:b - a=n):a=0:=by
 rcases Nat.eq_zero_or_pos n with e|e
 ·exact Nat.le_zero.mp (e▸ha)
 ·have h1:a<b:=Nat.lt_of_sub_pos (h▸e)
  have h2:n+a=b:=h▸Nat.sub_add_cancel (Nat.le_of_lt h1)
  exact Nat.le_zero.mp (Nat.le_of_add_le_add_left (h2▸hb:n+a≤n+0))
theorem str_whole(x:Str)(lo hi:Option Nat)(h:(Builtin.Str.strSliceIndices (castO lo) (castO hi) 1 x.length).length=x.length):partL x.cps.toList (lo.getD 0) hi=x.cps.toList:=by
 have e:=part_clip x.cps.toList lo hi
 rw[strPick,sliceRange_one,List.length_map,List.length_range]at h
 have el:x.cps.toList.length=x.length:=by simp[Str.length]
 rw[el]at e
 rw[←e,h]
 rw[cut_zero (Nat.min_le_right _ _) (Nat.min_le_right _ _) h,List.drop_zero,←el]
 exact List.take_length
theorem str_part(x:Str)(lo hi:Option Nat):((Builtin.Str.strSliceIndices (castO lo) (castO hi) 1 x.length).filterMap (x.cps[·]?))=partL x.cps.toList (lo.getD 0) hi:=by
 rw[strPick,sliceRange_one,pick_run]
 exact part_clip x.cps.toList lo hi
section
variable{prog:Program}{w:World}{base:Heap}{P:Prg}{W:List Addr}{A:Around}{fr:List Env}{L:Addr}{s s₁:Shared}{γ γ₁:Gh}{σ σ₁:Store}{env:Env}{ρ ρ₁:Mine.Loc}
section
variable{G B:Addr}{value slice:Expr}{o:Value}{x:AV}{lo hi:Option Nat}{sl:Addr}{vl vu:Value}(R:SR prog w base s.heap γ σ)(hsl:s.heap.IsSliceOf sl vl vu .none)(pl:NatPart vl lo)(pu:NatPart vu hi)
 (hs:∀o i,subscripted slice false o i=operate [i,o] (getItem o i))
include R hsl pl pu hs
theorem sliceTup_does{a:Addr}{vs:List Value}{xs:List AV}(ht:PT s.heap a vs.toArray)(hb:vs.length≤bound)(r:VRs s.heap γ vs xs):VDoes prog w base P A fr L s γ σ (subscriptTail value slice (.ref a) (.ref sl)) (.ok (.tup (partL xs (lo.getD 0) hi)) σ):=
 .leaf R fun Q E hQ=>tail_any ht.is.typeIs slot_tuple_getitem.lookup (getItem_tuple_part ht.is hsl pl pu (fun e=>hQ _ s.heap s.toks (fun _ _ e=>e) (.tup ht hb (by
  have :=r.part (lo.getD 0) hi
  rwa [e]at this))) (hQ _ _ s.toks (push_keeps _ _) (IsTuple.newVR (Nat.le_trans (partL_le _ _ _) hb) (r.part _ _))) (bound_size hb)) (hs _ _)
set_option tactic.hygienic true in
theorem sliceStr_does{y:Str}{t:Tok}(hb:Nat.ble (partL y.cps.toList (lo.getD 0) hi).length bound=true):VDoes prog w base P A fr L s γ σ (subscriptTail value slice (.str y t) (.ref sl)) (.ok (.str ⟨(partL y.cps.toList (lo.getD 0) hi).toArray⟩) σ):=by
 refine ea11 (pl.tok) fun l z1=>?_;subst z1;intro el
 refine ea11 (pu.tok) fun u z1=>?_;subst z1;intro eu
 have ep:slicePicked y l u none=Builtin.Str.strSliceIndices (castO lo) (castO hi) 1 y.length:=by unfold slicePicked;rw[el,eu];rfl
 refine .calm R fun Q E hQ=>tail_any (typeIs_str s y t) F.slot_str_getitem.lookup (wpAny_getItem_str_slice (l:=l) (u:=u) (st:=none) hsl rfl ?_) (hs _ _)
 unfold sliceMade
 split
 ·rename_i hw
  have h2:=eq_of_beq (Bool.and_eq_true_iff.mp hw).2
  rw[ep]at h2
  rw[str_whole y lo hi h2]at hQ
  exact hQ _ s.toks (.str _ _)
 ·rw[ep,str_part]
  exact⟨by show(partL y.cps.toList (lo.getD 0) hi).toArray.size≤sizeLine;rw[List.size_toArray];exact bound_size (Nat.le_of_ble_eq_true hb),hQ _ _ (.str _ _)⟩
theorem sliceList_does{a:Addr}{vs:List Value}{xs:List AV}(hp:s.heap.IsList a vs.toArray)(hb:vs.length≤bound)(r:VRs s.heap γ vs xs):VDoes prog w base P A fr L s γ σ (subscriptTail value slice (.ref a) (.ref sl)) (Mine.alloc (.list (partL xs (lo.getD 0) hi)) σ):=
 newList_does (vs:=partL vs (lo.getD 0) hi) R (Nat.le_trans (partL_le _ _ _) hb) (r.part _ _) fun Q E hQ=>tail_any hp.typeIs slot_list_getitem.lookup (wpAny_getItem_list_slice hp hsl pl.isPart pu.isPart .none (by simp) (by rw[pick_nat];exact hQ) (by rw[List.size_toArray];exact bound_size hb)) (hs _ _)
end
theorem ints_vrs{vs:List Value}{l:List Int}(h:IntsAre vs l):VRs s.heap γ vs (l.map .int):=by
 induction h with
 |nil=>exact .nil
 |cons n t _ ih=>exact .cons (.int n t) ih
theorem part_map{α β:Type}(f:α→β)(l:List α)(lo:Nat)(hi:Option Nat):(partL l lo hi).map f=partL (l.map f) lo hi:=by
 cases hi with
 |none=>exact List.map_drop
 |some b=>exact List.map_take.trans (by rw[List.map_drop];rfl)
theorem scriptOf_inv{x:AV}{l:List Int}(h:scriptOf P x=some l):∃a,x= .fix (.ref a)∧P.script a=some l:=by
 cases x with
 |fix u=>
  cases u with
  |ref a=>exact⟨a,rfl,h⟩
  |_=>exact noneNe h
 |_=>exact noneNe h
theorem slice_does{G B:Addr}{value slice:Expr}{o i:Value}{x:AV}{q:Option Nat×Option Nat}(H:Heap0 P base G B)(R:SR prog w base s.heap γ σ)(ho:VR s.heap γ o x)(hi:SlR s.heap γ i q)
 (hs:∀o i,subscripted slice false o i=operate [i,o] (getItem o i)):VDoes prog w base P A fr L s γ σ (subscriptTail value slice o i) (sliceA P σ x (q.1.getD 0) q.2):=by
 refine ea33 hi fun sl vl vu z1=>?_;clear hi;subst z1;intro hsl pl pu
 refine Does.opt (fun xs hx=>?_) fun _=>Does.opt (fun y hy=>Does.chk fun hb=>?_) fun _=>Does.opt (fun p hp=>?_) fun _=>Does.ofO fun l hl=>?_
 ·refine ea23 (ho.asTup hx) fun t vs z1=>?_;subst z1;intro ht hb r
  exact sliceTup_does R hsl pl pu hs ht hb r
 ·refine ea10 (ho.asStr hy) fun t z1=>?_;subst z1
  exact sliceStr_does R hsl pl pu hs hb
 ·refine ea24 (R.list ho hp) fun a vs z1=>?_;subst z1;intro _ hp hb r
  exact sliceList_does R hsl pl pu hs hp.isList hb r
 ·refine ea11 (scriptOf_inv hl) fun a z1=>?_;subst z1;intro hl
  obtain⟨vs,⟨ob,e,k⟩,hI,hb⟩:=H.script _ _ hl
  rw[ho.fixInv,part_map]
  exact sliceList_does R hsl pl pu hs ⟨ob,R.stays _ _ e,k⟩ (Nat.le_trans hb (by decide)) (ints_vrs hI)
end
end Mine
end
section
set_option backward.match.sparseCases false
namespace Mine
open PySem PySem.Calls PySem.Spec PySem.SeqAt PyProof.Rows
section
variable{prog:Program}{w:World}{base:Heap}{P:Prg}{W S:List Addr}{A:Around}{fr:List Env}{L:Addr}{s s₁ s₂:Shared}{γ γ₁ γ₂:Gh}{σ σ₁ σ₂:Store}{env:Env}{ρ ρ₁:Mine.Loc}
theorem SR.other{h h':Heap}{q:Addr}(R:SR prog w base h γ σ)(hs:But q h h')(nq:base.get? q=none)(ap:∀p∈γ,q≠p.1∧q≠p.2)(nt:∀o,h.get? q=some o→NT o):TupKeep h h'∧SR prog w base h' γ σ:=by
 have tk:TupKeep h h':=fun a vs ⟨m,ho⟩=>by
  refine⟨m,hs a _ ?_ ho⟩
  rintro rfl
  exact nt _ ho ⟨rfl,_,_,rfl⟩
 refine⟨tk,fun b o e=>hs b _ ?_ (R.stays b o e),R.len,fun j r o hr ho=>?_,fun r hr=>?_,R.new,R.apart⟩
 ·rintro rfl;rw[nq]at e;cases e
 ·have a:=ap r (List.mem_of_getElem? hr)
  have :=OR.keep (add:=[]) tk (fun o e=>hs _ _ a.1.symm e) (fun o e=>hs _ _ a.2.symm e) (R.obj j r o hr ho)
  rwa [List.append_nil]at this
 ·obtain⟨⟨o1,h1,n1⟩,o2,h2,n2⟩:=R.live r hr
  have a:=ap r hr
  exact⟨⟨o1,hs _ _ a.1.symm h1,n1⟩,o2,hs _ _ a.2.symm h2,n2⟩
theorem Post.other(R:SR prog w base s.heap γ σ){h':Heap}{tk:Tok}{q:Addr}(hs:But q s.heap h')(nq:base.get? q=none)(ap:∀p∈γ,q≠p.1∧q≠p.2)(nt:∀o,s.heap.get? q=some o→NT o)
 (th:∃o,h'.get? q=some o∧((∃o0,s.heap.get? q=some o0∧Own o0)→Own o)) (hw:q∈W):Post prog w base W S s γ σ {s with heap:=h',toks:=tk} γ σ:=by
 refine ea01 (R.other hs nq ap nt) fun t R'=>?_
 refine⟨⟨h',tk,_,rfl⟩,⟨[],(List.append_nil _).symm,fun _ h=>nomatch h⟩,fun b ob e hb _=>⟨ob.slots,hs b _ ?_ e,fun _=>rfl⟩,t,fun b ob e=>?_,fun _ h=>h,R'⟩
 ·rintro rfl;exact hb hw
 ·by_cases e':b=q
  ·subst e';refine ea11 th fun o' ho' hn=>?_;clear th;exact⟨o',ho',fun n=>hn ⟨ob,e,n⟩⟩
  ·exact⟨ob,hs b _ e' e,id⟩
theorem Post.then{W':List Addr}(x:Post prog w base W S s γ σ s₁ γ₁ σ₁)(y:Post prog w base W' S s₁ γ₁ σ₁ s₂ γ₂ σ₂)(hn:∀b∈W',b∉W→s.heap.get? b=none):Post prog w base W S s γ σ s₂ γ₂ σ₂:=by
 refine⟨?_,?_,?_,x.tup.trans y.tup,fun b o h=>let ⟨o',h',n'⟩:=x.dom b o h;let ⟨o2,h2,n2⟩:=y.dom b o' h';⟨o2,h2,fun n=>n2 (n' n)⟩,fun i h=>y.frz i (x.frz i h),y.sr⟩
 ·refine ea30 (x.same) fun h1 t1 d1 e1=>?_
  refine ea30 (y.same) fun h2 t2 d2 e2=>?_
  exact⟨h2,t2,d2,by rw[e2,e1]⟩
 ·refine ea11 (x.pre) fun a1 e1 n1=>?_
  refine ea11 (y.pre) fun a2 e2 n2=>?_
  refine⟨a1++a2,by rw[e2,e1,List.append_assoc],fun p hp=>?_⟩
  rcases List.mem_append.mp hp with hp|hp
  ·exact n1 p hp
  ·exact⟨x.dom1 (n2 p hp).1,x.dom1 (n2 p hp).2⟩
 ·intro b o e hw hm
  refine ea11 (x.ext b o e hw hm) fun sl e1 k1=>?_
  refine ea11 (y.ext b _ e1 (fun hb=>by have :=hn b hb hw;rw[e]at this;cases this) (fun m=>hm (m.back x e))) fun sl2 e2 k2=>?_
  exact⟨sl2,e2,fun hs=>(k2 hs).trans (k1 hs)⟩
theorem Post.more{W':List Addr}(hw:∀b∈W,b∈W')(x:Post prog w base W S s γ σ s₁ γ₁ σ₁):Post prog w base W' S s γ σ s₁ γ₁ σ₁:=
 ⟨x.same,x.pre,fun b o e hb hm=>x.ext b o e (fun h=>hb (hw b h)) hm,x.tup,x.dom,x.frz,x.sr⟩
structure EnvOK(G B L:Addr)(env:Env)(sc:Scope):Prop where
 kind:env.scope.kind= .function
 globals:env.globals=G
 builtins:env.builtins=B
 frame:env.frame=some L
 glob:∀x,look x sc.names=some .globalImplicit→env.kindOf x=some .globalImplicit
 loc:∀x,look x sc.names=some .local→env.kindOf x=some .local
 cel:∀x,look x sc.names=some .cell→env.kindOf x=some .cell∧∃c,env.cells.lookup x=some c
 apart:(∃x,look x sc.names=some .cell)→env.cells.Pairwise fun x y=>x.2≠y.2
 above:∀q∈env.cells,env.locals≠q.2
theorem okName_debug{x:Str}(h:okName x=true):(x==("__debug__":Str))=false∧(x==("__classdict__":Str))=false:=by
 refine⟨?_,?_⟩<;>
 ·apply beq_eq_false_iff_ne.mpr
  rintro rfl
  revert h
  decide
set_option tactic.hygienic true in
theorem name_does{G B:Addr}{sc:Scope}{x:Str}{v:AV}{pos:Pos}(H:Heap0 P base G B)(I:Inv prog w base fr env s γ σ ρ)(EO:EnvOK G B L env sc)(h:nameA P sc ρ x=some v):
 VDoes prog w base P A fr L s γ σ (eval (.Name x pos) env) (.ok v σ):=by
 refine ea01 (nameA_inv h) fun ho h=>?_
 refine ea01 (okName_debug ho) fun hd hc=>?_
 rcases h with hu|⟨hl,h⟩
 ·refine ea11 (I.fram.ns) fun m hn hr=>?_
  refine .calm I.sr fun Q E hQ=>wpAny_Name ?_ hd
  rcases hr x v hu with ⟨hk,u,hm,r⟩|⟨hk|hk,c,hcl,u,hic,r⟩
  ·exact wpAny_loadName_local EO.kind hk hn hm (hQ _ s.toks r)
  ·exact wpAny_loadName_cell EO.kind hk hcl hic (hQ _ s.toks r)
  ·exact wpAny_loadName_free EO.kind hk hcl hic (hQ _ s.toks r) hc
 ·refine ea22 (H.glob) fun mg mb hg hb hx=>?_
  refine ea11 (hx x v h) fun u hu r=>?_
  have stay:∀{a:Addr} {m:Str→Option Value},base.Ns a m→s.heap.Ns a m:=fun hn=>hn.keeps fun b o e=>I.sr.stays b o e
  have r':VR s.heap γ u v:=r.mono γ fun a vs ⟨o,e⟩=>⟨o,I.sr.stays _ _ e⟩
  refine .calm I.sr fun Q E hQ=>Name_function_global EO.kind (EO.glob x hl) ?_ hd
  rcases hu with hu|⟨hu,hu2⟩
  ·exact loadGlobal_global (by rw[EO.globals];exact stay hg) hu (hQ _ s.toks r')
  ·exact loadGlobal_builtin (by rw[EO.globals];exact stay hg) hu (by rw[EO.builtins];exact stay hb) hu2 (hQ _ s.toks r')
theorem cell_of_addr:∀{cs:List (Str×Addr)},(cs.Pairwise fun x y=>x.2≠y.2)→∀{n n':Str} {c:Addr},(n,c)∈cs→(n',c)∈cs→n=n'
 |x::r,hp,n,n',c,h,h'=>by
  refine ea01 (List.pairwise_cons.mp hp) fun h1 h2=>?_
  rcases List.mem_cons.mp h with e|h<;>rcases List.mem_cons.mp h' with e'|h'
  ·rw[←e']at e;exact(Prod.mk.inj e).1
  ·exact absurd (by rw[←e]) (h1 _ h')
  ·exact absurd (by rw[←e']) (h1 _ h)
  ·exact cell_of_addr h2 h h'
noncomputable def Wok(env:Env)(sc:Scope)(W:List Addr):Prop:=env.locals∈W∧∀x c,look x sc.names=some .cell→env.cells.lookup x=some c→c∈W
theorem Wok.owns(env:Env)(sc:Scope):Wok env sc (owns env):=⟨.head _,fun x c _ h=> .tail _ (List.mem_map.mpr ⟨(x,c),mem_of_lookup h,rfl⟩)⟩
noncomputable abbrev FrR(env:Env):Heap→Gh→Unit→Mine.Loc→Prop:=fun h γ _ ρ=>Fram env h γ ρ
theorem look_cons{α:Type}(x y:Str)(v:α)(r:List (Str×α)):look x ((y,v)::r)=if y=x then some v else look x r:=by
 show cond (sEq y x) (some v) (look x r)=_
 cases h:sEq y x with
 |true=>simp[(sEq_iff _ _).mp h]
 |false=>simp[sEq_false.mp h]
set_option tactic.hygienic true in
theorem store_does{G B:Addr}{sc:Scope}{x:Str}{v:Value}{a:AV}(I:Inv prog w base fr env s γ σ ρ)(EO:EnvOK G B L env sc)(hl:localIn sc x=true)(hv:VR s.heap γ v a)(hW:Wok env sc W):
 Does prog w base P W A fr L s γ σ (storeName env x v) (.ok ((x,a)::ρ) σ:Out XA Mine.Loc) (FrR env) id nox:=by
 refine ea11 (I.fram.ns) fun m hn hr=>?_
 rcases localIn_inv hl with h1|h1
 ·have hk:=EO.loc x h1
  refine fun Q E hQ=>wpAny_storeName_local hk hn (fun h' hn' hs=>?_) (by rw[EO.kind];rfl)
  have hp:Post prog w base W (frs fr) s γ σ {s with heap:=h',toks:=s.toks+1} γ σ:=by
   refine ea12 (I.fram.own env.locals (.head _)) fun o ho hf nt=>?_
   refine Post.other I.sr (But.same hs) (I.oap _ (.head _)).1 (I.oap _ (.head _)).2 (fun o' ho'=>by rw[ho]at ho';cases ho';exact nt) ?_ hW.1
   refine ea32 hn' fun o' es ep ho' hd _=>?_;clear hn'
   exact⟨o',ho',fun _=>Own.dict hd⟩
  refine hQ () _ γ hp ⟨⟨_,hn',fun y u hy=>?_⟩,fun q hq=>?_⟩
  ·rw[look_cons]at hy
   by_cases e:x=y
   ·subst e
    rw[if_pos rfl]at hy;cases hy
    exact .inl ⟨hk,v,by simp,hv.post hp⟩
   ·rw[if_neg e]at hy
    rcases hr y u hy with ⟨hk,u',hm,r⟩|⟨hk,c,hcl,u',hic,r⟩
    ·exact .inl ⟨hk,u',by simp only [if_neg (Ne.symm e)];exact hm,r.post hp⟩
    ·exact .inr ⟨hk,c,hcl,u',hic.sameBut hs (Ne.symm (EO.above (y,c) (mem_of_lookup hcl))),r.post hp⟩
  ·refine ea21 (I.fram.cell q hq) fun o v' ho hd=>?_
   exact⟨o,v',(hs.2 _ (Ne.symm (EO.above q hq))).trans ho,hd⟩
 ·refine ea01 (EO.cel x h1) fun hk h2=>?_;refine ea10 h2 fun c hc=>?_;clear h2
  refine ea21 (I.fram.cell _ (mem_of_lookup hc)) fun oc vc hoc hdc=>?_
  have cm:c∈owns env:= .tail _ (List.mem_map.mpr ⟨(x,c),mem_of_lookup hc,rfl⟩)
  refine fun Q E hQ=>wpAny_storeName_cell EO.kind hk hc ⟨oc,hoc,hdc⟩ fun h' hic hs=>?_
  have hp:Post prog w base W (frs fr) s γ σ {s with heap:=h'} γ σ:=by
   refine ea12 (I.fram.own c cm) fun o ho hf nt=>?_
   have :=Post.other (prog:=prog) (w:=w) (base:=base) (W:=W) (S:=frs fr) (s:=s) (tk:=s.toks) I.sr (But.same hs) (I.oap _ cm).1 (I.oap _ cm).2 (fun o' ho'=>by rw[ho]at ho';cases ho';exact nt) ?_ (hW.2 x c h1 hc)
   ·exact this
   ·refine ea11 hic fun o' ho' hd=>?_;clear hic
    exact⟨o',ho',fun _=>⟨(fun vs e=>by rw[hd]at e;cases e),fun e=>by refine ea01 e fun _ h2=>?_;clear e;refine ea20 h2 fun xs n e=>?_;clear h2;rw[hd]at e;cases e⟩⟩
  refine hQ () _ γ hp ⟨⟨m,hn.sameBut hs (EO.above (x,c) (mem_of_lookup hc)),fun y u hy=>?_⟩,fun q hq=>?_⟩
  ·rw[look_cons]at hy
   by_cases e:x=y
   ·subst e
    rw[if_pos rfl]at hy;cases hy
    exact .inr ⟨.inl hk,c,hc,v,hic,hv.post hp⟩
   ·rw[if_neg e]at hy
    rcases hr y u hy with ⟨hk',u',hm,r⟩|⟨hk',c',hcl,u',hic',r⟩
    ·exact .inl ⟨hk',u',hm,r.post hp⟩
    ·exact .inr ⟨hk',c',hcl,u',hic'.sameBut hs (fun e2=>e (cell_of_addr (EO.apart ⟨x,h1⟩) (mem_of_lookup hc) (e2▸mem_of_lookup hcl))),r.post hp⟩
  ·refine ea21 (I.fram.cell q hq) fun o v' ho hd=>?_
   by_cases e:q.2=c
   ·refine ea11 hic fun o' ho' hd'=>?_;clear hic
    exact⟨o',_,by rw[e];exact ho',hd'⟩
   ·exact⟨o,v',(hs.2 _ e).trans ho,hd⟩
end
end Mine
end
section
namespace Mine
open PySem PySem.Calls PySem.Spec PySem.SeqAt PyProof.Rows
noncomputable def FlR(env:Env)(h:Heap)(γ:Gh)(f:Flow)(q:Fl×Mine.Loc):Prop:=match q.1 with
 | .next=>f= .next∧Fram env h γ q.2
 | .ret v=>∃u,f= .ret u∧VR h γ u v
structure Inv0(prog:Program)(w:World)(base:Heap)(fr:List Env)(s:Shared)(γ:Gh)(σ:Store):Prop where
 sr:SR prog w base s.heap γ σ
 ff:FF base s.heap fr
 sap:∀b∈frs fr,∀p∈γ,b≠p.1∧b≠p.2
noncomputable def CDoes(prog:Program)(w:World)(base:Heap)(P:Prg)(A:Around)(fr:List Env)(L:Addr)(s:Shared)(γ:Gh)(σ:Store)(c:Code)(m:Res AV):Prop:=
 match m with
 | .stuck=>True
 | .ok a σ'=>∀(Q E:Value→Shared→Prop),(∀b s' γ',Post prog w base [] (frs fr) s γ σ s' γ' σ'→VR s'.heap γ' b a→Q b s')→codeAny (model prog w) A c (wants Q E) s
 | .exc x σ'=>∀(Q E:Value→Shared→Prop),(∀v s' γ',EX prog w base P [] (frs fr) L s γ σ s' γ' σ' v x→E v s')→codeAny (model prog w) A c (wants Q E) s
structure Good(prog:Program)(w:World)(base:Heap)(P:Prg)(G B:Addr)(r:Rec)(n:Nat):Prop where
 ev:∀{A:Around} {fr:List Env} {L:Addr} {env:Env} {sc:Scope} {ρ:Mine.Loc} {s:Shared} {γ:Gh} {σ:Store} (e:Expr),AOK A fr L n→EnvOK G B L env sc→Inv prog w base fr env s γ σ ρ→
  VDoes prog w base P A fr L s γ σ (eval e env) (r.ev sc ρ σ e)
 ts:∀{A:Around} {fr:List Env} {L:Addr} {env:Env} {sc:Scope} {ρ:Mine.Loc} {s:Shared} {γ:Gh} {σ:Store} (e:Expr),AOK A fr L n→EnvOK G B L env sc→Inv prog w base fr env s γ σ ρ→
  BDoes prog w base P A fr L s γ σ (isTrue e env (eval e env)) (r.ts sc ρ σ e)
 ex:∀{A:Around} {fr:List Env} {L:Addr} {env:Env} {sc:Scope} {ρ:Mine.Loc} {s:Shared} {γ:Gh} {σ:Store} (b:List Stmt),AOK A fr L n→EnvOK G B L env sc→Inv prog w base fr env s γ σ ρ→
  Does prog w base P (owns env) A fr L s γ σ (execs b env) (r.ex sc ρ σ b) (FlR env) (·.1) (fun h γ x=>Fram env h γ x.2)
 call:∀{A:Around} {fr:List Env} {L:Addr} {s:Shared} {γ:Gh} {σ:Store} (a:Addr) (vs:List Value) (xs:List AV),AOK A fr L n→Inv0 prog w base fr s γ σ→VRs s.heap γ vs xs→
  CDoes prog w base P A fr L s γ σ (.call (.ref a) ⟨vs,[]⟩) (r.call a xs σ)
section
variable{prog:Program}{w:World}{base:Heap}{P:Prg}{W S:List Addr}{A:Around}{fr:List Env}{L:Addr}{s s₁ s₂:Shared}{γ γ₁ γ₂:Gh}{σ σ₁ σ₂:Store}{env:Env}{ρ ρ₁:Mine.Loc}{G B:Addr}{r:Rec}{n:Nat}{sc:Scope}
theorem CDoes.call{f:Value}{vs:List Value}{m:Res AV}(h:CDoes prog w base P A fr L s γ σ (.call f ⟨vs,[]⟩) m):VDoes prog w base P A fr L s γ σ (PySem.call f vs) m:=by
 cases m with
 |stuck=>trivial
 |ok a σ'=>exact fun Q E hQ=>wpAny_call (h Q E hQ)
 |exc x σ'=>exact fun Q E hQ=>wpAny_call (h Q E fun v s' γ' e=>hQ v s' γ' e trivial)
theorem Inv.zero(I:Inv prog w base fr env s γ σ ρ):Inv0 prog w base fr s γ σ:=⟨I.sr,I.ff,I.sap⟩
theorem Inv0.step(I:Inv0 prog w base fr s γ σ)(x:Post prog w base W (frs fr) s γ σ s₁ γ₁ σ₁):Inv0 prog w base fr s₁ γ₁ σ₁:=by
 refine⟨x.sr,FF.post x I.ff,fun b hb=>?_⟩
 refine ea01 (FF.there I.ff b hb) fun _ h1=>?_;refine ea11 h1 fun o ho _=>?_;clear h1
 exact x.apart ho (I.sap b hb)
theorem AOK.small(h:AOK A fr L n):A.units<9000:=Nat.lt_of_le_of_lt (Nat.le_add_right _ _) h.units
theorem starEach_cons{e:Expr}{rest:List Expr}(h:star? e=false):starEach (e::rest) env=(false,eval e env)::starEach rest env:=by
 cases e with
 |Starred=>exact ffNe h.symm
 |_=>rfl
theorem VRs.snoc{h:Heap}{v:Value}{x:AV}{vs:List Value}{xs:List AV}(a:VR h γ v x)(r:VRs h γ vs xs):VRs h γ (v::vs) (x::xs):= .cons a r
theorem evs_does(g:Good prog w base P G B r n)(ha:AOK A fr L n)(eo:EnvOK G B L env sc){pos:Pos}:∀(es:List Expr) {s:Shared} {γ:Gh} {σ:Store},Inv prog w base fr env s γ σ ρ→es.any star? =false→
 Does prog w base P [] A fr L s γ σ (spliced (backTo pos (starEach es env))) (evs r sc ρ es σ) VRs id nox
 |[],s,γ,σ,I,_=>Does.ret I.sr VRs.nil
 |e::rest,s,γ,σ,I,h=>by
  rw[List.any_cons,Bool.or_eq_false_iff]at h
  rw[starEach_cons h.1]
  show Does prog w base P [] A fr L s γ σ (eval e env >>= fun v=>pure [v] >>= fun here=>holding here (spliced (backTo pos (starEach rest env))) >>= fun vs=>pure (here++vs)) _ _ _ _
  refine Does.bind (g.ev e ha eo I) fun x σ₁ v s₁ γ₁ _ hp hv=>?_
  refine Does.of_wp (fun Q E h=>wpAny_bind (wpAny_pure h)) ?_
  refine Does.bind (Does.hold (evs_does g ha eo rest (I.step hp) h.2)) fun xs σ₂ vs s₂ γ₂ _ hp2 hvs=>?_
  exact Does.ret hp2.sr (VRs.cons (hv.post hp2) hvs)
theorem extBut_keeps{h h':Heap}(e:Heap.ExtBut h.objs.size h h'):∀b o,h.get? b=some o→h'.get? b=some o:=
 fun b o ho=>e b o (Nat.ne_of_lt (Heap.lt_size ho)) ho
theorem assignEach_len{es:List Expr}:(assignEach es env).length=es.length:=by
 induction es with
 |nil=>rfl
 |cons e es ih=>cases e<;>exact congrArg Nat.succ ih
theorem names_inv{t:Expr}{ts:List Expr}{x:AV}{xs:List AV}(h:bindNames sc (t::ts) (x::xs) ρ=some ρ₁):∃y p,t= .Name y p∧localIn sc y=true∧bindNames sc ts xs ((y,x)::ρ)=some ρ₁:=by
 refine ea11 (Option.bind_eq_some_iff.mp h) fun q hn h=>?_
 exact⟨q.1,q.2,nameV_inv hn,(chkO_inv h).1,(chkO_inv h).2⟩
theorem names_star:∀(ts:List Expr) (xs:List AV) {ρ ρ':Mine.Loc},bindNames sc ts xs ρ=some ρ'→(assignEach ts env).findIdx? (·.1)=none∧ts.length=xs.length:=by
 intro ts
 induction ts with
 |nil=>
  intro xs ρ ρ' h
  cases xs with
  |nil=>exact⟨rfl,rfl⟩
  |cons=>exact noneNe h
 |cons t ts ih=>
  intro xs ρ ρ' h
  cases xs with
  |nil=>exact noneNe h
  |cons x xs=>
   refine ea22 (names_inv h) fun y p z1=>?_;subst z1;intro _ h
   have q:=ih xs h
   refine⟨?_,congrArg Nat.succ q.2⟩
   show List.findIdx? _ ((false,_)::assignEach ts env)=none
   rw[List.findIdx?_cons,q.1]
   rfl
theorem names_assign(eo:EnvOK G B L env sc)(hW:Wok env sc W)(hO:∀b∈W,b∈owns env):∀(ts:List Expr) (vs:List Value) (xs:List AV) {s:Shared} {γ:Gh} {σ:Store} {ρ ρ':Mine.Loc},Inv prog w base fr env s γ σ ρ→VRs s.heap γ vs xs→bindNames sc ts xs ρ=some ρ'→
 Does prog w base P W A fr L s γ σ (assignInOrder ((assignEach ts env).map (·.2)) vs) (.ok ρ' σ:Out XA Mine.Loc) (FrR env) id nox:=by
 intro ts
 induction ts with
 |nil=>
  intro vs xs s γ σ ρ ρ' I hv h
  cases xs with
  |nil=>rw[List.eq_nil_of_length_eq_zero hv.length,←Option.some.inj h];exact Does.ret I.sr I.fram
  |cons=>exact noneNe h
 |cons t ts ih=>
  intro vs xs s γ σ ρ ρ' I hv h
  cases xs with
  |nil=>exact noneNe h
  |cons x xs=>
   refine ea22 (names_inv h) fun y pos z1=>?_;subst z1;intro hl h
   refine ea22 (hv.consInv) fun v vs z1=>?_;subst z1;intro hv hr
   have h1:=store_does (W:=W) (P:=P) (A:=A) I eo hl hv hW
   show Does prog w base P W A fr L s γ σ (holding vs (assign (.Name y pos) env v) >>= fun _=>assignInOrder ((assignEach ts env).map (·.2)) vs) (Out.bd (.ok ((y,x)::ρ) σ:Out XA Mine.Loc) fun _ _=> .ok ρ' σ) (FrR env) id nox
   refine Does.bind (rel:=FrR env) (Does.hold (Does.of_wp (fun Q E h=>wpAny_assign_Name h) h1)) fun a σ' b s' γ' e hp hf=>?_
   cases e
   exact ih vs xs (I.stepX (hp.more hO) hf) (hr.post hp) h
theorem Fram.keepsB{h h':Heap}{γ':Gh}(F:Fram env h γ ρ)(k:∀b∈owns env,∀o,h.get? b=some o→h'.get? b=some o)(kv:∀u v,VR h γ u v→VR h' γ' u v):Fram env h' γ' ρ:=by
 obtain⟨m,⟨o,es,ep,ho,r⟩,hr⟩:=F.ns
 refine⟨⟨m,⟨o,es,ep,k _ (.head _) _ ho,r⟩,fun x v hx=>?_⟩,fun q hq=>?_⟩
 ·rcases hr x v hx with ⟨hk,u,hm,r⟩|⟨hk,c,hcl,u,⟨oc,hoc,hd⟩,r⟩
  ·exact .inl ⟨hk,u,hm,kv _ _ r⟩
  ·exact .inr ⟨hk,c,hcl,u,⟨oc,k c (.tail _ (List.mem_map.mpr ⟨(x,c),mem_of_lookup hcl,rfl⟩)) _ hoc,hd⟩,kv _ _ r⟩
 ·refine ea21 (F.cell q hq) fun o v ho hd=>?_
  exact⟨o,v,k _ (.tail _ (List.mem_map.mpr ⟨q,hq,rfl⟩)) _ ho,hd⟩
theorem Inv.keeps{h':Heap}{tk:Tok}(I:Inv prog w base fr env s γ σ ρ)(k:∀b o,s.heap.get? b=some o→h'.get? b=some o):Inv prog w base fr env {s with heap:=h',toks:=tk} γ σ ρ:=
 I.step (Post.keeps (W:=[]) (S:=frs fr) I.sr k)
theorem bindTup_does(eo:EnvOK G B L env sc)(hh:A.handled=none)(hW:Wok env sc W)(hO:∀b∈W,b∈owns env){ts:List Expr}{k:Nat}{pos:Pos}{v:Value}{x:AV}{xs:List AV}(I:Inv prog w base fr env s γ σ ρ)(hv:VR s.heap γ v x)(hx:asTup x=some xs)(h:bindNames sc ts xs ρ=some ρ₁):
 Does prog w base P W A fr L s γ σ (assign (.Tuple ts k pos) env v) (.ok ρ₁ σ:Out XA Mine.Loc) (FrR env) id nox:=by
 refine ea23 (hv.asTup hx) fun a vs z1=>?_;subst z1;intro ht hb r
 have h1:=names_star (env:=env) ts xs h
 refine fun Q E hQ=>wpAny_assign_Tuple hh ht.is (by rw[assignEach_len,h1.2,List.size_toArray,r.length]) h1.1 fun h' he=>?_
 have k:=extBut_keeps he
 exact names_assign (P:=P) (A:=A) (L:=L) eo hW hO ts vs xs (I.keeps (tk:=s.toks) k) (r.keep (.of_keeps k)) h Q E fun b s' γ' hp' hf=>hQ b s' γ' ((Post.keeps (tk:=s.toks) I.sr k).trans hp') hf
theorem bind_does(eo:EnvOK G B L env sc)(hh:A.handled=none)(hW:Wok env sc W)(hO:∀b∈W,b∈owns env){t:Expr}{v:Value}{x:AV}(I:Inv prog w base fr env s γ σ ρ)(hv:VR s.heap γ v x)(h:bindA sc t x ρ=some ρ₁):
 Does prog w base P W A fr L s γ σ (assign t env v) (.ok ρ₁ σ:Out XA Mine.Loc) (FrR env) id nox:=by
 unfold bindA at h
 cases hn:nameV t with
 |some q=>
  rw[hn]at h
  dsimp only at h
  rw[nameV_inv hn]
  cases hl:localIn sc q.1 with
  |false=>rw[hl]at h;exact noneNe h
  |true=>
   rw[hl]at h
   exact Option.some.inj h▸Does.of_wp (fun Q E h=>wpAny_assign_Name h) (store_does I eo hl hv hW)
 |none=>
  rw[hn]at h
  dsimp only at h
  cases ht:tupV t with
  |none=>rw[ht]at h;exact noneNe h
  |some q=>
   rw[ht]at h
   dsimp only at h
   rw[tupV_inv ht]
   cases hx:asTup x with
   |none=>rw[hx]at h;exact noneNe h
   |some xs=>rw[hx]at h;exact bindTup_does eo hh hW hO I hv hx h
end
end Mine
end
section
namespace Mine
open PySem PySem.Calls PySem.Spec PySem.SeqAt PyProof.Rows
section
variable{prog:Program}{w:World}{base:Heap}{P:Prg}{W S:List Addr}{A:Around}{fr:List Env}{L:Addr}{s s₁ s₂:Shared}{γ γ₁ γ₂:Gh}{σ σ₁ σ₂:Store}{env:Env}{ρ ρ₁:Mine.Loc}{G B:Addr}{r:Rec}{n:Nat}{sc:Scope}
theorem bound_fit{n:Nat}(h:n≤bound):(n:Int)<2 ^ 63:=by
 have :n≤100000:=h
 omega
theorem ref_not_loader(a:Addr):Value.ref a≠ .builtin "__main__.__loader__#opaque":=by intro e;cases e
section
variable{v:Value}{x:AV}{T:String}{b:Bool}(R:SR prog w base s.heap γ σ)(hv:VR s.heap γ v x)
include R hv
theorem isi_does(hT:(T=="tuple"||T=="str"||T=="int"||T=="bool")=true)(h:isinstA σ x T=some b):
 VDoes prog w base P A fr L s γ σ (PySem.call (.builtin "isinstance") [v,.type T]) (.ok (.bool b) σ):=by
 have hT':T="tuple"∨T="str"∨T="int"∨T="bool":=by simpa [or_assoc]using hT
 clear hT
 cases hv with
 |none=>
  obtain rfl:=Option.some.inj h
  refine .calm R fun Q E hQ=>?_
  have q:=fun tk=>hQ (.bool false) tk (.bool _)
  rcases hT' with rfl|rfl|rfl|rfl
  ·exact call_isinstance (isinstance_false_none (by decide) meta_tuple sub_NoneType_tuple) (q _)
  ·exact call_isinstance (isinstance_false_none (by decide) meta_str sub_NoneType_str) (q _)
  ·exact call_isinstance (isinstance_false_none (by decide) meta_int sub_NoneType_int) (q _)
  ·exact call_isinstance (isinstance_false_none (by decide) meta_bool sub_NoneType_bool) (q _)
 |bool c=>
  obtain rfl:=Option.some.inj h
  refine .calm R fun Q E hQ=>?_
  have q:=fun tk=>hQ (.bool (T=="bool"||T=="int")) tk (.bool _)
  rcases hT' with rfl|rfl|rfl|rfl
  ·exact call_isinstance (isinstance_false_bool (by decide) meta_tuple sub_bool_tuple) (q _)
  ·exact call_isinstance (isinstance_false_bool (by decide) meta_str sub_bool_str) (q _)
  ·exact call_isinstance_yes (PySem.typeIs_bool s c) meta_int sub_bool_int (q s.toks)
  ·exact call_isinstance_yes (PySem.typeIs_bool s c) meta_bool sub_bool_bool (q s.toks)
 |int i t=>
  obtain rfl:=Option.some.inj h
  refine .calm R fun Q E hQ=>?_
  have q:=fun tk=>hQ (.bool (T=="int")) tk (.bool _)
  rcases hT' with rfl|rfl|rfl|rfl
  ·exact call_isinstance (isinstance_false_int (by decide) meta_tuple sub_int_tuple) (q _)
  ·exact call_isinstance (isinstance_false_int (by decide) meta_str PyProof.Rows.sub_int_str) (q _)
  ·exact call_isinstance_yes (typeIs_int s i t) meta_int sub_int_int (q s.toks)
  ·exact call_isinstance (isinstance_false_int (by decide) meta_bool sub_int_bool) (q _)
 |str y t=>
  obtain rfl:=Option.some.inj h
  refine .calm R fun Q E hQ=>?_
  have q:=fun tk=>hQ (.bool (T=="str")) tk (.bool _)
  rcases hT' with rfl|rfl|rfl|rfl
  ·exact call_isinstance (isinstance_false_str (by decide) meta_tuple sub_str_tuple) (q _)
  ·exact call_isinstance_yes (typeIs_str s y t) meta_str sub_str_str (q s.toks)
  ·exact call_isinstance (isinstance_false_str (by decide) meta_int sub_str_int) (q _)
  ·exact call_isinstance (isinstance_false_str (by decide) meta_bool sub_str_bool) (q _)
 |tup ht hb hr=>
  obtain rfl:=Option.some.inj h
  refine .calm R fun Q E hQ=>?_
  have q:=fun tk=>hQ (.bool (T=="tuple")) tk (.bool _)
  have ti:=ht.is.typeIs
  rcases hT' with rfl|rfl|rfl|rfl
  ·exact call_isinstance_yes ti meta_tuple sub_tuple_tuple (q s.toks)
  ·exact call_isinstance (isinstance_false_tuple (by decide) meta_str sub_tuple_str) ⟨ti,q _⟩
  ·exact call_isinstance (isinstance_false_tuple (by decide) meta_int sub_tuple_int) ⟨ti,q _⟩
  ·exact call_isinstance (isinstance_false_tuple (by decide) meta_bool sub_tuple_bool) ⟨ti,q _⟩
 |ob hi=>
  refine ea11 (Option.map_eq_some_iff.mp h) fun q0 hx z1=>?_;subst z1
  refine ea23 (R.list (.ob hi) hx) fun p vs e _ hp _=>?_
  rw[e]
  refine .calm R fun Q E hQ=>?_
  have q:=fun tk=>hQ (.bool false) tk (.bool _)
  have ti:=hp.isList.typeIs
  rcases hT' with rfl|rfl|rfl|rfl
  ·exact call_isinstance (isinstance_false_list (by decide) meta_tuple sub_list_tuple) ⟨ti,q _⟩
  ·exact call_isinstance (isinstance_false_list (by decide) meta_str sub_list_str) ⟨ti,q _⟩
  ·exact call_isinstance (isinstance_false_list (by decide) meta_int sub_list_int) ⟨ti,q _⟩
  ·exact call_isinstance (isinstance_false_list (by decide) meta_bool sub_list_bool) ⟨ti,q _⟩
 |fix v=>exact noneNe h
theorem len_does:VDoes prog w base P A fr L s γ σ (PySem.call (.builtin "len") [v]) (lenA σ x):=by
 refine Does.opt (fun xs hx=>?_) fun _=>Does.ofO fun q hq=>?_
 ·refine ea23 (hv.asTup hx) fun a vs z1=>?_;subst z1;intro ht hb hr
  rw[←hr.length]
  exact .calm R fun Q E hQ=>PyProof.Rows.len_tuple ht.is (by rw[List.size_toArray];exact bound_fit hb) (by rw[List.size_toArray];exact hQ _ _ (.int _ _))
 ·refine ea24 (R.list hv hq) fun p vs z1=>?_;subst z1;intro _ hp hb hr
  rw[←hr.length]
  exact .calm R fun Q E hQ=>PyProof.Rows.len_list hp.isList (by rw[List.size_toArray];exact bound_fit hb) (by rw[List.size_toArray];exact hQ _ _ (.int _ _))
theorem tuple_does:VDoes prog w base P A fr L s γ σ (PySem.call (.type "tuple") [v]) (tupleA σ x):=by
 refine Does.opt (fun xs hx=>?_) fun _=>Does.ofO fun q hq=>?_
 ·refine ea23 (hv.asTup hx) fun a vs z1=>?_;subst z1;intro ht hb hr
  exact .calm R fun Q E hQ=>call_tuple_same ht.is (hQ _ s.toks (.tup ht hb hr))
 ·refine ea24 (R.list hv hq) fun p vs z1=>?_;subst z1;intro _ hp hb hr
  exact .leaf R fun Q E hQ=>call_tuple_list hp.isList (fun h' hk=>hQ _ _ s.toks (fun b o e=>push_keeps _ _ b o (hk b o e)) (IsTuple.newVR hb (hr.keep (.of_keeps hk)))) (by rw[List.size_toArray];exact bound_size hb)
end
theorem list_seq_does{a:Addr}{vs:List Value}{xs:List AV}(R:SR prog w base s.heap γ σ){T:String}{o:Obj}{m:Nat}(hT:T="list"∨T="tuple")(ho:s.heap.get? a=some o)(hc:o.cls= .type T)(hd:o.data= .seq vs.toArray m)(hb:vs.length≤bound)
 (hr:VRs s.heap γ vs xs):VDoes prog w base P A fr L s γ σ (PySem.call (.type "list") [.ref a]) (Mine.alloc (.list xs) σ):=
 VDoes.alloc R fun Q E hQ=>call_list_seq a hT ho hc hd (fun h' c' hk hn=>hQ (s.heap.objs.size,s.heap.objs.size) h' s.toks hk (push_none _) (push_none _) ⟨_,hn,list_ne⟩ ⟨_,hn,list_ne⟩ ⟨rfl,vs,⟨_,hn⟩,hb,hr.mono _ (.of_keeps hk)⟩) (by rw[List.size_toArray];exact bound_size hb)
theorem SR.items{v:Value}{x:AV}{xs:List AV}(R:SR prog w base s.heap γ σ)(hv:VR s.heap γ v x)(hx:itemsA σ x=some xs):∃a vs,v= .ref a∧vs.length≤bound∧VRs s.heap γ vs xs∧(PT s.heap a vs.toArray∨s.heap.PlainList a vs.toArray):=by
 unfold itemsA at hx
 cases h:asTup x with
 |some ys=>
  rw[h]at hx
  refine ea23 (hv.asTup h) fun a vs e ht hb hr=>?_
  exact⟨a,vs,e,hb,Option.some.inj hx▸hr,.inl ht⟩
 |none=>
  rw[h]at hx
  refine ea11 (Option.map_eq_some_iff.mp hx) fun q hq e=>?_
  refine ea24 (R.list hv hq) fun p vs e2 _ hp hb hr=>?_
  exact⟨p.1,vs,e2,hb,e▸hr,.inr hp⟩
theorem list_does{v:Value}{x:AV}(R:SR prog w base s.heap γ σ)(hv:VR s.heap γ v x):VDoes prog w base P A fr L s γ σ (PySem.call (.type "list") [v]) (listA σ x):=Does.ofO fun xs hx=>by
 obtain⟨a,vs,rfl,hb,hr,⟨m,ho⟩|⟨m,ho⟩⟩:=R.items hv hx
 ·exact list_seq_does R (.inr rfl) ho rfl rfl hb hr
 ·exact list_seq_does R (.inl rfl) ho rfl rfl hb hr
theorem dict_copy_does{v:Value}{x:AV}{q:Nat×List (Str×AV)}(H:Heap0 P base G B)(R:SR prog w base s.heap γ σ)(hv:VR s.heap γ v x)(hx:dstrOf σ x=some q):VDoes prog w base P A fr L s γ σ (PySem.call (.type "dict") [v]) (Mine.alloc (.dstr q.2) σ):=by
 refine ea24 (R.dstr hv hx) fun p vs z1=>?_;subst z1;intro hi hd hb hr
 refine VDoes.alloc R fun Q E hQ=>kt_call_dict (R.notSys H hi) hd (bound_size hb) fun h' hd' hs=>?_
 have hk:∀b o,s.heap.get? b=some o→h'.get? b=some o:=fun b o e=>(hs.2 b (Nat.ne_of_lt (Heap.lt_size e))).trans (push_keeps _ _ b o e)
 have hl:∃o,h'.get? s.heap.objs.size=some o∧NT o:=hd'.imp fun o q=>q.elim fun _ q=>q.elim fun _ q=>⟨q.1,NT.dict q.2.2.1⟩
 exact hQ (s.heap.objs.size,s.heap.objs.size) h' s.toks hk (push_none _) (push_none _) hl hl ⟨rfl,vs,hd',hb,hr.mono _ (.of_keeps hk)⟩
theorem int_does{v:Value}{x:AV}(R:SR prog w base s.heap γ σ)(hv:VR s.heap γ v x):VDoes prog w base P A fr L s γ σ (PySem.call (.type "int") [v]) (intA σ x):=by
 refine Does.opt (fun i hi=>?_) fun _=>Does.ofO fun b hb=>?_
 ·refine ea10 (hv.asInt hi) fun t z1=>?_;subst z1
  exact .calm R fun Q E hQ=>call_int_int (hQ _ s.toks (.int _ _))
 ·rw[hv.asBool hb]
  exact .calm R fun Q E hQ=>call_int_bool (hQ _ _ (.int _ _))
theorem Post.setList{h':Heap}{i:Nat}{p:Addr×Addr}{xs ys:List AV}{ws:List Value}{m:Nat}(R:SR prog w base s.heap γ σ)(hi:γ[i]? =some p)(hx:σ[i]? =some (.list xs))(hs:But p.1 s.heap h')
 (hn:h'.get? p.1=some {cls:= .type "list",data:= .seq ws.toArray m}) (hb:ws.length≤bound) (hr:VRs s.heap γ ws ys):Post prog w base W S s γ σ {s with heap:=h',toks:=s.toks} γ (σ.set i (.list ys)):=by
 have h0:=R.obj i p _ hi hx
 have tk:TupKeep s.heap h':=fun a vs ⟨m,ho⟩=>by
  refine⟨m,hs a _ ?_ ho⟩
  rintro rfl
  obtain⟨_,us,⟨k,hk⟩,_⟩:=h0
  exact absurd (congrArg Obj.cls (Option.some.inj (hk.symm.trans ho))) (show¬(Value.type "list"=Value.type "tuple") by decide)
 exact Post.set R hi hx (fun e=>nomatch e) (.inl rfl) hs (fun o ho=>Option.some.inj (hn.symm.trans ho)▸list_ne) ⟨_,hn,⟨(fun vs e=>nomatch e),list_ne⟩⟩ ⟨h0.1,ws,⟨m,hn⟩,hb,hr.keep tk⟩
section
variable{a u:Value}{o x:AV}{q:Nat×List AV}(R:SR prog w base s.heap γ σ)(ha:VR s.heap γ a o)(hx:listOf σ o=some q)
include R ha hx
theorem append_does(hb:Nat.blt q.2.length bound=true)(hu:VR s.heap γ u x):VDoes prog w base P A fr L s γ σ (PySem.call (.builtin "list.append") [a,u]) (.ok .none (σ.set q.1 (.list (q.2++[x])))):=by
 obtain⟨p,vs,rfl,hi,⟨m,ho⟩,hb2,hr⟩:=R.list ha hx
 have hl:vs.length<bound:=hr.length▸Nat.le_of_ble_eq_true hb
 exact fun Q E hQ=>append_at ho (fun h' hs hn=>hQ .none _ γ (Post.setList (ws:=vs++[u]) R hi (listOf_inv hx).2 (But.same hs) (m:=m+1) (by simpa using hn) (by rw[List.length_append];exact hl) (hr.append (.cons hu .nil))) .none) (by rw[List.size_toArray];exact bound_size hb2)
theorem pop_does{ys:List AV}(he:q.2=ys++[x]):VDoes prog w base P A fr L s γ σ (PySem.call (.builtin "list.pop") [a]) (.ok x (σ.set q.1 (.list ys))):=by
 obtain⟨p,vs,rfl,hi,⟨m,ho⟩,hb2,hr⟩:=R.list ha hx
 rw[he]at hr
 refine ea22 (hr.snocInv) fun us y z1=>?_;subst z1;intro hys hyr
 clear hr
 have hk:(us++[y]).toArray.size - 1=us.length:=by rw[List.size_toArray,List.length_append];rfl
 have hb3:us.length≤bound:=Nat.le_trans (by rw[List.length_append];exact Nat.le_add_right _ _) hb2
 refine fun Q E hQ=>call_meets PySem.F.slot_list_pop ⟨_,ho,rfl⟩ PySem.F.entry_list_pop (PySem.F.args_list_pop_1 _) (PySem.MeetsSeq.list_pop_last p.1 _ m y (by rw[hk];simp) (by rw[List.size_toArray];exact bound_size hb2)) ⟨ho,?_⟩
 have e:=IsL.update ho (fun xs=>xs.eraseIdxIfInBounds ((us++[y]).toArray.size - 1))
 rw[show(us++[y]).toArray.eraseIdxIfInBounds ((us++[y]).toArray.size - 1)=us.toArray from by
  rw[hk]
  apply Array.ext'
  rw[Array.eraseIdxIfInBounds]
  simp[List.eraseIdx_append_of_length_le]]at e
 have hp:=Post.setList (prog:=prog) (w:=w) (base:=base) (W:=[]) (S:=frs fr) R hi (listOf_inv hx).2 (But.same (Heap.SameBut.update ..)) e hb3 hys
 exact hQ y _ γ hp (hyr.post hp)
theorem extend_does{ys:List AV}(hu:VR s.heap γ u x)(hy:itemsA σ x=some ys)(hb:Nat.ble (q.2.length+ys.length) bound=true):
 VDoes prog w base P A fr L s γ σ (PySem.call (.builtin "list.extend") [a,u]) (.ok .none (σ.set q.1 (.list (q.2++ys)))):=by
 obtain⟨p,vs,rfl,hi,⟨m,ho⟩,hb2,hr⟩:=R.list ha hx
 refine ea23 (R.items hu hy) fun c ws z1=>?_;subst z1;intro _ hw hk
 have hl:(vs++ws).length≤bound:=by rw[List.length_append,hr.length,hw.length];exact Nat.le_of_ble_eq_true hb
 have sz:vs.toArray.size+ws.toArray.size≤sizeLine:=by rw[List.size_toArray,List.size_toArray,←List.length_append];exact bound_size hl
 have sz2:vs.toArray.size≤sizeLine:=by rw[List.size_toArray];exact bound_size hb2
 intro Q E hQ
 have fin:Q .none {s with heap:=s.heap.update p.1 (Obj.mapSeq fun x=>x++ws.toArray)}:=by
  have e:=IsL.update ho (fun x=>x++ws.toArray)
  rw[show vs.toArray++ws.toArray=(vs++ws).toArray by simp]at e
  exact hQ .none _ γ (Post.setList R hi (listOf_inv hx).2 (But.same (Heap.SameBut.update ..)) e hl (hr.append hw)) .none
 rcases hk with ⟨m2,h2⟩|⟨m2,h2⟩
 ·exact call_meets PySem.F.slot_list_extend ⟨_,ho,rfl⟩ PySem.F.entry_list_extend (PySem.F.args_list_extend_2 _ _) (AutoSeq1.list_extend_list_tuple_0 p.1 vs.toArray m c ws.toArray m2 (extend_door sz) sz2 (Nat.le_succ_of_le sz)) ⟨ho,h2,fin⟩
 ·exact call_meets PySem.F.slot_list_extend ⟨_,ho,rfl⟩ PySem.F.entry_list_extend (PySem.F.args_list_extend_2 _ _) (AutoSeq1.list_extend_list_list_0 p.1 vs.toArray m c ws.toArray m2 (extend_door sz) sz2 (Nat.le_succ_of_le sz)) ⟨ho,h2,fin⟩
end
theorem ints_of{h:Heap}{vs:List Value}{xs:List AV}(r:VRs h γ vs xs):∀{l:List Int},ints? xs=some l→IntsAre vs l:=
 r.ind (p:=fun vs xs=>∀{l:List Int},ints? xs=some l→IntsAre vs l) (fun e=>Option.some.inj e▸ .nil) fun a _ ih l e=>by
  refine ea22 (bmap_inv e) fun y ys hy hys e=>?_
  refine ea10 (a.asInt hy) fun t z1=>?_;subst z1
  exact e▸ .cons y t (ih hys)
theorem sumL_eq:∀l:List Int,sumL l=l.sum
 |[]=>rfl
 |x::r=>by rw[List.sum_cons,←sumL_eq r];rfl
theorem sum_does{a:Value}{x:AV}(R:SR prog w base s.heap γ σ)(hh:A.handled=none)(ha:VR s.heap γ a x):VDoes prog w base P A fr L s γ σ (PySem.call (.builtin "sum") [a]) (sumA σ x):=Does.ofO fun q hq=>Does.ofO fun l hl=>by
 refine ea24 (R.list ha hq) fun p vs z1=>?_;subst z1;intro hi hp hb2 hr
 have hI:=ints_of hr hl
 refine ea10 (hI.allInts.items) fun ys hys=>?_
 have hs:preSum (numAt ys) ys.size=sumL l:=by
  rw[preSum_eq,List.take_of_length_le (by simp),sumL_eq,←nums_intItems,←hys]
  show(numsOf vs).sum=_
  rw[hI.numsOf]
 exact .leaf R fun Q E hQ=>sum_intListG hh (hys▸hp.isList) fun h' tk t' hk=>by rw[hs];exact hQ _ h' tk hk (.int _ _)
end
end Mine
end
section
namespace Mine
open PySem PySem.Calls PySem.Spec PySem.SeqAt PyProof.Rows
open PySem.W in
structure ClsOK(K:PySem.W.Frag)(P:Prg):Prop where
 ga:∀C,P.cls C=true→findIn K (.ref C) "__getattribute__"=some (some (.builtin "object.__getattribute__"))
 gt:∀C,P.cls C=true→findIn K (.ref C) "__getattr__"=some none
 dict:∀C,P.cls C=true→hasDictIn K C=true
 sa:∀C,P.cls C=true→findIn K (.ref C) "__setattr__"=some (some (.builtin "object.__setattr__"))
 over:∀C,P.cls C=true→plainOver K C=true
 makes:∀C,P.cls C=true→makesIn K C=true
 keep:∀C,P.cls C=true→keepIn K (.ref C)=true
 own:∀C x,P.attr C x=true→P.cls C=true∧findIn K (.ref C) x=some none
 meth:∀C x f,P.meth C x=some f→P.cls C=true∧copiedNames.contains x=false∧findIn K (.ref C) x=some (some (.ref f))
 init:∀C f,P.init C=some f→findIn K (.ref C) "__init__"=some (some (.ref f))
 fn:∀f g,P.fn f=some g→typeIn K (.ref f)=some (.type "function")∧fnIn K f=true
 fget:∀f g,P.fn f=some g→specialIn K (.ref f) "__get__"=some (some (.builtin "function.__get__"))∧takesIn K (.ref f)=some false
section
variable{prog:Program}{w:World}{base:Heap}{P:Prg}{W S:List Addr}{A:Around}{fr:List Env}{L:Addr}{s s₁ s₂:Shared}{γ γ₁ γ₂:Gh}{σ σ₁ σ₂:Store}{env:Env}{ρ ρ₁:Mine.Loc}{G B:Addr}{r:Rec}{n:Nat}{sc:Scope}
 {K:PySem.W.Frag}
theorem key_is(k name:Str)(t:Tok):(Value.str k t).isStr name=sEq k name:=by
 show(k==name)=sEq k name
 cases e:sEq k name with
 |true=>rw[(sEq_iff _ _).mp e];exact beq_self_eq_true _
 |false=>exact beq_eq_false_iff_ne.mpr (sEq_false.mp e)
theorem ER.noRef{h:Heap}{es:List DictEntry}{xs:List (Str×AV)}(r:ER h γ es xs):es.any (·.refKey)=false:=by
 induction r with
 |nil=>rfl
 |cons _ _ ih=>rw[List.any_cons,ih];rfl
noncomputable def GetR(h:Heap)(γ:Gh)(o:Option (Option Value))(x:Option AV):Prop:=match x with
 |some x=>∃v,o=some (some v)∧VR h γ v x
 |none=>o=some none
theorem ER.find{h:Heap}{es:List DictEntry}{xs:List (Str×AV)}(r:ER h γ es xs)(name:Str):OptR h γ ((es.find? (·.key.isStr name)).map (·.val)) (look name xs):=by
 induction r with
 |nil=>rfl
 | @cons hsh k t v x es xs a r ih=>
   rw[List.find?_cons]
   show OptR h γ ((match (Value.str k t).isStr name with|true=>some _|false=>_:Option DictEntry).map (·.val)) (match sEq k name with|true=>some x|false=>look name xs)
   rw[key_is]
   cases sEq k name with
   |true=>exact⟨_,rfl,a⟩
   |false=>exact ih
theorem ER.getL{h:Heap}{es:List DictEntry}{xs:List (Str×AV)}(r:ER h γ es xs)(name:Str):GetR h γ (PySem.W.getL name es) (look name xs):=by
 have key:=r.find name
 unfold PySem.W.getL
 cases hl:look name xs with
 |some x=>
  rw[hl]at key
  refine ea11 key fun v e hr=>?_;clear key
  refine ea11 (Option.map_eq_some_iff.mp e) fun d hd e=>?_
  rw[hd]
  exact⟨_,rfl,e▸hr⟩
 |none=>
  rw[hl]at key
  rw[Option.map_eq_none_iff.mp key,r.noRef]
  rfl
theorem instAt{h:Heap}{p:Addr×Addr}{C:Addr}{attrs:List (Str×AV)}(hO:OR prog w h γ p (.inst C attrs)):∃ox es m,PySem.W.InstAt h p.1 ox C (some (PySem.W.dictOf es m))∧ox.dict=some p.2∧es.length≤1000∧ER h γ es attrs∧h.get? p.2=some (PySem.W.dictOf es m):=by
 obtain⟨_,⟨o,ho,hc,hd,hp⟩,es,m,he,hz,r⟩:=hO
 refine⟨o,es,m,⟨ho,hc,?_,?_⟩,hd,hz,r,he⟩
 ·unfold PySem.W.notCls;rw[hp]
 ·rw[hd];exact he
theorem handed_of{h:Heap}{v:Value}{x:AV}(hv:VR h γ v x)(hh:handA x=true):PySem.W.handedIn v=true:=by
 cases hv with
 |fix v=>
  cases v with
  |builtin _=>exact ffNe hh
  |_=>rfl
 |_=>rfl
theorem KinS{h:Heap}(X:K.In base)(R:SR prog w base h γ σ):K.In h:=fun a o e=>R.stays _ _ (X a o e)
theorem SR.inst(R:SR prog w base s.heap γ σ){v:Value}{x:AV}{q:Nat×Addr×List (Str×AV)}(hv:VR s.heap γ v x)(hx:instOf σ x=some q):∃p,v= .ref p.1∧γ[q.1]? =some p∧OR prog w s.heap γ p (.inst q.2.1 q.2.2):=
 have h:=instOf_inv hx
 R.ob (h.1▸hv) h.2
section
variable{v:Value}{x:AV}{q:Nat×Addr×List (Str×AV)}{name:Str}{expr:Bool}(CO:ClsOK K P)(X:K.In base)(R:SR prog w base s.heap γ σ)(hv:VR s.heap γ v x)(hx:instOf σ x=some q)
include CO X R hv hx
theorem attr_own{y:AV}(hl:look name q.2.2=some y)(ha:P.attr q.2.1 name=true)(hh:handA y=true):VDoes prog w base P A fr L s γ σ (getAttr v name expr) (.ok y σ):=by
 refine ea12 (R.inst hv hx) fun p z1=>?_;subst z1;intro hi hO
 refine ea34 (instAt hO) fun ox es m I hd hz r he=>?_
 have hc:=CO.own _ name ha
 have hu:=r.getL name
 rw[hl]at hu
 exact Exists.elim hu fun u hu=> .calm R fun Q E hQ=>PySem.W.get_value (KinS X R) I (CO.ga _ hc.1) (PySem.W.findObj_own (CO.dict _ hc.1) hc.2 rfl hu.1) (handed_of hu.2 hh) (hQ _ _ hu.2)
theorem attr_meth{f:Addr}{g:Fn}(hl:look name q.2.2=none)(hm:P.meth q.2.1 name=some f)(hg:P.fn f=some g):VDoes prog w base P A fr L s γ σ (getAttr v name expr) (Mine.alloc (.meth f x) σ):=by
 refine ea12 (R.inst hv hx) fun p z1=>?_;subst z1;intro hi hO
 refine ea34 (instAt hO) fun ox es m I hd hz r he=>?_
 have hc:=CO.meth _ name f hm
 have ht:=CO.fget f g hg
 have this:=r.getL name
 rw[hl]at this
 have hfo:PySem.W.findObj K q.2.1 (some (PySem.W.dictOf es m)) name=some (.bind (.builtin "function.__get__") (.ref f)):=by
  refine ea11 (PySem.W.any_some (CO.dict _ hc.1)) fun cd hcd hdi=>?_
  unfold PySem.W.findObj
  have ho:PySem.W.ownOf cd (some (PySem.W.dictOf es m)) name=some none:=by unfold PySem.W.ownOf;rw[if_pos hdi];exact this
  rw[hcd,Option.bind_some,hc.2.2,Option.bind_some]
  show(PySem.W.specialIn K (.ref f) "__get__").bind _=_
  rw[ht.1,Option.bind_some]
  show(PySem.W.takesIn K (.ref f)).bind _=_
  rw[ht.2,Option.bind_some]
  show(PySem.W.ownOf cd _ name).bind _=_
  rw[ho,Option.bind_some]
  show(if(PySem.W.copiedNames.contains name&&_)=true then _ else _)=_
  rw[hc.2.1]
  rfl
 have ntm:NT ({cls:= .type "method",data:= .fields #[.ref f,.ref p.1]}:Obj):=NT.cls (by show Value.type "method"≠Value.type "tuple";decide)
 refine VDoes.alloc R fun Q E hQ=>PySem.W.get_bind (KinS X R) I (CO.ga _ hc.1) hfo (CO.gt _ hc.1) (wpAny_call (PySem.W.fn_get (s:={s with toks:=s.toks+1}) (KinS X R) (CO.fn f g hg).1 (PySem.W.handed_on rfl ?_)))
 exact hQ (s.heap.objs.size,s.heap.objs.size) _ _ (push_keeps _ _) (push_none _) (push_none _) ⟨_,Heap.get?_push_size _ rfl,ntm⟩ ⟨_,Heap.get?_push_size _ rfl,ntm⟩ ⟨rfl,.ref p.1,Heap.get?_push_size _ rfl,hv.mono _ (.of_keeps (push_keeps _ _))⟩
end
theorem getMethod_does{v:Value}{x:AV}{q:Nat×Addr×List (Str×AV)}{f:Addr}{name:Str}{g:Fn}{pl:Sem Bool}(CO:ClsOK K P)(X:K.In base)(R:SR prog w base s.heap γ σ)(hv:VR s.heap γ v x)(hx:instOf σ x=some q)(hl:look name q.2.2=none)
 (hm:P.meth q.2.1 name=some f) (hg:P.fn f=some g) {Q:Value×List Value→Shared→Prop} {E:Value→Shared→Prop} (hQ:Q (.ref f,[v]) s):wpAny (model prog w) A (getMethod v name pl) Q E s:=by
 refine ea12 (R.inst hv hx) fun p z1=>?_;subst z1;intro hi hO
 refine ea34 (instAt hO) fun ox es m I hd hz r he=>?_
 have hc:=CO.meth _ name f hm
 have this:=r.getL name
 rw[hl]at this
 refine PySem.W.method_fn (KinS X R) I (CO.ga _ hc.1) (CO.gt _ hc.1) hc.2.2 (CO.fn f g hg).1 ?_ hQ
 show(PySem.W.lookIn name (PySem.W.dictOf es m)).map _=_
 rw[PySem.W.lookIn_dict,show PySem.W.getL name es=some none from this];rfl
theorem ER.put{h:Heap}{es:List DictEntry}{xs:List (Str×AV)}(r:ER h γ es xs)(name:Str)(hsh:Int)(t:Tok){v:Value}{x:AV}(hv:VR h γ v x):ER h γ (PySem.W.putL name hsh (.str name t) v es) (putS name x xs):=by
 induction r with
 |nil=>exact .cons hv .nil
 | @cons hsh' k t' v' x' es xs a r ih=>
   show ER h γ (if(Value.str k t').isStr name=true then _ else _) (cond (sEq k name) _ _)
   rw[key_is]
   cases sEq k name with
   |true=>exact .cons hv r
   |false=>exact .cons a ih
theorem ER.length{h:Heap}{es:List DictEntry}{xs:List (Str×AV)}(r:ER h γ es xs):es.length=xs.length:=by
 induction r with
 |nil=>rfl
 |cons _ _ ih=>simp only [List.length_cons,ih]
theorem putS_length{α:Type}(x:Str)(v:α):∀l:List (Str×α),(putS x v l).length≤l.length+1
 |[]=>Nat.le_refl _
 |p::r=>by
  show(cond (sEq p.1 x) ((p.1,v)::r) (p::putS x v r)).length≤_
  cases sEq p.1 x with
  |true=>exact Nat.le_succ _
  |false=>exact Nat.succ_le_succ (putS_length x v r)
theorem setAttr_does{v u:Value}{o:AV}{q:Nat×Addr×List (Str×AV)}{name:Str}{x:AV}(CO:ClsOK K P)(X:K.In base)(R:SR prog w base s.heap γ σ)(hv:VR s.heap γ v o)(ho':instOf σ o=some q)(ha:P.attr q.2.1 name=true)(hz:q.2.2.length<100)(hu:VR s.heap γ u x):
 Does prog w base P W A fr L s γ σ (setAttr v name u) (.ok () (σ.set q.1 (.inst q.2.1 (putS name x q.2.2))):Out XA Unit) (fun _ _ _ _=>True) id nox:=by
 refine ea12 (R.inst hv ho') fun p z1=>?_;subst z1;intro hi hO
 obtain⟨i,C,attrs⟩:=q
 have ho:=(instOf_inv ho').2
 clear hv ho'
 dsimp only at hi hO ha hz ho ⊢
 refine ea34 (instAt hO) fun ox es m I hd hz' r he=>?_
 have hcn:=CO.own C name ha
 have hc:=hcn.1
 have X':=KinS X R
 have ht:PySem.W.takerIn K C name=some none:=by unfold PySem.W.takerIn;rw[hcn.2];rfl
 refine fun Q E hQ=>PySem.W.set_plain X' I (CO.sa C hc) (PySem.W.osa_open (s:={s with toks:=s.toks+1}) X' I (CO.over C hc) ht fun b=>?_)
 refine ea11 (PySem.W.any_some (CO.dict C hc)) fun cd hcd hdi=>?_
 obtain⟨hx,hcl,hno, -⟩:=I
 obtain⟨oc,odi,oda,osl⟩:=ox
 dsimp only at hcl hd
 subst hcl hd
 refine wpAny_bind (wpAny_pure (wpAny_bind (wpAny_bind (wpAny_loadPart hx (wpAny_bind (PySem.W.looks_clsIn (h:=s.heap) X' hcd _ _ _ _ (fun _ _ e=>e) ?_))))))
 rw[hdi]
 refine wpAny_pure (a:=some p.2) (wpAny_bind (wpAny_pure (wpAny_bind ?_)))
 unfold nsSet
 refine wpAny_bind (wpAny_bind (wpAny_askSetting (wpAny_pure (wpAny_bind (wpAny_mkText (wpAny_bind (wpAny_loadPart he ?_)))))))
 dsimp only
 have hnr:es.toArray.any (·.refKey)=false:=by rw[←Array.any_toList];exact r.noRef
 rw[PySem.aRefKeyMayBeTheName_at,hnr,Bool.and_false]
 refine wpAny_updatePart he ?_
 have hput:=PySem.W.putName_dict name (PyData.keyHash w.params name) (.str name (s.toks+1)) u es m
 have he':(s.heap.update p.2 (Obj.putName name (PyData.keyHash w.params name) (.str name (s.toks+1)) u)).get? p.2=some (PySem.W.dictOf (PySem.W.putL name (PyData.keyHash w.params name) (.str name (s.toks+1)) u es) (PySem.W.putN name es m)):=by
  rw[Heap.get?_update_self _ he (by rw[hput];rfl),hput]
 have hlen:(PySem.W.putL name (PyData.keyHash w.params name) (.str name (s.toks+1)) u es).length≤1000:=by
  rw[(r.put name (PyData.keyHash w.params name) (s.toks+1) hu).length]
  exact Nat.le_trans (putS_length name x attrs) (Nat.le_trans hz (by decide))
 refine wpAny_bind (wpAny_lookBehind he' (pastItsLine_dict (by rw[List.size_toArray,sizeLine_eq];exact Nat.le_trans hlen (by decide))) ?_)
 have hk:TupKeep s.heap (s.heap.update p.2 (Obj.putName name (PyData.keyHash w.params name) (.str name (s.toks+1)) u)):=fun a vs ⟨k,hk⟩=>by
  refine⟨k,(Heap.get?_update_other _ _ ?_).trans hk⟩
  rintro rfl
  rw[he]at hk
  exact absurd (congrArg Obj.cls (Option.some.inj hk)) (show¬(Value.type "dict"=Value.type "tuple") by decide)
 have hp:Post prog w base W (frs fr) s γ σ {s with heap:=s.heap.update p.2 (Obj.putName name (PyData.keyHash w.params name) (.str name (s.toks+1)) u),toks:=s.toks+1+1} γ (σ.set i (.inst C (putS name x attrs))):=by
  refine Post.set R hi ho (by intro e;cases e) (.inr rfl) (But.same (Heap.SameBut.update ..)) (fun o ho'=>by rw[he']at ho';cases ho';exact NT.dict rfl) ⟨_,he',Own.dict rfl⟩
   ⟨hO.1,⟨_,(Heap.get?_update_other _ _ hO.1).trans hx,rfl,rfl,?_⟩,_,_,he',hlen,?_⟩
  ·obtain⟨_,⟨o,ho',_,_,hp⟩,_⟩:=hO
   rw[hx]at ho'
   cases ho';exact hp
  ·have :=(r.put name (PyData.keyHash w.params name) (s.toks+1) hu).mono [] hk
   rwa [List.append_nil]at this
 exact wpAny_pure (hQ () _ γ hp trivial)
end
end Mine
end
section
namespace Mine
open PySem PySem.Calls PySem.Spec PySem.SeqAt PyProof.Rows
theorem KR.app{κ:Type}{h:Heap}{γ:Gh}{vs ws:List (κ×Value)}{xs ys:List (κ×AV)}(a:KR h γ vs xs)(b:KR h γ ws ys):KR h γ (vs++ws) (xs++ys):=by
 induction a with
 |nil=>exact b
 |cons v _ ih=>exact .cons v ih
theorem map_same{κ:Type}[DecidableEq κ](k:κ)(v:Value):∀vs:List (κ×Value),k∉vs.map (·.1)→vs.map (fun kv=>if kv.1=k then(kv.1,v)else kv)=vs
 |[],_=>rfl
 |p::r,h=>by
  simp only [List.map_cons,List.mem_cons,not_or]at h
  rw[List.map_cons,if_neg (fun e=>h.1 e.symm),map_same k v r h.2]
theorem putS_new{α:Type}(k:Str)(x:α):∀xs:List (Str×α),k∉xs.map (·.1)→putS k x xs=xs++[(k,x)]
 |[],_=>rfl
 |p::r,h=>by
  simp only [List.map_cons,List.mem_cons,not_or]at h
  show cond (sEq p.1 k) ((p.1,x)::r) (p::putS k x r)=_
  rw[sEq_false.mpr (fun e=>h.1 e.symm)]
  show p::putS k x r=_
  rw[putS_new k x r h.2];rfl
theorem putI_new{α:Type}(k:Int)(x:α):∀xs:List (Int×α),k∉xs.map (·.1)→putI k x xs=xs++[(k,x)]
 |[],_=>rfl
 |p::r,h=>by
  simp only [List.map_cons,List.mem_cons,not_or]at h
  show cond (decide (p.1=k)) ((p.1,x)::r) (p::putI k x r)=_
  rw[decide_eq_false (fun e=>h.1 e.symm)]
  show p::putI k x r=_
  rw[putI_new k x r h.2];rfl
theorem KR.mapS{h:Heap}{γ:Gh}{k:Str}{v:Value}{x:AV}(hv:VR h γ v x){vs:List (Str×Value)}{xs:List (Str×AV)}(r:KR h γ vs xs)(hn:(vs.map (·.1)).Nodup)(hk:k∈vs.map (·.1)):KR h γ (vs.map fun kv=>if kv.1=k then(kv.1,v)else kv) (putS k x xs):=by
 induction r with
 |nil=>simp at hk
 | @cons k' v' x' vs xs a r ih=>
   simp only [List.map_cons,List.nodup_cons]at hn
   rw[List.map_cons]
   show KR h γ _ (cond (sEq k' k) ((k',x)::xs) ((k',x')::putS k x xs))
   by_cases e:k'=k
   ·subst e
    rw[if_pos rfl,sEq_self,map_same _ _ _ hn.1]
    exact .cons hv r
   ·rw[if_neg e,sEq_false.mpr e]
    simp only [List.map_cons,List.mem_cons]at hk
    exact .cons a (ih hn.2 (hk.resolve_left fun q=>e q.symm))
theorem KR.mapI{h:Heap}{γ:Gh}{k:Int}{v:Value}{x:AV}(hv:VR h γ v x){vs:List (Int×Value)}{xs:List (Int×AV)}(r:KR h γ vs xs)(hn:(vs.map (·.1)).Nodup)(hk:k∈vs.map (·.1)):KR h γ (vs.map fun kv=>if kv.1=k then(kv.1,v)else kv) (putI k x xs):=by
 induction r with
 |nil=>simp at hk
 | @cons k' v' x' vs xs a r ih=>
   simp only [List.map_cons,List.nodup_cons]at hn
   rw[List.map_cons]
   show KR h γ _ (cond (decide (k'=k)) ((k',x)::xs) ((k',x')::putI k x xs))
   by_cases e:k'=k
   ·subst e
    rw[if_pos rfl,decide_eq_true rfl,map_same _ _ _ hn.1]
    exact .cons hv r
   ·rw[if_neg e,decide_eq_false e]
    simp only [List.map_cons,List.mem_cons]at hk
    exact .cons a (ih hn.2 (hk.resolve_left fun q=>e q.symm))
theorem any_key{κ:Type}[DecidableEq κ]{k:κ}{vs:List (κ×Value)}:(vs.any fun kv=>decide (kv.1=k))=true↔k∈vs.map (·.1):=by
 rw[List.any_eq_true,List.mem_map]
 constructor
 ·rintro ⟨x,hx,h⟩;exact⟨x,hx,of_decide_eq_true h⟩
 ·rintro ⟨x,hx,h⟩;exact⟨x,hx,decide_eq_true h⟩
theorem KR.storeS{h:Heap}{γ:Gh}{k:Str}{v:Value}{x:AV}(hv:VR h γ v x){vs:List (Str×Value)}{xs:List (Str×AV)}(r:KR h γ vs xs)(hn:(vs.map (·.1)).Nodup):KR h γ (stored vs k v) (putS k x xs)∧((stored vs k v).map (·.1)).Nodup:=by
 unfold stored
 by_cases hk:k∈vs.map (·.1)
 ·rw[if_pos (any_key.mpr hk)]
  refine⟨r.mapS hv hn hk,?_⟩
  have :(vs.map fun kv=>if kv.1=k then(kv.1,v)else kv).map (·.1)=vs.map (·.1):=by
   rw[List.map_map];congr 1;funext kv;simp only [Function.comp_apply];split<;>rfl
  rw[this];exact hn
 ·rw[if_neg (fun q=>hk (any_key.mp q)),putS_new k x xs (by rw[←r.keys];exact hk)]
  refine⟨r.app (.cons hv .nil),?_⟩
  rw[List.map_append,List.nodup_append]
  refine⟨hn,by simp,fun a ha b hb=>?_⟩
  simp only [List.map_cons,List.map_nil,List.mem_singleton]at hb
  rintro rfl
  rw[hb]at ha;exact hk ha
theorem KR.storeI{h:Heap}{γ:Gh}{k:Int}{v:Value}{x:AV}(hv:VR h γ v x){vs:List (Int×Value)}{xs:List (Int×AV)}(r:KR h γ vs xs)(hn:(vs.map (·.1)).Nodup):KR h γ (stored vs k v) (putI k x xs)∧((stored vs k v).map (·.1)).Nodup:=by
 unfold stored
 by_cases hk:k∈vs.map (·.1)
 ·rw[if_pos (any_key.mpr hk)]
  refine⟨r.mapI hv hn hk,?_⟩
  have :(vs.map fun kv=>if kv.1=k then(kv.1,v)else kv).map (·.1)=vs.map (·.1):=by
   rw[List.map_map];congr 1;funext kv;simp only [Function.comp_apply];split<;>rfl
  rw[this];exact hn
 ·rw[if_neg (fun q=>hk (any_key.mp q)),putI_new k x xs (by rw[←r.keys];exact hk)]
  refine⟨r.app (.cons hv .nil),?_⟩
  rw[List.map_append,List.nodup_append]
  refine⟨hn,by simp,fun a ha b hb=>?_⟩
  simp only [List.map_cons,List.map_nil,List.mem_singleton]at hb
  rintro rfl
  rw[hb]at ha;exact hk ha
theorem merged_cons{κ:Type}[DecidableEq κ](acc:List (κ×Value))(p:κ×Value)(r:List (κ×Value)):merged acc (p::r)=merged (stored acc p.1 p.2) r:=rfl
theorem KR.mergeS{h:Heap}{γ:Gh}{ws:List (Str×Value)}{ys:List (Str×AV)}(b:KR h γ ws ys):∀{vs:List (Str×Value)} {xs:List (Str×AV)},KR h γ vs xs→(vs.map (·.1)).Nodup→KR h γ (merged vs ws) (mergeA ys xs)∧((merged vs ws).map (·.1)).Nodup:=by
 induction b with
 |nil=>intro vs xs r hn;exact⟨r,hn⟩
 | @cons k v x ws ys a _ ih=>
   intro vs xs r hn
   refine ea01 (r.storeS (k:=k) a hn) fun r' hn'=>?_
   exact ih r' hn'
theorem KR.mergeI{h:Heap}{γ:Gh}{ws:List (Int×Value)}{ys:List (Int×AV)}(b:KR h γ ws ys):∀{vs:List (Int×Value)} {xs:List (Int×AV)},KR h γ vs xs→(vs.map (·.1)).Nodup→KR h γ (merged vs ws) (Mine.mergeI ys xs)∧((merged vs ws).map (·.1)).Nodup:=by
 induction b with
 |nil=>intro vs xs r hn;exact⟨r,hn⟩
 | @cons k v x ws ys a _ ih=>
   intro vs xs r hn
   refine ea01 (r.storeI (k:=k) a hn) fun r' hn'=>?_
   exact ih r' hn'
theorem pair_inv{h:Heap}{γ:Gh}{v:Value}{x:AV}{q:Str×AV}(r:VR h γ v x)(e:pairV x=some q):∃a t u,v= .ref a∧PT h a [.str q.1 t,u].toArray∧VR h γ u q.2:=by
 refine ea11 (Option.bind_eq_some_iff.mp e) fun ys h1 e=>?_
 refine ea11 (Option.bind_eq_some_iff.mp e) fun p h2 e=>?_
 refine ea11 (Option.map_eq_some_iff.mp e) fun k h3 e=>?_
 refine ea23 (r.asTup h1) fun a vs e1 ht _ rr=>?_
 refine ea22 (rr.twoInv h2) fun v u z1=>?_;subst z1;intro hv hu
 refine ea10 (hv.asStr h3) fun t z1=>?_;subst z1
 exact⟨a,t,u,e1,e▸ht,e▸hu⟩
theorem pairs_at{h:Heap}{γ:Gh}{vs:List Value}{xs:List AV}(r:VRs h γ vs xs):∀{l:List (Str×AV)},pairsA xs=some l→∃kvs,PairsAt h vs kvs∧KR h γ kvs l:=
 r.ind (p:=fun vs xs=>∀{l:List (Str×AV)},pairsA xs=some l→∃kvs,PairsAt h vs kvs∧KR h γ kvs l) (fun e=>⟨[],.nil,Option.some.inj e▸ .nil⟩) fun a _ ih l e=>by
  refine ea22 (bmap_inv e) fun q l' hq hl e=>?_
  refine ea11 (ih hl) fun kvs hp hk=>?_
  obtain⟨c,t,u,rfl,⟨m,ht⟩,hu⟩:=pair_inv a hq
  exact⟨(q.1,u)::kvs,.cons ht hp,e▸KR.cons hu hk⟩
theorem KR.len{κ:Type}{h:Heap}{γ:Gh}{vs:List (κ×Value)}{xs:List (κ×AV)}(r:KR h γ vs xs):vs.length=xs.length:=by
 induction r with
 |nil=>rfl
 |cons _ _ ih=>rw[List.length_cons,List.length_cons,ih]
theorem PairsAt.len{h:Heap}{vs:List Value}{kvs:List (Str×Value)}(r:PairsAt h vs kvs):kvs.length=vs.length:=by
 induction r with
 |nil=>rfl
 |cons _ _ ih=>rw[List.length_cons,List.length_cons,ih]
section
variable{prog:Program}{w:World}{base:Heap}{P:Prg}{A:Around}{fr:List Env}{L:Addr}{s:Shared}{γ:Gh}{σ:Store}
theorem dict_does'{v:Value}{x:AV}{G B:Addr}(H:Heap0 P base G B)(R:SR prog w base s.heap γ σ)(hh:A.handled=none)(hv:VR s.heap γ v x):VDoes prog w base P A fr L s γ σ (PySem.call (.type "dict") [v]) (dictOfA σ x):=by
 refine Does.opt (fun xs hx=>Does.ofO fun l hl=>?_) fun _=>Does.ofO fun q hq=>dict_copy_does H R hv hq
 obtain⟨t,vs,rfl,⟨m,ht⟩,hb,rr⟩:=hv.asTup hx
 refine ea11 (pairs_at rr hl) fun kvs hp hk=>?_
 refine VDoes.alloc R fun Q E hQ=>dict_pairs_call (kvs:=kvs) hh ht hp (Nat.le_trans hb (by decide)) fun h' tk hk' hd'=>?_
 have hl:∃o,h'.get? s.heap.objs.size=some o∧NT o:=hd'.imp fun o q=>q.elim fun _ q=>q.elim fun _ q=>⟨q.1,NT.dict q.2.2.1⟩
 have hm:=hk.mergeS (KR.nil (h:=s.heap) (γ:=γ)) List.nodup_nil
 have h1:=merged_length_le [] kvs
 rw[List.length_nil,Nat.zero_add,hp.len]at h1
 exact hQ (s.heap.objs.size,s.heap.objs.size) h' tk hk' (push_none _) (push_none _) hl hl ⟨rfl,merged [] kvs,hd',Nat.le_trans h1 hb,hm.1.mono _ (.of_keeps hk')⟩
end
end Mine
end
section
namespace Mine
open PySem PySem.Calls PySem.Spec PySem.SeqAt PyProof.Rows
section
variable{prog:Program}{w:World}{base:Heap}{P:Prg}{W S:List Addr}{A:Around}{fr:List Env}{L:Addr}{s s₁ s₂:Shared}{γ γ₁ γ₂:Gh}{σ σ₁ σ₂:Store}{env:Env}{ρ ρ₁:Mine.Loc}{G B:Addr}{r:Rec}{n:Nat}{sc:Scope}
 {K:PySem.W.Frag}
theorem args_plain{pos:Pos}:∀{es:List Expr},es.any star? =false→(backTo pos (starEach es env)).any (·.1)=false
 |[],_=>rfl
 |e::es,h=>by
  rw[List.any_cons,Bool.or_eq_false_iff]at h
  rw[starEach_cons h.1]
  show(false||(backTo pos (starEach es env)).any (·.1))=false
  rw[args_plain h.2];rfl
theorem callWith_gen{f:Value}{first:List Value}{pos:Pos}{es:List Expr}{k:List AV→Store→Res AV}{Pr:Heap→Prop}(g:Good prog w base P G B r n)(ha:AOK A fr L n)(eo:EnvOK G B L env sc)(I:Inv prog w base fr env s γ σ ρ)(hs:es.any star? =false)
 (rule:∀(Q E:Value→Shared→Prop),wpAny (model prog w) A (evalArgs f true (backTo pos (starEach es env)) []) (fun a s₁=>Pr s₁.heap∧wpAny (model prog w) A (PySem.call f (first ++a.pos) a.kw) Q E s₁) E s→wpAny (model prog w) A (callWith pos f first (backTo pos (starEach es env)) []) Q E s)
 (hp:∀xs s' γ' σ',Post prog w base [] (frs fr) s γ σ s' γ' σ'→k xs σ'≠ .stuck→Pr s'.heap)
 (hc:∀vs xs s' γ' σ',Post prog w base [] (frs fr) s γ σ s' γ' σ'→VRs s'.heap γ' vs xs→VDoes prog w base P A fr L s' γ' σ' (PySem.call f (first ++vs)) (k xs σ')):
 VDoes prog w base P A fr L s γ σ (callWith pos f first (backTo pos (starEach es env)) []) ((evs r sc ρ es σ).bd k):=by
 have hev:=evs_does g ha eo (pos:=pos) es I hs
 have main:∀(Q E:Value→Shared→Prop),wpAny (model prog w) A (spliced (backTo pos (starEach es env))) (fun vs s₁=>Pr s₁.heap∧wpAny (model prog w) A (PySem.call f (first ++vs)) Q E s₁) E s→(es=[]→Pr s.heap∧wpAny (model prog w) A (PySem.call f (first ++[])) Q E s)→
  wpAny (model prog w) A (callWith pos f first (backTo pos (starEach es env)) []) Q E s:=by
  intro Q E h h0
  refine rule Q E ?_
  cases es with
  |nil=>exact evalArgs_nil3 (h0 rfl)
  |cons e rest=>
   rw[List.any_cons,Bool.or_eq_false_iff]at hs
   rw[starEach_cons hs.1]at h ⊢
   exact evalArgs_plain h
 have nil0:es=[]→∀(m':Res AV),(evs r sc ρ es σ).bd k=m'→m'≠ .stuck→VDoes prog w base P A fr L s γ σ (PySem.call f (first ++[])) m'∧Pr s.heap:=by
  rintro rfl m' rfl hm
  exact⟨hc [] [] s γ σ (Post.refl I.sr) .nil,hp [] _ _ _ (Post.refl I.sr) hm⟩
 cases hm:evs r sc ρ es σ with
 |stuck=>trivial
 |exc x σ'=>
  rw[hm]at hev
  refine fun Q E hE=>main Q E (hev _ E hE) fun e=>?_
  subst e
  cases hm
 |ok xs σ'=>
  rw[hm]at hev
  show VDoes prog w base P A fr L s γ σ _ (k xs σ')
  cases hk:k xs σ' with
  |stuck=>trivial
  |ok a σ''=>
   refine fun Q E hQ=>main Q E (hev _ E fun vs s' γ' hp' hr=>⟨hp xs _ _ _ hp' (by rw[hk];intro e;cases e),?_⟩) fun e=>?_
   ·have :=hc vs xs s' γ' σ' hp' hr
    rw[hk]at this
    exact this Q E fun b s'' γ'' hp'' hr'=>hQ b s'' γ'' (hp'.trans hp'') hr'
   ·refine ea01 (nil0 e (.ok a σ'') (by rw[hm];exact hk) (by intro e;cases e)) fun h1 h2=>?_
    exact⟨h2,h1 Q E hQ⟩
  |exc x σ''=>
   refine fun Q E hE=>main Q E (hev _ E fun vs s' γ' hp' hr=>⟨hp xs _ _ _ hp' (by rw[hk];intro e;cases e),?_⟩) fun e=>?_
   ·have :=hc vs xs s' γ' σ' hp' hr
    rw[hk]at this
    exact this Q E fun v s'' γ'' he hr'=>hE v s'' γ'' (he.after hp') hr'
   ·refine ea01 (nil0 e (.exc x σ'') (by rw[hm];exact hk) (by intro e;cases e)) fun h1 h2=>?_
    exact⟨h2,h1 Q E hE⟩
theorem AOK.under_make{C:Addr}{rest:List Value}(h:AOK A fr L (n+1)):AOK (A.under (.builtin "type.__call__" ⟨.ref C::rest,[]⟩)) fr L n:=by
 refine⟨h.frames,h.handled,?_,?_,h.head⟩
 ·exact(Nat.add_right_comm A.depth 1 n:A.depth+1+n=A.depth+n+1)▸h.depth
 ·have e:(Code.builtin "type.__call__" ⟨.ref C::rest,[]⟩).cUnits≤30:=Nat.le_of_ble_eq_true rfl
  have u:A.units+(30*n+30)<9000:=h.units
  refine Nat.lt_of_le_of_lt ?_ u
  show A.units+(Code.builtin "type.__call__" ⟨.ref C::rest,[]⟩).cUnits+30*n≤_
  rw[Nat.add_assoc,Nat.add_comm _ (30*n)]
  exact Nat.add_le_add_left (Nat.add_le_add_left e _) _
theorem noneV_inv{v:AV}(h:noneV v=true):v= .none:=by
 cases v with
 |none=>rfl
 |_=>exact ffNe h
theorem CDoes.chk{c:Code}{b:Bool}{m:Res AV}(h:b=true→CDoes prog w base P A fr L s γ σ c m):CDoes prog w base P A fr L s γ σ c (Mine.chk b m):=by
 cases b with
 |true=>exact h rfl
 |false=>trivial
theorem make_does{C i:Addr}{vs:List Value}{xs:List AV}{f:Fn}(CO:ClsOK K P)(X:K.In base)(g:Good prog w base P G B r n)(ha:AOK A fr L (n+1))(I:Inv0 prog w base fr s γ σ)(hC:P.cls C=true)(hi:P.init C=some i)(hf:P.fn i=some f)(hv:VRs s.heap γ vs xs):
 CDoes prog w base P A fr L s γ σ (.call (.ref C) ⟨vs,[]⟩) ((r.call i (.ob σ.length::xs) (σ++[.inst C []])).bd fun v σ₁=>Mine.chk (noneV v) (.ok (.ob σ.length) σ₁)):=by
 have h0:∀b,s.heap.objs.size≤b→s.heap.get? b=none:=fun b hb=>Heap.get?_none_of_le hb
 generalize hh2:(s.heap.push PySem.W.emptyDict).push (PySem.W.instObj C s.heap.objs.size)=h2
 have k2:∀b o,s.heap.get? b=some o→h2.get? b=some o:=fun b o e=>hh2▸push_keeps _ _ b o (push_keeps _ _ b o e)
 have e1:h2.get? (s.heap.objs.size+1)=some (PySem.W.instObj C s.heap.objs.size):=by
  have :h2.get? (s.heap.push PySem.W.emptyDict).objs.size=some (PySem.W.instObj C s.heap.objs.size):=hh2▸Heap.get?_push_size _ rfl
  rwa [Heap.size_push]at this
 have e2:h2.get? s.heap.objs.size=some PySem.W.emptyDict:=hh2▸push_keeps _ _ _ _ (Heap.get?_push_size _ rfl)
 have core:∀(Q E:Value→Shared→Prop),codeAny (model prog w) (A.under (.builtin "type.__call__" ⟨.ref C::vs,[]⟩)) (.call (.ref i) ⟨.ref (s.heap.objs.size+1)::vs,[]⟩) (PySem.W.InitBack (s.heap.objs.size+1) (wants Q E)) {s with heap:=h2,toks:=s.toks}→codeAny (model prog w) A (.call (.ref C) ⟨vs,[]⟩) (wants Q E) s:=by
  intro Q E h
  subst hh2
  obtain⟨hh,gg,d,t,os⟩:=s
  exact PySem.W.make_core (PySem.W.makes_of (KinS X I.sr) (CO.makes C hC)) (PySem.W.looks_findIn (KinS X I.sr) (CO.init C i hi)) (fun self=>PySem.W.bind_fn (KinS X I.sr) self (CO.fn i f hf).1) (.inl rfl) h
 clear hh2
 have hp:Post prog w base [] (frs fr) s γ σ {s with heap:=h2,toks:=s.toks} (γ++[(s.heap.objs.size+1,s.heap.objs.size)]) (σ++[.inst C []]):=
  Post.push I.sr k2 (h0 _ (Nat.le_succ _)) (h0 _ (Nat.le_refl _)) ⟨_,e1,NT.cls (by intro e;cases e)⟩ ⟨_,e2,NT.dict rfl⟩ ⟨Nat.ne_of_lt (Nat.lt_succ_self _),⟨_,e1,rfl,rfl,rfl⟩,[],0,e2,Nat.zero_le _,.nil⟩
 have hself:VR h2 (γ++[(s.heap.objs.size+1,s.heap.objs.size)]) (.ref (s.heap.objs.size+1)) (.ob σ.length):=VR.of_push I.sr.len
 have hcall:=g.call (A:=A.under (.builtin "type.__call__" ⟨.ref C::vs,[]⟩)) i (.ref (s.heap.objs.size+1)::vs) (.ob σ.length::xs) ha.under_make (I.step hp) (.cons hself (hv.post hp))
 cases hm:r.call i (.ob σ.length::xs) (σ++[.inst C []])with
 |stuck=>trivial
 |exc x σ'=>
  rw[hm]at hcall
  refine fun Q E hE=>core Q E (codeAny_mono (hcall (fun _ _=>False) E fun v s' γ' he=>hE v s' γ' (he.after hp)) fun r s' hr=>?_)
  rcases r with e|(v|_|_|_)<;>first |exact hr|exact hr.elim
 |ok a σ'=>
  rw[hm]at hcall
  refine CDoes.chk fun hn=>?_
  obtain rfl:=noneV_inv hn
  refine fun Q E hQ=>core Q E (codeAny_mono (hcall (fun v s'=>v= .none∧Q (.ref (s.heap.objs.size+1)) s') E fun v s' γ' hp' hv'=>⟨hv'.noneInv,hQ _ s' γ' (hp.trans hp') (hself.post hp')⟩) fun r s' hr=>?_)
  rcases r with e|(v|_|_|_)<;>first |exact hr|exact hr.elim
section
variable{vs:List Value}{xs:List AV}(R:SR prog w base s.heap γ σ)(hh:A.handled=none)(hv:VRs s.heap γ vs xs)
include R hh hv
theorem one_does{f:Value}{m:AV→Res AV}(h:∀{v x},VR s.heap γ v x→VDoes prog w base P A fr L s γ σ (PySem.call f [v]) (m x)):VDoes prog w base P A fr L s γ σ (PySem.call f vs) (Mine.ofO (one? xs) m):=Does.ofO fun x hx=>by
 refine ea11 (hv.oneInv hx) fun v z1=>?_;subst z1;intro hv'
 exact h hv'
theorem builtin_does{id:String}:VDoes prog w base P A fr L s γ σ (PySem.call (.builtin id) vs) (builtinA σ id xs):=by
 refine Does.ite (fun e=>?_) (Does.ite (fun e=>?_) (Does.ite (fun e=>?_) trivial))
 ·exact eq_of_beq e▸one_does R hh hv fun hv=>len_does R hv
 ·refine eq_of_beq e▸Does.ofO fun q hq=>Does.ofO fun T hT=>Does.chk fun hc=>?_
  refine ea22 (hv.twoInv hq) fun v u z1=>?_;subst z1;intro hv hu
  rw[(typeV_inv hT▸hu:VR s.heap γ u (.fix (.type T))).fixInv]
  cases hi:isinstA σ q.1 T with
  |none=>trivial
  |some c=>exact isi_does R hv hc hi
 ·exact eq_of_beq e▸one_does R hh hv fun hv=>sum_does R hh hv
theorem type_does{T:String}(H:Heap0 P base G B):VDoes prog w base P A fr L s γ σ (PySem.call (.type T) vs) (typeA σ T xs):=by
 refine Does.ite (fun e=>?_) (Does.ite (fun e=>?_) (Does.ite (fun e=>?_) (Does.ite (fun e=>?_) trivial)))
 ·exact eq_of_beq e▸one_does R hh hv fun hv=>tuple_does R hv
 ·exact eq_of_beq e▸one_does R hh hv fun hv=>list_does R hv
 ·exact eq_of_beq e▸one_does R hh hv fun hv=>dict_does' H R hh hv
 ·exact eq_of_beq e▸one_does R hh hv fun hv=>int_does R hv
end
theorem AOK.less{m:Nat}(h:AOK A fr L n)(hm:m≤n):AOK A fr L m:=
 ⟨h.frames,h.handled,Nat.lt_of_le_of_lt (Nat.add_le_add_left hm _) h.depth,Nat.lt_of_le_of_lt (Nat.add_le_add_left (Nat.mul_le_mul_left _ hm) _) h.units,h.head⟩
structure Env0(prog:Program)(w:World)(base:Heap)(P:Prg)(G B:Addr)(K:PySem.W.Frag):Prop where
 H:Heap0 P base G B
 X:K.In base
 CO:ClsOK K P
 fnNone:∀a,P.cls a=true→P.fn a=none
 initFn:∀C i,P.init C=some i→∃f,P.fn i=some f
 callNone:True
theorem meth_call{f:Value}{x self:AV}{q:Nat×Addr×AV}(I:Inv0 prog w base fr s γ σ)(hf:VR s.heap γ f x)(hq:methOf σ x=some q):∃p u,f= .ref p∧s.heap.get? p=some {cls:= .type "method",data:= .fields #[.ref q.2.1,u]}∧VR s.heap γ u q.2.2:=by
 have h:=methOf_inv hq
 refine ea13 (I.sr.ob (h.1▸hf) h.2) fun p e _ _ h1=>?_;refine ea11 h1 fun u ho hu=>?_;clear h1
 exact⟨p.1,u,e,ho,hu⟩
theorem apply_does{f:Value}{x:AV}{vs:List Value}{xs:List AV}(Z:Env0 prog w base P G B K)(g:Good prog w base P G B r n)(ha:AOK A fr L (n+1))(I:Inv0 prog w base fr s γ σ)(hf:VR s.heap γ f x)(hv:VRs s.heap γ vs xs):
 VDoes prog w base P A fr L s γ σ (PySem.call f ([]++vs)) (applyA P r x xs σ):=by
 rw[List.nil_append]
 cases x with
 |fix u=>
  rw[hf.fixInv]
  cases u with
  |builtin id=>exact builtin_does I.sr ha.handled hv
  |type T=>exact type_does I.sr ha.handled hv Z.H
  |ref a=>
   show VDoes prog w base P A fr L s γ σ _ (refA P r a xs σ)
   unfold refA
   cases hc:P.cls a with
   |true=>
    refine Does.ofO fun i hi=>?_
    exact(Z.initFn a i hi).elim fun fi hfi=>(make_does Z.CO Z.X g ha I hc hi hfi hv).call
   |false=>exact Does.ofO fun _ _=>(g.call a vs xs (ha.less (Nat.le_succ n)) I hv).call
  |_=>trivial
 |ob i=>
  refine Does.ofO fun q hq=>Does.ofO fun _ _=>?_
  refine ea22 (meth_call (self:= .ob i) I hf hq) fun p u z1=>?_;subst z1;intro ho hu
  have :=g.call q.2.1 (u::vs) (q.2.2::xs) (ha.less (Nat.le_succ n)) I (.cons hu hv)
  cases hm:r.call q.2.1 (q.2.2::xs) σ with
  |stuck=>trivial
  |ok a σ₁=>rw[hm]at this;exact fun Q E hQ=>wpAny_call (PySem.W.method_call ho (this Q E hQ))
  |exc a σ₁=>rw[hm]at this;exact fun Q E hE=>wpAny_call (PySem.W.method_call ho (this Q E fun v s' γ' h=>hE v s' γ' h trivial))
 |_=>trivial
noncomputable def Keeps(prog:Program)(w:World)(f:Value)(h:Heap):Prop:=∃k,(k=Keeper.frame∨k=Keeper.machine∨k=Keeper.boundFrame)∧PySem.W.Looks (model prog w) h (keeperOf f) k
set_option tactic.hygienic true in
theorem fnIn_keep{a:Addr}(h:PySem.W.fnIn K a=true):PySem.W.keepIn K (.ref a)=true:=by
 delta PySem.W.fnIn at h
 delta PySem.W.keepIn
 dsimp only at h ⊢
 generalize K.lookup a=q at h ⊢
 cases q with
 |none=>exact Bool.noConfusion h
 |some o=>
  obtain⟨oc,od,d,sl⟩:=o
  cases d with
  |func c=>rfl
  |_=>exact Bool.noConfusion h
theorem ofO_some{ε α β:Type}{o:Option β}{f:β→Out ε α}(h:Mine.ofO o f≠ .stuck):∃a,o=some a∧f a≠ .stuck:=by
 cases o with
 |none=>exact absurd rfl h
 |some a=>exact⟨a,rfl,h⟩
theorem apply_keeps{f:Value}{x:AV}{xs:List AV}(Z:Env0 prog w base P G B K)(R:SR prog w base s.heap γ σ)(hf:VR s.heap γ f x)(hk:applyA P r x xs σ≠ .stuck):Keeps prog w f s.heap:=by
 cases x with
 |fix u=>
  rw[hf.fixInv]
  cases u with
  |builtin id=>exact⟨.machine,.inr (.inl rfl),PySem.W.Looks.of_pure rfl⟩
  |type T=>exact⟨.machine,.inr (.inl rfl),PySem.W.Looks.of_pure rfl⟩
  |ref a=>
   have hk:refA P r a xs σ≠ .stuck:=hk
   unfold refA at hk
   cases hc:P.cls a with
   |true=>exact PySem.W.keeps_K (Z.CO.keep a hc) _ (KinS Z.X R)
   |false=>
    rw[hc]at hk
    exact(ofO_some hk).elim fun g hg=>PySem.W.keeps_K (fnIn_keep (Z.CO.fn a g hg.1).2) _ (KinS Z.X R)
  |_=>exact absurd rfl hk
 |ob i=>
  refine ea11 (ofO_some hk) fun q hq hk=>?_
  refine ea11 (ofO_some hk) fun g hg _=>?_
  have h:=methOf_inv hq
  refine ea13 (R.ob (h.1▸hf) h.2) fun p e _ _ h1=>?_;refine ea11 h1 fun u ho hu=>?_;clear h1
  exact e▸PySem.W.keeps_M (Z.CO.fn _ g hg).2 _ ⟨ho,KinS Z.X R⟩
 |_=>exact absurd rfl hk
theorem callApply_does{f:Value}{x:AV}{pos:Pos}{es:List Expr}(Z:Env0 prog w base P G B K)(g:Good prog w base P G B r n)(ha:AOK A fr L (n+1))(eo:EnvOK G B L env sc)(I:Inv prog w base fr env s γ σ ρ)(hs:es.any star? =false)(hf:VR s.heap γ f x):
 VDoes prog w base P A fr L s γ σ (callWith pos f [] (backTo pos (starEach es env)) []) ((evs r sc ρ es σ).bd fun vs σ=>applyA P r x vs σ):=by
 refine callWith_gen (Pr:=Keeps prog w f) g (ha.less (Nat.le_succ n)) eo I hs (fun Q E h=>?_) (fun xs s' γ' σ' hp hk=>?_) (fun vs xs s' γ' σ' hp hv=>?_)
 ·exact PySem.W.callWith_of (by rw[args_plain hs];rfl) (fun h x=>x) h
 ·exact apply_keeps Z hp.sr (hf.post hp) hk
 ·exact apply_does Z g ha (I.zero.step hp) (hf.post hp) hv
end
end Mine
end
section
namespace Mine
open PySem PySem.Calls PySem.Spec PySem.SeqAt PyProof.Rows
section
variable{prog:Program}{w:World}{base:Heap}{P:Prg}{W S:List Addr}{A:Around}{fr:List Env}{L:Addr}{s s₁ s₂:Shared}{γ γ₁ γ₂:Gh}{σ σ₁ σ₂:Store}{env:Env}{ρ ρ₁:Mine.Loc}{G B:Addr}{r:Rec}{n:Nat}{sc:Scope}
 {K:PySem.W.Frag}
theorem methodCall_wp{o:Expr}{name:Str}{apos pos:Pos}{ov:Value}{m:Nat}{args:List (Bool×Sem Value)}{Q E:Value→Shared→Prop}(hform:methodCallForm m args []=true)(hl:(apos.endLine==pos.line)=true)
 (h:∀pl,wpAny (model prog w) A (getMethod ov name pl) (fun fx s'=>wpAny (model prog w) A (callWith pos fx.1 fx.2 args []) Q E s') E s):
 wpAny (model prog w) A (methodCall o name apos pos env ov m args []) Q E s:=by
 unfold methodCall
 rw[hform]
 refine wpAny_bind (wpAny_holding (wpAny_mono (h _) (fun fx s' h'=>?_) fun _ _ e=>e))
 obtain⟨f,first⟩:=fx
 have hp:methodCallPos true o env apos pos=pure pos:=by unfold methodCallPos;simp[hl]
 exact wpAny_bind (wpAny_of_eq hp h')
theorem form_ok{pos:Pos}{es:List Expr}(hs:es.any star? =false)(hn:Nat.blt es.length 29=true):methodCallForm (es.length+([]:List Keyword).length) (backTo pos (starEach es env)) (backToKw pos (keywordEach [] env))=true:=by
 have h1:(backTo pos (starEach es env)).all (fun x=> !x.1)=true:=List.all_eq_true.2 fun x hx=>by
  have :=List.any_eq_false.1 (args_plain (env:=env) (pos:=pos) hs) x hx
  cases hb:x.1 with
  |false=>rfl
  |true=>exact absurd hb this
 show(_&&true&&decide (es.length+0+0<30))=true
 rw[h1]
 exact decide_eq_true (Nat.lt_succ_of_lt (Nat.le_of_ble_eq_true hn))
section
variable{o:Expr}{name:Str}{apos pos:Pos}{ov:Value}{x:AV}{es:List Expr}{k:MK}
theorem meth_list{id:String}{q:Nat×List AV}{k:List AV→Store→Res AV}(g:Good prog w base P G B r n)(ha:AOK A fr L n)(eo:EnvOK G B L env sc)(I:Inv prog w base fr env s γ σ ρ)(hs:es.any star? =false)
 (hl:(apos.endLine==pos.line)=true) (hn:Nat.blt es.length 29=true) (hv:VR s.heap γ ov x) (hx:listOf σ x=some q) (hsl:Slot "list" name id) (hty:typeOf (.builtin id)=pure (.type "method_descriptor"))
 (hc:∀{vs ys s' γ' σ'},SR prog w base s'.heap γ' σ'→VR s'.heap γ' ov x→VRs s'.heap γ' vs ys→VDoes prog w base P A fr L s' γ' σ' (PySem.call (.builtin id) (ov::vs)) (k ys σ')):
 VDoes prog w base P A fr L s γ σ (methodCall o name apos pos env ov (es.length+([]:List Keyword).length) (backTo pos (starEach es env)) (backToKw pos (keywordEach [] env))) ((evs r sc ρ es σ).bd k):=by
 obtain⟨p,vs,⟨e,_,⟨m,ho⟩,_⟩⟩:=I.sr.list hv hx
 refine Does.of_wp (t':=callWith pos (.builtin id) [ov] (backTo pos (starEach es env)) []) (fun Q E h=>methodCall_wp (form_ok hs hn) hl fun pl=>e▸getMethod_list_of hsl hty ⟨_,ho,rfl,_,rfl⟩ ⟨_,ho,rfl⟩ (e▸h)) ?_
 exact callWith_gen (Pr:=fun _=>True) g ha eo I hs (fun Q E h=>callWith_builtin (args_plain hs) (wpAny_mono h (fun a s' h'=>h'.2) fun _ _ e=>e)) (fun _ _ _ _ _ _=>trivial) fun vs ys s' γ' σ' hp hv'=>hc hp.sr (hv.post hp) hv'
theorem listMK_inv(h:listMK name=some k):(name=appendS∧k= .app)∨(name=extendS∧k= .ext)∨(name=popS∧k= .pop):=by
 unfold listMK at h
 cases h1:sEq name appendS with
 |true=>rw[h1]at h;exact .inl ⟨(sEq_iff _ _).mp h1,(Option.some.inj h).symm⟩
 |false=>
  rw[h1]at h;dsimp only at h
  cases h2:sEq name extendS with
  |true=>rw[h2]at h;exact .inr (.inl ⟨(sEq_iff _ _).mp h2,(Option.some.inj h).symm⟩)
  |false=>
   rw[h2]at h;dsimp only at h
   cases h3:sEq name popS with
   |true=>rw[h3]at h;exact .inr (.inr ⟨(sEq_iff _ _).mp h3,(Option.some.inj h).symm⟩)
   |false=>rw[h3]at h;exact noneNe h
section
variable{vs:List Value}{xs:List AV}(R:SR prog w base s.heap γ σ)(hv:VR s.heap γ ov x)(hvs:VRs s.heap γ vs xs)
include R hv hvs
theorem app_does:VDoes prog w base P A fr L s γ σ (PySem.call (.builtin "list.append") (ov::vs)) (appA x xs σ):=Does.ofO fun q hq=>Does.ofO fun y hy=>Does.chk fun hb=>by
 refine ea11 (hvs.oneInv hy) fun v z1=>?_;subst z1;intro hv'
 exact append_does R hv hq hb hv'
theorem ext_does:VDoes prog w base P A fr L s γ σ (PySem.call (.builtin "list.extend") (ov::vs)) (extA x xs σ):=Does.ofO fun q hq=>Does.ofO fun y hy=>Does.ofO fun ys hys=>Does.chk fun hb=>by
 refine ea11 (hvs.oneInv hy) fun v z1=>?_;subst z1;intro hv'
 exact extend_does R hv hq hv' hys hb
theorem popA_does:VDoes prog w base P A fr L s γ σ (PySem.call (.builtin "list.pop") (ov::vs)) (popA x xs σ):=Does.ofO fun q hq=>Does.chk fun he=>by
 cases hvs with
 |cons _ _=>exact ffNe he
 |nil=>
  cases hz:q.2.reverse with
  |nil=>trivial
  |cons y zs=>
   refine pop_does R hv hq ?_
   have :=congrArg List.reverse hz
   rwa [List.reverse_reverse,List.reverse_cons]at this
end
theorem meth_does(Z:Env0 prog w base P G B K)(g:Good prog w base P G B r n)(ha:AOK A fr L (n+1))(eo:EnvOK G B L env sc)(I:Inv prog w base fr env s γ σ ρ)(hs:es.any star? =false)
 (hl:(apos.endLine==pos.line)=true) (hn:Nat.blt es.length 29=true) (hv:VR s.heap γ ov x) (hk:methB P σ x name=some k):
 VDoes prog w base P A fr L s γ σ (methodCall o name apos pos env ov (es.length+([]:List Keyword).length) (backTo pos (starEach es env)) (backToKw pos (keywordEach [] env))) ((evs r sc ρ es σ).bd fun vs σ=>methGo r x k vs σ):=by
 have ha:=ha.less (Nat.le_succ n)
 unfold methB at hk
 cases hx:listOf σ x with
 |some q=>
  rw[hx]at hk
  rcases listMK_inv hk with ⟨e,e'⟩|⟨e,e'⟩|⟨e,e'⟩
  ·exact e'▸meth_list g ha eo I hs hl hn hv hx (e▸PySem.F.slot_list_append) PySem.F.type_list_append fun R a b=>app_does R a b
  ·exact e'▸meth_list g ha eo I hs hl hn hv hx (e▸PySem.F.slot_list_extend) PySem.F.type_list_extend fun R a b=>ext_does R a b
  ·exact e'▸meth_list g ha eo I hs hl hn hv hx (e▸PySem.F.slot_list_pop) PySem.F.type_list_pop fun R a b=>popA_does R a b
 |none=>
  rw[hx]at hk
  refine ea11 (Option.bind_eq_some_iff.1 hk) fun q hq hk=>?_
  cases hln:look name q.2.2 with
  |some _=>rw[hln]at hk;exact noneNe hk
  |none=>
   rw[hln]at hk
   refine ea11 (Option.bind_eq_some_iff.1 hk) fun f hf hk=>?_
   refine ea11 (Option.map_eq_some_iff.1 hk) fun fg hfg e=>?_
   subst e
   refine Does.of_wp (t':=callWith pos (.ref f) [ov] (backTo pos (starEach es env)) []) (fun Q E h=>methodCall_wp (form_ok hs hn) hl fun pl=>getMethod_does Z.CO Z.X I.sr hv hq hln hf hfg h) ?_
   refine callWith_gen (Pr:=Keeps prog w (.ref f)) g ha eo I hs (fun Q E h=>PySem.W.callWith_of (by rw[args_plain hs];rfl) (fun h x=>x) h) (fun xs s' γ' σ' hp _=>PySem.W.keeps_K (fnIn_keep (Z.CO.fn f fg hfg).2) _ (KinS Z.X hp.sr)) (fun vs xs s' γ' σ' hp hv'=>?_)
   exact(g.call f (ov::vs) (x::xs) ha (I.zero.step hp) (.cons (hv.post hp) hv')).call
end
end
end Mine
end
section
namespace Mine
open PySem PySem.Calls PySem.Spec PySem.SeqAt PyProof.Rows
section
variable{prog:Program}{w:World}{base:Heap}{P:Prg}{W S:List Addr}{A:Around}{fr:List Env}{L:Addr}{s s₁ s₂:Shared}{γ γ₁ γ₂:Gh}{σ σ₁ σ₂:Store}{env:Env}{ρ ρ₁:Mine.Loc}{G B:Addr}{r:Rec}{n:Nat}{sc:Scope}
 {K:PySem.W.Frag}
theorem Post.slotsOnly{h':Heap}{tk:Tok}(I:Inv0 prog w base fr s γ σ)(x:Heap.SlotsOnly (frs fr) s.heap h'):Post prog w base W (frs fr) s γ σ {s with heap:=h',toks:=tk} γ σ:=by
 have t:TupKeep s.heap h':=fun a vs ⟨m,hm⟩=>by
  refine⟨m,(x.2.1 a fun hb=>?_).trans hm⟩
  refine ea01 (FF.there I.ff a hb) fun _ h3=>?_;refine ea11 h3 fun o ho hO=>?_;clear h3
  rw[hm]at ho;cases ho
  exact hO.2 ⟨rfl,_,_,rfl⟩
 have off:∀p∈γ,p.1∉frs fr∧p.2∉frs fr:=fun p hp=>⟨fun h=>(I.sap _ h p hp).1 rfl,fun h=>(I.sap _ h p hp).2 rfl⟩
 have R:SR prog w base h' γ σ:=by
  refine⟨fun b o e=>(x.2.1 b fun hb=>?_).trans (I.sr.stays b o e),I.sr.len,fun i p o hp ho=>?_,fun p hp=>?_,I.sr.new,I.sr.apart⟩
  ·have :=(FF.there I.ff b hb).1;rw[this]at e;cases e
  ·have f:=off p (List.mem_of_getElem? hp)
   have :=OR.keep (add:=[]) t (fun o e=>(x.2.1 _ f.1).trans e) (fun o e=>(x.2.1 _ f.2).trans e) (I.sr.obj i p o hp ho)
   rwa [List.append_nil]at this
  ·have f:=off p hp
   obtain⟨⟨o1,h1,n1⟩,o2,h2,n2⟩:=I.sr.live p hp
   exact⟨⟨o1,(x.2.1 _ f.1).trans h1,n1⟩,o2,(x.2.1 _ f.2).trans h2,n2⟩
 refine⟨⟨h',tk,_,rfl⟩,⟨[],(List.append_nil _).symm,fun _ h=>nomatch h⟩,fun b o e _ _=>?_,t,fun b o e=>?_,fun _ h=>h,R⟩
 ·by_cases hb:b∈frs fr
  ·refine ea10 (x.2.2 b o e) fun sl e'=>?_
   exact⟨sl,e',fun h=>absurd hb h⟩
  ·exact⟨o.slots,(x.2.1 b hb).trans e,fun _=>rfl⟩
 ·refine ea10 (x.2.2 b o e) fun sl e'=>?_
  exact⟨_,e',fun⟨h1,h2⟩=>⟨h1,h2⟩⟩
noncomputable def Calm(prog:Program)(w:World)(base:Heap)(fr:List Env)(s:Shared)(γ:Gh)(σ:Store)(s':Shared):Prop:=∃W,Post prog w base W (frs fr) s γ σ s' γ σ∧∀b∈W,∀o,s.heap.get? b=some o→¬Own o
theorem Calm.refl(R:SR prog w base s.heap γ σ):Calm prog w base fr s γ σ s:=⟨[],Post.refl R,fun _ h=>nomatch h⟩
theorem Calm.trans(x:Calm prog w base fr s γ σ s₁)(y:Calm prog w base fr s₁ γ σ s₂):Calm prog w base fr s γ σ s₂:=by
 refine ea11 x fun W p hW=>?_;clear x
 refine ea11 y fun V q hV=>?_;clear y
 refine⟨W++V,(p.more fun b h=>List.mem_append.mpr (.inl h)).trans (q.more fun b h=>List.mem_append.mpr (.inr h)),fun b hb o ho hO=>?_⟩
 rcases List.mem_append.mp hb with h|h
 ·exact hW b h o ho hO
 ·refine ea11 (p.dom b o ho) fun o' ho' k=>?_
  exact hV b h o' ho' (k hO)
structure EXK(prog:Program)(w:World)(base:Heap)(P:Prg)(W S:List Addr)(s:Shared)(γ:Gh)(σ:Store)(s':Shared)(γ':Gh)(σ':Store)(e d C:Addr)(x:XA)(mk:Mark):Prop where
 post:Post prog w base W S s γ σ s' γ' σ'
 fly:Fly s.heap s'.heap γ' e d C mk x
 xr:XR P s'.heap γ' C d x
theorem XR.keep{h h':Heap}{γ γ':Gh}{C d:Addr}{x:XA}(r:XR P h γ C d x)(hd:∀o,h.get? d=some o→h'.get? d=some o)(hv:∀u v,VR h γ u v→VR h' γ' u v):XR P h' γ' C d x:=by
 cases x with
 |pf v=>
  refine ea01 r fun hC h1=>?_;clear r;refine ea22 h1 fun m u hn hm hr=>?_;clear h1
  exact⟨hC,m,u,hn.at' hd,hm,hv _ _ hr⟩
 |tf=>
  refine ea01 r fun hC h1=>?_;clear r;refine ea10 h1 fun m hn=>?_;clear h1
  exact⟨hC,m,hn.at' hd⟩
theorem EX.of{e d C:Addr}{x:XA}{mk:Mark}(X:EXK prog w base P W S s γ σ s₁ γ₁ σ₁ e d C x mk)(hm:Mark.ok L mk):EX prog w base P W S L s γ σ s₁ γ₁ σ₁ (.ref e) x:=⟨X.post,e,d,C,mk,rfl,hm,X.fly,X.xr⟩
theorem EXK.traceNew{e d C:Addr}{x:XA}{mk:Mark}(I:Inv0 prog w base fr s γ σ)(X:EXK prog w base P W (frs fr) s γ σ s₁ γ₁ σ₁ e d C x mk)(ha:A.frames=some fr)(hh:∃f r,fr=f::r∧f.frame=some L)(hf:env.frame=some L){head:Value}{b:Bool}
 {Q:Unit→Shared→Prop} {E:Value→Shared→Prop} (hQ:∀s₂,Calm prog w base fr s₁ γ₁ σ₁ s₂→EXK prog w base P W (frs fr) s γ σ s₂ γ₁ σ₁ e d C x (.at L)→Q () s₂):
 wpAny (model prog w) A (do let a←PySem.frameOf env;let pl←entryPlaceOf L b;let t←EntryCells.newEntry head a .none (rawInt L) .none pl;setField (.ref e) 1 t) Q E s₁:=by
 refine ea21 hh fun f rest z1=>?_;clear hh;subst z1;intro hfL
 have I1:=I.step X.post
 obtain⟨hp,⟨⟨vs,sl,he,hsz, -⟩,nE,nD,ed,offE,offD⟩,hx⟩:=X
 have baseNone:∀b,s.heap.get? b=none→base.get? b=none:=fun b hb=>by
  cases q:base.get? b with
  |none=>rfl
  |some o=>have :=I.sr.stays b o q;rw[hb]at this;cases this
 refine wpAny_bind ?_
 have fo:∀(Q:Value→Shared→Prop),(∀h',Heap.SlotsOnly (frs (f::rest)) s₁.heap h'→Q (.ref L) {s₁ with heap:=h'})→wpAny (model prog w) A (PySem.frameOf env) Q E s₁:=by
  intro Q h
  unfold PySem.frameOf
  refine wpAny_bind (wpAny_frameEnvs ha ?_)
  have hdw:((f::rest).dropWhile fun x=>x.frame != env.frame)=f::rest:=by simp[List.dropWhile,hfL,hf]
  rw[hdw]
  unfold frameObject
  refine wpAny_bind (wpAny_bind (wpAny_readyFrames_fun I1.ff.funFrames fun h₁ hs₁=>wpAny_pure ?_))
  rw[hfL]
  exact wpAny_pure (h h₁ hs₁)
 refine fo _ fun h₁ hs₁=>?_
 have p1:Post prog w base W (frs (f::rest)) s₁ γ₁ σ₁ {s₁ with heap:=h₁,toks:=s₁.toks} γ₁ σ₁:=Post.slotsOnly I1 hs₁
 have I2:=I1.step p1
 have eS:e∉frs (f::rest):=fun hm=>by
  refine ea01 (FF.there I.ff e hm) fun _ h4=>?_;refine ea11 h4 fun o ho hO=>?_;clear h4
  rw[nE]at ho;cases ho
 have dS:d∉frs (f::rest):=fun hm=>by
  refine ea01 (FF.there I.ff d hm) fun _ h4=>?_;refine ea11 h4 fun o ho hO=>?_;clear h4
  rw[nD]at ho;cases ho
 have he₁:h₁.get? e=some ⟨.ref C,some d,.fields vs,sl⟩:=(hs₁.2.1 e eS).trans he
 refine wpAny_bind (wpAny_entryPlaceOf fun pl hpl=>?_)
 unfold EntryCells.newEntry newFields
 refine wpAny_bind (wpAny_newObj_type ?_ (hpl.sizeOk5 _ _ _ _ _))
 have hl:([head,Value.ref L,.none,rawInt L,.none]++(if pl.isEmpty then List.replicate 6 Value.none else pl)).toArray[3]? =some (rawInt L):=by simp
 generalize ([head,Value.ref L,.none,rawInt L,.none]++(if pl.isEmpty then List.replicate 6 Value.none else pl)).toArray=tv at hl
 have he₂:(h₁.push {cls:= .type "traceback",dict:=none,data:= .fields tv}).get? e=some ⟨.ref C,some d,.fields vs,sl⟩:=push_keeps _ _ _ _ he₁
 refine wpAny_setField he₂ rfl hsz.1 ?_
 have hTe:h₁.objs.size≠e:=Nat.ne_of_gt (Heap.lt_size he₁)
 have p2:Post prog w base W (frs (f::rest)) {s₁ with heap:=h₁,toks:=s₁.toks} γ₁ σ₁ {s₁ with heap:=h₁.push {cls:= .type "traceback",dict:=none,data:= .fields tv},toks:=s₁.toks} γ₁ σ₁:=Post.keeps I2.sr (push_keeps _ _)
 have I3:=I2.step p2
 let h3:=(h₁.push {cls:= .type "traceback",dict:=none,data:= .fields tv}).update e (Obj.mapFields (·.setIfInBounds 1 (.ref h₁.objs.size)))
 have he₃:h3.get? e=some ⟨.ref C,some d,.fields (vs.setIfInBounds 1 (.ref h₁.objs.size)),sl⟩:=Heap.get?_update_self _ he₂ rfl
 have p3:Post prog w base [e] (frs (f::rest)) {s₁ with heap:=h₁.push {cls:= .type "traceback",dict:=none,data:= .fields tv},toks:=s₁.toks} γ₁ σ₁ {s₁ with heap:=h3,toks:=s₁.toks} γ₁ σ₁:=by
  refine Post.other I3.sr (But.same (Heap.SameBut.update ..)) (baseNone e nE) offE (fun o ho=>?_) ⟨_,he₃,fun⟨o,ho,hO⟩=>?_⟩ (.head _)
  ·rw[he₂]at ho;cases ho;exact fun e=>by cases e.1
  ·rw[he₂]at ho;cases ho;exact absurd rfl (hO.1 vs)
 have p12:=(hp.trans p1).trans p2
 have pAll:Post prog w base W (frs (f::rest)) s γ σ {s₁ with heap:=h3,toks:=s₁.toks} γ₁ σ₁:=p12.then p3 fun b hb _=>by rw[List.mem_singleton.mp hb];exact nE
 have kd:∀o,s₁.heap.get? d=some o→h3.get? d=some o:=fun o ho=>
  (Heap.get?_update_other _ _ ed).trans (push_keeps _ _ _ _ ((hs₁.2.1 d dS).trans ho))
 have pC:Post prog w base [e] (frs (f::rest)) s₁ γ₁ σ₁ {s₁ with heap:=h3,toks:=s₁.toks} γ₁ σ₁:=((Post.slotsOnly I1 hs₁).trans (Post.keeps I2.sr (push_keeps _ _))).trans p3
 refine hQ _ ⟨[e],pC,fun b hb o ho hO=>by rw[List.mem_singleton.mp hb,he]at ho;cases ho;exact hO.1 _ rfl⟩ ⟨pAll,⟨⟨_,sl,he₃,hsz.set1 _,h₁.objs.size,_,tv,by simp[hsz.1],hTe,?_,?_,?_,(Heap.get?_update_other _ _ (Ne.symm hTe)).trans (Heap.get?_push_size _ rfl),rfl,hl⟩,nE,nD,ed,offE,offD⟩,hx.keep kd fun u v hv=>?_⟩
 ·intro e'
  obtain hd':∃o,s₁.heap.get? d=some o:=by
   cases x with
   |pf v=>obtain⟨_,m,u,⟨o,_,_,ho,_⟩,_⟩:=hx;exact⟨o,ho⟩
   |tf=>obtain⟨_,m,⟨o,_,_,ho,_⟩⟩:=hx;exact⟨o,ho⟩
  refine ea10 hd' fun o ho=>?_;clear hd'
  have :=Heap.lt_size ((hs₁.2.1 d dS).trans ho)
  rw[e']at this
  exact Nat.lt_irrefl _ this
 ·exact(hp.trans p1).dom1 (push_none _)
 ·intro p hp'
  obtain⟨⟨o1,h1,_⟩,o2,h2,_⟩:=I2.sr.live p hp'
  exact⟨Nat.ne_of_gt (Heap.lt_size h1),Nat.ne_of_gt (Heap.lt_size h2)⟩
 ·exact((hv.post p1).post p2).post p3
theorem EXK.mark{e d C:Addr}{x:XA}{mk mk':Mark}{v:Value}(I:Inv0 prog w base fr s γ σ)(X:EXK prog w base P W (frs fr) s γ σ s₁ γ₁ σ₁ e d C x mk)(hm:mk≠ .fresh)(hm':mk'≠ .fresh)(hv:mk'.val=v):
 ∃T o ts vs sl,s₁.heap.get? e=some ⟨.ref C,some d,.fields vs,sl⟩∧vs[1]? =some (.ref T)∧s₁.heap.get? T=some o∧o.data= .fields ts∧ts[3]? =some mk.val∧3<ts.size∧
  Calm prog w base fr s₁ γ₁ σ₁ {s₁ with heap:=s₁.heap.update T (Obj.mapFields (·.setIfInBounds 3 v))}∧
  EXK prog w base P W (frs fr) s γ σ {s₁ with heap:=s₁.heap.update T (Obj.mapFields (·.setIfInBounds 3 v))} γ₁ σ₁ e d C x mk':=by
 have I1:=I.step X.post
 obtain⟨hp,⟨⟨vs,sl,he,hsz,hb⟩,nE,nD,ed,offE,offD⟩,hx⟩:=X
 have baseNone:∀b,s.heap.get? b=none→base.get? b=none:=fun b hb=>by
  cases q:base.get? b with
  |none=>rfl
  |some o=>have :=I.sr.stays b o q;rw[hb]at this;cases this
 have hb':∃T o ts,vs[1]? =some (.ref T)∧T≠e∧T≠d∧s.heap.get? T=none∧(∀p∈γ₁,T≠p.1∧T≠p.2)∧s₁.heap.get? T=some o∧o.data= .fields ts∧ts[3]? =some mk.val:=by
  cases mk with
  |fresh=>exact absurd rfl hm
  |off=>exact hb
  |«at» L'=>exact hb
 refine ea35 hb' fun T o ts h1 hTe hTd nT offT h2=>?_;clear hb';refine ea02 h2 fun hT hd h3=>?_;clear h2
 have hz:3<ts.size:=(Array.getElem?_eq_some_iff.mp h3).1
 refine⟨T,o,ts,vs,sl,he,h1,hT,hd,h3,hz,?_⟩
 have hd3:=Obj.data_mapFields hd (·.setIfInBounds 3 v)
 have hT3:=Heap.get?_update_self (Obj.mapFields (·.setIfInBounds 3 v)) hT (Obj.isFreed_of_fields hd3)
 have p3:Post prog w base [T] (frs fr) s₁ γ₁ σ₁ {s₁ with heap:=s₁.heap.update T (Obj.mapFields (·.setIfInBounds 3 v)),toks:=s₁.toks} γ₁ σ₁:=by
  refine Post.other I1.sr (But.same (Heap.SameBut.update ..)) (baseNone T nT) offT (fun o' ho=>?_) ⟨_,hT3,fun⟨o',ho,hO⟩=>?_⟩ (.head _)
  ·rw[hT]at ho;cases ho;exact fun e=>by refine ea01 e fun _ h2=>?_;clear e;refine ea20 h2 fun xs n e=>?_;clear h2;rw[hd]at e;cases e
  ·rw[hT]at ho;cases ho;exact absurd hd (hO.1 ts)
 refine⟨⟨[T],p3,fun b hb o' ho hO=>by rw[List.mem_singleton.mp hb,hT]at ho;cases ho;exact hO.1 _ hd⟩,hp.then p3 fun b hb _=>by rw[List.mem_singleton.mp hb];exact nT,⟨⟨vs,sl,(Heap.get?_update_other _ _ hTe).trans he,hsz,?_⟩,nE,nD,ed,offE,offD⟩,hx.keep (fun o ho=>(Heap.get?_update_other _ _ hTd).trans ho) fun u v hv=>hv.post p3⟩
 have fin:∃T2 o ts,vs[1]? =some (.ref T2)∧T2≠e∧T2≠d∧s.heap.get? T2=none∧(∀p∈γ₁,T2≠p.1∧T2≠p.2)∧(s₁.heap.update T (Obj.mapFields (·.setIfInBounds 3 v))).get? T2=some o∧o.data= .fields ts∧ts[3]? =some mk'.val:=by
  refine⟨T,_,_,h1,hTe,hTd,nT,offT,hT3,hd3,?_⟩
  rw[hv];simp[hz]
 cases mk' with
 |fresh=>exact absurd rfl hm'
 |off=>exact fin
 |«at» L'=>exact fin
noncomputable def flMark:Option Addr→Mark
 |none=> .off
 |some L=> .at L
theorem EXK.flight{e d C:Addr}{x:XA}{mk:Mark}{f:Option Addr}(I:Inv0 prog w base fr s γ σ)(X:EXK prog w base P W (frs fr) s γ σ s₁ γ₁ σ₁ e d C x mk)(hm:mk≠ .fresh){Q:Unit→Shared→Prop}{E:Value→Shared→Prop}
 (hQ:∀s₂ mk',(mk'=flMark f)→Calm prog w base fr s₁ γ₁ σ₁ s₂→EXK prog w base P W (frs fr) s γ σ s₂ γ₁ σ₁ e d C x mk'→Q () s₂):wpAny (model prog w) A (setFlight (.ref e) f) Q E s₁:=by
 have key:∃T o ts vs sl,s₁.heap.get? e=some ⟨.ref C,some d,.fields vs,sl⟩∧vs[1]? =some (.ref T)∧s₁.heap.get? T=some o∧o.data= .fields ts∧3<ts.size∧
  Calm prog w base fr s₁ γ₁ σ₁ {s₁ with heap:=s₁.heap.update T (Obj.mapFields (·.setIfInBounds 3 (f.elim .none fun f=>rawInt f)))}∧
  EXK prog w base P W (frs fr) s γ σ {s₁ with heap:=s₁.heap.update T (Obj.mapFields (·.setIfInBounds 3 (f.elim .none fun f=>rawInt f)))} γ₁ σ₁ e d C x (flMark f):=by
  cases f with
  |none=>
   refine ea55 (EXK.mark (mk':= .off) (v:= .none) I X hm (by intro e;cases e) rfl) fun T o ts vs sl he h1 hT hd _ h2=>?_;refine ea02 h2 fun hz c X'=>?_;clear h2
   exact⟨T,o,ts,vs,sl,he,h1,hT,hd,hz,c,X'⟩
  |some L=>
   refine ea55 (EXK.mark (mk':= .at L) (v:=rawInt L) I X hm (by intro e;cases e) rfl) fun T o ts vs sl he h1 hT hd _ h2=>?_;refine ea02 h2 fun hz c X'=>?_;clear h2
   exact⟨T,o,ts,vs,sl,he,h1,hT,hd,hz,c,X'⟩
 refine ea55 key fun T o ts vs sl he h1 hT hd hz h2=>?_;clear key;refine ea01 h2 fun c X'=>?_;clear h2
 unfold setFlight
 refine wpAny_bind (wpAny_field he rfl h1 ?_)
 rw[if_pos (show(Value.ref T != Value.none)=true from by simp)]
 exact wpAny_setField hT hd hz (hQ _ _ rfl c X')
theorem EXK.note{e d C:Addr}{x:XA}{mk:Mark}(I:Inv0 prog w base fr s γ σ)(X:EXK prog w base P W (frs fr) s γ σ s₁ γ₁ σ₁ e d C x mk)(hm:Mark.ok L mk)(ha:A.frames=some fr)(hh:∃f r,fr=f::r∧f.frame=some L)(hf:env.frame=some L)
 {Q:Unit→Shared→Prop} {E:Value→Shared→Prop} (hQ:∀s₂,Calm prog w base fr s₁ γ₁ σ₁ s₂→EXK prog w base P W (frs fr) s γ σ s₂ γ₁ σ₁ e d C x (.at L)→Q () s₂):wpAny (model prog w) A (noteFrame (.ref e) env) Q E s₁:=by
 unfold noteFrame
 simp only [hf]
 cases mk with
 |fresh=>
  refine ea22 (X.fly.obj) fun vs sl he hsz h1=>?_
  refine wpAny_bind (wpAny_field he rfl h1 ?_)
  rw[if_neg (by decide)]
  exact EXK.traceNew I X ha hh hf hQ
 |off=>
  refine ea55 (EXK.mark (mk':= .off) (v:= .none) I X (by intro e;cases e) (by intro e;cases e) rfl) fun T o ts vs sl he h1 hT hd h3 h2=>?_;refine ea02 h2 fun hz c X'=>?_;clear h2
  refine wpAny_bind (wpAny_field he rfl h1 ?_)
  rw[if_pos (show(Value.ref T != Value.none)=true from by simp)]
  refine wpAny_bind (wpAny_field hT hd h3 ?_)
  rw[if_neg (show¬((Mark.off.val==rawInt L)=true)from Bool.false_ne_true)]
  exact wpAny_bind (wpAny_setField hT hd hz (EXK.traceNew I X' ha hh hf fun s₂ c2 X2=>hQ s₂ (c.trans c2) X2))
 |«at» L'=>
  have :L'=L:=hm
  subst this
  refine ea55 (EXK.mark (mk':= .off) (v:= .none) I X (by intro e;cases e) (by intro e;cases e) rfl) fun T o ts vs sl he h1 hT hd h3 h2=>?_;refine ea02 h2 fun hz c X'=>?_;clear h2
  refine wpAny_bind (wpAny_field he rfl h1 ?_)
  rw[if_pos (show(Value.ref T != Value.none)=true from by simp)]
  refine wpAny_bind (wpAny_field hT hd h3 ?_)
  rw[if_pos (show((Mark.at L').val==rawInt L')=true from beq_self_eq_true (rawInt L'))]
  exact wpAny_pure (hQ _ (Calm.refl X.post.sr) X)
theorem EX.noted{v:Value}{x:XA}(I:Inv0 prog w base fr s γ σ)(X:EX prog w base P W (frs fr) L s γ σ s₁ γ₁ σ₁ v x)(ha:A.frames=some fr)(hh:∃f r,fr=f::r∧f.frame=some L)(hf:env.frame=some L){R:Value→Shared→Prop}
 (hQ:∀s₂ e d C,v= .ref e→Calm prog w base fr s₁ γ₁ σ₁ s₂→EXK prog w base P W (frs fr) s γ σ s₂ γ₁ σ₁ e d C x (.at L)→R v s₂):notedBy (model prog w) A env R v s₁:=by
 refine ea01 X fun hp h1=>?_;clear X;refine ea43 h1 fun e d C mk z1=>?_;clear h1;subst z1;intro hm hfl hx
 exact EXK.note I ⟨hp,hfl,hx⟩ hm ha hh hf fun s₂ c X'=>hQ s₂ e d C rfl c X'
theorem EXK.back{e d C:Addr}{x:XA}{mk:Mark}(I:Inv0 prog w base fr s γ σ)(X:EXK prog w base P W (frs fr) s γ σ s₁ γ₁ σ₁ e d C x mk)(hm:mk≠ .fresh)(hf:env.frame=some L){R:Value→Shared→Prop}
 (hQ:∀s₂,Calm prog w base fr s₁ γ₁ σ₁ s₂→EX prog w base P W (frs fr) L s γ σ s₂ γ₁ σ₁ (.ref e) x→R (.ref e) s₂):cameBackBy (model prog w) A env R (.ref e) s₁:=by
 refine ea55 (EXK.mark (mk':= .off) (v:= .none) I X hm (by intro e;cases e) rfl) fun T o ts vs sl he h1 hT hd h3 h2=>?_;refine ea02 h2 fun hz _ X'=>?_;clear h2
 unfold cameBackBy
 refine wpAny_bind (wpAny_field he rfl h1 ?_)
 rw[if_neg (show¬((Value.ref T==Value.none)=true)from by simp)]
 rw[hf]
 refine EXK.flight I X hm fun s₂ mk' e' c X2=>hQ s₂ c (EX.of X2 ?_)
 rw[e'];exact rfl
end
end Mine
end
section
namespace Mine
open PySem PySem.Calls PySem.Spec PySem.SeqAt PyProof.Rows
noncomputable def ButL(F:List Addr)(h h':Heap):Prop:=∀b o,b∉F→h.get? b=some o→h'.get? b=some o
section
variable(prog:Program)(w:World)(base:Heap)(A:Around)(fr:List Env)(target:Expr)(it:Value)(F:List Addr)(xs:List AV)
structure Turns(St:Nat→Shared→Gh→Store→Prop):Prop where
 foot:∀i s γ σ,St i s γ σ→∀b∈F,base.get? b=none∧(∀p∈γ,b≠p.1∧b≠p.2)∧b∉frs fr∧∃o,s.heap.get? b=some o∧∃vs,o.data= .fields vs
 step:∀i s γ σ s' γ' σ' W,SR prog w base s.heap γ σ→St i s γ σ→Post prog w base W (frs fr) s γ σ s' γ' σ'→(∀b∈W,b∉F∧∀p∈γ,b≠p.1∧b≠p.2)→St i s' γ' σ'
 next:∀i (s:Shared) γ σ x (Q:Value→Shared→Prop) (E:Value→Shared→Prop),SR prog w base s.heap γ σ→St i s γ σ→xs[i]? =some x→
  (∀v s₂,Post prog w base F (frs fr) s γ σ s₂ γ σ→St (i+1) s₂ γ σ→VR s₂.heap γ v x→Q v s₂)→
  wpAny (model prog w) A (pyNext it) (fun r s₁=>∃v,r=some v∧wpAny (model prog w) A (letOwnedTupleGo target it v) (fun _ s₂=>Q v s₂) E s₁) E s
 stop:∀i (s:Shared) γ σ (Q:Option Value→Shared→Prop) (E:Value→Shared→Prop),SR prog w base s.heap γ σ→St i s γ σ→xs[i]? =none→
  (∀h' tk,ButL F s.heap h'→Q none {s with heap:=h',toks:=tk})→wpAny (model prog w) A (pyNext it) Q E s
end
section
variable{prog:Program}{w:World}{base:Heap}{P:Prg}{W S:List Addr}{A:Around}{fr:List Env}{L:Addr}{s s₁ s₂:Shared}{γ γ₁ γ₂:Gh}{σ σ₁ σ₂:Store}{env:Env}{ρ ρ₁:Mine.Loc}{G B:Addr}{r:Rec}{n:Nat}{sc:Scope}
 {K:PySem.W.Frag}
noncomputable def Foot(base:Heap)(fr:List Env)(γ:Gh)(b:Addr):Prop:=base.get? b=none∧(∀p∈γ,b≠p.1∧b≠p.2)∧b∉frs fr
theorem Foot.post{b:Addr}{o:Obj}(x:Post prog w base W S s γ σ s₁ γ₁ σ₁)(h:Foot base fr γ b)(ho:s.heap.get? b=some o):Foot base fr γ₁ b:=⟨h.1,x.apart ho h.2.1,h.2.2⟩
theorem Foot.keep{b:Addr}{o:Obj}(x:Post prog w base W (frs fr) s γ σ s₁ γ₁ σ₁)(h:Foot base fr γ b)(hw:b∉W)(ho:s.heap.get? b=some o):s₁.heap.get? b=some o:=by
 obtain⟨sl,e,hs⟩:=x.ext b o ho hw (fun⟨i,p,hi,hb,_⟩=>by
  have :=h.2.1 p (List.mem_of_getElem? hi)
  rcases hb with rfl|rfl
  ·exact this.1 rfl
  ·exact this.2 rfl)
 have :=hs h.2.2
 rw[this]at e;exact e
theorem Foot.new(I:Inv0 prog w base fr s γ σ){b:Addr}(h:s.heap.get? b=none):Foot base fr γ b:=by
 refine⟨?_,fun p hp=>?_,fun hb=>?_⟩
 ·cases q:base.get? b with
  |none=>rfl
  |some o=>have :=I.sr.stays b o q;rw[h]at this;cases this
 ·obtain⟨⟨o1,h1,_⟩,o2,h2,_⟩:=I.sr.live p hp
  refine⟨?_,?_⟩<;>rintro rfl
  ·rw[h]at h1;cases h1
  ·rw[h]at h2;cases h2
 ·refine ea01 (FF.there I.ff b hb) fun _ h3=>?_;refine ea11 h3 fun o ho _=>?_;clear h3
  rw[h]at ho;cases ho
theorem Foot.change{b:Addr}{h':Heap}{tk:Tok}{o o':Obj}{vs:Array Value}(R:SR prog w base s.heap γ σ)(h:Foot base fr γ b)(ho:s.heap.get? b=some o)(hd:o.data= .fields vs)(ho':h'.get? b=some o')(hs:But b s.heap h')(hw:b∈W):
 Post prog w base W S s γ σ {s with heap:=h',toks:=tk} γ σ:=by
 refine Post.other R hs h.1 h.2.1 (fun o1 h1=>?_) ⟨_,ho',fun⟨o1,h1,hO⟩=>?_⟩ hw
 ·rw[ho]at h1;cases h1;exact fun e=>by refine ea01 e fun _ h2=>?_;clear e;refine ea20 h2 fun xs n e=>?_;clear h2;rw[hd]at e;cases e
 ·rw[ho]at h1;cases h1;exact absurd hd (hO.1 vs)
theorem letOwned_plain{target:Expr}{I T:Addr}{o:Obj}{n:String}{v:Value}{Q:Unit→Shared→Prop}{E:Value→Shared→Prop}(ho:s.heap.get? I=some o)(hc:o.cls= .type n)
 (hn:["enumerate","zip","dict_itemiterator","dict_reverseitemiterator","odict_iterator","itertools.zip_longest","itertools.pairwise"].contains n=false) (h:Q () s):wpAny (model prog w) A (letOwnedTupleGo target (.ref I) v) Q E s:=by
 obtain⟨cls,dd,data,sl⟩:=o
 simp only at hc
 subst hc
 unfold letOwnedTupleGo
 have body:∀(v:Value),wpAny (model prog w) A (do
  let (.ref r,.ref a):=(Value.ref I,v)|return
  let o←load r
  match o.cls,o.data with
  | .type n,.fields vs=>
    if["enumerate","zip","dict_itemiterator","dict_reverseitemiterator","odict_iterator","itertools.zip_longest","itertools.pairwise"].contains n&&vs[0]? ==some (rawInt a)then
     rule "for.unpacks-the-owned-tuple"
     updateField r 0 .none
  |_,_=>pure ()) Q E s:=by
  intro v
  cases v with
  |ref a=>
   refine wpAny_bind (wpAny_load ho ?_)
   dsimp only
   cases data with
   |fields vs=>dsimp only;rw[hn];exact wpAny_pure h
   |_=>exact wpAny_pure h
  |_=>exact wpAny_pure h
 cases target with
 |Tuple=>exact body v
 |List=>exact body v
 |_=>exact wpAny_pure h
theorem turns_tuple{target:Expr}{t I:Addr}{vs:List Value}{xs:List AV}(hh:A.handled=none)(hne:t≠I):Turns prog w base A fr target (.ref I) [I] xs
 (fun i s γ _=>Foot base fr γ I∧PT s.heap t vs.toArray∧VRs s.heap γ vs xs∧s.heap.IsTupleIter I t i) where
 foot:=fun i s γ σ ⟨hf,_,_,⟨o,ho,_,hd⟩⟩ b hb=>by rw[List.mem_singleton.mp hb];exact⟨hf.1,hf.2.1,hf.2.2,o,ho,_,hd⟩
 step:=fun i s γ σ s' γ' σ' W R ⟨hf,ht,hr,⟨o,ho,hc,hd⟩⟩ x hw=>⟨hf.post x ho,x.tup _ _ ht,hr.post x,o,hf.keep x (fun h=>(hw I h).1 (.head _)) ho,hc,hd⟩
 next:=fun i s γ σ x Q E R ⟨hf,ht,hr,hI⟩ hx h=>by
  refine ea11 (hr.get hx) fun v hv hvr=>?_
  refine ea12 (id hI) fun o ho hc hd=>?_
  refine wpAny_pyNext_tuple_item (x:=v) hI ht.is (by simpa using hv) fun h' hI' hs=>⟨v,rfl,?_⟩
  refine ea12 (id hI') fun o' ho' hc' hd'=>?_
  have hp:Post prog w base [I] (frs fr) s γ σ {s with heap:=h',toks:=s.toks} γ σ:=Foot.change R hf ho hd ho' (But.same hs) (.head _)
  refine letOwned_plain (T:=0) (s:={s with heap:=h'}) ho' hc' (by decide) (h v _ hp ⟨hf,hp.tup _ _ ht,hr.post hp,hI'⟩ (hvr.post hp))
 stop:=fun i s γ σ Q E R ⟨hf,ht,hr,hI⟩ hx h=>by
  refine ea12 (id hI) fun o ho hc hd=>?_
  have hn:vs.toArray[i]? =none:=by
   rw[List.getElem?_toArray,List.getElem?_eq_none_iff,hr.length,←List.getElem?_eq_none_iff];exact hx
  exact wpAny_pyNext_tuple_end hh hI ht.is hn fun h' hs=>h h' s.toks fun b o hb e=>hs b o (fun q=>hb (by rw[q];exact .head _)) e
theorem notMut{k:Nat}{p:Addr×Addr}{h:Heap}(R:SR prog w base h γ σ)(hk:γ[k]? =some p)(hf:σ[k]? =some .frozen):¬Mut γ σ p.1:=by
 rintro ⟨j,q,hj,hb,hn⟩
 by_cases e:j=k
 ·subst e;exact hn hf
 ·have :=R.apart j k q p hj hk e
  rcases hb with hb|hb
  ·exact this.1 hb.symm
  ·exact this.2.2.1 hb.symm
theorem turns_list{target:Expr}{k:Nat}{p:Addr×Addr}{I:Addr}{vs:List Value}{xs:List AV}(hh:A.handled=none)(hne:p.1≠I)(hS:p.1∉frs fr):Turns prog w base A fr target (.ref I) [I] xs
 (fun i s γ σ=>Foot base fr γ I∧(γ[k]? =some p∧σ[k]? =some .frozen∧s.heap.PlainList p.1 vs.toArray)∧VRs s.heap γ vs xs∧s.heap.IsListIter I p.1 i) where
 foot:=fun i s γ σ ⟨hf,_,_,⟨o,ho,_,hd⟩⟩ b hb=>by rw[List.mem_singleton.mp hb];exact⟨hf.1,hf.2.1,hf.2.2,o,ho,_,hd⟩
 step:=fun i s γ σ s' γ' σ' W R ⟨hf,⟨hk,hz,m,hl⟩,hr,⟨o,ho,hc,hd⟩⟩ x hw=>by
  refine⟨hf.post x ho,⟨?_,x.frz _ hz,m,?_⟩,hr.post x,o,hf.keep x (fun h=>(hw I h).1 (.head _)) ho,hc,hd⟩
  ·refine ea11 (x.pre) fun add z1=>?_;subst z1;intro _;exact get_pre hk
  ·by_cases hW:p.1∈W
   ·exact absurd rfl ((hw _ hW).2 p (List.mem_of_getElem? hk)).1
   ·refine ea11 (x.ext _ _ hl hW (notMut R hk hz)) fun sl e hs=>?_
    rw[hs hS]at e;exact e
 next:=fun i s γ σ x Q E R ⟨hf,⟨hk,hz,hl⟩,hr,hI⟩ hx h=>by
  refine ea11 (hr.get hx) fun v hv hvr=>?_
  refine ea12 (id hI) fun o ho hc hd=>?_
  refine wpAny_pyNext_list_item (x:=v) hI hl.isList (by simpa using hv) fun h' hI' hs=>⟨v,rfl,?_⟩
  refine ea12 (id hI') fun o' ho' hc' hd'=>?_
  have hp:Post prog w base [I] (frs fr) s γ σ {s with heap:=h',toks:=s.toks} γ σ:=Foot.change R hf ho hd ho' (But.same hs) (.head _)
  refine letOwned_plain (T:=0) (s:={s with heap:=h'}) ho' hc' (by decide) (h v _ hp ⟨hf,⟨hk,hz,hl.at fun o e=>(hs.2 _ hne).trans e⟩,hr.post hp,hI'⟩ (hvr.post hp))
 stop:=fun i s γ σ Q E R ⟨hf,⟨hk,hz,hl⟩,hr,hI⟩ hx h=>by
  have hn:vs.toArray[i]? =none:=by
   rw[List.getElem?_toArray,List.getElem?_eq_none_iff,hr.length,←List.getElem?_eq_none_iff];exact hx
  exact wpAny_pyNext_list_end hh hI hl.isList hn fun h' hs=>h h' s.toks fun b o hb e=>hs b o (fun q=>hb (by rw[q];exact .head _)) e
end
end Mine
end
section
namespace Mine
open PySem PySem.Calls PySem.Spec PySem.SeqAt PyProof.Rows
section
variable{prog:Program}{w:World}{A:Around}{E:Value→Shared→Prop}{s:Shared}
theorem nextOf_tuple_item{it t:Addr}{i:Nat}{items:Array Value}{x:Value}{Q:Value→Shared→Prop}(hit:s.heap.IsTupleIter it t i)(ht:s.heap.IsTuple t items)(hx:items[i]? =some x)
 (hQ:∀h',h'.IsTupleIter it t (i+1)→Heap.SameBut it s.heap h'→Q x {s with heap:=h'}):wpAny (model prog w) A (Builtin.SmallTypes.nextOf (.ref it)) Q E s:=by
 refine ea12 (id hit) fun o ho hc hd=>?_
 refine ea12 ht fun ol hol _ h1=>?_;clear ht;refine ea10 h1 fun nl hdl=>?_;clear h1
 unfold Builtin.SmallTypes.nextOf
 refine wpAny_bind (wpAny_callSpecial?_slot (name:=Str.ofString "__next__") hit.typeIs F.slot_tuple_iterator_next
  (wpAny_call_entry F.slot_tuple_iterator_next hit.typeIs F.entry_tuple_iterator_next ?_ (F.args_tuple_iterator_next_1 _)))
 show wpAny _ _ (field (.ref it) 0 >>= _) _ _ s
 refine wpAny_bind (wpAny_field ho hd (x:= .ref t) rfl ?_)
 show wpAny _ _ (if(Value.ref t==Value.none)=true then _ else _) _ _ s
 rw[if_neg (show¬((Value.ref t==Value.none)=true)from Bool.false_ne_true)]
 show wpAny _ _ (field (.ref it) 1 >>= _) _ _ s
 refine wpAny_bind (wpAny_field ho hd (x:= .int i 0) rfl ?_)
 show wpAny _ _ (seqItems? (.ref t) >>= _) _ _ s
 refine wpAny_bind (wpAny_seqItems hol hdl ?_)
 rw[Int.toNat_natCast]
 dsimp only
 rw[hx]
 dsimp only
 refine wpAny_bind (wpAny_setField ho hd (by simp) (wpAny_pure ⟨x,rfl,wpAny_pure (hQ _ ?_ (Heap.SameBut.update ..))⟩))
 exact⟨_,Heap.get?_update_self _ ho (Obj.isFreed_of_fields (Obj.data_mapFields hd _)),(Obj.cls_mapFields ..).trans hc,by
  rw[Obj.data_mapFields hd];simp[rawInt]⟩
theorem nextOf_tuple_end{it t:Addr}{i:Nat}{items:Array Value}{Q:Value→Shared→Prop}(hh:A.handled=none)(hit:s.heap.IsTupleIter it t i)(ht:s.heap.IsTuple t items)(hx:items[i]? =none)
 (hE:∀h' e,Heap.ExtBut it s.heap h'→(∃o,h'.get? e=some o∧o.cls= .type "StopIteration")→E (.ref e) {s with heap:=h'}):wpAny (model prog w) A (Builtin.SmallTypes.nextOf (.ref it)) Q E s:=by
 refine ea12 (id hit) fun o ho hc hd=>?_
 refine ea12 ht fun ol hol _ h1=>?_;clear ht;refine ea10 h1 fun nl hdl=>?_;clear h1
 unfold Builtin.SmallTypes.nextOf
 refine wpAny_bind (wpAny_callSpecial?_slot (name:=Str.ofString "__next__") hit.typeIs F.slot_tuple_iterator_next
  (wpAny_call_entry F.slot_tuple_iterator_next hit.typeIs F.entry_tuple_iterator_next ?_ (F.args_tuple_iterator_next_1 _)))
 show wpAny _ _ (field (.ref it) 0 >>= _) _ _ s
 refine wpAny_bind (wpAny_field ho hd (x:= .ref t) rfl ?_)
 show wpAny _ _ (if(Value.ref t==Value.none)=true then _ else _) _ _ s
 rw[if_neg (show¬((Value.ref t==Value.none)=true)from Bool.false_ne_true)]
 show wpAny _ _ (field (.ref it) 1 >>= _) _ _ s
 refine wpAny_bind (wpAny_field ho hd (x:= .int i 0) rfl ?_)
 show wpAny _ _ (seqItems? (.ref t) >>= _) _ _ s
 refine wpAny_bind (wpAny_seqItems hol hdl ?_)
 rw[Int.toNat_natCast]
 dsimp only
 rw[hx]
 dsimp only
 refine wpAny_bind (wpAny_rule (wpAny_bind (wpAny_setField ho hd (by simp) ?_)))
 show wpAny _ _ (newExc (.type "StopIteration") [] >>= _) _ _ _
 refine wpAny_bind ?_
 delta newExc newTuple
 refine wpAny_bind (wpAny_newObj_type ?_ (by size_fits))
 refine wpAny_bind (m:=firstArgMember _ _) (wpAny_of_eq (a:=Value.none) (by first |rfl|(simp only [firstArgMember];rfl)) ?_)
 refine wpAny_newObj_type ?_ (by size_fits)
 delta raiseNew
 refine wpAny_bind (wpAny_handled ?_)
 first |rw[show A.in1.handled=none from hh]|rw[hh]
 refine wpAny_bind (wpAny_pure (wpAny_throw ?_))
 exact hE _ _ (((Heap.SameBut.update ..).extBut.push _).push _) ⟨_,Heap.get?_push_size _ rfl,rfl⟩
end
theorem draws_tuple{prog:Program}{w:World}{A:Around}(hh:A.handled=none)(it t:Addr)(hne:t≠it)(items:Array Value):
 Draws prog w A it [it,t] items.size (fun i v=>items[i]? =some v) (fun i h=>h.IsTupleIter it t i∧h.IsTuple t items) where
 live:=fun _ _ st=>let ⟨o,ho,_⟩:=st.1;⟨o,ho⟩
 frame:=fun _ _ _ ⟨⟨o,ho,r⟩,⟨o2,ho2,r2⟩⟩ hk=>⟨⟨o,hk it (by simp) o ho,r⟩,⟨o2,hk t (by simp) o2 ho2,r2⟩⟩
 item:=fun i s Q E hi st hQ=>by
  refine nextOf_tuple_item st.1 st.2 (x:=items[i]) (by simp[hi]) fun h' hit' hs'=>?_
  exact hQ _ h' s.toks (by simp[hi]) ⟨hit',st.2.extBut hs'.extBut hne⟩ hs'
 done:=fun s Q E st hE=>nextOf_tuple_end hh st.1 st.2 (by simp) hE
theorem stack_any{prog:Program}{w:World}{A:Around}{f:List (Code×Pos)→Bool}{Q:Bool→Shared→Prop}{E:Value→Shared→Prop}{s:Shared}(h:∀b,Q b s):wpAny (model prog w) A stack (fun a s'=>wpAny (model prog w) A (pure (f a)) Q E s') E s:=wpAny_stack_any fun st=>wpAny_pure (h _)
open AutoSeq1 (wpAny_loadPart') in
set_option tactic.hygienic true in
theorem meets_enum_tuple(l:Addr)(items:Array Value)(n:Nat):
 Meets (Builtin.«enumerate.__new__» ⟨[.type "enumerate",.ref l],[]⟩) (fun _ R s=>s.heap.get? l=some {cls:= .type "tuple",data:= .seq items n}∧
  R (.ok (.ret (.ref (s.heap.push {cls:= .type "tuple_iterator",data:= .fields #[.ref l,.int 0 0]}).objs.size)))
   {s with heap:=(s.heap.push {cls:= .type "tuple_iterator",data:= .fields #[.ref l,.int 0 0]}).push {cls:= .type "enumerate",data:= .fields #[.none,.bool false,.ref s.heap.objs.size,rawInt 0,.none,.none]}}):=
 .of_wp fun prog w A R s h=>by
  obtain⟨hp,g,d,tk,os⟩:=s;obtain⟨hl,h⟩:=h
  have hsub:=sub_enumerate
  have hL:Heap.IsTuple (Shared.heap ⟨hp,g,d,tk,os⟩) l items:=⟨_,hl,rfl,n,rfl⟩
  wp_walk using wpAny_loadPart' hl
  refine stack_any fun b=>?_
  cases b<;>
  ·wp_walk using wpAny_loadPart' hl,wpAny_pyIter_tuple hL
   exact⟨_,rfl,h⟩
theorem call_enum_tuple{prog:Program}{w:World}{A:Around}{E:Value→Shared→Prop}{s:Shared}{l:Addr}{items:Array Value}{Q:Value→Shared→Prop}(hL:PT s.heap l items)
 (h:∀h',IsEnum h' (s.heap.objs.size+1) s.heap.objs.size 0 .none→h'.IsTupleIter s.heap.objs.size l 0→(∀b o,s.heap.get? b=some o→h'.get? b=some o)→Q (.ref (s.heap.objs.size+1)) {s with heap:=h'}):
 wpAny (model prog w) A (PySem.call (.type "enumerate") [.ref l]) Q E s:=by
 refine ea10 hL fun n hl=>?_;clear hL
 refine callType_new F.called_enumerate (by decide) (F.typeCall_enumerate_1 _) (F.newCall_enumerate_1 _) (fun obj=>F.args_object_init_2 obj _) F.entry_enumerate_new
  (meets_enum_tuple l items n) ⟨hl,?_⟩
 have hz:(s.heap.push {cls:= .type "tuple_iterator",data:= .fields #[.ref l,.int 0 0]}).objs.size=s.heap.objs.size+1:=Heap.size_push ..
 show _∧_
 rw[hz]
 have he:IsEnum ((s.heap.push {cls:= .type "tuple_iterator",data:= .fields #[.ref l,.int 0 0]}).push
  {cls:= .type "enumerate",data:= .fields #[.none,.bool false,.ref s.heap.objs.size,rawInt 0,.none,.none]}) (s.heap.objs.size+1) s.heap.objs.size 0 .none:=by
  have :=Heap.get?_push_size (s.heap.push {cls:= .type "tuple_iterator",data:= .fields #[.ref l,.int 0 0]})
   (o:={cls:= .type "enumerate",data:= .fields #[.none,.bool false,.ref s.heap.objs.size,rawInt 0,.none,.none]}) rfl
  rw[hz]at this;exact this
 exact⟨⟨_,he,rfl⟩,h _ he ⟨_,Heap.get?_push_of_some _ (Heap.get?_push_size _ rfl),rfl,rfl⟩ fun b o x=>Heap.get?_push_of_some _ (Heap.get?_push_of_some _ x)⟩
section
variable{prog:Program}{w:World}{base:Heap}{P:Prg}{W S:List Addr}{A:Around}{fr:List Env}{L:Addr}{s s₁ s₂:Shared}{γ γ₁ γ₂:Gh}{σ σ₁ σ₂:Store}{env:Env}{ρ ρ₁:Mine.Loc}{G B:Addr}{r:Rec}{n:Nat}{sc:Scope}
theorem SR.otherL{h h':Heap}{F:List Addr}(R:SR prog w base h γ σ)(hs:ButL F h h')(hF:∀b∈F,base.get? b=none∧(∀p∈γ,b≠p.1∧b≠p.2)∧∀o,h.get? b=some o→NT o):TupKeep h h'∧SR prog w base h' γ σ:=by
 have tk:TupKeep h h':=fun a vs ⟨m,ho⟩=>by
  refine⟨m,hs a _ (fun ha=>?_) ho⟩
  exact(hF a ha).2.2 _ ho ⟨rfl,_,_,rfl⟩
 refine⟨tk,fun b o e=>hs b _ (fun hb=>?_) (R.stays b o e),R.len,fun j r o hr ho=>?_,fun r hr=>?_,R.new,R.apart⟩
 ·rw[(hF b hb).1]at e;cases e
 ·have a:=fun b (hb:b∈F)=>(hF b hb).2.1 r (List.mem_of_getElem? hr)
  have :=OR.keep (add:=[]) tk (fun o e=>hs _ _ (fun hb=>(a _ hb).1 rfl) e) (fun o e=>hs _ _ (fun hb=>(a _ hb).2 rfl) e) (R.obj j r o hr ho)
  rwa [List.append_nil]at this
 ·obtain⟨⟨o1,h1,n1⟩,o2,h2,n2⟩:=R.live r hr
  have a:=fun b (hb:b∈F)=>(hF b hb).2.1 r hr
  exact⟨⟨o1,hs _ _ (fun hb=>(a _ hb).1 rfl) h1,n1⟩,o2,hs _ _ (fun hb=>(a _ hb).2 rfl) h2,n2⟩
theorem Post.otherL{F:List Addr}(R:SR prog w base s.heap γ σ){h':Heap}{tk:Tok}(hs:ButL F s.heap h')(hF:∀b∈F,base.get? b=none∧(∀p∈γ,b≠p.1∧b≠p.2)∧(∃o vs,s.heap.get? b=some o∧o.data= .fields vs)∧∃o,h'.get? b=some o)(hw:∀b∈F,b∈W):
 Post prog w base W S s γ σ {s with heap:=h',toks:=tk} γ σ:=by
 obtain⟨t,R'⟩:=R.otherL hs fun b hb=>⟨(hF b hb).1,(hF b hb).2.1,fun o ho=>by
  obtain⟨_,_,⟨o',vs,ho',hd⟩,_⟩:=hF b hb
  rw[ho']at ho;cases ho
  exact fun e=>by refine ea01 e fun _ h1=>?_;clear e;refine ea20 h1 fun xs n e=>?_;clear h1;rw[hd]at e;cases e⟩
 refine⟨⟨h',tk,_,rfl⟩,⟨[],(List.append_nil _).symm,fun _ h=>nomatch h⟩,fun b ob e hb _=>⟨ob.slots,hs b _ (fun hF=>hb (hw b hF)) e,fun _=>rfl⟩,t,fun b ob e=>?_,fun _ h=>h,R'⟩
 by_cases hb:b∈F
 ·obtain⟨_,_,⟨o,vs,ho,hd⟩,o',ho'⟩:=hF b hb
  rw[ho]at e;cases e
  exact⟨o',ho',fun hO=>absurd hd (hO.1 vs)⟩
 ·exact⟨ob,hs b _ hb e,id⟩
theorem Post.tail{F:List Addr}(x:Post prog w base W S s γ σ s₁ γ₁ σ₁){h':Heap}{tk:Tok}(hs:ButL F s₁.heap h')(hF:∀b∈F,s.heap.get? b=none∧base.get? b=none∧(∀p∈γ₁,b≠p.1∧b≠p.2)∧∃o vs,s₁.heap.get? b=some o∧o.data= .fields vs):
 Post prog w base W S s γ σ {s₁ with heap:=h',toks:=tk} γ₁ σ₁:=by
 obtain⟨t,R'⟩:=x.sr.otherL hs fun b hb=>⟨(hF b hb).2.1,(hF b hb).2.2.1,fun o ho=>by
  refine ea03 (hF b hb) fun _ _ _ h1=>?_;refine ea21 h1 fun o' vs ho' hd=>?_;clear h1
  rw[ho']at ho;cases ho
  exact fun e=>by refine ea01 e fun _ h1=>?_;clear e;refine ea20 h1 fun xs n e=>?_;clear h1;rw[hd]at e;cases e⟩
 have old:∀b o,s.heap.get? b=some o→b∉F:=fun b o e hb=>by rw[(hF b hb).1]at e;cases e
 refine⟨?_,x.pre,fun b o e hw hm=>?_,x.tup.trans t,fun b o e=>?_,x.frz,R'⟩
 ·refine ea30 (x.same) fun h tk' d' e=>?_;exact⟨h',tk,d',by rw[e]⟩
 ·refine ea11 (x.ext b o e hw hm) fun sl e' k=>?_
  exact⟨sl,hs b _ (old b o e) e',k⟩
 ·refine ea11 (x.dom b o e) fun o' e' k=>?_
  exact⟨o',hs b _ (old b o e) e',k⟩
theorem enumL_get:∀(xs:List AV) (k i:Nat),(enumL k xs)[i]? =(xs[i]?).map fun x=>AV.tup [.int ((k+i:Nat):Int),x]
 |[],k,i=>rfl
 |x::xs,k,0=>rfl
 |x::xs,k,i+1=>by
  show(enumL (k+1) xs)[i]? =_
  rw[enumL_get xs (k+1) i,Nat.add_right_comm]
  rfl
theorem turns_enum{elts:List Expr}{k:Nat}{pos:Pos}{e it:Addr}{fp:List Addr}{m:Nat}{DS:Nat→Heap→Prop}{vs:List Value}{xs:List AV}{Src:Shared→Gh→Store→Prop}(D:Draws prog w A.in1 it fp m (fun i v=>vs.toArray[i]? =some v) DS)(hm:m=vs.length)(hne:e≠it)(hef:e∉fp)
 (fields:∀i h,DS i h→∃o us,h.get? it=some o∧o.data= .fields us)
 (src:∀i s γ σ s' γ' σ' W,SR prog w base s.heap γ σ→Src s γ σ→DS i s.heap→Foot base fr γ it→Post prog w base W (frs fr) s γ σ s' γ' σ'→(∀b∈W,b≠it∧∀p∈γ,b≠p.1∧b≠p.2)→Src s' γ' σ'∧DS i s'.heap)
 (srcI:∀s γ σ h' tk,Src s γ σ→ButL [e,it] s.heap h'→Src {s with heap:=h',toks:=tk} γ σ):
 Turns prog w base A fr (.Tuple elts k pos) (.ref e) [e,it] (enumL 0 xs)
  (fun i s γ σ=>(Foot base fr γ e∧Foot base fr γ it)∧(∃old,IsEnum s.heap e it i old)∧VRs s.heap γ vs xs∧Src s γ σ∧DS i s.heap∧i≤m) where
 foot:=fun i s γ σ ⟨⟨hf,hg⟩,⟨old,he⟩,hr,hS,hD,him⟩ b hb=>by
  rcases List.mem_cons.mp hb with rfl|hb
  ·exact⟨hf.1,hf.2.1,hf.2.2,_,he,_,rfl⟩
  ·rw[List.mem_singleton.mp hb]
   refine ea21 (fields _ _ hD) fun o us ho hd=>?_
   exact⟨hg.1,hg.2.1,hg.2.2,o,ho,us,hd⟩
 step:=fun i s γ σ s' γ' σ' W R ⟨⟨hf,hg⟩,⟨old,he⟩,hr,hS,hD,him⟩ x hw=>by
  refine ea21 (fields _ _ hD) fun o us ho hd=>?_
  have :=src i s γ σ s' γ' σ' W R hS hD hg x fun b hb=>⟨fun q=>(hw b hb).1 (by rw[q];exact .tail _ (.head _)),(hw b hb).2⟩
  exact⟨⟨hf.post x he,hg.post x ho⟩,⟨old,hf.keep x (fun h=>(hw e h).1 (.head _)) he⟩,hr.post x,this.1,this.2,him⟩
 next:=fun i s γ σ x Q E R ⟨⟨hf,hg⟩,⟨old,he⟩,hr,hS,hD,him⟩ hx h=>by
  rw[enumL_get,Option.map_eq_some_iff]at hx
  refine ea11 hx fun y hy z1=>?_;clear hx;subst z1
  rw[Nat.zero_add]at h
  refine ea11 (hr.get hy) fun v hv hvr=>?_
  have hlt:i<m:=by rw[hm];exact(List.getElem?_eq_some_iff.mp hv).1
  refine ea21 (fields _ _ hD) fun o us ho hd=>?_
  refine wpAny_pyNext_enum_itemD D he hD hlt hne hef fun x h' tk hP he' hD' hT hz hk=>⟨_,rfl,?_⟩
  have hxv:x=v:=by
   rw[List.getElem?_toArray,hv]at hP
   exact(Option.some.inj hP).symm
  subst hxv
  have hp:Post prog w base [e,it] (frs fr) s γ σ {s with heap:=h',toks:=tk+1} γ σ:=by
   refine Post.otherL R (F:=[e,it]) (fun b o hb ho=>hk b o (fun q=>hb (by rw[q];exact .head _)) (fun q=>hb (by rw[q];exact .tail _ (.head _))) ho) (fun b hb=>?_) fun _ h=>h
   rcases List.mem_cons.mp hb with rfl|hb
   ·exact⟨hf.1,hf.2.1,⟨_,_,he,rfl⟩,_,he'⟩
   ·rw[List.mem_singleton.mp hb]
    refine ea21 (fields _ _ hD') fun o' us' ho' hd'=>?_
    exact⟨hg.1,hg.2.1,⟨o,us,ho,hd⟩,o',ho'⟩
  refine wpAny_letOwnedTupleGo_enum (s:={s with heap:=h',toks:=tk+1}) he' fun h2 he2 hs2=>?_
  refine ea21 (fields _ _ hD') fun o' us' ho' hd'=>?_
  have hp2:Post prog w base [e,it] (frs fr) {s with heap:=h',toks:=tk+1} γ σ {s with heap:=h2,toks:=tk+1} γ σ:=by
   have :=Post.otherL (prog:=prog) (w:=w) (base:=base) (W:=[e,it]) (S:=frs fr) (F:=[e]) (tk:=tk+1) (h':=h2) hp.sr (fun b o hb ho=>(hs2.2 b fun q=>hb (by rw[q];exact .head _)).trans ho) (fun b hb=>?_) fun b hb=>by rw[List.mem_singleton.mp hb];exact .head _
   ·exact this
   ·rw[List.mem_singleton.mp hb];exact⟨hf.1,hf.2.1,⟨_,_,he',rfl⟩,_,he2⟩
  have hDs:DS (i+1) h2:=D.frame _ _ _ hD' fun b hb o ho=>(hs2.2 b fun q=>hef (by rw[←q];exact hb)).trans ho
  have hpp:=hp.trans hp2
  have hkeep:ButL [e,it] s.heap h2:=fun b o hb ho=>(hs2.2 b fun q=>hb (by rw[q];exact .head _)).trans (hk b o (fun q=>hb (by rw[q];exact .head _)) (fun q=>hb (by rw[q];exact .tail _ (.head _))) ho)
  have hsz:s.heap.objs.size≠e:=Nat.ne_of_gt (Heap.lt_size he)
  refine h (.ref s.heap.objs.size) {s with heap:=h2,toks:=tk+1} hpp ⟨⟨hf,hg⟩,⟨_,he2⟩,hr.post hpp,srcI _ _ _ _ _ hS hkeep,hDs,hlt⟩ (.tup (vs:=[.int i tk,x]) ⟨_,(hs2.2 _ hsz).trans hT⟩ (by show 2≤100000;omega) (.cons (.int _ _) (.cons (hvr.post hpp) .nil)))
 stop:=fun i s γ σ Q E R ⟨⟨hf,hg⟩,⟨old,he⟩,hr,hS,hD,him⟩ hx h=>by
  rw[enumL_get,Option.map_eq_none_iff]at hx
  have :¬i<m:=by
   rw[hm,hr.length]
   intro hlt
   rw[List.getElem?_eq_getElem hlt]at hx
   cases hx
  have him':i=m:=by omega
  subst him'
  exact wpAny_pyNext_enum_endD D he hD fun h' hs=>h h' s.toks fun b o hb ho=>hs b o (fun q=>hb (by rw[q];exact .tail _ (.head _))) ho
theorem rangeL_get:∀(m k i:Nat),(rangeL k m)[i]? =if i<m then some (AV.int ((k+i:Nat):Int))else none
 |0,k,i=>(if_neg (Nat.not_lt_zero i)).symm
 |m+1,k,0=>(if_pos (Nat.succ_pos m)).symm
 |m+1,k,i+1=>by
  show(rangeL (k+1) m)[i]? =_
  rw[rangeL_get m (k+1) i,Nat.add_right_comm]
  show _=if i+1<m+1 then some (AV.int ((k+i+1:Nat):Int))else none
  simp only [Nat.add_lt_add_iff_right]
set_option tactic.hygienic true in
theorem turns_range{target:Expr}{I:Addr}{m:Nat}(hh:A.handled=none):Turns prog w base A fr target (.ref I) [I] (rangeL 0 m)
 (fun i s γ _=>Foot base fr γ I∧IsRangeIter s.heap I i ((m:Int) - i) 1) where
 foot:=fun i s γ σ ⟨hf,ho⟩ b hb=>by rw[List.mem_singleton.mp hb];exact⟨hf.1,hf.2.1,hf.2.2,_,ho,_,rfl⟩
 step:=fun i s γ σ s' γ' σ' W R ⟨hf,ho⟩ x hw=>⟨hf.post x ho,hf.keep x (fun h=>(hw I h).1 (.head _)) ho⟩
 next:=fun i s γ σ x Q E R ⟨hf,ho⟩ hx h=>by
  rw[rangeL_get]at hx
  split at hx
  ·rename_i hlt
   cases hx
   rw[Nat.zero_add]at h
   refine wpAny_pyNext_range_item ho (by omega) fun h' ho' hs=>⟨_,rfl,?_⟩
   have hp:Post prog w base [I] (frs fr) s γ σ {s with heap:=h',toks:=s.toks+1} γ σ:=Foot.change R hf ho rfl ho' (But.same hs) (.head _)
   refine letOwned_plain (T:=0) (s:={s with heap:=h',toks:=s.toks+1}) ho' rfl (by decide) (h _ _ hp ⟨hf,?_⟩ (.int _ _))
   have e1:((i:Int)+1)=((i+1:Nat):Int):=by omega
   have e2:((m:Int) - i - 1)=(m:Int) - ((i+1:Nat):Int):=by omega
   rw[←e1,←e2]at*
   simpa [e1,e2]using ho'
  ·cases hx
 stop:=fun i s γ σ Q E R ⟨hf,ho⟩ hx h=>by
  rw[rangeL_get]at hx
  split at hx
  ·cases hx
  ·rename_i hlt
   exact wpAny_pyNext_range_end hh ho (by omega) fun h' hs=>h h' s.toks fun b o hb e=>hs b o (fun q=>hb (by rw[q];exact .head _)) e
end
end Mine
end
section
set_option backward.match.sparseCases false
namespace Mine
open PySem PySem.Calls PySem.Spec PySem.SeqAt PyProof.Rows
section
variable{prog:Program}{w:World}{base:Heap}{P:Prg}{W S:List Addr}{A:Around}{fr:List Env}{L:Addr}{s s₁ s₂:Shared}{γ γ₁ γ₂:Gh}{σ σ₁ σ₂:Store}{env cenv:Env}{ρ ρ₁:Mine.Loc}{G B:Addr}{r:Rec}{n:Nat}{sc csc:Scope}
 {K:PySem.W.Frag}
theorem SR.adopt{h:Heap}(R:SR prog w base h γ σ){p:Addr×Addr}{o:AO}(f1:base.get? p.1=none∧base.get? p.2=none)(f2:∀q∈γ,(p.1≠q.1∧p.1≠q.2)∧(p.2≠q.1∧p.2≠q.2))
 (l1:∃o,h.get? p.1=some o∧NT o) (l2:∃o,h.get? p.2=some o∧NT o) (hO:OR prog w h (γ++[p]) p o):SR prog w base h (γ++[p]) (σ++[o]):=by
 refine⟨R.stays,by simp[R.len],fun i q o' hq ho'=>?_,fun q hq=>?_,fun q hq=>?_,fun i j q q' hq hq' hij=>?_⟩
 ·rcases get_snoc hq with ⟨hq,hl⟩|⟨rfl,rfl⟩
  ·rw[List.getElem?_append_left (R.len▸hl)]at ho'
   exact OR.keep (add:=[p]) (.refl h) (fun o e=>e) (fun o e=>e) (R.obj i q o' hq ho')
  ·rw[R.len,List.getElem?_append_right (Nat.le_refl _)]at ho'
   simp only [Nat.sub_self,List.getElem?_cons_zero,Option.some.injEq]at ho'
   subst ho'
   exact hO
 ·rcases List.mem_append.mp hq with hq|hq
  ·exact R.live q hq
  ·rw[List.mem_singleton.mp hq];exact⟨l1,l2⟩
 ·rcases List.mem_append.mp hq with hq|hq
  ·exact R.new q hq
  ·rw[List.mem_singleton.mp hq];exact f1
 ·rcases get_snoc hq with ⟨hq1,hl⟩|⟨e1,e2⟩
  ·rcases get_snoc hq' with ⟨hq2,_⟩|⟨e1,e2⟩
   ·exact R.apart i j q q' hq1 hq2 hij
   ·obtain⟨⟨a,b⟩,c,d⟩:=f2 q (List.mem_of_getElem? hq1)
    rw[e2]
    exact⟨a.symm,c.symm,b.symm,d.symm⟩
  ·rcases get_snoc hq' with ⟨hq2,_⟩|⟨e3,e4⟩
   ·rw[e2]
    obtain⟨⟨a,b⟩,c,d⟩:=f2 q' (List.mem_of_getElem? hq2)
    exact⟨a,b,c,d⟩
   ·exact absurd (e1.trans e3.symm) hij
theorem Post.adopt(x:Post prog w base W S s γ σ s₁ γ₁ σ₁){p:Addr×Addr}{o:AO}(n1:s.heap.get? p.1=none)(n2:s.heap.get? p.2=none)(f1:base.get? p.1=none∧base.get? p.2=none)(f2:∀q∈γ₁,(p.1≠q.1∧p.1≠q.2)∧(p.2≠q.1∧p.2≠q.2))
 (l1:∃o,s₁.heap.get? p.1=some o∧NT o) (l2:∃o,s₁.heap.get? p.2=some o∧NT o) (hO:OR prog w s₁.heap (γ₁++[p]) p o):Post prog w base W S s γ σ s₁ (γ₁++[p]) (σ₁++[o]):=by
 refine⟨x.same,?_,x.ext,x.tup,x.dom,fun i h=>frz_snoc (x.frz i h),x.sr.adopt f1 f2 l1 l2 hO⟩
 refine ea11 (x.pre) fun add e hn=>?_
 refine⟨add++[p],by rw[e,List.append_assoc],fun q hq=>?_⟩
 rcases List.mem_append.mp hq with hq|hq
 ·exact hn q hq
 ·rw[List.mem_singleton.mp hq];exact⟨n1,n2⟩
theorem Post.tail'{F:List Addr}(x:Post prog w base W S s γ σ s₁ γ₁ σ₁){h':Heap}{tk:Tok}(hs:ButL F s₁.heap h')(hF:∀b∈F,s.heap.get? b=none∧base.get? b=none∧(∀p∈γ₁,b≠p.1∧b≠p.2)∧∃o,s₁.heap.get? b=some o∧NT o):
 Post prog w base W S s γ σ {s₁ with heap:=h',toks:=tk} γ₁ σ₁:=by
 obtain⟨t,R'⟩:=x.sr.otherL hs fun b hb=>⟨(hF b hb).2.1,(hF b hb).2.2.1,fun o ho=>by
  refine ea03 (hF b hb) fun _ _ _ h1=>?_;refine ea11 h1 fun o' ho' hd=>?_;clear h1
  rw[ho']at ho;cases ho;exact hd⟩
 have old:∀b o,s.heap.get? b=some o→b∉F:=fun b o e hb=>by rw[(hF b hb).1]at e;cases e
 refine⟨?_,x.pre,fun b o e hw hm=>?_,x.tup.trans t,fun b o e=>?_,x.frz,R'⟩
 ·refine ea30 (x.same) fun h tk' d' e=>?_;exact⟨h',tk,d',by rw[e]⟩
 ·refine ea11 (x.ext b o e hw hm) fun sl e' k=>?_
  exact⟨sl,hs b _ (old b o e) e',k⟩
 ·refine ea11 (x.dom b o e) fun o' e' k=>?_
  exact⟨o',hs b _ (old b o e) e',k⟩
theorem Fram.sub{h:Heap}(F:Fram env h γ ρ)(hs:∀y v,look y ρ₁=some v→look y ρ=some v):Fram env h γ ρ₁:=by
 refine ea11 (F.ns) fun m hn hr=>?_
 exact⟨⟨m,hn,fun x v hx=>hr x v (hs x v hx)⟩,F.cell⟩
theorem bound_other{x y:Str}{v:AV}(hl:localIn sc x=true)(hy:localIn sc y=false):look y ((x,v)::ρ)=look y ρ:=by
 rw[look_cons,if_neg]
 intro e
 rw[e,hy]at hl
 exact ffNe hl
theorem bindNames_keeps:∀(ts:List Expr) (xs:List AV) {ρ ρ₁:Mine.Loc},bindNames sc ts xs ρ=some ρ₁→∀y,localIn sc y=false→look y ρ₁=look y ρ:=by
 intro ts
 induction ts with
 |nil=>
  intro xs ρ ρ₁ h y hy
  cases xs with
  |nil=>exact Option.some.inj h▸rfl
  |cons _ _=>exact noneNe h
 |cons t ts ih=>
  intro xs ρ ρ₁ h y hy
  cases xs with
  |nil=>exact noneNe h
  |cons x xs=>
   refine ea22 (names_inv h) fun z p _ hl h=>?_
   rw[ih xs h y hy,bound_other hl hy]
theorem bindA_keeps{t:Expr}{x:AV}(h:bindA sc t x ρ=some ρ₁)(y:Str)(hy:localIn sc y=false):look y ρ₁=look y ρ:=by
 unfold bindA at h
 cases hn:nameV t with
 |some q=>
  rw[hn]at h;dsimp only at h
  cases hl:localIn sc q.1 with
  |false=>rw[hl]at h;exact noneNe h
  |true=>
   rw[hl]at h
   exact Option.some.inj h▸bound_other hl hy
 |none=>
  rw[hn]at h;dsimp only at h
  cases ht:tupV t with
  |none=>rw[ht]at h;exact noneNe h
  |some q=>
   rw[ht]at h;dsimp only at h
   cases hx:asTup x with
   |none=>rw[hx]at h;exact noneNe h
   |some vs=>
    rw[hx]at h
    exact bindNames_keeps q.1 vs h y hy
set_option tactic.hygienic true in
theorem freeOnly_look:∀(ρ:Mine.Loc) {y:Str} {v:AV},look y (freeOnly csc ρ)=some v→look y csc.names=some .free∧look y ρ=some v
 |[],_,_,h=>noneNe h
 |(x,u)::r,y,v,h=>by
  have h:look y (cond (isK 2 (look x csc.names)) ((x,u)::freeOnly csc r) (freeOnly csc r))=some v:=h
  cases hk:isK 2 (look x csc.names)<;>rw[hk]at h
  ·refine ea01 (freeOnly_look r h) fun h1 h2=>?_
   refine⟨h1,?_⟩
   rw[look_cons,if_neg]
   ·exact h2
   ·rintro rfl;rw[h1]at hk;exact Bool.noConfusion hk
  ·have hx:=isK_free hk
   have h:look y ((x,u)::freeOnly csc r)=some v:=h
   rw[look_cons]at h ⊢
   by_cases e:x=y
   ·subst e
    rw[if_pos rfl]at h ⊢
    exact⟨hx,h⟩
   ·rw[if_neg e]at h ⊢
    exact freeOnly_look r h
structure CompAt(prog:Program)(w:World)(base:Heap)(fr:List Env)(cenv:Env)(F:List Addr)(D:Addr)(s₀:Shared)(γ₀:Gh)(σ₀:Store)(ys:List AV)(s:Shared)(γ:Gh)(σ:Store)(ρ:Mine.Loc):Prop where
 post:Post prog w base [] (frs fr) s₀ γ₀ σ₀ s γ σ
 inv:Inv prog w base fr cenv s γ σ ρ
 acc:∃vs:List Value,s.heap.PlainList D vs.toArray∧VRs s.heap γ vs ys
 foot:Foot base fr γ D
theorem CompAt.step{F:List Addr}{D:Addr}{s₀:Shared}{γ₀:Gh}{σ₀:Store}{ys:List AV}(X:CompAt prog w base fr cenv F D s₀ γ₀ σ₀ ys s γ σ ρ)(hn:∀b∈W,s₀.heap.get? b=none)(hD:D∉W)(x:Post prog w base W (frs fr) s γ σ s₁ γ₁ σ₁)(I:Inv prog w base fr cenv s₁ γ₁ σ₁ ρ₁):
 CompAt prog w base fr cenv F D s₀ γ₀ σ₀ ys s₁ γ₁ σ₁ ρ₁:=by
 obtain⟨vs,⟨m,hl⟩,hr⟩:=X.acc
 exact⟨X.post.then x fun b hb _=>hn b hb,I,⟨vs,⟨m,X.foot.keep x hD hl⟩,hr.post x⟩,X.foot.post x hl⟩
theorem bd_ok{ε α β:Type}{m:Out ε α}{f:α→Store→Out ε β}{b:β}{σ':Store}(h:m.bd f= .ok b σ'):∃a σ₁,m= .ok a σ₁∧f a σ₁= .ok b σ':=by
 cases m with
 |stuck=>cases h
 |exc=>cases h
 |ok a σ₁=>exact⟨a,σ₁,rfl,h⟩
theorem ofO_ok{ε α β:Type}{o:Option α}{f:α→Out ε β}{b:β}{σ':Store}(h:Mine.ofO o f= .ok b σ'):∃a,o=some a∧f a= .ok b σ':=by
 cases o with
 |none=>exact nomatch h
 |some a=>exact⟨a,rfl,h⟩
theorem Does.use{ε α β:Type}{t:Sem β}{m:Out ε α}{rel:Heap→Gh→β→α→Prop}{gx:ε→XA}{er:Heap→Gh→ε→Prop}{a:α}{σ':Store}(h:Does prog w base P W A fr L s γ σ t m rel gx er)(hm:m= .ok a σ')
 (Q:β→Shared→Prop) (E:Value→Shared→Prop) (hQ:∀b s' γ',Post prog w base W (frs fr) s γ σ s' γ' σ'→rel s'.heap γ' b a→Q b s'):wpAny (model prog w) A t Q E s:=by
 subst hm
 exact h Q E hQ
theorem tests_false{ifs:List Expr}{Q:Bool→Shared→Prop}{E:Value→Shared→Prop}(h:Q false s):
 wpAny (model prog w) A (forIn ifs false fun c r=>if r=true then do let ok←isTrue c env (eval c env);pure (ForInStep.yield ok)else pure (ForInStep.yield r)) Q E s:=by
 induction ifs with
 |nil=>exact wpAny_pure h
 |cons c cs ih=>
  rw[List.forIn_cons]
  simp only [Bool.false_eq_true,if_false]
  exact wpAny_bind (wpAny_pure ih)
theorem tests_ok(g:Good prog w base P G B r n)(ha:AOK A fr L n)(eo:EnvOK G B L env sc):∀(ifs:List Expr) {s:Shared} {γ:Gh} {σ:Store} {b:Bool} {σ':Store},Inv prog w base fr env s γ σ ρ→testsA r sc ρ ifs σ= .ok b σ'→
 ∀(Q:Bool→Shared→Prop) (E:Value→Shared→Prop),(∀s' γ',Post prog w base [] (frs fr) s γ σ s' γ' σ'→Q b s')→
  wpAny (model prog w) A (forIn ifs true fun c r=>if r=true then do let ok←isTrue c env (eval c env);pure (ForInStep.yield ok)else pure (ForInStep.yield r)) Q E s
 |[],s,γ,σ,b,σ',I,h,Q,E,hQ=>by
  cases h
  exact wpAny_pure (hQ s γ (Post.refl I.sr))
 |c::cs,s,γ,σ,b,σ',I,h,Q,E,hQ=>by
  refine ea21 (bd_ok h) fun c1 σ₁ h1 h2=>?_
  rw[List.forIn_cons]
  simp only [if_true]
  refine wpAny_bind (wpAny_bind ((g.ts c ha eo I).use h1 _ _ fun bb s₁ γ₁ hp hb=>wpAny_pure ?_))
  have hb:bb=c1:=hb
  subst hb
  cases bb with
  |true=>exact tests_ok g ha eo cs (I.step hp) h2 Q E fun s' γ' hp'=>hQ s' γ' (hp.trans hp')
  |false=>
   cases h2
   exact tests_false (hQ s₁ γ₁ hp)
theorem Inv.stepO(I:Inv prog w base fr env s γ σ ρ)(x:Post prog w base W (frs fr) s γ σ s₁ γ₁ σ₁)(hO:∀b∈owns env,b∉W):Inv prog w base fr env s₁ γ₁ σ₁ ρ:=by
 refine⟨x.sr,FF.post x I.ff,fun b hb=>?_,⟨?_,fun q hq=>?_⟩,fun b hb=>?_⟩
 ·refine ea01 (FF.there I.ff b hb) fun _ h1=>?_;refine ea11 h1 fun o ho _=>?_;clear h1
  exact x.apart ho (I.sap b hb)
 ·refine ea11 (I.fram.ns) fun m hn r=>?_
  have ol:=(I.oap env.locals (.head _)).2
  refine⟨m,x.ns hn (hO _ (.head _)) ol,fun y v hy=>?_⟩
  rcases r y v hy with ⟨hk,u,hu,hr⟩|⟨hk,c,hc,u,⟨oc,hoc,hd⟩,hr⟩
  ·exact .inl ⟨hk,u,hu,hr.post x⟩
  ·have cm:c∈owns env:= .tail _ (List.mem_map.mpr ⟨(y,c),mem_of_lookup hc,rfl⟩)
   refine ea10 (x.slots hoc (hO _ cm) (I.oap c cm).2) fun sl e=>?_
   exact .inr ⟨hk,c,hc,u,⟨_,e,hd⟩,hr.post x⟩
 ·refine ea21 (I.fram.cell q hq) fun o v ho hd=>?_
  have cm:q.2∈owns env:= .tail _ (List.mem_map.mpr ⟨q,hq,rfl⟩)
  refine ea10 (x.slots ho (hO _ cm) (I.oap q.2 cm).2) fun sl e=>?_
  exact⟨_,v,e,hd⟩
 ·refine ea11 (I.fram.own b hb) fun o ho _=>?_
  exact⟨(I.oap b hb).1,x.apart ho (I.oap b hb).2⟩
theorem CompAt.rho{F:List Addr}{D:Addr}{s₀:Shared}{γ₀:Gh}{σ₀:Store}{ys:List AV}(X:CompAt prog w base fr cenv F D s₀ γ₀ σ₀ ys s γ σ ρ)(hs:∀y v,look y ρ₁=some v→look y ρ=some v):CompAt prog w base fr cenv F D s₀ γ₀ σ₀ ys s γ σ ρ₁:=
 ⟨X.post,⟨X.inv.sr,X.inv.ff,X.inv.sap,X.inv.fram.sub hs,X.inv.oap⟩,X.acc,X.foot⟩
theorem CompAt.append{F:List Addr}{D:Addr}{s₀:Shared}{γ₀:Gh}{σ₀:Store}{ys:List AV}{u:Value}{y:AV}(X:CompAt prog w base fr cenv F D s₀ γ₀ σ₀ ys s γ σ ρ)(hD:D∉owns cenv)(nD:s₀.heap.get? D=none)(hu:VR s.heap γ u y)(hb:ys.length≤bound)
 {Q:Value→Shared→Prop} {E:Value→Shared→Prop} (hQ:∀s',Post prog w base [D] (frs fr) s γ σ s' γ σ→CompAt prog w base fr cenv F D s₀ γ₀ σ₀ (ys++[y]) s' γ σ ρ→Q .none s'):wpAny (model prog w) A (PySem.call (.builtin "list.append") [.ref D,u]) Q E s:=by
 obtain⟨vs,⟨m,hl⟩,hr⟩:=X.acc
 refine append_at hl (fun h' hs hn=>?_) (by rw[List.size_toArray,hr.length];exact bound_size hb)
 have hp:Post prog w base [D] (frs fr) s γ σ {s with heap:=h',toks:=s.toks} γ σ:=by
  refine Post.other X.inv.sr (But.same hs) X.foot.1 X.foot.2.1 (fun o ho=>by rw[hl]at ho;cases ho;exact list_ne) ⟨_,hn,fun _=>⟨(fun vs e=>by cases e),list_ne⟩⟩ (.head _)
 refine hQ _ hp ⟨X.post.then hp fun b hb _=>by rw[List.mem_singleton.mp hb];exact nD,X.inv.stepO hp fun b hb h=>hD (by rw[←List.mem_singleton.mp h];exact hb),⟨vs++[u],⟨m+1,by simpa using hn⟩,(hr.append (.cons hu .nil)).post hp⟩,X.foot⟩
set_option tactic.hygienic true in
theorem compLoop_ok{t it elt:Expr}{ifs:List Expr}{pos:Pos}{itv:Value}{F:List Addr}{xs:List AV}{St:Nat→Shared→Gh→Store→Prop}{D:Addr}{s₀:Shared}{γ₀:Gh}{σ₀ σf:Store}{all:List AV}{ρ₀:Mine.Loc}{R:Result→Shared→Prop}
 (T:Turns prog w base A fr t itv F xs St) (g:Good prog w base P G B r n) (ha:AOK A fr L n) (eo:EnvOK G B L cenv csc) (hW:Wok cenv csc [cenv.locals]) (hDF:D∉F) (hCF:cenv.locals∉F) (hDC:D≠cenv.locals)
 (nC:s₀.heap.get? cenv.locals=none) (nD:s₀.heap.get? D=none) (nF:∀b∈F,s₀.heap.get? b=none) (hcl:∀q∈cenv.cells,∃o,s₀.heap.get? q.2=some o) (hρ:∀y v,look y ρ₀=some v→localIn csc y=false) (hb:all.length≤bound)
 (hR:∀(s:Shared) γ h' tk i,CompAt prog w base fr cenv F D s₀ γ₀ σ₀ all s γ σf ρ₀→St i s γ σf→ButL F s.heap h'→R (.ok .next) {s with heap:=h',toks:=tk})
 (i:Nat) (ys rest:List AV) (X:CompAt prog w base fr cenv F D s₀ γ₀ σ₀ ys s γ σ ρ₀) (hS:St i s γ σ) (hgo:compGo r csc ρ₀ t ifs elt (xs.drop i) σ= .ok rest σf) (hall:ys++rest=all):
 codeAny (model prog w) A (.compLoop (.ListComp elt [⟨t,it,ifs,0⟩] csc pos) 0 itv (.ref D) cenv) R s:=by
 let Inn:Nat→Shared→Prop:=fun k s=>∃i ys rest γ σ,xs.length - i=k∧CompAt prog w base fr cenv F D s₀ γ₀ σ₀ ys s γ σ ρ₀∧St i s γ σ∧compGo r csc ρ₀ t ifs elt (xs.drop i) σ= .ok rest σf∧ys++rest=all
 refine codeAny_loop rfl Inn (fun k s hI=>?_) (xs.length - i) ⟨i,ys,rest,γ,σ,rfl,X,hS,hgo,hall⟩
 clear X hS hgo hall
 refine ea54 hI fun i ys rest γ σ hk X hS hgo hall=>?_;clear hI
 show wpAny _ A ((compTurn (.ListComp elt [⟨t,it,ifs,0⟩] csc pos) 0 itv (.ref D) cenv).onRaise (fun x=>do noteFrame x cenv;theTreesLotGoes x)) _ _ s
 refine wpAny_noted ?_
 rw[compTurn_list]
 refine wpAny_bind (wpAny_standAt (wpAny_bind ?_))
 cases hx:xs[i]? with
 |none=>
  have hd:xs.drop i=[]:=List.drop_of_length_le (List.getElem?_eq_none_iff.mp hx)
  rw[hd]at hgo
  cases hgo
  rw[List.append_nil]at hall
  subst hall
  exact T.stop i s γ _ _ _ X.inv.sr hS hx fun h' tk hs=>wpAny_pure (hR s γ h' tk i X hS hs)
 |some x=>
  have hlt:i<xs.length:=(List.getElem?_eq_some_iff.mp hx).1
  have hd:xs.drop i=x::xs.drop (i+1):=by
   rw[List.drop_eq_getElem_cons hlt]
   have :=(List.getElem?_eq_some_iff.mp hx).2
   rw[this]
  rw[hd]at hgo
  refine ea11 (ofO_ok (show Mine.ofO (bindA csc t x ρ₀) _=_ from hgo)) fun ρ₁ hbind hgo=>?_
  refine ea21 (bd_ok hgo) fun c σ₁ h1 h2=>?_
  refine wpAny_mono (T.next i s γ σ x (fun v s₂=>wpAny (model prog w) A (do
   assign t cenv v
   let mut ok:=true
   for c in ifs do
    if ok then ok←isTrue c cenv (eval c cenv)
   if ok then
    (do let _←PySem.call (.builtin "list.append") [.ref D,←eval elt cenv])
   again (.compLoop (.ListComp elt [⟨t,it,ifs,0⟩] csc pos) 0 itv (.ref D) cenv)) (fun fin s'=>match fin with| .done f=>R (.ok f) s'| .again c'=>(c'= .compLoop (.ListComp elt [⟨t,it,ifs,0⟩] csc pos) 0 itv (.ref D) cenv∧∃m,m<k∧Inn m s')) (notedBy (model prog w) A cenv fun e s'=>R (.error e) s') s₂) _ X.inv.sr hS hx fun v s₂ hp hS' hv=>?_) (fun r' s' hr=>?_) fun _ _ e=>e
  ·-- the body of a turn
   have ownF:∀b∈owns cenv,b∉F:=fun b hb hF=>by
    rcases List.mem_cons.mp hb with rfl|hb
    ·exact hCF hF
    ·refine ea11 (List.mem_map.mp hb) fun q hq z1=>?_;subst z1
     refine ea10 (hcl q hq) fun o ho=>?_
     rw[nF _ hF]at ho;cases ho
   have ownD:D∉owns cenv:=fun hb=>by
    rcases List.mem_cons.mp hb with e|hb
    ·exact hDC e
    ·refine ea11 (List.mem_map.mp hb) fun q hq e=>?_
     refine ea10 (hcl q hq) fun o ho=>?_
     rw[e,nD]at ho;cases ho
   have back:∀y v,look y ρ₀=some v→look y ρ₁=some v:=fun y v hy=>by rw[bindA_keeps hbind y (hρ y v hy)];exact hy
   have hys:ys.length≤bound:=by
    rw[←hall,List.length_append]at hb;omega
   have I2:=X.inv.stepO hp ownF
   have X2:=X.step nF hDF hp I2
   have hO:∀b∈[cenv.locals],b∈owns cenv:=fun b hb=>by rw[List.mem_singleton.mp hb];exact .head _
   refine wpAny_bind ((bind_does (P:=P) (A:=A) (L:=L) eo ha.handled hW hO I2 hv hbind).use rfl _ _ fun _ s₃ γ₃ hp3 hfr=>?_)
   have I3:=I2.stepX (hp3.more hO) hfr
   have X3:=X2.step (fun b hb=>by rw[List.mem_singleton.mp hb];exact nC) (fun h=>hDC (List.mem_singleton.mp h)) hp3 I3
   have S3:=T.step _ _ _ _ _ _ _ _ I2.sr hS' hp3 fun b hb=>by rw[List.mem_singleton.mp hb];exact⟨hCF,(I2.oap _ (.head _)).2⟩
   refine wpAny_bind (tests_ok g ha eo ifs I3 h1 _ _ fun s₄ γ₄ hp4=>?_)
   have I4:=I3.step hp4
   have X4:=X3.step (W:=[]) (fun b hb=>nomatch hb) (fun h=>nomatch h) hp4 I4
   have S4:=T.step _ _ _ _ _ _ _ _ I3.sr S3 hp4 fun b hb=>nomatch hb
   cases c with
   |false=>
    exact wpAny_pure ⟨rfl,_,by omega,i+1,ys,rest,γ₄,σ₁,rfl,X4.rho back,S4,h2,hall⟩
   |true=>
    refine ea21 (bd_ok h2) fun y σ₂ h3 h4=>?_
    refine ea21 (bd_ok h4) fun rest' σ₃ h5 h6=>?_
    cases h6
    refine wpAny_bind (wpAny_bind ((g.ev elt ha eo I4).use h3 _ _ fun u s₅ γ₅ hp5 hu=>?_))
    have I5:=I4.step hp5
    have X5:=X4.step (W:=[]) (fun b hb=>nomatch hb) (fun h=>nomatch h) hp5 I5
    have S5:=T.step _ _ _ _ _ _ _ _ I4.sr S4 hp5 fun b hb=>nomatch hb
    refine wpAny_bind (X5.append ownD nD hu hys fun s₆ hp6 X6=>?_)
    have S6:=T.step _ _ _ _ _ _ _ _ I5.sr S5 hp6 fun b hb=>by rw[List.mem_singleton.mp hb];exact⟨hDF,X5.foot.2.1⟩
    refine wpAny_pure (wpAny_pure ⟨rfl,_,by omega,i+1,ys++[y],rest',γ₅,σ₂,rfl,X6.rho back,S6,h5,by rw[List.append_assoc];exact hall⟩)
  ·refine ea11 hr fun v z1=>?_;clear hr;subst z1;intro hv
   exact wpAny_bind (wpAny_mono hv (fun _ s'' h''=>h'') fun _ _ e=>e)
end
end Mine
end
section
namespace Mine
open PySem PySem.Calls PySem.Spec PySem.SeqAt PyProof.Rows
section
variable{prog:Program}{w:World}{base:Heap}{P:Prg}{W S:List Addr}{A:Around}{fr:List Env}{L:Addr}{s s₁ s₂:Shared}{γ γ₁ γ₂:Gh}{σ σ₀ σ₁ σ₂:Store}{env cenv:Env}{ρ ρ₁:Mine.Loc}{G B:Addr}{r:Rec}{n:Nat}{sc csc:Scope}
 {K:PySem.W.Frag}
noncomputable def Source(v:AV)(σ:Store)(xs:List AV)(σ₀:Store)(th:Store→Store):Prop:=(v= .tup xs∧σ₀=σ∧th=id)∨(∃n,v= .ob n∧σ[n]? =some (.list xs)∧σ₀=σ.set n .frozen∧th=fun σ'=>σ'.set n (.list xs))
noncomputable def thawO{ε α:Type}(th:Store→Store):Out ε α→Out ε α
 | .stuck=> .stuck
 | .exc x σ=> .exc x (th σ)
 | .ok a σ=> .ok a (th σ)
theorem over_cases{ε α:Type}{v:AV}{f:List AV→Store→Out ε α}(h:over v σ f≠ .stuck):∃xs σ₀ th,Source v σ xs σ₀ th∧over v σ f=thawO th (f xs σ₀):=by
 unfold over at h ⊢
 cases ht:asTup v with
 |some xs=>exact⟨xs,σ,id,.inl ⟨asTup_inv ht,rfl,rfl⟩,show f xs σ=_ by cases f xs σ<;>rfl⟩
 |none=>
  rw[ht]at h
  cases hq:listOf σ v with
  |none=>rw[hq]at h;exact absurd rfl h
  |some q=>exact⟨q.2,σ.set q.1 .frozen,_,.inr ⟨q.1,(listOf_inv hq).1,(listOf_inv hq).2,rfl,rfl⟩,show thaw q.1 q.2 (f q.2 (σ.set q.1 .frozen))=_ by cases f q.2 (σ.set q.1 .frozen)<;>rfl⟩
theorem SR.freeze{h:Heap}(R:SR prog w base h γ σ)(i:Nat):SR prog w base h γ (σ.set i .frozen):=by
 refine⟨R.stays,by rw[List.length_set];exact R.len,fun j p o hj ho=>?_,R.live,R.new,R.apart⟩
 by_cases e:i=j
 ·subst e
  rw[List.getElem?_set_self']at ho
  cases hs:σ[i]? with
  |none=>rw[hs]at ho;exact noneNe ho
  |some _=>rw[hs]at ho;exact Option.some.inj ho▸trivial
 ·rw[List.getElem?_set_ne e]at ho
  exact R.obj j p o hj ho
theorem Source.sr{v:AV}{xs:List AV}{th:Store→Store}{h:Heap}(X:Source v σ xs σ₀ th)(R:SR prog w base h γ σ):SR prog w base h γ σ₀:=by
 rcases X with ⟨_,rfl,_⟩|⟨i,_,_,rfl,_⟩
 ·exact R
 ·exact R.freeze i
theorem Source.inv{v:AV}{xs:List AV}{th:Store→Store}(X:Source v σ xs σ₀ th)(I:Inv prog w base fr env s γ σ ρ):Inv prog w base fr env s γ σ₀ ρ:=⟨X.sr I.sr,I.ff,I.sap,I.fram,I.oap⟩
theorem Source.inv0{v:AV}{xs:List AV}{th:Store→Store}(X:Source v σ xs σ₀ th)(I:Inv0 prog w base fr s γ σ):Inv0 prog w base fr s γ σ₀:=⟨X.sr I.sr,I.ff,I.sap⟩
theorem Source.thaw{v:AV}{xs:List AV}{th:Store→Store}(X:Source v σ xs σ₀ th)(I:Inv0 prog w base fr s γ σ)(x:Post prog w base W (frs fr) s γ σ₀ s₁ γ₁ σ₁)(hW:∀b∈W,∀p∈γ,b≠p.1∧b≠p.2):Post prog w base W (frs fr) s γ σ s₁ γ₁ (th σ₁):=by
 rcases X with ⟨_,rfl,rfl⟩|⟨i,_,hi,rfl,rfl⟩
 ·exact x
 have hlt:i<σ.length:=(List.getElem?_eq_some_iff.mp hi).1
 have hp:∃p,γ[i]? =some p:=by
  rw[←I.sr.len]at hlt
  exact⟨_,List.getElem?_eq_getElem hlt⟩
 obtain⟨p,hp⟩:=hp
 obtain⟨e12,vs,⟨m,hl⟩,hb,hr⟩:=I.sr.obj i p _ hp hi
 have hfz:(σ.set i .frozen)[i]? =some .frozen:=by rw[List.getElem?_set_self'];rw[hi];rfl
 have hl':s₁.heap.get? p.1=some {cls:= .type "list",data:= .seq vs.toArray m}:=by
  obtain⟨sl,e,hs⟩:=x.ext _ _ hl (fun h=>(hW _ h p (List.mem_of_getElem? hp)).1 rfl) (notMut (I.sr.freeze i) hp hfz)
  rw[hs fun h=>(I.sap _ h p (List.mem_of_getElem? hp)).1 rfl]at e;exact e
 have hp':γ₁[i]? =some p:=by obtain⟨add,rfl,_⟩:=x.pre;exact get_pre hp
 refine⟨x.same,x.pre,fun b o e hw hm=>x.ext b o e hw fun⟨j,q,hj,hb,hn⟩=>hm ⟨j,q,hj,hb,fun e=>hn ?_⟩,x.tup,x.dom,fun j hj=>?_,?_⟩
 ·by_cases ej:i=j
  ·subst ej;exact hfz
  ·rw[List.getElem?_set_ne ej];exact e
 ·by_cases ej:i=j
  ·subst ej;rw[hi]at hj;cases hj
  ·rw[List.getElem?_set_ne ej]
   exact x.frz j (by rw[List.getElem?_set_ne ej];exact hj)
 ·refine⟨x.sr.stays,by rw[List.length_set];exact x.sr.len,fun j q o hj ho=>?_,x.sr.live,x.sr.new,x.sr.apart⟩
  by_cases ej:i=j
  ·subst ej
   rw[hp']at hj;cases hj
   rw[List.getElem?_set_self']at ho
   cases hs:σ₁[i]? with
   |none=>rw[hs]at ho;exact noneNe ho
   |some _=>
    rw[hs]at ho
    exact Option.some.inj ho▸⟨e12,vs,⟨m,hl'⟩,hb,hr.post x⟩
  ·rw[List.getElem?_set_ne ej]at ho
   exact x.sr.obj j q o hj ho
theorem Source.iter{v:AV}{xs:List AV}{th:Store→Store}{x:Value}{target:Expr}(X:Source v σ xs σ₀ th)(hh:A.handled=none)(I:Inv0 prog w base fr s γ σ)(hv:VR s.heap γ x v){Q:Value→Shared→Prop}{E:Value→Shared→Prop}
 (hQ:∀(J:Addr) (St:Nat→Shared→Gh→Store→Prop) s₂,s.heap.get? J=none→Turns prog w base A fr target (.ref J) [J] xs St→St 0 s₂ γ σ₀→Post prog w base [] (frs fr) s γ σ₀ s₂ γ σ₀→
   (∀i s' γ' σ' (Q':Value→Shared→Prop) (E':Value→Shared→Prop),St i s' γ' σ'→Q' (.ref J) s'→wpAny (model prog w) A (pyIter (.ref J)) Q' E' s')→Q (.ref J) s₂):wpAny (model prog w) A (pyIter x) Q E s:=by
 have I0:=X.inv0 I
 rcases X with ⟨rfl,rfl,_⟩|⟨i,rfl,hi,rfl,_⟩
 ·refine ea23 (hv.tupInv) fun t vs z1=>?_;subst z1;intro ht hb hr
  have hp:Post prog w base [] (frs fr) s γ σ₀ {s with heap:=s.heap.push {cls:= .type "tuple_iterator",data:= .fields #[.ref t,.int 0 0]},toks:=s.toks} γ σ₀:=Post.keeps I.sr (push_keeps _ _)
  have hne:t≠s.heap.objs.size:=by refine ea10 ht fun m hm=>?_;clear ht;exact Nat.ne_of_lt (Heap.lt_size hm)
  refine wpAny_pyIter_tuple ht.is (hQ s.heap.objs.size _ _ (push_none _) (turns_tuple (target:=target) hh hne) ⟨Foot.new I (push_none _),hp.tup _ _ ht,hr.post hp,_,Heap.get?_push_size _ rfl,rfl,rfl⟩ hp fun i s' γ' σ' Q' E' hS h=>wpAny_pyIter_tupleiter hS.2.2.2 h)
 ·refine ea13 (I.sr.ob hv hi) fun p z1=>?_;subst z1;intro hpi e12 h1;refine ea12 h1 fun vs hl hb hr=>?_;clear h1
  have hp:Post prog w base [] (frs fr) s γ (σ.set i .frozen) {s with heap:=s.heap.push {cls:= .type "list_iterator",data:= .fields #[.ref p.1,.int 0 0]},toks:=s.toks} γ (σ.set i .frozen):=Post.keeps I0.sr (push_keeps _ _)
  have hne:p.1≠s.heap.objs.size:=by refine ea10 hl fun m hm=>?_;clear hl;exact Nat.ne_of_lt (Heap.lt_size hm)
  have hfz:(σ.set i .frozen)[i]? =some .frozen:=by rw[List.getElem?_set_self'];rw[hi];rfl
  refine wpAny_pyIter_list hl.isList (hQ s.heap.objs.size _ _ (push_none _) (turns_list (target:=target) (k:=i) hh hne fun h=>(I.sap _ h p (List.mem_of_getElem? hpi)).1 rfl) ⟨Foot.new I (push_none _),⟨hpi,hfz,hl.at fun o e=>push_keeps _ _ _ o e⟩,hr.post hp,_,Heap.get?_push_size _ rfl,rfl,rfl⟩ hp fun i s' γ' σ' Q' E' hS h=>wpAny_pyIter_listiter hS.2.2.2 h)
end
end Mine
end
section
set_option backward.match.sparseCases false
namespace Mine
open PySem PySem.Calls PySem.Spec PySem.SeqAt PyProof.Rows
section
variable{prog:Program}{w:World}{base:Heap}{P:Prg}{W S:List Addr}{A:Around}{fr:List Env}{L:Addr}{s s₁ s₂:Shared}{γ γ₁ γ₂:Gh}{σ σ₀ σ₁ σ₂:Store}{env cenv:Env}{ρ ρ₁:Mine.Loc}{G B:Addr}{r:Rec}{n:Nat}{sc csc:Scope}
 {K:PySem.W.Frag}
theorem closure_ok(hf:∀p∈csc.names,p.2= .free→∃c,env.cells.lookup p.1=some c):
 ∃cl,closureFor csc env=pure cl∧(∀q∈cl,env.cells.lookup q.1=some q.2)∧∀p∈csc.names,p.2= .free→∃c,(p.1,c)∈cl:=by
 unfold closureFor
 have key:∀(names:List (Str×NameKind)) (acc:List (Str×Addr)),(∀p∈names,p.2= .free→∃c,env.cells.lookup p.1=some c)→(∀q∈acc,env.cells.lookup q.1=some q.2)→
  ∃cl,(forIn names acc (fun(p:Str×NameKind) (cs:List (Str×Addr))=>if(p.2==NameKind.free)=true then do let c←cellOf env p.1;pure (ForInStep.yield ((p.1,c)::cs))else pure (ForInStep.yield cs)):Sem (List (Str×Addr)))=pure cl∧
   (∀q∈cl,env.cells.lookup q.1=some q.2)∧(∀p∈names,p.2= .free→∃c,(p.1,c)∈cl)∧∀q∈acc,q∈cl:=by
  intro names
  induction names with
  |nil=>intro acc _ ha;exact⟨acc,rfl,ha,(fun _ h=>nomatch h),fun q h=>h⟩
  |cons p ps ih=>
   intro acc hn ha
   obtain⟨x,k⟩:=p
   rw[List.forIn_cons]
   by_cases hk:k= .free
   ·subst hk
    refine ea10 (hn (x,.free) (.head _) rfl) fun c hc=>?_
    obtain⟨cl,e,h1,h2,h3⟩:=ih ((x,c)::acc) (fun p hp=>hn p (.tail _ hp)) (fun q hq=>by
     rcases List.mem_cons.mp hq with rfl|hq
     ·exact hc
     ·exact ha q hq)
    refine⟨cl,?_,h1,fun p hp hf=>?_,fun q hq=>h3 q (.tail _ hq)⟩
    ·rw[←e]
     have :cellOf env x=pure c:=by unfold cellOf;rw[hc]
     simp only [this]
     rfl
    ·rcases List.mem_cons.mp hp with rfl|hp
     ·exact⟨c,h3 _ (.head _)⟩
     ·exact h2 p hp hf
   ·refine ea13 (ih acc (fun p hp=>hn p (.tail _ hp)) ha) fun cl e h1 h2 h3=>?_
    refine⟨cl,?_,h1,fun p hp hf=>?_,h3⟩
    ·rw[←e]
     have :(k==NameKind.free)=false:=beq_eq_false_iff_ne.mpr hk
     simp only [this]
     rfl
    ·rcases List.mem_cons.mp hp with rfl|hp
     ·exact absurd hf hk
     ·exact h2 p hp hf
 refine ea13 (key csc.names [] hf (fun _ h=>nomatch h)) fun cl e h1 h2 _=>?_
 refine⟨cl,?_,h1,h2⟩
 have e2:=congrArg (fun(t:Sem (List (Str×Addr)))=>t >>= fun cs=>pure cs) e
 exact e2
theorem lookup_relabel(x:Str):∀names:List (Str×NameKind),(names.map fun(n,k)=>if(k==NameKind.free&&env.scope.kind== .function&&env.kindOf n==some .cell)=true then(n,NameKind.cell)else(n,k)).lookup x=
 (names.lookup x).map fun k=>if(k==NameKind.free&&env.scope.kind== .function&&env.kindOf x==some .cell)=true then NameKind.cell else k
 |[]=>rfl
 |(y,k)::r=>by
  rw[List.map_cons]
  have ih:=lookup_relabel x r
  by_cases hc:(k==NameKind.free&&env.scope.kind== .function&&env.kindOf y==some .cell)=true
  ·dsimp only
   rw[if_pos hc,List.lookup_cons,List.lookup_cons]
   by_cases e:x=y
   ·subst e;simp only [beq_self_eq_true,Option.map_some,if_pos hc]
   ·have :(x==y)=false:=beq_eq_false_iff_ne.mpr e
    rw[this];exact ih
  ·dsimp only
   rw[if_neg hc,List.lookup_cons,List.lookup_cons]
   by_cases e:x=y
   ·subst e;simp only [beq_self_eq_true,Option.map_some,if_neg hc]
   ·have :(x==y)=false:=beq_eq_false_iff_ne.mpr e
    rw[this];exact ih
set_option tactic.hygienic true in
theorem compOk_inv(h:compOk sc csc=true):csc.kind= .function∧(∀p∈csc.names,p.2= .free→look p.1 sc.names=some .cell)∧(∀p∈csc.names,p.2= .local→csc.names.lookup p.1=some .local)∧∀p∈csc.names,p.2≠ .cell:=by
 refine ea01 (Bool.and_eq_true_iff.mp h) fun h1 h2=>?_
 have go:∀p∈csc.names,kOk p.2 (look p.1 sc.names) (look p.1 csc.names)=true:=List.all_eq_true.mp h2
 refine⟨isFn_inv h1,fun p hp hf=>?_,fun p hp hf=>?_,fun p hp hf=>?_⟩
 ·have :=go p hp
  rw[hf]at this
  exact isK_cell this
 ·have :=go p hp
  rw[hf]at this
  rw[←look_eq]
  exact isK_loc this
 ·have :=go p hp
  rw[hf]at this
  exact Bool.noConfusion this
theorem look_mem{α:Type}{x:Str}{v:α}{l:List (Str×α)}(h:look x l=some v):(x,v)∈l:=by
 rw[look_eq]at h
 exact mem_of_lookup h
theorem comp_env(eo:EnvOK G B L env sc)(h:compOk sc csc=true)(I:Inv prog w base fr env s γ σ ρ):
 ∃cl,closureFor csc env=pure cl∧(∀q∈cl,∃o,s.heap.get? q.2=some o)∧(∀q∈cl,q∈env.cells)∧∀C,(∀q∈cl,C≠q.2)→EnvOK G B L {newEnv csc C env.globals cl env.qual none .none (some env) builtinsNs with scope:=relabel csc env} csc∧
  ∀{h':Heap} {γ':Gh} {m:Str→Option Value},h'.Ns C m→(∀q∈cl,∀o,s.heap.get? q.2=some o→∃o',h'.get? q.2=some o'∧o'.data=o.data)→(∀u v,VR s.heap γ u v→VR h' γ' u v)→
   Fram {newEnv csc C env.globals cl env.qual none .none (some env) builtinsNs with scope:=relabel csc env} h' γ' (freeOnly csc ρ):=by
 refine ea03 (compOk_inv h) fun hk hfree hloc hcell=>?_
 refine ea12 (closure_ok (csc:=csc) (env:=env) fun p hp hf=>(eo.cel p.1 (hfree p hp hf)).2) fun cl e h1 h2=>?_
 have hkind:∀C x,Env.kindOf {newEnv csc C env.globals cl env.qual none .none (some env) builtinsNs with scope:=relabel csc env} x=(csc.names.lookup x).map fun k=>if(k==NameKind.free&&env.scope.kind== .function&&env.kindOf x==some .cell)=true then NameKind.cell else k:=fun C x=>lookup_relabel x csc.names
 have inCells:∀q∈cl,q∈env.cells:=fun q hq=>mem_of_lookup (h1 q hq)
 refine⟨cl,e,fun q hq=>?_,inCells,fun C hC=>⟨⟨hk,eo.globals,eo.builtins,eo.frame,fun x hx=>?_,fun x hx=>?_,fun x hx=>?_,fun⟨x,hx⟩=>?_,hC⟩,fun{h' γ' m} hn hc hv=>⟨⟨m,hn,fun x v hx=>?_⟩,fun q hq=>?_⟩⟩⟩
 ·refine ea21 (I.fram.cell q (inCells q hq)) fun o v ho _=>?_
  exact⟨o,ho⟩
 ·rw[hkind,←look_eq,hx];rfl
 ·rw[hkind,←look_eq,hx];rfl
 ·exact absurd rfl (hcell _ (look_mem hx))
 ·exact absurd rfl (hcell _ (look_mem hx))
 ·refine ea01 (freeOnly_look ρ hx) fun hxf hxρ=>?_
  have hsc:=hfree _ (look_mem hxf) rfl
  refine ea01 (eo.cel x hsc) fun hkc h3=>?_;refine ea10 h3 fun c hc'=>?_;clear h3
  refine ea11 (I.fram.ns) fun m' hn' hr=>?_
  have hcl:∃c',cl.lookup x=some c':=by
   refine ea10 (h2 _ (look_mem hxf) rfl) fun c' hm=>?_
   cases q:cl.lookup x with
   |some c'=>exact⟨c',rfl⟩
   |none=>rw[List.lookup_eq_none_iff]at q;exact absurd (q _ hm) (by simp)
  refine ea10 hcl fun c' hc2=>?_;clear hcl
  have hcc:c'=c:=by
   have :=h1 _ (mem_of_lookup hc2)
   rw[hc']at this
   exact(Option.some.inj this).symm
  subst hcc
  rcases hr x v hxρ with ⟨hk',_⟩|⟨_,c2,hcl2,u,⟨oc,hoc,hd⟩,r⟩
  ·rw[hkc]at hk';cases hk'
  ·rw[hc']at hcl2;cases hcl2
   refine ea11 (hc _ (mem_of_lookup hc2) _ hoc) fun o2 ho2 hd2=>?_
   refine .inr ⟨.inl ?_,c',hc2,u,⟨o2,ho2,hd2.trans hd⟩,hv _ _ r⟩
   rw[hkind,←look_eq,hxf]
   simp[eo.kind,hkc]
 ·refine ea21 (I.fram.cell q (inCells q hq)) fun o v ho hd=>?_
  refine ea11 (hc q hq o ho) fun o2 ho2 hd2=>?_
  exact⟨o2,v,ho2,hd2.trans hd⟩
theorem comp_core{t it elt:Expr}{ifs:List Expr}{pos:Pos}{x:Value}{v:AV}{xs ys:List AV}{th:Store→Store}{cl:List (Str×Addr)}{E:Value→Shared→Prop}{RR:Value→Addr→Result→Shared→Prop}
 (g:Good prog w base P G B r n) (ha:AOK A fr L n) (I:Inv prog w base fr env s γ σ ρ) (hv:VR s.heap γ x v) (hok:compOk sc csc=true) (src:Source v σ xs σ₀ th) (hgo:compGo r csc (freeOnly csc ρ) t ifs elt xs σ₀= .ok ys σ₂) (hb:ys.length≤bound)
 (hcl1:∀q∈cl,∃o,s.heap.get? q.2=some o) (hcl2:∀q∈cl,q∈env.cells)
 (hcl3:∀C,(∀q∈cl,C≠q.2)→EnvOK G B L {newEnv csc C env.globals cl env.qual none .none (some env) builtinsNs with scope:=relabel csc env} csc∧
   ∀{h':Heap} {γ':Gh} {m:Str→Option Value},h'.Ns C m→(∀q∈cl,∀o,s.heap.get? q.2=some o→∃o',h'.get? q.2=some o'∧o'.data=o.data)→(∀u v,VR s.heap γ u v→VR h' γ' u v)→
    Fram {newEnv csc C env.globals cl env.qual none .none (some env) builtinsNs with scope:=relabel csc env} h' γ' (freeOnly csc ρ))
 (hRR:∀D C s' γ',D≠C→Post prog w base [] (frs fr) s γ σ s' γ' (th σ₂)→(∃vs:List Value,s'.heap.PlainList D vs.toArray∧VRs s'.heap γ' vs ys)→Foot base fr γ' D→Foot base fr γ' C→s.heap.get? D=none→s.heap.get? C=none→(∃m,s'.heap.Ns C m)→RR (.ref D) C (.ok .next) s'):
 wpAny (model prog w) A (pyIter x) (fun itv s₂=>wpAny (model prog w) A (newList []) (fun acc s₃=>wpAny (model prog w) A (newFunctionEnv csc env.globals cl [] env.qual none .none (some env)) (fun cenv s₄=>
  codeAny (model prog w) A (.compStart (.ListComp elt [⟨t,it,ifs,0⟩] csc pos) 0 itv acc {cenv with scope:=relabel csc env}) (RR acc cenv.locals) s₄) E s₃) E s₂) E s:=by
 refine ea03 (compOk_inv hok) fun hk hfree hloc hcell=>?_
 refine src.iter (target:=t) ha.handled I.zero hv fun J St s₂ nJ T hS hp2 self=>?_
 refine wpAny_newObj_type (wpAny_newFunctionEnv hcell (fun y hy=>nomatch hy) (fun h₁ hns hsb=>?_) hk)
 dsimp only at hns hsb ⊢
 have hD0:s₂.heap.get? s₂.heap.objs.size=none:=push_none _
 let D:=s₂.heap.objs.size
 have hz:(s₂.heap.push {cls:= .type "list",data:= .seq ([]:List Value).toArray}).objs.size=D+1:=Heap.size_push ..
 generalize hH2:s₂.heap.push {cls:= .type "list",data:= .seq ([]:List Value).toArray}=H2 at hns hsb hz ⊢
 let C:=H2.objs.size
 have hDC:D≠C:=by show D≠H2.objs.size;rw[hz];exact Nat.ne_of_lt (Nat.lt_succ_self _)
 have k1:∀b o,s₂.heap.get? b=some o→h₁.get? b=some o:=fun b o e=>by
  have :b<D:=Heap.lt_size e
  exact(hsb.2 b (by show b≠H2.objs.size;rw[hz];exact Nat.ne_of_lt (Nat.lt_succ_of_lt this))).trans (push_keeps _ _ _ _ (hH2▸push_keeps _ _ _ _ e))
 have hDl:h₁.get? D=some {cls:= .type "list",data:= .seq ([]:List Value).toArray}:=(hsb.2 D hDC).trans (push_keeps _ _ _ _ (hH2▸Heap.get?_push_size _ rfl))
 have hC0:s₂.heap.get? C=none:=by
  cases e:s₂.heap.get? C with
  |none=>rfl
  |some o=>
   have h1:C<D:=Heap.lt_size e
   have h2:C=D+1:=hz
   rw[h2]at h1
   exact absurd h1 (Nat.not_lt.mpr (Nat.le_succ _))
 have nD:s.heap.get? D=none:=hp2.dom1 hD0
 have nC:s.heap.get? C=none:=hp2.dom1 hC0
 have I2:Inv prog w base fr env s₂ γ σ₀ ρ:=(src.inv I).step hp2
 have hp4:Post prog w base [] (frs fr) s₂ γ σ₀ {s₂ with heap:=h₁,toks:=s₂.toks+([]:List (Str×Value)).length} γ σ₀:=Post.keeps I2.sr k1
 have hpp:=hp2.trans hp4
 have I4:=I2.step hp4
 have cne:∀q∈cl,C≠q.2:=fun q hq e=>by
  refine ea10 (hcl1 q hq) fun o ho=>?_
  rw[←e,nC]at ho;cases ho
 refine ea01 (hcl3 C cne) fun eo4 mk=>?_
 have keepC:∀q∈cl,∀o,s.heap.get? q.2=some o→∃o',h₁.get? q.2=some o'∧o'.data=o.data:=fun q hq o ho=>by
  have cm:q.2∈owns env:= .tail _ (List.mem_map.mpr ⟨q,hcl2 q hq,rfl⟩)
  refine ea10 (hpp.slots ho (fun h=>nomatch h) (I.oap _ cm).2) fun sl e=>?_
  exact⟨_,e,rfl⟩
 have fr4:=mk (γ':=γ) hns keepC (fun u v hv=>(hv.post hp2).post hp4)
 let cenv:Env:={newEnv csc C env.globals cl env.qual none .none (some env) builtinsNs with scope:=relabel csc env}
 have footD:Foot base fr γ D:=Foot.new (src.inv0 I.zero) nD
 have footC:Foot base fr γ C:=Foot.new (src.inv0 I.zero) nC
 have Ic:Inv prog w base fr cenv {s₂ with heap:=h₁,toks:=s₂.toks+([]:List (Str×Value)).length} γ σ₀ (freeOnly csc ρ):=by
  refine⟨I4.sr,I4.ff,I4.sap,fr4,fun b hb=>?_⟩
  rcases List.mem_cons.mp hb with rfl|hb
  ·exact⟨footC.1,footC.2.1⟩
  ·refine ea11 (List.mem_map.mp hb) fun q hq z1=>?_;subst z1
   exact I4.oap q.2 (.tail _ (List.mem_map.mpr ⟨q,hcl2 q hq,rfl⟩))
 have X:CompAt prog w base fr cenv [J] D s γ σ₀ [] {s₂ with heap:=h₁,toks:=s₂.toks+([]:List (Str×Value)).length} γ σ₀ (freeOnly csc ρ):=⟨hpp,Ic,⟨[],⟨0,hDl⟩,.nil⟩,footD⟩
 have S4:=T.step _ _ _ _ _ _ _ _ I2.sr hS hp4 fun b hb=>nomatch hb
 have hJ:J<D:=by
  refine ea03 (T.foot _ _ _ _ hS J (.head _)) fun _ _ _ h3=>?_;refine ea11 h3 fun o ho _=>?_;clear h3
  exact Heap.lt_size ho
 have hDF:D∉[J]:=fun h=>by
  have :=List.mem_singleton.mp h
  rw[←this]at hJ
  exact Nat.lt_irrefl _ hJ
 have hCF:C∉[J]:=fun h=>by
  have h1:=List.mem_singleton.mp h
  have h2:C=D+1:=hz
  rw[←h1,h2]at hJ
  exact absurd hJ (Nat.not_lt.mpr (Nat.le_succ _))
 have nF:∀b∈[J],s.heap.get? b=none:=fun b hb=>by rw[List.mem_singleton.mp hb];exact nJ
 have loop:codeAny (model prog w) A (.compLoop (.ListComp elt [⟨t,it,ifs,0⟩] csc pos) 0 (.ref J) (.ref D) cenv) (RR (.ref D) C) {s₂ with heap:=h₁,toks:=s₂.toks+([]:List (Str×Value)).length}:=by
  refine compLoop_ok (s₀:=s) (γ₀:=γ) (σ₀:=σ₀) (all:=ys) (σf:=σ₂) T g ha eo4 ⟨.head _,fun x c hx _=>absurd rfl (hcell _ (look_mem hx))⟩ hDF hCF hDC nC nD nF hcl1 (fun y v hy=>?_) hb (fun s' γ' h' tk i X' S' hbut=>?_) 0 [] ys X S4 hgo rfl
  ·refine ea01 (freeOnly_look ρ hy) fun h1 _=>?_
   exact congrArg locK h1
  ·have hF:∀b∈[J],s.heap.get? b=none∧base.get? b=none∧(∀p∈γ',b≠p.1∧b≠p.2)∧∃o,s'.heap.get? b=some o∧NT o:=fun b hb=>by
    refine ea03 (T.foot _ _ _ _ S' b hb) fun f1 f2 f3 h3=>?_;refine ea11 h3 fun o ho h4=>?_;clear h3;refine ea10 h4 fun us hd=>?_;clear h4
    exact⟨nF b hb,f1,f2,o,ho,fun e=>by refine ea01 e fun _ h3=>?_;clear e;refine ea20 h3 fun xs n e=>?_;clear h3;rw[hd]at e;cases e⟩
   have hp:=Post.tail' (tk:=tk) X'.post hbut hF
   obtain⟨tk',_⟩:=X'.post.sr.otherL hbut fun b hb=>⟨(hF b hb).2.1,(hF b hb).2.2.1,fun o ho=>by
    refine ea03 (hF b hb) fun _ _ _ h3=>?_;refine ea11 h3 fun o' ho' hn=>?_;clear h3
    rw[ho]at ho';cases ho';exact hn⟩
   have hth:=src.thaw I.zero hp (fun b hb=>nomatch hb)
   refine ea11 (X'.acc) fun vs hl hr=>?_
   refine ea11 (X'.inv.fram.ns) fun m hn _=>?_
   have fC:=X'.inv.oap C (.head _)
   refine hRR D C _ γ' hDC hth ⟨vs,hl.at fun o e=>hbut _ _ hDF e,hr.keep tk'⟩ X'.foot ⟨fC.1,fC.2,footC.2.2⟩ nD nC ⟨m,?_⟩
   refine ea31 hn fun o es ep ho q=>?_;clear hn
   exact⟨o,es,ep,hbut _ _ hCF ho,q⟩
 exact codeAny_compStart_list loop (self 0 _ _ _ _ _ S4 loop)
end
end Mine
end
section
namespace Mine
open PySem PySem.Calls PySem.Spec PySem.SeqAt PyProof.Rows
section
variable{prog:Program}{w:World}{base:Heap}{P:Prg}{W S:List Addr}{A:Around}{fr:List Env}{L:Addr}{s s₁ s₂:Shared}{γ γ₁ γ₂:Gh}{σ σ₀ σ₁ σ₂:Store}{env cenv:Env}{ρ ρ₁:Mine.Loc}{G B:Addr}{r:Rec}{n:Nat}{sc csc:Scope}
 {K:PySem.W.Frag}
theorem folded_ok{it:Expr}(h:isSet it=false)(x:Value):foldedSetIterable it env x=pure x:=by
 cases it<;>first |rfl|cases h
theorem foot_push{D:Addr}{vs:List Value}{ys:List AV}(x:Post prog w base W (frs fr) s γ σ s₁ γ₁ σ₁)(nD:s.heap.get? D=none)(hf:Foot base fr γ₁ D)(hl:s₁.heap.PlainList D vs.toArray)(hr:VRs s₁.heap γ₁ vs ys)(hb:ys.length≤bound):
 Post prog w base W (frs fr) s γ σ s₁ (γ₁++[(D,D)]) (σ₁++[.list ys]):=by
 refine ea10 hl fun m hm=>?_;clear hl
 have l:∃o,s₁.heap.get? D=some o∧NT o:=⟨_,hm,list_ne⟩
 exact x.adopt nD nD ⟨hf.1,hf.1⟩ (fun q hq=>⟨hf.2.1 q hq,hf.2.1 q hq⟩) l l ⟨rfl,vs,⟨m,hm⟩,by rw[hr.length];exact hb,hr.mono _ (.refl _)⟩
theorem listComp_does{t it elt:Expr}{ifs:List Expr}{pos:Pos}(g:Good prog w base P G B r n)(ha:AOK A fr L n)(eo:EnvOK G B L env sc)(I:Inv prog w base fr env s γ σ ρ)(hok:compOk sc csc=true)(hset:isSet it=false):
 VDoes prog w base P A fr L s γ σ (eval (.ListComp elt [⟨t,it,ifs,0⟩] csc pos) env) ((r.ev sc ρ σ it).bd fun v σ=>(quiet (over v σ (compGo r csc (freeOnly csc ρ) t ifs elt))).bd fun ys σ=>mkList ys σ):=by
 have hev:=g.ev it ha eo I
 refine ea03 (compOk_inv hok) fun hk hfree hloc hcell=>?_
 rw[eval_ListComp]
 cases hm:r.ev sc ρ σ it with
 |stuck=>trivial
 |exc x σ'=>
  rw[hm]at hev
  refine ea11 (comp_env eo hok I) fun cl hclos _=>?_
  exact fun Q E hE=>wpAny_comprehension_free (use:=none) rfl (folded_ok hset) hclos hk hloc (hev _ E hE)
 |ok v σ₁=>
  rw[hm]at hev
  show VDoes _ _ _ _ _ _ _ _ _ _ _ ((quiet (over v σ₁ (compGo r csc (freeOnly csc ρ) t ifs elt))).bd fun ys σ=>mkList ys σ)
  by_cases hst:over v σ₁ (compGo r csc (freeOnly csc ρ) t ifs elt)= .stuck
  ·rw[hst];trivial
  refine ea31 (over_cases hst) fun xs σ₀ th src ho=>?_
  rw[ho]
  cases hgo:compGo r csc (freeOnly csc ρ) t ifs elt xs σ₀ with
  |stuck=>trivial
  |exc x σ'=>trivial
  |ok ys σ₂=>
   show VDoes _ _ _ _ _ _ _ _ _ _ _ (mkList ys (th σ₂))
   unfold mkList
   cases hb:Nat.ble ys.length bound with
   |false=>trivial
   |true=>
    have hb:=Nat.le_of_ble_eq_true hb
    refine ea11 (comp_env eo hok I) fun cl hclos _=>?_
    refine fun Q E hQ=>wpAny_comprehension_free (use:=none) rfl (folded_ok hset) hclos hk hloc (hev _ E fun x s₁ γ₁ hp hv=>?_)
    have I1:=I.step hp
    refine ea13 (comp_env eo hok I1) fun cl' hclos' c1 c2 c3=>?_
    have hcc:cl'=cl:=by
     rw[hclos]at hclos'
     injection hclos' with e
     exact e.symm
    subst hcc
    refine comp_core (RR:=fun acc C=>compPost (model prog w) A E none Q acc C) g ha I1 hv hok src hgo hb c1 c2 c3 fun D C s' γ' hDC hp' ⟨vs,hl,hr⟩ fD fC nD nC hn=>?_
    obtain⟨m,hn⟩:=hn
    refine⟨m,hn,fun h' hs=>?_⟩
    obtain⟨o,es,ep,hoC,hdC,_⟩:=id hn
    have hbut:ButL [C] s'.heap h':=fun b o hb e=>(hs.2 b fun q=>hb (by rw[q];exact .head _)).trans e
    have hF:∀b∈[C],s₁.heap.get? b=none∧base.get? b=none∧(∀p∈γ',b≠p.1∧b≠p.2)∧∃o,s'.heap.get? b=some o∧NT o:=fun b hb=>by
     rw[List.mem_singleton.mp hb]
     exact⟨nC,fC.1,fC.2.1,o,hoC,NT.dict hdC⟩
    have hp2:=Post.tail' (tk:=s'.toks) hp' hbut hF
    obtain⟨tk',_⟩:=hp'.sr.otherL hbut fun b hb=>⟨(hF b hb).2.1,(hF b hb).2.2.1,fun o ho=>by
     refine ea03 (hF b hb) fun _ _ _ h1=>?_;refine ea11 h1 fun o' ho' hn=>?_;clear h1
     rw[ho]at ho';cases ho';exact hn⟩
    have hp3:=foot_push hp2 nD fD (hl.at fun o e=>hbut _ _ (fun h=>hDC (List.mem_singleton.mp h)) e) (hr.keep tk') hb
    have hp4:=hp.trans hp3
    have hlen:γ'.length=(th σ₂).length:=hp'.sr.len
    refine hQ (.ref D) _ _ hp4 ?_
    refine .ob (p:=(D,D)) ?_
    rw[←hlen,List.getElem?_append_right (Nat.le_refl _)]
    simp
end
end Mine
end
section
set_option backward.match.sparseCases false
namespace Mine
open PySem PySem.Calls PySem.Spec PySem.SeqAt PyProof.Rows
inductive PR(h:Heap)(γ:Gh):List (Value×Value)→List (AV×AV)→Prop
 |nil:PR h γ [] []
 |cons {k v:Value} {a b:AV} {vs:List (Value×Value)} {xs:List (AV×AV)}:VR h γ k a→VR h γ v b→PR h γ vs xs→PR h γ ((k,v)::vs) ((a,b)::xs)
theorem PR.strs{prog:Program}{w:World}{h:Heap}{γ:Gh}{vs:List (Value×Value)}{l:List (AV×AV)}(p:PR h γ vs l):∀{kvs:List (Str×AV)},strKeys l=some kvs→∃ws,Carries (strKind prog w) vs ws∧KR h γ ws kvs:=by
 induction p with
 |nil=>exact fun h=>Option.some.inj h▸⟨[],trivial,.nil⟩
 | @cons k v a b vs xs hk hv _ ih=>
   intro kvs h
   refine ea11 (Option.bind_eq_some_iff.1 (show(asStr a).bind _=_ from h)) fun x hx h=>?_
   refine ea11 (Option.map_eq_some_iff.1 h) fun l hl e=>?_
   refine ea10 (hk.asStr hx) fun t ek=>?_
   refine ea11 (ih hl) fun ws h1 h2=>?_
   exact ek▸e▸⟨(x,v)::ws,⟨isStrOf_self x t,rfl,h1⟩,.cons hv h2⟩
theorem PR.ints{prog:Program}{w:World}{h:Heap}{γ:Gh}{vs:List (Value×Value)}{l:List (AV×AV)}(p:PR h γ vs l):∀{kvs:List (Int×AV)},intKeys l=some kvs→∃ws,Carries (intKind prog w) vs ws∧KR h γ ws kvs:=by
 induction p with
 |nil=>exact fun h=>Option.some.inj h▸⟨[],trivial,.nil⟩
 | @cons k v a b vs xs hk hv _ ih=>
   intro kvs h
   refine ea11 (Option.bind_eq_some_iff.1 (show(asInt a).bind _=_ from h)) fun x hx h=>?_
   refine ea11 (Option.map_eq_some_iff.1 h) fun l hl e=>?_
   refine ea10 (hk.asInt hx) fun t ek=>?_
   refine ea11 (ih hl) fun ws h1 h2=>?_
   exact ek▸e▸⟨(x,v)::ws,⟨isInt_self x t,rfl,h1⟩,.cons hv h2⟩
theorem PR.post{prog:Program}{w:World}{base:Heap}{W S:List Addr}{s s₁:Shared}{γ γ₁:Gh}{σ σ₁:Store}(x:Post prog w base W S s γ σ s₁ γ₁ σ₁){vs:List (Value×Value)}{l:List (AV×AV)}(p:PR s.heap γ vs l):PR s₁.heap γ₁ vs l:=by
 induction p with
 |nil=>exact .nil
 |cons hk hv _ ih=>exact .cons (hk.post x) (hv.post x) ih
theorem PR.length{h:Heap}{γ:Gh}{vs:List (Value×Value)}{l:List (AV×AV)}(p:PR h γ vs l):vs.length=l.length:=by
 induction p with
 |nil=>rfl
 |cons _ _ _ ih=>exact congrArg Nat.succ ih
theorem KR.post{κ:Type}{prog:Program}{w:World}{base:Heap}{W S:List Addr}{s s₁:Shared}{γ γ₁:Gh}{σ σ₁:Store}(x:Post prog w base W S s γ σ s₁ γ₁ σ₁){vs:List (κ×Value)}{l:List (κ×AV)}(p:KR s.heap γ vs l):KR s₁.heap γ₁ vs l:=by
 refine ea11 (x.pre) fun add z1=>?_;subst z1;intro _
 exact p.mono add x.tup
section
variable{prog:Program}{w:World}{base:Heap}{P:Prg}{W S:List Addr}{A:Around}{fr:List Env}{L:Addr}{s s₁ s₂:Shared}{γ γ₁ γ₂:Gh}{σ σ₀ σ₁ σ₂:Store}{env cenv:Env}{ρ ρ₁:Mine.Loc}{G B:Addr}{r:Rec}{n:Nat}{sc csc:Scope}
 {K:PySem.W.Frag}
noncomputable def pairSem(env:Env)(pos:Pos):List (Option Expr)→List Expr→List (Sem Value×Sem Value)
 |some k::ks,v::vs=>(eval k env,eval v env >>= fun x=>standAt pos >>= fun _=>pure x)::pairSem env pos ks vs
 |_,_=>[]
theorem pairs_does{pos:Pos}(g:Good prog w base P G B r n)(ha:AOK A fr L n)(eo:EnvOK G B L env sc):∀(ks:List (Option Expr)) (vs:List Expr) {s:Shared} {γ:Gh} {σ:Store},Inv prog w base fr env s γ σ ρ→
 Does prog w base P [] A fr L s γ σ (evalPairs (pairSem env pos ks vs)) (evPairs r sc ρ ks vs σ) PR id nox
 |[],[],s,γ,σ,I=>Does.ret I.sr PR.nil
 |none::_,[],_,_,_,_=>by trivial
 |none::_,_::_,_,_,_,_=>by trivial
 |some k::ks,v::vs,s,γ,σ,I=>by
  show Does prog w base P [] A fr L s γ σ (eval k env >>= fun kv=>holding [kv] (eval v env >>= fun x=>standAt pos >>= fun _=>pure x) >>= fun vv=>holding [kv,vv] (evalPairs (pairSem env pos ks vs)) >>= fun l=>pure ((kv,vv)::l)) _ _ _ _
  refine Does.bind (g.ev k ha eo I) fun a σ₁ kv s₁ γ₁ _ hp hk=>?_
  have I1:=I.step hp
  have hv:Does prog w base P [] A fr L s₁ γ₁ σ₁ (holding [kv] (eval v env >>= fun x=>standAt pos >>= fun _=>pure x)) (r.ev sc ρ σ₁ v) VR id nox:=
   Does.hold (Does.bindR (g.ev v ha eo I1) fun b σ₂ vv s₂ γ₂ _ hp2 hv=>Does.stand (Does.ret hp2.sr hv))
  refine Does.bind hv fun b σ₂ vv s₂ γ₂ _ hp2 hv=>?_
  have I2:=I1.step hp2
  refine Does.bind (Does.hold (pairs_does g ha eo ks vs I2)) fun l σ₃ lv s₃ γ₃ _ hp3 hl=>?_
  exact Does.ret hp3.sr (.cons ((hk.post hp2).post hp3) (hv.post hp3) hl)
 |some _::_,[],_,_,_,_=>by trivial
 |[],_::_,_,_,_,_=>by trivial
theorem shape_ok{pos:Pos}:∀(ks:List (Option Expr)) (vs:List Expr),ks.all (·.isSome)=true→ks.length=vs.length→
 (evalEachOpt ks env).zip ((evalEach vs env).map fun v=>do let x←v;standAt pos;pure x)=(pairSem env pos ks vs).map fun p=>(some p.1,p.2)
 |[],[],_,_=>rfl
 |[],_::_,_,h=>by cases h
 |_::_,[],_,h=>by cases h
 |none::_,_::_,h,_=>by cases h
 |some k::ks,v::vs,h,hl=>by
  have ih:=shape_ok (pos:=pos) ks vs (by simpa using h) (by simpa using hl)
  show((some (eval k env),_)::List.zip (evalEachOpt ks env) ((evalEach vs env).map _))=_
  rw[ih];rfl
theorem pairSem_len{pos:Pos}:∀(ks:List (Option Expr)) (vs:List Expr),(pairSem env pos ks vs).length≤ks.length
 |[],_=>Nat.le_refl _
 |none::_,_=>Nat.zero_le _
 |some _::_,[]=>Nat.zero_le _
 |some _::ks,_::vs=>Nat.succ_le_succ (pairSem_len ks vs)
theorem dict_made{κ:Type}[DecidableEq κ]{knd:KeyKind prog w κ}{D:Addr}{ws:List (κ×Value)}{o:AO}{kvs:List (κ×AV)}(hp:Post prog w base [] (frs fr) s γ σ s₁ γ₁ σ₁)(nD:s.heap.get? D=none)(hf:Foot base fr γ₁ D){o1:Obj}(hD1:s₁.heap.get? D=some o1)(hN:NT o1){h':Heap}{tk:Tok}(hd:h'.DictOf knd D ws)(hs:Heap.SameBut D s₁.heap h')
 (hr:KR s₁.heap γ₁ ws kvs) (hO:∀h γ,h.DictOf knd D ws→KR h γ ws kvs→OR prog w h γ (D,D) o):Post prog w base [] (frs fr) s γ σ {s₁ with heap:=h',toks:=tk} (γ₁++[(D,D)]) (σ₁++[o])∧VR h' (γ₁++[(D,D)]) (.ref D) (.ob σ₁.length):=by
 have hbut:ButL [D] s₁.heap h':=fun b o hb e=>(hs.2 b fun q=>hb (by rw[q];exact .head _)).trans e
 have hF:∀b∈[D],s.heap.get? b=none∧base.get? b=none∧(∀p∈γ₁,b≠p.1∧b≠p.2)∧∃o,s₁.heap.get? b=some o∧NT o:=fun b hb=>by
  rw[List.mem_singleton.mp hb];exact⟨nD,hf.1,hf.2.1,o1,hD1,hN⟩
 have hp2:=Post.tail' (tk:=tk) hp hbut hF
 obtain⟨tk',_⟩:=hp.sr.otherL hbut fun b hb=>⟨(hF b hb).2.1,(hF b hb).2.2.1,fun o ho=>by
  refine ea03 (hF b hb) fun _ _ _ h1=>?_;refine ea11 h1 fun o' ho' hn=>?_;clear h1
  rw[ho]at ho';cases ho';exact hn⟩
 refine ea31 (id hd) fun o2 es ep ho2 q=>?_
 have l:∃o,h'.get? D=some o∧NT o:=⟨o2,ho2,NT.dict q.2.1⟩
 refine⟨hp2.adopt nD nD ⟨hf.1,hf.1⟩ (fun q hq=>⟨hf.2.1 q hq,hf.2.1 q hq⟩) l l (hO _ _ hd (hr.mono _ tk')),?_⟩
 refine .ob (p:=(D,D)) ?_
 rw[←hp.sr.len,List.getElem?_append_right (Nat.le_refl _)]
 simp
theorem merged_bound{κ:Type}[DecidableEq κ]{knd:KeyKind prog w κ}{l:List (AV×AV)}{h:Heap}{pv:List (Value×Value)}{ws:List (κ×Value)}(hz:Nat.ble l.length 1000=true)(hpr:PR h γ pv l)(hc:Carries knd pv ws):(merged [] ws).length≤bound:=
 Nat.le_trans (merged_length_le [] ws) (Nat.le_trans (Nat.le_of_eq (Nat.zero_add _)) (Nat.le_trans (Nat.le_of_eq (Carries.length hc)) (hpr.length▸Nat.le_trans (Nat.le_of_ble_eq_true hz) (Nat.le_of_ble_eq_true rfl))))
section
variable{ks:List (Option Expr)}{vs:List Expr}{pos:Pos}(g:Good prog w base P G B r n)(ha:AOK A fr L n)(eo:EnvOK G B L env sc)(I:Inv prog w base fr env s γ σ ρ)(hg:((Nat.ble ks.length 15&&Nat.blt 0 ks.length)&&(ks.all (·.isSome)&&Nat.beq ks.length vs.length))=true)
include hg
theorem dict_wp{κ:Type}[DecidableEq κ]{knd:KeyKind prog w κ}{Q E:Value→Shared→Prop}
 (h:wpAny (model prog w) A (evalPairs (pairSem env pos ks vs)) (fun pv s₁=>∃ws,Carries knd pv ws∧s₁.heap.DictOf knd s.heap.objs.size []∧∀h',h'.DictOf knd s.heap.objs.size (merged [] ws)→Heap.SameBut s.heap.objs.size s₁.heap h'→Q (.ref s.heap.objs.size) {s₁ with heap:=h',toks:=s₁.toks+pv.length}) E {s with heap:=s.heap.push {cls:= .type "dict",data:= .dict #[]},toks:=s.toks}):
 wpAny (model prog w) A (eval (.Dict ks vs pos) env) Q E s:=by
 have g1:=Bool.and_eq_true_iff.1 hg
 have g2:=Bool.and_eq_true_iff.1 g1.1
 have g3:=Bool.and_eq_true_iff.1 g1.2
 refine wpAny_Dict_pairs (knd:=knd) (shape_ok ks vs g3.1 (Nat.eq_of_beq_eq_true g3.2)) ?_ (Nat.le_trans (pairSem_len ks vs) (Nat.le_of_ble_eq_true g2.1)) h
 cases ks with
 |nil=>exact ffNe g2.2
 |cons k ks=>cases vs with
  |nil=>exact ffNe g3.2
  |cons v vs=>cases k with
   |none=>exact ffNe g3.1
   |some k=>exact fun e=>nomatch e
include g ha eo I
theorem dict_put{κ:Type}[DecidableEq κ]{knd:KeyKind prog w κ}{l:List (AV×AV)}{kvs kvs':List (κ×AV)}{o:AO}(hm:evPairs r sc ρ ks vs σ= .ok l σ₁)(hz:Nat.ble l.length 1000=true)
 (hw:∀{h γ pv},PR h γ pv l→∃ws,Carries knd pv ws∧KR h γ ws kvs) (hmg:∀{h γ} {ws:List (κ×Value)},KR h γ ws kvs→KR h γ (merged [] ws) kvs')
 (hO:∀{h γ D} {ws:List (κ×Value)},h.DictOf knd D ws→ws.length≤bound→KR h γ ws kvs'→OR prog w h γ (D,D) o):VDoes prog w base P A fr L s γ σ (eval (.Dict ks vs pos) env) (Mine.alloc o σ₁):=by
 have nD:s.heap.get? s.heap.objs.size=none:=push_none _
 have hp0:Post prog w base [] (frs fr) s γ σ {s with heap:=s.heap.push {cls:= .type "dict",data:= .dict #[]},toks:=s.toks} γ σ:=Post.keeps I.sr (push_keeps _ _)
 have hD0:(s.heap.push {cls:= .type "dict",data:= .dict #[]}).get? s.heap.objs.size=some {cls:= .type "dict",data:= .dict #[]}:=Heap.get?_push_size _ rfl
 have hf0:Foot base fr γ s.heap.objs.size:=Foot.new I.zero nD
 refine fun Q E hQ=>dict_wp (knd:=knd) hg ((pairs_does (pos:=pos) g ha eo ks vs (I.step hp0)).use hm _ E fun pv s₁ γ₁ hp hpr=>?_)
 refine ea11 (hw hpr) fun ws hc hr=>?_
 have hD1:=hf0.keep hp (fun h=>nomatch h) hD0
 refine⟨ws,hc,(Heap.DictOf.new s.heap).at fun o ho=>by rw[hD0]at ho;exact Option.some.inj ho▸hD1,fun h' hd hs=>?_⟩
 have hl:=merged_bound hz hpr hc
 exact(dict_made (tk:=s₁.toks+pv.length) (hp0.trans hp) nD (hf0.post hp hD0) hD1 (NT.dict rfl) hd hs (hmg hr) fun h γ a b=>hO a hl b).elim fun hp' hv'=>hQ _ _ _ hp' hv'
theorem dict_does:VDoes prog w base P A fr L s γ σ (eval (.Dict ks vs pos) env) ((evPairs r sc ρ ks vs σ).bd fun l σ=>dictA l σ):=by
 cases hm:evPairs r sc ρ ks vs σ with
 |stuck=>trivial
 |exc x σ'=>
  have hp0:Post prog w base [] (frs fr) s γ σ {s with heap:=s.heap.push {cls:= .type "dict",data:= .dict #[]},toks:=s.toks} γ σ:=Post.keeps I.sr (push_keeps _ _)
  have hev:=pairs_does (pos:=pos) g ha eo ks vs (I.step hp0)
  rw[hm]at hev
  exact fun Q E hE=>dict_wp (knd:=strKind prog w) hg (hev _ E fun v s' γ' he hx=>hE v s' γ' (he.after hp0) hx)
 |ok l σ₁=>
  refine Does.chk fun hz=>Does.opt (fun kvs hk=>?_) fun _=>Does.ofO fun kvs hi=>?_
  ·exact dict_put g ha eo I hg hm hz (fun p=>p.strs hk) (fun r=>(r.mergeS .nil List.nodup_nil).1) fun a hl b=>⟨rfl,_,a,hl,b⟩
  ·exact dict_put g ha eo I hg hm hz (fun p=>p.ints hi) (fun r=>(r.mergeI .nil List.nodup_nil).1) fun a hl b=>⟨rfl,_,a,hl,b⟩
end
end
end Mine
end
section
namespace Mine
open PySem PySem.Calls PySem.Spec PySem.SeqAt PyProof.Rows
section
variable{prog:Program}{w:World}{base:Heap}{P:Prg}{W S:List Addr}{A:Around}{fr:List Env}{L:Addr}{s s₁ s₂:Shared}{γ γ₁ γ₂:Gh}{σ σ₀ σ₁ σ₂:Store}{env cenv:Env}{ρ ρ₁:Mine.Loc}{G B:Addr}{r:Rec}{n:Nat}{sc csc:Scope}
 {K:PySem.W.Frag}
section
variable{ε α β:Type}{t:Sem β}{m:Out ε α}{rel:Heap→Gh→β→α→Prop}{gx:ε→XA}{er:Heap→Gh→ε→Prop}
theorem Does.operate{t:Sem Value}{rel:Heap→Gh→Value→α→Prop}{vs:List Value}(h:Does prog w base P W A fr L s γ σ t m rel gx er):Does prog w base P W A fr L s γ σ (PySem.operate vs t) m rel gx er:=
 h.of_wp fun _ _ x=>PyProof.Rows.wpAny_operate' x
end
theorem bool_does{op:BoolOp}{pos:Pos}(g:Good prog w base P G B r n)(ha:AOK A fr L n)(eo:EnvOK G B L env sc):∀(es:List Expr) {s:Shared} {γ:Gh} {σ:Store},Inv prog w base fr env s γ σ ρ→
 VDoes prog w base P A fr L s γ σ (boolOp pos op (evalEach es env)) (boolA r sc ρ op es σ):=by
 intro es
 induction es with
 |nil=>exact fun _=>trivial
 |cons e es ih=>
  intro s γ σ I
  cases es with
  |nil=>exact g.ev e ha eo I
  |cons e2 es=>
   show VDoes prog w base P A fr L s γ σ (eval e env >>= fun v=>standAt pos >>= fun _=>holding [v] (truthy v) >>= fun t=>match (generalizing:=false) op,t with
    | .And,false| .Or,true=>pure v
    |_,_=>boolOp pos op (evalEach (e2::es) env)) ((r.ev sc ρ σ e).bd fun v σ=>Mine.ofO (asBool v) fun b=>match goesOn op b with|true=>boolA r sc ρ op (e2::es) σ|false=> .ok v σ)
   refine Does.bind (g.ev e ha eo I) fun a σ₁ v s₁ γ₁ _ hp hv=>Does.stand (Does.ofO fun b hb=>?_)
   rw[hv.asBool hb]
   refine Does.of_wp (fun Q E h=>wpAny_bind (wpAny_holding (wpAny_truthy_bool h))) ?_
   cases op<;>cases b
   ·exact Does.ret hp.sr (asBool_inv hb▸VR.bool _)
   ·exact ih (I.step hp)
   ·exact ih (I.step hp)
   ·exact Does.ret hp.sr (asBool_inv hb▸VR.bool _)
theorem marked_ok{op:CmpOp}{e:Expr}(h:isSet e=false)(t:Sem Value):markedBehindIn op e t=t:=by
 cases e with
 |Set _ _ _=>exact nomatch h
 |_=>rfl
theorem markedEach_ok:∀(ops:List CmpOp) (es:List Expr) (ts:List (Sem Value)),es.any isSet=false→markedEach ops es ts=ts
 |[],_,_,_=>rfl
 |[op],[],_,_=>rfl
 |[op],[e],[],_=>rfl
 |[op],[e],[t],h=>by
  rw[List.any_cons,Bool.or_eq_false_iff]at h
  show[markedBehindIn op e t]=[t]
  rw[marked_ok h.1]
 |[op],[e],t::t2::ts,h=>by
  show t::markedEach [] [] (t2::ts)=_
  rfl
 |[op],e::e2::es,[],_=>rfl
 |[op],e::e2::es,t::ts,h=>by
  show t::markedEach [] (e2::es) ts=_
  rfl
 |op::op2::ops,[],_,_=>rfl
 |op::op2::ops,e::es,[],_=>rfl
 |op::op2::ops,e::es,t::ts,h=>by
  rw[List.any_cons,Bool.or_eq_false_iff]at h
  show t::markedEach (op2::ops) es ts=_
  rw[markedEach_ok (op2::ops) es ts h.2]
section
variable{pos:Pos}(Z:Env0 prog w base P G B K)(g:Good prog w base P G B r n)(ha:AOK A fr L n)(eo:EnvOK G B L env sc)
include Z g ha eo
theorem link_does{β α:Type}{rel:Heap→Gh→β→α→Prop}{e:Expr}{lv:Value}{left:AV}{f:AV→Store→Res α}{go:Value→Sem β}(I:Inv prog w base fr env s γ σ ρ)(hl:VR s.heap γ lv left)
 (h:∀{s₁:Shared} {γ₁:Gh} {σ₁:Store} {rv:Value} {b:AV},Post prog w base [] (frs fr) s γ σ s₁ γ₁ σ₁→VR s₁.heap γ₁ lv left→VR s₁.heap γ₁ rv b→Does prog w base P [] A fr L s₁ γ₁ σ₁ (go rv) (f b σ₁) rel id nox):
 Does prog w base P [] A fr L s γ σ (holding [lv] (eval e env) >>= fun rv=>standAt pos >>= fun _=>go rv) ((r.ev sc ρ σ e).bd f) rel id nox:=
 Does.bind (Does.hold (g.ev e ha eo I)) fun _ _ _ _ _ _ hp hv=>Does.stand (h hp (hl.post hp) hv)
section
variable{β α:Type}{rel:Heap→Gh→β→α→Prop}{op:CmpOp}{lv rv:Value}{left b:AV}{yes:Sem β}{no:Value→β}{m:Res α}{a:α}
noncomputable def linkSem(op:CmpOp)(lv rv:Value)(yes:Sem β)(no:Value→β):Sem β:=holding [lv,rv] (compareOp op lv rv) >>= fun c=>release [lv,rv] [c] >>= fun _=>holding [c,rv] (truthy c) >>= fun t=>if t=true then yes else pure (no c)
omit g eo in
theorem mid_true(R:SR prog w base s.heap γ σ)(hl:VR s.heap γ lv left)(hv:VR s.heap γ rv b)(hc:cmpA σ op left b=some true)(hy:∀{s' γ'},Post prog w base [] (frs fr) s γ σ s' γ' σ→Does prog w base P [] A fr L s' γ' σ yes m rel id nox):Does prog w base P [] A fr L s γ σ (linkSem op lv rv yes no) m rel id nox:=by
 refine Does.bind (m:=(.ok (.bool true) σ:Res AV)) (f:=fun _ _=>m) (Does.hold (cmp_does Z.H R ha.small hl hv hc)) fun x σ' cv s₂ γ₂ e hp hcv=>?_
 cases e
 rw[hcv.boolInv]
 exact Does.of_wp (fun Q E h=>wpAny_bind (wpAny_release (wpAny_bind (wpAny_holding (wpAny_truthy_bool h))))) (hy hp)
omit g eo in
theorem mid_false(R:SR prog w base s.heap γ σ)(hl:VR s.heap γ lv left)(hv:VR s.heap γ rv b)(hc:cmpA σ op left b=some false)(hn:∀h γ,rel h γ (no (.bool false)) a):Does prog w base P [] A fr L s γ σ (linkSem op lv rv yes no) (.ok a σ) rel id nox:=
 fun Q E hQ=>wpAny_bind (wpAny_holding ((cmp_does (A:=A) (fr:=fr) (L:=L) Z.H R ha.small hl hv hc).use rfl _ _ fun cv s₂ γ₂ hp2 hcv=>
  hcv.boolInv▸wpAny_bind (wpAny_release (wpAny_bind (wpAny_holding (wpAny_truthy_bool (wpAny_pure (hQ _ _ _ hp2 (hn _ _)))))))))
end
theorem chain_does:∀(ops:List CmpOp) (es:List Expr) {lv:Value} {left:AV} {s:Shared} {γ:Gh} {σ:Store},Inv prog w base fr env s γ σ ρ→VR s.heap γ lv left→
 VDoes prog w base P A fr L s γ σ (compareChain pos lv ops (evalEach es env)) (chainA r sc ρ left ops es σ):=by
 intro ops
 induction ops with
 |nil=>intros;trivial
 |cons op ops ih=>
  intro es lv left s γ σ I hl
  cases es with
  |nil=>trivial
  |cons e es=>
   cases ops with
   |nil=>
    cases es with
    |nil=>exact link_does Z g ha eo I hl (go:=fun rv=>operate [lv,rv] (compareOp op lv rv)) fun hp hl hv=>Does.ofO fun c hc=>Does.operate (cmp_does Z.H hp.sr ha.small hl hv hc)
    |cons e2 es=>exact link_does Z g ha eo I hl (go:=fun rv=>linkSem op lv rv (compareChain pos rv [] (evalEach (e2::es) env)) id) fun hp hl hv=>Does.ofO fun c hc=>Does.chk fun h=>ffNe h
   |cons op2 ops=>
    refine link_does Z g ha eo I hl (go:=fun rv=>linkSem op lv rv (compareChain pos rv (op2::ops) (evalEach es env)) id) fun hp hl hv=>Does.ofO fun c hc=>?_
    cases c with
    |true=>exact mid_true Z ha hp.sr hl hv hc fun hp'=>ih es ((I.step hp).step hp') (hv.post hp')
    |false=>exact mid_false Z ha hp.sr hl hv hc fun _ _=> .bool _
end
end
end Mine
end
section
namespace Mine
open PySem PySem.Calls PySem.Spec PySem.SeqAt PyProof.Rows
section
variable{prog:Program}{w:World}{base:Heap}{P:Prg}{W S:List Addr}{A:Around}{fr:List Env}{L:Addr}{s s₁ s₂:Shared}{γ γ₁ γ₂:Gh}{σ σ₀ σ₁ σ₂:Store}{env cenv:Env}{ρ ρ₁:Mine.Loc}{G B:Addr}{r:Rec}{n:Nat}{sc csc:Scope}
 {K:PySem.W.Frag}
theorem toBool_bd{α:Type}(m:Res α)(f:α→Store→Res AV):toBool (m.bd f)=m.bd fun a σ=>toBool (f a σ):=by
 cases m<;>rfl
theorem truthy_does{t:Sem Value}{m:Res AV}{k:Value→Sem Bool}(h:VDoes prog w base P A fr L s γ σ t m)(hk:∀b s' Q E,Q b s'→wpAny (model prog w) A (k (.bool b)) Q E s'):BDoes prog w base P A fr L s γ σ (t >>= k) (toBool m):=
 Does.bind h fun a σ' v s' γ' _ hp hv=>Does.ofO fun b hb=>hv.asBool hb▸fun Q E hQ=>hk b s' Q E (hQ b s' γ' (Post.refl hp.sr) rfl)
theorem Does.toBool{β α:Type}{t:Sem β}{rel:Heap→Gh→β→Bool→Prop}{o:Option α}{f:α→Res AV}(h:∀a,o=some a→Does prog w base P W A fr L s γ σ t (Mine.toBool (f a)) rel id nox):Does prog w base P W A fr L s γ σ t (Mine.toBool (Mine.ofO o f)) rel id nox:=by
 cases o with
 |none=>trivial
 |some a=>exact h a rfl
theorem testChain_does{pos:Pos}(Z:Env0 prog w base P G B K)(g:Good prog w base P G B r n)(ha:AOK A fr L n)(eo:EnvOK G B L env sc):∀(ops:List CmpOp) (es:List Expr) {lv:Value} {left:AV} {s:Shared} {γ:Gh} {σ:Store},Inv prog w base fr env s γ σ ρ→VR s.heap γ lv left→
 BDoes prog w base P A fr L s γ σ (testChain pos lv ops (evalEach es env)) (toBool (chainA r sc ρ left ops es σ)):=by
 intro ops
 induction ops with
 |nil=>intros;trivial
 |cons op ops ih=>
  intro es lv left s γ σ I hl
  cases es with
  |nil=>trivial
  |cons e es=>
   cases ops with
   |nil=>
    cases es with
    |nil=>exact(toBool_bd (r.ev sc ρ σ e) _).symm▸link_does Z g ha eo I hl (go:=fun rv=>operate [lv,rv] (compareOp op lv rv) >>= fun c=>holding [c] (truthy c)) fun hp hl hv=>Does.toBool fun c hc=>truthy_does (m:= .ok (.bool c) _) (Does.operate (cmp_does Z.H hp.sr ha.small hl hv hc)) fun b s' Q E h=>wpAny_holding (wpAny_truthy_bool h)
    |cons e2 es=>exact(toBool_bd (r.ev sc ρ σ e) _).symm▸link_does Z g ha eo I hl (go:=fun rv=>linkSem op lv rv (testChain pos rv [] (evalEach (e2::es) env)) fun _=>false) fun hp hl hv=>Does.toBool fun c hc=>trivial
   |cons op2 ops=>
    refine(toBool_bd (r.ev sc ρ σ e) _).symm▸link_does Z g ha eo I hl (go:=fun rv=>linkSem op lv rv (testChain pos rv (op2::ops) (evalEach es env)) fun _=>false) fun hp hl hv=>Does.toBool fun c hc=>?_
    cases c with
    |true=>exact mid_true Z ha hp.sr hl hv hc fun hp'=>ih es ((I.step hp).step hp') (hv.post hp')
    |false=>exact mid_false Z ha hp.sr hl hv hc fun _ _=>rfl
theorem natOf_inv{v:AV}{k:Nat}(h:natOf v=some k):asInt v=some (k:Int):=by
 unfold natOf at h
 cases hv:asInt v with
 |none=>rw[hv]at h;exact noneNe h
 |some i=>
  rw[hv]at h;dsimp only at h
  cases hi:decide (0≤i)with
  |false=>rw[hi]at h;exact noneNe h
  |true=>
   rw[hi]at h
   exact Option.some.inj h▸congrArg some (Int.toNat_of_nonneg (of_decide_eq_true hi)).symm
theorem optNat_does{e:Option Expr}(g:Good prog w base P G B r n)(ha:AOK A fr L n)(eo:EnvOK G B L env sc)(I:Inv prog w base fr env s γ σ ρ):
 Does prog w base P [] A fr L s γ σ (valueOrNone (evalOpt e env)) (optNat r sc ρ e σ) (fun _ _ v o=>NatPart v o) id nox:=by
 cases e with
 |none=>exact Does.ret I.sr NatPart.none
 |some e=>
  have hev:=g.ev e ha eo I
  show Does prog w base P [] A fr L s γ σ (eval e env) ((r.ev sc ρ σ e).bd fun v σ=>Mine.ofO (natOf v) fun n=> .ok (some n) σ) _ _ _
  cases hm:r.ev sc ρ σ e with
  |stuck=>trivial
  |exc x σ'=>rw[hm]at hev;exact hev
  |ok v σ'=>
   rw[hm]at hev
   exact Does.ofO fun k hk Q E hQ=>hev Q E fun b s' γ' hp hv=>hQ b s' γ' hp ((hv.asInt (natOf_inv hk)).elim fun t e=>e▸NatPart.int _ t)
theorem slicePart_does{lo hi:Option Expr}{p:Pos}(g:Good prog w base P G B r n)(ha:AOK A fr L n)(eo:EnvOK G B L env sc)(I:Inv prog w base fr env s γ σ ρ):
 Does prog w base P [] A fr L s γ σ (eval (.Slice lo hi none p) env) ((optNat r sc ρ lo σ).bd fun l σ=>(optNat r sc ρ hi σ).bd fun h σ=> .ok (l,h) σ) SlR id nox:=by
 show Does prog w base P [] A fr L s γ σ (valueOrNone (evalOpt lo env) >>= fun l=>holding [l] (valueOrNone (evalOpt hi env)) >>= fun u=>holding [l,u] (valueOrNone (evalOpt none env)) >>= fun st=>newFields "slice" [l,u,st]) _ _ _ _
 refine Does.bind (optNat_does g ha eo I) fun a σ₁ lv s₁ γ₁ _ hp hl=>?_
 have I1:=I.step hp
 refine Does.bind (Does.hold (optNat_does g ha eo I1)) fun b σ₂ uv s₂ γ₂ _ hp2 hu=>?_
 refine Does.leaf hp2.sr fun Q E hQ=>wpAny_bind (wpAny_holding (wpAny_pure ?_))
 unfold newFields
 refine wpAny_newObj_type ?_ (by size_fits)
 exact hQ _ _ s₂.toks (push_keeps _ _) ⟨_,lv,uv,rfl,⟨_,Heap.get?_push_size _ rfl,rfl,rfl⟩,hl,hu⟩
theorem index_does{value slice:Expr}{pos:Pos}(g:Good prog w base P G B r n)(ha:AOK A fr L n)(eo:EnvOK G B L env sc)(I:Inv prog w base fr env s γ σ ρ)
 (hs:∀o i,subscripted slice false o i=operate [o,i] (getItem o i)):
 VDoes prog w base P A fr L s γ σ (eval (.Subscript value slice pos) env) ((r.ev sc ρ σ value).bd fun ov σ=>(r.ev sc ρ σ slice).bd fun iv σ=>orStuck (itemA σ ov iv) σ):=by
 show VDoes prog w base P A fr L s γ σ (eval value env >>= fun o=>holding [o] (eval slice env) >>= fun i=>standAt pos >>= fun _=>subscriptTail value slice o i) _
 refine Does.bind (g.ev value ha eo I) fun a σ₁ ov s₁ γ₁ _ hp ho=>?_
 have I1:=I.step hp
 refine Does.bind (Does.hold (g.ev slice ha eo I1)) fun b σ₂ iv s₂ γ₂ _ hp2 hi=>Does.stand ?_
 cases hz:itemA σ₂ a b with
 |none=>trivial
 |some z=>exact item_does hs hp2.sr (ho.post hp2) hi hz
theorem part_does{value:Expr}{lo hi:Option Expr}{p pos:Pos}(Z:Env0 prog w base P G B K)(g:Good prog w base P G B r n)(ha:AOK A fr L n)(eo:EnvOK G B L env sc)(I:Inv prog w base fr env s γ σ ρ):
 VDoes prog w base P A fr L s γ σ (eval (.Subscript value (.Slice lo hi none p) pos) env) ((r.ev sc ρ σ value).bd fun ov σ=>(optNat r sc ρ lo σ).bd fun l σ=>(optNat r sc ρ hi σ).bd fun h σ=>sliceA P σ ov (l.getD 0) h):=by
 show VDoes prog w base P A fr L s γ σ (eval value env >>= fun o=>holding [o] (eval (.Slice lo hi none p) env) >>= fun i=>standAt pos >>= fun _=>subscriptTail value (.Slice lo hi none p) o i) _
 refine Does.bind (g.ev value ha eo I) fun a σ₁ ov s₁ γ₁ _ hp ho=>?_
 have I1:=I.step hp
 have e:((optNat r sc ρ lo σ₁).bd fun l σ=>(optNat r sc ρ hi σ).bd fun h σ=>sliceA P σ a (l.getD 0) h)=((optNat r sc ρ lo σ₁).bd fun l σ=>(optNat r sc ρ hi σ).bd fun h σ=> .ok (l,h) σ).bd fun q σ=>sliceA P σ a (q.1.getD 0) q.2:=by
  cases optNat r sc ρ lo σ₁ with
  |stuck=>rfl
  |exc=>rfl
  |ok l σ₂=>
   show(optNat r sc ρ hi σ₂).bd _=((optNat r sc ρ hi σ₂).bd _).bd _
   cases optNat r sc ρ hi σ₂<;>rfl
 rw[e]
 refine Does.bind (Does.hold (slicePart_does g ha eo I1)) fun q σ₂ iv s₂ γ₂ _ hp2 hi=>Does.stand ?_
 exact slice_does Z.H hp2.sr (ho.post hp2) hi fun _ _=>rfl
noncomputable def JDoes(prog:Program)(w:World)(base:Heap)(P:Prg)(A:Around)(fr:List Env)(L:Addr)(s:Shared)(γ:Gh)(σ:Store)(ts:List (Sem Value))(acc:Str)(m:Res Str):Prop:=match m with
 | .stuck=>True
 | .ok x σ'=>∀(Q:Str→Shared→Prop) (E:Value→Shared→Prop),(∀s' γ',Post prog w base [] (frs fr) s γ σ s' γ' σ'→joinOk x=true→Q x s')→Joins (model prog w) A E ts acc Q s
 | .exc x σ'=>∀(Q:Str→Shared→Prop) (E:Value→Shared→Prop),(∀v s' γ',EX prog w base P [] (frs fr) L s γ σ s' γ' σ' v x→E v s')→Joins (model prog w) A E ts acc Q s
section
variable{ts:List (Sem Value)}{acc:Str}
theorem JDoes.chk{b:Bool}{m:Res Str}(h:b=true→JDoes prog w base P A fr L s γ σ ts acc m):JDoes prog w base P A fr L s γ σ ts acc (Mine.chk b m):=by
 cases b with
 |true=>exact h rfl
 |false=>trivial
theorem JDoes.ofO{α:Type}{o:Option α}{f:α→Res Str}(h:∀a,o=some a→JDoes prog w base P A fr L s γ σ ts acc (f a)):JDoes prog w base P A fr L s γ σ ts acc (Mine.ofO o f):=by
 cases o with
 |some a=>exact h a rfl
 |none=>trivial
theorem joinOk_le{x:Str}(h:joinOk x=true):x.length≤sizeLine:=bound_size (Nat.le_of_ble_eq_true h)
set_option tactic.hygienic true in
theorem join_next{x:Str}{m:Res Str}{t:Sem Value}(hj:joinOk (acc++x)=true)
 (road:∀(Q E:Value→Shared→Prop),(∀k s' γ',Post prog w base [] (frs fr) s γ σ s' γ' σ₁→Q (.str x k) s')→wpAny (model prog w) A t Q E s)
 (next:∀{s' γ'},Post prog w base [] (frs fr) s γ σ s' γ' σ₁→JDoes prog w base P A fr L s' γ' σ₁ ts (acc++x) m):JDoes prog w base P A fr L s γ σ (t::ts) acc m:=by
 cases m with
 |stuck=>trivial
 |ok y σ'=>exact fun Q E hQ=>road _ E fun k s' γ' hp=>⟨x,k,rfl,joinOk_le hj,next hp Q E fun s'' γ'' hp'=>hQ s'' γ'' (hp.trans hp')⟩
 |exc y σ'=>exact fun Q E hE=>road _ E fun k s' γ' hp=>⟨x,k,rfl,joinOk_le hj,next hp Q E fun v s'' γ'' he=>hE v s'' γ'' (he.after hp)⟩
theorem smallInt_inv{v:AV}{i:Int}(h:smallInt v=some i):asInt v=some i∧i.natAbs.log2<1920:=by
 unfold smallInt at h
 cases hv:asInt v with
 |none=>rw[hv]at h;exact noneNe h
 |some k=>
  rw[hv]at h;dsimp only at h
  cases hi:decide (0≤k∧k<1000)with
  |false=>rw[hi]at h;exact noneNe h
  |true=>
   rw[hi]at h
   have hk:=of_decide_eq_true hi
   rw[←Option.some.inj h]
   refine⟨rfl,Nat.lt_of_le_of_lt (Nat.log2_le_self _) (Int.ofNat_lt.1 ?_)⟩
   rw[Int.natAbs_of_nonneg hk.1]
   exact Int.lt_trans hk.2 (by decide)
end
theorem join_does(g:Good prog w base P G B r n)(ha:AOK A fr L n)(eo:EnvOK G B L env sc):∀(es:List Expr) (acc:Str) {s:Shared} {γ:Gh} {σ:Store},joinOk acc=true→Inv prog w base fr env s γ σ ρ→JDoes prog w base P A fr L s γ σ (evalEach es env) acc (joinA r sc ρ es acc σ):=by
 intro es
 induction es with
 |nil=>exact fun acc s γ σ hacc I Q E hQ=>hQ s γ (Post.refl I.sr) hacc
 |cons e es ih=>
  intro acc s γ σ hacc I
  show JDoes prog w base P A fr L s γ σ (eval e env::evalEach es env) acc (els (constV e) (fun q=>Mine.ofO (asText q.1) fun x=>Mine.chk (joinOk (acc++x)) (joinA r sc ρ es (acc++x) σ))
   (Mine.ofO (fmtV e) fun q=>Mine.chk (decide (q.2.1= -1)&&q.2.2.1.isNone) ((r.ev sc ρ σ q.1).bd fun v σ=>Mine.ofO (smallInt v) fun i=>Mine.chk (joinOk (acc++(toString i:Str))) (joinA r sc ρ es (acc++(toString i:Str)) σ))))
  cases hc:constV e with
  |some q=>
   refine JDoes.ofO fun x hx=>JDoes.chk fun hj=>join_next hj (σ₁:=σ) (fun Q E h=>?_) fun hp=>ih _ hj (I.step hp)
   rw[constV_inv hc,asText_inv hx]
   exact const_does (A:=A) (fr:=fr) (L:=L) (env:=env) (P:=P) I.sr (show constA (.str x)=some (.str x)from rfl) Q E fun v s' γ' hp hv=>hv.strInv.elim fun k e=>e▸h k s' γ' hp
  |none=>
   refine JDoes.ofO fun q hq=>JDoes.chk fun hb=>?_
   have hb:=Bool.and_eq_true_iff.1 hb
   have e2:q.2.2.1=none:=by
    cases h:q.2.2.1 with
    |none=>rfl
    |some _=>rw[h]at hb;exact ffNe hb.2
   rw[fmtV_inv hq,of_decide_eq_true hb.1,e2]
   have hev:=g.ev q.1 ha eo I
   cases hm:r.ev sc ρ σ q.1 with
   |stuck=>trivial
   |exc x σ'=>
    rw[hm]at hev
    exact fun Q E hE=>wpAny_FormattedValue_plain (hev _ E fun v s' γ' he _=>hE v s' γ' he)
   |ok v σ₁=>
    rw[hm]at hev
    refine JDoes.ofO fun i hi=>JDoes.chk fun hj=>join_next hj (σ₁:=σ₁) (fun Q E h=>wpAny_FormattedValue_plain (hev _ E fun v s' γ' hp hv=>?_)) fun hp=>ih _ hj (I.step hp)
    have hi:=smallInt_inv hi
    exact(hv.asInt hi.1).elim fun k e=>e▸PySem.wpAny_formatField_int hi.2 (h _ _ γ' (hp.trans (Post.keeps (h:=s'.heap) (tk:=s'.toks+1+1) hp.sr fun _ _ e=>e)))
end
end Mine
end
section
namespace Mine
open PySem PySem.Calls PySem.Spec PySem.SeqAt PyProof.Rows
section
variable{prog:Program}{w:World}{base:Heap}{P:Prg}{W S:List Addr}{A:Around}{fr:List Env}{L:Addr}{s s₁ s₂:Shared}{γ γ₁ γ₂:Gh}{σ σ₀ σ₁ σ₂:Store}{env cenv:Env}{ρ ρ₁:Mine.Loc}{G B:Addr}{r:Rec}{n:Nat}{sc csc:Scope}
 {K:PySem.W.Frag}
theorem strs_are{h:Heap}{γ:Gh}{vs:List Value}{xs:List AV}(r:VRs h γ vs xs):∀{l:List Str},strs? xs=some l→StrsAre vs l:=by
 induction xs generalizing vs with
 |nil=>cases r with|nil=>exact fun e=>Option.some.inj e▸ .nil
 |cons x xs ih=>
  intro l e
  refine ea22 (r.consInv) fun v us z1=>?_;subst z1;intro hv r
  refine ea11 (Option.bind_eq_some_iff.1 (show(asStr x).bind _=_ from e)) fun y hy e=>?_
  refine ea11 (Option.map_eq_some_iff.1 e) fun ys hys e=>?_
  refine ea10 (hv.asStr hy) fun k ek=>?_
  exact ek▸e▸ .cons y k (ih r hys)
theorem cps_ext{a b:Str}(h:a.cps.toList=b.cps.toList):a=b:=by
 cases a;cases b
 exact congrArg Str.mk (Array.toList_inj.mp h)
theorem sortU_inv{l ys:List Str}(hy:sortU l=some ys):(l=[]∧ys=[])∨(∃a,l=[a]∧ys=[a])∨∃a b,l=[a,b]∧((a=b∧ys=[a])∨(a≠b∧((a.cps.toList<b.cps.toList∧ys=[a,b])∨(¬a.cps.toList<b.cps.toList∧ys=[b,a])))):=by
 cases l with
 |nil=>exact .inl ⟨rfl,(Option.some.inj hy).symm⟩
 |cons a l=>
  cases l with
  |nil=>exact .inr (.inl ⟨a,rfl,(Option.some.inj hy).symm⟩)
  |cons b l=>
   cases l with
   |cons _ _=>exact noneNe hy
   |nil=>
    refine .inr (.inr ⟨a,b,rfl,?_⟩)
    have hy:(match sEq a b with|true=>some [a]|false=>match decide (a.cps.toList<b.cps.toList)with|true=>some [a,b]|false=>some [b,a])=some ys:=hy
    cases e:sEq a b with
    |true=>rw[e]at hy;exact .inl ⟨(sEq_iff _ _).mp e,(Option.some.inj hy).symm⟩
    |false=>
     rw[e]at hy;dsimp only at hy
     refine .inr ⟨sEq_false.mp e,?_⟩
     cases h:decide (a.cps.toList<b.cps.toList)with
     |true=>rw[h]at hy;exact .inl ⟨of_decide_eq_true h,(Option.some.inj hy).symm⟩
     |false=>rw[h]at hy;exact .inr ⟨of_decide_eq_false h,(Option.some.inj hy).symm⟩
theorem sortU_len{l ys:List Str}(hy:sortU l=some ys):l.length≤2∧ys.length≤2:=by
 rcases sortU_inv hy with ⟨rfl,rfl⟩|⟨a,rfl,rfl⟩|⟨a,b,rfl,⟨_,rfl⟩|⟨_,⟨_,rfl⟩|⟨_,rfl⟩⟩⟩<;>exact⟨Nat.le_of_ble_eq_true rfl,Nat.le_of_ble_eq_true rfl⟩
theorem dd_one(a:Str):dd [] [a]=[a]:=by show dd (if a∈([]:List Str)then _ else _) []=_;rw[if_neg List.not_mem_nil];rfl
theorem dd_same(a:Str):dd [] [a,a]=[a]:=by show dd (if a∈([]:List Str)then _ else _) [a]=_;rw[if_neg List.not_mem_nil];show dd (if a∈[a]then _ else _) []=_;rw[if_pos (.head _)];rfl
theorem dd_two{a b:Str}(h:a≠b):dd [] [a,b]=[a,b]:=by show dd (if a∈([]:List Str)then _ else _) [b]=_;rw[if_neg List.not_mem_nil];show dd (if b∈[a]then _ else _) []=_;rw[if_neg fun m=>h (List.mem_singleton.1 m).symm];rfl
theorem perm_two{a b:Str}{ks:List Str}(h:ks.Perm [a,b]):ks=[a,b]∨ks=[b,a]:=by
 cases ks with
 |nil=>exact absurd h.length_eq (Nat.ne_of_lt (Nat.le_of_ble_eq_true rfl))
 |cons x ks=>
  rcases List.mem_cons.1 (h.mem_iff.1 (.head _))with rfl|hx
  ·exact .inl (congrArg _ (List.perm_singleton.1 ((List.perm_cons x).1 h)))
  ·cases List.mem_singleton.1 hx
   exact .inr (congrArg _ (List.perm_singleton.1 ((List.perm_cons b).1 (h.trans (List.Perm.swap b a [])))))
theorem sorted_two{a b:Str}(h:PyProof.Rows.sortedS [a,b]=true):¬b.cps.toList<a.cps.toList:=fun hl=>by
 have h1:(!ltCps b.cps.toList a.cps.toList&&true)=true:=h
 rw[ltCps_eq,decide_eq_true hl]at h1
 exact ffNe h1
theorem sortU_is{l ys ks:List Str}(hy:sortU l=some ys)(hp:ks.Perm (dd [] l))(hs:PyProof.Rows.sortedS ks=true):ks=ys:=by
 rcases sortU_inv hy with ⟨rfl,rfl⟩|⟨a,rfl,rfl⟩|⟨a,b,rfl,⟨rfl,rfl⟩|⟨hne,hc⟩⟩
 ·exact List.perm_nil.mp hp
 ·exact List.perm_singleton.mp (dd_one a▸hp)
 ·exact List.perm_singleton.mp (dd_same a▸hp)
 ·rw[dd_two hne]at hp
  rcases hc with ⟨hl,rfl⟩|⟨hl,rfl⟩<;>rcases perm_two hp with rfl|rfl
  ·rfl
  ·exact absurd hl (sorted_two hs)
  ·exact absurd (cps_ext (List.le_antisymm (List.not_lt.mp (sorted_two hs)) (List.not_lt.mp hl))) hne
  ·rfl
theorem dd_le:∀(l acc:List Str),(dd acc l).length≤acc.length+l.length
 |[],acc=>Nat.le_refl _
 |x::r,acc=>by
  show(dd (if x∈acc then acc else acc++[x]) r).length≤_
  refine Nat.le_trans (dd_le r _) ?_
  rw[List.length_cons,←Nat.succ_add_eq_add_succ]
  refine Nat.add_le_add_right ?_ _
  split
  ·exact Nat.le_succ _
  ·exact Nat.le_of_eq List.length_append
theorem Post.drawn{W S:List Addr}{s':Shared}{γ':Gh}{σ':Store}(x:Post prog w base W S s γ σ s' γ' σ')(d:Drawn):Post prog w base W S s γ σ {s' with drawn:=d} γ' σ':=
 ⟨let ⟨h,t,_,e⟩:=x.same;⟨h,t,d,by rw[e]⟩,x.pre,x.ext,x.tup,x.dom,x.frz,x.sr⟩
theorem sortset_core{v:Value}{x:AV}{q:Nat×List AV}{l ys:List Str}(R:SR prog w base s.heap γ σ)(hh:A.handled=none)(hv:VR s.heap γ v x)(hx:listOf σ x=some q)(hl:strs? q.2=some l)(hy:sortU l=some ys)
 {Q:Value→Shared→Prop} {E:Value→Shared→Prop} (hQ:∀D h' tk d,(∀b o,s.heap.get? b=some o→h'.get? b=some o)→s.heap.get? D=none→(∃vs:List Value,h'.PlainList D vs.toArray∧StrsAre vs ys)→Q (.ref D) {s with heap:=h',toks:=tk,drawn:=d}):
 wpAny (model prog w) A (PySem.call (.type "set") [v]) (fun sv s'=>wpAny (model prog w) A (PySem.call (.builtin "sorted") [sv]) Q E s') E s:=by
 refine ea24 (R.list hv hx) fun p vs z1=>?_;subst z1;intro _ hpl hb hr
 have hst:=strs_are hr hl
 have h2:=(sortU_len hy).1
 have hd2:(dd [] l).length≤2:=Nat.le_trans (dd_le l []) ((Nat.zero_add _).symm▸h2)
 refine set_call hh hpl.isList hst (Nat.le_trans (StrsAre.length hst▸h2) (by decide)) fun h' tk hG hk=>?_
 refine setG_sorted (s:={s with heap:=h',toks:=tk}) hh hG (Nat.lt_of_le_of_lt hd2 (by decide)) fun D h'' tk' d hk' nD ⟨us,ks,m,hD,hus,hp,hs⟩=>?_
 refine hQ D h'' tk' d (fun b o e=>hk' b o (hk b o e)) ?_ ⟨us,⟨m,hD⟩,sortU_is hy hp hs▸hus⟩
 cases q:s.heap.get? D with
 |none=>rfl
 |some o=>exact noneNe ((show h'.get? D=none from nD).symm.trans (hk _ _ q))
theorem strs_vr{h:Heap}{γ:Gh}{vs:List Value}{ys:List Str}(h1:StrsAre vs ys):VRs h γ vs (ys.map .str):=by
 induction h1 with
 |nil=>exact .nil
 |cons y t _ ih=>exact .cons (.str y t) ih
theorem isBuiltinFn_inv{v:Option AV}{id:String}(h:isBuiltinFn v id=true):v=some (.fix (.builtin id)):=by
 cases v with
 |none=>exact ffNe h
 |some v=>
  cases v with
  |fix u=>
   cases u with
   |builtin i=>exact eq_of_beq h▸rfl
   |_=>exact ffNe h
  |_=>exact ffNe h
theorem isTypeFn_inv{v:Option AV}{id:String}(h:isTypeFn v id=true):v=some (.fix (.type id)):=by
 cases v with
 |none=>exact ffNe h
 |some v=>
  cases v with
  |fix u=>
   cases u with
   |type i=>exact eq_of_beq h▸rfl
   |_=>exact ffNe h
  |_=>exact ffNe h
theorem sorted_does{x y:Str}{p1 p2 p3 p4:Pos}{e:Expr}(Z:Env0 prog w base P G B K)(g:Good prog w base P G B r n)(ha:AOK A fr L n)(eo:EnvOK G B L env sc)(I:Inv prog w base fr env s γ σ ρ)
 (hx:nameA P sc ρ x=some (.fix (.builtin "sorted"))) (hy:nameA P sc ρ y=some (.fix (.type "set"))) (he:star? e=false):
 VDoes prog w base P A fr L s γ σ (eval (.Call (.Name x p1) [.Call (.Name y p2) [e] [] p3] [] p4) env) ((r.ev sc ρ σ e).bd sortA):=by
 have hev:∀{s':Shared} {γ':Gh},Post prog w base [] (frs fr) s γ σ s' γ' σ→VDoes prog w base P A fr L s' γ' σ (eval e env) (r.ev sc ρ σ e):=fun hp=>g.ev e ha eo (I.step hp)
 have road:∀(Q E:Value→Shared→Prop),(∀s' γ',Post prog w base [] (frs fr) s γ σ s' γ' σ→wpAny (model prog w) A (eval e env) (fun v s₂=>wpAny (model prog w) A (PySem.call (.type "set") [v]) (fun sv s₃=>wpAny (model prog w) A (PySem.call (.builtin "sorted") [sv]) Q E s₃) E s₂) E s')→
  wpAny (model prog w) A (eval (.Call (.Name x p1) [.Call (.Name y p2) [e] [] p3] [] p4) env) Q E s:=by
  intro Q E h
  refine wpAny_Call_NameR (name_does (A:=A) (fr:=fr) (L:=L) (pos:=p1) Z.H I eo hx _ E fun f s₁ γ₁ hp hf=>?_)
  rw[hf.fixInv]
  show wpAny (model prog w) A (callWith p4 (.builtin "sorted") [] (backTo p4 (starEach [.Call (.Name y p2) [e] [] p3] env)) []) Q E s₁
  refine callWith_builtin rfl (evalArgs_plain ?_)
  refine spliced_cons (wpAny_Call_NameR (name_does (A:=A) (fr:=fr) (L:=L) (pos:=p2) Z.H (I.step hp) eo hy _ E fun f s₂ γ₂ hp2 hf=>?_))
  rw[hf.fixInv,starEach_cons he]
  refine PySem.callWith_type rfl (evalArgs_plain (spliced_cons ?_))
  refine wpAny_mono (h s₂ γ₂ (hp.trans hp2)) (fun v s₃ h3=>spliced_nil ?_) fun _ _ e=>e
  exact wpAny_mono h3 (fun sv s₄ h4=>spliced_nil h4) fun _ _ e=>e
 cases hm:r.ev sc ρ σ e with
 |stuck=>trivial
 |exc xx σ'=>
  refine fun Q E hE=>road Q E fun s' γ' hp=>?_
  have :=hev hp
  rw[hm]at this
  exact this _ E fun v s'' γ'' he hx=>hE v s'' γ'' (he.after hp) hx
 |ok v σ₁=>
  refine Does.ofO fun q hq=>Does.ofO fun l hl=>Does.ofO fun ys hu Q E hQ=>road Q E fun s' γ' hp=>?_
  have :=hev hp
  rw[hm]at this
  refine this _ E fun v s₂ γ₂ hp2 hv=>sortset_core hp2.sr ha.handled hv hq hl hu fun D h' tk d hk nD ⟨vs,⟨m,hm'⟩,hst⟩=>?_
  have hr:=strs_vr (h:=h') (γ:=γ₂) hst
  have hb:vs.length≤bound:=Nat.le_trans (hr.length.trans (List.length_map _)▸(sortU_len hu).2) (Nat.le_of_ble_eq_true rfl)
  have hp3:Post prog w base [] (frs fr) s₂ γ₂ σ₁ {s₂ with heap:=h',toks:=tk} (γ₂++[(D,D)]) (σ₁++[.list (ys.map .str)]):=
   Post.push hp2.sr hk nD nD ⟨_,hm',list_ne⟩ ⟨_,hm',list_ne⟩ ⟨rfl,vs,⟨m,hm'⟩,hb,strs_vr hst⟩
  exact hQ (.ref D) _ _ (((hp.trans hp2).trans hp3).drawn d) (VR.of_push (p:=(D,D)) hp2.sr.len)
theorem base_ok{o:Expr}{name:Str}(h:baseOk o=true):attributeBase o name env (eval o env)=eval o env:=by
 cases o with
 |Call f a k p=>
  cases f with
  |Name id q=>
   cases a with
   |nil=>cases k with
    |nil=>exact ffNe h
    |cons=>rfl
   |cons=>rfl
  |_=>rfl
 |_=>rfl
theorem call_eq{f:Expr}{args:List Expr}{pos:Pos}(hf:attrV f=none):eval (.Call f args [] pos) env=(eval f env >>= fun fv=>callWith pos fv [] (backTo pos (starEach args env)) (backToKw pos (keywordEach [] env))):=by
 cases f with
 |Attribute _ _ _=>exact noneNe hf.symm
 |_=>rfl
theorem sortedSet_inv{f:Expr}{args:List Expr}{e:Expr}(h:sortedSet? P sc ρ f args=some e):∃v:SortV,sortV f args=some v∧nameA P sc ρ v.x=some (.fix (.builtin "sorted"))∧nameA P sc ρ v.c.x=some (.fix (.type "set"))∧star? e=false∧v.e=e:=by
 unfold sortedSet? at h
 cases hv:sortV f args with
 |none=>rw[hv]at h;exact noneNe h
 |some v=>
  rw[hv]at h;dsimp only at h
  cases hb:isBuiltinFn (nameA P sc ρ v.x) "sorted"&&isTypeFn (nameA P sc ρ v.c.x) "set"&& !star? v.e with
  |false=>rw[hb]at h;exact noneNe h
  |true=>
   rw[hb]at h
   have h1:=Bool.and_eq_true_iff.1 hb
   have h2:=Bool.and_eq_true_iff.1 h1.1
   have h:=Option.some.inj h
   refine⟨v,rfl,isBuiltinFn_inv h2.1,isTypeFn_inv h2.2,h▸?_,h⟩
   cases hs:star? v.e with
   |false=>rfl
   |true=>rw[hs]at h1;exact ffNe h1.2
theorem notB{b:Bool}(h:(!b)=true):b=false:=by cases b with
 |false=>rfl
 |true=>exact ffNe h
theorem call_does{f:Expr}{args:List Expr}{pos:Pos}(Z:Env0 prog w base P G B K)(g:Good prog w base P G B r n)(ha:AOK A fr L (n+1))(eo:EnvOK G B L env sc)(I:Inv prog w base fr env s γ σ ρ):
 VDoes prog w base P A fr L s γ σ (eval (.Call f args [] pos) env) (callE P r sc ρ σ f args pos):=by
 have ha':=ha.less (Nat.le_succ n)
 refine Does.opt (fun e he=>?_) fun _=>Does.chk fun hs=>Does.opt (fun a hf=>Does.chk fun hb=>?_) fun hf=>?_
 ·refine ea14 (sortedSet_inv he) fun v hv h1 h2 h3 z1=>?_;subst z1
  have h:=sortV_inv hv
  rw[h.1,h.2]
  exact sorted_does Z g ha' eo I h1 h2 h3
 ·have hb:=Bool.and_eq_true_iff.1 hb
  have h2:=Bool.and_eq_true_iff.1 hb.2
  rw[attrV_inv hf]
  show VDoes prog w base P A fr L s γ σ (attributeBase a.1 a.2.1 env (eval a.1 env) >>= fun ov=>standAt a.2.2.atName >>= fun _=>methodCall a.1 a.2.1 a.2.2 pos env ov (args.length+([]:List Keyword).length) (backTo pos (starEach args env)) (backToKw pos (keywordEach [] env))) _
  rw[base_ok hb.1]
  exact Does.bind (g.ev a.1 ha' eo I) fun x σ₁ ov s₁ γ₁ _ hp hv=>Does.stand (Does.ofO fun k hk=>meth_does Z g ha eo (I.step hp) (notB hs) (beq_iff_eq.2 (Nat.eq_of_beq_eq_true h2.1)) h2.2 hv hk)
 ·exact Does.tree (call_eq hf) (Does.bind (g.ev f ha' eo I) fun a σ₁ fv s₁ γ₁ _ hp hv=>callApply_does Z g ha eo (I.step hp) (notB hs) hv)
end
end Mine
end
section
namespace Mine
open PySem PySem.Calls PySem.Spec PySem.SeqAt PyProof.Rows
section
variable{prog:Program}{w:World}{base:Heap}{P:Prg}{W S:List Addr}{A:Around}{fr:List Env}{L:Addr}{s s₁ s₂:Shared}{γ γ₁ γ₂:Gh}{σ σ₀ σ₁ σ₂:Store}{env cenv:Env}{ρ ρ₁:Mine.Loc}{G B:Addr}{r:Rec}{n:Nat}{sc csc:Scope}
 {K:PySem.W.Frag}
theorem newTuple_does{pos:Pos}{es:List Expr}{k:Nat}(g:Good prog w base P G B r n)(ha:AOK A fr L n)(eo:EnvOK G B L env sc)(I:Inv prog w base fr env s γ σ ρ)(hs:es.any star? =false):
 VDoes prog w base P A fr L s γ σ (eval (.Tuple es k pos) env) ((evs r sc ρ es σ).bd fun vs σ=>mkTup vs σ):=by
 show VDoes prog w base P A fr L s γ σ (standAt pos >>= fun _=>spliced (backTo pos (starEach es env)) >>= fun vs=>newTuple vs) _
 refine Does.stand (Does.bind (evs_does g ha eo es I hs) fun xs σ₁ vs s₁ γ₁ _ hp hv=>?_)
 refine newTup_does hp.sr hv fun Q E hb hQ=>?_
 unfold newTuple
 exact wpAny_newObj_type hQ (by show vs.toArray.size≤sizeLine;rw[List.size_toArray];exact bound_size hb)
theorem newList_does'{pos:Pos}{es:List Expr}(g:Good prog w base P G B r n)(ha:AOK A fr L n)(eo:EnvOK G B L env sc)(I:Inv prog w base fr env s γ σ ρ)(hs:es.any star? =false):
 VDoes prog w base P A fr L s γ σ (eval (.List es pos) env) ((evs r sc ρ es σ).bd fun vs σ=>mkList vs σ):=by
 show VDoes prog w base P A fr L s γ σ (standAt pos >>= fun _=>spliced (backTo pos (starEach es env)) >>= fun vs=>newList vs) _
 refine Does.stand (Does.bind (evs_does g ha eo es I hs) fun xs σ₁ vs s₁ γ₁ _ hp hv=>?_)
 refine mkList_does hp.sr hv fun Q E hb hQ=>?_
 unfold newList
 exact wpAny_newObj_type hQ (by show vs.toArray.size≤sizeLine;rw[List.size_toArray];exact bound_size hb)
theorem temp_does{o:Expr}{ov:Value}{t:Sem Value}{m:Res AV}(h:VDoes prog w base P A fr L s γ σ t m):VDoes prog w base P A fr L s γ σ (holding [ov] t >>= fun r=>letTemporaryGo o ov r >>= fun _=>pure r) m:=by
 cases m with
 |stuck=>trivial
 |ok a σ'=>exact fun Q E hQ=>wpAny_bind (wpAny_holding (h _ E fun b s' γ' hp hb=>wpAny_bind (wpAny_letTemporaryGo (wpAny_pure (hQ b s' γ' hp hb)))))
 |exc x σ'=>exact fun Q E hE=>wpAny_bind (wpAny_holding (h _ E hE))
theorem attr_does{o:Expr}{name:Str}{pos:Pos}(Z:Env0 prog w base P G B K)(g:Good prog w base P G B r n)(ha:AOK A fr L n)(eo:EnvOK G B L env sc)(I:Inv prog w base fr env s γ σ ρ)(hb:baseOk o=true):
 VDoes prog w base P A fr L s γ σ (eval (.Attribute o name pos) env) ((r.ev sc ρ σ o).bd fun ov σ=>attrA P ov name σ):=by
 show VDoes prog w base P A fr L s γ σ (attributeBase o name env (eval o env) >>= fun ov=>standAt pos.atName >>= fun _=>holding [ov] (getAttr ov name true) >>= fun r=>letTemporaryGo o ov r >>= fun _=>pure r) _
 rw[base_ok hb]
 refine Does.bind (g.ev o ha eo I) fun a σ₁ ov s₁ γ₁ _ hp hv=>Does.stand (temp_does (Does.ofO fun q hq=>Does.opt (fun y hl=>Does.chk fun hc=>?_) fun hl=>Does.ofO fun f hf=>Does.ofO fun fg hfg=>?_))
 ·exact attr_own Z.CO Z.X hp.sr hv hq hl (Bool.and_eq_true_iff.1 hc).1 (Bool.and_eq_true_iff.1 hc).2
 ·exact attr_meth Z.CO Z.X hp.sr hv hq hl hf hfg
theorem joined_does{es:List Expr}{pos:Pos}(g:Good prog w base P G B r n)(ha:AOK A fr L n)(eo:EnvOK G B L env sc)(I:Inv prog w base fr env s γ σ ρ)(h2:Nat.ble 2 es.length=true):
 VDoes prog w base P A fr L s γ σ (eval (.JoinedStr es pos) env) ((joinA r sc ρ es Str.empty σ).bd fun x σ=> .ok (.str x) σ):=by
 have h:=join_does (P:=P) (A:=A) (L:=L) g ha eo es Str.empty rfl I
 cases es with
 |nil=>exact ffNe h2
 |cons a es=>
  cases es with
  |nil=>exact ffNe h2
  |cons b es=>
   cases hm:joinA r sc ρ (a::b::es) Str.empty σ with
   |stuck=>trivial
   |ok x σ'=>
    rw[hm]at h
    exact fun Q E hQ=>wpAny_JoinedStr (h _ E fun s' γ' hp hj=>⟨joinOk_le hj,hQ _ _ γ' (hp.trans (Post.keeps (h:=s'.heap) (tk:=s'.toks+1) hp.sr fun _ _ e=>e)) (.str _ _)⟩)
   |exc x σ'=>
    rw[hm]at h
    exact fun Q E hE=>wpAny_JoinedStr (h _ E fun v s' γ' he=>hE v s' γ' he trivial)
theorem binop_does{a b:Expr}{op:Operator}{pos:Pos}(g:Good prog w base P G B r n)(ha:AOK A fr L n)(eo:EnvOK G B L env sc)(I:Inv prog w base fr env s γ σ ρ):
 VDoes prog w base P A fr L s γ σ (eval (.BinOp a op b pos) env) ((r.ev sc ρ σ a).bd fun x σ=>(r.ev sc ρ σ b).bd fun y σ=>binA σ op x y):=
 Does.bind (g.ev a ha eo I) fun _ _ _ _ _ _ hp hx=>Does.bind (Does.hold (g.ev b ha eo (I.step hp))) fun _ _ _ _ _ _ hp2 hy=>Does.stand (Does.operate (bin_does hp2.sr (hx.post hp2) hy))
theorem not_does{e:Expr}{pos:Pos}(g:Good prog w base P G B r n)(ha:AOK A fr L n)(eo:EnvOK G B L env sc)(I:Inv prog w base fr env s γ σ ρ):
 VDoes prog w base P A fr L s γ σ (eval (.UnaryOp .Not e pos) env) ((r.ev sc ρ σ e).bd fun v σ=>Mine.ofO (asBool v) fun b=> .ok (.bool (!b)) σ):=
 Does.bind (g.ev e ha eo I) fun x σ₁ xv s₁ γ₁ _ hp hx=>Does.stand (Does.hold (Does.ofO fun b hb=>hx.asBool hb▸ .calm hp.sr fun Q E hQ=>PyProof.Rows.not_of (wpAny_truthy_bool (hQ _ s₁.toks (.bool _)))))
theorem neg_does{e:Expr}{pos:Pos}(g:Good prog w base P G B r n)(ha:AOK A fr L n)(eo:EnvOK G B L env sc)(I:Inv prog w base fr env s γ σ ρ):
 VDoes prog w base P A fr L s γ σ (eval (.UnaryOp .USub e pos) env) ((r.ev sc ρ σ e).bd fun v σ=>Mine.ofO (asInt v) fun i=> .ok (.int (-i)) σ):=
 Does.bind (g.ev e ha eo I) fun x σ₁ xv s₁ γ₁ _ hp hx=>Does.stand (Does.hold (Does.ofO fun i hi=>(hx.asInt hi).elim fun k e=>e▸ .calm hp.sr fun Q E hQ=>PyProof.Rows.neg_int (hQ _ _ (.int _ _))))
theorem ifexp_does{t a b:Expr}{pos:Pos}(g:Good prog w base P G B r n)(ha:AOK A fr L n)(eo:EnvOK G B L env sc)(I:Inv prog w base fr env s γ σ ρ):
 VDoes prog w base P A fr L s γ σ (eval (.IfExp t a b pos) env) (evStep P r sc ρ σ (.IfExp t a b pos)):=by
 show VDoes prog w base P A fr L s γ σ (isTrue t env (eval t env) >>= fun c=>if c=true then eval a env else eval b env) _
 refine Does.bind (g.ts t ha eo I) fun c σ₁ cv s₁ γ₁ _ hp hc=>?_
 cases (show cv=c from hc)
 cases c with
 |true=>exact g.ev a ha eo (I.step hp)
 |false=>exact g.ev b ha eo (I.step hp)
theorem compare_does{l:Expr}{ops:List CmpOp}{es:List Expr}{pos:Pos}(Z:Env0 prog w base P G B K)(g:Good prog w base P G B r n)(ha:AOK A fr L n)(eo:EnvOK G B L env sc)(I:Inv prog w base fr env s γ σ ρ)(hs:es.any isSet=false):
 VDoes prog w base P A fr L s γ σ (eval (.Compare l ops es pos) env) ((r.ev sc ρ σ l).bd fun v σ=>chainA r sc ρ v ops es σ):=by
 show VDoes prog w base P A fr L s γ σ (eval l env >>= fun lv=>compareChain pos lv ops (markedEach ops es (evalEach es env))) _
 rw[markedEach_ok ops es _ hs]
 exact Does.bind (g.ev l ha eo I) fun x σ₁ xv s₁ γ₁ _ hp hx=>chain_does Z g ha eo ops es (I.step hp) hx
theorem sub_step{o i:Expr}{pos:Pos}(Z:Env0 prog w base P G B K)(g:Good prog w base P G B r n)(ha:AOK A fr L n)(eo:EnvOK G B L env sc)(I:Inv prog w base fr env s γ σ ρ):
 VDoes prog w base P A fr L s γ σ (eval (.Subscript o i pos) env) (evStep P r sc ρ σ (.Subscript o i pos)):=by
 cases i with
 |Slice lo hi st p=>
  cases st with
  |none=>exact part_does Z g ha eo I
  |some _=>exact Does.bind (g.ev o ha eo I) fun x σ₁ xv s₁ γ₁ _ hp hx=>trivial
 |_=>exact index_does g ha eo I fun _ _=>rfl
theorem orStuck_does{t:Sem Value}{o:Option AV}(h:∀v,o=some v→VDoes prog w base P A fr L s γ σ t (.ok v σ)):VDoes prog w base P A fr L s γ σ t (orStuck o σ):=by
 cases o with
 |none=>trivial
 |some v=>exact h v rfl
theorem lc_step{elt:Expr}{gens:List Comprehension}{pos:Pos}{c:CompE}(g:Good prog w base P G B r n)(ha:AOK A fr L n)(eo:EnvOK G B L env sc)(I:Inv prog w base fr env s γ σ ρ)(hc:genV elt gens csc pos=some c)(hb:(compOk sc c.csc&& !isSet c.it)=true):
 VDoes prog w base P A fr L s γ σ (eval (.ListComp elt gens csc pos) env) ((r.ev sc ρ σ c.it).bd fun v σ=>(quiet (over v σ (compGo r c.csc (freeOnly c.csc ρ) c.t c.ifs c.elt))).bd fun ys σ=>mkList ys σ):=by
 refine ea03 (genV_inv hc) fun h1 h2 h3 h4=>?_
 rw[h1,h2,h3,h4]
 exact listComp_does g ha eo I (Bool.and_eq_true_iff.mp hb).1 (notB (Bool.and_eq_true_iff.mp hb).2)
theorem ev_step{e:Expr}(Z:Env0 prog w base P G B K)(g:Good prog w base P G B r n)(ha:AOK A fr L (n+1))(eo:EnvOK G B L env sc)(I:Inv prog w base fr env s γ σ ρ):
 VDoes prog w base P A fr L s γ σ (eval e env) (evStep P r sc ρ σ e):=by
 have ha':=ha.less (Nat.le_succ n)
 cases e with
 |Constant c k pos=>exact orStuck_does fun x hc=>const_does I.sr hc
 |Name x pos=>exact orStuck_does fun v hc=>name_does Z.H I eo hc
 |BoolOp op es pos=>exact bool_does g ha' eo _ I
 |BinOp a op b pos=>exact binop_does g ha' eo I
 |UnaryOp op e pos=>
  cases op with
  |Not=>exact not_does g ha' eo I
  |USub=>exact neg_does g ha' eo I
  |_=>trivial
 |IfExp t a b pos=>exact ifexp_does g ha' eo I
 |Dict ks vs pos=>exact Does.chk fun hg=>dict_does g ha' eo I hg
 |Tuple es k pos=>exact Does.chk fun hs=>newTuple_does g ha' eo I (notB hs)
 |List es pos=>exact Does.chk fun hs=>newList_does' g ha' eo I (notB hs)
 |Compare l ops es pos=>exact Does.chk fun hs=>compare_does Z g ha' eo I (notB hs)
 |Subscript o i pos=>exact sub_step Z g ha' eo I
 |Attribute o name pos=>exact Does.chk fun hb=>attr_does Z g ha' eo I hb
 |ListComp elt gens csc pos=>exact Does.ofO fun c hc=>Does.chk fun hb=>lc_step g ha' eo I hc hb
 |JoinedStr es pos=>exact Does.chk fun h2=>joined_does g ha' eo I h2
 |Call f args kw pos=>
  cases kw with
  |nil=>exact call_does Z g ha eo I
  |cons _ _=>trivial
 |_=>trivial
end
end Mine
end
section
namespace Mine
open PySem PySem.Calls PySem.Spec PySem.SeqAt PyProof.Rows
section
variable{prog:Program}{w:World}{base:Heap}{P:Prg}{W S:List Addr}{A:Around}{fr:List Env}{L:Addr}{s s₁ s₂:Shared}{γ γ₁ γ₂:Gh}{σ σ₀ σ₁ σ₂:Store}{env cenv:Env}{ρ ρ₁:Mine.Loc}{G B:Addr}{r:Rec}{n:Nat}{sc csc:Scope}
 {K:PySem.W.Frag}
theorem all_does{op:BoolOp}(g:Good prog w base P G B r n)(ha:AOK A fr L n)(eo:EnvOK G B L env sc):∀(es:List Expr) {s:Shared} {γ:Gh} {σ:Store},Inv prog w base fr env s γ σ ρ→
 BDoes prog w base P A fr L s γ σ (allTrue op es env) (allA r sc ρ op es σ):=by
 intro es
 induction es with
 |nil=>cases op<;>exact fun I=>Does.ret I.sr rfl
 |cons e es ih=>
  intro s γ σ I
  show BDoes prog w base P A fr L s γ σ (isTrue e env (eval e env) >>= fun b=>match (generalizing:=false) op,b with
   | .And,false=>pure false
   | .Or,true=>pure true
   |_,_=>allTrue op es env) ((r.ts sc ρ σ e).bd fun b σ=>match (generalizing:=false) goesOn op b with|true=>allA r sc ρ op es σ|false=> .ok b σ)
  refine Does.bind (g.ts e ha eo I) fun a σ₁ v s₁ γ₁ _ hp hv=>?_
  cases (show v=a from hv)
  cases op<;>cases a
  ·exact Does.ret hp.sr rfl
  ·exact ih (I.step hp)
  ·exact ih (I.step hp)
  ·exact Does.ret hp.sr rfl
theorem plain_test{e:Expr}(g:Good prog w base P G B r n)(ha:AOK A fr L n)(eo:EnvOK G B L env sc)(I:Inv prog w base fr env s γ σ ρ)
 (he:isTrue e env (eval e env)=(eval e env >>= fun v=>standAt e.pos >>= fun _=>holding [v] (truthy v))):
 BDoes prog w base P A fr L s γ σ (isTrue e env (eval e env)) (toBool (r.ev sc ρ σ e)):=by
 rw[he]
 exact truthy_does (g.ev e ha eo I) fun b s' Q E h=>wpAny_bind (wpAny_standAt (wpAny_holding (wpAny_truthy_bool h)))
theorem ts_step{e:Expr}(Z:Env0 prog w base P G B K)(g:Good prog w base P G B r n)(ha:AOK A fr L (n+1))(eo:EnvOK G B L env sc)(I:Inv prog w base fr env s γ σ ρ):
 BDoes prog w base P A fr L s γ σ (isTrue e env (eval e env)) (tsStep P r sc ρ σ e):=by
 have ha':=ha.less (Nat.le_succ n)
 cases e with
 |UnaryOp op x pos=>
  cases op with
  |Not=>
   show BDoes prog w base P A fr L s γ σ (isTrue x env (eval x env) >>= fun b=>pure (!b)) ((r.ts sc ρ σ x).bd fun b σ=> .ok (!b) σ)
   refine Does.bind (g.ts x ha' eo I) fun a σ₁ v s₁ γ₁ _ hp hv=>?_
   exact Does.ret hp.sr (congrArg not hv)
  |_=>exact plain_test g ha' eo I rfl
 |BoolOp op es pos=>exact all_does g ha' eo es I
 |IfExp=>trivial
 |Compare l ops es pos=>
  refine Does.chk fun hs=>?_
  show BDoes prog w base P A fr L s γ σ (eval l env >>= fun lv=>testChain pos lv ops (markedEach ops es (evalEach es env))) _
  rw[markedEach_ok ops es _ (notB hs),toBool_bd]
  exact Does.bind (g.ev l ha' eo I) fun x σ₁ xv s₁ γ₁ _ hp hx=>testChain_does Z g ha' eo ops es (I.step hp) hx
 |_=>exact plain_test g ha' eo I rfl
end
end Mine
end
section
namespace Mine
open PySem PySem.Calls PySem.Spec PySem.SeqAt PyProof.Rows
section
variable{prog:Program}{w:World}{base:Heap}{P:Prg}{W S:List Addr}{A:Around}{fr:List Env}{L:Addr}{s s₁ s₂:Shared}{γ γ₁ γ₂:Gh}{σ σ₀ σ₁ σ₂:Store}{env cenv:Env}{ρ ρ₁:Mine.Loc}{G B:Addr}{r:Rec}{n:Nat}{sc csc:Scope}
 {K:PySem.W.Frag}
noncomputable def SDoes(prog:Program)(w:World)(base:Heap)(P:Prg)(A:Around)(fr:List Env)(L:Addr)(env:Env)(s:Shared)(γ:Gh)(σ:Store)(t:Sem Flow)(m:ResL (Fl×Mine.Loc)):Prop:=
 Does prog w base P (owns env) A fr L s γ σ t m (FlR env) (·.1) (fun h γ x=>Fram env h γ x.2)
theorem Does.atR{α β:Type}{t:Sem β}{m:Res α}{rel:Heap→Gh→β→α→Prop}(I:Inv prog w base fr env s γ σ ρ)(h:Does prog w base P [] A fr L s γ σ t m rel id nox):
 Does prog w base P (owns env) A fr L s γ σ t (m.at ρ) (fun h γ b a=>rel h γ b a∧Fram env h γ ρ) (·.1) (fun h γ x=>Fram env h γ x.2):=by
 cases m with
 |stuck=>trivial
 |ok a σ'=>exact fun Q E hQ=>h Q E fun b s' γ' hp hr=>hQ b s' γ' hp.wide ⟨hr,(I.step hp).fram⟩
 |exc x σ'=>exact fun Q E hE=>h Q E fun v s' γ' he _=>hE v s' γ' ⟨he.1.wide,he.2⟩ (I.step he.1).fram
theorem SDoes.bind{α β:Type}{t:Sem β}{m:Res α}{rel:Heap→Gh→β→α→Prop}{k:β→Sem Flow}{f:α→Store→ResL (Fl×Mine.Loc)}(I:Inv prog w base fr env s γ σ ρ)(h:Does prog w base P [] A fr L s γ σ t m rel id nox)
 (hk:∀a σ₁ b s₁ γ₁,m= .ok a σ₁→Inv prog w base fr env s₁ γ₁ σ₁ ρ→rel s₁.heap γ₁ b a→SDoes prog w base P A fr L env s₁ γ₁ σ₁ (k b) (f a σ₁)):SDoes prog w base P A fr L env s γ σ (t >>= k) ((m.at ρ).bd f):=by
 refine Does.bind (Does.atR I h) fun a σ₁ b s₁ γ₁ e hp hr=>?_
 refine hk a σ₁ b s₁ γ₁ ?_ (I.stepX hp hr.2) hr.1
 cases m<;>first |(cases e;done)|(injection e with e1 e2;rw[e1,e2])
set_option tactic.hygienic true in
theorem SDoes.stores{t:Sem Unit}{m:Out XA Mine.Loc}(h:Does prog w base P (owns env) A fr L s γ σ t m (FrR env) id nox)(hx:∀x σ',m≠ .exc x σ'):
 SDoes prog w base P A fr L env s γ σ (t >>= fun _=>pure .next) (match m with| .stuck=> .stuck| .exc _ _=> .stuck| .ok ρ₁ σ'=> .ok (.next,ρ₁) σ'):=by
 cases m with
 |stuck=>trivial
 |exc x σ'=>trivial
 |ok ρ₁ σ'=>exact fun Q E hQ=>wpAny_bind (h _ E fun b s' γ' hp hr=>wpAny_pure (hQ .next s' γ' hp ⟨rfl,hr⟩))
theorem swaps_plain{e:Expr}{t:Option Expr}{l:Nat}(h:plainV e=true):swapsWith e t l env=pure false:=by
 cases e with
 |ListComp _ _ _ _=>exact ffNe h
 |SetComp _ _ _ _=>exact ffNe h
 |DictComp _ _ _ _ _=>exact ffNe h
 |_=>rfl
theorem swapSole_plain{e t:Expr}{l:Nat}(h:plainV e=true):swapsWithSole [t] e l env=pure false:=swaps_plain h
theorem tup_plain{v:Expr}{q:List Expr×Nat×Pos}(h:tupV v=some q):plainV v=true:=tupV_inv h▸rfl
theorem assignOk_plain{t v:Expr}(h:assignOk sc t v=true):plainV v=true:=by
 unfold assignOk at h
 cases ht:tupV t with
 |some q=>
  rw[ht]at h;dsimp only at h
  cases hv:tupV v with
  |some u=>exact tup_plain hv
  |none=>rw[hv]at h;exact h
 |none=>
  rw[ht]at h;dsimp only at h
  cases hl:isList t with
  |true=>rw[hl]at h;exact ffNe h
  |false=>rw[hl]at h;exact h
theorem swapped_none{t v:Expr}(h:assignOk sc t v=true)(hn:tupV t=none∨tupV v=none):swappedStores [t] v env=pure none:=by
 cases t with
 |Tuple _ _ _=>
  rcases hn with hn|hn
  ·exact noneNe hn.symm
  ·cases v with
   |Tuple _ _ _=>exact noneNe hn.symm
   |_=>rfl
 |List _ _=>exact ffNe h
 |_=>rfl
set_option tactic.hygienic true in
theorem assign_plain_wp{t v:Expr}{pos:Pos}(h:assignOk sc t v=true)(hn:swappedStores [t] v env=pure none){Q:Flow→Shared→Prop}{E:Value→Shared→Prop}
 (k:wpAny (model prog w) A (eval v env >>= fun x=>assignAll x ((assignEach [t] env).map (·.2)) >>= fun _=>pure .next) Q E s):wpAny (model prog w) A (exec (.Assign [t] v pos) env) Q E s:=by
 show wpAny (model prog w) A (standAt pos >>= fun _=>swapsWithSole [t] v pos.line env >>= fun b=>if b=true then(evalThenUse v env fun v=>assignAll v ((assignEach [t] env).map (·.2))) >>= fun _=>pure .next else eval v env >>= fun x=>swappedStores [t] v env >>= fun sw=>assignStores env x sw ((assignEach [t] env).map (·.2))) Q E s
 rw[swapSole_plain (assignOk_plain h),hn]
 exact wpAny_bind (wpAny_standAt (wpAny_bind (wpAny_pure k)))
end
end Mine
end
section
namespace Mine
open PySem PySem.Calls PySem.Spec PySem.SeqAt PyProof.Rows
section
variable{prog:Program}{w:World}{base:Heap}{P:Prg}{W S:List Addr}{A:Around}{fr:List Env}{L:Addr}{s s₁ s₂:Shared}{γ γ₁ γ₂:Gh}{σ σ₀ σ₁ σ₂:Store}{env cenv:Env}{ρ ρ₁:Mine.Loc}{G B:Addr}{r:Rec}{n:Nat}{sc csc:Scope}
 {K:PySem.W.Frag}
theorem stored_length{κ:Type}[DecidableEq κ](vs:List (κ×Value))(k:κ)(v:Value):(stored vs k v).length≤vs.length+1:=by
 unfold stored
 split
 ·rw[List.length_map];omega
 ·rw[List.length_append];exact Nat.le_refl _
theorem setItem_does{v u:Value}{o:AV}{q:Nat×List (Str×AV)}{k:Str}{t:Tok}{x:AV}(R:SR prog w base s.heap γ σ)(hv:VR s.heap γ v o)(ho':dstrOf σ o=some q)(hz:q.2.length≤1000)(hu:VR s.heap γ u x):
 Does prog w base P W A fr L s γ σ (setItem v (.str k t) u) (.ok () (σ.set q.1 (.dstr (putS k x q.2))):Out XA Unit) (fun _ _ _ _=>True) id nox:=by
 have ho:=dstrOf_inv ho'
 refine ea13 (R.ob (ho.1▸hv) ho.2) fun p z1=>?_;subst z1;intro hi h1 h2;refine ea12 h2 fun vs hd hb hr=>?_;clear h2
 have hl:vs.length≤1000:=hr.length▸hz
 refine fun Q E hQ=>wpAny_setItem_pairs (knd:=strKind prog w) (isStrOf_self k t) hd (fun h' hd' hs=>?_) (Nat.le_trans hb (by decide))
 refine ea35 (id hd) fun o es ep hoe he hdata _ _ hnd=>?_
 refine ea33 (id hd') fun o2 es2 ep2 ho2 he2 hdata2 _=>?_
 have tk:TupKeep s.heap h':=fun a vs ⟨m,ho⟩=>by
  refine⟨m,(hs.2 a ?_).trans ho⟩
  rintro rfl
  rw[hoe]at ho
  rw[Option.some.inj ho]at hdata
  exact nomatch hdata
 have hr':=(KR.storeS (k:=k) hu hr hnd).1.mono [] tk
 rw[List.append_nil]at hr'
 exact hQ () _ γ (Post.set R hi ho.2 (by intro e;cases e) (.inl rfl) (But.same hs) (fun o ho=>Option.some.inj (ho2.symm.trans ho)▸ .dict hdata2) ⟨o2,ho2,.dict hdata2⟩ ⟨h1,_,hd',Nat.le_trans (stored_length _ _ _) (Nat.le_trans (Nat.succ_le_succ hl) (by decide)),hr'⟩) trivial
theorem assignAll_one{t:Expr}(h:star? t=false)(x:Value):assignAll x ((assignEach [t] env).map (·.2))=assign t env x:=by
 cases t with
 |Starred _ _=>exact nomatch h
 |_=>rfl
theorem star_inv{t:Expr}(h:star? t=true):∃e p,t= .Starred e p:=by
 cases t with
 |Starred e p=>exact⟨e,p,rfl⟩
 |_=>exact ffNe h
theorem storeA_star{t:Expr}{v:AV}(h:star? t=true):storeA P r sc ρ t v σ= .stuck:=by
 refine ea20 (star_inv h) fun _ _ z1=>?_;subst z1
 rfl
theorem SDoes.tree{t t':Sem Flow}{m:ResL (Fl×Mine.Loc)}(e:t=t')(h:SDoes prog w base P A fr L env s γ σ t' m):SDoes prog w base P A fr L env s γ σ t m:=e▸h
theorem bindStore{t:Expr}{x:Value}{v:AV}(eo:EnvOK G B L env sc)(hh:A.handled=none)(I:Inv prog w base fr env s γ σ ρ)(hv:VR s.heap γ x v):
 SDoes prog w base P A fr L env s γ σ (assign t env x >>= fun _=>pure .next) (Mine.ofO (bindA sc t v ρ) fun ρ₁=> .ok (.next,ρ₁) σ):=
 Does.ofO fun ρ₁ hb=>SDoes.stores (m:= .ok ρ₁ σ) (bind_does (P:=P) (A:=A) (L:=L) eo hh (Wok.owns env sc) (fun _ h=>h) I hv hb) fun _ _ e=>nomatch e
theorem Good.held{x:List Value}{o:Expr}{k:Value→Sem Flow}{f:AV→Store→ResL (Fl×Mine.Loc)}(g:Good prog w base P G B r n)(ha:AOK A fr L n)(eo:EnvOK G B L env sc)(I:Inv prog w base fr env s γ σ ρ)
 (hk:∀{a σ₁ b s₁ γ₁},Post prog w base [] (frs fr) s γ σ s₁ γ₁ σ₁→VR s₁.heap γ₁ b a→SDoes prog w base P A fr L env s₁ γ₁ σ₁ (k b) (f a σ₁)):SDoes prog w base P A fr L env s γ σ (holding x (eval o env) >>= k) (((r.ev sc ρ σ o).at ρ).bd f):=by
 have hev:=Does.hold (vs:=x) (g.ev o ha eo I)
 cases hm:r.ev sc ρ σ o with
 |stuck=>trivial
 |exc y σ'=>
  rw[hm]at hev
  exact fun Q E hE=>wpAny_bind (hev _ E fun v' s' γ' he _=>hE v' s' γ' ⟨he.1.wide,he.2⟩ (I.step he.1).fram)
 |ok a σ₁=>
  rw[hm]at hev
  show SDoes prog w base P A fr L env s γ σ _ (f a σ₁)
  cases hf:f a σ₁ with
  |stuck=>trivial
  |ok b σ₂=>exact fun Q E hQ=>wpAny_bind (hev _ E fun v s₁ γ₁ hp hv=>by
    have :=hk hp hv
    rw[hf]at this
    exact this Q E fun b s₂ γ₂ hp2 hr=>hQ b s₂ γ₂ (hp.wide.trans hp2) hr)
  |exc b σ₂=>exact fun Q E hE=>wpAny_bind (hev _ E fun v s₁ γ₁ hp hv=>by
    have :=hk hp hv
    rw[hf]at this
    exact this Q E fun v s₂ γ₂ he hr=>hE v s₂ γ₂ (he.after hp.wide) hr)
theorem five_binds{α β γ δ:Type}{p:Sem α}{q:α→Sem β}{u:Sem γ}{c:α→β→Sem δ}{d:α→β→Sem Unit}{z:Sem Flow}:((p >>= fun a=>q a >>= fun b=>u >>= fun _=>c a b >>= fun _=>d a b) >>= fun _=>z)=(p >>= fun a=>q a >>= fun b=>u >>= fun _=>c a b >>= fun _=>d a b >>= fun _=>z):=by
 simp only [LawfulMonad.bind_assoc]
set_option tactic.hygienic true in
theorem storeA_does{t:Expr}{x:Value}{v:AV}(Z:Env0 prog w base P G B K)(g:Good prog w base P G B r n)(ha:AOK A fr L n)(eo:EnvOK G B L env sc)(I:Inv prog w base fr env s γ σ ρ)(hv:VR s.heap γ x v):
 SDoes prog w base P A fr L env s γ σ (assign t env x >>= fun _=>pure .next) (storeA P r sc ρ t v σ):=by
 refine Does.opt (fun a hat=>?_) fun _=>Does.opt (fun a hst=>?_) fun _=>bindStore eo ha.handled I hv
 ·have e:(assign (.Attribute a.1 a.2.1 a.2.2) env x >>= fun _=>(pure .next:Sem Flow))=(holding [x] (eval a.1 env) >>= fun ov=>standAt a.2.2.atName >>= fun _=>holding [x,ov] (setAttr ov a.2.1 x) >>= fun _=>release [x,ov] [] >>= fun _=>pure .next):=by
   show((holding [x] (eval a.1 env) >>= fun ov=>standAt a.2.2.atName >>= fun _=>holding [x,ov] (setAttr ov a.2.1 x) >>= fun _=>release [x,ov] []) >>= fun _=>_)=_
   simp only [LawfulMonad.bind_assoc]
  rw[attrV_inv hat,e]
  refine Good.held g ha eo I fun hp hov=>Does.ofO fun q hq=>Does.chk fun hc=>?_
  have hc:=Bool.and_eq_true_iff.1 hc
  refine fun Q E hQ=>wpAny_bind (wpAny_standAt (wpAny_bind (wpAny_holding ?_)))
  refine setAttr_does (P:=P) (W:=[]) (fr:=fr) (L:=L) Z.CO Z.X hp.sr hov hq hc.1 (Nat.le_of_ble_eq_true hc.2) (hv.post hp) _ E fun _ s₂ γ₂ hp2 _=>?_
  exact wpAny_bind (wpAny_release (wpAny_pure (hQ .next s₂ γ₂ hp2.wide ⟨rfl,(I.step (hp.trans hp2)).fram⟩)))
 ·obtain⟨rl,e⟩:∃rl:Value→Value→List Value,(assign (.Subscript a.1 a.2.1 a.2.2) env x >>= fun _=>(pure .next:Sem Flow))=(holding [x] (eval a.1 env) >>= fun ov=>holding [x,ov] (eval a.2.1 env) >>= fun iv=>standAt a.2.2 >>= fun _=>holding [x,ov,iv] (setItem ov iv x) >>= fun _=>release (rl ov iv) [] >>= fun _=>pure .next):=by
   exact⟨_,five_binds⟩
  rw[subV_inv hst,e]
  refine Good.held g ha eo I fun hp hov=>Good.held g ha eo (I.step hp) fun hp2 hiv=>Does.ofO fun q hq=>Does.ofO fun k hk=>Does.chk fun hc=>?_
  refine ea10 (hiv.asStr hk) fun tk ek=>?_
  refine fun Q E hQ=>wpAny_bind (wpAny_standAt (wpAny_bind (wpAny_holding ?_)))
  rw[ek]
  refine setItem_does (P:=P) (W:=[]) (fr:=fr) (L:=L) hp2.sr (hov.post hp2) hq (Nat.le_of_ble_eq_true hc) (hv.post (hp.trans hp2)) _ E fun _ s₃ γ₃ hp3 _=>?_
  exact wpAny_bind (wpAny_release (wpAny_pure (hQ .next s₃ γ₃ hp3.wide ⟨rfl,(I.step ((hp.trans hp2).trans hp3)).fram⟩)))
end
end Mine
end
section
namespace Mine
open PySem PySem.Calls PySem.Spec PySem.SeqAt PyProof.Rows
section
variable{prog:Program}{w:World}{base:Heap}{P:Prg}{W S:List Addr}{A:Around}{fr:List Env}{L:Addr}{s s₁ s₂:Shared}{γ γ₁ γ₂:Gh}{σ σ₀ σ₁ σ₂:Store}{env cenv:Env}{ρ ρ₁:Mine.Loc}{G B:Addr}{r:Rec}{n:Nat}{sc csc:Scope}
 {K:PySem.W.Frag}
theorem isLoc_look{x:Str}(h:isLoc sc x=true):look x sc.names=some .local:=by
 unfold isLoc at h
 split at h
 ·assumption
 ·cases h
theorem isLoc_localIn{x:Str}(h:isLoc sc x=true):localIn sc x=true:=by
 exact congrArg locK (isLoc_look h)
theorem blockKind_of(eo:EnvOK G B L env sc):env.blockKind= .function:=by
 unfold Env.blockKind
 rw[eo.kind];rfl
set_option tactic.hygienic true in
theorem compSwap_on{t it elt:Expr}{ifs:List Expr}{x:Str}{px cpos:Pos}{l:Nat}(eo:EnvOK G B L env sc)(h:compSwap sc csc x px cpos=true):
 swapsWith (.ListComp elt [⟨t,it,ifs,0⟩] csc cpos) (some (.Name x px)) l env=pure true:=by
 unfold compSwap at h
 refine ea01 (Bool.and_eq_true_iff.mp h) fun h1 h2=>?_
 refine ea01 (Bool.and_eq_true_iff.mp h1) fun h3 h4=>?_
 show(pure (env.blockKind== .function&&env.kindOf x==some .local&&px.line==cpos.line&& !(csc.names.any fun(n,k)=>n==x&&(k== .local||k== .cell))):Sem Bool)=pure true
 have e:(csc.names.any fun(p:Str×NameKind)=>p.1==x&&(p.2== .local||p.2== .cell))=false:=by
  rw[List.any_eq_false]
  intro p hp
  have :=List.all_eq_true.mp h2 p hp
  obtain⟨y,k⟩:=p
  dsimp only at this ⊢
  split at this
  ·rename_i e
   cases k<;>first |(cases this;done)|simp
  ·rename_i e
   rw[sEq_false]at e
   simp[e]
 rw[blockKind_of eo,eo.loc x (isLoc_look h3),Nat.eq_of_beq_eq_true h4]
 simp only [beq_self_eq_true,Bool.true_and]
 show pure (!(csc.names.any fun(p:Str×NameKind)=>p.1==x&&(p.2== .local||p.2== .cell)))=_
 rw[e];rfl
set_option tactic.hygienic true in
theorem compUsed_does{t it elt:Expr}{ifs:List Expr}{x:Str}{px cpos spos:Pos}(g:Good prog w base P G B r n)(ha:AOK A fr L n)(eo:EnvOK G B L env sc)(I:Inv prog w base fr env s γ σ ρ)(hok:compOk sc csc=true)(hset:isSet it=false)(hsw:compSwap sc csc x px cpos=true):
 SDoes prog w base P A fr L env s γ σ (exec (.Assign [.Name x px] (.ListComp elt [⟨t,it,ifs,0⟩] csc cpos) spos) env) ((Out.at ((r.ev sc ρ σ it).bd fun v σ=>(quiet (over v σ (compGo r csc (freeOnly csc ρ) t ifs elt))).bd fun ys σ=>mkList ys σ) ρ).bd fun v σ=> .ok (.next,(x,v)::ρ) σ):=by
 have hev:=g.ev it ha eo I
 refine ea03 (compOk_inv hok) fun hk hfree hloc hcell=>?_
 rw[exec_Assign_Name_used _ _ _ _ (compSwap_on eo hsw)]
 have hlx:isLoc sc x=true:=by
  unfold compSwap at hsw
  exact(Bool.and_eq_true_iff.mp (Bool.and_eq_true_iff.mp hsw).1).1
 have enter:∀{Q:Flow→Shared→Prop} {E:Value→Shared→Prop} {cl:List (Str×Addr)},closureFor csc env=pure cl→
  (wpAny (model prog w) A (eval it env) (fun xv s₁=>wpAny (model prog w) A (pyIter xv) (fun itv s₂=>wpAny (model prog w) A (newList []) (fun acc s₃=>wpAny (model prog w) A (newFunctionEnv csc env.globals cl [] env.qual none .none (some env)) (fun cenv s₄=>
    codeAny (model prog w) A (.compStart (.ListComp elt [⟨t,it,ifs,0⟩] csc cpos) 0 itv acc {cenv with scope:=relabel csc env}) (compPost (model prog w) A E (some (assign (.Name x px) env)) (fun _ s'=>Q .next s') acc cenv.locals) s₄) E s₃) E s₂) E s₁) E s)→
  wpAny (model prog w) A (standAt spos >>= fun _=>evalThenUse (.ListComp elt [⟨t,it,ifs,0⟩] csc cpos) env (assign (.Name x px) env) >>= fun _=>pure .next) Q E s:=by
  intro Q E cl hclos h
  refine wpAny_bind (wpAny_standAt (wpAny_bind ?_))
  show wpAny _ A (do let _←comprehension (.ListComp elt [⟨t,it,ifs,0⟩] csc cpos) csc env _ (newList []) false (eval it env) (some (assign (.Name x px) env))) _ _ s
  exact wpAny_bind (wpAny_mono (wpAny_comprehension_free (use:=some (assign (.Name x px) env)) (Q:=fun _ s'=>Q .next s') rfl (folded_ok hset) hclos hk hloc h) (fun _ s' hq=>wpAny_pure (wpAny_pure hq)) fun _ _ e=>e)
 cases hm:r.ev sc ρ σ it with
 |stuck=>trivial
 |exc y σ'=>
  rw[hm]at hev
  refine ea11 (comp_env eo hok I) fun cl hclos _=>?_
  exact fun Q E hE=>enter hclos (hev _ E fun v' s' γ' he _=>hE v' s' γ' ⟨he.1.wide,he.2⟩ (I.step he.1).fram)
 |ok v σ₁=>
  rw[hm]at hev
  dsimp only [Out.bd]
  by_cases hst:over v σ₁ (compGo r csc (freeOnly csc ρ) t ifs elt)= .stuck
  ·rw[hst];trivial
  refine ea31 (over_cases hst) fun xs σ₀ th src ho=>?_
  rw[ho]
  cases hgo:compGo r csc (freeOnly csc ρ) t ifs elt xs σ₀ with
  |stuck=>trivial
  |exc y σ'=>trivial
  |ok ys σ₂=>
   dsimp only [thawO,quiet]
   unfold mkList
   cases hb:Nat.ble ys.length bound with
   |false=>trivial
   |true=>
    have hb:=Nat.le_of_ble_eq_true hb
    refine ea11 (comp_env eo hok I) fun cl hclos _=>?_
    refine fun Q E hQ=>enter hclos (hev _ E fun xv s₁ γ₁ hp hv=>?_)
    have I1:=I.step hp
    refine ea13 (comp_env eo hok I1) fun cl' hclos' c1 c2 c3=>?_
    have hcc:cl'=cl:=by
     rw[hclos]at hclos'
     injection hclos' with e
     exact e.symm
    subst hcc
    refine comp_core (RR:=fun acc C=>compPost (model prog w) A E (some (assign (.Name x px) env)) (fun _ s'=>Q .next s') acc C) g ha I1 hv hok src hgo hb c1 c2 c3 fun D C s' γ' hDC hp' ⟨vs,hl,hr⟩ fD fC nD nC hn=>?_
    obtain⟨m,hn⟩:=hn
    have hp3:=foot_push hp' nD fD hl hr hb
    have I3:=I1.step hp3
    have hvD:VR s'.heap (γ'++[(D,D)]) (.ref D) (.ob (th σ₂).length):=by
     refine .ob (p:=(D,D)) ?_
     rw[←hp'.sr.len,List.getElem?_append_right (Nat.le_refl _)]
     simp
    show wpAny _ A (assign (.Name x px) env (.ref D)) _ _ _
    refine wpAny_assign_Name (store_does (P:=P) (A:=A) (L:=L) I3 eo (isLoc_localIn hlx) hvD (Wok.owns env sc) _ E fun _ s'' γ'' hp4 hf4=>?_)
    have hCo:C∉owns env:=fun hc=>by
     obtain⟨o,ho,_⟩:=I1.fram.own C hc
     rw[nC]at ho;cases ho
    have hCp:∀p∈γ'++[(D,D)],C≠p.1∧C≠p.2:=fun p hp=>by
     rcases List.mem_append.mp hp with h|h
     ·exact fC.2.1 p h
     ·rw[List.mem_singleton.mp h];exact⟨Ne.symm hDC,Ne.symm hDC⟩
    have hn4:=hp4.ns hn hCo hCp
    refine⟨m,hn4,fun h' hs=>?_⟩
    refine ea32 (id hn4) fun o es ep hoC hdC _=>?_
    refine ea31 (id hn) fun oC0 _ _ hoC0 _=>?_
    have hbut:ButL [C] s''.heap h':=fun b o hb e=>(hs.2 b fun q=>hb (by rw[q];exact .head _)).trans e
    have hF:∀b∈[C],s₁.heap.get? b=none∧base.get? b=none∧(∀p∈γ'',b≠p.1∧b≠p.2)∧∃o,s''.heap.get? b=some o∧NT o:=fun b hb=>by
     rw[List.mem_singleton.mp hb]
     exact⟨nC,fC.1,hp4.apart hoC0 hCp,o,hoC,NT.dict hdC⟩
    have hp5:Post prog w base (owns env) (frs fr) s₁ γ₁ σ₁ s'' γ'' (th σ₂++[.list ys]):=hp3.wide.trans hp4
    have hp6:=Post.tail' (tk:=s''.toks) hp5 hbut hF
    obtain⟨tk',_⟩:=hp5.sr.otherL hbut fun b hb=>⟨(hF b hb).2.1,(hF b hb).2.2.1,fun o ho=>by
     refine ea03 (hF b hb) fun _ _ _ h1=>?_;refine ea11 h1 fun o' ho' hn=>?_;clear h1
     rw[ho]at ho';cases ho';exact hn⟩
    have hf5:Fram env h' γ'' ((x,.ob (th σ₂).length)::ρ):=Fram.keepsB hf4 (fun b hb o ho=>hbut b o (fun h=>hCo (by rw[←List.mem_singleton.mp h];exact hb)) ho) fun u v h=>by
     have :=h.mono [] tk'
     rwa [List.append_nil]at this
    exact hQ .next _ γ'' (hp.wide.trans hp6) ⟨rfl,hf5⟩
end
end Mine
end
section
namespace Mine
open PySem PySem.Calls PySem.Spec PySem.SeqAt PyProof.Rows
section
variable{prog:Program}{w:World}{base:Heap}{P:Prg}{W S:List Addr}{A:Around}{fr:List Env}{L:Addr}{s s₁ s₂:Shared}{γ γ₁ γ₂:Gh}{σ σ₀ σ₁ σ₂:Store}{env cenv:Env}{ρ ρ₁:Mine.Loc}{G B:Addr}{r:Rec}{n:Nat}{sc csc:Scope}
 {K:PySem.W.Frag}
theorem eraseDups_two{a b:Str}(h:a≠b):([a,b]:List Str).eraseDups=[a,b]:=by
 have h1:(b==a)=false:=beq_eq_false_iff_ne.mpr (Ne.symm h)
 simp[List.eraseDups_cons,h1]
theorem swapped_two{a b:Str}{pa pb p q:Pos}{k j:Nat}{x y:Expr}(eo:EnvOK G B L env sc)(h:swapTup sc [.Name a pa,.Name b pb] [x,y]=true):
 swappedStores [.Tuple [.Name a pa,.Name b pb] k p] (.Tuple [x,y] j q) env=pure (some [a,b]):=by
 unfold swapTup at h
 refine ea01 (Bool.and_eq_true_iff.mp h) fun h1 h2=>?_
 refine ea01 (Bool.and_eq_true_iff.mp h1) fun h3 h4=>?_
 refine ea01 (Bool.and_eq_true_iff.mp h3) fun h5 h6=>?_
 refine ea01 (Bool.and_eq_true_iff.mp h5) fun h7 h8=>?_
 refine ea01 (Bool.and_eq_true_iff.mp h6) fun h9 h10=>?_
 refine ea01 (Bool.and_eq_true_iff.mp h4) fun h11 h12=>?_
 refine ea01 (Bool.and_eq_true_iff.mp h2) fun h13 h14=>?_
 have hab:a≠b:=by simpa [sEq_false]using h9
 have hx:star? x=false:=by simpa using h11
 have hy:star? y=false:=by simpa using h12
 have hf:[x,y].all (foldedForSure 8)=false:=by cases e:[x,y].all (foldedForSure 8)with|false=>rfl|true=>rw[e]at h13;cases h13
 have hc:[x,y].all (constantsAlone 8)=false:=by cases e:[x,y].all (constantsAlone 8)with|false=>rfl|true=>rw[e]at h14;cases h14
 have kl:pb.line=pa.line:=Nat.eq_of_beq_eq_true h10
 have hstar:∀f:Expr→Bool,(∀e,f e=star? e)→([x,y].any f)=false:=fun f hf=>by
  rw[List.any_cons,List.any_cons,List.any_nil,hf,hf,hx,hy];rfl
 have hnames:∀f:Expr→Option Str,(∀id pos,f (.Name id pos)=if(env.kindOf id==some .local&&pos.line==pa.line)=true then some id else none)→([.Name a pa,.Name b pb]:List Expr).filterMap f=[a,b]:=fun f hf=>by
  rw[List.filterMap_cons,List.filterMap_cons,List.filterMap_nil,hf,hf,eo.loc a (isLoc_look h7),eo.loc b (isLoc_look h8),kl]
  simp
 show(if _=true then _ else if _=true then _ else if _=true then _ else if _=true then _ else if _=true then _ else _)=_
 rw[hnames _ (fun _ _=>rfl),hstar _ (fun e=>by cases e<;>rfl),hf,hc,eraseDups_two hab,blockKind_of eo]
 rfl
end
end Mine
end
section
namespace Mine
open PySem PySem.Calls PySem.Spec PySem.SeqAt PyProof.Rows
section
variable{prog:Program}{w:World}{base:Heap}{P:Prg}{W S:List Addr}{A:Around}{fr:List Env}{L:Addr}{s s₁ s₂:Shared}{γ γ₁ γ₂:Gh}{σ σ₀ σ₁ σ₂:Store}{env cenv:Env}{ρ ρ₁:Mine.Loc}{G B:Addr}{r:Rec}{n:Nat}{sc csc:Scope}
 {K:PySem.W.Frag}
theorem look_swap{a b:Str}{u v:AV}(z:Str)(hab:a≠b):look z ((b,v)::(a,u)::ρ)=look z ((a,u)::(b,v)::ρ):=by
 by_cases e1:b=z
 ·rw[look_cons,if_pos e1,look_cons,if_neg fun e=>hab (e.trans e1.symm),look_cons,if_pos e1]
 ·by_cases e2:a=z
  ·rw[look_cons,if_neg e1,look_cons,if_pos e2,look_cons,if_pos e2]
  ·rw[look_cons,if_neg e1,look_cons,if_neg e2,look_cons,if_neg e2,look_cons,if_neg e1]
theorem names_two{a b:Str}{pa pb:Pos}{xs:List AV}(h:bindNames sc [.Name a pa,.Name b pb] xs ρ=some ρ₁):∃u v,xs=[u,v]∧ρ₁=(b,v)::(a,u)::ρ:=by
 cases xs with
 |nil=>exact noneNe h
 |cons u xs=>
  refine ea22 (names_inv h) fun _ _ e _ h=>?_
  rw[←(Expr.Name.inj e).1]at h
  cases xs with
  |nil=>exact noneNe h
  |cons v xs=>
   refine ea22 (names_inv h) fun _ _ e _ h=>?_
   rw[←(Expr.Name.inj e).1]at h
   cases xs with
   |nil=>exact⟨u,v,rfl,(Option.some.inj h).symm⟩
   |cons _ _=>exact noneNe h
theorem swapOk_locs{a b:Str×Pos}{x y:Expr}(h:swapOk sc a b x y=true):isLoc sc a.1=true∧isLoc sc b.1=true∧a.1≠b.1:=
 have h1:=Bool.and_eq_true_iff.1 (Bool.and_eq_true_iff.1 h).1
 have h2:=Bool.and_eq_true_iff.1 h1.1
 have h3:=Bool.and_eq_true_iff.1 h2.1
 ⟨h3.1,h3.2,sEq_false.1 (notB (Bool.and_eq_true_iff.1 h2.2).1)⟩
set_option tactic.hygienic true in
theorem assignSwap_does{a b:Str}{pa pb p q pos:Pos}{k j:Nat}{x y:Expr}(g:Good prog w base P G B r n)(ha:AOK A fr L n)(eo:EnvOK G B L env sc)(I:Inv prog w base fr env s γ σ ρ)(h:swapTup sc [.Name a pa,.Name b pb] [x,y]=true):
 SDoes prog w base P A fr L env s γ σ (exec (.Assign [.Tuple [.Name a pa,.Name b pb] k p] (.Tuple [x,y] j q) pos) env) (((r.ev sc ρ σ (.Tuple [x,y] j q)).at ρ).bd fun v σ=>storeA P r sc ρ (.Tuple [.Name a pa,.Name b pb] k p) v σ):=by
 have hev:=g.ev (.Tuple [x,y] j q) ha eo I
 have hsw:=swapped_two (pa:=pa) (pb:=pb) (p:=p) (q:=q) (k:=k) (j:=j) eo h
 refine ea02 (swapOk_locs (a:=(a,pa)) (b:=(b,pb)) h) fun la lb hab=>?_
 cases hm:r.ev sc ρ σ (.Tuple [x,y] j q)with
 |stuck=>trivial
 |exc z σ'=>
  rw[hm]at hev
  exact fun Q E hE=>Assign_Tuple_swapped (hev _ E fun v' s' γ' he _=>hE v' s' γ' ⟨he.1.wide,he.2⟩ (I.step he.1).fram) (swapSole_plain rfl) hsw
 |ok v σ₁=>
  rw[hm]at hev
  refine Does.ofO fun ρ₁ hb=>?_
  unfold bindA at hb
  have hb:(match asTup v with|some vs=>bindNames sc [.Name a pa,.Name b pb] vs ρ|none=>none)=some ρ₁:=hb
  cases hx:asTup v with
  |none=>rw[hx]at hb;exact noneNe hb
  |some xs=>
   rw[hx]at hb
   refine ea21 (names_two hb) fun u v z1=>?_;subst z1;intro z2;subst z2
   refine fun Q E hQ=>Assign_Tuple_swapped (hev _ E fun ov s₁ γ₁ hp hov=>?_) (swapSole_plain rfl) hsw
   have I1:=I.step hp
   refine ea23 (hov.asTup hx) fun t vs z1=>?_;subst z1;intro ht hbd hr
   refine ea22 (hr.twoInv (q:=(u,v)) rfl) fun u' v' z1=>?_;subst z1;intro hu hv
   refine unpackItems_tuple (items:=[u',v'].toArray) ha.handled ht.is fun h' he=>?_
   have k:=extBut_keeps he
   have hp1:Post prog w base (owns env) (frs fr) s₁ γ₁ σ₁ {s₁ with heap:=h',toks:=s₁.toks} γ₁ σ₁:=Post.keeps I1.sr k
   have I2:=I1.keeps (tk:=s₁.toks) k
   show wpAny (model prog w) A (holding [u'] (bindName env b v') >>= fun _=>holding [] (bindName env a u') >>= fun _=>pure ()) _ _ _
   refine wpAny_bind (wpAny_holding (wpAny_bindName ?_))
   refine store_does (P:=P) (A:=A) (L:=L) I2 eo (isLoc_localIn lb) (hv.keep (.of_keeps k)) (Wok.owns env sc) _ E fun _ s₃ γ₃ hp3 hf3=>?_
   have I3:Inv prog w base fr env s₃ γ₃ σ₁ ((b,v)::ρ):=I2.stepX hp3 hf3
   refine wpAny_bind (wpAny_holding (wpAny_bindName ?_))
   refine store_does (P:=P) (A:=A) (L:=L) I3 eo (isLoc_localIn la) ((hu.keep (.of_keeps k)).post hp3) (Wok.owns env sc) _ E fun _ s₄ γ₄ hp4 hf4=>?_
   exact wpAny_pure (hQ .next s₄ γ₄ (hp.wide.trans (hp1.trans (hp3.trans hp4))) ⟨rfl,hf4.sub fun z w hz=>(look_swap z hab).symm.trans hz⟩)
theorem assignPlain_does{t v:Expr}{pos:Pos}(Z:Env0 prog w base P G B K)(g:Good prog w base P G B r n)(ha:AOK A fr L n)(eo:EnvOK G B L env sc)(I:Inv prog w base fr env s γ σ ρ)(hok:assignOk sc t v=true)(hn:tupV t=none∨tupV v=none):
 SDoes prog w base P A fr L env s γ σ (exec (.Assign [t] v pos) env) (((r.ev sc ρ σ v).at ρ).bd fun v σ=>storeA P r sc ρ t v σ):=by
 refine Does.of_wp (fun Q E k=>assign_plain_wp hok (swapped_none hok hn) k) (SDoes.bind I (g.ev v ha eo I) fun a σ₁ b s₁ γ₁ _ I1 hv=>?_)
 cases hs:star? t with
 |true=>rw[storeA_star hs];trivial
 |false=>
  rw[assignAll_one hs]
  exact storeA_does Z g ha eo I1 hv
theorem assign_does{t v:Expr}{pos:Pos}(Z:Env0 prog w base P G B K)(g:Good prog w base P G B r n)(ha:AOK A fr L n)(eo:EnvOK G B L env sc)(I:Inv prog w base fr env s γ σ ρ):
 SDoes prog w base P A fr L env s γ σ (exec (.Assign [t] v pos) env) (assignA P r sc ρ σ t v):=by
 refine Does.opt (fun c hc=>Does.ofO fun q hq=>Does.chk fun h=>?_) fun _=>Does.chk fun hok=>?_
 ·have h1:=Bool.and_eq_true_iff.1 h
  have h2:=Bool.and_eq_true_iff.1 h1.1
  rw[compParts_inv hc,nameV_inv hq]
  exact compUsed_does g ha eo I h2.1 (notB h2.2) h1.2
 ·cases ht:tupV t with
  |none=>exact assignPlain_does Z g ha eo I hok (.inl ht)
  |some t'=>
   cases hv:tupV v with
   |none=>exact assignPlain_does Z g ha eo I hok (.inr hv)
   |some v'=>
    unfold assignOk at hok
    rw[ht,hv]at hok
    have hok:swapTup sc t'.1 v'.1=true:=hok
    have hok':=hok
    unfold swapTup at hok
    cases hn:names2 t'.1 with
    |none=>rw[hn]at hok;exact ffNe hok
    |some q=>
     rw[hn]at hok;dsimp only at hok
     cases h2:two? v'.1 with
     |none=>rw[h2]at hok;exact ffNe hok
     |some u=>
      rw[names2_inv hn,two_inv h2]at hok'
      rw[tupV_inv ht,tupV_inv hv,names2_inv hn,two_inv h2]
      exact assignSwap_does g ha eo I hok'
end
end Mine
end
section
namespace Mine
open PySem PySem.Calls PySem.Spec PySem.SeqAt PyProof.Rows
section
variable{prog:Program}{w:World}{base:Heap}{P:Prg}{W S:List Addr}{A:Around}{fr:List Env}{L:Addr}{s s₁ s₂:Shared}{γ γ₁ γ₂:Gh}{σ σ₀ σ₁ σ₂:Store}{env cenv:Env}{ρ ρ₁:Mine.Loc}{G B:Addr}{r:Rec}{n:Nat}{sc csc:Scope}
 {K:PySem.W.Frag}
theorem Fram.calm(F:Fram env s₁.heap γ₁ ρ)(I:Inv prog w base fr env s₁ γ₁ σ₁ ρ₁)(c:Calm prog w base fr s₁ γ₁ σ₁ s₂):Fram env s₂.heap γ₁ ρ:=by
 refine ea11 c fun W p hW=>?_;clear c
 have I':Inv prog w base fr env s₁ γ₁ σ₁ ρ:=⟨I.sr,I.ff,I.sap,F,I.oap⟩
 exact(I'.stepO p fun b hb hw=>by
  refine ea11 (F.own b hb) fun o ho hO=>?_
  exact hW b hw o ho hO).fram
theorem Inv.calm(I:Inv prog w base fr env s₁ γ₁ σ₁ ρ)(c:Calm prog w base fr s₁ γ₁ σ₁ s₂):Inv prog w base fr env s₂ γ₁ σ₁ ρ:=by
 refine ea11 c fun W p hW=>?_;clear c
 exact I.stepO p fun b hb hw=>by
  refine ea11 (I.fram.own b hb) fun o ho hO=>?_
  exact hW b hw o ho hO
set_option tactic.hygienic true in
theorem expr_does{e:Expr}{pos:Pos}(g:Good prog w base P G B r n)(ha:AOK A fr L n)(eo:EnvOK G B L env sc)(I:Inv prog w base fr env s γ σ ρ)(hp:plainV e=true):
 SDoes prog w base P A fr L env s γ σ (exec (.Expr e pos) env) (((r.ev sc ρ σ e).at ρ).bd fun v σ=>Mine.chk (noneV v) (.ok (.next,ρ) σ)):=by
 have hi:interactive env=false:=by unfold interactive;rw[eo.kind];rfl
 have hs:swapsWith e none pos.line env=pure false:=swaps_plain hp
 have hev:=g.ev e ha eo I
 cases hm:r.ev sc ρ σ e with
 |stuck=>trivial
 |exc z σ'=>
  rw[hm]at hev
  exact fun Q E hE=>wpAny_Expr (hev _ E fun v' s' γ' he _=>hE v' s' γ' ⟨he.1.wide,he.2⟩ (I.step he.1).fram) hi hs
 |ok v σ'=>
  rw[hm]at hev
  exact Does.chk fun hn Q E hQ=>wpAny_Expr (hev _ E fun b s' γ' hp hb=>(noneV_inv hn▸hb).noneInv▸hQ .next s' γ' hp.wide ⟨rfl,(I.step hp).fram⟩) hi hs
theorem if_does{t:Expr}{a b:List Stmt}{pos:Pos}(g:Good prog w base P G B r n)(ha:AOK A fr L n)(eo:EnvOK G B L env sc)(I:Inv prog w base fr env s γ σ ρ):
 SDoes prog w base P A fr L env s γ σ (exec (.If t a b pos) env) (((r.ts sc ρ σ t).at ρ).bd fun c σ=>match c with
  |true=>r.ex sc ρ σ a
  |false=>r.ex sc ρ σ b):=by
 show SDoes prog w base P A fr L env s γ σ (standAt pos >>= fun _=>isTrue t env (eval t env) >>= fun c=>if c=true then execs a env else execs b env) _
 refine Does.stand (SDoes.bind I (g.ts t ha eo I) fun c σ₁ cv s₁ γ₁ _ I1 hc=>?_)
 cases (show cv=c from hc)
 cases c with
 |true=>exact g.ex a ha eo I1
 |false=>exact g.ex b ha eo I1
theorem return_does{e:Expr}{pos:Pos}(g:Good prog w base P G B r n)(ha:AOK A fr L n)(eo:EnvOK G B L env sc)(I:Inv prog w base fr env s γ σ ρ):
 SDoes prog w base P A fr L env s γ σ (exec (.Return (some e) pos) env) (((r.ev sc ρ σ e).at ρ).bd fun v σ=> .ok (.ret v,ρ) σ):=by
 show SDoes prog w base P A fr L env s γ σ (standAt pos >>= fun _=>eval e env >>= fun v=>pure (.ret v)) _
 refine Does.stand (SDoes.bind I (g.ev e ha eo I) fun v σ₁ u s₁ γ₁ _ I1 hv=>?_)
 exact Does.ret I1.sr ⟨u,rfl,hv⟩
theorem execs_does{st:Stmt}{rest:List Stmt}{m:ResL (Fl×Mine.Loc)}(g:Good prog w base P G B r n)(ha:AOK A fr L n)(eo:EnvOK G B L env sc)(I:Inv prog w base fr env s γ σ ρ)
 (h:SDoes prog w base P A fr L env s γ σ (exec st env) m):
 SDoes prog w base P A fr L env s γ σ (execs (st::rest) env) (m.bd fun q σ=>match q.1 with
  | .next=>r.ex sc q.2 σ rest
  | .ret v=> .ok (.ret v,q.2) σ):=by
 show SDoes prog w base P A fr L env s γ σ (exec st env >>= fun f=>match f with| .next=>execs rest env|f=>pure f) _
 refine Does.bind h fun q σ₁ f s₁ γ₁ _ hp hf=>?_
 obtain⟨q1,q2⟩:=q
 cases q1 with
 |next=>
  refine ea01 hf fun z1=>?_;clear hf;subst z1;intro hF
  exact g.ex rest ha eo (I.stepX hp hF)
 |ret v=>
  refine ea11 hf fun u z1=>?_;clear hf;subst z1;intro hv
  exact Does.ret hp.sr ⟨u,rfl,hv⟩
end
end Mine
end
section
namespace Mine
open PySem PySem.Calls PySem.Spec PySem.SeqAt PyProof.Rows
section
variable{prog:Program}{w:World}{base:Heap}{P:Prg}{W S:List Addr}{A:Around}{fr:List Env}{L:Addr}{s s₀ s₁ s₂:Shared}{γ γ₀ γ₁ γ₂:Gh}{σ σ₀ σ₁ σ₂:Store}{env cenv:Env}{ρ ρ₁:Mine.Loc}{G B:Addr}{r:Rec}{n:Nat}{sc csc:Scope}
 {K:PySem.W.Frag}
noncomputable def LoopEnd(prog:Program)(w:World)(base:Heap)(P:Prg)(fr:List Env)(L:Addr)(env:Env)(s₀:Shared)(γ₀:Gh)(σ₀:Store)(m:ResL (Fl×Mine.Loc))(R:Result→Shared→Prop):Prop:=match m with
 | .stuck=>True
 | .ok q σf=>∀f s' γ',Post prog w base (owns env) (frs fr) s₀ γ₀ σ₀ s' γ' σf→FlR env s'.heap γ' f q→R (.ok f) s'
 | .exc x σf=>∀e d C s' γ',EXK prog w base P (owns env) (frs fr) s₀ γ₀ σ₀ s' γ' σf e d C x.1 (.at L)→Fram env s'.heap γ' x.2→R (.error (.ref e)) s'
theorem noted_end{x:XA×Mine.Loc}{σf:Store}{R:Result→Shared→Prop}{v:Value}(I0:Inv0 prog w base fr s₀ γ₀ σ₀)(ha:AOK A fr L n)(eo:EnvOK G B L env sc)(hR:LoopEnd prog w base P fr L env s₀ γ₀ σ₀ (.exc x σf) R)
 (I:Inv prog w base fr env s γ σ ρ) (X:Post prog w base (owns env) (frs fr) s₀ γ₀ σ₀ s γ σ) (he:EX prog w base P (owns env) (frs fr) L s γ σ s₁ γ₁ σf v x.1) (hF:Fram env s₁.heap γ₁ x.2):
 notedBy (model prog w) A env (fun e s'=>R (.error e) s') v s₁:=by
 refine EX.noted I0 (he.after X) ha.frames ha.head eo.frame fun s₂ e d C hv c K=>?_
 subst hv
 exact hR e d C s₂ γ₁ K (hF.calm (I.stepX he.1 hF) c)
theorem ofO_ne{ε α β:Type}{o:Option α}{f:α→Out ε β}{m:Out ε β}(h:Mine.ofO o f=m)(hm:m≠ .stuck):∃a,o=some a∧f a=m:=by
 cases o with
 |none=>exact absurd h.symm hm
 |some a=>exact⟨a,rfl,h⟩
set_option tactic.hygienic true in
theorem forLoop_ok{t:Expr}{body:List Stmt}{itv:Value}{F:List Addr}{xs:List AV}{St:Nat→Shared→Gh→Store→Prop}{R:Result→Shared→Prop}{m:ResL (Fl×Mine.Loc)}
 (T:Turns prog w base A fr t itv F xs St) (g:Good prog w base P G B r n) (ha:AOK A fr L n) (eo:EnvOK G B L env sc) (I0:Inv0 prog w base fr s₀ γ₀ σ₀) (nF:∀b∈F,s₀.heap.get? b=none)
 (hR:LoopEnd prog w base P fr L env s₀ γ₀ σ₀ m R) (hst:m≠ .stuck) (i:Nat) (X:Post prog w base (owns env) (frs fr) s₀ γ₀ σ₀ s γ σ) (I:Inv prog w base fr env s γ σ ρ) (hS:St i s γ σ) (hgo:forGo r sc t body ρ (xs.drop i) σ=m):
 codeAny (model prog w) A (.forLoop t itv body [] env) R s:=by
 let Inn:Nat→Shared→Prop:=fun k s=>∃i γ σ ρ,xs.length - i=k∧Post prog w base (owns env) (frs fr) s₀ γ₀ σ₀ s γ σ∧Inv prog w base fr env s γ σ ρ∧St i s γ σ∧forGo r sc t body ρ (xs.drop i) σ=m
 refine codeAny_forLoop_any Inn (fun k s hI=>?_) (xs.length - i) ⟨i,γ,σ,ρ,rfl,X,I,hS,hgo⟩
 clear X hS hgo I
 refine ea44 hI fun i γ σ ρ hk X I hS hgo=>?_;clear hI
 have ownF:∀b∈owns env,b∉F:=fun b hb hF=>by
  refine ea11 (I.fram.own b hb) fun o ho hO=>?_
  refine ea03 (T.foot i s γ σ hS b hF) fun _ _ _ h3=>?_;refine ea11 h3 fun o' ho' h4=>?_;clear h3;refine ea10 h4 fun vs hd=>?_;clear h4
  rw[ho]at ho';cases ho'
  exact hO.1 vs hd
 cases hx:xs[i]? with
 |none=>
  have hd:xs.drop i=[]:=List.drop_of_length_le (List.getElem?_eq_none_iff.mp hx)
  rw[hd]at hgo
  have hgo:Out.ok (Fl.next,ρ) σ=m:=hgo
  subst hgo
  refine T.stop i s γ σ _ _ I.sr hS hx fun h' tk hs=>wpAny_execs_nil ?_
  have hp2:=X.tail (tk:=tk) hs fun b hb=>by
   refine ea03 (T.foot i s γ σ hS b hb) fun h1 h2 _ h3=>?_;refine ea11 h3 fun o ho h4=>?_;clear h3;refine ea10 h4 fun vs hd=>?_;clear h4
   exact⟨nF b hb,h1,h2,o,vs,ho,hd⟩
  obtain⟨tk',_⟩:=I.sr.otherL hs fun b hb=>by
   refine ea03 (T.foot i s γ σ hS b hb) fun h1 h2 _ h3=>?_;refine ea11 h3 fun o ho h4=>?_;clear h3;refine ea10 h4 fun vs hd=>?_;clear h4
   exact⟨h1,h2,fun o' ho'=>by rw[ho]at ho';cases ho';exact fun e=>by refine ea01 e fun _ h3=>?_;clear e;refine ea20 h3 fun xs n e=>?_;clear h3;rw[hd]at e;cases e⟩
  refine hR .next _ γ hp2 ⟨rfl,Fram.keepsB I.fram (fun b hb o ho=>hs b o (ownF b hb) ho) fun u v h=>?_⟩
  have :=h.mono [] tk'
  rwa [List.append_nil]at this
 |some x=>
  have hlt:i<xs.length:=(List.getElem?_eq_some_iff.mp hx).1
  have hd:xs.drop i=x::xs.drop (i+1):=by
   rw[List.drop_eq_getElem_cons hlt]
   have :=(List.getElem?_eq_some_iff.mp hx).2
   rw[this]
  rw[hd]at hgo
  refine ea11 (ofO_ne (o:=bindA sc t x ρ) hgo hst) fun ρ₁ hbind hgo=>?_
  refine wpAny_mono (T.next i s γ σ x (fun v s₂=>wpAny (model prog w) A (assign t env v) (fun _ s₃=>wpAny (model prog w) A (execs body env) (fun f s₄=>match f with
   | .next| .cont=>∃m,m<k∧Inn m s₄
   | .brk=>R (.ok .next) s₄
   | .ret v=>R (.ok (.ret v)) s₄) (notedBy (model prog w) A env fun e s'=>R (.error e) s') s₃) (notedBy (model prog w) A env fun e s'=>R (.error e) s') s₂) _ I.sr hS hx fun v s₂ hp hS' hv=>?_) (fun r' s' hr=>?_) fun _ _ e=>e
  ·have I2:=I.stepO hp ownF
   have X2:Post prog w base (owns env) (frs fr) s₀ γ₀ σ₀ s₂ γ σ:=X.then hp fun b hb _=>nF b hb
   refine(bind_does (P:=P) (A:=A) (L:=L) eo ha.handled (Wok.owns env sc) (fun _ h=>h) I2 hv hbind).use rfl _ _ fun _ s₃ γ₃ hp3 hfr=>?_
   have I3:=I2.stepX hp3 hfr
   have X3:=X2.trans hp3
   have S3:=T.step _ _ _ _ _ _ _ _ I2.sr hS' hp3 fun b hb=>⟨ownF b hb,I2.oap b hb |>.2⟩
   have hex:=g.ex body ha eo I3
   cases hm:r.ex sc ρ₁ σ body with
   |stuck=>rw[hm]at hgo;exact absurd hgo.symm hst
   |exc y σ'=>
    rw[hm]at hgo hex
    have hgo:Out.exc y σ'=m:=hgo
    subst hgo
    exact hex _ _ fun v' s' γ' he hF=>noted_end I0 ha eo hR I3 X3 he hF
   |ok q σ'=>
    rw[hm]at hgo hex
    obtain⟨q1,q2⟩:=q
    cases q1 with
    |next=>
     refine hex _ _ fun f s₄ γ₄ hp4 hf=>?_
     refine ea01 hf fun z1=>?_;clear hf;subst z1;intro hF
     have I4:=I3.stepX hp4 hF
     have S4:=T.step _ _ _ _ _ _ _ _ I3.sr S3 hp4 fun b hb=>⟨ownF b hb,I3.oap b hb |>.2⟩
     exact⟨_,by omega,i+1,γ₄,σ',q2,rfl,X3.trans hp4,I4,S4,hgo⟩
    |ret u=>
     refine hex _ _ fun f s₄ γ₄ hp4 hf=>?_
     refine ea11 hf fun z z1=>?_;clear hf;subst z1;intro hz
     have hgo:Out.ok (Fl.ret u,q2) σ'=m:=hgo
     subst hgo
     exact hR (.ret z) s₄ γ₄ (X3.trans hp4) ⟨z,rfl,hz⟩
  ·refine ea11 hr fun v z1=>?_;clear hr;subst z1;intro hv
   exact hv
end
end Mine
end
section
namespace Mine
open PySem PySem.Calls PySem.Spec PySem.SeqAt PyProof.Rows
section
variable{prog:Program}{w:World}{base:Heap}{P:Prg}{W S:List Addr}{A:Around}{fr:List Env}{L:Addr}{s s₀ s₁ s₂:Shared}{γ γ₀ γ₁ γ₂:Gh}{σ σ₀ σ₁ σ₂:Store}{env cenv:Env}{ρ ρ₁:Mine.Loc}{G B:Addr}{r:Rec}{n:Nat}{sc csc:Scope}
 {K:PySem.W.Frag}
noncomputable def Ends(prog:Program)(w:World)(base:Heap)(P:Prg)(fr:List Env)(L:Addr)(env:Env)(s:Shared)(γ:Gh)(σ:Store)(m:ResL (Fl×Mine.Loc))(Q:Flow→Shared→Prop)(E:Value→Shared→Prop):Prop:=match m with
 | .stuck=>False
 | .ok q σ'=>∀f s' γ',Post prog w base (owns env) (frs fr) s γ σ s' γ' σ'→FlR env s'.heap γ' f q→Q f s'
 | .exc x σ'=>∀v s' γ',EX prog w base P (owns env) (frs fr) L s γ σ s' γ' σ' v x.1→Fram env s'.heap γ' x.2→E v s'
theorem SDoes.of_ends{t:Sem Flow}{m:ResL (Fl×Mine.Loc)}(h:∀Q E,Ends prog w base P fr L env s γ σ m Q E→wpAny (model prog w) A t Q E s):SDoes prog w base P A fr L env s γ σ t m:=by
 cases m with
 |stuck=>trivial
 |ok q σ'=>exact fun Q E hQ=>h Q E hQ
 |exc x σ'=>exact fun Q E hE=>h Q E hE
theorem loopEnd_of{m:ResL (Fl×Mine.Loc)}{v:AV}{xs:List AV}{th:Store→Store}{Q:Flow→Shared→Prop}{E:Value→Shared→Prop}(ha:AOK A fr L n)(eo:EnvOK G B L env sc)(hp:Post prog w base [] (frs fr) s γ σ s₁ γ₁ σ₁)(I1:Inv prog w base fr env s₁ γ₁ σ₁ ρ)(src:Source v σ₁ xs σ₀ th)
 (h:Ends prog w base P fr L env s γ σ (thawO th m) Q E):LoopEnd prog w base P fr L env s₁ γ₁ σ₀ m (fun r s'=>match r with| .ok f=>Q f s'| .error e=>cameBackBy (model prog w) A env E e s'):=by
 have hW:∀b∈owns env,∀p∈γ₁,b≠p.1∧b≠p.2:=fun b hb=>(I1.oap b hb).2
 cases m with
 |stuck=>trivial
 |ok q σf=>
  intro f s' γ' x hf
  exact h f s' γ' (hp.wide.trans (src.thaw I1.zero x hW)) hf
 |exc x σf=>
  intro e d C s' γ' X hF
  have I0:=src.inv I1
  refine EXK.back I0.zero X (by intro e;cases e) eo.frame fun s₂ c he=>?_
  have h2:EX prog w base P (owns env) (frs fr) L s₁ γ₁ σ₁ s₂ γ' (th σf) (.ref e) x.1:=⟨src.thaw I1.zero he.1 hW,he.2⟩
  exact h (.ref e) s₂ γ' (h2.after hp.wide) (hF.calm (I0.stepX X.post hF) c)
theorem forPlain_does{t it:Expr}{body:List Stmt}{pos:Pos}(g:Good prog w base P G B r n)(ha:AOK A fr L n)(eo:EnvOK G B L env sc)(I:Inv prog w base fr env s γ σ ρ)(hset:isSet it=false):
 SDoes prog w base P A fr L env s γ σ (exec (.For t it body [] pos) env) (((r.ev sc ρ σ it).at ρ).bd fun v σ=>over v σ (forGo r sc t body ρ)):=by
 have hev:=g.ev it ha eo I
 cases hm:r.ev sc ρ σ it with
 |stuck=>trivial
 |exc z σ'=>
  rw[hm]at hev
  exact fun Q E hE=>wpAny_For (hev _ E fun v' s' γ' he _=>hE v' s' γ' ⟨he.1.wide,he.2⟩ (I.step he.1).fram) (folded_ok hset)
 |ok v σ₁=>
  rw[hm]at hev
  show SDoes _ _ _ _ _ _ _ _ _ _ _ _ (over v σ₁ (forGo r sc t body ρ))
  by_cases hst:over v σ₁ (forGo r sc t body ρ)= .stuck
  ·rw[hst];trivial
  refine ea31 (over_cases hst) fun xs σ₀ th src ho=>?_
  have hst':forGo r sc t body ρ xs σ₀≠ .stuck:=fun e=>hst (by rw[ho,e];rfl)
  rw[ho]
  refine SDoes.of_ends fun Q E hQE=>wpAny_For (hev _ E fun x s₁ γ₁ hp hv=>?_) (folded_ok hset)
  have I1:=I.step hp
  refine src.iter (target:=t) ha.handled I1.zero hv fun J St s₂ nJ T hS hp2 _=>?_
  exact forLoop_ok T g ha eo (src.inv0 I1.zero) (fun b hb=>by rw[List.mem_singleton.mp hb];exact nJ) (loopEnd_of ha eo hp I1 src hQE) hst' 0 hp2.wide ((src.inv I1).step hp2) hS rfl
theorem type_road{T:String}{x:Str}{p1 p2:Pos}{a:Expr}(Z:Env0 prog w base P G B K)(eo:EnvOK G B L env sc)(I:Inv prog w base fr env s γ σ ρ)(hx:nameA P sc ρ x=some (.fix (.type T)))(hs:star? a=false){Q E:Value→Shared→Prop}
 (h:∀s' γ',Post prog w base [] (frs fr) s γ σ s' γ' σ→wpAny (model prog w) A (eval a env) (fun v s₂=>wpAny (model prog w) A (PySem.call (.type T) [v]) Q E s₂) E s'):wpAny (model prog w) A (eval (.Call (.Name x p1) [a] [] p2) env) Q E s:=by
 refine wpAny_Call_NameR (name_does (P:=P) (A:=A) (L:=L) (fr:=fr) (pos:=p1) Z.H I eo hx _ E fun f s₁ γ₁ hp hf=>?_)
 cases hf with
 |fix _=>
 rw[starEach_cons hs]
 refine PySem.callWith_type rfl (evalArgs_plain (spliced_cons ?_))
 exact wpAny_mono (h s₁ γ₁ hp) (fun v s₃ h3=>spliced_nil h3) fun _ _ e=>e
end
end Mine
end
section
namespace Mine
open PySem PySem.Calls PySem.Spec PySem.SeqAt PyProof.Rows
section
variable{prog:Program}{w:World}{base:Heap}{P:Prg}{W S:List Addr}{A:Around}{fr:List Env}{L:Addr}{s s₀ s₁ s₂:Shared}{γ γ₀ γ₁ γ₂:Gh}{σ σ₀ σ₁ σ₂:Store}{env cenv:Env}{ρ ρ₁:Mine.Loc}{G B:Addr}{r:Rec}{n:Nat}{sc csc:Scope}
 {K:PySem.W.Frag}
theorem beyond{h:Heap}{a:Addr}(ha:h.objs.size≤a):h.get? a=none:=by
 cases e:h.get? a with
 |none=>rfl
 |some o'=>exact absurd (Heap.lt_size e) (Nat.not_lt.mpr ha)
theorem Source.enumIter{v:AV}{xs:List AV}{th:Store→Store}{x:Value}{elts:List Expr}{k:Nat}{pos:Pos}(X:Source v σ xs σ₀ th)(hh:A.handled=none)(I:Inv0 prog w base fr s γ σ)(hv:VR s.heap γ x v){Q:Value→Shared→Prop}{E:Value→Shared→Prop}
 (hQ:∀(e it:Addr) (St:Nat→Shared→Gh→Store→Prop) s₂,s.heap.get? e=none→s.heap.get? it=none→Turns prog w base A fr (.Tuple elts k pos) (.ref e) [e,it] (enumL 0 xs) St→St 0 s₂ γ σ₀→Post prog w base [] (frs fr) s γ σ₀ s₂ γ σ₀→Q (.ref e) s₂):
 wpAny (model prog w) A (PySem.call (.type "enumerate") [x]) (fun ev s₁=>wpAny (model prog w) A (pyIter ev) Q E s₁) E s:=by
 have I0:=X.inv0 I
 have n1:s.heap.get? (s.heap.objs.size+1)=none:=beyond (Nat.le_succ _)
 have n2:s.heap.get? s.heap.objs.size=none:=push_none _
 have hne:s.heap.objs.size+1≠s.heap.objs.size:=Nat.succ_ne_self _
 rcases X with ⟨rfl,rfl,_⟩|⟨i,rfl,hi,rfl,_⟩
 ·refine ea23 (hv.tupInv) fun t vs z1=>?_;subst z1;intro ht hb hr
  have htl:t<s.heap.objs.size:=by refine ea10 ht fun m hm=>?_;clear ht;exact Heap.lt_size hm
  have f1:s.heap.objs.size+1∉[s.heap.objs.size,t]:=fun h=>by
   rcases List.mem_cons.mp h with h|h
   ·exact hne h
   ·exact Nat.ne_of_gt (Nat.lt_succ_of_lt htl) (List.mem_singleton.mp h)
  have f2:t∉[s.heap.objs.size+1,s.heap.objs.size]:=fun h=>by
   rcases List.mem_cons.mp h with h|h
   ·exact Nat.ne_of_lt (Nat.lt_succ_of_lt htl) h
   ·exact Nat.ne_of_lt htl (List.mem_singleton.mp h)
  refine call_enum_tuple ht fun h' hE hit hk=>wpAny_pyIter_enum hE ?_
  have hp:Post prog w base [] (frs fr) s γ σ₀ {s with heap:=h',toks:=s.toks} γ σ₀:=Post.keeps I.sr hk
  have D:=draws_tuple (prog:=prog) (w:=w) (A:=A.in1) hh s.heap.objs.size t (Nat.ne_of_lt htl) vs.toArray
  refine hQ _ _ _ {s with heap:=h',toks:=s.toks} n1 n2 (turns_enum (vs:=vs) (Src:=fun s _ _=>PT s.heap t vs.toArray) D (by simp) hne f1 (fun i h hD=>?_) (fun i s' γ' σ' s'' γ'' σ'' W R hS hD hF x hw=>?_) (fun s' γ' σ' h'' tk hS hbl=>?_)) ?_ hp
  ·obtain⟨⟨o,ho,_,hd⟩,_⟩:=hD;exact⟨o,_,ho,hd⟩
  ·obtain⟨⟨o,ho,hc,hd⟩,_⟩:=hD
   have hS':=x.tup _ _ hS
   exact⟨hS',⟨o,hF.keep x (fun h=>(hw _ h).1 rfl) ho,hc,hd⟩,hS'.is⟩
  ·refine ea10 hS fun m hm=>?_;clear hS
   exact⟨m,hbl _ _ f2 hm⟩
  ·exact⟨⟨Foot.new I n1,Foot.new I n2⟩,⟨_,hE⟩,hr.post hp,hp.tup _ _ ht,⟨hit,(hp.tup _ _ ht).is⟩,Nat.zero_le _⟩
 ·refine ea13 (I.sr.ob hv hi) fun p z1=>?_;subst z1;intro hpi e12 h1;refine ea12 h1 fun vs hl hb hr=>?_;clear h1
  have htl:p.1<s.heap.objs.size:=by refine ea10 hl fun m hm=>?_;clear hl;exact Heap.lt_size hm
  have f1:s.heap.objs.size+1∉[s.heap.objs.size,p.1]:=fun h=>by
   rcases List.mem_cons.mp h with h|h
   ·exact hne h
   ·exact Nat.ne_of_gt (Nat.lt_succ_of_lt htl) (List.mem_singleton.mp h)
  have f2:p.1∉[s.heap.objs.size+1,s.heap.objs.size]:=fun h=>by
   rcases List.mem_cons.mp h with h|h
   ·exact Nat.ne_of_lt (Nat.lt_succ_of_lt htl) h
   ·exact Nat.ne_of_lt htl (List.mem_singleton.mp h)
  have hfz:(σ.set i .frozen)[i]? =some .frozen:=by rw[List.getElem?_set_self'];rw[hi];rfl
  have hS0:p.1∉frs fr:=fun h=>(I.sap _ h p (List.mem_of_getElem? hpi)).1 rfl
  refine call_enumerate_list hl.isList fun h' hE hit _ hk=>wpAny_pyIter_enum hE ?_
  have hp:Post prog w base [] (frs fr) s γ (σ.set i .frozen) {s with heap:=h',toks:=s.toks} γ (σ.set i .frozen):=Post.keeps I0.sr hk
  have D:=Draws.list (prog:=prog) (w:=w) (A:=A.in1) hh s.heap.objs.size p.1 (Nat.ne_of_lt htl) vs.toArray
  refine hQ _ _ _ {s with heap:=h',toks:=s.toks} n1 n2 (turns_enum (vs:=vs) (Src:=fun s γ σ=>γ[i]? =some p∧σ[i]? =some .frozen∧s.heap.PlainList p.1 vs.toArray) D (by simp) hne f1 (fun i h hD=>?_) (fun j s' γ' σ' s'' γ'' σ'' W R hS hD hF x hw=>?_) (fun s' γ' σ' h'' tk hS hbl=>?_)) ?_ hp
  ·obtain⟨⟨o,ho,_,hd⟩,_⟩:=hD;exact⟨o,_,ho,hd⟩
  ·obtain⟨⟨o,ho,hc,hd⟩,_⟩:=hD
   refine ea02 hS fun hk' hz h1=>?_;clear hS;refine ea10 h1 fun m hl'=>?_;clear h1
   have hl2:s''.heap.PlainList p.1 vs.toArray:=by
    refine⟨m,?_⟩
    by_cases hW:p.1∈W
    ·exact absurd rfl ((hw _ hW).2 p (List.mem_of_getElem? hk')).1
    ·refine ea11 (x.ext _ _ hl' hW (notMut R hk' hz)) fun sl e hs=>?_
     rw[hs hS0]at e;exact e
   refine⟨⟨?_,x.frz _ hz,hl2⟩,⟨o,hF.keep x (fun h=>(hw _ h).1 rfl) ho,hc,hd⟩,hl2.isList⟩
   refine ea11 (x.pre) fun add z1=>?_;subst z1;intro _;exact get_pre hk'
  ·refine ea02 hS fun hk' hz h1=>?_;clear hS;refine ea10 h1 fun m hm=>?_;clear h1
   exact⟨hk',hz,m,hbl _ _ f2 hm⟩
  ·have hl2:h'.PlainList p.1 vs.toArray:=hl.at fun o e=>hk _ o e
   exact⟨⟨Foot.new I n1,Foot.new I n2⟩,⟨_,hE⟩,hr.post hp,⟨hpi,hfz,hl2⟩,⟨hit,hl2.isList⟩,Nat.zero_le _⟩
end
end Mine
end
section
namespace Mine
open PySem PySem.Calls PySem.Spec PySem.SeqAt PyProof.Rows
section
variable{prog:Program}{w:World}{base:Heap}{P:Prg}{W S:List Addr}{A:Around}{fr:List Env}{L:Addr}{s s₀ s₁ s₂:Shared}{γ γ₀ γ₁ γ₂:Gh}{σ σ₀ σ₁ σ₂:Store}{env cenv:Env}{ρ ρ₁:Mine.Loc}{G B:Addr}{r:Rec}{n:Nat}{sc csc:Scope}
 {K:PySem.W.Frag}
theorem forEnum_does{x:Str}{p1 p2 tp pos:Pos}{elts:List Expr}{k:Nat}{a:Expr}{body:List Stmt}(Z:Env0 prog w base P G B K)(g:Good prog w base P G B r n)(ha:AOK A fr L n)(eo:EnvOK G B L env sc)(I:Inv prog w base fr env s γ σ ρ)
 (hx:nameA P sc ρ x=some (.fix (.type "enumerate"))) (hs:star? a=false):
 SDoes prog w base P A fr L env s γ σ (exec (.For (.Tuple elts k tp) (.Call (.Name x p1) [a] [] p2) body [] pos) env) (((r.ev sc ρ σ a).at ρ).bd fun v σ=>over v σ fun xs σ=>forGo r sc (.Tuple elts k tp) body ρ (enumL 0 xs) σ):=by
 have hev:∀{s':Shared} {γ':Gh},Post prog w base [] (frs fr) s γ σ s' γ' σ→VDoes prog w base P A fr L s' γ' σ (eval a env) (r.ev sc ρ σ a):=fun hp=>g.ev a ha eo (I.step hp)
 cases hm:r.ev sc ρ σ a with
 |stuck=>trivial
 |exc z σ'=>
  refine fun Q E hE=>wpAny_For (type_road Z eo I hx hs fun s' γ' hp=>?_) (folded_ok rfl)
  have :=hev hp
  rw[hm]at this
  exact this _ E fun v' s'' γ'' he _=>hE v' s'' γ'' ⟨(hp.trans he.1).wide,(he.after hp).2⟩ (I.step (hp.trans he.1)).fram
 |ok v σ₁=>
  show SDoes _ _ _ _ _ _ _ _ _ _ _ _ (over v σ₁ fun xs σ=>forGo r sc (.Tuple elts k tp) body ρ (enumL 0 xs) σ)
  by_cases hst:(over v σ₁ fun xs σ=>forGo r sc (.Tuple elts k tp) body ρ (enumL 0 xs) σ)= .stuck
  ·rw[hst];trivial
  refine ea31 (over_cases hst) fun xs σ₀ th src ho=>?_
  have hst':forGo r sc (.Tuple elts k tp) body ρ (enumL 0 xs) σ₀≠ .stuck:=fun e=>hst (by rw[ho,e];rfl)
  rw[ho]
  refine SDoes.of_ends fun Q E hQE=>wpAny_For (type_road Z eo I hx hs fun s' γ' hp0=>?_) (folded_ok rfl)
  have :=hev hp0
  rw[hm]at this
  refine this _ E fun x s₁ γ₁ hp hv=>?_
  have I1:=(I.step hp0).step hp
  refine src.enumIter (elts:=elts) (k:=k) (pos:=tp) ha.handled I1.zero hv fun e it St s₂ n1 n2 T hS hp2=>?_
  refine forLoop_ok T g ha eo (src.inv0 I1.zero) (fun b hb=>?_) (loopEnd_of ha eo (hp0.trans hp) I1 src hQE) hst' 0 hp2.wide ((src.inv I1).step hp2) hS rfl
  rcases List.mem_cons.mp hb with rfl|hb
  ·exact n1
  ·rw[List.mem_singleton.mp hb];exact n2
set_option tactic.hygienic true in
theorem while_does{t:Expr}{body:List Stmt}{pos:Pos}(g:Good prog w base P G B r n)(ha:AOK A fr L n)(eo:EnvOK G B L env sc)(I:Inv prog w base fr env s γ σ ρ)(N:Nat):
 SDoes prog w base P A fr L env s γ σ (exec (.While t body [] pos) env) (quiet (whileGo r sc t body N ρ σ)):=by
 cases hm:whileGo r sc t body N ρ σ with
 |stuck=>trivial
 |exc z σ'=>trivial
 |ok q σf=>
  refine fun Q E hQ=>wpAny_While ?_
  let Inn:Nat→Shared→Prop:=fun k s'=>∃γ' σ' ρ',Post prog w base (owns env) (frs fr) s γ σ s' γ' σ'∧Inv prog w base fr env s' γ' σ' ρ'∧whileGo r sc t body k ρ' σ'= .ok q σf
  refine codeAny_whileLoop Inn (fun k s' hI=>?_) N ⟨γ,σ,ρ,Post.refl I.sr,I,hm⟩
  clear hm
  refine ea32 hI fun γ' σ' ρ' X I' hm=>?_;clear hI
  cases k with
  |zero=>exact nomatch hm
  |succ k=>
   refine ea21 (bd_ok hm) fun b σ₁ h1 h2=>?_
   have h1':r.ts sc ρ' σ' t= .ok b σ₁:=by
    cases e:r.ts sc ρ' σ' t with
    |stuck=>rw[e]at h1;cases h1
    |exc z σ''=>rw[e]at h1;cases h1
    |ok b' σ''=>rw[e]at h1;cases h1;rfl
   refine(g.ts t ha eo I').use h1' _ _ fun c s₁ γ₁ hp hc=>?_
   cases (show c=b from hc)
   have I1:=I'.step hp
   cases b with
   |false=>
    cases h2
    exact wpAny_execs_nil (hQ .next s₁ γ₁ (X.trans hp.wide) ⟨rfl,I1.fram⟩)
   |true=>
    obtain⟨⟨q1,q2⟩,σ₂,h3,h4⟩:=bd_ok h2
    refine(g.ex body ha eo I1).use h3 _ _ fun f s₂ γ₂ hp2 hf=>?_
    cases q1 with
    |next=>
     refine ea01 hf fun z1=>?_;clear hf;subst z1;intro hF
     exact⟨k,Nat.lt_succ_self _,γ₂,σ₂,q2,(X.trans hp.wide).trans hp2,I1.stepX hp2 hF,h4⟩
    |ret v=>
     refine ea11 hf fun u z1=>?_;clear hf;subst z1;intro hv
     cases h4
     exact hQ (.ret u) s₂ γ₂ ((X.trans hp.wide).trans hp2) ⟨u,rfl,hv⟩
end
end Mine
end
section
namespace Mine
open PySem PySem.Calls PySem.Spec PySem.SeqAt PyProof.Rows
section
variable{prog:Program}{w:World}{base:Heap}{P:Prg}{W S:List Addr}{A:Around}{fr:List Env}{L:Addr}{s s₀ s₁ s₂:Shared}{γ γ₀ γ₁ γ₂:Gh}{σ σ₀ σ₁ σ₂:Store}{env cenv:Env}{ρ ρ₁:Mine.Loc}{G B:Addr}{r:Rec}{n:Nat}{sc csc:Scope}
 {K:PySem.W.Frag}
theorem rangeSize_nat(n:Nat):Builtin.Range.rangeSize 0 (n:Int) 1=(n:Int):=by
 unfold Builtin.Range.rangeSize
 rw[if_pos (by decide)]
 split
 ·rw[Int.ediv_one];omega
 ·omega
theorem fits_nat{n:Nat}(h:n≤2000):Builtin.Range.rangeFitsLong (n:Int)=true:=by
 unfold Builtin.Range.rangeFitsLong
 simp
 omega
theorem range_small{n:Nat}(h:n≤1000):Builtin.Range.small 0 (n:Int) 1=true:=by
 unfold Builtin.Range.small
 rw[rangeSize_nat,fits_nat (by omega)]
 have e:((n:Int)+(1 - 1))=(n:Int):=by omega
 rw[if_pos (by decide),e,fits_nat (by omega)]
 simp
 exact⟨by decide,by decide⟩
theorem forRange_does{t:Expr}{x:Str}{p1 p2 pos:Pos}{a:Expr}{body:List Stmt}(Z:Env0 prog w base P G B K)(g:Good prog w base P G B r n)(ha:AOK A fr L n)(eo:EnvOK G B L env sc)(I:Inv prog w base fr env s γ σ ρ)
 (hx:nameA P sc ρ x=some (.fix (.type "range"))) (hs:star? a=false):
 SDoes prog w base P A fr L env s γ σ (exec (.For t (.Call (.Name x p1) [a] [] p2) body [] pos) env) (((r.ev sc ρ σ a).at ρ).bd fun v σ=>Mine.ofO (natOf v) fun n=>Mine.chk (Nat.ble n 1000) (forGo r sc t body ρ (rangeL 0 n) σ)):=by
 have hev:∀{s':Shared} {γ':Gh},Post prog w base [] (frs fr) s γ σ s' γ' σ→VDoes prog w base P A fr L s' γ' σ (eval a env) (r.ev sc ρ σ a):=fun hp=>g.ev a ha eo (I.step hp)
 cases hm:r.ev sc ρ σ a with
 |stuck=>trivial
 |exc z σ'=>
  refine fun Q E hE=>wpAny_For (type_road Z eo I hx hs fun s' γ' hp=>?_) (folded_ok rfl)
  have :=hev hp
  rw[hm]at this
  exact this _ E fun v' s'' γ'' he _=>hE v' s'' γ'' ⟨(hp.trans he.1).wide,(he.after hp).2⟩ (I.step (hp.trans he.1)).fram
 |ok v σ₁=>
  refine Does.ofO fun m hn=>Does.chk fun hle=>?_
  by_cases hst:forGo r sc t body ρ (rangeL 0 m) σ₁= .stuck
  ·rw[hst];trivial
  refine SDoes.of_ends fun Q E hQE=>wpAny_For (type_road Z eo I hx hs fun s' γ' hp0=>?_) (folded_ok rfl)
  have :=hev hp0
  rw[hm]at this
  refine this _ E fun u s₁ γ₁ hp hv=>?_
  have I1:=(I.step hp0).step hp
  refine ea10 (hv.asInt (natOf_inv hn)) fun tk eu=>?_
  rw[eu]
  refine call_range_1 ?_
  generalize hh2:s₁.heap.push {cls:= .type "range",data:= .fields #[.int 0 s₁.toks,.int (m:Int) tk,.int 1 (s₁.toks+1)]}=h2
  have hpa:Post prog w base [] (frs fr) s₁ γ₁ σ₁ {s₁ with heap:=h2,toks:=s₁.toks+1+1} γ₁ σ₁:=Post.keeps I1.sr (hh2▸push_keeps _ _)
  have I2:=I1.step hpa
  refine wpAny_pyIter_range (hh2▸IsRange.new _ _ _ _ _ _ _) (range_small (Nat.le_of_ble_eq_true hle)) ?_
  rw[rangeSize_nat]
  have hpb:=Post.keeps (prog:=prog) (w:=w) (base:=base) (W:=[]) (S:=frs fr) (tk:=s₁.toks+1+1) I2.sr (push_keeps h2 {cls:= .type "range_iterator",data:= .fields #[rawInt 0,rawInt (m:Int),rawInt 1]})
  have hQE':Ends prog w base P fr L env s γ σ (thawO id (forGo r sc t body ρ (rangeL 0 m) σ₁)) Q E:=by
   cases h:forGo r sc t body ρ (rangeL 0 m) σ₁ with
   |stuck=>exact absurd h hst
   |ok q σ'=>rw[h]at hQE;exact hQE
   |exc z σ'=>rw[h]at hQE;exact hQE
  exact forLoop_ok (turns_range (target:=t) (I:=h2.objs.size) ha.handled) g ha eo I2.zero (fun b hb=>by rw[List.mem_singleton.mp hb];exact push_none _) (loopEnd_of ha eo ((hp0.trans hp).trans hpa) I2 (.inl ⟨rfl,rfl,rfl⟩:Source (.tup (rangeL 0 m)) σ₁ (rangeL 0 m) σ₁ id) hQE') hst 0 hpb.wide (I2.step hpb) ⟨Foot.new I2.zero (push_none _),(Heap.get?_push_size h2 (o:={cls:= .type "range_iterator",data:= .fields #[rawInt 0,rawInt (m:Int),rawInt 1]}) rfl)⟩ rfl
end
end Mine
end
section
namespace Mine
open PySem PySem.Calls PySem.Spec PySem.SeqAt PyProof.Rows
section
variable{prog:Program}{w:World}{base:Heap}{P:Prg}{W S:List Addr}{A:Around}{fr:List Env}{L:Addr}{s s₀ s₁ s₂:Shared}{γ γ₀ γ₁ γ₂:Gh}{σ σ₀ σ₁ σ₂:Store}{env cenv:Env}{ρ ρ₁:Mine.Loc}{G B:Addr}{r:Rec}{n:Nat}{sc csc:Scope}
 {K:PySem.W.Frag}
theorem for_does{t it:Expr}{body:List Stmt}{pos:Pos}(Z:Env0 prog w base P G B K)(g:Good prog w base P G B r n)(ha:AOK A fr L n)(eo:EnvOK G B L env sc)(I:Inv prog w base fr env s γ σ ρ)(hset:isSet it=false):
 SDoes prog w base P A fr L env s γ σ (exec (.For t it body [] pos) env) (forBy P r sc ρ σ t body (iterK P sc ρ it)):=by
 have plain:=forPlain_does (t:=t) (body:=body) (pos:=pos) g ha eo I hset
 unfold iterK
 cases hc:callV1 it with
 |none=>exact plain
 |some q=>
  dsimp only
  cases hs:star? q.2 with
  |true=>exact plain
  |false=>
   dsimp only
   cases he:isTypeFn (nameA P sc ρ q.1.x) "enumerate" with
   |true=>
    refine Does.chk fun ht=>?_
    cases hq:tupV t with
    |none=>rw[hq]at ht;exact ffNe ht
    |some u=>
     rw[callV1_inv hc,tupV_inv hq]
     exact forEnum_does Z g ha eo I (isTypeFn_inv he) hs
   |false=>
    dsimp only
    cases hr:isTypeFn (nameA P sc ρ q.1.x) "range" with
    |true=>
     rw[callV1_inv hc]
     exact forRange_does Z g ha eo I (isTypeFn_inv hr) hs
    |false=>exact plain
noncomputable def Simple(P:Prg)(r:Rec):Prop:=(∀sc ρ σ c k pos,r.ev sc ρ σ (.Constant c k pos)= .stuck∨r.ev sc ρ σ (.Constant c k pos)=orStuck (constA c) σ)∧∀sc ρ σ x pos,r.ev sc ρ σ (.Name x pos)= .stuck∨r.ev sc ρ σ (.Name x pos)=orStuck (nameA P sc ρ x) σ
structure XcOK(prog:Program)(w:World)(base:Heap)(P:Prg)(G B:Addr):Prop where
 raise:∀{A:Around} {fr:List Env} {L:Addr} {env:Env} {sc:Scope} {ρ:Mine.Loc} {s:Shared} {γ:Gh} {σ:Store} {r:Rec} {n:Nat} (e:Expr) (pos:Pos),Good prog w base P G B r n→AOK A fr L (n+1)→EnvOK G B L env sc→Inv prog w base fr env s γ σ ρ→
  SDoes prog w base P A fr L env s γ σ (exec (.Raise (some e) none pos) env) (((raiseA P r sc ρ σ e).at ρ).bd fun _ _=> .stuck)
 tries:∀{A:Around} {fr:List Env} {L:Addr} {env:Env} {sc:Scope} {ρ:Mine.Loc} {s:Shared} {γ:Gh} {σ:Store} {r:Rec} {n:Nat} (body:List Stmt) (h:ExceptHandler) (pos:Pos),Simple P r→Good prog w base P G B r n→AOK A fr L (n+1)→EnvOK G B L env sc→Inv prog w base fr env s γ σ ρ→
  SDoes prog w base P A fr L env s γ σ (exec (.Try body [h] [] [] pos) env) (tryA P r sc ρ body h σ)
theorem emptyL{α:Type}{l:List α}(h:l.isEmpty=true):l=[]:=by
 cases l with
 |nil=>rfl
 |cons _ _=>exact ffNe h
theorem noneO{α:Type}{o:Option α}(h:o.isNone=true):o=none:=by
 cases o with
 |none=>rfl
 |some _=>exact ffNe h
theorem stmt_does{st:Stmt}(Z:Env0 prog w base P G B K)(X:XcOK prog w base P G B)(hsi:Simple P r)(g:Good prog w base P G B r n)(ha:AOK A fr L (n+1))(eo:EnvOK G B L env sc)(I:Inv prog w base fr env s γ σ ρ):
 SDoes prog w base P A fr L env s γ σ (exec st env) (exStep P r sc ρ σ st):=by
 have ha':=ha.less (Nat.le_succ n)
 cases st with
 |Assign ts v pos=>exact Does.ofO fun t ht=>one_inv ht▸assign_does Z g ha' eo I
 |Expr e pos=>exact Does.chk fun hp=>expr_does g ha' eo I hp
 |If t a b pos=>exact if_does g ha' eo I
 |Return e pos=>exact Does.ofO fun e he=>he▸return_does g ha' eo I
 |For t it body els pos=>exact Does.chk fun h=>emptyL (Bool.and_eq_true_iff.1 h).1▸for_does Z g ha' eo I (notB (Bool.and_eq_true_iff.1 h).2)
 |While t body els pos=>exact Does.chk fun h=>emptyL h▸while_does g ha' eo I turns
 |Raise e c pos=>exact Does.chk fun h=>noneO h▸Does.ofO fun e he=>he▸X.raise _ _ g ha eo I
 |Try body hs els fin pos=>
  refine Does.chk fun h=>Does.ofO fun hd hh=>?_
  rw[emptyL (Bool.and_eq_true_iff.1 h).1,emptyL (Bool.and_eq_true_iff.1 h).2,one_inv hh]
  exact X.tries _ _ _ hsi g ha eo I
 |_=>trivial
theorem ex_step{b:List Stmt}(Z:Env0 prog w base P G B K)(X:XcOK prog w base P G B)(hsi:Simple P r)(g:Good prog w base P G B r n)(ha:AOK A fr L (n+1))(eo:EnvOK G B L env sc)(I:Inv prog w base fr env s γ σ ρ):
 SDoes prog w base P A fr L env s γ σ (execs b env) (exsStep P r sc ρ σ b):=by
 cases b with
 |nil=>exact Does.ret I.sr ⟨rfl,I.fram⟩
 |cons st rest=>exact execs_does g (ha.less (Nat.le_succ n)) eo I (stmt_does Z X hsi g ha eo I)
end
end Mine
end
section
namespace Mine
open PySem PySem.Calls PySem.Spec PySem.SeqAt PyProof.Rows
theorem closeds_cons{m:Nat}{x:AV}{xs:List AV}(h:AV.closeds m (x::xs)=true):x.closed m=true∧AV.closeds m xs=true:=Bool.and_eq_true_iff.mp h
theorem closed_tup{m:Nat}{xs:List AV}(h:(AV.tup xs).closed m=true):AV.closeds m xs=true:=h
theorem closed_ob{m i:Nat}(h:(AV.ob i).closed m=true):i<m:=Nat.le_of_ble_eq_true h
theorem get_cut{γ:Gh}{m i:Nat}{p:Addr×Addr}(h:γ[i]? =some p)(hi:i<m):(γ.take m)[i]? =some p:=by
 rw[List.getElem?_take_of_lt hi];exact h
theorem VR.cut{h:Heap}{γ:Gh}(m:Nat){v:Value}{x:AV}(r:VR h γ v x):x.closed m=true→VR h (γ.take m) v x:=
 VR.rec (motive_1:=fun v x _=>x.closed m=true→VR h (γ.take m) v x) (motive_2:=fun vs xs _=>AV.closeds m xs=true→VRs h (γ.take m) vs xs) (fun _=> .none) (fun b _=> .bool b) (fun i t _=> .int i t) (fun i t _=> .str i t) (fun ht hb _ ih hc=> .tup ht hb (ih (closed_tup hc))) (fun hi hc=> .ob (get_cut hi (closed_ob hc))) (fun v _=> .fix v) (fun _=> .nil) (fun _ _ a r hc=> .cons (a (closeds_cons hc).1) (r (closeds_cons hc).2)) r
theorem VRs.cut{h:Heap}{γ:Gh}(m:Nat){vs:List Value}{xs:List AV}(r:VRs h γ vs xs):AV.closeds m xs=true→VRs h (γ.take m) vs xs:=
 r.ind (p:=fun vs xs=>AV.closeds m xs=true→VRs h (γ.take m) vs xs) (fun _=> .nil) fun a _ ih hc=> .cons (a.cut m (closeds_cons hc).1) (ih (closeds_cons hc).2)
theorem KR.cut{κ:Type}{h:Heap}{γ:Gh}(m:Nat){vs:List (κ×Value)}{xs:List (κ×AV)}(r:KR h γ vs xs)(hc:AV.closeds m (xs.map (·.2))=true):KR h (γ.take m) vs xs:=by
 induction r with
 |nil=>exact .nil
 |cons a _ ih=>
  exact .cons (a.cut m (closeds_cons hc).1) (ih (closeds_cons hc).2)
theorem ER.cut{h:Heap}{γ:Gh}(m:Nat){vs:List DictEntry}{xs:List (Str×AV)}(r:ER h γ vs xs)(hc:AV.closeds m (xs.map (·.2))=true):ER h (γ.take m) vs xs:=by
 induction r with
 |nil=>exact .nil
 |cons a _ ih=>
  exact .cons (a.cut m (closeds_cons hc).1) (ih (closeds_cons hc).2)
section
variable{prog:Program}{w:World}{base:Heap}{P:Prg}{W S:List Addr}{A:Around}{fr:List Env}{L:Addr}{s s₀ s₁ s₂:Shared}{γ γ₀ γ₁ γ₂:Gh}{σ σ₀ σ₁ σ₂:Store}{env cenv:Env}{ρ ρ₁:Mine.Loc}{G B:Addr}{r:Rec}{n:Nat}{sc csc:Scope}
 {K:PySem.W.Frag}
theorem OR.cut{h:Heap}{p:Addr×Addr}(m:Nat){o:AO}(r:OR prog w h γ p o)(hc:o.closed m=true):OR prog w h (γ.take m) p o:=by
 cases o with
 |frozen=>trivial
 |list _=>exact⟨r.1,r.2.imp fun _ k=>⟨k.1,k.2.1,k.2.2.cut m hc⟩⟩
 |dstr _=>exact⟨r.1,r.2.imp fun _ k=>⟨k.1,k.2.1,k.2.2.cut m hc⟩⟩
 |dint _=>exact⟨r.1,r.2.imp fun _ k=>⟨k.1,k.2.1,k.2.2.cut m hc⟩⟩
 |inst _ _=>exact⟨r.1,r.2.1,r.2.2.imp fun _ k=>k.imp fun _ k=>⟨k.1,k.2.1,k.2.2.cut m hc⟩⟩
 |«meth» _ _=>exact⟨r.1,r.2.imp fun _ k=>⟨k.1,k.2.cut m hc⟩⟩
theorem take_some{α:Type}{l:List α}{m i:Nat}{x:α}(h:(l.take m)[i]? =some x):l[i]? =some x∧i<m:=by
 rw[List.getElem?_take]at h
 split at h
 ·exact⟨h,by assumption⟩
 ·cases h
theorem SR.cut{h:Heap}(R:SR prog w base h γ σ)(m:Nat)(hc:(σ.take m).all (AO.closed m)=true):SR prog w base h (γ.take m) (σ.take m):=by
 refine⟨R.stays,by rw[List.length_take,List.length_take,R.len],fun i p o hp ho=>?_,fun p hp=>R.live p (List.mem_of_mem_take hp),fun p hp=>R.new p (List.mem_of_mem_take hp),fun i j p q hp hq hij=>R.apart i j p q (take_some hp).1 (take_some hq).1 hij⟩
 exact(R.obj i p o (take_some hp).1 (take_some ho).1).cut m (List.all_eq_true.mp hc o (List.mem_of_getElem? ho))
theorem Post.cut{v:AV}(R:SR prog w base s.heap γ σ)(x:Post prog w base W S s γ σ s₁ γ₁ σ₁):∃γ₂,Post prog w base W S s γ σ s₁ γ₂ (trunc σ.length v σ₁)∧(∀u,VR s₁.heap γ₁ u v→VR s₁.heap γ₂ u v)∧∀p∈γ₂,p∈γ₁:=by
 unfold trunc
 cases hc:v.closed σ.length&&(σ₁.take σ.length).all (AO.closed σ.length)with
 |false=>exact⟨γ₁,x,fun _ h=>h,fun _ h=>h⟩
 |true=>
  refine ea01 (Bool.and_eq_true_iff.mp hc) fun h1 h2=>?_
  refine⟨γ₁.take σ.length,⟨x.same,⟨[],?_,fun _ h=>nomatch h⟩,x.ext,x.tup,x.dom,fun i hi=>?_,x.sr.cut _ h2⟩,fun u hu=>hu.cut _ h1,fun p hp=>List.mem_of_mem_take hp⟩
  ·refine ea11 (x.pre) fun add z1=>?_;subst z1;intro _
   rw[←R.len,List.take_left',List.append_nil]
   rfl
  ·have hlt:i<σ.length:=(List.getElem?_eq_some_iff.mp hi).1
   rw[List.getElem?_take_of_lt hlt]
   exact x.frz i hi
end
end Mine
end
section
namespace Mine
open PySem PySem.Calls PySem.Spec PySem.SeqAt PyProof.Rows
theorem bindL_not(k:Str→Option NameKind){y:Str}:∀(r:List (Str×Value)) (m:Str→Option Value),y∉r.map (·.1)→bindL k r m y=m y
 |[],m,_=>rfl
 |(n,v)::r,m,h=>by
  simp only [List.map_cons,List.mem_cons,not_or]at h
  unfold bindL
  rw[bindL_not k r _ h.2]
  split
  ·exact if_neg h.1
  ·rfl
theorem bindC_not(k:Str→Option NameKind){y:Str}:∀(r:List (Str×Value)) (m:Str→Option Value),y∉r.map (·.1)→bindC k r m y=m y
 |[],m,_=>rfl
 |(n,v)::r,m,h=>by
  simp only [List.map_cons,List.mem_cons,not_or]at h
  unfold bindC
  rw[bindC_not k r _ h.2]
  split
  ·rfl
  ·exact if_neg h.1
theorem bindL_some(k:Str→Option NameKind){y:Str}{v:Value}:∀(r:List (Str×Value)) (m:Str→Option Value),(r.map (·.1)).Nodup→(y,v)∈r→k y=some .local→bindL k r m y=some v
 |[],m,_,h,_=>nomatch h
 |(n,u)::r,m,hn,h,hk=>by
  simp only [List.map_cons,List.nodup_cons]at hn
  unfold bindL
  rcases List.mem_cons.mp h with e|h
  ·cases e
   rw[bindL_not k r _ hn.1,if_pos hk];exact if_pos rfl
  ·exact bindL_some k r _ hn.2 h hk
theorem bindC_some(k:Str→Option NameKind){y:Str}{v:Value}:∀(r:List (Str×Value)) (m:Str→Option Value),(r.map (·.1)).Nodup→(y,v)∈r→k y≠some .local→bindC k r m y=some v
 |[],m,_,h,_=>nomatch h
 |(n,u)::r,m,hn,h,hk=>by
  simp only [List.map_cons,List.nodup_cons]at hn
  unfold bindC
  rcases List.mem_cons.mp h with e|h
  ·cases e
   rw[bindC_not k r _ hn.1,if_neg hk];exact if_pos rfl
  ·exact bindC_some k r _ hn.2 h hk
theorem zipP_cons{p:Str}{ps:List Str}{x:AV}{xs:List AV}{ρ:Mine.Loc}(e:zipP (p::ps) (x::xs)=some ρ):∃ρ',zipP ps xs=some ρ'∧ρ=(p,x)::ρ':=
 (Option.map_eq_some_iff.1 (show(zipP ps xs).map _=_ from e)).imp fun _ h=>⟨h.1,h.2.symm⟩
theorem zipP_rel{h:Heap}{γ:Gh}{vs:List Value}{xs:List AV}(r:VRs h γ vs xs):∀{ps:List Str} {ρ:Mine.Loc},zipP ps xs=some ρ→ps.length=vs.length∧∀y v,look y ρ=some v→∃u,(y,u)∈ps.zip vs∧VR h γ u v:=
 r.ind (p:=fun vs xs=>∀{ps:List Str} {ρ:Mine.Loc},zipP ps xs=some ρ→ps.length=vs.length∧∀y v,look y ρ=some v→∃u,(y,u)∈ps.zip vs∧VR h γ u v) (fun{ps ρ} e=>by
  cases ps with
  |nil=>exact⟨rfl,fun y v h=>noneNe (Option.some.inj e▸h:look y []=some v)⟩
  |cons _ _=>exact noneNe e) fun{v x vs xs} a _ ih ps ρ e=>by
  cases ps with
  |nil=>exact noneNe e
  |cons p ps=>
   refine ea11 (zipP_cons e) fun ρ' hz z1=>?_;subst z1
   have h:=ih hz
   refine⟨congrArg Nat.succ h.1,fun y u hy=>?_⟩
   rw[look_cons]at hy
   by_cases ey:p=y
   ·rw[if_pos ey]at hy
    exact⟨v,ey▸ .head _,Option.some.inj hy▸a⟩
   ·rw[if_neg ey]at hy
    exact(h.2 y u hy).imp fun w k=>⟨.tail _ k.1,k.2⟩
section
variable{prog:Program}{w:World}{base:Heap}{P:Prg}{W S S':List Addr}{A:Around}{fr:List Env}{L:Addr}{s s₀ s₁ s₂:Shared}{γ γ₀ γ₁ γ₂:Gh}{σ σ₀ σ₁ σ₂:Store}{env cenv:Env}{ρ ρ₁:Mine.Loc}{G B:Addr}{r:Rec}{n:Nat}{sc csc:Scope}
 {K:PySem.W.Frag}
theorem Post.shrink(x:Post prog w base W S' s γ σ s₁ γ₁ σ₁)(hW:∀b∈W,s.heap.get? b=none)(hS:∀b∈S',b∉S→s.heap.get? b=none):Post prog w base [] S s γ σ s₁ γ₁ σ₁:=by
 refine⟨x.same,x.pre,fun b o ho _ hm=>?_,x.tup,x.dom,x.frz,x.sr⟩
 refine ea11 (x.ext b o ho (fun h=>by rw[hW b h]at ho;cases ho) hm) fun sl e hs=>?_
 refine⟨sl,e,fun hb=>hs fun h=>?_⟩
 rw[hS b h hb]at ho;cases ho
theorem FF.push{h:Heap}{o:Obj}(hl:FF base h fr)(hk:env.scope.kind≠ .module)(hf:env.frame=some L)(hb:base.get? L=none)(ho:h.get? L=some o)(hO:Own o):FF base h (env::fr):=fun e he=>by
 rcases List.mem_cons.mp he with rfl|he
 ·exact⟨hk,L,o,hf,hb,ho,hO⟩
 ·exact hl e he
end
end Mine
end
section
namespace Mine
open PySem PySem.Calls PySem.Spec PySem.SeqAt PyProof.Rows
theorem lookup_of_nodup{α:Type}:∀{l:List (Str×α)},(l.map (·.1)).Nodup→∀{q:Str×α},q∈l→l.lookup q.1=some q.2
 |[],_,_,h=>nomatch h
 |p::l,hn,q,h=>by
  simp only [List.map_cons,List.nodup_cons]at hn
  rcases List.mem_cons.mp h with rfl|h
  ·simp[List.lookup]
  ·have hne:(q.1==p.1)=false:=by
    rw[beq_eq_false_iff_ne]
    intro e
    exact hn.1 (e▸List.mem_map.mpr ⟨q,h,rfl⟩)
   rw[List.lookup_cons,hne]
   exact lookup_of_nodup hn.2 h
theorem cells_acc:∀(names:List (Str×NameKind)) (n:Nat) (acc:List (Str×Addr)) (x:Str),(acc.lookup x).isSome=true→((cellsFrom n names acc).lookup x).isSome=true
 |[],_,_,_,h=>h
 |(y,k)::r,n,acc,x,h=>by
  unfold cellsFrom
  split
  ·refine cells_acc r _ _ x ?_
   rw[List.lookup_cons]
   split
   ·rfl
   ·exact h
  ·exact cells_acc r _ _ x h
theorem cells_has:∀(names:List (Str×NameKind)) (n:Nat) (acc:List (Str×Addr)) (x:Str),(x,NameKind.cell)∈names→((cellsFrom n names acc).lookup x).isSome=true
 |[],_,_,_,h=>nomatch h
 |(y,k)::r,n,acc,x,h=>by
  unfold cellsFrom
  rcases List.mem_cons.mp h with e|h
  ·cases e
   rw[if_pos (by rfl)]
   exact cells_acc r _ _ _ (by simp[List.lookup])
  ·split
   ·exact cells_has r _ _ x h
   ·exact cells_has r _ _ x h
theorem cells_mem:∀(names:List (Str×NameKind)) (n:Nat) (acc:List (Str×Addr)),∀q∈cellsFrom n names acc,q∈acc∨q.1∈names.map (·.1)
 |[],_,_,q,h=> .inl h
 |(y,k)::r,n,acc,q,h=>by
  unfold cellsFrom at h
  split at h
  ·rcases cells_mem r _ _ q h with h|h
   ·rcases List.mem_cons.mp h with rfl|h
    ·exact .inr (.head _)
    ·exact .inl h
   ·exact .inr (.tail _ h)
  ·rcases cells_mem r _ _ q h with h|h
   ·exact .inl h
   ·exact .inr (.tail _ h)
theorem cells_nodup:∀(names:List (Str×NameKind)) (n:Nat) (acc:List (Str×Addr)),(names.map (·.1)).Nodup→(acc.map (·.1)).Nodup→(∀x∈acc.map (·.1),x∉names.map (·.1))→((cellsFrom n names acc).map (·.1)).Nodup
 |[],_,_,_,h,_=>h
 |(y,k)::r,n,acc,hn,ha,hd=>by
  simp only [List.map_cons,List.nodup_cons]at hn
  unfold cellsFrom
  split
  ·refine cells_nodup r _ _ hn.2 ?_ ?_
   ·simp only [List.map_cons,List.nodup_cons]
    exact⟨fun h=>hd y h (.head _),ha⟩
   ·intro x hx
    rcases List.mem_cons.mp hx with rfl|hx
    ·exact hn.1
    ·exact fun h=>hd x hx (.tail _ h)
  ·exact cells_nodup r _ _ hn.2 ha fun x hx h=>hd x hx (.tail _ h)
structure FnOK(base:Heap)(P:Prg)(G B:Addr):Prop where
 lim:base.NoLimit
 fn:∀a f,P.fn a=some f→∃o fd,base.get? a=some o∧o.data= .func fd∧fd.body= .stmts f.body∧fd.scope=f.scope∧fd.closure=[]∧base.CodeRec fd.code fd.qualname∧fd.globals=G∧fd.builtins=B∧
  fd.scope.isCoroutine=false∧fd.scope.isGenerator=false∧fd.scope.kind= .function∧(∀vals:List Value,vals.length=f.params.length→bindArgs fd ⟨vals,[]⟩=pure (f.params.zip vals))
 par:∀a f,P.fn a=some f→f.params.Nodup∧(f.scope.names.map (·.1)).Nodup∧∀x∈f.params,localIn f.scope x=true
section
variable{prog:Program}{w:World}{base:Heap}{P:Prg}{W S S':List Addr}{A:Around}{fr:List Env}{L:Addr}{s s₀ s₁ s₂:Shared}{γ γ₀ γ₁ γ₂:Gh}{σ σ₀ σ₁ σ₂:Store}{env cenv:Env}{ρ ρ₁:Mine.Loc}{G B:Addr}{r:Rec}{n:Nat}{sc csc:Scope}
 {K:PySem.W.Frag}
theorem frame_ok{fd:FuncData}{a:Addr}{ps:List Str}{vs:List Value}{xs:List AV}(I:Inv0 prog w base fr s γ σ)(hv:VRs s.heap γ vs xs)(hz:zipP ps xs=some ρ)(hk:fd.scope.kind= .function)(hG:fd.globals=G)(hB:fd.builtins=B)
 (hn:ps.Nodup) (hnn:(fd.scope.names.map (·.1)).Nodup) (hl:∀x∈ps,localIn fd.scope x=true)
 (hc:InCallC s (callEnvC fd s.heap.objs.size a).locals (bindL (callEnvC fd s.heap.objs.size a).kindOf (ps.zip vs) fun _=>none) (callEnvC fd s.heap.objs.size a).cells (bindC (callEnvC fd s.heap.objs.size a).kindOf (ps.zip vs) fun _=>none) s₁):
 EnvOK G B s.heap.objs.size (callEnvC fd s.heap.objs.size a) fd.scope∧Inv prog w base (callEnvC fd s.heap.objs.size a::fr) (callEnvC fd s.heap.objs.size a) s₁ γ σ ρ∧Post prog w base [] (frs fr) s γ σ s₁ γ σ∧∀b∈owns (callEnvC fd s.heap.objs.size a),s.heap.get? b=none:=by
 have hlen:=zipP_rel hv hz
 have non:∀b,s.heap.objs.size≤b→s.heap.get? b=none:=fun b hb=>beyond hb
 have offγ:∀b,s.heap.objs.size≤b→base.get? b=Option.none∧∀p∈γ,b≠p.1∧b≠p.2:=fun b hb=>by
  refine⟨?_,fun p hp=>?_⟩
  ·cases q:base.get? b with
   |none=>rfl
   |some o=>have :=I.sr.stays b o q;rw[non b hb]at this;cases this
  ·obtain⟨⟨o1,h1,_⟩,o2,h2,_⟩:=I.sr.live p hp
   exact⟨fun e=>(by rw[←e,non b hb]at h1;cases h1),fun e=>(by rw[←e,non b hb]at h2;cases h2)⟩
 refine ea20 (hc.toInCall.same) fun h' tk hs=>?_
 have hp:Post prog w base [] (frs fr) s γ σ s₁ γ σ:=by
  rw[hs]
  refine Post.keeps I.sr fun b o e=>?_
  have :=hc.toInCall.keep b o e
  rw[hs]at this;exact this
 have own:∀b∈owns (callEnvC fd s.heap.objs.size a),s.heap.objs.size≤b:=fun b hb=>by
  rcases List.mem_cons.mp hb with rfl|hb
  ·exact Nat.le_refl _
  ·refine ea11 (List.mem_map.mp hb) fun q hq z1=>?_;subst z1
   exact Nat.le_of_lt (hc.above q.1 q.2 hq)
 have ks:∀x,(callEnvC fd s.heap.objs.size a).kindOf x=look x fd.scope.names:=fun x=>(look_eq x _).symm
 have hcn:((callEnvC fd s.heap.objs.size a).cells.map (·.1)).Nodup:=cells_nodup _ _ [] hnn List.nodup_nil fun _ h=>nomatch h
 have hcell:∀q∈(callEnvC fd s.heap.objs.size a).cells,s₁.heap.IsCell q.2 (bindC (callEnvC fd s.heap.objs.size a).kindOf (ps.zip vs) (fun _=>Option.none) q.1):=fun q hq=>hc.cell q.1 q.2 (lookup_of_nodup hcn hq)
 have hzn:((ps.zip vs).map (·.1)).Nodup:=by
  have :(ps.zip vs).map (·.1)=ps:=List.map_fst_zip (by rw[hlen.1];exact Nat.le_refl _)
  rw[this];exact hn
 refine⟨⟨hk,hG,hB,rfl,fun x h=>(ks x).trans h,fun x h=>(ks x).trans h,fun x h=>⟨(ks x).trans h,?_⟩,fun _=>hc.apart,fun q hq=>Nat.ne_of_lt (hc.above q.1 q.2 hq)⟩,⟨hp.sr,?_,?_,⟨⟨_,hc.toInCall.ns,fun x v hx=>?_⟩,fun q hq=>?_⟩,fun b hb=>offγ b (own b hb)⟩,hp,fun b hb=>non b (own b hb)⟩
 ·rw[look_eq]at h
  exact Option.isSome_iff_exists.mp (cells_has _ _ [] x (mem_of_lookup h))
 ·refine ea32 (hc.toInCall.ns) fun o es ep ho hd _=>?_
  exact FF.push (FF.post hp I.ff) (by show fd.scope.kind≠_;rw[hk];decide) rfl (offγ _ (Nat.le_refl _)).1 ho (.dict hd)
 ·intro b hb
  rcases List.mem_cons.mp hb with rfl|hb
  ·exact(offγ _ (Nat.le_refl _)).2
  ·exact I.sap b hb
 ·refine ea11 (hlen.2 x v hx) fun u hu hr=>?_
  have hxl:=hl x (List.of_mem_zip hu).1
  have hr':=hr.post hp
  rcases localIn_inv hxl with e|e
  ·have kx:=(ks x).trans e
   exact .inl ⟨kx,u,bindL_some _ _ _ hzn hu kx,hr'⟩
  ·have kx:=(ks x).trans e
   rw[look_eq]at e
   refine ea10 (Option.isSome_iff_exists.mp (cells_has _ (s.heap.objs.size+1) [] x (mem_of_lookup e))) fun c hcx=>?_
   refine .inr ⟨.inl kx,c,hcx,u,?_,hr'⟩
   have :=hc.cell x c hcx
   rwa [bindC_some _ _ _ hzn hu (by rw[kx];decide)]at this
 ·refine ea11 (hcell q hq) fun o ho hd=>?_
  exact⟨o,_,ho,hd⟩
end
end Mine
end
section
namespace Mine
open PySem PySem.Calls PySem.Spec PySem.SeqAt PyProof.Rows
section
variable{prog:Program}{w:World}{base:Heap}{P:Prg}{W S S':List Addr}{A:Around}{fr:List Env}{L:Addr}{s s₀ s₁ s₂:Shared}{γ γ₀ γ₁ γ₂:Gh}{σ σ₀ σ₁ σ₂:Store}{env cenv:Env}{ρ ρ₁:Mine.Loc}{G B:Addr}{r:Rec}{n:Nat}{sc csc:Scope}
 {K:PySem.W.Frag}
theorem AOK.deeper{L':Addr}(h:AOK A fr L (n+1))(hf:env.frame=some L'):AOK (A.deeper env) (env::fr) L' n:=by
 refine⟨?_,h.handled,?_,?_,⟨env,fr,rfl,hf⟩⟩
 ·show A.frames.map (env::·)=_
  rw[h.frames];rfl
 ·have :=h.depth
  show A.depth+1+n<900
  omega
 ·have :=h.units
  show A.units+3+30*n<9000
  omega
theorem Post.wideS(x:Post prog w base W S s γ σ s₁ γ₁ σ₁)(h:∀b∈S,b∈S'):Post prog w base W S' s γ σ s₁ γ₁ σ₁:=
 ⟨x.same,x.pre,fun b o ho hw hm=>let ⟨sl,e,hs⟩:=x.ext b o ho hw hm;⟨sl,e,fun hb=>hs fun h'=>hb (h b h')⟩,x.tup,x.dom,x.frz,x.sr⟩
theorem EX.leave{e d C:Addr}{x:XA}(R:SR prog w base s.heap γ σ)(hp:Post prog w base [] (frs fr) s γ σ s₁ γ σ)(hSS:∀b∈frs fr,b∈S')(hS:∀b∈S',b∉frs fr→s.heap.get? b=none)(hW:∀b∈W,s.heap.get? b=none)
 (X:EXK prog w base P W S' s₁ γ σ s₂ γ₂ σ₂ e d C x .off):∃γ₃,EX prog w base P [] (frs fr) L s γ σ s₂ γ₃ (trunc σ.length (excPl x) σ₂) (.ref e) x:=by
 obtain⟨hpost,⟨hobj,nE,nD,ed,offE,offD⟩,hx⟩:=X
 have p:=((hp.wideS hSS).wide.trans hpost).shrink hW hS
 refine ea12 (p.cut (v:=excPl x) R) fun γ₃ p3 hv hsub=>?_
 refine⟨γ₃,p3,e,d,C,.off,rfl,trivial,⟨?_,hp.dom1 nE,hp.dom1 nD,ed,fun q hq=>offE q (hsub q hq),fun q hq=>offD q (hsub q hq)⟩,?_⟩
 ·refine ea22 hobj fun us sl h1 h2 h9=>?_;clear hobj;refine ea35 h9 fun T o ts h3 h4 h5 h6 h7 h8=>?_;clear h9
  exact⟨us,sl,h1,h2,T,o,ts,h3,h4,h5,hp.dom1 h6,fun q hq=>h7 q (hsub q hq),h8⟩
 ·cases x with
  |pf v=>
   refine ea01 hx fun hC h9=>?_;clear hx;refine ea22 h9 fun m u hn hm hr=>?_;clear h9
   exact⟨hC,m,u,hn,hm,hv _ hr⟩
  |tf=>exact hx
theorem CDoes.ofO{α:Type}{c:Code}{o:Option α}{f:α→Res AV}(h:∀a,o=some a→CDoes prog w base P A fr L s γ σ c (f a)):CDoes prog w base P A fr L s γ σ c (Mine.ofO o f):=by
 cases o with
 |some a=>exact h a rfl
 |none=>trivial
theorem call_step{a:Addr}{vs:List Value}{xs:List AV}(F:FnOK base P G B)(g:Good prog w base P G B r n)(ha:AOK A fr L (n+1))(I:Inv0 prog w base fr s γ σ)(hv:VRs s.heap γ vs xs):
 CDoes prog w base P A fr L s γ σ (.call (.ref a) ⟨vs,[]⟩) (callStep P r a xs σ):=by
 unfold callStep
 refine CDoes.ofO fun f hf=>CDoes.ofO fun ρ hz=>?_
 refine ea25 (F.fn a f hf) fun o fd ho hd hbody hsc hclo h1=>?_;refine ea05 h1 fun hcode hG hB hco hgen h2=>?_;clear h1;refine ea01 h2 fun hk hbind=>?_;clear h2
 refine ea02 (F.par a f hf) fun hn hnn hl=>?_
 have st:∀b o,base.get? b=some o→s.heap.get? b=some o:=fun b o e=>I.sr.stays b o e
 have hlen:=(zipP_rel hv hz).1
 rw[←hsc]at hnn hl ⊢
 have hkind:∀x∈f.params.zip vs,fd.scope.names.lookup x.1=some .local∨(fd.scope.names.lookup x.1=some .cell∧((cellsFrom (s.heap.objs.size+1) fd.scope.names []).lookup x.1).isSome=true):=fun x hx=>by
  have :=hl x.1 (List.of_mem_zip (a:=x.1) (b:=x.2) hx).1
  exact(localIn_inv this).imp (fun e=>(look_eq _ _).symm.trans e) fun e=>have e:=(look_eq _ _).symm.trans e;⟨e,cells_has _ _ [] _ (mem_of_lookup e)⟩
 have core:∀(R:Result→Shared→Prop),(∀s₁,EnvOK G B s.heap.objs.size (callEnvC fd s.heap.objs.size a) fd.scope→Inv prog w base (callEnvC fd s.heap.objs.size a::fr) (callEnvC fd s.heap.objs.size a) s₁ γ σ ρ→Post prog w base [] (frs fr) s γ σ s₁ γ σ→(∀b∈owns (callEnvC fd s.heap.objs.size a),s.heap.get? b=none)→
  wpAny (model prog w) (A.deeper (callEnvC fd s.heap.objs.size a)) (execs f.body (callEnvC fd s.heap.objs.size a)) (fun f s'=>R (.ok (.ret (match f with| .ret v=>v|_=> .none))) s')
   (fun e s'=>wpAny (model prog w) (A.deeper (callEnvC fd s.heap.objs.size a)) (leaving (callEnvC fd s.heap.objs.size a) e) (fun _ s''=>R (.error e) s'') (fun e' s''=>R (.error e') s'') s') s₁)→codeAny (model prog w) A (.call (.ref a) ⟨vs,[]⟩) R s:=by
  intro R h
  refine codeAny_call_cells (by have :=ha.depth;show A.depth<1000;omega) (st _ _ ho) hd (F.lim.keeps st) (hcode.keeps st) hbody (hbind vs hlen.symm) hclo hkind (fun s₁ hc=>?_) hco hgen hk
  refine ea03 (frame_ok I hv hz hk hG hB hn hnn hl hc) fun e1 e2 e3 e4=>?_
  exact h s₁ e1 e2 e3 e4
 have ha':AOK (A.deeper (callEnvC fd s.heap.objs.size a)) (callEnvC fd s.heap.objs.size a::fr) s.heap.objs.size n:=ha.deeper rfl
 have hSS:∀b∈frs fr,b∈frs (callEnvC fd s.heap.objs.size a::fr):=fun b hb=> .tail _ hb
 have hS:∀b∈frs (callEnvC fd s.heap.objs.size a::fr),b∉frs fr→s.heap.get? b=none:=fun b hb hnb=>by
  rcases List.mem_cons.mp hb with rfl|hb
  ·exact push_none _
  ·exact absurd hb hnb
 cases hm:r.ex fd.scope ρ σ f.body with
 |stuck=>trivial
 |exc x σ₁=>
  refine fun Q E hE=>core _ fun s₁ eo I1 hp hW=>?_
  have hex:=g.ex f.body ha' eo I1
  rw[hm]at hex
  refine hex _ _ fun v s' γ' he _=>?_
  refine ea01 he fun hpost h1=>?_;clear he;refine ea43 h1 fun e d C mk z1=>?_;clear h1;subst z1;intro hmk hfl hx
  unfold leaving
  refine wpAny_bind (EXK.note I1.zero ⟨hpost,hfl,hx⟩ hmk ha'.frames ha'.head rfl fun s₂ _ X2=>?_)
  refine EXK.flight I1.zero X2 (by intro e;cases e) fun s₃ mk' hmk' _ X3=>?_
  subst hmk'
  refine ea10 (EX.leave (L:=L) I.sr hp hSS hS hW X3) fun γ₃ h=>?_
  exact hE _ s₃ γ₃ h
 |ok q σ₁=>
  obtain⟨q1,q2⟩:=q
  cases q1 with
  |next=>
   refine fun Q E hQ=>core _ fun s₁ eo I1 hp hW=>?_
   have hex:=g.ex f.body ha' eo I1
   rw[hm]at hex
   refine hex _ _ fun fl s' γ' hpost hfl=>?_
   refine ea01 hfl fun z1=>?_;clear hfl;subst z1;intro _
   refine ea11 ((((hp.wideS hSS).wide.trans hpost).shrink hW hS).cut (v:= .none) I.sr) fun γ₃ p3 _=>?_
   exact hQ .none s' γ₃ p3 .none
  |ret v=>
   refine fun Q E hQ=>core _ fun s₁ eo I1 hp hW=>?_
   have hex:=g.ex f.body ha' eo I1
   rw[hm]at hex
   refine hex _ _ fun fl s' γ' hpost hfl=>?_
   refine ea11 hfl fun u z1=>?_;clear hfl;subst z1;intro hu
   refine ea12 ((((hp.wideS hSS).wide.trans hpost).shrink hW hS).cut (v:=v) I.sr) fun γ₃ p3 hc _=>?_
   exact hQ u s' γ₃ p3 (hc _ hu)
end
end Mine
end
section
namespace Mine
open PySem PySem.Calls PySem.Spec PySem.SeqAt PyProof.Rows
section
variable{prog:Program}{w:World}{base:Heap}{P:Prg}{G B:Addr}{K:PySem.W.Frag}
theorem simple_run(P:Prg):∀n,Simple P (run P n)
 |0=>⟨fun _ _ _ _ _ _=> .inl rfl,fun _ _ _ _ _=> .inl rfl⟩
 |_+1=>⟨fun _ _ _ _ _ _=> .inr rfl,fun _ _ _ _ _=> .inr rfl⟩
theorem good(Z:Env0 prog w base P G B K)(F:FnOK base P G B)(X:XcOK prog w base P G B):∀n,Good prog w base P G B (run P n) n
 |0=>⟨fun _ _ _ _=>trivial,fun _ _ _ _=>trivial,fun _ _ _ _=>trivial,fun _ _ _ _ _ _=>trivial⟩
 |n+1=>⟨fun _ ha eo I=>ev_step Z (good Z F X n) ha eo I,fun _ ha eo I=>ts_step Z (good Z F X n) ha eo I,fun _ ha eo I=>ex_step Z X (simple_run P n) (good Z F X n) ha eo I,fun _ _ _ ha I hv=>call_step F (good Z F X n) ha I hv⟩
end
end Mine
end
section
namespace Mine
open PySem PySem.Calls PySem.Spec PySem.SeqAt PyProof.Rows PySem.W
theorem cls_at{K:Frag}{C:Addr}{cd:ClassData}(h:clsIn K C=some cd):∃oc od sl,K.lookup C=some ⟨oc,od,.cls cd,sl⟩:=by
 delta clsIn at h
 generalize K.lookup C=q at h ⊢
 cases q with
 |none=>exact noneNe h
 |some o=>
  obtain⟨oc,od,d,sl⟩:=o
  cases d with
  |cls c=>exact Option.some.inj h▸⟨oc,od,sl,rfl⟩
  |_=>exact noneNe h
noncomputable def xMakesIn(K:Frag)(C:Addr):Bool:=(clsIn K C).any fun cd=>
 !cd.abstract&&(!cd.hasDel&&(((K.lookup C).bind fun o=>(o.slots.toList[4]?).join)==some (.builtin "Exception.__new__")&&(!cd.mro.isEmpty&&(cd.mro.contains (.ref C)&&(cd.mro.contains (.type "Exception")&&(cd.mro.contains (.type "BaseException")&&(!cd.mro.contains (.type "AttributeError")&&(!cd.mro.contains (.type "NameError")&&
  (specialIn K (.ref C) "__call__"==some (some (.builtin "type.__call__"))&&instIn K (.ref C) (.type "type")==some true)))))))))
structure XMakes(M:Model)(h:Heap)(C:Addr):Prop where
 obj:∃oc od cd sl,h.get? C=some ⟨oc,od,.cls cd,sl⟩∧cd.abstract=false∧cd.hasDel=false∧cd.mro.isEmpty=false
 made:Looks M h (Bind.madeBy (.ref C)) (some "Exception.__new__")
 base:Looks M h (Bind.staticBase (.ref C)) (.ref C)
 self:Looks M h (isSubtype (.ref C) (.ref C)) true
 exc:Looks M h (isSubtype (.ref C) (.type "Exception")) true
 top:Looks M h (isSubtype (.ref C) (.type "BaseException")) true
 notA:Looks M h (isSubtype (.ref C) (.type "AttributeError")) false
 notN:Looks M h (isSubtype (.ref C) (.type "NameError")) false
 call:Looks M h (specialOf (.ref C) "__call__") (some (.builtin "type.__call__"))
 typ:Looks M h (isInstance (.ref C) (.type "type")) true
set_option tactic.hygienic true in
theorem xMakes_of{K:Frag}{M:Model}{h:Heap}(X:K.In h){C:Addr}(e:xMakesIn K C=true):XMakes M h C:=by
 ·refine ea11 (any_some e) fun cd hc e=>?_
  refine ea30 (cls_at hc) fun oc od sl ho=>?_
  rw[ho]at e
  simp only [Bool.and_eq_true,Bool.not_eq_true',beq_iff_eq]at e
  refine ea05 e fun e1 e2 e3 e4 e5 h1=>?_;clear e;refine ea05 h1 fun e6 e7 e8 e9 e10 e11=>?_;clear h1
  have hm:Looks M h (mroOf (.ref C)) cd.mro:=(looks_clsIn X hc).andThen .now
  obtain⟨c,l,hl⟩:∃c l,cd.mro=c::l:=by cases q:cd.mro with|nil=>rw[q]at e4;cases e4|cons c l=>exact⟨c,l,rfl⟩
  have made:Looks M h (Bind.madeBy (.ref C)) (some "Exception.__new__"):=by
   intro A Q E s k q
   unfold Bind.madeBy
   refine wpAny_bind (hm A _ E s k ?_)
   rw[hl,List.forIn_cons]
   refine wpAny_bind (wpAny_bind (wpAny_bind (wpAny_bind (wpAny_loadPart (k _ _ (X _ _ ho)) (wpAny_pure ?_)))))
   dsimp only
   rw[←Array.getElem?_toList,show(sl.toList[4]?).join=_ from e3]
   exact wpAny_pure (wpAny_pure (wpAny_pure q))
  have sub:∀b r,cd.mro.contains b=r→Looks M h (isSubtype (.ref C) b) r:=fun b r hb=>looks_mroIn X (by unfold mroIn;rw[hc,Option.bind_some,if_neg (by rw[e4];decide),hb])
  refine⟨⟨oc,od,cd,sl,X _ _ ho,e1,e2,e4⟩,made,?_,sub _ _ e5,sub _ _ e6,sub _ _ e7,sub _ _ e8,sub _ _ e9,looks_specialIn X e10,looks_instIn X e11⟩
  intro A Q E s k q
  unfold Bind.staticBase
  refine wpAny_bind (hm A _ E s k ?_)
  rw[hl,List.forIn_cons]
  exact wpAny_bind (wpAny_bind (wpAny_bind (made A _ E s k (wpAny_pure (wpAny_pure (wpAny_pure q))))))
theorem XMakes.keeps{M:Model}{h h':Heap}{C:Addr}(Y:XMakes M h C)(k:∀b o,h.get? b=some o→h'.get? b=some o):XMakes M h' C:=by
 obtain⟨⟨oc,od,cd,sl,hC,r⟩,made,base,self,exc,top,nA,nN,call,typ⟩:=Y
 exact⟨⟨oc,od,cd,sl,k _ _ hC,r⟩,made.keeps k,base.keeps k,self.keeps k,exc.keeps k,top.keeps k,nA.keeps k,nN.keeps k,call.keeps k,typ.keeps k⟩
noncomputable abbrev excObj(C t:Addr):Obj:={cls:= .ref C,data:= .fields #[.ref t,.none,.none,.none,.bool false,.none]}
noncomputable abbrev tupObj(vs:List Value):Obj:={cls:= .type "tuple",data:= .seq vs.toArray}
section
variable{prog:Program}{w:World}{A:Around}{K:Frag}{C:Addr}{R:Result→Shared→Prop}{h:Heap}{g:Array GenState}{d:Drawn}{t:Nat}{os:OsState}
theorem new_X{rest:List Value}(Y:XMakes (model prog w) h C)(hrest:rest.length≤sizeLine)
 (hq:R (.ok (.ret (.ref (h.objs.size+1)))) ⟨(h.push (tupObj rest)).push (excObj C h.objs.size),g,d,t,os⟩):
 codeAny (model prog w) A (.call (.builtin "Exception.__new__") ⟨.ref C::rest,[]⟩) R ⟨h,g,d,t,os⟩:=by
 have F:=PySem.F.excBase_Exception
 obtain⟨⟨oc,od,cd,sl,hC,e1,e2,e4⟩,made,base,self,exc,top,nA,nN,call,typ⟩:=Y
 refine codeAny_call_builtin_code (Code.quiet_builtin _ F.quiet) ?_
 have hstar:=F.noStar
 have here:Looks (model prog w) h (Bind.madeHere "BaseException.__new__" (.ref C)) ():=base.andThen (made.andThen (Looks.of_pure (by simp only [Option.map_some,F.canon,bne_self_eq_false,Bool.false_eq_true,if_false])))
 delta checkBuiltinCall
 rw[F.newKind,F.newSplit,F.newRow]
 dsimp only
 have args:Bind.checkArgs "Exception.__new__" ⟨.any,"Exception","Exception",.cls,[⟨"args",.varPos,false⟩,⟨"kwargs",.varKw,false⟩]⟩ ⟨.ref C::rest,[]⟩=pure ():=by kernel_rfl
 rw[args]
 have isT:Looks (model prog w) h (isType (.ref C)) true:=fun A Q E s k q=>by
  unfold isType loadHead
  exact wpAny_bind (wpAny_loadPart (k _ _ hC) (wpAny_pure q))
 repeat(first |simp -iota only [bne_self_eq_false,Bool.false_eq_true,if_false]|lk)
 have hends:=F.ends
 refine codeAny_builtinAt F.entry ?_
 unfold Builtin.«BaseException.__new__»
 refine PySem.wpAt_bind ?_
 show PySem.wpAt _ _ _ (stack >>= _) _ _ _
 refine PySem.wpAt_bind (PySem.wpAt_stack fun p below=>PySem.wpAt_of_wpAny ?_)
 wp_walk
 refine PySem.wpAt_of_wpAny ?_
 rw[F.owner]
 repeat(first |simp -iota only [Bool.false_eq_true,if_false]|lk)
 rw[if_neg (by rw[List.size_toArray];omega)]
 repeat lk
 refine nd_load (Heap.get?_push_of_some _ (Heap.get?_push_of_some _ hC)) ?_
 refine nd_pure ?_
 refine wpAny_pure ?_
 rw[e2]
 repeat lk
 show R _ _
 rw[Heap.size_push]
 exact hq
theorem make_X{rest:List Value}{init:Value}(Y:XMakes (model prog w) h C)(hrest:rest.length≤sizeLine)(hi:Looks (model prog w) h (typeLookup (.ref C) "__init__") (some init))
 (hb:∀self,Looks (model prog w) h (bindSpecial init self) (init,[self]))
 (hq:codeAny (model prog w) (A.under (.builtin "type.__call__" ⟨.ref C::rest,[]⟩)) (.call init ⟨.ref (h.objs.size+1)::rest,[]⟩) (InitBack (h.objs.size+1) R) ⟨(h.push (tupObj rest)).push (excObj C h.objs.size),g,d,t,os⟩):
 codeAny (model prog w) A (.call (.ref C) ⟨rest,[]⟩) R ⟨h,g,d,t,os⟩:=by
 have Y':=Y
 obtain⟨⟨oc,od,cd,sl,hC,e1,e2,e4⟩,made,base,self,exc,top,nA,nN,call,typ⟩:=Y
 refine codeAny_of_tree ?_
 show wpAny _ _ (callAny (.ref C) _) _ _ _
 refine nd_load hC ?_
 show wpAny _ _ (callAny.viaDunder (.ref C) _) _ _ _
 unfold callAny.viaDunder
 refine wpAny_bind (call.at ?_)
 dsimp only
 rw[tc_bind]
 refine wpAny_bind (wpAny_pure (wpAny_bind (wpAny_pure ?_)))
 refine wpAny_pure (a:=Fin.again (.call (.builtin "type.__call__") ⟨.ref C::rest,[]⟩)) (And.intro rfl ?_)
 refine codeAny_call_builtin_at (Code.quiet_builtin _ (by decide+kernel)) entry_typeCall (check_slot tc_kind tc_split typ (tc_args _ _ _) ?_)
 unfold Builtin.«type.__call__»
 have hm:Looks (model prog w) h (mroOf (.ref C)) cd.mro:=((Looks.ld (part:=none) hC).andThen .now).andThen .now
 repeat(first |simp -iota only [e4,Bool.false_eq_true,if_false]|with_reducible refine wpAny_call ?_|lk)
 refine new_X Y' hrest ?_
 have k:∀b o,h.get? b=some o→((h.push (tupObj rest)).push (excObj C h.objs.size)).get? b=some o:=fun b o e=>Heap.get?_push_of_some _ (Heap.get?_push_of_some _ e)
 have hx:((h.push (tupObj rest)).push (excObj C h.objs.size)).get? (h.objs.size+1)=some (excObj C h.objs.size):=by heap_get
 have t1:Looks (model prog w) ((h.push (tupObj rest)).push (excObj C h.objs.size)) (typeOf (.ref (h.objs.size+1))) (.ref C):=(Looks.ld hx).andThen .now
 have s1:=self.keeps k
 have i1:=hi.keeps k
 have b1:=(hb (.ref (h.objs.size+1))).keeps k
 unfold isInstance callSpecial? specialOf
 repeat(first |with_reducible refine wpAny_call ?_|lk)
 refine codeAny_mono hq fun r s' z=>?_
 rcases r with e|(v|_|_|_)<;>first |exact z|exact z.elim|skip
 refine ea01 z fun z1=>?_;clear z;subst z1;intro z
 exact wpAny_pure (wpAny_pure z)
end
end Mine
end
section
namespace Mine
open PySem PySem.Calls PySem.Spec PySem.SeqAt PyProof.Rows PySem.W
noncomputable def selfS:Str:="self"
noncomputable def whatS:Str:="what"
noncomputable def superS:Str:="super"
noncomputable def classS:Str:="__class__"
noncomputable def initS:Str:="__init__"
structure XFn(prog:Program)(K:Frag)(G B f D:Addr)(fd:FuncData)(ps:List Str)(x:Str):Prop where
 fn:∃oc od osl,K.lookup f=some ⟨oc,od,.func fd,osl⟩
 body:∃p0 p1 p2 p3 p4 p5 p6 p7 p8 p9,(p2.endLine==p4.line)=true∧fd.body= .stmts [.Expr (.Call (.Attribute (.Call (.Name superS p0) [] [] p1) initS p2) [.Name whatS p3] [] p4) p5,.Assign [.Attribute (.Name selfS p6) x p7] (.Name x p8) p9]
 clo:∃cc cl cld csl,fd.closure=[(classS,cc)]∧K.lookup cc=some ⟨cl,cld,.cell (some (.ref D)),csl⟩
 code:∃cda ccl cdd vs ccs file tf,fd.code= .ref cda∧K.lookup cda=some ⟨ccl,cdd,.fields vs,ccs⟩∧vs[2]? =some (.str file tf)∧((prog.main.file:Str)==file)=true
 codeIn:codeIn K fd.code fd.qualname=true
 first :∃ar,(fd.params.posonlyargs++fd.params.args).head? =some ar∧ar.arg=selfS
 binds:∀vals:List Value,vals.length=ps.length→bindArgs fd ⟨vals,[]⟩=pure (ps.zip vals)
 globals:fd.globals=G
 builtins:fd.builtins=B
 kind:fd.scope.kind= .function
 co:fd.scope.isCoroutine=false
 gen:fd.scope.isGenerator=false
 nocell:∀x∈fd.scope.names,x.2≠ .cell
 super:fd.scope.names.lookup superS=some .globalImplicit
 cls:fd.scope.names.lookup classS=some .free
 loc:∀y∈ps,fd.scope.names.lookup y=some .local
 self:selfS∈ps
 what:whatS∈ps
 mine:x∈ps
 clsD:∃cd,clsIn K D=some cd
 name:(x==("__debug__":Str))=false
theorem ks_of{fd:FuncData}{L f:Addr}(x:Str):(callEnv fd L f).kindOf x=fd.scope.names.lookup x:=rfl
section
variable{prog:Program}{w:World}{A:Around}{E:Value→Shared→Prop}{s:Shared}{K:Frag}{G B f D C L e:Addr}{fd:FuncData}{ps:List Str}{x:Str}{m:Str→Option Value}{ox:Obj}{odx:Option Obj}
noncomputable def SuperIn(h:Heap)(G B:Addr):Prop:=∃mg mb,h.Ns G mg∧mg superS=none∧h.Ns B mb∧mb superS=some (.type "super")
set_option tactic.hygienic true in
theorem super_base{body:List Stmt}{p0 p1:Pos}{whole:Sem Value}{Q:Value→Shared→Prop}(F:XFn prog K G B f D fd ps x)(X:K.In s.heap)(hg:SuperIn s.heap G B)(htop:(prog.main.scope.names.lookup ("super":Str)).isSome=false)
 (hL:s.heap.Ns L m) (hm:m selfS=some (.ref e)) (I:InstAt s.heap e ox C odx) (hsub:mroIn K C (.ref D)=some true)
 (h:∀h',h'.get? s.heap.objs.size=some (ks_superObj D e C)→(∀y o,s.heap.get? y=some o→h'.get? y=some o)→Q (.ref s.heap.objs.size) {s with heap:=h'}):
 PySem.wpAt (model prog w) A (.func body (callEnv fd L f)) (attributeBase (.Call (.Name superS p0) [] [] p1) initS (callEnv fd L f) whole) Q E s:=by
 refine ea30 (F.fn) fun oc od osl hf=>?_
 refine ea41 (F.clo) fun cc cl cld csl hclo hcc=>?_
 obtain⟨cda,ccl,cdd,vs,ccs,file,tf,hco,hcda,hvs,hfile⟩:=F.code
 refine ea11 (F.first) fun ar har har'=>?_
 refine ea10 (F.clsD) fun cdD hD=>?_
 refine ea23 hg fun mg mb hng hmg hnb hmb=>?_;clear hg
 obtain⟨hh,g,d,t,os⟩:=s
 obtain⟨oD,hD1,hD2⟩:∃oD,hh.get? D=some oD∧oD.data= .cls cdD:=by
  refine ea30 (cls_at hD) fun _ _ _ ho=>?_
  exact⟨_,X _ _ ho,rfl⟩
 refine ks_wpAt_super_base (env:=callEnv fd L f) (F.super) (F.cls) (by decide) rfl (X _ _ hf) rfl har (show(callEnv fd L f).code= .ref cda from hco) (X _ _ hcda) rfl hvs hfile htop ?_
 refine ks_loadName_global F.kind F.super (loadGlobal_builtin (env:=callEnv fd L f) (mg:=mg) (mb:=mb) (by show hh.Ns fd.globals mg;rw[F.globals];exact hng) hmg (by show hh.Ns fd.builtins mb;rw[F.builtins];exact hnb) hmb ⟨rfl,?_⟩)
 refine wpAny_loadName_free F.kind F.cls (show(callEnv fd L f).cells.lookup _=some cc from by show fd.closure.lookup _=_;rw[hclo];rfl) ⟨_,X _ _ hcc,rfl⟩ ?_
 rw[har']
 refine wpAny_loadName_local F.kind (F.loc _ F.self) hL hm ?_
 refine ks_wpAny_isType_cls hD1 hD2 ⟨rfl,?_⟩
 refine ks_wpAny_call_super hD1 hD2 I.at_ I.cls (fun c e=>?_) (looks_mroIn X hsub) (fun h' e k=>?_)
 ·have :=I.no
  unfold notCls at this
  rw[e]at this
  exact Bool.noConfusion this
 ·exact h _ e k
end
end Mine
end
section
namespace Mine
open PySem PySem.Calls PySem.Spec PySem.SeqAt PyProof.Rows PySem.W
theorem wd_slot:Slot "wrapper_descriptor" "__get__" "wrapper_descriptor.__get__":= .of (owner:="wrapper_descriptor") (n:="__get__") (by rw[typeLookup_type,builtinLookup_eq_fast];kernel_rfl) (by decide+kernel) (by decide+kernel) (by decide+kernel)
 (by first |exact .inl (by decide+kernel)|exact .inr (by decide+kernel)) (by rw[isSubtype_type];kernel_rfl)
theorem wd_entry:entryFor table "wrapper_descriptor.__get__"=some Builtin.«wrapper_descriptor.__get__» :=entryFor_of_tree (by kernel_rfl)
theorem wd_args(a b c:Value):argsOk "wrapper_descriptor.__get__" ⟨[a,b,c],[]⟩:=by unfold argsOk;kernel_rfl
theorem ei_type:typeOf (.builtin "Exception.__init__")=pure (.type "wrapper_descriptor"):=by
 show builtinType "Exception.__init__"=_
 rw[builtinType_eq_fast];kernel_rfl
section
variable{prog:Program}{w:World}{M:Model}{A:Around}{E:Value→Shared→Prop}{h:Heap}{g:Array GenState}{d:Drawn}{t:Nat}{os:OsState}
theorem super_ga_builtin{so D x C:Addr}{l₀ l:List Value}{K:Frag}{name:Str}{tk:Tok}{Q:Fin→Shared→Prop}
 (hso:h.get? so=some {cls:= .type "super",dict:=none,data:= .fields #[.ref D,.ref x,.ref C],slots:=#[]}) (hno:Looks (model prog w) h (opaqueClassAbove (.ref C)) none)
 (hC:Looks (model prog w) h (mroOf (.ref C)) l₀) (hl:(l₀.dropWhile (·!= .ref D)).drop 1=l) (X:K.In h) {ox:Obj} (hx:h.get? x=some ox∧ox.cls= .ref C) (hin:Looks (model prog w) h (isSubtype (.ref C) (.type "Exception")) true)
 (hf:alongIn K name l=some (some (.builtin "Exception.__init__"))) (hxC:x≠C) (hn:(name==("__class__":Str))=false)
 (hq:Q (.done (.ret (.ref h.objs.size))) ⟨h.push {cls:= .type "method-wrapper",data:= .fields #[.builtin "Exception.__init__",.ref x]},g,d,t,os⟩):
 wpAny (model prog w) A (Builtin.«super.__getattribute__» ⟨[.ref so,.str name tk],[]⟩) Q E ⟨h,g,d,t,os⟩:=by
 have hlk:=wd_slot.lookup
 have hne:(Value.ref x==Value.ref C)=false:=by simp[hxC]
 have hdt:({cls:= .type "super",dict:=none,data:= .fields #[.ref D,.ref x,.ref C],slots:=#[]}:Obj).data= .fields #[.ref D,.ref x,.ref C]:=rfl
 have f0:(#[.ref D,.ref x,.ref C]:Array Value)[0]? =some (.ref D):=rfl
 have f1:(#[.ref D,.ref x,.ref C]:Array Value)[1]? =some (.ref x):=rfl
 have f2:(#[.ref D,.ref x,.ref C]:Array Value)[2]? =some (.ref C):=rfl
 have ht:=ei_type
 unfold Builtin.«super.__getattribute__»
 repeat(first
  |(with_reducible refine wpAny_field hso hdt f0 ?_)|(with_reducible refine wpAny_field hso hdt f1 ?_)|(with_reducible refine wpAny_field hso hdt f2 ?_)
  |(with_reducible refine ks_wpAny_notOpaque hno ?_)
  |(with_reducible refine Looks.at hC ?_;rw[hl])
  |(refine ks_forIn_along X (fun _ _=>rfl) rfl ?_ hf)
  |(with_reducible refine ⟨_,rfl,?_⟩)
  |(simp -iota only [hn,hne,ht,Bool.or_false,Bool.false_eq_true,if_false])
  |wp_step
  |dsimp only)
 refine codeAny_call_builtin wd_slot.plain wd_entry (wd_slot.check _ _ _ _ _ _ _ _ (show Shared.TypeIs _ (.builtin "Exception.__init__") "wrapper_descriptor" from ht) (wd_args _ _ _) ?_)
 unfold Builtin.«wrapper_descriptor.__get__»
 repeat(first |(simp -iota only [Bool.false_eq_true,if_false])|lk)
 refine nd_load hx.1 ?_
 refine nd_pure ?_
 refine wpAny_pure ?_
 rw[hx.2]
 generalize hn:(PySem.Value.type _)=nm
 have hnm:nm= .type "Exception":=by rw[←hn];decide+kernel
 rw[hnm]
 repeat(first |(simp -iota only [Bool.false_eq_true,if_false])|lk)
 exact hq
theorem getMethod_super_builtin{so D x C:Addr}{l₀ l:List Value}{K:Frag}{name:Str}{pl:Sem Bool}{Q:Value×List Value→Shared→Prop}
 (hso:h.get? so=some {cls:= .type "super",dict:=none,data:= .fields #[.ref D,.ref x,.ref C],slots:=#[]}) (hno:Looks (model prog w) h (opaqueClassAbove (.ref C)) none)
 (hC:Looks (model prog w) h (mroOf (.ref C)) l₀) (hl:(l₀.dropWhile (·!= .ref D)).drop 1=l) (X:K.In h) {ox:Obj} (hx:h.get? x=some ox∧ox.cls= .ref C) (hin:Looks (model prog w) h (isSubtype (.ref C) (.type "Exception")) true)
 (hf:alongIn K name l=some (some (.builtin "Exception.__init__"))) (hxC:x≠C) (hn:(name==("__class__":Str))=false)
 (hq:Q (.ref h.objs.size,[]) ⟨h.push {cls:= .type "method-wrapper",data:= .fields #[.builtin "Exception.__init__",.ref x]},g,d,t+1,os⟩):
 wpAny (model prog w) A (getMethod (.ref so) name pl) Q E ⟨h,g,d,t,os⟩:=by
 have hlk:=F.ks_slot_super_ga.lookup
 have hcan:=F.ks_canon_super_ga
 have hT:∀t',(⟨h,g,d,t',os⟩:Shared).TypeIs (.ref so) "super":=fun _=>⟨_,hso,rfl⟩
 unfold getMethod
 refine wpAny_bind (wpAny_specialOf (hT _) hlk ?_)
 show wpAny _ _ (if(Manifest.canonical "super.__getattribute__" != "object.__getattribute__")=true then _ else _) _ _ _
 rw[if_pos hcan]
 unfold getAttr getAttrBy
 refine wpAny_bind (wpAny_bind (wpAny_mkText (wpAny_holding (wpAny_bind (wpAny_typeOf (hT _) (wpAny_bind (wpAny_of_eq hlk ?_)))))))
 show wpAny _ _ (getAttrByItsOwn (.ref so) (.str name t) (.type "super") (.builtin "super.__getattribute__") true false) _ _ _
 unfold getAttrByItsOwn hookBefore callGetattribute boundAndCalled
 refine wpAny_bind (wpAny_of_eq (show(if onTheHeap (.type "super")then typeLookup (.type "super") "__getattr__" else pure none)=pure none from rfl) ?_)
 refine wpAny_bind (wpAny_attempt (wpAny_holding ?_))
 show wpAny _ _ (bindSpecial (.builtin "super.__getattribute__") (.ref so) >>= _) _ _ _
 refine wpAny_bind (wpAny_of_eq (F.ks_slot_super_ga.bind _) ?_)
 refine wpAny_mono (Q:=fun v s'=>v= .ref h.objs.size∧s'=⟨h.push {cls:= .type "method-wrapper",data:= .fields #[.builtin "Exception.__init__",.ref x]},g,d,t+1,os⟩) (E:=fun _ _=>False)
  (wpAny_call_entry F.ks_slot_super_ga (hT _) F.ks_entry_super_ga (super_ga_builtin hso hno hC hl X hx hin hf hxC hn ⟨_,rfl,rfl,rfl⟩) (F.ks_gaArgs_super _ _)) (fun v s' hv=>?_) fun _ _ z=>z.elim
 refine ea01 hv fun z1=>?_;clear hv;subst z1;intro z2;subst z2
 exact wpAny_pure (wpAny_pure hq)
theorem ei_check{e C:Addr}{o:Obj}{oc:Value}{od:Option Addr}{cd:ClassData}{sl:Array (Option Value)}{rest:List Value}{Q:Unit→Shared→Prop}(he:h.get? e=some o)(hcl:o.cls= .ref C)(hC:h.get? C=some ⟨oc,od,.cls cd,sl⟩)
 (hq:Q () ⟨h,g,d,t,os⟩):wpAny M A (checkBoundCall "Exception.__init__" ⟨.ref e::rest,[]⟩) Q E ⟨h,g,d,t,os⟩:=by
 have F:=PySem.F.excBase_Exception
 delta checkBoundCall
 rw[F.initRow,F.initKind]
 dsimp only
 rw[if_pos (by decide)]
 have hshort:=F.noStar
 repeat(first |(with_reducible refine wpAny_loadPart_at he ?_;rw[hcl])|with_reducible refine wpAny_loadPart_at hC ?_|wp_step)
 refine wpAny_onRaise ?_
 rw[show∀(a b:String) (n:Nat),Bind.check ⟨.positional,"*","Exception",.self,[⟨"args",.varPos,false⟩]⟩ a b n (List.map (fun x=>x.fst) ({pos:=Value.ref e::rest}:Args).kw)=pure ()from
  fun a b n=>check_star_args _ _ _ _ _ _]
 exact wpAny_pure hq
theorem call_ei{q e:Addr}{o:Obj}{vs:Array Value}{v0:Value}{rest:List Value}{Q:Value→Shared→Prop}(hq:h.get? q=some {cls:= .type "method-wrapper",dict:=none,data:= .fields #[.builtin "Exception.__init__",.ref e],slots:=#[]})
 {C:Addr} {oc:Value} {od:Option Addr} {cd:ClassData} {sl:Array (Option Value)} (hcl:o.cls= .ref C) (hC:h.get? C=some ⟨oc,od,.cls cd,sl⟩)
 (he:h.get? e=some o) (hd:o.data= .fields vs) (h0:vs[0]? =some v0) (hrest:rest.length≤sizeLine)
 (hQ:Q .none ⟨(h.push (tupObj rest)).update e (Obj.mapFields (·.setIfInBounds 0 (.ref h.objs.size))),g,d,t,os⟩):wpAny (model prog w) A (PySem.call (.ref q) rest) Q E ⟨h,g,d,t,os⟩:=by
 have F:=PySem.F.excBase_Exception
 refine wpAny_call (codeAny_of_tree ?_)
 show wpAny _ A.in1 (callAny (.ref q) ⟨rest,[]⟩) _ _ _
 unfold callAny
 refine wpAny_bind (wpAny_load hq ?_)
 refine wpAny_bind (ei_check he hcl hC (wpAny_pure ⟨plainId_quiet F.init.plain _,codeAny_builtin F.initEntry ?_⟩))
 rw[Around.under_plainId F.init.plain _]
 unfold Builtin.«BaseException.__init__»
 repeat(first |(simp -iota only [Bool.false_eq_true,if_false])|lk)
 rw[if_neg (by rw[List.size_toArray];omega)]
 have he':(h.push (tupObj rest)).get? e=some o:=Heap.get?_push_of_some _ he
 repeat lk
 rw[hd]
 refine wpAny_pure ?_
 rw[h0]
 refine wpAny_pure ?_
 show wpAny _ _ (setField (.ref e) 0 _ >>= _) _ _ _
 refine wpAny_bind (wpAny_setField he' hd (Array.getElem?_eq_some_iff.mp h0).1 ?_)
 cases v0<;>first
  |exact wpAny_pure (wpAny_pure hQ)
  |(refine wpAny_bind (wpAny_holding (wpAny_point ?_))
    exact wpAny_pure (wpAny_pure hQ))
end
end Mine
end
section
namespace Mine
open PySem PySem.Calls PySem.Spec PySem.SeqAt PyProof.Rows PySem.W Builtin Builtin.ObjectAttr
noncomputable def refOf:Value→Option Addr
 | .ref a=>some a
 |_=>none
noncomputable def tyOf:Value→Option String
 | .type T=>some T
 |_=>none
theorem refOf_inv{v:Value}{a:Addr}(h:refOf v=some a):v= .ref a:=by
 cases v with
 |ref b=>exact Option.some.inj h▸rfl
 |_=>exact noneNe h
theorem tyOf_inv{v:Value}{T:String}(h:tyOf v=some T):v= .type T:=by
 cases v with
 |type b=>exact Option.some.inj h▸rfl
 |_=>exact noneNe h
noncomputable def dropRefs:List Value→List Value
 |[]=>[]
 |v::r=>(refOf v).elim (v::r) fun _=>dropRefs r
noncomputable def typesOf:List Value→Option (List String)
 |[]=>some []
 |v::r=>(tyOf v).bind fun T=>(typesOf r).map fun Ts=>T::Ts
noncomputable def excTypes:List String:=["Exception","BaseException","object"]
noncomputable def onlyExc(l:List Value):Bool:=decide (typesOf (dropRefs l)=some excTypes)
theorem types_inv:∀(l:List Value) {Ts:List String},typesOf l=some Ts→l=Ts.map .type:=by
 intro l
 induction l with
 |nil=>exact fun h=>Option.some.inj h▸rfl
 |cons v r ih=>
  intro Ts h
  refine ea11 (Option.bind_eq_some_iff.1 (show(tyOf v).bind _=_ from h)) fun T hT h=>?_
  refine ea11 (Option.map_eq_some_iff.1 h) fun Us hU e=>?_
  rw[tyOf_inv hT,ih hU,←e]
  rfl
theorem notCls_of{o:Obj}(h:∀c,o.data≠ .cls c):notCls o=true:=by
 obtain⟨_,_,d,_⟩:=o
 cases d with
 |cls c=>exact absurd rfl (h c)
 |_=>rfl
theorem refuse_drop(self:Value){n:Str}:∀l:List Value,refuseLoop self n l=refuseLoop self n (dropRefs l):=by
 intro l
 induction l with
 |nil=>rfl
 |cons v r ih=>
  show _=refuseLoop self n ((refOf v).elim (v::r) fun _=>dropRefs r)
  cases hv:refOf v with
  |none=>rfl
  |some a=>rw[refOf_inv hv,refuseLoop_ref];exact ih
theorem has_drop{x:Value}:∀l:List Value,(dropRefs l).contains x=true→l.contains x=true:=by
 intro l
 induction l with
 |nil=>exact id
 |cons v r ih=>
  show((refOf v).elim (v::r) fun _=>dropRefs r).contains x=true→_
  cases hv:refOf v with
  |none=>exact id
  |some a=>intro h;rw[List.contains_cons,ih h,Bool.or_true]
theorem onlyExc_inv{l:List Value}(e:onlyExc l=true):dropRefs l=excTypes.map .type:=types_inv _ (of_decide_eq_true e)
theorem refuse_exc(self:Value){l:List Value}(e:onlyExc l=true):refuseLoop self "__setattr__" l=pure ():=by
 rw[refuse_drop,onlyExc_inv e]
 exact PySem.F.store_Exception.passes self
theorem exc_has{l:List Value}(e:onlyExc l=true):l.contains (.type "object")=true:=has_drop l (by rw[onlyExc_inv e];decide)
noncomputable def excOver(K:Frag)(C:Addr):Bool:=(clsIn K C).any fun cd=>onlyExc cd.mro
section
variable{prog:Program}{w:World}{A:Around}{E:Value→Shared→Prop}{s:Shared}{K:Frag}{C x:Addr}{R:Result→Shared→Prop}{mA:Str→Option Value}{name:Str}{v:Value}
theorem xosa_open{ox:Obj}{od:Option Obj}{tk:Tok}(X:K.In s.heap)(I:InstAt s.heap x ox C od)(hp:excOver K C=true)(ht:findIn K (.ref C) name=some none)
 (h:∀b,wpAny (model prog w) A.in1 (storeInOwnDict (.ref x) (.ref C) (.str name tk) name v b)
   (fun fin s'=>match fin with| .done f=>R (.ok f) s'| .again c'=>c'.quiet=true∧codeAny (model prog w) A c' R s') (fun e s'=>R (.error e) s') s):
 codeAny (model prog w) A (.call (.builtin "object.__setattr__") ⟨[.ref x,.str name tk,v],[]⟩) R s:=by
 have SF:=PySem.F.store_object
 obtain⟨cd,hc,ho⟩:=any_some hp
 have ne:cd.mro.isEmpty=false:=by cases q:cd.mro with|nil=>rw[q]at ho;cases ho|cons _ _=>rfl
 have sub:Looks (model prog w) s.heap (isInstance (.ref x) (.type "object")) true:=I.type.andThen (looks_mroIn X (by unfold mroIn;rw[hc,Option.bind_some,if_neg (by rw[ne];decide),exc_has ho]))
 refine codeAny_call_builtin SF.slot.plain SF.entry (@check_slot (model prog w) _ _ s "object.__setattr__" "object" "__setattr__" (.ref x) [.str name tk,v] [] _ SF.kind SF.split sub (SF.args (.ref x) (.str name tk) v) ?_)
 have hm:Looks (model prog w) s.heap (mroOf (.ref C)) cd.mro:=(looks_clsIn X hc).andThen .now
 have L3:Looks (model prog w) s.heap (storeTaker? none) none:= .now
 rw[osa_eq,refuse_eq]
 refine wpAny_bind (wpAny_bind (I.type.here (wpAny_bind (hm.here ?_))))
 rw[refuse_exc _ ho]
 refine wpAny_pure (wpAny_bind (I.type.here (wpAny_bind ((looks_findIn X ht).here (wpAny_bind (L3.here ?_))))))
 exact h _
set_option tactic.hygienic true in
theorem xset{ns:List Str}{Q:Unit→Shared→Prop}(X:K.In s.heap)(I:s.heap.Inst x C mA)(hs:findIn K (.ref C) "__setattr__"=some (some (.builtin "object.__setattr__")))(hp:excOver K C=true)(ht:findIn K (.ref C) name=some none)
 (hh:(clsIn K C).any (·.hasDict)=true) (hw:PySem.Within mA ns) (hsz:ns.length<sizeLine)
 (hq:∀h' tk',h'.Inst x C (fun y=>if y=name then some v else mA y)→
   (∀b o,b≠x→(∀o₀ dx,s.heap.get? x=some o₀→o₀.dict=some dx→b≠dx)→s.heap.get? b=some o→h'.get? b=some o)→
   (∀o₀,s.heap.get? x=some o₀→∃o₁ dx,h'.get? x=some o₁∧o₁.cls=o₀.cls∧o₁.data=o₀.data∧o₁.slots=o₀.slots∧o₁.dict=some dx∧(o₀.dict=some dx∨(o₀.dict=none∧dx=s.heap.objs.size)))→Q () {s with heap:=h',toks:=tk'}):
 wpAny (model prog w) A (setAttr (.ref x) name v) Q E s:=by
 refine ea13 I fun o hx hc hnc hd=>?_;clear I
 have IA:∃od,InstAt s.heap x o C od:=by
  have hno:notCls o=true:=notCls_of hnc
  rcases hd with ⟨hdn,_⟩|⟨dx,hdx,hne,od,es,ep,hod,_⟩
  ·exact⟨none,hx,hc,hno,by rw[hdn];trivial⟩
  ·exact⟨some od,hx,hc,hno,by rw[hdx];exact hod⟩
 obtain⟨od,IA⟩:=IA
 refine set_plain X IA hs (xosa_open X ⟨IA.at_,IA.cls,IA.no,IA.dict⟩ hp ht fun b=>?_)
 refine ea11 (any_some hh) fun cd hcd hdict=>?_
 obtain⟨h,g,d,t,os⟩:=s
 dsimp only at hx hd X hq ⊢
 refine wpAny_bind (wpAny_pure (wpAny_bind ?_))
 refine wpAny_bind (wpAny_loadPart hx ?_)
 rw[hc]
 dsimp only
 refine wpAny_bind ((looks_clsIn X hcd).here ?_)
 rw[hdict]
 simp -iota only [Bool.not_true,Bool.false_eq_true,if_false]
 rcases hd with ⟨hdn,hmA⟩|⟨dx,hdx,hne,hns⟩
 ·rw[hdn]
  simp only [typeHasDict,Bool.not_true,Bool.or_self,Bool.false_eq_true,if_false]
  ·have hx₁:(h.push {cls:= .type "dict",data:= .dict #[]}).get? x=some o:=Heap.get?_push_of_some _ hx
   have hxs:x≠h.objs.size:=Nat.ne_of_lt (Heap.lt_size hx)
   refine wpAny_bind (wpAny_alloc' ?_)
   refine wpAny_bind (wpAny_update' hx₁ ?_)
   refine wpAny_pure ?_
   have hgd:((h.push {cls:= .type "dict",data:= .dict #[]}).update x fun o=>{cls:=o.cls,dict:=some h.objs.size,data:=o.data,slots:=o.slots}).get? h.objs.size
    =some {cls:= .type "dict",data:= .dict #[]}:=
    (Heap.get?_update_ne _ _ _ _ hxs.symm).trans (Heap.get?_push_at rfl rfl)
   have hnd:((h.push {cls:= .type "dict",data:= .dict #[]}).update x fun o=>{cls:=o.cls,dict:=some h.objs.size,data:=o.data,slots:=o.slots}).Ns h.objs.size (fun _=>none):=
    ⟨_,#[],_,hgd,rfl,fun e he=>absurd he (by simp),fun _=>rfl⟩
   show wpAny _ _ (storeInDict h.objs.size (.str name t) name v) _ _ _
   unfold storeInDict newKeyGuard
   refine wpAny_bind (wpAny_pure (wpAny_bind (wpAny_nsSet1 (Heap.Ns1.of_empty hnd) fun h' hn' hs=>?_)))
   refine ea32 (hn'.count (PySem.Within.cons name v PySem.Within.nil)) fun oD esD epD hoD hdD hcD=>?_
   refine wpAny_bind (wpAny_lookBehind hoD (by rw[hdD];exact pastItsLine_dict (Nat.le_trans hcD (by rw[List.length_cons,List.length_nil,sizeLine_eq];omega))) ?_)
   have hx':h'.get? x=some {cls:=o.cls,dict:=some h.objs.size,data:=o.data,slots:=o.slots}:=by
    refine(hs.2 x hxs).trans (Heap.get?_update_self _ hx₁ ?_)
    have hfr:=(Heap.get?_some_iff.mp hx).2
    obtain⟨oc,od,odt,osl⟩:=o
    cases odt<;>first |rfl|exact hfr
   refine wpAny_pure (hq h' _ ⟨{cls:=o.cls,dict:=some h.objs.size,data:=o.data,slots:=o.slots},hx',hc,hnc,.inr ⟨h.objs.size,rfl,hxs.symm,?_⟩⟩ (fun b ob hbx _ hb=>?_)
    (fun o₀ h₀=>by obtain rfl:o=o₀:=Option.some.inj (hx.symm.trans h₀);exact⟨_,_,hx',rfl,rfl,rfl,rfl,.inr ⟨hdn,rfl⟩⟩))
   ·refine ea34 hn' fun o' es ep e1 e2 e3 eu e4=>?_;clear hn'
    exact⟨o',es,ep,e1,e2,e3,eu,fun y=>by rw[e4 y];by_cases hy:y=name<;>simp[hy,hmA]⟩
   ·exact(hs.2 b (Nat.ne_of_lt (Heap.lt_size hb))).trans ((Heap.get?_update_ne _ _ _ _ hbx).trans (Heap.get?_push_of_some _ hb))
 ·rw[hdx]
  refine wpAny_pure ?_
  show wpAny _ _ (storeInDict dx (.str name t) name v) _ _ _
  unfold storeInDict newKeyGuard
  refine wpAny_bind (wpAny_pure (wpAny_bind (wpAny_nsSet1 hns fun h' hn' hs=>?_)))
  refine ea32 (hn'.count (PySem.Within.cons name v hw)) fun oD esD epD hoD hdD hcD=>?_
  refine wpAny_bind (wpAny_lookBehind hoD (by rw[hdD];exact pastItsLine_dict (Nat.le_trans hcD (by rw[List.length_cons];omega))) ?_)
  refine wpAny_pure (hq h' _ ⟨o,(hs.2 x hne.symm).trans hx,hc,hnc,.inr ⟨dx,hdx,hne,hn'⟩⟩ (fun b ob _ hbd hb=>?_)
   (fun o₀ h₀=>by obtain rfl:o=o₀:=Option.some.inj (hx.symm.trans h₀);exact⟨o,dx,(hs.2 x hne.symm).trans hx,rfl,rfl,rfl,hdx,.inl hdx⟩))
  exact(hs.2 b (hbd o dx hx hdx)).trans hb
end
end Mine
end
section
namespace Mine
open PySem PySem.Calls PySem.Spec PySem.SeqAt PyProof.Rows PySem.W
structure XBase(prog:Program)(K:Frag)(base:Heap)(G B:Addr):Prop where
 X:K.In base
 lim:base.NoLimit
 sup:SuperIn base G B
 top:(prog.main.scope.names.lookup ("super":Str)).isSome=false
 any:nsIn K cStatics "thirdparty.any"=some none
structure XCls(K:Frag)(C:Addr):Prop where
 ga:findIn K (.ref C) "__getattribute__"=some (some (.builtin "BaseException.__getattribute__"))
 gt:findIn K (.ref C) "__getattr__"=some none
 sa:findIn K (.ref C) "__setattr__"=some (some (.builtin "object.__setattr__"))
 over:excOver K C=true
 dict:(clsIn K C).any (·.hasDict)=true
 makes:xMakesIn K C=true
structure XO(h:Heap)(e C:Addr)(od:Option Addr)(m:Str→Option Value):Prop where
 obj:∃v0,h.get? e=some ⟨.ref C,od,.fields #[v0,.none,.none,.none,.bool false,.none],#[]⟩
 dic:(od=none∧∀n,m n=none)∨∃d,od=some d∧d≠e∧h.Ns1 d m
structure XT(e:Addr)(od od':Option Addr)(s s':Shared):Prop where
 same:∃h tk,s'={s with heap:=h,toks:=tk}
 keep:∀b o,s.heap.get? b=some o→b≠e→od≠some b→s'.heap.get? b=some o
 dict:od'=od∨(od=none∧∃d,od'=some d∧s.heap.get? d=none)
theorem XT.refl(e:Addr)(od:Option Addr)(s:Shared):XT e od od s s:=⟨⟨_,_,rfl⟩,fun _ _ h _ _=>h,.inl rfl⟩
theorem XT.trans{e:Addr}{o₁ o₂ o₃:Option Addr}{s₁ s₂ s₃:Shared}(x:XT e o₁ o₂ s₁ s₂)(y:XT e o₂ o₃ s₂ s₃)(he:∃o,s₂.heap.get? e=some o):XT e o₁ o₃ s₁ s₃:=by
 obtain⟨⟨h1,t1,e1⟩,k1,d1⟩:=x
 obtain⟨⟨h2,t2,e2⟩,k2,d2⟩:=y
 refine⟨⟨h2,t2,by rw[e2,e1]⟩,fun b o hb hbe hbo=>k2 b o (k1 b o hb hbe hbo) hbe fun hq=>?_,?_⟩
 ·rcases d1 with rfl|⟨rfl,d,rfl,hd⟩
  ·exact hbo hq
  ·cases hq;rw[hb]at hd;cases hd
 ·rcases d1 with rfl|⟨rfl,d,rfl,hd⟩
  ·rcases d2 with rfl|⟨rfl,d,rfl,hd⟩
   ·exact .inl rfl
   ·refine .inr ⟨rfl,d,rfl,?_⟩
    by_cases hde:d=e
    ·subst hde
     obtain⟨o,he⟩:=he
     rw[he]at hd;cases hd
    ·cases q:s₁.heap.get? d with
     |none=>rfl
     |some o=>rw[k1 d o q hde (by intro h;cases h)]at hd;cases hd
  ·rcases d2 with rfl|⟨h,_⟩
   ·exact .inr ⟨rfl,d,rfl,hd⟩
   ·cases h
theorem XT.plain{e:Addr}{od:Option Addr}{s:Shared}{h:Heap}{tk:Tok}(k:∀b o,s.heap.get? b=some o→h.get? b=some o):XT e od od s {s with heap:=h,toks:=tk}:=⟨⟨h,tk,rfl⟩,fun b o hb _ _=>k b o hb,.inl rfl⟩
theorem XO.keeps{h h':Heap}{e C:Addr}{od:Option Addr}{m:Str→Option Value}(x:XO h e C od m)(k:∀b o,h.get? b=some o→h'.get? b=some o):XO h' e C od m:=by
 obtain⟨⟨v0,ho⟩,hd⟩:=x
 refine⟨⟨v0,k _ _ ho⟩,?_⟩
 rcases hd with hd|⟨d,h1,h2,h3⟩
 ·exact .inl hd
 ·exact .inr ⟨d,h1,h2,h3.at (k _)⟩
theorem XO.inst{h:Heap}{e C:Addr}{od:Option Addr}{m:Str→Option Value}(x:XO h e C od m):h.Inst e C m:=by
 obtain⟨⟨v0,ho⟩,hd⟩:=x
 exact⟨_,ho,rfl,(fun c hc=>by cases hc),hd⟩
theorem XO.instAt{h:Heap}{e C:Addr}{od:Option Addr}{m:Str→Option Value}(x:XO h e C od m):∃ox odx,ox.cls= .ref C∧InstAt h e ox C odx:=by
 obtain⟨⟨v0,ho⟩,hd⟩:=x
 rcases hd with ⟨rfl,_⟩|⟨d,rfl,h2,o,es,ep,h3,_⟩
 ·exact⟨_,none,rfl,ho,rfl,rfl,trivial⟩
 ·exact⟨_,some o,rfl,ho,rfl,rfl,h3⟩
theorem XO.dictThere{h:Heap}{e C d:Addr}{m:Str→Option Value}(x:XO h e C (some d) m):d≠e∧h.Ns1 d m:=by
 rcases x.dic with ⟨h,_⟩|⟨d',h1,h2,h3⟩
 ·cases h
 ·cases h1;exact⟨h2,h3⟩
section
variable{prog:Program}{w:World}{A:Around}{base:Heap}{s:Shared}{K:Frag}{C e:Addr}{od:Option Addr}{m:Str→Option Value}{x:Str}{v:Value}
theorem xset_step{ns:List Str}{E:Value→Shared→Prop}{Q:Unit→Shared→Prop}(X:K.In s.heap)(O:XO s.heap e C od m)(Y:XCls K C)(ht:findIn K (.ref C) x=some none)(hw:PySem.Within m ns)(hsz:ns.length<sizeLine)
 (hq:∀s' d,XT e od (some d) s s'→XO s'.heap e C (some d) (fun y=>if y=x then some v else m y)→Q () s'):wpAny (model prog w) A (setAttr (.ref e) x v) Q E s:=by
 refine ea10 (O.obj) fun v0 ho=>?_
 refine xset X O.inst Y.sa Y.over ht Y.dict hw hsz fun h' tk' I' hk hsame=>?_
 refine ea25 (hsame _ ho) fun o₁ dx h1 h2 h3 h4 h5 h6=>?_
 obtain⟨oc,od1,odt,osl⟩:=o₁
 dsimp only at h2 h3 h4 h5
 subst h2 h3 h4 h5
 have hns:dx≠e∧h'.Ns1 dx (fun y=>if y=x then some v else m y):=by
  refine ea13 I' fun o' ho' _ _ hd'=>?_;clear I'
  rw[h1]at ho';cases ho'
  rcases hd' with ⟨h,_⟩|⟨d',h,hne,hn⟩
  ·cases h
  ·cases h;exact⟨hne,hn⟩
 refine hq _ dx ⟨⟨h',tk',rfl⟩,fun b o hb hbe hbd=>hk b o hbe (fun o₀ dx' h0 hdx'=>?_) hb,?_⟩ ⟨⟨v0,h1⟩,.inr ⟨dx,rfl,hns.1,hns.2⟩⟩
 ·rw[ho]at h0;cases h0
  rintro rfl
  exact hbd hdx'
 ·rcases h6 with h6|⟨h6,rfl⟩
  ·exact .inl h6.symm
  ·refine .inr ⟨h6,_,rfl,?_⟩
   cases q:s.heap.get? s.heap.objs.size with
   |none=>rfl
   |some o=>exact absurd (Heap.lt_size q) (Nat.lt_irrefl _)
end
end Mine
end
section
namespace Mine
open PySem PySem.Calls PySem.Spec PySem.SeqAt PyProof.Rows PySem.W
section
variable{prog:Program}{w:World}{A:Around}{base:Heap}{s:Shared}{K:Frag}{G B f D C e:Addr}{fd:FuncData}{ps:List Str}{od:Option Addr}{m:Str→Option Value}{x:Str}{v:Value}
theorem there_lt{h:Heap}{b:Addr}{o:Obj}(ho:h.get? b=some o):b≠h.objs.size:=Nat.ne_of_lt (Heap.lt_size ho)
theorem wpAt_methodCall{env:Env}{o:Expr}{name:Str}{apos pos:Pos}{args:List Expr}{c:Code}{E Q:Value→Shared→Prop}(hs:args.any star? =false)(hn:args.length<29)(hl:(apos.endLine==pos.line)=true)
 (h:PySem.wpAt (model prog w) A c (attributeBase o name env (eval o env)) (fun ov s₁=>∀pl,wpAny (model prog w) A (getMethod ov name pl) (fun fx s₂=>wpAny (model prog w) A (callWith pos fx.1 fx.2 (backTo pos (starEach args env)) []) Q E s₂) E s₁) E s):
 PySem.wpAt (model prog w) A c (eval (.Call (.Attribute o name apos) args [] pos) env) Q E s:=by
 show PySem.wpAt _ _ _ (attributeBase o name env (eval o env) >>= fun ov=>standAt apos.atName >>= fun _=>methodCall o name apos pos env ov (args.length+([]:List Keyword).length) (backTo pos (starEach args env)) (backToKw pos (keywordEach [] env))) _ _ _
 exact PySem.wpAt_bind (ks_wpAt_mono h (fun ov s₁ h₁=>PySem.wpAt_of_wpAny (wpAny_bind (wpAny_standAt (methodCall_wp (form_ok hs (Nat.ble_eq_true_of_le hn)) hl h₁)))) fun _ _ x=>x)
theorem xframe{vals:List Value}{vx vw:Value}{ns:List Str}{R:Result→Shared→Prop}(F:XFn prog K G B f D fd ps x)(Bs:XBase prog K base G B)(Y:XCls K C)(ht:findIn K (.ref C) x=some none)(hsub:mroIn K C (.ref D)=some true)
 (hroom:A.depth<recursionLimit) (st:∀b o,base.get? b=some o→s.heap.get? b=some o) (O:XO s.heap e C od m) (be:base.get? e=none) (bd:∀d,od=some d→base.get? d=none)
 (hlen:vals.length=ps.length) (h1:(ps.zip vals).reverse.lookup selfS=some (.ref e)) (h2:(ps.zip vals).reverse.lookup whatS=some vw) (h3:(ps.zip vals).reverse.lookup x=some vx) (hsz:ns.length<sizeLine)
 (hs:∀(L so:Addr) (s₁:Shared) (pl:Sem Bool) (p3 p4:Pos),L≠e→(∀b o,s.heap.get? b=some o→s₁.heap.get? b=some o)→s₁.heap.Ns L (fun y=>(ps.zip vals).reverse.lookup y)→s₁.heap.get? so=some (ks_superObj D e C)→XO s₁.heap e C od m→∀(Q E:Value→Shared→Prop),
   (∀s₂ od' m',XT e od od' s₁ s₂→XO s₂.heap e C od' m'→PySem.Within m' ns→Q .none s₂)→
   wpAny (model prog w) (A.deeper (callEnv fd L f)) (getMethod (.ref so) initS pl) (fun fx s₂=>wpAny (model prog w) (A.deeper (callEnv fd L f)) (callWith p4 fx.1 fx.2 (backTo p4 (starEach [.Name whatS p3] (callEnv fd L f))) []) Q E s₂) E s₁)
 (hR:∀s₃ d m',XT e od (some d) s s₃→XO s₃.heap e C (some d) (fun y=>if y=x then some vx else m' y)→PySem.Within m' ns→R (.ok (.ret .none)) s₃):
 codeAny (model prog w) A (.call (.ref f) ⟨vals,[]⟩) R s:=by
 refine ea30 (F.fn) fun oc odf osl hf=>?_
 obtain⟨p0,p1,p2,p3,p4,p5,p6,p7,p8,p9,hpl,hbody⟩:=F.body
 have X:K.In s.heap:=Bs.X.keeps st
 refine ea10 (O.obj) fun v0 hoe=>?_
 have eL:s.heap.objs.size≠e:=(there_lt hoe).symm
 have dL:od≠some s.heap.objs.size:=by
  rintro rfl
  refine ea01 (O.dictThere) fun _ h4=>?_;refine ea31 h4 fun o es ep ho _=>?_;clear h4
  exact absurd (Heap.lt_size ho) (Nat.lt_irrefl _)
 refine ks_codeAny_call_defAt (fd:=fd) (binds:=ps.zip vals) hroom (X _ _ hf) rfl (Bs.lim.keeps st) (codeRec_of X F.codeIn) hbody (BindsTo.of_eq (F.binds vals hlen)) F.nocell (fun y hy=>F.loc _ (List.of_mem_zip (a:=y.1) (b:=y.2) hy).1) (fun h₀ hns hk=>?_) F.co F.gen F.kind
 generalize hs₀:({s with heap:=h₀,toks:=s.toks+(ps.zip vals).length}:Shared)=s₀
 have hh₀:s₀.heap=h₀:=by rw[←hs₀]
 have T0:XT e od od s s₀:=by rw[←hs₀];exact XT.plain hk
 rw[←hh₀]at hns hk
 have X0:K.In s₀.heap:=X.keeps hk
 have O0:=O.keeps hk
 refine ea21 (O0.instAt) fun ox odx hcl IA=>?_
 refine ks_wpAt_execs_cons (ks_wpAt_Expr_any (wpAt_methodCall rfl (Nat.le_of_ble_eq_true rfl) hpl (super_base F X0 ?_ Bs.top hns h1 IA hsub fun h₁ hso k₁ pl=>?_)) ?_ ?_)
 ·refine ea23 (Bs.sup) fun mg mb a b c d=>?_
  exact⟨mg,mb,(a.at' (st _)).at' (hk _),b,(c.at' (st _)).at' (hk _),d⟩
 ·refine hs _ _ {s₀ with heap:=h₁} _ _ _ eL (fun b o hb=>k₁ _ _ (hk b o hb)) (hns.at' (k₁ _)) hso (O0.keeps k₁) _ _ fun s₂ od' m' T1 O2 hw=>?_
  have T01:XT e od od' s s₂:=(T0.trans (XT.plain (tk:=s₀.toks) k₁) ⟨_,(O0.obj).choose_spec⟩).trans T1 ⟨_,((O0.keeps k₁).obj).choose_spec⟩
  have st₂:∀b o,base.get? b=some o→s₂.heap.get? b=some o:=fun b o hb=>T01.keep b o (st b o hb) (by rintro rfl;rw[be]at hb;cases hb) (fun h=>by rw[bd b h]at hb;cases hb)
  have hL₂:s₂.heap.Ns s.heap.objs.size (fun y=>(ps.zip vals).reverse.lookup y):=hns.at' fun o ho=>T1.keep _ _ (k₁ _ _ ho) eL dL
  refine ks_wpAt_execs_cons (ks_wpAt_Assign_Attr (PySem.wpAt_of_wpAny (wpAny_Name (wpAny_loadName_local F.kind (F.loc _ F.mine) hL₂ h3 ?_) F.name)) ?_)
  ·refine wpAny_Name (wpAny_loadName_local F.kind (F.loc _ F.self) hL₂ h1 ?_) (by decide)
   refine xset_step (Bs.X.keeps st₂) O2 Y ht hw hsz fun s₃ d T3 O3=>?_
   exact PySem.wpAt_of_wpAny (wpAny_pure (hR s₃ d m' (T01.trans T3 ⟨_,O2.obj.choose_spec⟩) O3 hw))
  ·rfl
 ·unfold interactive;rw[show(callEnv fd s.heap.objs.size f).scope.kind= .function from F.kind];rfl
 ·rfl
end
end Mine
end
section
namespace Mine
open PySem PySem.Calls PySem.Spec PySem.SeqAt PyProof.Rows PySem.W
section
variable{prog:Program}{w:World}{A:Around}{base:Heap}{s:Shared}{K:Frag}{G B f D C e:Addr}{fd:FuncData}{ps:List Str}{od:Option Addr}{m:Str→Option Value}{x:Str}{v:Value}
theorem one_arg{env:Env}{L:Addr}{mm:Str→Option Value}{f:Value}{y:Str}{p3 p4:Pos}{Pr:Heap→Prop}{Q E:Value→Shared→Prop}(hk:env.scope.kind= .function)(hl:env.kindOf y=some .local)(hL:env.locals=L)(hn:s.heap.Ns L mm)(hv:mm y=some v)(hd:(y==("__debug__":Str))=false)
 (hP:Pr s.heap) (keep:∀h,Pr h→∃k,(k=Keeper.frame∨k=Keeper.machine∨k=Keeper.boundFrame)∧Looks (model prog w) h (keeperOf f) k)
 (h:wpAny (model prog w) A (PySem.call f [v]) Q E s):wpAny (model prog w) A (callWith p4 f [] (backTo p4 (starEach [.Name y p3] env)) []) Q E s:=by
 subst hL
 refine PySem.W.callWith_of (P:=Pr) rfl keep (evalArgs_plain (spliced_cons ?_))
 show wpAny _ _ (eval (.Name y p3) env) _ _ _
 refine wpAny_Name (wpAny_loadName_local hk hl hn hv ?_) hd
 exact wpAny_pure ⟨hP,h⟩
noncomputable def mwObj(e:Addr):Obj:={cls:= .type "method-wrapper",dict:=none,data:= .fields #[.builtin "Exception.__init__",.ref e],slots:=#[]}
theorem XO.upd{h:Heap}{e C:Addr}{od:Option Addr}{v1:Value}(O:XO h e C od m):XO (h.update e (Obj.mapFields (·.setIfInBounds 0 v1))) e C od m:=by
 obtain⟨⟨v0,ho⟩,hd⟩:=O
 refine⟨⟨v1,?_⟩,?_⟩
 ·rw[Heap.get?_update_self _ ho rfl];rfl
 ·rcases hd with hd|⟨d,h1,h2,h3⟩
  ·exact .inl hd
  ·exact .inr ⟨d,h1,h2,h3.at fun o ho'=>(Heap.get?_update_other _ _ h2.symm).trans ho'⟩
set_option tactic.hygienic true in
theorem init_he{vw:Value}{R:Result→Shared→Prop}(F:XFn prog K G B f D fd [selfS,whatS] whatS)(Bs:XBase prog K base G B)(Y:XCls K C)(ht:findIn K (.ref C) whatS=some none)(hsub:mroIn K C (.ref D)=some true)(hb:ks_superIn K C D initS=some (some (.builtin "Exception.__init__")))
 (hroom:A.depth<recursionLimit) (st:∀b o,base.get? b=some o→s.heap.get? b=some o) (O:XO s.heap e C od m) (hm:PySem.Within m []) (be:base.get? e=none) (bd:∀d,od=some d→base.get? d=none)
 (hR:∀s₃ d,XT e od (some d) s s₃→XO s₃.heap e C (some d) (fun y=>if y=whatS then some vw else m y)→R (.ok (.ret .none)) s₃):
 codeAny (model prog w) A (.call (.ref f) ⟨[.ref e,vw],[]⟩) R s:=by
 refine ea11 (Option.bind_eq_some_iff.mp hb) fun cd hcd hb'=>?_
 have hCe:e≠C:=by
  rintro rfl
  refine ea30 (cls_at hcd) fun _ _ _ ho=>?_
  rw[Bs.X _ _ ho]at be;cases be
 refine xframe (ns:=[]) (vx:=vw) (vw:=vw) F Bs Y ht hsub hroom st O be bd rfl rfl rfl rfl (by rw[List.length_nil,sizeLine_eq];omega) (fun L so s₁ pl p3 p4 eL k hL hso O₁ Q E hQ=>?_) (fun s₃ d m' T O₃ hw=>?_)
 ·have X₁:K.In s₁.heap:=Bs.X.keeps fun b o hb=>k b o (st b o hb)
  have YM:=xMakes_of (M:=model prog w) X₁ Y.makes
  refine ea10 (O₁.obj) fun v0 hoe=>?_
  obtain⟨⟨oc,od',cd',sl,hC,_⟩,_⟩:=YM
  have YM:=xMakes_of (M:=model prog w) X₁ Y.makes
  obtain⟨h,g,d,t,os⟩:=s₁
  refine getMethod_super_builtin hso (looks_opaque X₁ Bs.any) ((looks_clsIn X₁ hcd).andThen .now) rfl X₁ ⟨hoe,rfl⟩ YM.exc hb' hCe (by decide) ?_
  have up:∀b o,h.get? b=some o→(h.push (mwObj e)).get? b=some o:=fun b o e=>Heap.get?_push_of_some _ e
  refine one_arg (Pr:=fun h'=>h'.get? h.objs.size=some (mwObj e)) F.kind (F.loc _ F.what) rfl (hL.at' (up _)) (v:=vw) rfl (by decide) (Heap.get?_push_at rfl rfl) (fun h' hq'=>⟨.machine,.inr (.inl rfl),(Looks.ld (part:=none) hq').andThen .now⟩) ?_
  refine call_ei (q:=h.objs.size) (Heap.get?_push_at rfl rfl) rfl (up _ _ hC) (up _ _ hoe) rfl rfl (by rw[sizeLine_eq];exact Nat.le_of_ble_eq_true rfl) ?_
  have up2:∀b o,h.get? b=some o→((h.push (mwObj e)).push (tupObj [vw])).get? b=some o:=fun b o e=>Heap.get?_push_of_some _ (up b o e)
  refine hQ _ od m ⟨⟨_,_,rfl⟩,fun b o hb hbe _=>?_,.inl rfl⟩ ((O₁.keeps up2).upd) hm
  exact(Heap.get?_update_other _ _ hbe.symm).trans (up2 b o hb)
 ·have :m'=m:=funext fun y=>by
   have h1:m' y=none:=by
    cases q:m' y with
    |none=>rfl
    |some u=>exact absurd (hw y (by rw[q];intro h;cases h)) (by simp)
   have h2:m y=none:=by
    cases q:m y with
    |none=>rfl
    |some u=>exact absurd (hm y (by rw[q];intro h;cases h)) (by simp)
   rw[h1,h2]
  subst this
  exact hR s₃ d T O₃
end
end Mine
end
section
namespace Mine
open PySem PySem.Calls PySem.Spec PySem.SeqAt PyProof.Rows PySem.W
section
variable{prog:Program}{w:World}{A:Around}{base:Heap}{s:Shared}{K:Frag}{G B f f2 D D2 C e:Addr}{fd fd2:FuncData}{ps:List Str}{od:Option Addr}{m:Str→Option Value}{x:Str}{v:Value}
set_option tactic.hygienic true in
theorem init_pf{vw vp:Value}{R:Result→Shared→Prop}(F2:XFn prog K G B f2 D2 fd2 [selfS,whatS,placeS] placeS)(F:XFn prog K G B f D fd [selfS,whatS] whatS)(Bs:XBase prog K base G B)(Y:XCls K C)(ht:findIn K (.ref C) whatS=some none)(ht2:findIn K (.ref C) placeS=some none)
 (hsub:mroIn K C (.ref D)=some true) (hsub2:mroIn K C (.ref D2)=some true) (hb:ks_superIn K C D initS=some (some (.builtin "Exception.__init__"))) (hb2:ks_superIn K C D2 initS=some (some (.ref f))) (hfn:fnIn K f=true) (hft:typeIn K (.ref f)=some (.type "function"))
 (hroom:A.depth+1<recursionLimit) (st:∀b o,base.get? b=some o→s.heap.get? b=some o) (O:XO s.heap e C od m) (hm:PySem.Within m []) (be:base.get? e=none) (bd:∀d,od=some d→base.get? d=none)
 (hR:∀(s₃:Shared) (d:Addr) (m':Str→Option Value),XT e od (some d) s s₃→XO s₃.heap e C (some d) (fun y=>if y=placeS then some vp else m' y)→R (.ok (.ret .none)) s₃):
 codeAny (model prog w) A (.call (.ref f2) ⟨[.ref e,vw,vp],[]⟩) R s:=by
 refine ea11 (Option.bind_eq_some_iff.mp hb2) fun cd hcd hb'=>?_
 have hCe:e≠C:=by
  rintro rfl
  refine ea30 (cls_at hcd) fun _ _ _ ho=>?_
  rw[Bs.X _ _ ho]at be;cases be
 refine xframe (ns:=[whatS]) (vx:=vp) (vw:=vw) F2 Bs Y ht2 hsub2 (Nat.lt_of_succ_lt hroom) st O be bd rfl rfl rfl rfl (by rw[sizeLine_eq];exact Nat.le_of_ble_eq_true rfl) (fun L so s₁ pl p3 p4 eL k hL hso O₁ Q E hQ=>?_) (fun s₃ d m' T O₃ hw=>hR s₃ d m' T O₃)
 have st₁:∀b o,base.get? b=some o→s₁.heap.get? b=some o:=fun b o hb=>k b o (st b o hb)
 have X₁:K.In s₁.heap:=Bs.X.keeps st₁
 obtain⟨of,hof,hofc⟩:∃of,s₁.heap.get? f=some of∧of.cls= .type "function":=by
  have ht':(K.lookup f).map (·.cls)=some (.type "function"):=hft
  cases z:K.lookup f with
  |none=>rw[z]at ht';cases ht'
  |some of=>rw[z]at ht';exact⟨of,X₁ _ _ z,Option.some.inj ht'⟩
 obtain⟨h,g,d,t,os⟩:=s₁
 refine ks_wpAny_getMethod_super hso (looks_opaque X₁ Bs.any) ((looks_clsIn X₁ hcd).andThen .now) rfl X₁ hb' hof hofc hCe (by decide) ?_
 have up:∀b o,h.get? b=some o→(h.push {cls:= .type "method",data:= .fields #[.ref f,.ref e]}).get? b=some o:=fun b o e=>Heap.get?_push_of_some _ e
 refine one_arg (Pr:=MethP K h.objs.size f (.ref e)) F2.kind (F2.loc _ F2.what) rfl (hL.at' (up _)) (v:=vw) rfl (by decide) ⟨Heap.get?_push_at rfl rfl,X₁.keeps up⟩ (fun h' hq'=>keeps_M hfn h' hq') ?_
 refine wpAny_call (method_call (f:= .ref f) (self:= .ref e) (Heap.get?_push_at rfl rfl) ?_)
 refine init_he F Bs Y ht hsub hb hroom (fun b o hb=>up _ _ (st₁ b o hb)) (O₁.keeps up) hm be bd fun s₃ d' T O₃=>?_
 refine hQ s₃ (some d') _ ((XT.plain (tk:=t+1) up).trans T ⟨_,(O₁.keeps up).obj.choose_spec⟩) O₃ fun y hy=>?_
 by_cases e:y=whatS
 ·rw[e];exact .head _
 ·rw[if_neg e]at hy
  exact absurd (hm y hy) (by simp)
end
end Mine
end
section
namespace Mine
open PySem PySem.Calls PySem.Spec PySem.SeqAt PyProof.Rows PySem.W
structure XProg(prog:Program)(K:Frag)(base:Heap)(P:Prg)(G B f D f2:Addr)(fd fd2:FuncData):Prop where
 bs:XBase prog K base G B
 hf:XFn prog K G B f D fd [selfS,whatS] whatS
 hf2:XFn prog K G B f2 P.pf fd2 [selfS,whatS,placeS] placeS
 fnf:fnIn K f=true
 tyf:typeIn K (.ref f)=some (.type "function")
 tyf2:typeIn K (.ref f2)=some (.type "function")
 ypf:XCls K P.pf
 ytf:XCls K P.tf
 w1:findIn K (.ref P.pf) whatS=some none
 w2:findIn K (.ref P.tf) whatS=some none
 pl:findIn K (.ref P.pf) placeS=some none
 sub1:mroIn K P.pf (.ref D)=some true
 sub2:mroIn K P.tf (.ref D)=some true
 sub3:mroIn K P.pf (.ref P.pf)=some true
 up1:ks_superIn K P.pf D initS=some (some (.builtin "Exception.__init__"))
 up2:ks_superIn K P.tf D initS=some (some (.builtin "Exception.__init__"))
 up3:ks_superIn K P.pf P.pf initS=some (some (.ref f))
 ini1:findIn K (.ref P.pf) "__init__"=some (some (.ref f2))
 ini2:findIn K (.ref P.tf) "__init__"=some (some (.ref f))
 keep1:keepIn K (.ref P.pf)=true
 keep2:keepIn K (.ref P.tf)=true
 typ1:typeIn K (.ref P.pf)=some (.type "type")
 typ2:typeIn K (.ref P.tf)=some (.type "type")
section
variable{prog:Program}{w:World}{A:Around}{base:Heap}{s:Shared}{K:Frag}{P:Prg}{G B f f2 D C:Addr}{fd fd2:FuncData}{v:Value}
structure XNew(s s':Shared)(e d C:Addr)(m:Str→Option Value):Prop where
 same:∃h tk,s'={s with heap:=h,toks:=tk}
 keep:∀b o,s.heap.get? b=some o→s'.heap.get? b=some o
 newE:s.heap.get? e=none
 newD:s.heap.get? d=none
 obj:XO s'.heap e C (some d) m
theorem xnew_of{C:Addr}{d:Addr}{m:Str→Option Value}{s₂:Shared}{h:Heap}{tk:Tok}{e:Addr}(k:∀b o,s.heap.get? b=some o→h.get? b=some o)(ne:s.heap.get? e=none)(T:XT e none (some d) {s with heap:=h,toks:=tk} s₂)(O:XO s₂.heap e C (some d) m):XNew s s₂ e d C m:=by
 obtain⟨⟨h',t',rfl⟩,hk,hd⟩:=T
 have k':∀b o,s.heap.get? b=some o→h'.get? b=some o:=fun b o hb=>hk b o (k b o hb) (by rintro rfl;rw[hb]at ne;cases ne) (by intro h;cases h)
 refine⟨⟨h',t',rfl⟩,k',ne,?_,O⟩
 rcases hd with hd|⟨_,d',hd,hd'⟩
 ·cases hd
 ·cases hd
  cases q:s.heap.get? d with
  |none=>rfl
  |some o=>rw[show(h.get? d)=some o from k _ _ q]at hd';cases hd'
theorem exc_start{C:Addr}{vs:List Value}{h:Heap}:(∀b o,h.get? b=some o→((h.push (tupObj vs)).push (excObj C h.objs.size)).get? b=some o)∧h.get? (h.objs.size+1)=none∧XO ((h.push (tupObj vs)).push (excObj C h.objs.size)) (h.objs.size+1) C none (fun _=>none):=
 ⟨fun b o e=>Heap.get?_push_of_some _ (Heap.get?_push_of_some _ e),Heap.get?_none_of_le (Nat.le_succ _),⟨_,by heap_get⟩,.inl ⟨rfl,fun _=>rfl⟩⟩
theorem base_fresh{h:Heap}(st:∀b o,base.get? b=some o→h.get? b=some o){e:Addr}(ne:h.get? e=none):base.get? e=none:=by
 cases q:base.get? e with
 |none=>rfl
 |some o=>rw[st _ _ q]at ne;cases ne
theorem xcall_tf{vw:Value}{Q E:Value→Shared→Prop}(X:XProg prog K base P G B f D f2 fd fd2)(hroom:A.depth+2<recursionLimit)(st:∀b o,base.get? b=some o→s.heap.get? b=some o)
 (h:∀s' e d m,XNew s s' e d P.tf m→Q (.ref e) s'):wpAny (model prog w) A (PySem.call (.ref P.tf) [vw]) Q E s:=by
 have KI:K.In s.heap:=X.bs.X.keeps st
 obtain⟨hh,g,dr,t,os⟩:=s
 refine ea02 (exc_start (C:=P.tf) (vs:=[vw]) (h:=hh)) fun k ne O=>?_
 refine wpAny_call (make_X (xMakes_of KI X.ytf.makes) (by rw[sizeLine_eq];exact Nat.le_of_ble_eq_true rfl) (looks_findIn KI X.ini2) (fun self=>bind_fn KI self X.tyf) ?_)
 refine init_he X.hf X.bs X.ytf X.w2 X.sub2 X.up2 (Nat.lt_of_succ_lt hroom) (fun b o hb=>k b o (st b o hb)) O (fun y hy=>absurd rfl hy) (base_fresh st ne) (fun d h=>by cases h) fun s₃ d T O₃=>?_
 exact⟨rfl,h s₃ _ d _ (xnew_of (s:=⟨hh,g,dr,t,os⟩) (tk:=t) k ne T O₃)⟩
theorem xcall_pf{vw vp:Value}{Q E:Value→Shared→Prop}(X:XProg prog K base P G B f D f2 fd fd2)(hroom:A.depth+2<recursionLimit)(st:∀b o,base.get? b=some o→s.heap.get? b=some o)
 (h:∀s' e d m,XNew s s' e d P.pf m→m placeS=some vp→Q (.ref e) s'):wpAny (model prog w) A (PySem.call (.ref P.pf) [vw,vp]) Q E s:=by
 have KI:K.In s.heap:=X.bs.X.keeps st
 obtain⟨hh,g,dr,t,os⟩:=s
 refine ea02 (exc_start (C:=P.pf) (vs:=[vw,vp]) (h:=hh)) fun k ne O=>?_
 refine wpAny_call (make_X (xMakes_of KI X.ypf.makes) (by rw[sizeLine_eq];exact Nat.le_of_ble_eq_true rfl) (looks_findIn KI X.ini1) (fun self=>bind_fn KI self X.tyf2) ?_)
 refine init_pf X.hf2 X.hf X.bs X.ypf X.w1 X.pl X.sub1 X.sub3 X.up1 X.up3 X.fnf X.tyf hroom (fun b o hb=>k b o (st b o hb)) O (fun y hy=>absurd rfl hy) (base_fresh st ne) (fun d h=>by cases h) fun s₃ d m' T O₃=>?_
 exact⟨rfl,h s₃ _ d _ (xnew_of (s:=⟨hh,g,dr,t,os⟩) (tk:=t) k ne T O₃) (if_pos rfl)⟩
end
end Mine
end
section
namespace Mine
open PySem PySem.Calls PySem.Spec PySem.SeqAt PyProof.Rows PySem.W
theorem entry_unchain:entryFor table "proto.unchain"=some Builtin.«proto.unchain» :=entryFor_of_tree (by kernel_rfl)
section
variable{prog:Program}{w:World}{M:Model}{A:Around}{E:Value→Shared→Prop}{s:Shared}{env:Env}
theorem raise_made{x:Sem Value}{Q:Flow→Shared→Prop}
 (h:wpAny M A x (fun v s₁=>∃C e d m,v= .ref e∧XO s₁.heap e C (some d) m∧XMakes M s₁.heap C∧Looks M s₁.heap (typeOf (.ref C)) (.type "type")∧wpAny M A (raiseNew (.ref e):Sem Flow) Q E s₁) E s):
 wpAny M A (raiseStmt env (some x) none) Q E s:=by
 unfold raiseStmt
 refine wpAny_bind (wpAny_mono h (fun v s₁ h₁=>?_) fun _ _ x=>x)
 refine ea44 h₁ fun C e d m z1=>?_;clear h₁;subst z1;intro O Y hty hE
 refine ea10 (O.obj) fun v0 he=>?_
 obtain⟨hp,g,dr,tk,os⟩:=s₁
 have isT:Looks M hp (isType (.ref e)) false:=fun A Q E s k q=>by
  unfold isType loadHead
  exact wpAny_bind (wpAny_loadPart (k _ _ he) (wpAny_pure q))
 have tyE:Looks M hp (typeOf (.ref e)) (.ref C):=(Looks.ld he).andThen .now
 have isI:Looks M hp (isInstance (.ref e) (.type "BaseException")) true:=tyE.andThen Y.top
 have fl1:Looks M hp (field (.ref e) 1) .none:=looks_field he 1 rfl
 have key:∀y:Value,y= .ref e→wpAny M A (raiseNew y:Sem Flow) Q E ⟨hp,g,dr,tk,os⟩:=fun y hy=>hy▸hE
 unfold excFromValue isExcClass raisedInstance setFlight
 generalize (@raiseNew Flow)=rn at key hE
 repeat lk
 exact hE
theorem raiseNew_under{e e0:Addr}{o o0:Obj}{vs vs0:Array Value}{Q:Flow→Shared→Prop}(hh:A.handled=some (.ref e0))(he:s.heap.get? e=some o)(hd:o.data= .fields vs)(hz:2<vs.size)(he0:s.heap.get? e0=some o0)(hd0:o0.data= .fields vs0)(h2:vs0[2]? =some .none)
 (hne:e0≠e) (h:E (.ref e) {s with heap:=s.heap.update e (Obj.mapFields (·.setIfInBounds 2 (.ref e0)))}):wpAny (model prog w) A (raiseNew (.ref e):Sem Flow) Q E s:=by
 unfold raiseNew
 refine wpAny_bind (wpAny_handled ?_)
 rw[hh]
 dsimp only
 rw[if_pos (show((Value.ref e0) != .ref e)=true from by simp[hne])]
 refine wpAny_bind (wpAny_holding (wpAny_runValue (codeAny_builtin entry_unchain ?_)))
 unfold Builtin.«proto.unchain»
 dsimp only
 refine wpAny_bind (wpAny_field he0 hd0 h2 ?_)
 rw[if_pos (by rfl)]
 refine wpAny_pure ?_
 show wpAny _ _ (setField (.ref e) 2 (.ref e0) >>= fun _=>throw (.ref e)) _ _ _
 refine wpAny_bind ?_
 exact wpAny_setField he hd hz (wpAny_throw h)
end
end Mine
end
section
namespace Mine
open PySem PySem.Calls PySem.Spec PySem.SeqAt PyProof.Rows PySem.W
section
variable{prog:Program}{w:World}{base:Heap}{P:Prg}{W S S':List Addr}{A:Around}{fr:List Env}{L:Addr}{s s₀ s₁ s₂:Shared}{γ γ₀ γ₁ γ₂:Gh}{σ σ₀ σ₁ σ₂:Store}{env cenv:Env}{ρ ρ₁:Mine.Loc}{G B:Addr}{r:Rec}{n:Nat}{sc csc:Scope}
 {K:PySem.W.Frag} {f f2 D C e d a:Addr} {fd fd2:FuncData} {m:Str→Option Value}
noncomputable def XM(P:Prg)(h:Heap)(γ:Gh)(C:Addr)(m:Str→Option Value):XA→Prop
 | .pf v=>C=P.pf∧∃u,m placeS=some u∧VR h γ u v
 | .tf=>C=P.tf
theorem ex_of_new{x:XA}(R:SR prog w base s.heap γ σ)(N:XNew s s₁ e d C m)(hx:XM P s.heap γ C m x):EX prog w base P W S L s γ σ s₁ γ σ (.ref e) x:=by
 obtain⟨⟨h,tk,rfl⟩,k,nE,nD,O⟩:=N
 refine ea10 (O.obj) fun v0 ho=>?_
 refine ea01 (O.dictThere) fun hde hns=>?_
 have off:∀b,s.heap.get? b=none→∀p∈γ,b≠p.1∧b≠p.2:=fun b hb p hp=>by
  obtain⟨⟨o1,h1,_⟩,o2,h2,_⟩:=R.live p hp
  exact⟨fun e=>(by rw[e,h1]at hb;cases hb),fun e=>(by rw[e,h2]at hb;cases hb)⟩
 refine⟨Post.keeps R k,e,d,C,.fresh,rfl,trivial,⟨⟨_,_,ho,⟨Nat.le_of_ble_eq_true rfl,fun _=>rfl⟩,rfl⟩,nE,nD,hde.symm,off e nE,off d nD⟩,?_⟩
 cases x with
 |pf v=>
  refine ea01 hx fun hC h3=>?_;clear hx;refine ea11 h3 fun u hu hv=>?_;clear h3
  exact⟨hC,m,u,hns.ns,hu,hv.keep (.of_keeps k)⟩
 |tf=>exact⟨hx,m,hns.ns⟩
theorem raise_wp{x:Expr}{pos:Pos}{Q:Flow→Shared→Prop}{E:Value→Shared→Prop}(h:wpAny (model prog w) A (raiseStmt env (some (eval x env >>= fun v=>standAt pos >>= fun _=>pure v)) none) Q E s):
 wpAny (model prog w) A (exec (.Raise (some x) none pos) env) Q E s:=by
 rw[arm_exec_Raise]
 exact wpAny_bind (wpAny_standAt h)
theorem excOf_inv{xs:List AV}{x:XA}(h:excOf P a xs=some x):(a=P.pf∧∃q,two? xs=some q∧x= .pf q.2)∨(a=P.tf∧∃v,one? xs=some v∧x= .tf):=by
 unfold excOf at h
 cases ha:Nat.beq a P.pf with
 |true=>
  rw[ha]at h;dsimp only at h
  cases hq:two? xs with
  |none=>rw[hq]at h;exact noneNe h
  |some q=>
   rw[hq]at h;dsimp only at h
   cases hs:asStr q.1 with
   |none=>rw[hs]at h;exact noneNe h
   |some _=>rw[hs]at h;exact .inl ⟨Nat.eq_of_beq_eq_true ha,q,rfl,(Option.some.inj h).symm⟩
 |false=>
  rw[ha]at h;dsimp only at h
  cases hb:Nat.beq a P.tf with
  |false=>rw[hb]at h;exact noneNe h
  |true=>
   rw[hb]at h;dsimp only at h
   cases hq:one? xs with
   |none=>rw[hq]at h;exact noneNe h
   |some v=>
    rw[hq]at h;dsimp only at h
    cases hs:asStr v with
    |none=>rw[hs]at h;exact noneNe h
    |some _=>rw[hs]at h;exact .inr ⟨Nat.eq_of_beq_eq_true hb,v,rfl,(Option.some.inj h).symm⟩
theorem xcall{x:XA}{vs:List Value}{xs:List AV}{Q E:Value→Shared→Prop}(X:XProg prog K base P G B f D f2 fd fd2)(hroom:A.depth+2<recursionLimit)(st:∀b o,base.get? b=some o→s.heap.get? b=some o)(hv:VRs s.heap γ vs xs)(hx:excOf P a xs=some x)
 (h:∀s' e d C m,(C=P.pf∨C=P.tf)→XNew s s' e d C m→XM P s.heap γ C m x→Q (.ref e) s'):wpAny (model prog w) A (PySem.call (.ref a) vs) Q E s:=by
 rcases excOf_inv hx with ⟨ea,q,hq,ex⟩|⟨ea,v,hq,ex⟩
 ·refine ea22 (hv.twoInv hq) fun v u z1=>?_;subst z1;intro _ hu
  rw[ea]
  exact xcall_pf X hroom st fun s' e d m N hm=>h s' e d _ m (.inl rfl) N (ex▸⟨rfl,_,hm,hu⟩)
 ·refine ea11 (hv.oneInv hq) fun v z1=>?_;subst z1;intro _
  rw[ea]
  exact xcall_tf X hroom st fun s' e d m N=>h s' e d _ m (.inr rfl) N (ex▸rfl)
theorem excOf_at{xs:List AV}{x:XA}(h:excOf P a xs=some x):(a=P.pf∨a=P.tf)∧xs≠[]:=by
 rcases excOf_inv h with ⟨ea,q,hq,_⟩|⟨ea,v,hq,_⟩
 ·exact⟨.inl ea,fun e=>noneNe (e▸hq:two? []=some q)⟩
 ·exact⟨.inr ea,fun e=>noneNe (e▸hq:one? []=some v)⟩
theorem raise_road{x:Str}{p1 p2 pos:Pos}{arg:Expr}{args:List Expr}{Q:Flow→Shared→Prop}{E:Value→Shared→Prop}(X:XProg prog K base P G B f D f2 fd fd2)(Z:Env0 prog w base P G B K)(ha:a=P.pf∨a=P.tf)(I:Inv prog w base fr env s γ σ ρ)(eo:EnvOK G B L env sc)(hn:nameA P sc ρ x=some (.fix (.ref a)))
 (hs:(arg::args).any star? =false)
 (h:∀s₁ γ₁,Post prog w base [] (frs fr) s γ σ s₁ γ₁ σ→wpAny (model prog w) A (spliced (backTo p2 (starEach (arg::args) env))) (fun vs s₂=>K.In s₂.heap∧wpAny (model prog w) A (PySem.call (.ref a) vs) (fun v s₃=>∃C e d m,v= .ref e∧XO s₃.heap e C (some d) m∧(C=P.pf∨C=P.tf)∧K.In s₃.heap∧wpAny (model prog w) A (raiseNew (.ref e):Sem Flow) Q E s₃) E s₂) E s₁):
 wpAny (model prog w) A (exec (.Raise (some (.Call (.Name x p1) (arg::args) [] p2)) none pos) env) Q E s:=by
 have hkeep:keepIn K (.ref a)=true:=by rcases ha with rfl|rfl;exact X.keep1;exact X.keep2
 refine raise_wp (raise_made (wpAny_bind ?_))
 show wpAny _ _ (eval (.Name x p1) env >>= fun fv=>callWith p2 fv [] (backTo p2 (starEach (arg::args) env)) (backToKw p2 (keywordEach [] env))) _ _ _
 refine wpAny_bind (name_does (P:=P) (A:=A) (L:=L) (w:=w) Z.H I eo hn _ E fun fv s₁ γ₁ hp hv=>?_)
 cases hv
 have hs':=hs
 rw[List.any_cons,Bool.or_eq_false_iff]at hs'
 have h':=h s₁ γ₁ hp
 refine PySem.W.callWith_of (P:=K.In) (by rw[args_plain hs];rfl) (keeps_K hkeep) ?_
 rw[starEach_cons hs'.1]at h' ⊢
 refine evalArgs_plain (wpAny_mono h' (fun vs s₂ h₂=>⟨h₂.1,wpAny_mono h₂.2 (fun v s₃ h₃=>?_) fun _ _ x=>x⟩) fun _ _ x=>x)
 refine ea44 h₃ fun C e d m z1=>?_;clear h₃;subst z1;intro O hC KI hE
 refine wpAny_bind (wpAny_standAt (wpAny_pure ⟨C,e,d,m,rfl,O,?_,?_,hE⟩))
 ·rcases hC with rfl|rfl
  ·exact xMakes_of KI X.ypf.makes
  ·exact xMakes_of KI X.ytf.makes
 ·rcases hC with rfl|rfl
  ·exact looks_typeIn KI X.typ1
  ·exact looks_typeIn KI X.typ2
theorem raise_road2{x:Str}{p1 p2 pos:Pos}{arg:Expr}{args:List Expr}{Q:Flow→Shared→Prop}{E:Value→Shared→Prop}(Z:Env0 prog w base P G B K)(I:Inv prog w base fr env s γ σ ρ)(eo:EnvOK G B L env sc)(hn:nameA P sc ρ x=some (.fix (.ref a)))
 (hs:(arg::args).any star? =false)
 (h:∀s₁ γ₁,Post prog w base [] (frs fr) s γ σ s₁ γ₁ σ→wpAny (model prog w) A (spliced (backTo p2 (starEach (arg::args) env))) (fun _ _=>False) E s₁):
 wpAny (model prog w) A (exec (.Raise (some (.Call (.Name x p1) (arg::args) [] p2)) none pos) env) Q E s:=by
 refine raise_wp (raise_made (wpAny_bind ?_))
 show wpAny _ _ (eval (.Name x p1) env >>= fun fv=>callWith p2 fv [] (backTo p2 (starEach (arg::args) env)) (backToKw p2 (keywordEach [] env))) _ _ _
 refine wpAny_bind (name_does (P:=P) (A:=A) (L:=L) (w:=w) Z.H I eo hn _ E fun fv s₁ γ₁ hp hv=>?_)
 cases hv
 have hs':=hs
 rw[List.any_cons,Bool.or_eq_false_iff]at hs'
 have h':=h s₁ γ₁ hp
 refine PySem.W.callWith_of (P:=fun _=>False) (by rw[args_plain hs];rfl) (fun _ h=>h.elim) ?_
 rw[starEach_cons hs'.1]at h' ⊢
 exact evalArgs_plain (wpAny_mono h' (fun vs s₂ h₂=>h₂.elim) fun _ _ x=>x)
theorem AOK.room(ha:AOK A fr L (n+1)):A.depth+2<recursionLimit:=
 Nat.lt_of_lt_of_le (Nat.add_lt_add_right (Nat.lt_of_le_of_lt (Nat.le_add_right A.depth (n+1)) ha.depth) 2) (by decide)
theorem raise_args{y:Str}{p1 p2 pos:Pos}{args:List Expr}(X:XProg prog K base P G B f D f2 fd fd2)(Z:Env0 prog w base P G B K)(g:Good prog w base P G B r n)(ha:AOK A fr L (n+1))(eo:EnvOK G B L env sc)(I:Inv prog w base fr env s γ σ ρ)(hs:args.any star? =false)(hn:nameA P sc ρ y=some (.fix (.ref a))):
 SDoes prog w base P A fr L env s γ σ (exec (.Raise (some (.Call (.Name y p1) args [] p2)) none pos) env) (((((evs r sc ρ args σ).bd fun vs σ=>Mine.ofO (excOf P a vs) fun x=> .exc x σ):Res Unit).at ρ).bd fun _ _=> .stuck):=by
 have ha':=ha.less (Nat.le_succ n)
 cases hm:evs r sc ρ args σ with
 |stuck=>trivial
 |exc z σ'=>
  cases args with
  |nil=>exact nomatch hm
  |cons arg args=>
   refine fun Q E hE=>raise_road2 Z I eo hn hs fun s₁ γ₁ hp=>?_
   have hev:=evs_does (r:=r) (n:=n) (P:=P) (sc:=sc) g ha' eo (pos:=p2) (arg::args) (I.step hp) hs
   rw[hm]at hev
   exact hev _ _ fun v s₂ γ₂ he _=>hE v s₂ γ₂ ⟨(he.after hp).1.wide,(he.after hp).2⟩ (I.step (he.after hp).1).fram
 |ok xs σ'=>
  show SDoes prog w base P A fr L env s γ σ _ (((Mine.ofO (excOf P a xs) fun x=>(.exc x σ':Res Unit)).at ρ).bd fun _ _=> .stuck)
  cases hx:excOf P a xs with
  |none=>trivial
  |some z=>
   cases args with
   |nil=>
    have e:xs=[]:=by cases hm;rfl
    exact absurd e (excOf_at hx).2
   |cons arg args=>
    refine fun Q E hE=>raise_road X Z (excOf_at hx).1 I eo hn hs fun s₁ γ₁ hp=>?_
    have hev:=evs_does (r:=r) (n:=n) (P:=P) (sc:=sc) g ha' eo (pos:=p2) (arg::args) (I.step hp) hs
    rw[hm]at hev
    refine hev _ _ fun vs s₂ γ₂ hp2 hv=>?_
    have st:∀b o,base.get? b=some o→s₂.heap.get? b=some o:=fun b o e=>hp2.sr.stays b o e
    refine⟨X.bs.X.keeps st,xcall X ha.room st hv hx fun s₃ e d C m hC N hM=>⟨C,e,d,m,rfl,N.obj,hC,X.bs.X.keeps fun b o hb=>N.keep b o (st b o hb),wpAny_raiseNew_none ha.handled ?_⟩⟩
    have hex:=((ex_of_new (L:=L) (W:=[]) (S:=frs fr) hp2.sr N hM).after hp2).after hp
    exact hE _ _ _ ⟨hex.1.wide,hex.2⟩ (I.step hex.1).fram
theorem raise_does{x:Expr}{pos:Pos}(X:XProg prog K base P G B f D f2 fd fd2)(Z:Env0 prog w base P G B K)(g:Good prog w base P G B r n)(ha:AOK A fr L (n+1))(eo:EnvOK G B L env sc)(I:Inv prog w base fr env s γ σ ρ):
 SDoes prog w base P A fr L env s γ σ (exec (.Raise (some x) none pos) env) (((raiseA P r sc ρ σ x).at ρ).bd fun _ _=> .stuck):=by
 unfold raiseA
 cases hc:callV x with
 |none=>trivial
 |some c=>
  dsimp only [Mine.ofO]
  cases hs: !c.args.any star? with
  |false=>trivial
  |true=>
   dsimp only [Mine.chk]
   cases hn:refV (nameA P sc ρ c.x)with
   |none=>trivial
   |some a=>
    rw[callV_inv hc]
    exact raise_args X Z g ha eo I (notB hs) (refV_inv hn)
end
end Mine
end
section
namespace Mine
open PySem PySem.Calls PySem.Spec PySem.SeqAt PyProof.Rows PySem.W Builtin Builtin.ObjectAttr
theorem bga_kind:builtinKind "BaseException.__getattribute__"=some .slot:=by decide+kernel
theorem bga_split:splitId "BaseException.__getattribute__"=some ("BaseException","__getattribute__"):=by decide+kernel
section
variable{prog:Program}{w:World}{A:Around}{E:Value→Shared→Prop}{s:Shared}{K:Frag}{C e d:Addr}{m:Str→Option Value}{name:Str}{v:Value}{vs:Array Value}{sl:Array (Option Value)}
theorem xga_run{h:Heap}{g:Array GenState}{dr:Drawn}{tk t:Nat}{os:OsState}{cd:ClassData}{Q:PySem.Fin→Shared→Prop}(L0:Looks (model prog w) h (typeOf (.ref e)) (.ref C))(L3:Looks (model prog w) h (typeLookup (.ref C) name) none)(L4:Looks (model prog w) h (classData C) cd)(hdict:cd.hasDict=true)
 (he:h.get? e=some ⟨.ref C,some d,.fields vs,sl⟩) (hn:h.Ns d m) (hv:m name=some v) (hq:Q (.done (.ret v)) ⟨h,g,dr,tk,os⟩):
 wpAny (model prog w) A («object.__getattribute__» ⟨[.ref e,.str name t],[]⟩) Q E ⟨h,g,dr,tk,os⟩:=by
 unfold Builtin.«object.__getattribute__»
 repeat lk
 rw[hdict]
 refine wpAny_pure ?_
 refine wpAny_nsGet hn ?_
 rw[hv]
 exact wpAny_bind (wpAny_rule (wpAny_pure (wpAny_pure hq)))
theorem xget{expr:Bool}{Q:Value→Shared→Prop}(X:K.In s.heap)(Y:XCls K C)(he:s.heap.get? e=some ⟨.ref C,some d,.fields vs,sl⟩)(hn:s.heap.Ns d m)(hv:m name=some v)(hna:findIn K (.ref C) name=some none)(hh:handedIn v=true)
 (hq:Q v {s with toks:=s.toks+1}):wpAny (model prog w) A (getAttr (.ref e) name expr) Q E s:=by
 have YM:=xMakes_of (M:=model prog w) X Y.makes
 refine ea11 (any_some Y.dict) fun cd hc hdict=>?_
 obtain⟨h,g,dr,t,os⟩:=s
 have L0:Looks (model prog w) h (typeOf (.ref e)) (.ref C):=(Looks.ld he).andThen .now
 have L1:=looks_findIn (M:=model prog w) X Y.ga
 have L2:=looks_findIn (M:=model prog w) X Y.gt
 have L3:=looks_findIn (M:=model prog w) X hna
 unfold getAttr getAttrBy
 refine wpAny_bind (wpAny_mkText (wpAny_holding (wpAny_bind (L0.at (wpAny_bind (L1.at ?_))))))
 show wpAny _ _ (getAttrByItsOwn (.ref e) (.str name t) (.ref C) (.builtin "BaseException.__getattribute__") true expr) _ _ _
 unfold getAttrByItsOwn hookBefore callGetattribute boundAndCalled
 refine wpAny_bind (show wpAny _ _ (typeLookup (.ref C) "__getattr__") _ _ _ from L2.at ?_)
 refine wpAny_bind (wpAny_attempt (wpAny_holding ?_))
 rw[if_neg (by cases expr<;>decide)]
 refine wpAny_bind (wpAny_of_eq (PySem.F.excAttr_ValueError.ga.bind _) ?_)
 show wpAny _ _ (PySem.call (.builtin "BaseException.__getattribute__") [.ref e,.str name t]) _ _ ⟨h,g,dr,t+1,os⟩
 have isI:Looks (model prog w) h (isInstance (.ref e) (.type "BaseException")) true:=L0.andThen YM.top
 refine wpAny_call (codeAny_call_builtin PySem.F.excAttr_ValueError.ga.plain PySem.F.entry_bexc_ga (@check_slot (model prog w) _ _ ⟨h,g,dr,t+1,os⟩ "BaseException.__getattribute__" "BaseException" "__getattribute__" (.ref e) [.str name t] [] _ bga_kind bga_split isI (PySem.F.args_bexc_ga _ _) ?_))
 refine xga_run L0 L3 (looks_clsIn X hc) hdict he hn hv ?_
 show wpAny _ _ (handedOut v) _ _ _
 rw[handedOut_of hh]
 exact wpAny_pure hq
end
end Mine
end
section
namespace Mine
open PySem PySem.Calls PySem.Spec PySem.SeqAt PyProof.Rows PySem.W
section
variable{prog:Program}{w:World}{base:Heap}{P:Prg}{W S S':List Addr}{A:Around}{fr:List Env}{L:Addr}{s s₀ s₁ s₂:Shared}{γ γ₀ γ₁ γ₂:Gh}{σ σ₀ σ₁ σ₂:Store}{env cenv:Env}{ρ ρ₁:Mine.Loc}{G B:Addr}{r:Rec}{n:Nat}{sc csc:Scope}
 {K:PySem.W.Frag} {f f2 D C e d a:Addr} {fd fd2:FuncData} {m:Str→Option Value}
set_option tactic.hygienic true in
theorem name_same{x:Str}{v:AV}{pos:Pos}{Q E:Value→Shared→Prop}(H:Heap0 P base G B)(I:Inv prog w base fr env s γ σ ρ)(EO:EnvOK G B L env sc)(h:nameA P sc ρ x=some v)(hQ:∀u,VR s.heap γ u v→Q u s):
 wpAny (model prog w) A (eval (.Name x pos) env) Q E s:=by
 refine ea01 (nameA_inv h) fun ho h=>?_
 refine ea01 (okName_debug ho) fun hd hc=>?_
 rcases h with hu|⟨hl,h⟩
 ·refine ea11 (I.fram.ns) fun m hn hr=>?_
  refine wpAny_Name ?_ hd
  rcases hr x v hu with ⟨hk,u,hm,r⟩|⟨hk|hk,c,hcl,u,hic,r⟩
  ·exact wpAny_loadName_local EO.kind hk hn hm (hQ _ r)
  ·exact wpAny_loadName_cell EO.kind hk hcl hic (hQ _ r)
  ·exact wpAny_loadName_free EO.kind hk hcl hic (hQ _ r) hc
 ·refine ea22 (H.glob) fun mg mb hg hb hx=>?_
  refine ea11 (hx x v h) fun u hu r=>?_
  have stay:∀{a:Addr} {m:Str→Option Value},base.Ns a m→s.heap.Ns a m:=fun hn=>hn.keeps fun b o e=>I.sr.stays b o e
  have r':VR s.heap γ u v:=r.mono γ fun a vs ⟨o,e⟩=>⟨o,I.sr.stays _ _ e⟩
  refine Name_function_global EO.kind (EO.glob x hl) ?_ hd
  rcases hu with hu|⟨hu,hu2⟩
  ·exact loadGlobal_global (by rw[EO.globals];exact stay hg) hu (hQ _ r')
  ·exact loadGlobal_builtin (by rw[EO.globals];exact stay hg) hu (by rw[EO.builtins];exact stay hb) hu2 (hQ _ r')
theorem matches_own{M:Model}{o:Obj}{Q:Bool→Shared→Prop}{E:Value→Shared→Prop}(he:s.heap.get? e=some o)(hcl:o.cls= .ref C)(Y:XMakes M s.heap C)(hty:Looks M s.heap (typeOf (.ref C)) (.type "type"))(hq:Q true s):wpAny M A (excMatches (.ref e) (.ref C)) Q E s:=by
 obtain⟨h,g,dr,t,os⟩:=s
 have L0:Looks M h (typeOf (.ref e)) (.ref C):=hcl▸(Looks.ld he).andThen .now
 have L1:Looks M h (isInstance (.ref C) (.type "tuple")) false:=hty.andThen (Looks.of_pure tc_notTuple)
 refine ea41 (Y.obj) fun oc od cd sl hC _=>?_
 have L2:Looks M h (isType (.ref C)) true:=fun A Q E s k q=>by
  unfold isType loadHead
  exact wpAny_bind (wpAny_loadPart (k _ _ hC) (wpAny_pure q))
 have L3:=Y.top
 have L4:=Y.self
 unfold excMatches isExcClass
 repeat(first |(simp only [List.forIn_cons,List.forIn_nil])|lk)
 all_goals exact hq
theorem XR.cls{h:Heap}{x:XA}(r:XR P h γ C d x):(C=P.pf∧∃v,x= .pf v)∨(C=P.tf∧x= .tf):=by
 cases x with
 |pf v=>exact .inl ⟨r.1,v,rfl⟩
 |tf=>exact .inr ⟨r.1,rfl⟩
theorem catch_road{x:XA}{mk:Mark}{cn:Str}{cp hpos:Pos}{nm:Option Str}{b₀:Stmt}{suite:List Stmt}{Q:Flow→Shared→Prop}{E:Value→Shared→Prop}(X:XProg prog K base P G B f D f2 fd fd2)(Z:Env0 prog w base P G B K)(ha:AOK A fr L n)(eo:EnvOK G B L env sc)
 (I:Inv prog w base fr env s γ σ ρ) (x1:EXK prog w base P (owns env) (frs fr) s γ σ s₁ γ₁ σ₁ e d C x mk) (hm:Mark.ok L mk) (F:Fram env s₁.heap γ₁ ρ₁) (hn:nameA P sc ρ₁ cn=some (.fix (.ref C)))
 (h:∀s₃,EXK prog w base P (owns env) (frs fr) s γ σ s₃ γ₁ σ₁ e d C x .off→Inv prog w base fr env s₃ γ₁ σ₁ ρ₁→
   codeAny (model prog w) (A.mark (some (.ref e))) (.handlers (.ref e) [.ExceptHandler none nm (b₀::suite) hpos] env) (fun r s₂=>match r with
    | .ok f=>(match nm with
      |none=>Q f s₂
      |some n=>wpAny (model prog w) A (do bindName env n .none;unbindBehindTheSuite env n hpos) (fun _ s₃=>Q f s₃) E s₂)
    | .error x=>cameBackBy (model prog w) A env E x s₂) s₃):
 wpAny (model prog w) A (noteFrame (.ref e) env) (fun _ s₂=>wpAny (model prog w) A (setFlight (.ref e) none) (fun _ s₃=>wpAny (model prog w) A (handleBy (.ref e) env [.ExceptHandler (some (.Name cn cp)) nm (b₀::suite) hpos]) Q E s₃) E s₂) E s₁:=by
 have I₁:Inv prog w base fr env s₁ γ₁ σ₁ ρ₁:=I.stepX x1.post F
 refine EXK.note I.zero x1 hm ha.frames ha.head eo.frame fun s₂ c2 x2=>?_
 refine EXK.flight I.zero x2 (by intro e;cases e) fun s₃ mk' hmk' c3 x3=>?_
 subst hmk'
 have I₃:Inv prog w base fr env s₃ γ₁ σ₁ ρ₁:=(I₁.calm c2).calm c3
 have KI:K.In s₃.heap:=X.bs.X.keeps fun b o e=>I₃.sr.stays b o e
 have hC:XMakes (model prog w) s₃.heap C∧Looks (model prog w) s₃.heap (typeOf (.ref C)) (.type "type"):=by
  rcases x3.xr.cls with ⟨rfl,_⟩|⟨rfl,_⟩
  ·exact⟨xMakes_of KI X.ypf.makes,looks_typeIn KI X.typ1⟩
  ·exact⟨xMakes_of KI X.ytf.makes,looks_typeIn KI X.typ2⟩
 refine ea21 (x3.fly.obj) fun vs sl he _=>?_
 refine wpAny_handleBy_cons (codeAny_handlers_test (name_same (P:=P) (L:=L) Z.H I₃ eo hn fun u hu=>?_)) (by intro q;cases q)
 cases hu
 exact matches_own he rfl hC.1 hC.2 (h s₃ x3 I₃)
end
end Mine
end
section
namespace Mine
open PySem PySem.Calls PySem.Spec PySem.SeqAt PyProof.Rows PySem.W
section
variable{prog:Program}{w:World}{base:Heap}{P:Prg}{W S S':List Addr}{A:Around}{fr:List Env}{L:Addr}{s s₀ s₁ s₂:Shared}{γ γ₀ γ₁ γ₂:Gh}{σ σ₀ σ₁ σ₂:Store}{env cenv:Env}{ρ ρ₁:Mine.Loc}{G B:Addr}{r:Rec}{n:Nat}{sc csc:Scope}
 {K:PySem.W.Frag} {f f2 D C e d a:Addr} {fd fd2:FuncData} {m:Str→Option Value}
theorem post_locals{h':Heap}{tk:Tok}(I:Inv prog w base fr env s γ σ ρ)(hn:h'.Ns env.locals m)(hs:Heap.SameBut env.locals s.heap h')(hW:env.locals∈W):Post prog w base W (frs fr) s γ σ {s with heap:=h',toks:=tk} γ σ:=by
 refine ea12 (I.fram.own env.locals (.head _)) fun o ho hf nt=>?_
 refine Post.other I.sr (But.same hs) (I.oap _ (.head _)).1 (I.oap _ (.head _)).2 (fun o' ho'=>by rw[ho]at ho';cases ho';exact nt) ?_ hW
 refine ea32 hn fun o' es ep ho' hd _=>?_;clear hn
 exact⟨o',ho',fun _=>Own.dict hd⟩
theorem hand_pf{v:AV}{nm:Str}{mp ap rp hpos:Pos}{Q:Flow→Shared→Prop}{E:Value→Shared→Prop}(X:XProg prog K base P G B f D f2 fd fd2)(Z:Env0 prog w base P G B K)(eo:EnvOK G B L env sc)
 (I:Inv prog w base fr env s γ σ ρ) (x3:EXK prog w base P (owns env) (frs fr) s γ σ s₁ γ₁ σ₁ e d C (.pf v) .off) (I₃:Inv prog w base fr env s₁ γ₁ σ₁ ρ₁) (hok:okName nm=true) (hl:look nm sc.names=some .local) (hv:handA v=true)
 (hQ:∀b s' γ',Post prog w base (owns env) (frs fr) s γ σ s' γ' σ₁→FlR env s'.heap γ' b (.ret v,[])→Q b s'):
 codeAny (model prog w) (A.mark (some (.ref e))) (.handlers (.ref e) [.ExceptHandler none (some nm) [.Return (some (.Attribute (.Name nm mp) placeS ap)) rp] hpos] env) (fun r s₂=>match r with
  | .ok f=>wpAny (model prog w) A (do bindName env nm .none;unbindBehindTheSuite env nm hpos) (fun _ s₃=>Q f s₃) E s₂
  | .error x=>cameBackBy (model prog w) A env E x s₂) s₁:=by
 have hli:localIn sc nm=true:=congrArg locK hl
 refine codeAny_handlers_suite_as (EXK.flight I.zero x3 (by intro e;cases e) fun s₄ mk' hmk' c4 x4=>?_)
 have I₄:=I₃.calm c4
 refine store_does (P:=P) I₄ eo hli (.fix (.ref e)) (Wok.owns env sc) _ _ fun _ s₅ γ₅ hp5 F5=>?_
 have I₅:Inv prog w base fr env s₅ γ₅ σ₁ ((nm,.fix (.ref e))::ρ₁):=I₄.stepX hp5 F5
 have KI:K.In s₅.heap:=X.bs.X.keeps fun b o e=>I₅.sr.stays b o e
 have nO:∀b,s.heap.get? b=none→b∉owns env:=fun b hb hm=>by
  refine ea11 (I.fram.own b hm) fun o ho _=>?_
  rw[hb]at ho;cases ho
 refine ea01 (x4.xr) fun hC h1=>?_;refine ea22 h1 fun mm u hns hu hr=>?_;clear h1
 refine ea21 (x4.fly.obj) fun vs sl he _=>?_
 refine ea10 (hp5.slots he (nO e x4.fly.newE) x4.fly.offE) fun sl5 he5=>?_
 have hns5:=hp5.ns hns (nO d x4.fly.newD) x4.fly.offD
 have hr5:=hr.post hp5
 subst hC
 have hname:nameA P sc ((nm,.fix (.ref e))::ρ₁) nm=some (.fix (.ref e)):=by
  show chkO (okName nm) ((look nm ((nm,_)::ρ₁)).elim _ some)=_
  rw[hok,look_cons,if_pos rfl]
  rfl
 show wpAny _ _ (exec (.Return (some (.Attribute (.Name nm mp) placeS ap)) rp) env >>= fun f=>match f with| .next=>execs [] env|f=>pure f) _ _ _
 refine wpAny_bind ?_
 show wpAny _ _ (standAt rp >>= fun _=>eval (.Attribute (.Name nm mp) placeS ap) env >>= fun v=>(pure (Flow.ret v):Sem Flow)) _ _ _
 refine wpAny_bind (wpAny_standAt (wpAny_bind ?_))
 have ea:eval (.Attribute (.Name nm mp) placeS ap) env=(attributeBase (.Name nm mp) placeS env (eval (.Name nm mp) env) >>= fun ov=>standAt ap.atName >>= fun _=>holding [ov] (getAttr ov placeS true) >>= fun r=>letTemporaryGo (.Name nm mp) ov r >>= fun _=>pure r):=rfl
 rw[ea,base_ok (by rfl)]
 refine wpAny_bind (name_same (P:=P) (L:=L) Z.H I₅ eo hname fun q hq=>?_)
 cases hq
 refine wpAny_bind (wpAny_standAt (wpAny_bind (wpAny_holding (xget KI X.ypf he5 hns5 hu X.pl (handed_of hr5 hv) ?_))))
 refine wpAny_bind (wpAny_letTemporaryGo (wpAny_pure (wpAny_pure (wpAny_pure ?_))))
 have hp6:Post prog w base (owns env) (frs fr) s₅ γ₅ σ₁ {s₅ with toks:=s₅.toks+1} γ₅ σ₁:=Post.keeps (h:=s₅.heap) (tk:=s₅.toks+1) I₅.sr fun _ _ h=>h
 have I₆:Inv prog w base fr env {s₅ with toks:=s₅.toks+1} γ₅ σ₁ ((nm,.fix (.ref e))::ρ₁):=I₅.stepX hp6 F5
 refine ea11 (I₆.fram.ns) fun m6 hn6 _=>?_
 refine wpAny_nameGoes (eo.loc _ hl) hn6 (by rw[eo.kind];rfl) fun h' m' hn' hs'=>?_
 have hp7:=post_locals (W:=owns env) (tk:=s₅.toks+1+1) I₆ hn' hs' (.head _)
 refine hQ _ _ γ₅ (((x4.post.trans hp5).trans hp6).trans hp7) ⟨u,rfl,(hr5.post hp6).post hp7⟩
end
end Mine
end
section
namespace Mine
open PySem PySem.Calls PySem.Spec PySem.SeqAt PyProof.Rows PySem.W
section
variable{prog:Program}{w:World}{base:Heap}{P:Prg}{W S S':List Addr}{A:Around}{fr:List Env}{L:Addr}{s s₀ s₁ s₂:Shared}{γ γ₀ γ₁ γ₂:Gh}{σ σ₀ σ₁ σ₂:Store}{env cenv:Env}{ρ ρ₁:Mine.Loc}{G B:Addr}{r:Rec}{n:Nat}{sc csc:Scope}
 {K:PySem.W.Frag} {f f2 D C e d a:Addr} {fd fd2:FuncData} {m:Str→Option Value}
theorem evs_gen{pos:Pos}:∀(es:List Expr) {s:Shared} {γ:Gh} {σ:Store},Inv prog w base fr env s γ σ ρ→es.any star? =false→
 (∀e∈es,∀{s:Shared} {γ:Gh} {σ:Store},Inv prog w base fr env s γ σ ρ→VDoes prog w base P A fr L s γ σ (eval e env) (r.ev sc ρ σ e))→
 Does prog w base P [] A fr L s γ σ (spliced (backTo pos (starEach es env))) (evs r sc ρ es σ) VRs id nox
 |[],s,γ,σ,I,_,_=>Does.ret I.sr VRs.nil
 |e::rest,s,γ,σ,I,h,hev=>by
  rw[List.any_cons,Bool.or_eq_false_iff]at h
  rw[starEach_cons h.1]
  show Does prog w base P [] A fr L s γ σ (eval e env >>= fun v=>pure [v] >>= fun here=>holding here (spliced (backTo pos (starEach rest env))) >>= fun vs=>pure (here++vs)) _ _ _ _
  refine Does.bind (hev e (.head _) I) fun x σ₁ v s₁ γ₁ _ hp hv=>?_
  refine Does.of_wp (fun Q E h=>wpAny_bind (wpAny_pure h)) ?_
  refine Does.bind (Does.hold (evs_gen rest (I.step hp) h.2 fun e he=>hev e (.tail _ he))) fun xs σ₂ vs s₂ γ₂ _ hp2 hvs=>?_
  exact Does.ret hp2.sr (VRs.cons (hv.post hp2) hvs)
theorem simple_const{c:Const}{k:Nat}{pos:Pos}(hsi:Simple P r)(I:Inv prog w base fr env s γ σ ρ):VDoes prog w base P A fr L s γ σ (eval (.Constant c k pos) env) (r.ev sc ρ σ (.Constant c k pos)):=by
 rcases hsi.1 sc ρ σ c k pos with h|h<;>rw[h]
 ·trivial
 ·cases hc:constA c with
  |none=>trivial
  |some x=>exact const_does I.sr hc
theorem simple_name{x:Str}{pos:Pos}(Z:Env0 prog w base P G B K)(hsi:Simple P r)(eo:EnvOK G B L env sc)(I:Inv prog w base fr env s γ σ ρ):VDoes prog w base P A fr L s γ σ (eval (.Name x pos) env) (r.ev sc ρ σ (.Name x pos)):=by
 rcases hsi.2 sc ρ σ x pos with h|h<;>rw[h]
 ·trivial
 ·cases hc:nameA P sc ρ x with
  |none=>trivial
  |some v=>exact name_does Z.H I eo hc
theorem ex_of_obj{x:XA}{h:Heap}{tk:Tok}{vs:Array Value}{sl:Array (Option Value)}(R:SR prog w base s.heap γ σ)(k:∀b o,s.heap.get? b=some o→h.get? b=some o)(nE:s.heap.get? e=none)(nD:s.heap.get? d=none)(he:h.get? e=some ⟨.ref C,some d,.fields vs,sl⟩)(hf:FlyOk x vs)(h1:vs[1]? =some .none)
 (hde:d≠e) (hns:h.Ns d m) (hx:XM P s.heap γ C m x):EX prog w base P W S L s γ σ {s with heap:=h,toks:=tk} γ σ (.ref e) x:=by
 have off:∀b,s.heap.get? b=none→∀p∈γ,b≠p.1∧b≠p.2:=fun b hb p hp=>by
  obtain⟨⟨o1,h1,_⟩,o2,h2,_⟩:=R.live p hp
  exact⟨fun e=>(by rw[e,h1]at hb;cases hb),fun e=>(by rw[e,h2]at hb;cases hb)⟩
 refine⟨Post.keeps R k,e,d,C,.fresh,rfl,trivial,⟨⟨_,_,he,hf,h1⟩,nE,nD,hde.symm,off e nE,off d nD⟩,?_⟩
 cases x with
 |pf v=>
  refine ea01 hx fun hC h3=>?_;clear hx;refine ea11 h3 fun u hu hv=>?_;clear h3
  exact⟨hC,m,u,hns,hu,hv.keep (.of_keeps k)⟩
 |tf=>exact⟨hx,m,hns⟩
end
end Mine
end
section
namespace Mine
open PySem PySem.Calls PySem.Spec PySem.SeqAt PyProof.Rows PySem.W
section
variable{prog:Program}{w:World}{base:Heap}{P:Prg}{W S S':List Addr}{A:Around}{fr:List Env}{L:Addr}{s s₀ s₁ s₂:Shared}{γ γ₀ γ₁ γ₂:Gh}{σ σ₀ σ₁ σ₂:Store}{env cenv:Env}{ρ ρ₁:Mine.Loc}{G B:Addr}{r:Rec}{n:Nat}{sc csc:Scope}
 {K:PySem.W.Frag} {f f2 D C e d a:Addr} {fd fd2:FuncData} {m:Str→Option Value}
theorem onlyPf_some{P:Prg}{xs:List AV}{a:Addr}{σ:Store}{z:XA}{σ':Store}(h:onlyPf (Mine.ofO (excOf P a xs) fun x=> .exc x σ)= .exc z σ'):excOf P a xs=some z∧σ'=σ:=by
 cases hx:excOf P a xs with
 |none=>rw[hx]at h;exact nomatch h
 |some y=>
  rw[hx]at h
  cases y with
  |pf v=>cases h;exact⟨rfl,rfl⟩
  |tf=>exact nomatch h
theorem simple_evs{z u:Str}{k:Nat}{p3 p4:Pos}{q:XA}{σ':Store}(hsi:Simple P r)(h:evs r sc ρ [.Constant (.str z) k p3,.Name u p4] σ= .exc q σ'):False:=by
 have h:((r.ev sc ρ σ (.Constant (.str z) k p3)).bd fun v σ=>((r.ev sc ρ σ (.Name u p4)).bd fun w σ=>(.ok [w] σ:Res (List AV))).bd fun vs σ=> .ok (v::vs) σ)= .exc q σ':=h
 rcases hsi.1 sc ρ σ (.str z) k p3 with hc|hc<;>rw[hc]at h
 ·exact nomatch h
 ·have h:(((r.ev sc ρ σ (.Name u p4)).bd fun w σ=>(.ok [w] σ:Res (List AV))).bd fun vs σ=> .ok (AV.str z::vs) σ)= .exc q σ':=h
  rcases hsi.2 sc ρ σ u p4 with hn|hn<;>rw[hn]at h
  ·exact nomatch h
  ·cases hx:nameA P sc ρ u<;>rw[hx]at h<;>exact nomatch h
theorem hand_tf{y:Str}{p1 p2 p3 p4 p5 hpos:Pos}{z u:Str}{k:Nat}{Q:Flow→Shared→Prop}{E:Value→Shared→Prop}(X:XProg prog K base P G B f D f2 fd fd2)(Z:Env0 prog w base P G B K)(hsi:Simple P r)(ha:AOK A fr L (n+1))(eo:EnvOK G B L env sc)
 (I:Inv prog w base fr env s γ σ ρ) (x3:EXK prog w base P (owns env) (frs fr) s γ σ s₁ γ₁ σ₁ e d C .tf .off) (I₃:Inv prog w base fr env s₁ γ₁ σ₁ ρ₁)
 {v:AV} {σ':Store} (hra:onlyPf (raiseA P r sc ρ₁ σ₁ (.Call (.Name y p1) [.Constant (.str z) k p3,.Name u p4] [] p2))= .exc (.pf v) σ')
 (hE:∀b s' γ',EX prog w base P (owns env) (frs fr) L s γ σ s' γ' σ' b (.pf v)→Fram env s'.heap γ' ρ₁→E b s'):
 codeAny (model prog w) (A.mark (some (.ref e))) (.handlers (.ref e) [.ExceptHandler none none [.Raise (some (.Call (.Name y p1) [.Constant (.str z) k p3,.Name u p4] [] p2)) none p5] hpos] env) (fun r s₂=>match r with
  | .ok f=>Q f s₂
  | .error x=>cameBackBy (model prog w) A env E x s₂) s₁:=by
 have hroom:(A.mark (some (.ref e))).depth+2<recursionLimit:=ha.room
 have hs:([.Constant (.str z) k p3,.Name u p4]:List Expr).any star? =false:=rfl
 have ha':(A.mark (some (.ref e))).frames=some fr:=ha.frames
 have hra:onlyPf (Mine.ofO (refV (nameA P sc ρ₁ y)) fun a=>(evs r sc ρ₁ [.Constant (.str z) k p3,.Name u p4] σ₁).bd fun vs σ=>Mine.ofO (excOf P a vs) fun x=> .exc x σ)= .exc (.pf v) σ':=hra
 cases hn:refV (nameA P sc ρ₁ y)with
 |none=>rw[hn]at hra;exact nomatch hra
 |some a=>
  rw[hn]at hra
  have hra:onlyPf ((evs r sc ρ₁ [.Constant (.str z) k p3,.Name u p4] σ₁).bd fun vs σ=>Mine.ofO (excOf P a vs) fun x=> .exc x σ)= .exc (.pf v) σ':=hra
  have hn:=refV_inv hn
  cases hm:evs r sc ρ₁ [.Constant (.str z) k p3,.Name u p4] σ₁ with
  |stuck=>rw[hm]at hra;exact nomatch hra
  |exc q σq=>exact(simple_evs hsi hm).elim
  |ok xs σq=>
   rw[hm]at hra
   refine ea01 (onlyPf_some hra) fun hx z1=>?_;subst z1
   refine ea01 (excOf_at hx) fun hz _=>?_
   refine codeAny_handlers_suite (EXK.flight I.zero x3 (by intro e;cases e) fun s₄ mk' hmk' c4 x4=>?_)
   subst hmk'
   have I₄:=I₃.calm c4
   show wpAny _ _ (exec (.Raise (some (.Call (.Name y p1) [.Constant (.str z) k p3,.Name u p4] [] p2)) none p5) env >>= fun f=>match f with| .next=>execs [] env|f=>pure f) _ _ _
   refine wpAny_bind (raise_road X Z hz I₄ eo hn hs fun s₅ γ₅ hp5=>?_)
   have hev:=evs_gen (prog:=prog) (w:=w) (base:=base) (P:=P) (A:=A.mark (some (.ref e))) (fr:=fr) (L:=L) (env:=env) (ρ:=ρ₁) (r:=r) (sc:=sc) (pos:=p2) [.Constant (.str z) k p3,.Name u p4] (I₄.step hp5) hs (fun q hq s' γ' σ' I'=>by
    rcases List.mem_cons.mp hq with rfl|hq
    ·exact simple_const hsi I'
    ·rw[List.mem_singleton.mp hq];exact simple_name Z hsi eo I')
   rw[hm]at hev
   refine hev _ _ fun vs s₆ γ₆ hp6 hv=>?_
   have st:∀b o,base.get? b=some o→s₆.heap.get? b=some o:=fun b o e=>hp6.sr.stays b o e
   obtain⟨vs0,sl0,he0,hfo, -⟩:=x4.fly.obj
   refine ea10 (hp5.slots he0 (fun h=>nomatch h) x4.fly.offE) fun sl5 he5=>?_
   refine ea10 (hp6.slots he5 (fun h=>nomatch h) (hp5.apart he0 x4.fly.offE)) fun sl6 he6=>?_
   refine⟨X.bs.X.keeps st,xcall X hroom st hv hx fun s₇ e2 d2 C2 m2 hC N hM=>⟨C2,e2,d2,m2,rfl,N.obj,hC,X.bs.X.keeps fun b o hb=>N.keep b o (st b o hb),?_⟩⟩
   obtain⟨⟨h7,tk7,rfl⟩,k7,nE,nD,O⟩:=N
   refine ea10 (O.obj) fun v0 ho2=>?_
   refine ea01 (O.dictThere) fun hde hns=>?_
   have hne:e≠e2:=by rintro rfl;rw[he6]at nE;cases nE
   refine raiseNew_under (e0:=e) rfl ho2 rfl (Nat.le_of_ble_eq_true rfl) (k7 _ _ he6) rfl (hfo.2 rfl) hne ?_
   have hu2:(h7.update e2 (Obj.mapFields (·.setIfInBounds 2 (.ref e)))).get? e2=some ⟨.ref C2,some d2,.fields #[v0,.none,.ref e,.none,.bool false,.none],#[]⟩:=Heap.get?_update_self _ ho2 rfl
   have kU:∀b o,s₆.heap.get? b=some o→(h7.update e2 (Obj.mapFields (·.setIfInBounds 2 (.ref e)))).get? b=some o:=fun b o hb=>(Heap.get?_update_other _ _ (by rintro rfl;rw[hb]at nE;cases nE)).trans (k7 b o hb)
   have hnsU:=hns.at fun o ho=>(Heap.get?_update_other h7 (Obj.mapFields (·.setIfInBounds 2 (.ref e))) (show e2≠d2 from hde.symm)).trans ho
   have exA:=ex_of_obj (W:=owns env) (S:=frs fr) (L:=L) (tk:=tk7) (x:= .pf v) hp6.sr kU nE nD hu2 ⟨Nat.le_of_ble_eq_true rfl,fun h=>by cases h⟩ rfl hde hnsU.ns hM
   have exB:=((exA.after hp6.wide).after hp5.wide).after x4.post
   have I₇:Inv prog w base fr env {s₆ with heap:=h7.update e2 (Obj.mapFields (·.setIfInBounds 2 (.ref e))),toks:=tk7} γ₆ σ' ρ₁:=((I₄.step hp5).step hp6).step (Post.keeps hp6.sr kU)
   refine ea01 exB fun post h1=>?_;clear exB;refine ea43 h1 fun e' d' C' mk heq hmk fly xr=>?_;clear h1
   cases heq
   refine EXK.note I.zero ⟨post,fly,xr⟩ hmk ha' ha.head eo.frame fun s₈ c8 x8=>?_
   exact EXK.back I.zero x8 (by intro e;cases e) eo.frame fun s₉ c9 x9=>hE _ s₉ γ₆ x9 ((I₇.calm c8).calm c9).fram
end
end Mine
end
section
namespace Mine
open PySem PySem.Calls PySem.Spec PySem.SeqAt PyProof.Rows PySem.W
section
variable{prog:Program}{w:World}{base:Heap}{P:Prg}{W S S':List Addr}{A:Around}{fr:List Env}{L:Addr}{s s₀ s₁ s₂:Shared}{γ γ₀ γ₁ γ₂:Gh}{σ σ₀ σ₁ σ₂:Store}{env cenv:Env}{ρ ρ₁:Mine.Loc}{G B:Addr}{r:Rec}{n:Nat}{sc csc:Scope}
 {K:PySem.W.Frag} {f f2 D C e d a:Addr} {fd fd2:FuncData} {m:Str→Option Value}
theorem hitTf_inv{h:ExceptHandler}{c:Option AV}{v:RaiseV}(hh:hitTf P h c=some v):c=some (.fix (.ref P.tf))∧∃p5,hName h=none∧hBody h=[.Raise (some v.expr) none p5]:=by
 unfold hitTf at hh
 cases hn:hName h with
 |some _=>rw[hn]at hh;exact noneNe hh
 |none=>
  rw[hn]at hh;dsimp only at hh
  cases hb:one? (hBody h)with
  |none=>rw[hb]at hh;exact noneNe hh
  |some st=>
   rw[hb]at hh;dsimp only at hh
   cases hr:raiseV st with
   |none=>rw[hr]at hh;exact noneNe hh
   |some e=>
    rw[hr]at hh;dsimp only at hh
    cases hc:refV c with
    |none=>rw[hc]at hh;exact noneNe hh
    |some a=>
     rw[hc]at hh;dsimp only at hh
     cases ha:Nat.beq a P.tf with
     |false=>rw[ha]at hh;exact noneNe hh
     |true=>
      rw[ha]at hh
      exact⟨Nat.eq_of_beq_eq_true ha▸refV_inv hc,e.2,rfl,by rw[one_inv hb,raiseV_inv hr,excV_inv hh]⟩
theorem hitPf_inv{h:ExceptHandler}{c:Option AV}(hh:hitPf P sc h c=true):c=some (.fix (.ref P.pf))∧∃nm mp ap rp,hName h=some nm∧hBody h=[.Return (some (.Attribute (.Name nm mp) placeS ap)) rp]∧okName nm=true∧look nm sc.names=some .local:=by
 unfold hitPf at hh
 cases hn:hName h with
 |none=>rw[hn]at hh;exact ffNe hh
 |some nm=>
  rw[hn]at hh;dsimp only at hh
  cases hb:one? (hBody h)with
  |none=>rw[hb]at hh;exact ffNe hh
  |some st=>
   rw[hb]at hh;dsimp only at hh
   cases hr:retV st with
   |none=>rw[hr]at hh;exact ffNe hh
   |some v=>
    rw[hr]at hh;dsimp only at hh
    cases hc:refV c with
    |none=>rw[hc]at hh;exact ffNe hh
    |some a=>
     rw[hc]at hh
     have h1:=Bool.and_eq_true_iff.1 hh
     have h2:=Bool.and_eq_true_iff.1 h1.1
     have h3:=Bool.and_eq_true_iff.1 h2.1
     have h4:=Bool.and_eq_true_iff.1 h3.1
     have hl:isLoc sc nm=true:=h1.2
     refine⟨Nat.eq_of_beq_eq_true h4.2▸refV_inv hc,nm,v.mp,v.ap,v.rp,rfl,?_,h4.1,isLoc_look hl⟩
     rw[one_inv hb,retV_inv hr,←(sEq_iff _ _).mp h3.2,(sEq_iff _ _).mp h2.2]
theorem caught_inv{h:ExceptHandler}{v:AV}(hc:caught P sc ρ h=some v):∃cn cp,hType h=some (.Name cn cp)∧nameA P sc ρ cn=some v:=by
 unfold caught at hc
 cases ht:hType h with
 |none=>rw[ht]at hc;exact noneNe hc
 |some t=>
  rw[ht]at hc;dsimp only at hc
  cases hn:nameV t with
  |none=>rw[hn]at hc;exact noneNe hc
  |some q=>rw[hn]at hc;exact⟨q.1,q.2,congrArg some (nameV_inv hn),hc⟩
theorem onlyPf_pf{m:Res Unit}{z:XA}{σ':Store}(h:onlyPf m= .exc z σ'):∃v,z= .pf v:=by
 cases m with
 |exc x σ₁=>
  cases x with
  |pf v=>cases h;exact⟨v,rfl⟩
  |tf=>exact nomatch h
 |_=>exact nomatch h
theorem try_start{body:List Stmt}{h:ExceptHandler}{pos:Pos}{Q:Flow→Shared→Prop}{E:Value→Shared→Prop}(hw:wpAny (model prog w) A (execs body env) (fun f s₁=>match f with| .next=>wpAny (model prog w) A (execs [] env) Q E s₁|f=>Q f s₁)
 (fun e s₁=>wpAny (model prog w) A (noteFrame e env) (fun _ s₂=>wpAny (model prog w) A (setFlight e none) (fun _ s₃=>wpAny (model prog w) A (handleBy e env [h]) Q E s₃) E s₂) E s₁) s):wpAny (model prog w) A (exec (.Try body [h] [] [] pos) env) Q E s:=by
 rw[arm_exec_Try]
 exact wpAny_bind (wpAny_standAt (wpAny_tryStmt_except hw))
theorem tries_does{body:List Stmt}{h:ExceptHandler}{pos:Pos}(X:XProg prog K base P G B f D f2 fd fd2)(Z:Env0 prog w base P G B K)(hsi:Simple P r)(g:Good prog w base P G B r n)(ha:AOK A fr L (n+1))(eo:EnvOK G B L env sc)(I:Inv prog w base fr env s γ σ ρ):
 SDoes prog w base P A fr L env s γ σ (exec (.Try body [h] [] [] pos) env) (tryA P r sc ρ body h σ):=by
 have ha':=ha.less (Nat.le_succ n)
 have hex:=g.ex body ha' eo I
 unfold tryA
 cases hm:r.ex sc ρ σ body with
 |stuck=>trivial
 |ok q σ'=>
  rw[hm]at hex
  refine fun Q E hQ=>try_start (hex _ _ fun b s' γ' hp hf=>?_)
  have :=hQ b s' γ' hp hf
  cases b<;>first |exact wpAny_pure this|exact this
 |exc x σ'=>
  rw[hm]at hex
  obtain⟨x1,ρ₁⟩:=x
  cases x1 with
  |tf=>
   refine Does.ofO fun q hq=>?_
   refine ea01 (hitTf_inv hq) fun hc h1=>?_;refine ea11 h1 fun p5 hnm hb=>?_;clear h1
   refine ea21 (caught_inv hc) fun cn cp ht hn=>?_
   have he:=h_eta h
   rw[ht,hnm,hb]at he
   cases hra:onlyPf (raiseA P r sc ρ₁ σ' q.expr)with
   |stuck=>trivial
   |ok _ _=>trivial
   |exc zz σ₂=>
    refine ea10 (onlyPf_pf hra) fun v z1=>?_;subst z1
    refine fun Q E hE=>try_start (hex _ _ fun v' s₁ γ₁ hX hF=>?_)
    refine ea01 hX fun hp h1=>?_;clear hX;refine ea43 h1 fun e d C mk z1=>?_;clear h1;subst z1;intro hmk fly xr
    cases (show C=P.tf from xr.1)
    rw[he]
    exact catch_road X Z ha' eo I ⟨hp,fly,xr⟩ hmk hF hn fun s₃ x3 I₃=>hand_tf X Z hsi ha eo I x3 I₃ hra fun b s' γ' hX hF=>hE b s' γ' hX hF
  |pf v=>
   refine Does.chk fun hh=>?_
   have hh:=Bool.and_eq_true_iff.1 hh
   refine ea01 (hitPf_inv hh.1) fun hc h1=>?_;refine ea43 h1 fun nm mp ap rp hnm hb hok hl=>?_;clear h1
   refine ea21 (caught_inv hc) fun cn cp ht hn=>?_
   have he:=h_eta h
   rw[ht,hnm,hb]at he
   refine fun Q E hQ=>try_start (hex _ _ fun v' s₁ γ₁ hX hF=>?_)
   refine ea01 hX fun hp h1=>?_;clear hX;refine ea43 h1 fun e d C mk z1=>?_;clear h1;subst z1;intro hmk fly xr
   cases (show C=P.pf from xr.1)
   rw[he]
   exact catch_road X Z ha' eo I ⟨hp,fly,xr⟩ hmk hF hn fun s₃ x3 I₃=>hand_pf X Z eo I x3 I₃ hok hl hh.2 hQ
theorem xc_ok(X:XProg prog K base P G B f D f2 fd fd2)(Z:Env0 prog w base P G B K):XcOK prog w base P G B:=
 ⟨fun _ _ g ha eo I=>raise_does X Z g ha eo I,fun _ _ _ hsi g ha eo I=>tries_does X Z hsi g ha eo I⟩
end
end Mine
end
section
namespace Mine
open PySem
noncomputable def WO{ε α:Type}(o:Out ε α)(Q:α→Store→Prop):Prop:=∃a σ,o= .ok a σ∧Q a σ
noncomputable def WX{ε α:Type}(o:Out ε α)(Q:ε→Store→Prop):Prop:=∃x σ,o= .exc x σ∧Q x σ
noncomputable def OkO{ε α:Type}(o:Out ε α)(Q:α→Store→Prop):Prop:=∃a σ,o= .ok a σ∧Q a σ
noncomputable def Sel(b:Bool)(X Y:Prop):Prop:=match b with
 |true=>X
 |false=>Y
noncomputable def OfS{β:Type}(o:Option β)(Q:β→Store→Prop)(σ:Store):Prop:=∃v,o=some v∧Q v σ
theorem OfS.mk{β:Type}{o:Option β}{Q:β→Store→Prop}{σ:Store}{v:β}(e:o=some v)(q:Q v σ):OfS o Q σ:=⟨v,e,q⟩
noncomputable def kTo(B:Bool→Store→Prop):AV→Store→Prop:=fun v σ=>∃b,v= .bool b∧B b σ
theorem kTo.mk{B:Bool→Store→Prop}{v:AV}{σ:Store}{b:Bool}(e:v= .bool b)(q:B b σ):kTo B v σ:=⟨b,e,q⟩
theorem sel_t{b:Bool}{X Y:Prop}(e:b=true)(x:X):Sel b X Y:=by subst e;exact x
theorem sel_f{b:Bool}{X Y:Prop}(e:b=false)(y:Y):Sel b X Y:=by subst e;exact y
theorem sel_of{b:Bool}{X Y:Prop}(t:b=true→X)(f:b=false→Y):Sel b X Y:=by cases b with|true=>exact t rfl|false=>exact f rfl
section
variable{ε α β:Type}{o o':Out ε α}{Q:α→Store→Prop}{X:ε→Store→Prop}
theorem WO.mono{Q':α→Store→Prop}(h:WO o Q)(hq:∀a σ,Q a σ→Q' a σ):WO o Q':=let ⟨a,σ,e,q⟩:=h;⟨a,σ,e,hq a σ q⟩
theorem WO.eq(e:o=o')(h:WO o' Q):WO o Q:=by subst e;exact h
theorem WX.mono{Q':ε→Store→Prop}(h:WX o X)(hq:∀a σ,X a σ→Q' a σ):WX o Q':=let ⟨a,σ,e,q⟩:=h;⟨a,σ,e,hq a σ q⟩
theorem WX.eq(e:o=o')(h:WX o' X):WX o X:=by subst e;exact h
theorem WO.bind{f:α→Store→Out ε β}{R:β→Store→Prop}(h:WO o fun a σ=>WO (f a σ) R):WO (o.bd f) R:=by
 refine ea21 h fun a σ z1=>?_;clear h;subst z1;intro h;exact h
theorem WX.bind{f:α→Store→Out ε β}(h:WO o fun a σ=>WX (f a σ) X):WX (o.bd f) X:=by
 refine ea21 h fun a σ z1=>?_;clear h;subst z1;intro h;exact h
theorem WX.left{f:α→Store→Out ε β}(h:WX o X):WX (o.bd f) X:=by
 refine ea21 h fun a σ z1=>?_;clear h;subst z1;intro h;exact⟨a,σ,Eq.refl _,h⟩
theorem WO.pure(h:OkO o Q):WO o Q:=h
theorem WO.ok{a:α}{σ:Store}(h:Q a σ):WO (.ok a σ:Out ε α) Q:=⟨a,σ,Eq.refl _,h⟩
theorem WO.rfl{a:α}{σ:Store}(h:o= .ok a σ)(q:Q a σ):WO o Q:=⟨a,σ,h,q⟩
theorem WO.chk{b:Bool}(e:b=true)(h:WO o Q):WO (Mine.chk b o) Q:=by subst e;exact h
theorem WO.ofO{o:Option β}{b:β}{f:β→Out ε α}(e:o=some b)(h:WO (f b) Q):WO (Mine.ofO o f) Q:=by subst e;exact h
theorem WX.chk{b:Bool}(e:b=true)(h:WX o X):WX (Mine.chk b o) X:=by subst e;exact h
theorem WX.ofO{o:Option β}{b:β}{f:β→Out ε α}(e:o=some b)(h:WX (f b) X):WX (Mine.ofO o f) X:=by subst e;exact h
theorem not_t{b:Bool}(h:b=false):(!b)=true:=by subst h;rfl
theorem OkO.mk{a:α}{σ:Store}{o:Out ε α}(e:o= .ok a σ)(h:Q a σ):OkO o Q:=⟨a,σ,e,h⟩
theorem WO.at{o:Res α}{ρ:Loc}(h:WO o Q):WO (o.at ρ) Q:=by
 refine ea21 h fun a σ z1=>?_;clear h;subst z1;intro h;exact⟨a,σ,Eq.refl _,h⟩
theorem WX.at{o:Res α}{ρ:Loc}{X:XA×Loc→Store→Prop}(h:WX o fun x σ=>X (x,ρ) σ):WX (o.at ρ) X:=by
 refine ea21 h fun a σ z1=>?_;clear h;subst z1;intro h;exact⟨(a,ρ),σ,Eq.refl _,h⟩
theorem WO.quiet(h:WO o Q):WO (Mine.quiet o) Q:=by
 refine ea21 h fun a σ z1=>?_;clear h;subst z1;intro h;exact⟨a,σ,Eq.refl _,h⟩
end
section
variable{P:Prg}{sc csc:Scope}{ρ:Loc}{σ:Store}{k:Nat}{Q:AV→Store→Prop}{X:XA→Store→Prop}{B:Bool→Store→Prop}
noncomputable abbrev Ev(P:Prg)(k:Nat)(sc:Scope)(ρ:Loc)(σ:Store)(e:Expr)(Q:AV→Store→Prop):Prop:=WO ((run P k).ev sc ρ σ e) Q
noncomputable abbrev Ts(P:Prg)(k:Nat)(sc:Scope)(ρ:Loc)(σ:Store)(e:Expr)(Q:Bool→Store→Prop):Prop:=WO ((run P k).ts sc ρ σ e) Q
noncomputable abbrev Ex(P:Prg)(k:Nat)(sc:Scope)(ρ:Loc)(σ:Store)(b:List Stmt)(Q:Fl×Loc→Store→Prop):Prop:=WO ((run P k).ex sc ρ σ b) Q
noncomputable abbrev Ca(P:Prg)(k:Nat)(f:Addr)(vs:List AV)(σ:Store)(Q:AV→Store→Prop):Prop:=WO ((run P k).call f vs σ) Q
noncomputable abbrev Evs(P:Prg)(k:Nat)(sc:Scope)(ρ:Loc)(σ:Store)(es:List Expr)(Q:List AV→Store→Prop):Prop:=WO (evs (run P k) sc ρ es σ) Q
noncomputable abbrev kCons(v:AV)(Q:List AV→Store→Prop):List AV→Store→Prop:=fun vs σ=>Q (v::vs) σ
noncomputable abbrev kEvs(P:Prg)(k:Nat)(sc:Scope)(ρ:Loc)(es:List Expr)(Q:List AV→Store→Prop):AV→Store→Prop:=fun v σ=>Evs P k sc ρ σ es (kCons v Q)
noncomputable abbrev kBin2(op:Operator)(x:AV)(Q:AV→Store→Prop):AV→Store→Prop:=fun y σ=>OkO (binA σ op x y) Q
noncomputable abbrev kBin(P:Prg)(k:Nat)(sc:Scope)(ρ:Loc)(op:Operator)(b:Expr)(Q:AV→Store→Prop):AV→Store→Prop:=fun x σ=>Ev P k sc ρ σ b (kBin2 op x Q)
noncomputable abbrev kNeg(Q:AV→Store→Prop):AV→Store→Prop:=fun v σ=>∃i,v= .int i∧Q (.int (-i)) σ
noncomputable abbrev kBool(Q:AV→Store→Prop):Bool→Store→Prop:=fun b σ=>Q (.bool b) σ
noncomputable abbrev kNB(B:Bool→Store→Prop):Bool→Store→Prop:=fun b σ=>B (!b) σ
noncomputable abbrev kIf(P:Prg)(k:Nat)(sc:Scope)(ρ:Loc)(a b:Expr)(Q:AV→Store→Prop):Bool→Store→Prop:=fun c σ=>Sel c (Ev P k sc ρ σ a Q) (Ev P k sc ρ σ b Q)
noncomputable abbrev kTup(Q:AV→Store→Prop):List AV→Store→Prop:=fun vs σ=>OkO (mkTup vs σ) Q
noncomputable abbrev kList(Q:AV→Store→Prop):List AV→Store→Prop:=fun vs σ=>OkO (mkList vs σ) Q
noncomputable abbrev kItem2(ov:AV)(Q:AV→Store→Prop):AV→Store→Prop:=fun iv σ=>OfS (itemA σ ov iv) Q σ
noncomputable abbrev kItem(P:Prg)(k:Nat)(sc:Scope)(ρ:Loc)(i:Expr)(Q:AV→Store→Prop):AV→Store→Prop:=fun ov σ=>Ev P k sc ρ σ i (kItem2 ov Q)
noncomputable abbrev kNat(Q:Option Nat→Store→Prop):AV→Store→Prop:=fun v σ=>OfS (natOf v) (fun n=>Q (some n)) σ
noncomputable abbrev kAttr(P:Prg)(name:Str)(Q:AV→Store→Prop):AV→Store→Prop:=fun ov σ=>OkO (attrA P ov name σ) Q
theorem evs_nil{Q:List AV→Store→Prop}(h:Q [] σ):Evs P k sc ρ σ [] Q:=WO.ok h
theorem evs_cons{e:Expr}{es:List Expr}{Q:List AV→Store→Prop}(h:Ev P k sc ρ σ e (kEvs P k sc ρ es Q)):Evs P k sc ρ σ (e::es) Q:=
 WO.bind (f:=fun v σ=>(evs (run P k) sc ρ es σ).bd fun vs σ=> .ok (v::vs) σ) (h.mono fun v σ₁ h=>WO.bind (f:=fun vs σ=> .ok (v::vs) σ) (h.mono fun vs σ₂ q=>WO.ok q))
theorem ev_const{c:Const}{n:Nat}{p:Pos}{v:AV}(h:constA c=some v)(q:Q v σ):Ev P (k+1) sc ρ σ (.Constant c n p) Q:=
 WO.eq (o':=orStuck (constA c) σ) (rfl) (WO.pure ⟨v,σ,by rw[h];rfl,q⟩)
theorem ev_name{x:Str}{p:Pos}{v:AV}(h:nameA P sc ρ x=some v)(q:Q v σ):Ev P (k+1) sc ρ σ (.Name x p) Q:=
 WO.eq (o':=orStuck (nameA P sc ρ x) σ) (rfl) (WO.pure ⟨v,σ,by rw[h];rfl,q⟩)
theorem ev_bin{a b:Expr}{op:Operator}{p:Pos}(h:Ev P k sc ρ σ a (kBin P k sc ρ op b Q)):Ev P (k+1) sc ρ σ (.BinOp a op b p) Q:=
 WO.eq rfl (WO.bind (f:=fun x σ=>((run P k).ev sc ρ σ b).bd fun y σ=>binA σ op x y) (h.mono fun x _ h=>WO.bind (f:=fun y σ=>binA σ op x y) (h.mono fun _ _ h=>WO.pure h)))
theorem ev_neg{e:Expr}{p:Pos}{Q:AV→Store→Prop}(h:Ev P k sc ρ σ e (kNeg Q)):Ev P (k+1) sc ρ σ (.UnaryOp .USub e p) Q:=
 WO.eq rfl (WO.bind (f:=fun(v:AV) σ=>(Mine.ofO (asInt v) fun i=> .ok (.int (-i)) σ:Res AV)) (h.mono fun v σ₁ ⟨i,e,q⟩=>by subst e;exact WO.ok q))
theorem ev_not{e:Expr}{p:Pos}(h:Ev P k sc ρ σ e (kTo (kNB (kBool Q)))):Ev P (k+1) sc ρ σ (.UnaryOp .Not e p) Q:=
 WO.eq rfl (WO.bind (f:=fun(v:AV) σ=>(Mine.ofO (asBool v) fun b=> .ok (.bool (!b)) σ:Res AV)) (h.mono fun v σ₁ ⟨i,e,q⟩=>by subst e;exact WO.ok q))
theorem ev_if{t a b:Expr}{p:Pos}(h:Ts P k sc ρ σ t (kIf P k sc ρ a b Q)):Ev P (k+1) sc ρ σ (.IfExp t a b p) Q:=
 WO.eq rfl (WO.bind (f:=fun(c:Bool) σ=>match c with|true=>((run P k).ev sc ρ σ a:Res AV)|false=>(run P k).ev sc ρ σ b) (h.mono fun c σ₁ h=>by cases c<;>exact h))
theorem ev_tuple{es:List Expr}{n:Nat}{p:Pos}(hs:es.any star? =false)(h:Evs P k sc ρ σ es (kTup Q)):Ev P (k+1) sc ρ σ (.Tuple es n p) Q:=
 WO.eq rfl (WO.chk (not_t hs) (WO.bind (f:=fun vs σ=>mkTup vs σ) (h.mono fun _ _ h=>WO.pure h)))
theorem ev_list{es:List Expr}{p:Pos}(hs:es.any star? =false)(h:Evs P k sc ρ σ es (kList Q)):Ev P (k+1) sc ρ σ (.List es p) Q:=
 WO.eq rfl (WO.chk (not_t hs) (WO.bind (f:=fun vs σ=>mkList vs σ) (h.mono fun _ _ h=>WO.pure h)))
theorem ev_item{o i:Expr}{p:Pos}(hi:sliceV i=none)(h:Ev P k sc ρ σ o (kItem P k sc ρ i Q)):Ev P (k+1) sc ρ σ (.Subscript o i p) Q:=by
 refine WO.eq (o':=((run P k).ev sc ρ σ o).bd fun ov σ=>((run P k).ev sc ρ σ i).bd fun iv σ=>orStuck (itemA σ ov iv) σ) ?_ ?_
 ·show((run P k).ev sc ρ σ o).bd (fun ov σ=>els (sliceV i) _ _)=_
  rw[hi]
  rfl
 ·exact WO.bind (f:=fun ov σ=>((run P k).ev sc ρ σ i).bd fun iv σ=>orStuck (itemA σ ov iv) σ) (h.mono fun ov _ h=>WO.bind (f:=fun iv σ=>orStuck (itemA σ ov iv) σ) (h.mono fun _ _ ⟨v,e,q⟩=>WO.pure ⟨v,_,by rw[e];rfl,q⟩))
noncomputable abbrev OptN(P:Prg)(k:Nat)(sc:Scope)(ρ:Loc)(σ:Store)(e:Option Expr)(Q:Option Nat→Store→Prop):Prop:=WO (optNat (run P k) sc ρ e σ) Q
theorem opt_none{Q:Option Nat→Store→Prop}(h:Q none σ):OptN P k sc ρ σ none Q:=WO.ok h
theorem opt_some{e:Expr}{Q:Option Nat→Store→Prop}(h:Ev P k sc ρ σ e (kNat Q)):OptN P k sc ρ σ (some e) Q:=
 WO.bind (f:=fun v σ=>(Mine.ofO (natOf v) fun n=> .ok (some n) σ:Res (Option Nat))) (h.mono fun v σ₁ ⟨n,e,q⟩=>WO.ofO e (WO.ok q))
noncomputable abbrev kSl3(P:Prg)(ov:AV)(l:Option Nat)(Q:AV→Store→Prop):Option Nat→Store→Prop:=fun u σ=>OkO (sliceA P σ ov (l.getD 0) u) Q
noncomputable abbrev kSl2(P:Prg)(k:Nat)(sc:Scope)(ρ:Loc)(hi:Option Expr)(ov:AV)(Q:AV→Store→Prop):Option Nat→Store→Prop:=fun l σ=>OptN P k sc ρ σ hi (kSl3 P ov l Q)
noncomputable abbrev kSl1(P:Prg)(k:Nat)(sc:Scope)(ρ:Loc)(lo hi:Option Expr)(Q:AV→Store→Prop):AV→Store→Prop:=fun ov σ=>OptN P k sc ρ σ lo (kSl2 P k sc ρ hi ov Q)
theorem ev_slice{o:Expr}{lo hi:Option Expr}{p p':Pos}(h:Ev P k sc ρ σ o (kSl1 P k sc ρ lo hi Q)):Ev P (k+1) sc ρ σ (.Subscript o (.Slice lo hi none p') p) Q:=
 WO.eq rfl (WO.bind (f:=fun ov σ=>(optNat (run P k) sc ρ lo σ).bd fun l σ=>(optNat (run P k) sc ρ hi σ).bd fun u σ=>sliceA P σ ov (l.getD 0) u) (h.mono fun ov _ h=>
  WO.bind (f:=fun l σ=>(optNat (run P k) sc ρ hi σ).bd fun u σ=>sliceA P σ ov (l.getD 0) u) (h.mono fun l _ h=>WO.bind (f:=fun u σ=>sliceA P σ ov (l.getD 0) u) (h.mono fun _ _ h=>WO.pure h))))
theorem ev_attr{o:Expr}{name:Str}{p:Pos}(hb:baseOk o=true)(h:Ev P k sc ρ σ o (kAttr P name Q)):Ev P (k+1) sc ρ σ (.Attribute o name p) Q:=
 WO.eq rfl (WO.chk hb (WO.bind (f:=fun ov σ=>attrA P ov name σ) (h.mono fun _ _ h=>WO.pure h)))
noncomputable abbrev Chain(P:Prg)(k:Nat)(sc:Scope)(ρ:Loc)(l:AV)(ops:List CmpOp)(es:List Expr)(σ:Store)(Q:AV→Store→Prop):Prop:=WO (chainA (run P k) sc ρ l ops es σ) Q
noncomputable abbrev kCh1(op:CmpOp)(l:AV)(Q:AV→Store→Prop):AV→Store→Prop:=fun v σ=>OfS (cmpA σ op l v) (kBool Q) σ
noncomputable abbrev kChN(P:Prg)(k:Nat)(sc:Scope)(ρ:Loc)(v:AV)(ops:List CmpOp)(es:List Expr)(Q:AV→Store→Prop):Bool→Store→Prop:=fun b σ=>Sel b (Chain P k sc ρ v ops es σ Q) (Q (.bool false) σ)
noncomputable abbrev kChM(P:Prg)(k:Nat)(sc:Scope)(ρ:Loc)(op:CmpOp)(ops:List CmpOp)(es:List Expr)(l:AV)(Q:AV→Store→Prop):AV→Store→Prop:=fun v σ=>OfS (cmpA σ op l v) (kChN P k sc ρ v ops es Q) σ
noncomputable abbrev kCmp(P:Prg)(k:Nat)(sc:Scope)(ρ:Loc)(ops:List CmpOp)(es:List Expr)(Q:AV→Store→Prop):AV→Store→Prop:=fun v σ=>Chain P k sc ρ v ops es σ Q
theorem chain_one{l:AV}{op:CmpOp}{e:Expr}(h:Ev P k sc ρ σ e (kCh1 op l Q)):Chain P k sc ρ l [op] [e] σ Q:=
 WO.bind (f:=fun v σ=>(Mine.ofO (cmpA σ op l v) fun b=> .ok (.bool b) σ:Res AV)) (h.mono fun v σ₁ ⟨b,e,q⟩=>WO.ofO e (WO.ok q))
theorem chain_more{l:AV}{op op2:CmpOp}{e e2:Expr}{ops:List CmpOp}{es:List Expr}(h:Ev P k sc ρ σ e (kChM P k sc ρ op (op2::ops) (e2::es) l Q)):Chain P k sc ρ l (op::op2::ops) (e::e2::es) σ Q:=
 WO.bind (f:=fun v σ=>(Mine.ofO (cmpA σ op l v) fun b=>match b with|true=>chainA (run P k) sc ρ v (op2::ops) (e2::es) σ|false=> .ok (.bool false) σ:Res AV)) (h.mono fun v σ₁ ⟨b,e,q⟩=>WO.ofO e (by
  cases b with
  |true=>exact q
  |false=>exact WO.ok q))
theorem ev_cmp{l:Expr}{ops:List CmpOp}{es:List Expr}{p:Pos}(hs:es.any isSet=false)(h:Ev P k sc ρ σ l (kCmp P k sc ρ ops es Q)):Ev P (k+1) sc ρ σ (.Compare l ops es p) Q:=
 WO.eq rfl (WO.chk (not_t hs) (WO.bind (f:=fun v σ=>chainA (run P k) sc ρ v ops es σ) h))
theorem Ca.up{K n:Nat}{f:Addr}{vs:List AV}(h:n≤K)(g:∀j,Ca P (j+n) f vs σ Q):Ca P K f vs σ Q:=by
 have e:=g (K - n)
 rwa [Nat.sub_add_cancel h]at e
theorem Ca.lift{K c d:Nat}{f:Addr}{vs:List AV}(h:d+c≤K)(g:∀j,Ca P (j+d+c) f vs σ Q):Ca P K f vs σ Q:=Ca.up h fun j=>by rw[←Nat.add_assoc];exact g j
end
end Mine
end
section
namespace Mine
open PySem
section
variable{ε α β:Type}{P:Prg}{sc csc:Scope}{ρ:Loc}{σ:Store}{k:Nat}{Q:AV→Store→Prop}{X:XA→Store→Prop}{B:Bool→Store→Prop}
noncomputable abbrev Ap(P:Prg)(k:Nat)(f:AV)(vs:List AV)(σ:Store)(Q:AV→Store→Prop):Prop:=WO (applyA P (run P k) f vs σ) Q
noncomputable abbrev kNew(n:Nat)(Q:AV→Store→Prop):AV→Store→Prop:=fun v σ=>v= .none∧Q (.ob n) σ
noncomputable abbrev kAp(P:Prg)(k:Nat)(fv:AV)(Q:AV→Store→Prop):List AV→Store→Prop:=fun vs σ=>Ap P k fv vs σ Q
noncomputable abbrev Meth(P:Prg)(k:Nat)(ov:AV)(mk:MK)(vs:List AV)(σ:Store)(Q:AV→Store→Prop):Prop:=WO (methGo (run P k) ov mk vs σ) Q
noncomputable abbrev kGo(P:Prg)(k:Nat)(ov:AV)(mk:MK)(Q:AV→Store→Prop):List AV→Store→Prop:=fun vs σ=>Meth P k ov mk vs σ Q
noncomputable abbrev kMe2(P:Prg)(k:Nat)(sc:Scope)(ρ:Loc)(args:List Expr)(ov:AV)(Q:AV→Store→Prop):MK→Store→Prop:=fun mk σ=>Evs P k sc ρ σ args (kGo P k ov mk Q)
noncomputable abbrev kMe(P:Prg)(k:Nat)(sc:Scope)(ρ:Loc)(name:Str)(args:List Expr)(Q:AV→Store→Prop):AV→Store→Prop:=fun ov σ=>OfS (methB P σ ov name) (kMe2 P k sc ρ args ov Q) σ
theorem ap_bi{id:String}{vs:List AV}(h:OkO (builtinA σ id vs) Q):Ap P k (.fix (.builtin id)) vs σ Q:=WO.pure h
theorem ap_ty{T:String}{vs:List AV}(h:OkO (typeA σ T vs) Q):Ap P k (.fix (.type T)) vs σ Q:=WO.pure h
theorem ap_fn{a:Addr}{vs:List AV}(hc:P.cls a=false)(hf:(P.fn a).isSome=true)(h:Ca P k a vs σ Q):Ap P k (.fix (.ref a)) vs σ Q:=by
 refine ea10 (Option.isSome_iff_exists.mp hf) fun f hf=>?_
 refine WO.eq (o':=(run P k).call a vs σ) ?_ h
 show refA P (run P k) a vs σ=_
 unfold refA
 rw[hc,hf]
 rfl
theorem ap_cls{a i:Addr}{vs:List AV}(hc:P.cls a=true)(hi:P.init a=some i)(h:Ca P k i (.ob σ.length::vs) (σ++[.inst a []]) (kNew σ.length Q)):Ap P k (.fix (.ref a)) vs σ Q:=by
 refine WO.eq (o':=((run P k).call i (.ob σ.length::vs) (σ++[.inst a []])).bd fun v σ₁=>Mine.chk (noneV v) (.ok (.ob σ.length) σ₁:Res AV)) ?_ (WO.bind (f:=fun v σ₁=>Mine.chk (noneV v) (.ok (.ob σ.length) σ₁:Res AV)) (h.mono fun v σ₁ ⟨e,q⟩=>by subst e;exact WO.ok q))
 show refA P (run P k) a vs σ=_
 unfold refA
 rw[hc,hi]
 rfl
theorem methOf_ob{n:Nat}{f:Addr}{u:AV}(h:σ[n]? =some (.meth f u)):methOf σ (.ob n)=some (n,f,u):=by
 show(match σ[n]? with|some o=>_|none=>none)=_
 rw[h]
theorem listOf_ob{n:Nat}{xs:List AV}(h:σ[n]? =some (.list xs)):listOf σ (.ob n)=some (n,xs):=by
 show(match σ[n]? with|some o=>_|none=>none)=_
 rw[h]
theorem dstrOf_ob{n:Nat}{xs:List (Str×AV)}(h:σ[n]? =some (.dstr xs)):dstrOf σ (.ob n)=some (n,xs):=by
 show(match σ[n]? with|some o=>_|none=>none)=_
 rw[h]
theorem dintOf_ob{n:Nat}{xs:List (Int×AV)}(h:σ[n]? =some (.dint xs)):dintOf σ (.ob n)=some (n,xs):=by
 show(match σ[n]? with|some o=>_|none=>none)=_
 rw[h]
theorem instOf_ob{n:Nat}{C:Addr}{xs:List (Str×AV)}(h:σ[n]? =some (.inst C xs)):instOf σ (.ob n)=some (n,C,xs):=by
 show(match σ[n]? with|some o=>_|none=>none)=_
 rw[h]
theorem listNot{n:Nat}{o:AO}(h:σ[n]? =some o)(ho:∀xs,o≠ .list xs):listOf σ (.ob n)=none:=by
 show(match σ[n]? with|some o=>_|none=>none)=_
 rw[h]
 cases o with
 |list xs=>exact absurd rfl (ho xs)
 |_=>rfl
theorem ap_meth{n:Nat}{g:Addr}{self:AV}{vs:List AV}(hm:σ[n]? =some (.meth g self))(hf:(P.fn g).isSome=true)(h:Ca P k g (self::vs) σ Q):Ap P k (.ob n) vs σ Q:=by
 refine ea10 (Option.isSome_iff_exists.mp hf) fun f hf=>?_
 exact WO.ofO (methOf_ob hm) (WO.ofO hf h)
theorem callE_no{sc:Scope}{ρ:Loc}{f:Expr}{args:List Expr}{pos:Pos}(r:Rec)(h0:sortedSet? P sc ρ f args=none)(hs:args.any star? =false):callE P r sc ρ σ f args pos=els (attrV f)
 (fun a=>Mine.chk (baseOk a.1&&(Nat.beq a.2.2.endLine pos.line&&Nat.blt args.length 29)) ((r.ev sc ρ σ a.1).bd fun ov σ=>Mine.ofO (methB P σ ov a.2.1) fun mk=>(evs r sc ρ args σ).bd fun vs σ=>methGo r ov mk vs σ))
 ((r.ev sc ρ σ f).bd fun fv σ=>(evs r sc ρ args σ).bd fun vs σ=>applyA P r fv vs σ):=by
 unfold callE
 rw[h0,hs]
 rfl
theorem ev_callN{x:Str}{p pos:Pos}{args:List Expr}{fv:AV}(h0:sortedSet? P sc ρ (.Name x p) args=none)(hs:args.any star? =false)(hn:nameA P sc ρ x=some fv)(h:Evs P (k+1) sc ρ σ args (kAp P (k+1) fv Q)):Ev P (k+2) sc ρ σ (.Call (.Name x p) args [] pos) Q:=
 WO.eq (o':=((run P (k+1)).ev sc ρ σ (.Name x p)).bd fun fv σ=>(evs (run P (k+1)) sc ρ args σ).bd fun vs σ=>applyA P (run P (k+1)) fv vs σ) (callE_no (pos:=pos) (run P (k+1)) h0 hs) (WO.bind (f:=fun fv σ=>(evs (run P (k+1)) sc ρ args σ).bd fun vs σ=>applyA P (run P (k+1)) fv vs σ) (ev_name hn (WO.bind (f:=fun vs σ=>applyA P (run P (k+1)) fv vs σ) h)))
theorem ev_callM{o:Expr}{name:Str}{apos pos:Pos}{args:List Expr}(hs:args.any star? =false)(hb:(baseOk o&&(Nat.beq apos.endLine pos.line&&Nat.blt args.length 29))=true)
 (h:Ev P k sc ρ σ o (kMe P k sc ρ name args Q)):Ev P (k+1) sc ρ σ (.Call (.Attribute o name apos) args [] pos) Q:=
 WO.eq (o':=Mine.chk (baseOk o&&(Nat.beq apos.endLine pos.line&&Nat.blt args.length 29)) (((run P k).ev sc ρ σ o).bd fun ov σ=>Mine.ofO (methB P σ ov name) fun mk=>(evs (run P k) sc ρ args σ).bd fun vs σ=>methGo (run P k) ov mk vs σ)) (callE_no (pos:=pos) (f:= .Attribute o name apos) (run P k) rfl hs) (WO.chk hb (WO.bind (f:=fun ov σ=>Mine.ofO (methB P σ ov name) fun mk=>(evs (run P k) sc ρ args σ).bd fun vs σ=>methGo (run P k) ov mk vs σ) (h.mono fun ov σ₁ ⟨mk,e,h⟩=>WO.ofO e (WO.bind (f:=fun vs σ=>methGo (run P k) ov mk vs σ) h))))
theorem go_user{o:AV}{f:Addr}{vs:List AV}(h:Ca P k f (o::vs) σ Q):Meth P k o (.user f) vs σ Q:=h
theorem go_pure{o:AV}{mk:MK}{vs:List AV}(hm:∀r,methGo r o mk vs σ=methGo rec0 o mk vs σ)(h:OkO (methGo rec0 o mk vs σ) Q):WO (methGo (run P k) o mk vs σ) Q:=WO.eq (hm _) (WO.pure h)
theorem ev_sorted{x y:Str}{p p2 p3 pos:Pos}{e:Expr}(h0:sortedSet? P sc ρ (.Name x p) [.Call (.Name y p2) [e] [] p3]=some e)
 (h:Ev P k sc ρ σ e fun v σ₁=>∃n xs l ys,v= .ob n∧σ₁[n]? =some (.list xs)∧strs? xs=some l∧sortU l=some ys∧Q (.ob σ₁.length) (σ₁++[.list (ys.map .str)])):Ev P (k+1) sc ρ σ (.Call (.Name x p) [.Call (.Name y p2) [e] [] p3] [] pos) Q:=by
 refine WO.eq (o':=((run P k).ev sc ρ σ e).bd sortA) ?_ (WO.bind (f:=sortA) (h.mono fun v σ₁ ⟨n,xs,l,ys,e1,h1,h2,h3,q⟩=>?_))
 ·show callE P (run P k) sc ρ σ (.Name x p) _ pos=_
  unfold callE
  rw[h0]
  rfl
 ·subst e1
  exact WO.ofO (listOf_ob h1) (WO.ofO h2 (WO.ofO h3 (WO.ok q)))
theorem over_tup{xs:List AV}{f:List AV→Store→Out ε α}{R:α→Store→Prop}(h:WO (f xs σ) R):WO (over (.tup xs) σ f) R:=h
theorem over_list{n:Nat}{xs:List AV}{f:List AV→Store→Out ε α}{R:α→Store→Prop}(hn:σ[n]? =some (.list xs))(h:WO (f xs (σ.set n .frozen)) fun a σ₁=>R a (σ₁.set n (.list xs))):WO (over (.ob n) σ f) R:=by
 refine WO.ofO (f:=fun q=>thaw q.1 q.2 (f q.2 (σ.set q.1 .frozen))) (listOf_ob hn) ?_
 refine ea21 h fun a σ₁ e q=>?_;clear h
 exact⟨a,_,by show thaw n xs (f xs (σ.set n .frozen))=_;rw[e];rfl,q⟩
theorem overX_tup{xs:List AV}{f:List AV→Store→Out ε α}{R:ε→Store→Prop}(h:WX (f xs σ) R):WX (over (.tup xs) σ f) R:=h
theorem overX_list{n:Nat}{xs:List AV}{f:List AV→Store→Out ε α}{R:ε→Store→Prop}(hn:σ[n]? =some (.list xs))(h:WX (f xs (σ.set n .frozen)) fun a σ₁=>R a (σ₁.set n (.list xs))):WX (over (.ob n) σ f) R:=by
 refine WX.ofO (f:=fun q=>thaw q.1 q.2 (f q.2 (σ.set q.1 .frozen))) (listOf_ob hn) ?_
 refine ea21 h fun a σ₁ e q=>?_;clear h
 exact⟨a,_,by show thaw n xs (f xs (σ.set n .frozen))=_;rw[e];rfl,q⟩
noncomputable abbrev Tests(P:Prg)(k:Nat)(sc:Scope)(ρ:Loc)(ifs:List Expr)(σ:Store)(Q:Bool→Store→Prop):Prop:=WO (testsA (run P k) sc ρ ifs σ) Q
noncomputable abbrev kTest(P:Prg)(k:Nat)(sc:Scope)(ρ:Loc)(es:List Expr)(B:Bool→Store→Prop):Bool→Store→Prop:=fun b σ=>Sel b (Tests P k sc ρ es σ B) (B false σ)
theorem tests_nil(h:B true σ):Tests P k sc ρ [] σ B:=WO.ok h
theorem tests_cons{e:Expr}{es:List Expr}(h:Ts P k sc ρ σ e (kTest P k sc ρ es B)):Tests P k sc ρ (e::es) σ B:=
 WO.bind (f:=fun(b:Bool) σ=>match b with|true=>(testsA (run P k) sc ρ es σ:Res Bool)|false=> .ok false σ) (h.mono fun b σ₁ q=>by
  cases b with
  |true=>exact q
  |false=>exact WO.ok q)
noncomputable abbrev Comp(P:Prg)(k:Nat)(sc:Scope)(ρ:Loc)(t:Expr)(ifs:List Expr)(elt:Expr)(xs:List AV)(σ:Store)(Q:List AV→Store→Prop):Prop:=WO (compGo (run P k) sc ρ t ifs elt xs σ) Q
noncomputable abbrev kComp2(P:Prg)(k:Nat)(sc:Scope)(ρ:Loc)(t:Expr)(ifs:List Expr)(elt:Expr)(xs:List AV)(Q:List AV→Store→Prop):AV→Store→Prop:=fun y σ=>Comp P k sc ρ t ifs elt xs σ (kCons y Q)
noncomputable abbrev kComp(P:Prg)(k:Nat)(sc:Scope)(ρ:Loc)(t:Expr)(ifs:List Expr)(elt:Expr)(xs:List AV)(ρ₁:Loc)(Q:List AV→Store→Prop):Bool→Store→Prop:=fun b σ=>Sel b (Ev P k sc ρ₁ σ elt (kComp2 P k sc ρ t ifs elt xs Q)) (Comp P k sc ρ t ifs elt xs σ Q)
theorem comp_nil{t elt:Expr}{ifs:List Expr}{Q:List AV→Store→Prop}(h:Q [] σ):Comp P k sc ρ t ifs elt [] σ Q:=WO.ok h
theorem comp_cons{t elt:Expr}{ifs:List Expr}{x:AV}{xs:List AV}{ρ₁:Loc}{Q:List AV→Store→Prop}(hb:bindA sc t x ρ=some ρ₁)
 (h:Tests P k sc ρ₁ ifs σ (kComp P k sc ρ t ifs elt xs ρ₁ Q)):Comp P k sc ρ t ifs elt (x::xs) σ Q:=
 WO.ofO (f:=fun ρ₁=>(testsA (run P k) sc ρ₁ ifs σ).bd fun b σ=>match b with
  |true=>((run P k).ev sc ρ₁ σ elt).bd fun y σ=>(compGo (run P k) sc ρ t ifs elt xs σ).bd fun ys σ=> .ok (y::ys) σ
  |false=>compGo (run P k) sc ρ t ifs elt xs σ) hb (WO.bind (f:=fun(b:Bool) σ=>match b with
   |true=>(((run P k).ev sc ρ₁ σ elt).bd fun y σ=>(compGo (run P k) sc ρ t ifs elt xs σ).bd fun ys σ=> .ok (y::ys) σ:Res (List AV))
   |false=>compGo (run P k) sc ρ t ifs elt xs σ) (h.mono fun b σ₁ q=>by
  cases b with
  |false=>exact q
  |true=>exact WO.bind (f:=fun y σ=>(compGo (run P k) sc ρ t ifs elt xs σ).bd fun ys σ=> .ok (y::ys) σ) (q.mono fun y σ₂ q=>WO.bind (f:=fun ys σ=> .ok (y::ys) σ) (q.mono fun ys σ₃ q=>WO.ok q))))
noncomputable abbrev Over(P:Prg)(k:Nat)(sc:Scope)(ρ:Loc)(t:Expr)(ifs:List Expr)(elt:Expr)(v:AV)(σ:Store)(Q:List AV→Store→Prop):Prop:=WO (over v σ (compGo (run P k) sc ρ t ifs elt)) Q
noncomputable abbrev kOver(P:Prg)(k:Nat)(csc:Scope)(ρ:Loc)(t:Expr)(ifs:List Expr)(elt:Expr)(Q:AV→Store→Prop):AV→Store→Prop:=fun v σ=>Over P k csc ρ t ifs elt v σ (kList Q)
theorem ev_comp{t elt it:Expr}{ifs:List Expr}{p:Pos}(hok:(compOk sc csc&& !isSet it)=true)(h:Ev P k sc ρ σ it (kOver P k csc (freeOnly csc ρ) t ifs elt Q)):Ev P (k+1) sc ρ σ (.ListComp elt [⟨t,it,ifs,0⟩] csc p) Q:=
 WO.eq rfl (WO.chk hok (WO.bind (f:=fun v σ=>(quiet (over v σ (compGo (run P k) csc (freeOnly csc ρ) t ifs elt))).bd fun ys σ=>mkList ys σ) (h.mono fun v σ₁ h=>WO.bind (f:=fun ys σ=>mkList ys σ) (WO.quiet (h.mono fun ys σ₂ h=>WO.pure h)))))
noncomputable abbrev Pairs(P:Prg)(k:Nat)(sc:Scope)(ρ:Loc)(ks:List (Option Expr))(vs:List Expr)(σ:Store)(Q:List (AV×AV)→Store→Prop):Prop:=WO (evPairs (run P k) sc ρ ks vs σ) Q
noncomputable abbrev kPair3(x y:AV)(Q:List (AV×AV)→Store→Prop):List (AV×AV)→Store→Prop:=fun l σ=>Q ((x,y)::l) σ
noncomputable abbrev kPair2(P:Prg)(k:Nat)(sc:Scope)(ρ:Loc)(ks:List (Option Expr))(vs:List Expr)(x:AV)(Q:List (AV×AV)→Store→Prop):AV→Store→Prop:=fun y σ=>Pairs P k sc ρ ks vs σ (kPair3 x y Q)
noncomputable abbrev kPair(P:Prg)(k:Nat)(sc:Scope)(ρ:Loc)(v:Expr)(ks:List (Option Expr))(vs:List Expr)(Q:List (AV×AV)→Store→Prop):AV→Store→Prop:=fun x σ=>Ev P k sc ρ σ v (kPair2 P k sc ρ ks vs x Q)
noncomputable abbrev kDict(Q:AV→Store→Prop):List (AV×AV)→Store→Prop:=fun l σ=>OkO (dictA l σ) Q
theorem pairs_nil{Q:List (AV×AV)→Store→Prop}(h:Q [] σ):Pairs P k sc ρ [] [] σ Q:=WO.ok h
theorem pairs_cons{a v:Expr}{ks:List (Option Expr)}{vs:List Expr}{Q:List (AV×AV)→Store→Prop}(h:Ev P k sc ρ σ a (kPair P k sc ρ v ks vs Q)):Pairs P k sc ρ (some a::ks) (v::vs) σ Q:=
 WO.bind (f:=fun x σ=>((run P k).ev sc ρ σ v).bd fun y σ=>(evPairs (run P k) sc ρ ks vs σ).bd fun l σ=> .ok ((x,y)::l) σ) (h.mono fun x _ h=>WO.bind (f:=fun y σ=>(evPairs (run P k) sc ρ ks vs σ).bd fun l σ=> .ok ((x,y)::l) σ) (h.mono fun y _ h=>WO.bind (f:=fun l σ=> .ok ((x,y)::l) σ) (h.mono fun l _ h=>WO.ok h)))
theorem ev_dict{ks:List (Option Expr)}{vs:List Expr}{p:Pos}(hk:((Nat.ble ks.length 15&&Nat.blt 0 ks.length)&&(ks.all (·.isSome)&&Nat.beq ks.length vs.length))=true)(h:Pairs P k sc ρ ks vs σ (kDict Q)):Ev P (k+1) sc ρ σ (.Dict ks vs p) Q:=
 WO.eq rfl (WO.chk hk (WO.bind (f:=fun l σ=>dictA l σ) (h.mono fun _ _ h=>WO.pure h)))
noncomputable abbrev BoolW(P:Prg)(k:Nat)(sc:Scope)(ρ:Loc)(op:BoolOp)(es:List Expr)(σ:Store)(Q:AV→Store→Prop):Prop:=WO (boolA (run P k) sc ρ op es σ) Q
noncomputable abbrev kBoolN(P:Prg)(k:Nat)(sc:Scope)(ρ:Loc)(op:BoolOp)(es:List Expr)(Q:AV→Store→Prop):Bool→Store→Prop:=fun b σ=>Sel (goesOn op b) (BoolW P k sc ρ op es σ Q) (Q (.bool b) σ)
theorem bool_one{op:BoolOp}{e:Expr}(h:Ev P k sc ρ σ e Q):BoolW P k sc ρ op [e] σ Q:=h
theorem bool_more{op:BoolOp}{e e2:Expr}{es:List Expr}(h:Ev P k sc ρ σ e (kTo (kBoolN P k sc ρ op (e2::es) Q))):BoolW P k sc ρ op (e::e2::es) σ Q:=
 WO.bind (f:=fun(v:AV) σ=>(Mine.ofO (asBool v) fun b=>match goesOn op b with|true=>boolA (run P k) sc ρ op (e2::es) σ|false=> .ok v σ:Res AV)) (h.mono fun v σ₁ ⟨b,e,q⟩=>by
  subst e
  refine WO.ofO rfl ?_
  change Sel _ _ _ at q
  cases hg:goesOn op b<;>rw[hg]at q
  ·exact WO.ok q
  ·exact q)
theorem ev_bool{op:BoolOp}{es:List Expr}{p:Pos}(h:BoolW P k sc ρ op es σ Q):Ev P (k+1) sc ρ σ (.BoolOp op es p) Q:=WO.eq rfl h
noncomputable abbrev AllW(P:Prg)(k:Nat)(sc:Scope)(ρ:Loc)(op:BoolOp)(es:List Expr)(σ:Store)(Q:Bool→Store→Prop):Prop:=WO (allA (run P k) sc ρ op es σ) Q
noncomputable abbrev kAll(P:Prg)(k:Nat)(sc:Scope)(ρ:Loc)(op:BoolOp)(es:List Expr)(B:Bool→Store→Prop):Bool→Store→Prop:=fun b σ=>Sel (goesOn op b) (AllW P k sc ρ op es σ B) (B b σ)
theorem all_nil{op:BoolOp}(h:B (match op with| .And=>true| .Or=>false) σ):AllW P k sc ρ op [] σ B:=WO.ok h
theorem all_cons{op:BoolOp}{e:Expr}{es:List Expr}(h:Ts P k sc ρ σ e (kAll P k sc ρ op es B)):AllW P k sc ρ op (e::es) σ B:=
 WO.bind (f:=fun(b:Bool) σ=>match goesOn op b with
  |true=>(allA (run P k) sc ρ op es σ:Res Bool)
  |false=> .ok b σ) (h.mono fun b σ₁ q=>by
  change Sel _ _ _ at q
  cases hg:goesOn op b<;>rw[hg]at q
  ·exact WO.ok q
  ·exact q)
theorem ts_bool{op:BoolOp}{es:List Expr}{p:Pos}(h:AllW P k sc ρ op es σ B):Ts P (k+1) sc ρ σ (.BoolOp op es p) B:=WO.eq rfl h
theorem ts_not{e:Expr}{p:Pos}(h:Ts P k sc ρ σ e (kNB B)):Ts P (k+1) sc ρ σ (.UnaryOp .Not e p) B:=
 WO.eq rfl (WO.bind (f:=fun(b:Bool) σ=>(.ok (!b) σ:Res Bool)) (h.mono fun _ _ q=>WO.ok q))
theorem toBool_W{t:Res AV}(h:WO t (kTo B)):WO (toBool t) B:=
 WO.bind (f:=fun(v:AV) σ=>(Mine.ofO (asBool v) fun b=> .ok b σ:Res Bool)) (h.mono fun v σ₁ ⟨b,e,q⟩=>by subst e;exact WO.ok q)
theorem ts_cmp{l:Expr}{ops:List CmpOp}{es:List Expr}{p:Pos}(hs:es.any isSet=false)(h:Ev P k sc ρ σ l (kCmp P k sc ρ ops es (kTo B))):Ts P (k+1) sc ρ σ (.Compare l ops es p) B:=
 WO.eq rfl (WO.chk (not_t hs) (toBool_W (WO.bind (f:=fun v σ=>chainA (run P k) sc ρ v ops es σ) h)))
theorem ts_call{f:Expr}{args:List Expr}{kw:List Keyword}{p:Pos}(h:Ev P k sc ρ σ (.Call f args kw p) (kTo B)):Ts P (k+1) sc ρ σ (.Call f args kw p) B:=WO.eq rfl (toBool_W h)
theorem ts_name{x:Str}{p:Pos}(h:Ev P k sc ρ σ (.Name x p) (kTo B)):Ts P (k+1) sc ρ σ (.Name x p) B:=WO.eq rfl (toBool_W h)
theorem ts_item{o i:Expr}{p:Pos}(h:Ev P k sc ρ σ (.Subscript o i p) (kTo B)):Ts P (k+1) sc ρ σ (.Subscript o i p) B:=WO.eq rfl (toBool_W h)
end
end Mine
end
section
namespace Mine
open PySem
section
variable{ε α β:Type}{P:Prg}{sc csc:Scope}{ρ ρ₁:Loc}{σ:Store}{k:Nat}{R:Fl×Loc→Store→Prop}{X:XA×Loc→Store→Prop}{Y:XA→Store→Prop}
noncomputable abbrev St(P:Prg)(k:Nat)(sc:Scope)(ρ:Loc)(σ:Store)(st:Stmt)(R:Fl×Loc→Store→Prop):Prop:=WO (exStep P (run P k) sc ρ σ st) R
noncomputable abbrev EvX(P:Prg)(k:Nat)(sc:Scope)(ρ:Loc)(σ:Store)(e:Expr)(X:XA→Store→Prop):Prop:=WX ((run P k).ev sc ρ σ e) X
noncomputable abbrev ExX(P:Prg)(k:Nat)(sc:Scope)(ρ:Loc)(σ:Store)(b:List Stmt)(X:XA×Loc→Store→Prop):Prop:=WX ((run P k).ex sc ρ σ b) X
noncomputable abbrev StX(P:Prg)(k:Nat)(sc:Scope)(ρ:Loc)(σ:Store)(st:Stmt)(X:XA×Loc→Store→Prop):Prop:=WX (exStep P (run P k) sc ρ σ st) X
noncomputable abbrev CaX(P:Prg)(k:Nat)(f:Addr)(vs:List AV)(σ:Store)(X:XA→Store→Prop):Prop:=WX ((run P k).call f vs σ) X
noncomputable abbrev EvsX(P:Prg)(k:Nat)(sc:Scope)(ρ:Loc)(σ:Store)(es:List Expr)(X:XA→Store→Prop):Prop:=WX (evs (run P k) sc ρ es σ) X
noncomputable abbrev ApX(P:Prg)(k:Nat)(f:AV)(vs:List AV)(σ:Store)(X:XA→Store→Prop):Prop:=WX (applyA P (run P k) f vs σ) X
noncomputable def Loop(N:Loc→Store→Prop)(R:Fl×Loc→Store→Prop):Fl×Loc→Store→Prop:=fun q σ=>match q.1 with
 | .next=>N q.2 σ
 | .ret v=>R (.ret v,q.2) σ
theorem go_next{N:Loc→Store→Prop}(h:N ρ σ):Loop N R (.next,ρ) σ:=h
theorem go_ret{N:Loc→Store→Prop}{v:AV}(h:R (.ret v,ρ) σ):Loop N R (.ret v,ρ) σ:=h
noncomputable def Then(P:Prg)(k:Nat)(sc:Scope)(rest:List Stmt)(R:Fl×Loc→Store→Prop):Fl×Loc→Store→Prop:=fun q σ=>match q.1 with
 | .next=>Ex P k sc q.2 σ rest R
 | .ret v=>R (.ret v,q.2) σ
theorem then_next{rest:List Stmt}(h:Ex P k sc ρ σ rest R):Then P k sc rest R (.next,ρ) σ:=h
theorem then_ret{rest:List Stmt}{v:AV}(h:R (.ret v,ρ) σ):Then P k sc rest R (.ret v,ρ) σ:=h
theorem ex_nil(h:R (.next,ρ) σ):Ex P (k+1) sc ρ σ [] R:=WO.eq (o':=(.ok (.next,ρ) σ:ResL (Fl×Loc))) (rfl) (WO.ok h)
theorem ex_cons{st:Stmt}{rest:List Stmt}(h:St P k sc ρ σ st (Then P k sc rest R)):Ex P (k+1) sc ρ σ (st::rest) R:=
 WO.eq (o':=(exStep P (run P k) sc ρ σ st).bd fun q σ=>match q.1 with| .next=>(run P k).ex sc q.2 σ rest| .ret v=> .ok (.ret v,q.2) σ) (rfl)
  (WO.bind (f:=fun(q:Fl×Loc) σ=>match q.1 with| .next=>((run P k).ex sc q.2 σ rest:ResL (Fl×Loc))| .ret v=> .ok (.ret v,q.2) σ) (h.mono fun q σ₁ h=>by
    obtain⟨q1,q2⟩:=q
    cases q1 with
    |next=>exact h
    |ret v=>exact WO.ok h))
theorem exX_here{st:Stmt}{rest:List Stmt}(h:StX P k sc ρ σ st X):ExX P (k+1) sc ρ σ (st::rest) X:=
 WX.eq (o':=(exStep P (run P k) sc ρ σ st).bd fun q σ=>match q.1 with| .next=>(run P k).ex sc q.2 σ rest| .ret v=> .ok (.ret v,q.2) σ) (rfl) (WX.left h)
noncomputable abbrev kLat(P:Prg)(k:Nat)(sc:Scope)(rest:List Stmt)(X:XA×Loc→Store→Prop):Fl×Loc→Store→Prop:=fun q σ=>q.1= .next∧ExX P k sc q.2 σ rest X
theorem exX_later{st:Stmt}{rest:List Stmt}(h:St P k sc ρ σ st (kLat P k sc rest X)):ExX P (k+1) sc ρ σ (st::rest) X:=
 WX.eq (o':=(exStep P (run P k) sc ρ σ st).bd fun q σ=>match q.1 with| .next=>(run P k).ex sc q.2 σ rest| .ret v=> .ok (.ret v,q.2) σ) (rfl)
  (WX.bind (f:=fun(q:Fl×Loc) σ=>match q.1 with| .next=>((run P k).ex sc q.2 σ rest:ResL (Fl×Loc))| .ret v=> .ok (.ret v,q.2) σ) (h.mono fun q σ₁ h=>by
    obtain⟨q1,q2⟩:=q
    refine ea01 h fun h1 h2=>?_;clear h
    cases h1
    exact h2))
noncomputable abbrev kSet(x:Str)(ρ:Loc)(R:Fl×Loc→Store→Prop):AV→Store→Prop:=fun a σ=>R (.next,(x,a)::ρ) σ
noncomputable abbrev kNx(R:Fl×Loc→Store→Prop):Loc→Store→Prop:=fun ρ σ=>R (.next,ρ) σ
noncomputable abbrev kUnp(sc:Scope)(t:Expr)(ρ:Loc)(R:Fl×Loc→Store→Prop):AV→Store→Prop:=fun a σ=>OfS (bindA sc t a ρ) (kNx R) σ
noncomputable abbrev kStA2(P:Prg)(ρ:Loc)(name:Str)(a:AV)(R:Fl×Loc→Store→Prop):AV→Store→Prop:=fun ov σ₂=>∃n C attrs,ov= .ob n∧σ₂[n]? =some (.inst C attrs)∧(P.attr C name&&Nat.blt attrs.length 100)=true∧R (.next,ρ) (σ₂.set n (.inst C (putS name a attrs)))
noncomputable abbrev kStA(P:Prg)(k:Nat)(sc:Scope)(ρ:Loc)(o:Expr)(name:Str)(R:Fl×Loc→Store→Prop):AV→Store→Prop:=fun a σ=>Ev P k sc ρ σ o (kStA2 P ρ name a R)
noncomputable abbrev kEx(ρ:Loc)(R:Fl×Loc→Store→Prop):AV→Store→Prop:=fun v σ=>v= .none∧R (.next,ρ) σ
noncomputable abbrev kIfS(P:Prg)(k:Nat)(sc:Scope)(ρ:Loc)(a b:List Stmt)(R:Fl×Loc→Store→Prop):Bool→Store→Prop:=fun c σ=>Sel c (Ex P k sc ρ σ a R) (Ex P k sc ρ σ b R)
noncomputable abbrev kRetS(ρ:Loc)(R:Fl×Loc→Store→Prop):AV→Store→Prop:=fun v σ=>R (.ret v,ρ) σ
theorem assign_eq{t v:Expr}{p:Pos}(hc:compParts v=none)(ho:assignOk sc t v=true)(r:Rec):exStep P r sc ρ σ (.Assign [t] v p)=((r.ev sc ρ σ v).at ρ).bd fun v σ=>storeA P r sc ρ t v σ:=by
 show assignA P r sc ρ σ t v=_
 unfold assignA
 rw[hc,ho]
 rfl
theorem st_name{x:Str}{p p':Pos}{v:Expr}(hc:compParts v=none)(ho:assignOk sc (.Name x p') v=true)(hl:localIn sc x=true)(h:Ev P k sc ρ σ v (kSet x ρ R)):St P k sc ρ σ (.Assign [.Name x p'] v p) R:=by
 refine WO.eq (assign_eq hc ho _) (WO.bind (f:=fun v σ=>storeA P (run P k) sc ρ (.Name x p') v σ) (WO.at (h.mono fun a σ₁ q=>?_)))
 refine WO.ofO (o:=bindA sc (.Name x p') a ρ) (f:=fun ρ₁=>(.ok (.next,ρ₁) σ₁:ResL (Fl×Loc))) ?_ (WO.ok q)
 show(match localIn sc x with|true=>some ((x,a)::ρ)|false=>none)=_
 rw[hl]
theorem st_tuple{ts:List Expr}{n:Nat}{p p':Pos}{v:Expr}(hc:compParts v=none)(ho:assignOk sc (.Tuple ts n p') v=true)(h:Ev P k sc ρ σ v (kUnp sc (.Tuple ts n p') ρ R)):St P k sc ρ σ (.Assign [.Tuple ts n p'] v p) R:=
 WO.eq (assign_eq hc ho _) (WO.bind (f:=fun v σ=>storeA P (run P k) sc ρ (.Tuple ts n p') v σ) (WO.at (h.mono fun a σ₁ ⟨ρ₁,e,q⟩=>
  WO.ofO (o:=bindA sc (.Tuple ts n p') a ρ) (f:=fun ρ₁=>(.ok (.next,ρ₁) σ₁:ResL (Fl×Loc))) e (WO.ok q))))
theorem st_attr{o v:Expr}{name:Str}{p p':Pos}(hc:compParts v=none)(ho:assignOk sc (.Attribute o name p') v=true)(h:Ev P k sc ρ σ v (kStA P k sc ρ o name R)):
 St P k sc ρ σ (.Assign [.Attribute o name p'] v p) R:=by
 refine WO.eq (assign_eq hc ho _) (WO.bind (f:=fun v σ=>storeA P (run P k) sc ρ (.Attribute o name p') v σ) (WO.at (h.mono fun a σ₁ h=>?_)))
 refine WO.bind (f:=fun ov σ=>Mine.ofO (instOf σ ov) fun q=>Mine.chk (P.attr q.2.1 name&&Nat.blt q.2.2.length 100) (.ok (.next,ρ) (σ.set q.1 (.inst q.2.1 (putS name a q.2.2))):ResL (Fl×Loc))) (WO.at (h.mono fun ov σ₂ h=>?_))
 refine ea33 h fun n C attrs e1 e2 e3 q=>?_;clear h
 subst e1
 exact WO.ofO (instOf_ob e2) (WO.chk e3 (WO.ok q))
theorem st_sub{o i v:Expr}{p p':Pos}(hc:compParts v=none)(ho:assignOk sc (.Subscript o i p') v=true)(h:Ev P k sc ρ σ v fun a σ₁=>Ev P k sc ρ σ₁ o fun ov σ₂=>Ev P k sc ρ σ₂ i fun iv σ₃=>∃n kvs x,ov= .ob n∧iv= .str x∧σ₃[n]? =some (.dstr kvs)∧Nat.ble kvs.length 1000=true∧R (.next,ρ) (σ₃.set n (.dstr (putS x a kvs)))):
 St P k sc ρ σ (.Assign [.Subscript o i p'] v p) R:=by
 refine WO.eq (assign_eq hc ho _) (WO.bind (f:=fun v σ=>storeA P (run P k) sc ρ (.Subscript o i p') v σ) (WO.at (h.mono fun a σ₁ h=>?_)))
 refine WO.bind (f:=fun ov σ=>(((run P k).ev sc ρ σ i).at ρ).bd fun iv σ=>Mine.ofO (dstrOf σ ov) fun q=>Mine.ofO (asStr iv) fun k=>Mine.chk (Nat.ble q.2.length 1000) (.ok (.next,ρ) (σ.set q.1 (.dstr (putS k a q.2))):ResL (Fl×Loc))) (WO.at (h.mono fun ov σ₂ h=>?_))
 refine WO.bind (f:=fun iv σ=>Mine.ofO (dstrOf σ ov) fun q=>Mine.ofO (asStr iv) fun k=>Mine.chk (Nat.ble q.2.length 1000) (.ok (.next,ρ) (σ.set q.1 (.dstr (putS k a q.2))):ResL (Fl×Loc))) (WO.at (h.mono fun iv σ₃ h=>?_))
 refine ea34 h fun n kvs x e1 e2 e3 e4 q=>?_;clear h
 subst e1 e2
 exact WO.ofO (dstrOf_ob e3) (WO.ofO rfl (WO.chk e4 (WO.ok q)))
theorem st_comp{x:Str}{p p':Pos}{v:Expr}{c:CompE}(hc:compParts v=some c)(ho:((compOk sc c.csc&& !isSet c.it)&&compSwap sc c.csc x p' c.pos)=true)(h:Ev P k sc ρ σ c.it (kOver P k c.csc (freeOnly c.csc ρ) c.t c.ifs c.elt (kSet x ρ R))):
 St P k sc ρ σ (.Assign [.Name x p'] v p) R:=by
 refine WO.eq (o':=(Out.at (((run P k).ev sc ρ σ c.it).bd fun v σ=>(quiet (over v σ (compGo (run P k) c.csc (freeOnly c.csc ρ) c.t c.ifs c.elt))).bd fun ys σ=>mkList ys σ) ρ).bd fun v σ=> .ok (.next,(x,v)::ρ) σ) ?_ ?_
 ·show assignA P (run P k) sc ρ σ (.Name x p') v=_
  unfold assignA
  rw[hc]
  show Mine.chk ((compOk sc c.csc&& !isSet c.it)&&compSwap sc c.csc x p' c.pos) _=_
  rw[ho]
  rfl
 ·exact WO.bind (f:=fun v σ=>(.ok (Fl.next,(x,v)::ρ) σ:ResL (Fl×Loc))) (WO.at (WO.bind (f:=fun v σ=>(quiet (over v σ (compGo (run P k) c.csc (freeOnly c.csc ρ) c.t c.ifs c.elt))).bd fun ys σ=>mkList ys σ) (h.mono fun v σ₁ h=>WO.bind (f:=fun ys σ=>mkList ys σ) (WO.quiet (h.mono fun ys σ₂ h=>WO.pure (let ⟨a,σ',e,q⟩:=h;⟨a,σ',e,WO.ok q⟩))))))
theorem st_expr{e:Expr}{p:Pos}(hp:plainV e=true)(h:Ev P k sc ρ σ e (kEx ρ R)):St P k sc ρ σ (.Expr e p) R:=
 WO.chk hp (WO.bind (o:=((run P k).ev sc ρ σ e).at ρ) (f:=fun v σ=>Mine.chk (noneV v) (.ok (.next,ρ) σ:ResL (Fl×Loc))) (WO.at (h.mono fun v σ₁ ⟨e,q⟩=>by subst e;exact WO.ok q)))
theorem st_if{t:Expr}{a b:List Stmt}{p:Pos}(h:Ts P k sc ρ σ t (kIfS P k sc ρ a b R)):St P k sc ρ σ (.If t a b p) R:=
 WO.bind (o:=((run P k).ts sc ρ σ t).at ρ) (f:=fun(c:Bool) σ=>match c with|true=>((run P k).ex sc ρ σ a:ResL (Fl×Loc))|false=>(run P k).ex sc ρ σ b) (WO.at (h.mono fun c σ₁ h=>by cases c<;>exact h))
theorem st_return{e:Expr}{p:Pos}(h:Ev P k sc ρ σ e (kRetS ρ R)):St P k sc ρ σ (.Return (some e) p) R:=
 WO.bind (o:=((run P k).ev sc ρ σ e).at ρ) (f:=fun v σ=>(.ok (.ret v,ρ) σ:ResL (Fl×Loc))) (WO.at (h.mono fun v σ₁ q=>WO.ok q))
noncomputable abbrev For(P:Prg)(k:Nat)(sc:Scope)(t:Expr)(body:List Stmt)(ρ:Loc)(xs:List AV)(σ:Store)(R:Fl×Loc→Store→Prop):Prop:=WO (forGo (run P k) sc t body ρ xs σ) R
noncomputable abbrev kForN(P:Prg)(k:Nat)(sc:Scope)(t:Expr)(body:List Stmt)(xs:List AV)(R:Fl×Loc→Store→Prop):Loc→Store→Prop:=fun ρ σ=>For P k sc t body ρ xs σ R
noncomputable abbrev OverF(P:Prg)(k:Nat)(sc:Scope)(t:Expr)(body:List Stmt)(ρ:Loc)(v:AV)(σ:Store)(R:Fl×Loc→Store→Prop):Prop:=WO (over v σ (forGo (run P k) sc t body ρ)) R
noncomputable abbrev OverE(P:Prg)(k:Nat)(sc:Scope)(t:Expr)(body:List Stmt)(ρ:Loc)(v:AV)(σ:Store)(R:Fl×Loc→Store→Prop):Prop:=WO (over v σ fun xs σ=>forGo (run P k) sc t body ρ (enumL 0 xs) σ) R
noncomputable abbrev kOvF(P:Prg)(k:Nat)(sc:Scope)(t:Expr)(body:List Stmt)(ρ:Loc)(R:Fl×Loc→Store→Prop):AV→Store→Prop:=fun v σ=>OverF P k sc t body ρ v σ R
noncomputable abbrev kOvE(P:Prg)(k:Nat)(sc:Scope)(t:Expr)(body:List Stmt)(ρ:Loc)(R:Fl×Loc→Store→Prop):AV→Store→Prop:=fun v σ=>OverE P k sc t body ρ v σ R
noncomputable abbrev kRng(P:Prg)(k:Nat)(sc:Scope)(t:Expr)(body:List Stmt)(ρ:Loc)(R:Fl×Loc→Store→Prop):AV→Store→Prop:=fun v σ=>∃n,natOf v=some n∧Nat.ble n 1000=true∧For P k sc t body ρ (rangeL 0 n) σ R
theorem for_nil{t:Expr}{body:List Stmt}(h:R (.next,ρ) σ):For P k sc t body ρ [] σ R:=WO.ok h
theorem for_cons{t:Expr}{body:List Stmt}{x:AV}{xs:List AV}(hb:bindA sc t x ρ=some ρ₁)(h:Ex P k sc ρ₁ σ body (Loop (kForN P k sc t body xs R) R)):For P k sc t body ρ (x::xs) σ R:=by
 refine WO.ofO (f:=fun ρ₁=>((run P k).ex sc ρ₁ σ body).bd fun q σ=>match q.1 with| .next=>forGo (run P k) sc t body q.2 xs σ| .ret v=> .ok (.ret v,q.2) σ) hb (WO.bind (f:=fun(q:Fl×Loc) σ=>match q.1 with| .next=>(forGo (run P k) sc t body q.2 xs σ:ResL (Fl×Loc))| .ret v=> .ok (.ret v,q.2) σ) (h.mono fun q σ₁ h=>?_))
 obtain⟨q1,q2⟩:=q
 cases q1 with
 |next=>exact h
 |ret v=>exact WO.ok h
theorem for_eq{t it:Expr}{body:List Stmt}{p:Pos}(hs:isSet it=false)(r:Rec):exStep P r sc ρ σ (.For t it body [] p)=forBy P r sc ρ σ t body (iterK P sc ρ it):=by
 show Mine.chk (true&& !isSet it) _=_
 rw[hs]
 rfl
theorem st_for{t it e:Expr}{body:List Stmt}{p:Pos}(hs:isSet it=false)(hi:iterK P sc ρ it= .plain e)(h:Ev P k sc ρ σ e (kOvF P k sc t body ρ R)):St P k sc ρ σ (.For t it body [] p) R:=by
 refine WO.eq (o':=(((run P k).ev sc ρ σ e).at ρ).bd fun v σ=>over v σ (forGo (run P k) sc t body ρ)) ?_ (WO.bind (f:=fun v σ=>over v σ (forGo (run P k) sc t body ρ)) (WO.at h))
 rw[for_eq hs,hi]
 rfl
theorem st_enum{it e:Expr}{ts:List Expr}{n:Nat}{tp:Pos}{body:List Stmt}{p:Pos}(hs:isSet it=false)(hi:iterK P sc ρ it= .enum e)(h:Ev P k sc ρ σ e (kOvE P k sc (.Tuple ts n tp) body ρ R)):St P k sc ρ σ (.For (.Tuple ts n tp) it body [] p) R:=by
 refine WO.eq (o':=(((run P k).ev sc ρ σ e).at ρ).bd fun v σ=>over v σ fun xs σ=>forGo (run P k) sc (.Tuple ts n tp) body ρ (enumL 0 xs) σ) ?_ (WO.bind (f:=fun v σ=>over v σ fun xs σ=>forGo (run P k) sc (.Tuple ts n tp) body ρ (enumL 0 xs) σ) (WO.at h))
 rw[for_eq hs,hi]
 rfl
theorem st_range{t it e:Expr}{body:List Stmt}{p:Pos}(hs:isSet it=false)(hi:iterK P sc ρ it= .rng e)(h:Ev P k sc ρ σ e (kRng P k sc t body ρ R)):St P k sc ρ σ (.For t it body [] p) R:=by
 refine WO.eq (o':=(((run P k).ev sc ρ σ e).at ρ).bd fun v σ=>Mine.ofO (natOf v) fun n=>Mine.chk (Nat.ble n 1000) (forGo (run P k) sc t body ρ (rangeL 0 n) σ)) ?_ (WO.bind (f:=fun v σ=>Mine.ofO (natOf v) fun n=>Mine.chk (Nat.ble n 1000) (forGo (run P k) sc t body ρ (rangeL 0 n) σ)) (WO.at (h.mono fun v σ₁ ⟨n,e1,e2,h⟩=>WO.ofO e1 (WO.chk e2 h))))
 rw[for_eq hs,hi]
 rfl
noncomputable abbrev While(P:Prg)(k:Nat)(sc:Scope)(t:Expr)(body:List Stmt)(n:Nat)(ρ:Loc)(σ:Store)(R:Fl×Loc→Store→Prop):Prop:=WO (whileGo (run P k) sc t body n ρ σ) R
noncomputable abbrev kWhN(P:Prg)(k:Nat)(sc:Scope)(t:Expr)(body:List Stmt)(n:Nat)(R:Fl×Loc→Store→Prop):Loc→Store→Prop:=fun ρ σ=>While P k sc t body n ρ σ R
noncomputable abbrev kWh(P:Prg)(k:Nat)(sc:Scope)(ρ:Loc)(body:List Stmt)(N:Loc→Store→Prop)(R:Fl×Loc→Store→Prop):Bool→Store→Prop:=fun b σ=>Sel b (Ex P k sc ρ σ body (Loop N R)) (R (.next,ρ) σ)
theorem while_go{t:Expr}{body:List Stmt}{n:Nat}(h:Ts P k sc ρ σ t (kWh P k sc ρ body (kWhN P k sc t body n R) R)):While P k sc t body (n+1) ρ σ R:=
 WO.bind (o:=((run P k).ts sc ρ σ t).at ρ) (f:=fun(b:Bool) σ=>match b with
  |false=>(.ok (.next,ρ) σ:ResL (Fl×Loc))
  |true=>((run P k).ex sc ρ σ body).bd fun q σ=>match q.1 with
   | .next=>whileGo (run P k) sc t body n q.2 σ
   | .ret v=> .ok (.ret v,q.2) σ) (WO.at (h.mono fun b σ₁ h=>by
  cases b with
  |false=>exact WO.ok h
  |true=>exact WO.bind (f:=fun(q:Fl×Loc) σ=>match q.1 with
   | .next=>(whileGo (run P k) sc t body n q.2 σ:ResL (Fl×Loc))
   | .ret v=> .ok (.ret v,q.2) σ) (h.mono fun q σ₂ h=>by
     obtain⟨q1,q2⟩:=q
     cases q1 with
     |next=>exact h
     |ret v=>exact WO.ok h)))
theorem st_while{t:Expr}{body:List Stmt}{p:Pos}(h:While P k sc t body turns ρ σ R):St P k sc ρ σ (.While t body [] p) R:=WO.quiet h
end
end Mine
end
section
namespace Mine
open PySem
noncomputable def retOf:Fl→AV
 | .next=> .none
 | .ret v=>v
noncomputable abbrev plOf:XA→AV:=excPl
noncomputable def Keep(σ σ':Store):Prop:=∀(j:Nat) (x:AO),σ[j]? =some x→σ'[j]? =some x
theorem Keep.refl(σ:Store):Keep σ σ:=fun _ _ h=>h
theorem Keep.trans{σ σ' σ'':Store}(a:Keep σ σ')(b:Keep σ' σ''):Keep σ σ'':=fun j x h=>b j x (a j x h)
theorem Keep.push(σ:Store)(o:AO):Keep σ (σ++[o]):=fun j x h=>by
 obtain⟨hl,_⟩:=List.getElem?_eq_some_iff.mp h
 rw[List.getElem?_append_left hl];exact h
theorem get_new(σ:Store)(o:AO):(σ++[o])[σ.length]? =some o:=by
 rw[List.getElem?_append_right (Nat.le_refl _)];simp
theorem Keep.len{σ σ':Store}(a:Keep σ σ'):σ.length≤σ'.length:=by
 refine Nat.le_of_not_lt fun hl=>?_
 have e:=a _ _ (List.getElem?_eq_getElem hl)
 rw[List.getElem?_eq_none (Nat.le_refl _)]at e
 cases e
theorem trunc_cases(n:Nat)(v:AV)(σ:Store):trunc n v σ=σ∨(v.closed n=true∧trunc n v σ=σ.take n):=by
 unfold trunc
 cases h:v.closed n&&(σ.take n).all (AO.closed n)with
 |false=>exact .inl rfl
 |true=>exact .inr ⟨(Bool.and_eq_true_iff.mp h).1,rfl⟩
theorem Keep.trunc{σ σ₁:Store}{v:AV}(a:Keep σ σ₁):Keep σ (trunc σ.length v σ₁):=fun j x h=>by
 obtain⟨hl,_⟩:=List.getElem?_eq_some_iff.mp h
 rcases trunc_cases σ.length v σ₁ with e|⟨_,e⟩<;>rw[e]
 ·exact a j x h
 ·rw[List.getElem?_take_of_lt hl];exact a j x h
theorem trunc_ob{n i:Nat}{σ₁:Store}:(trunc n (.ob i) σ₁)[i]? =σ₁[i]? :=by
 rcases trunc_cases n (.ob i) σ₁ with e|⟨h,e⟩<;>rw[e]
 rw[List.getElem?_take_of_lt (Nat.le_of_ble_eq_true h)]
theorem trunc_get{n j:Nat}{v:AV}{σ₁:Store}(h:j<n):(trunc n v σ₁)[j]? =σ₁[j]? :=by
 rcases trunc_cases n v σ₁ with e|⟨_,e⟩<;>rw[e]
 rw[List.getElem?_take_of_lt h]
section
variable{ε α β:Type}{P:Prg}{sc csc:Scope}{ρ ρ₁:Loc}{σ:Store}{k:Nat}{Q:AV→Store→Prop}{R:Fl×Loc→Store→Prop}{X:XA×Loc→Store→Prop}{Y:XA→Store→Prop}
noncomputable abbrev kRet(n:Nat)(Q:AV→Store→Prop):Fl×Loc→Store→Prop:=fun q σ=>Q (retOf q.1) (trunc n (retOf q.1) σ)
noncomputable abbrev kRetX(n:Nat)(Y:XA→Store→Prop):XA×Loc→Store→Prop:=fun x σ=>Y x.1 (trunc n (plOf x.1) σ)
noncomputable abbrev kEvsX(P:Prg)(k:Nat)(sc:Scope)(ρ:Loc)(es:List Expr)(Y:XA→Store→Prop):AV→Store→Prop:=fun _ σ=>EvsX P k sc ρ σ es Y
noncomputable abbrev kApX(P:Prg)(k:Nat)(fv:AV)(Y:XA→Store→Prop):List AV→Store→Prop:=fun vs σ=>ApX P k fv vs σ Y
noncomputable abbrev kAtX(ρ:Loc)(X:XA×Loc→Store→Prop):XA→Store→Prop:=fun x σ=>X (x,ρ) σ
noncomputable abbrev kIfX(P:Prg)(k:Nat)(sc:Scope)(ρ:Loc)(a b:List Stmt)(X:XA×Loc→Store→Prop):Bool→Store→Prop:=fun c σ=>Sel c (ExX P k sc ρ σ a X) (ExX P k sc ρ σ b X)
theorem ca{a:Addr}{vs:List AV}{fd:Fn}(hf:P.fn a=some fd)(hz:zipP fd.params vs=some ρ)(h:Ex P k fd.scope ρ σ fd.body (kRet σ.length Q)):Ca P (k+1) a vs σ Q:=by
 refine WO.eq (o':=callStep P (run P k) a vs σ) (rfl) ?_
 unfold callStep
 refine WO.ofO hf (WO.ofO hz ?_)
 refine ea21 h fun q σ₁ e hq=>?_;clear h
 refine⟨_,_,?_,hq⟩
 show outOf σ.length ((run P k).ex fd.scope ρ σ fd.body)=_
 rw[show(run P k).ex fd.scope ρ σ fd.body= .ok q σ₁ from e]
 obtain⟨q1,q2⟩:=q
 cases q1<;>rfl
theorem caX{a:Addr}{vs:List AV}{fd:Fn}(hf:P.fn a=some fd)(hz:zipP fd.params vs=some ρ)(h:ExX P k fd.scope ρ σ fd.body (kRetX σ.length Y)):CaX P (k+1) a vs σ Y:=by
 refine WX.eq (o':=callStep P (run P k) a vs σ) (rfl) ?_
 unfold callStep
 refine WX.ofO hf (WX.ofO hz ?_)
 refine ea21 h fun q σ₁ e hq=>?_;clear h
 refine⟨_,_,?_,hq⟩
 show outOf σ.length ((run P k).ex fd.scope ρ σ fd.body)=_
 rw[show(run P k).ex fd.scope ρ σ fd.body= .exc q σ₁ from e]
 rfl
theorem ca'{a:Addr}{vs:List AV}{ps:List Str}{body:List Stmt}{fsc:Scope}(hf:P.fn a=some ⟨ps,body,fsc⟩)(hz:zipP ps vs=some ρ)(h:Ex P k fsc ρ σ body (kRet σ.length Q)):Ca P (k+1) a vs σ Q:=ca hf hz h
theorem caX'{a:Addr}{vs:List AV}{ps:List Str}{body:List Stmt}{fsc:Scope}(hf:P.fn a=some ⟨ps,body,fsc⟩)(hz:zipP ps vs=some ρ)(h:ExX P k fsc ρ σ body (kRetX σ.length Y)):CaX P (k+1) a vs σ Y:=caX hf hz h
theorem apX_fn{a:Addr}{vs:List AV}(hc:P.cls a=false)(hf:(P.fn a).isSome=true)(h:CaX P k a vs σ Y):ApX P k (.fix (.ref a)) vs σ Y:=by
 refine ea10 (Option.isSome_iff_exists.mp hf) fun f hf=>?_
 refine WX.eq (o':=(run P k).call a vs σ) ?_ h
 show refA P (run P k) a vs σ=_
 unfold refA
 rw[hc,hf]
 rfl
theorem apX_meth{n:Nat}{g:Addr}{self:AV}{vs:List AV}(hm:σ[n]? =some (.meth g self))(hf:(P.fn g).isSome=true)(h:CaX P k g (self::vs) σ Y):ApX P k (.ob n) vs σ Y:=by
 refine ea10 (Option.isSome_iff_exists.mp hf) fun f hf=>?_
 exact WX.ofO (methOf_ob hm) (WX.ofO hf h)
theorem evsX_here{e:Expr}{es:List Expr}(h:EvX P k sc ρ σ e Y):EvsX P k sc ρ σ (e::es) Y:=WX.left (f:=fun v σ=>(evs (run P k) sc ρ es σ).bd fun vs σ=> .ok (v::vs) σ) h
theorem evsX_later{e:Expr}{es:List Expr}(h:Ev P k sc ρ σ e (kEvsX P k sc ρ es Y)):EvsX P k sc ρ σ (e::es) Y:=
 WX.bind (f:=fun v σ=>(evs (run P k) sc ρ es σ).bd fun vs σ=> .ok (v::vs) σ) (h.mono fun v σ₁ h=>WX.left (f:=fun vs σ=> .ok (v::vs) σ) h)
theorem callN_eq{x:Str}{p pos:Pos}{args:List Expr}(h0:sortedSet? P sc ρ (.Name x p) args=none)(hs:args.any star? =false)(m:Nat):(run P (m+1)).ev sc ρ σ (.Call (.Name x p) args [] pos)=((run P m).ev sc ρ σ (.Name x p)).bd fun fv σ=>(evs (run P m) sc ρ args σ).bd fun vs σ=>applyA P (run P m) fv vs σ:=callE_no (pos:=pos) (run P m) h0 hs
theorem evX_callN{x:Str}{p pos:Pos}{args:List Expr}{fv:AV}(h0:sortedSet? P sc ρ (.Name x p) args=none)(hs:args.any star? =false)(hn:nameA P sc ρ x=some fv)(h:Evs P (k+1) sc ρ σ args (kApX P (k+1) fv Y)):EvX P (k+2) sc ρ σ (.Call (.Name x p) args [] pos) Y:=
 WX.eq (callN_eq h0 hs (k+1)) (WX.bind (f:=fun fv σ=>(evs (run P (k+1)) sc ρ args σ).bd fun vs σ=>applyA P (run P (k+1)) fv vs σ) (ev_name hn (WX.bind (f:=fun vs σ=>applyA P (run P (k+1)) fv vs σ) h)))
theorem evX_callN_args{x:Str}{p pos:Pos}{args:List Expr}{fv:AV}(h0:sortedSet? P sc ρ (.Name x p) args=none)(hs:args.any star? =false)(hn:nameA P sc ρ x=some fv)(h:EvsX P (k+1) sc ρ σ args Y):EvX P (k+2) sc ρ σ (.Call (.Name x p) args [] pos) Y:=
 WX.eq (callN_eq h0 hs (k+1)) (WX.bind (f:=fun fv σ=>(evs (run P (k+1)) sc ρ args σ).bd fun vs σ=>applyA P (run P (k+1)) fv vs σ) (ev_name hn (WX.left (f:=fun vs σ=>applyA P (run P (k+1)) fv vs σ) h)))
theorem callM_eq{o:Expr}{name:Str}{apos pos:Pos}{args:List Expr}(hs:args.any star? =false)(m:Nat):
 (run P (m+1)).ev sc ρ σ (.Call (.Attribute o name apos) args [] pos)=Mine.chk (baseOk o&&(Nat.beq apos.endLine pos.line&&Nat.blt args.length 29)) (((run P m).ev sc ρ σ o).bd fun ov σ=>Mine.ofO (methB P σ ov name) fun mk=>(evs (run P m) sc ρ args σ).bd fun vs σ=>methGo (run P m) ov mk vs σ):=callE_no (pos:=pos) (f:= .Attribute o name apos) (run P m) rfl hs
theorem evX_callM{o:Expr}{name:Str}{apos pos:Pos}{args:List Expr}(hs:args.any star? =false)(hb:(baseOk o&&(Nat.beq apos.endLine pos.line&&Nat.blt args.length 29))=true)
 (h:Ev P k sc ρ σ o fun ov σ₁=>∃f,methB P σ₁ ov name=some (.user f)∧Evs P k sc ρ σ₁ args fun vs σ₂=>CaX P k f (ov::vs) σ₂ Y):EvX P (k+1) sc ρ σ (.Call (.Attribute o name apos) args [] pos) Y:=
 WX.eq (callM_eq hs k) (WX.chk hb (WX.bind (f:=fun ov σ=>Mine.ofO (methB P σ ov name) fun mk=>(evs (run P k) sc ρ args σ).bd fun vs σ=>methGo (run P k) ov mk vs σ) (h.mono fun ov σ₁ ⟨f,e,h⟩=>WX.ofO e (WX.bind (f:=fun vs σ=>methGo (run P k) ov (.user f) vs σ) h))))
theorem evX_callM_args{o:Expr}{name:Str}{apos pos:Pos}{args:List Expr}(hs:args.any star? =false)(hb:(baseOk o&&(Nat.beq apos.endLine pos.line&&Nat.blt args.length 29))=true)
 (h:Ev P k sc ρ σ o fun ov σ₁=>∃mk,methB P σ₁ ov name=some mk∧EvsX P k sc ρ σ₁ args Y):EvX P (k+1) sc ρ σ (.Call (.Attribute o name apos) args [] pos) Y:=
 WX.eq (callM_eq hs k) (WX.chk hb (WX.bind (f:=fun ov σ=>Mine.ofO (methB P σ ov name) fun mk=>(evs (run P k) sc ρ args σ).bd fun vs σ=>methGo (run P k) ov mk vs σ) (h.mono fun ov σ₁ ⟨mk,e,h⟩=>WX.ofO e (WX.left (f:=fun vs σ=>methGo (run P k) ov mk vs σ) h))))
theorem stX_assign{t v:Expr}{p:Pos}(hc:compParts v=none)(ho:assignOk sc t v=true)(h:EvX P k sc ρ σ v (kAtX ρ X)):StX P k sc ρ σ (.Assign [t] v p) X:=
 WX.eq (assign_eq hc ho _) (WX.left (f:=fun v σ=>storeA P (run P k) sc ρ t v σ) (WX.at h))
theorem stX_expr{e:Expr}{p:Pos}(hp:plainV e=true)(h:EvX P k sc ρ σ e (kAtX ρ X)):StX P k sc ρ σ (.Expr e p) X:=
 WX.chk hp (WX.left (o:=((run P k).ev sc ρ σ e).at ρ) (f:=fun v σ=>Mine.chk (noneV v) (.ok (.next,ρ) σ:ResL (Fl×Loc))) (WX.at h))
theorem stX_return{e:Expr}{p:Pos}(h:EvX P k sc ρ σ e (kAtX ρ X)):StX P k sc ρ σ (.Return (some e) p) X:=
 WX.left (o:=((run P k).ev sc ρ σ e).at ρ) (f:=fun v σ=>(.ok (.ret v,ρ) σ:ResL (Fl×Loc))) (WX.at h)
theorem stX_if{t:Expr}{a b:List Stmt}{p:Pos}(h:Ts P k sc ρ σ t (kIfX P k sc ρ a b X)):StX P k sc ρ σ (.If t a b p) X:=
 WX.bind (o:=((run P k).ts sc ρ σ t).at ρ) (f:=fun(c:Bool) σ=>match c with|true=>((run P k).ex sc ρ σ a:ResL (Fl×Loc))|false=>(run P k).ex sc ρ σ b) (WO.at (h.mono fun c σ₁ h=>by cases c<;>exact h))
noncomputable abbrev ForX(P:Prg)(k:Nat)(sc:Scope)(t:Expr)(body:List Stmt)(ρ:Loc)(xs:List AV)(σ:Store)(X:XA×Loc→Store→Prop):Prop:=WX (forGo (run P k) sc t body ρ xs σ) X
theorem for_step{t:Expr}{body:List Stmt}{x:AV}{xs:List AV}(hb:bindA sc t x ρ=some ρ₁)(r:Rec):forGo r sc t body ρ (x::xs) σ=(r.ex sc ρ₁ σ body).bd fun q σ=>match q.1 with| .next=>forGo r sc t body q.2 xs σ| .ret v=> .ok (.ret v,q.2) σ:=by
 show Mine.ofO (bindA sc t x ρ) _=_
 rw[hb]
 rfl
theorem forX_here{t:Expr}{body:List Stmt}{x:AV}{xs:List AV}(hb:bindA sc t x ρ=some ρ₁)(h:ExX P k sc ρ₁ σ body X):ForX P k sc t body ρ (x::xs) σ X:=
 WX.eq (for_step hb _) (WX.left (f:=fun(q:Fl×Loc) σ=>match q.1 with| .next=>(forGo (run P k) sc t body q.2 xs σ:ResL (Fl×Loc))| .ret v=> .ok (.ret v,q.2) σ) h)
theorem forX_later{t:Expr}{body:List Stmt}{x:AV}{xs:List AV}(hb:bindA sc t x ρ=some ρ₁)(h:Ex P k sc ρ₁ σ body fun q σ₁=>q.1= .next∧ForX P k sc t body q.2 xs σ₁ X):ForX P k sc t body ρ (x::xs) σ X:=
 WX.eq (for_step hb _) (WX.bind (f:=fun(q:Fl×Loc) σ=>match q.1 with| .next=>(forGo (run P k) sc t body q.2 xs σ:ResL (Fl×Loc))| .ret v=> .ok (.ret v,q.2) σ) (h.mono fun q σ₁ h=>by
  obtain⟨q1,q2⟩:=q
  refine ea01 h fun h1 h2=>?_;clear h
  cases h1
  exact h2))
theorem stX_for_iter{t it e:Expr}{body:List Stmt}{p:Pos}(hs:isSet it=false)(hi:iterK P sc ρ it= .plain e)(h:EvX P k sc ρ σ e (kAtX ρ X)):StX P k sc ρ σ (.For t it body [] p) X:=by
 refine WX.eq (o':=(((run P k).ev sc ρ σ e).at ρ).bd fun v σ=>over v σ (forGo (run P k) sc t body ρ)) ?_ (WX.left (f:=fun v σ=>over v σ (forGo (run P k) sc t body ρ)) (WX.at h))
 rw[for_eq hs,hi]
 rfl
theorem stX_for{t it e:Expr}{body:List Stmt}{p:Pos}(hs:isSet it=false)(hi:iterK P sc ρ it= .plain e)(h:Ev P k sc ρ σ e fun v σ₁=>WX (over v σ₁ (forGo (run P k) sc t body ρ)) X):StX P k sc ρ σ (.For t it body [] p) X:=by
 refine WX.eq (o':=(((run P k).ev sc ρ σ e).at ρ).bd fun v σ=>over v σ (forGo (run P k) sc t body ρ)) ?_ (WX.bind (f:=fun v σ=>over v σ (forGo (run P k) sc t body ρ)) (WO.at h))
 rw[for_eq hs,hi]
 rfl
theorem stX_enum{it e:Expr}{ts:List Expr}{n:Nat}{tp:Pos}{body:List Stmt}{p:Pos}(hs:isSet it=false)(hi:iterK P sc ρ it= .enum e)(h:Ev P k sc ρ σ e fun v σ₁=>WX (over v σ₁ fun xs σ=>forGo (run P k) sc (.Tuple ts n tp) body ρ (enumL 0 xs) σ) X):StX P k sc ρ σ (.For (.Tuple ts n tp) it body [] p) X:=by
 refine WX.eq (o':=(((run P k).ev sc ρ σ e).at ρ).bd fun v σ=>over v σ fun xs σ=>forGo (run P k) sc (.Tuple ts n tp) body ρ (enumL 0 xs) σ) ?_ (WX.bind (f:=fun v σ=>over v σ fun xs σ=>forGo (run P k) sc (.Tuple ts n tp) body ρ (enumL 0 xs) σ) (WO.at h))
 rw[for_eq hs,hi]
 rfl
theorem raise_W{x:Str}{p pos:Pos}{args:List Expr}{a:Addr}(hs:args.any star? =false)(hn:nameA P sc ρ x=some (.fix (.ref a)))(h:Evs P k sc ρ σ args fun vs σ₁=>∃z,excOf P a vs=some z∧Y z σ₁):WX (raiseA P (run P k) sc ρ σ (.Call (.Name x p) args [] pos)) Y:=
 WX.ofO (o:=callV (.Call (.Name x p) args [] pos)) (b:=⟨x,p,args,pos⟩) (f:=fun c=>Mine.chk (!c.args.any star?) (Mine.ofO (refV (nameA P sc ρ c.x)) fun a=>(evs (run P k) sc ρ c.args σ).bd fun vs σ=>Mine.ofO (excOf P a vs) fun x=> .exc x σ)) rfl (WX.chk (not_t hs) (WX.ofO (b:=a) (by show refV (nameA P sc ρ x)=_;rw[hn];rfl)
  (WX.bind (f:=fun vs σ=>(Mine.ofO (excOf P a vs) fun x=> .exc x σ:Res Unit)) (h.mono fun vs σ₁ ⟨z,e,q⟩=>WX.ofO e ⟨z,σ₁,rfl,q⟩))))
theorem stX_raise{e:Expr}{p:Pos}(h:WX (raiseA P (run P k) sc ρ σ e) (kAtX ρ X)):StX P k sc ρ σ (.Raise (some e) none p) X:=
 WX.left (o:=(raiseA P (run P k) sc ρ σ e).at ρ) (f:=fun _ _=> .stuck) (WX.at h)
theorem st_try{body:List Stmt}{h:ExceptHandler}{p:Pos}(hb:Ex P k sc ρ σ body R):St P k sc ρ σ (.Try body [h] [] [] p) R:=by
 refine ea21 hb fun q σ₁ e hq=>?_;clear hb
 refine⟨_,_,?_,hq⟩
 show tryA P (run P k) sc ρ body h σ=_
 unfold tryA
 rw[show(run P k).ex sc ρ σ body= .ok q σ₁ from e]
theorem st_try_pf{body:List Stmt}{h:ExceptHandler}{p:Pos}(hb:ExX P k sc ρ σ body fun x σ₁=>∃v,x.1= .pf v∧(hitPf P sc h (caught P sc x.2 h)&&handA v)=true∧R (.ret v,[]) σ₁):St P k sc ρ σ (.Try body [h] [] [] p) R:=by
 obtain⟨⟨x,ρ₁⟩,σ₁,e,v,h1,h2,hq⟩:=hb
 subst h1
 refine⟨_,_,?_,hq⟩
 show tryA P (run P k) sc ρ body h σ=_
 unfold tryA
 rw[show(run P k).ex sc ρ σ body= .exc (.pf v,ρ₁) σ₁ from e]
 show Mine.chk _ _=_
 rw[show(hitPf P sc h (caught P sc ρ₁ h)&&handA v)=true from h2]
 rfl
theorem stX_try_tf{body:List Stmt}{h:ExceptHandler}{p:Pos}(hb:ExX P k sc ρ σ body fun x σ₁=>x.1= .tf∧∃e,hitTf P h (caught P sc x.2 h)=some e∧WX (raiseA P (run P k) sc x.2 σ₁ e.expr) fun z σ₂=>∃v,z= .pf v∧X (.pf v,x.2) σ₂):StX P k sc ρ σ (.Try body [h] [] [] p) X:=by
 obtain⟨⟨x,ρ₁⟩,σ₁,e,h1,ex,h2,z,σ₂,e2,v,rfl,hq⟩:=hb
 subst h1
 refine⟨_,_,?_,hq⟩
 show tryA P (run P k) sc ρ body h σ=_
 unfold tryA
 rw[show(run P k).ex sc ρ σ body= .exc (.tf,ρ₁) σ₁ from e]
 show Mine.ofO (hitTf P h (caught P sc ρ₁ h)) _=_
 rw[show hitTf P h (caught P sc ρ₁ h)=some ex from h2]
 show((onlyPf (raiseA P (run P k) sc ρ₁ σ₁ ex.expr)).at ρ₁).bd _=_
 rw[show raiseA P (run P k) sc ρ₁ σ₁ ex.expr= .exc (.pf v) σ₂ from e2]
 rfl
end
end Mine
end
section
namespace Mine
open PySem
theorem eqA_data{σ:Store}{x y:AV}{dx dy:PyData}(hx:toPy σ 40 x=some dx)(hy:toPy σ 40 y=some dy)(sx:shpL dx=true)(sy:shpL dy=true):eqA σ x y=some (PyData.eqv dx dy):=by
 unfold eqA
 rw[hx,hy]
 show chkO (shpL dx&&shpL dy) _=_
 rw[sx,sy]
 rfl
theorem eq_data{σ:Store}{x y:AV}{dx dy:PyData}(hx:toPy σ 40 x=some dx)(hy:toPy σ 40 y=some dy)(sx:shpL dx=true)(sy:shpL dy=true):cmpA σ .Eq x y=some (PyData.eqv dx dy):=eqA_data hx hy sx sy
theorem ne_data{σ:Store}{x y:AV}{dx dy:PyData}(hx:toPy σ 40 x=some dx)(hy:toPy σ 40 y=some dy)(sx:shpL dx=true)(sy:shpL dy=true):cmpA σ .NotEq x y=some (!PyData.eqv dx dy):=by
 show(eqA σ x y).map (!·)=_
 rw[eqA_data hx hy sx sy]
 all_goals rfl
theorem inStrs_L{x:Str}{l:List Str}(h:((x.cps.toList.all fun c=>decide (c<0x110000))&&l.all fun y=>y.cps.toList.all fun c=>decide (c<0x110000))=true):inStrs x l=some (memS x l):=by
 unfold inStrs
 rw[show(okStr x&&l.all okStr)=true from h]
 rfl
theorem in_tup{σ:Store}{x:Str}{ys:List AV}{l:List Str}(hs:strs? ys=some l)(h:((x.cps.toList.all fun c=>decide (c<0x110000))&&l.all fun y=>y.cps.toList.all fun c=>decide (c<0x110000))=true):cmpA σ .In (.str x) (.tup ys)=some (memS x l):=by
 show(strs? ys).bind (inStrs x)=_
 rw[hs]
 exact inStrs_L h
theorem notin_tup{σ:Store}{x:Str}{ys:List AV}{l:List Str}(hs:strs? ys=some l)(h:((x.cps.toList.all fun c=>decide (c<0x110000))&&l.all fun y=>y.cps.toList.all fun c=>decide (c<0x110000))=true):cmpA σ .NotIn (.str x) (.tup ys)=some (!memS x l):=by
 show(inA σ (.str x) (.tup ys)).map (!·)=_
 have :inA σ (.str x) (.tup ys)=some (memS x l):=in_tup (σ:=σ) hs h
 rw[this]
 all_goals rfl
theorem up_le{N k n:Nat}:N≤k+N+n+1:=Nat.le_trans (Nat.le_add_left N k) (Nat.le_trans (Nat.le_add_right _ n) (Nat.le_succ _))
theorem lift_le{k d K c n:Nat}(hK:k+d=K)(h:c≤n+1):d+c≤K+n+1:=hK▸(Nat.add_le_add (Nat.le_add_left d k) h:d+c≤k+d+(n+1))
theorem lift_le'{k d D K c n:Nat}(hK:k+D=K)(hd:d≤D)(h:c≤n+1):d+c≤K+n+1:=Nat.le_trans (Nat.add_le_add_right hd c) (lift_le hK h)
theorem map_le{α β:Type}{f:α→β}{l:List α}{n m:Nat}(h:l.length≤n)(e:n≤m):(l.map f).length≤m:=by rw[List.length_map];exact Nat.le_trans h e
theorem app_le{α:Type}{xs ys:List α}{n m:Nat}(h:xs.length≤n)(h':ys.length≤m):(xs++ys).length≤n+m:=by rw[List.length_append];exact Nat.add_le_add h h'
theorem ble_cap{xs:List AV}{n:Nat}(h:xs.length≤n)(e:Nat.ble n 100000=true):Nat.ble xs.length bound=true:=Nat.ble_eq_true_of_le (Nat.le_trans h (Nat.le_of_ble_eq_true e))
theorem snoc_le{α:Type}{p:List α}{j:α}{d n:Nat}(h:p.length+(d+1)≤n):(p++[j]).length+d≤n:=by
 rw[List.length_append]
 show p.length+1+d≤n
 rw[Nat.add_assoc,Nat.add_comm 1];exact h
theorem blt_cap{xs:List AV}{n:Nat}(h:xs.length≤n)(e:Nat.ble (n+1) 100000=true):Nat.blt xs.length bound=true:=Nat.ble_eq_true_of_le (Nat.le_trans (Nat.succ_le_succ h) (Nat.le_of_ble_eq_true e))
theorem le3{a b n m:Nat}(h:a+b≤n)(e:n≤m):a≤m:=Nat.le_trans (Nat.le_trans (Nat.le_add_right a b) h) e
theorem lt_cast{n m:Nat}{i:Int}(h:(n:Int)<i)(e:(m:Int)=i):n<m:=by subst e;exact Int.ofNat_lt.mp h
theorem lift_n{d n c K m:Nat}(h:d≤n)(e:10*n+c≤m+1):10*d+c≤K+m+1:=Nat.le_trans (Nat.add_le_add_right (Nat.mul_le_mul_left 10 h) c) (Nat.le_trans e (Nat.succ_le_succ (Nat.le_add_left m K)))
theorem nat_lt{n:Nat}{i:Int}(h:0≤i)(e:i<n):i.toNat<n:=(Int.toNat_lt h).mpr e
theorem dle{d:Nat}(h:d≤30):d≤38:=Nat.le_trans h (by decide)
theorem dle2{d:Nat}(h:d≤30):d+2≤40:=Nat.le_trans (Nat.add_le_add_right h 2) (by decide)
theorem exists_and{α:Type}{p q:α→Prop}{a:α}(h1:p a)(h2:q a):∃a,p a∧q a:=⟨a,h1,h2⟩
section
variable{ε α:Type}{P:Prg}{sc csc:Scope}{ρ ρ₁:Loc}{σ:Store}{k:Nat}{Q:AV→Store→Prop}
theorem apE_bi{f:AV}{id:String}{vs:List AV}(e:f= .fix (.builtin id))(h:OkO (builtinA σ id vs) Q):Ap P k f vs σ Q:=by subst e;exact ap_bi h
theorem apE_ty{f:AV}{T:String}{vs:List AV}(e:f= .fix (.type T))(h:OkO (typeA σ T vs) Q):Ap P k f vs σ Q:=by subst e;exact ap_ty h
theorem apE_fn{f:AV}{a:Addr}{vs:List AV}(e:f= .fix (.ref a))(hc:P.cls a=false)(hf:(P.fn a).isSome=true)(h:Ca P k a vs σ Q):Ap P k f vs σ Q:=by subst e;exact ap_fn hc hf h
theorem overE_tup{v:AV}{xs:List AV}{f:List AV→Store→Out ε α}{R:α→Store→Prop}(e:v= .tup xs)(h:WO (f xs σ) R):WO (over v σ f) R:=by subst e;exact over_tup h
theorem forE_nil{t:Expr}{body:List Stmt}{xs:List AV}{R:Fl×Loc→Store→Prop}(e:xs=[])(h:R (.next,ρ) σ):For P k sc t body ρ xs σ R:=by subst e;exact for_nil h
theorem forE_cons{t:Expr}{body:List Stmt}{x:AV}{xs xs':List AV}{R:Fl×Loc→Store→Prop}(e:xs=x::xs')(hb:bindA sc t x ρ=some ρ₁)(h:Ex P k sc ρ₁ σ body (Loop (kForN P k sc t body xs' R) R)):For P k sc t body ρ xs σ R:=by subst e;exact for_cons hb h
theorem compE_nil{t elt:Expr}{ifs:List Expr}{xs:List AV}{Q:List AV→Store→Prop}(e:xs=[])(h:Q [] σ):Comp P k sc ρ t ifs elt xs σ Q:=by subst e;exact comp_nil h
theorem compE_cons{t elt:Expr}{ifs:List Expr}{x:AV}{xs xs':List AV}{Q:List AV→Store→Prop}(e:xs=x::xs')(hb:bindA sc t x ρ=some ρ₁)
 (h:Tests P k sc ρ₁ ifs σ (kComp P k sc ρ t ifs elt xs' ρ₁ Q)):Comp P k sc ρ t ifs elt xs σ Q:=by subst e;exact comp_cons hb h
end
section
variable{P:Prg}{sc:Scope}{ρ:Loc}{σ:Store}{k:Nat}{Q:AV→Store→Prop}
noncomputable abbrev Join(P:Prg)(k:Nat)(sc:Scope)(ρ:Loc)(es:List Expr)(acc:Str)(σ:Store)(Q:Str→Store→Prop):Prop:=WO (joinA (run P k) sc ρ es acc σ) Q
noncomputable abbrev kStr(Q:AV→Store→Prop):Str→Store→Prop:=fun x σ=>Q (.str x) σ
noncomputable abbrev kJoin(P:Prg)(k:Nat)(sc:Scope)(ρ:Loc)(es:List Expr)(acc:Str)(Q:Str→Store→Prop):AV→Store→Prop:=fun v σ₁=>∃i,v= .int i∧(decide (0≤i∧i<1000)&&joinOk (acc++(toString i:Str)))=true∧Join P k sc ρ es (acc++(toString i:Str)) σ₁ Q
theorem join_nil{acc:Str}{Q:Str→Store→Prop}(h:Q acc σ):Join P k sc ρ [] acc σ Q:=WO.ok h
theorem join_text{acc x:Str}{n:Nat}{p:Pos}{es:List Expr}{Q:Str→Store→Prop}(hj:joinOk (acc++x)=true)(h:Join P k sc ρ es (acc++x) σ Q):Join P k sc ρ (.Constant (.str x) n p::es) acc σ Q:=WO.chk (o:=joinA (run P k) sc ρ es (acc++x) σ) hj h
theorem join_int{e:Expr}{acc:Str}{p:Pos}{es:List Expr}{Q:Str→Store→Prop}(h:Ev P k sc ρ σ e (kJoin P k sc ρ es acc Q)):Join P k sc ρ (.FormattedValue e (-1) none p::es) acc σ Q:=
 WO.bind (f:=fun(v:AV) σ=>Mine.ofO (smallInt v) fun i=>Mine.chk (joinOk (acc++(toString i:Str))) (joinA (run P k) sc ρ es (acc++(toString i:Str)) σ)) (h.mono fun v σ₁ ⟨i,e1,e2,h⟩=>by
  subst e1
  have e2:=Bool.and_eq_true_iff.mp e2
  refine WO.ofO (b:=i) ?_ (WO.chk e2.2 h)
  show(match decide (0≤i∧i<1000)with|true=>some i|false=>none)=_
  rw[e2.1])
theorem ev_joined{a b:Expr}{es:List Expr}{p:Pos}(h:Join P k sc ρ (a::b::es) Str.empty σ (kStr Q)):Ev P (k+1) sc ρ σ (.JoinedStr (a::b::es) p) Q:=
 WO.eq rfl (WO.bind (f:=fun(x:Str) σ=>(.ok (.str x) σ:Res AV)) (h.mono fun x σ₁ q=>WO.ok q))
end
section
variable{P:Prg}{sc:Scope}{ρ:Loc}{σ:Store}{k:Nat}{R:Fl×Loc→Store→Prop}
theorem name_loc{x:Str}{v:AV}(ho:okName x=true)(h:look x ρ=some v):nameA P sc ρ x=some v:=by
 show chkO (okName x) ((look x ρ).elim _ some)=_
 rw[ho,h]
 rfl
theorem name_glob{x:Str}{v:AV}(ho:okName x=true)(h:look x ρ=none)(hs:look x sc.names=some .globalImplicit)(hg:P.glob x=some v):nameA P sc ρ x=some v:=by
 show chkO (okName x) ((look x ρ).elim (gK (look x sc.names) (P.glob x)) some)=_
 rw[ho,h,hs]
 exact hg
theorem look_tail{α:Type}{x y:Str}{v:α}{r:List (Str×α)}{o:Option α}(hn:sEq y x=false)(h:look x r=o):look x ((y,v)::r)=o:=by
 show cond (sEq y x) (some v) (look x r)=_
 rw[hn];exact h
end
noncomputable def only(ns:List Str)(ρ:Loc):Prop:=∀x,memS x ns=false→look x ρ=none
theorem only.cons{ns:List Str}{ρ:Loc}{y:Str}{v:AV}(hy:memS y ns=true)(h:only ns ρ):only ns ((y,v)::ρ):=fun x hx=>by
 refine look_tail ?_ (h x hx)
 cases e:sEq y x with
 |false=>rfl
 |true=>
  have :lEq y.cps.toList x.cps.toList=true:=e
  have e':y=x:=by
   have :=(lEq_to this)
   cases y;cases x
   simp only [Str.mk.injEq]
   exact Array.toList_inj.mp this
  subst e'
  rw[hy]at hx;cases hx
theorem onlyF{ns:List Str}{ρ:Loc}{x:Str}(h:only ns ρ)(hx:memS x ns=false):look x ρ=none:=h x hx
theorem item_head{σ:Store}{x:AV}{xs:List AV}:itemA σ (.tup (x::xs)) (.int 0)=some x:=by
 show atA (x::xs) 0=some x
 unfold atA PySem.seqIndex?
 have h:((0:Int)<((x::xs).length:Int)):=by simp only [List.length_cons];omega
 simp[h]
noncomputable abbrev PP(sc₀:Addr→Option (List Int)):Prg:=prg sc₀
end Mine
end
section
namespace Mine
open PySem
theorem Keep.set_new{σ σ':Store}{n:Nat}{o:AO}(h:Keep σ σ')(hn:σ.length≤n):Keep σ (σ'.set n o):=fun j x hj=>by
 obtain⟨hl,_⟩:=List.getElem?_eq_some_iff.mp hj
 rw[List.getElem?_set_ne (by omega)]
 exact h j x hj
theorem get_set{σ:Store}{n:Nat}{o o':AO}(h:σ[n]? =some o):(σ.set n o')[n]? =some o':=by
 obtain⟨hl,_⟩:=List.getElem?_eq_some_iff.mp h
 rw[List.getElem?_set_self hl]
theorem get_set_ne{σ:Store}{n j:Nat}{o' x:AO}(h:σ[j]? =some x)(hn:n≠j):(σ.set n o')[j]? =some x:=by rw[List.getElem?_set_ne hn];exact h
theorem get_lt{σ:Store}{n:Nat}{o:AO}(h:σ[n]? =some o):n<σ.length:=(List.getElem?_eq_some_iff.mp h).1
theorem set_back{σ:Store}{n:Nat}{o o':AO}(h:σ[n]? =some o):(σ.set n o').set n o=σ:=by
 rw[List.set_set]
 obtain⟨hl,e⟩:=List.getElem?_eq_some_iff.mp h
 rw[←e,List.set_getElem_self]
theorem over_pure{ε α:Type}{σ:Store}{n:Nat}{xs:List AV}{f:List AV→Store→Out ε α}{R:α→Store→Prop}(hn:σ[n]? =some (.list xs))(h:WO (f xs (σ.set n .frozen)) fun a σ₁=>σ₁=σ.set n .frozen∧R a σ):WO (over (.ob n) σ f) R:=
 over_list hn (h.mono fun a σ₁ ⟨e,q⟩=>by subst e;rw[set_back hn];exact q)
section
variable{P:Prg}{sc csc:Scope}{ρ:Loc}{σ:Store}{k:Nat}{Q:AV→Store→Prop}
theorem methB_list{n:Nat}{xs:List AV}{name:Str}(h:σ[n]? =some (.list xs)):methB P σ (.ob n) name=listMK name:=by
 unfold methB;rw[listOf_ob h]
theorem methB_app{n:Nat}{xs:List AV}(h:σ[n]? =some (.list xs)):methB P σ (.ob n) "append"=some .app:=methB_list h
theorem methB_ext{n:Nat}{xs:List AV}(h:σ[n]? =some (.list xs)):methB P σ (.ob n) "extend"=some .ext:=methB_list h
theorem methB_pop{n:Nat}{xs:List AV}(h:σ[n]? =some (.list xs)):methB P σ (.ob n) "pop"=some .pop:=methB_list h
theorem methB_user{n:Nat}{C f:Addr}{attrs:List (Str×AV)}{name:Str}(h:σ[n]? =some (.inst C attrs))(hl:look name attrs=none)(hm:P.meth C name=some f)(hf:(P.fn f).isSome=true):methB P σ (.ob n) name=some (.user f):=by
 refine ea10 (Option.isSome_iff_exists.mp hf) fun fd hf=>?_
 unfold methB
 rw[listNot h (fun _ e=>nomatch e),instOf_ob h]
 show(match look name attrs with|some _=>none|none=>(P.meth C name).bind fun f=>(P.fn f).map fun _=>MK.user f)=_
 rw[hl,hm]
 show(P.fn f).map _=_
 rw[hf]
 rfl
theorem go_app{n:Nat}{xs:List AV}{v:AV}(h:σ[n]? =some (.list xs))(hb:Nat.blt xs.length bound=true)(q:Q .none (σ.set n (.list (xs++[v])))):WO (methGo (run P k) (.ob n) .app [v] σ) Q:=⟨_,_,by show Mine.ofO (listOf σ (.ob n)) _=_;rw[listOf_ob h];show Mine.chk (Nat.blt xs.length bound) _=_;rw[hb];rfl,q⟩
theorem go_ext{n:Nat}{xs ys:List AV}{v:AV}(h:σ[n]? =some (.list xs))(hv:itemsA σ v=some ys)(hb:Nat.ble (xs.length+ys.length) bound=true)(q:Q .none (σ.set n (.list (xs++ys)))):WO (methGo (run P k) (.ob n) .ext [v] σ) Q:=
 ⟨_,_,by show Mine.ofO (listOf σ (.ob n)) _=_;rw[listOf_ob h];show Mine.ofO (itemsA σ v) _=_;rw[hv];show Mine.chk (Nat.ble (xs.length+ys.length) bound) _=_;rw[hb];rfl,q⟩
theorem go_pop{n:Nat}{xs:List AV}{x:AV}(h:σ[n]? =some (.list (xs++[x])))(q:Q x (σ.set n (.list xs))):WO (methGo (run P k) (.ob n) .pop [] σ) Q:=by
 refine⟨_,_,?_,q⟩
 show popA (.ob n) [] σ=_
 unfold popA
 rw[listOf_ob h]
 show(match (xs++[x]).reverse with|x::ys=>_|[]=>_)=_
 rw[List.reverse_append]
 show Out.ok x (σ.set n (.list xs.reverse.reverse))=_
 rw[List.reverse_reverse]
theorem items_ob{n:Nat}{xs:List AV}(h:σ[n]? =some (.list xs)):itemsA σ (.ob n)=some xs:=by
 show(listOf σ (.ob n)).map _=_
 rw[listOf_ob h]
 rfl
end
noncomputable def vS(x:Str):AV:= .tup [.str x]
noncomputable abbrev pX:AV:= .tup [.str "?x"]
noncomputable abbrev pY:AV:= .tup [.str "?y"]
noncomputable abbrev pFX:AV:= .tup [.str "f",pX]
noncomputable abbrev pFFX:AV:= .tup [.str "f",pFX]
noncomputable abbrev pXY:AV:= .tup [.str "g",pX,pY]
noncomputable abbrev pYX:AV:= .tup [.str "g",pY,pX]
end Mine
end
section
open Mine PySem
set_option compiler.extract_closed false in
set_option hygiene false in
local macro_rules | `(tactic| walk_at "pq") => `(tactic| first
 |((with_reducible apply WO.rfl);exact rfl)
 |apply_rules (transparency:= .reducible) (maxDepth:=1) only [evs_nil,evs_cons,ev_bin,ev_neg,ev_not,ev_if,ev_slice,ev_bool,ev_joined,join_nil,join_int,chain_one,chain_more,opt_none,opt_some,pairs_nil,pairs_cons,bool_one,bool_more,ts_bool,ts_not,ts_call,ts_item,ts_name,all_nil,all_cons,tests_nil,tests_cons,ex_nil,ex_cons,then_next,then_ret,st_if,st_return,go_next,go_ret,st_while,st_try]
 |((apply_rules (transparency:= .reducible) (maxDepth:=1) only [ev_tuple,ev_list,ev_item,ev_attr,ev_cmp,ev_comp,ev_dict,ts_cmp,st_expr,sel_t,ev_const,ev_sorted,overE_tup,apE_bi,forE_nil,compE_nil,OkO.mk]);exact rfl)
 |((apply_rules (transparency:= .reducible) (maxDepth:=1) only [sel_f,apE_ty,kTo.mk]);exact rfl)
 |((apply_rules (transparency:= .reducible) (maxDepth:=1) only [ev_callM,st_tuple,st_attr,st_sub,st_enum,forE_cons,compE_cons]);exact rfl;exact rfl)
 |((with_reducible apply st_name);exact rfl;exact rfl;exact rfl)
 |((apply_rules (transparency:= .reducible) (maxDepth:=1) only [st_comp,st_range]);exact rfl;exact rfl)|((with_reducible apply st_for);exact rfl;exact rfl)
 |((with_reducible apply ev_name);first |exact rfl|exact name_loc rfl (by assumption)|exact name_glob rfl (onlyF (by assumption) rfl) rfl rfl)
 |((with_reducible apply ev_callN);exact rfl;exact rfl;first |exact rfl|exact name_glob rfl (onlyF (by assumption) rfl) rfl rfl)
 |((with_reducible apply join_text);first |exact rfl|decide+kernel)
 |((with_reducible first|apply OfS.mk|apply exists_and);first |exact eq_data rfl rfl rfl rfl|exact ne_data rfl rfl rfl rfl|exact in_tup rfl rfl|exact notin_tup rfl rfl|exact rfl|exact item_head)
 |((with_reducible refine' And.intro ?_ ?_);first |exact rfl|decide+kernel))
set_option compiler.extract_closed false in
set_option hygiene false in
local macro_rules | `(tactic| walk_at "lk") => `(tactic| first | assumption | exact get_new _ _ | (refine Keep.push _ _ _ _ ?_; walk_at "lk"))
set_option compiler.extract_closed false in
set_option hygiene false in
local macro_rules | `(tactic| walk_at "kp") => `(tactic| first | exact Keep.refl _ | assumption | (refine Keep.trans ?_ (Keep.push _ _); walk_at "kp") | ((refine Keep.trans ?_ (by assumption)); walk_at "kp"))
section
namespace Mine
open PySem
section
variable{sc₀:Addr→Option (List Int)}{k:Nat}{σ:Store}{Q:AV→Store→Prop}
theorem isvar_x(h:∀σ',Keep σ σ'→Q (.bool true) σ'):Ca (PP sc₀) (k+20) 109 [pX] σ Q:=by
 refine ca' rfl rfl ?_
 repeat walk_at "pq"
 exact h _ (Keep.refl _).trunc
theorem isvar_y(h:∀σ',Keep σ σ'→Q (.bool true) σ'):Ca (PP sc₀) (k+20) 109 [pY] σ Q:=by
 refine ca' rfl rfl ?_
 repeat walk_at "pq"
 exact h _ (Keep.refl _).trunc
theorem isvar_1{op:Str}{x:AV}(h:∀σ',Keep σ σ'→Q (.bool false) σ'):Ca (PP sc₀) (k+20) 109 [.tup [.str op,x]] σ Q:=by
 refine ca' rfl rfl ?_
 repeat walk_at "pq"
 exact h _ (Keep.refl _).trunc
theorem isvar_2{op:Str}{x y:AV}(h:∀σ',Keep σ σ'→Q (.bool false) σ'):Ca (PP sc₀) (k+20) 109 [.tup [.str op,x,y]] σ Q:=by
 refine ca' rfl rfl ?_
 repeat walk_at "pq"
 exact h _ (Keep.refl _).trunc
theorem parts_x(h:∀i σ',Keep σ σ'→σ'[i]? =some (.list [.tup [.tup [],pX]])→Q (.ob i) σ'):Ca (PP sc₀) (k+20) 124 [pX] σ Q:=by
 refine ca' rfl rfl ?_
 repeat walk_at "pq"
 exact h _ _ (Keep.push _ _).trunc (trunc_ob.trans (get_new _ _))
theorem parts_y(h:∀i σ',Keep σ σ'→σ'[i]? =some (.list [.tup [.tup [],pY]])→Q (.ob i) σ'):Ca (PP sc₀) (k+20) 124 [pY] σ Q:=by
 refine ca' rfl rfl ?_
 repeat walk_at "pq"
 exact h _ _ (Keep.push _ _).trunc (trunc_ob.trans (get_new _ _))
theorem parts_fx(h:∀i σ',Keep σ σ'→σ'[i]? =some (.list [.tup [.tup [],pFX],.tup [.tup [.int 0],pX]])→Q (.ob i) σ'):Ca (PP sc₀) (k+40) 124 [pFX] σ Q:=by
 refine ca' rfl rfl ?_
 repeat walk_at "pq"
 refine OfS.mk (methB_ext (get_new _ _)) ?_
 repeat walk_at "pq"
 refine ap_fn rfl rfl (parts_x fun i0 s0 k0 h0=>?_)
 refine over_pure h0 ?_
 repeat walk_at "pq"
 have f0:=Keep.push s0 (.list [.tup [.tup [.int 0],pX]]) _ _ (k0 _ _ (get_new _ _))
 refine go_ext f0 (items_ob (get_new _ _)) rfl ?_
 repeat walk_at "pq"
 exact h _ _ (((Keep.push σ _).trans (k0.trans (Keep.push _ _))).set_new (Nat.le_refl _)).trunc (trunc_ob.trans (get_set f0))
theorem parts_ffx(h:∀i σ',Keep σ σ'→σ'[i]? =some (.list [.tup [.tup [],pFFX],.tup [.tup [.int 0],pFX],.tup [.tup [.int 0,.int 0],pX]])→Q (.ob i) σ'):Ca (PP sc₀) (k+60) 124 [pFFX] σ Q:=by
 refine ca' rfl rfl ?_
 repeat walk_at "pq"
 refine OfS.mk (methB_ext (get_new _ _)) ?_
 repeat walk_at "pq"
 refine ap_fn rfl rfl (parts_fx fun i0 s0 k0 h0=>?_)
 refine over_pure h0 ?_
 repeat walk_at "pq"
 have f0:=Keep.push s0 (.list [.tup [.tup [.int 0],pFX],.tup [.tup [.int 0,.int 0],pX]]) _ _ (k0 _ _ (get_new _ _))
 refine go_ext f0 (items_ob (get_new _ _)) rfl ?_
 repeat walk_at "pq"
 exact h _ _ (((Keep.push σ _).trans (k0.trans (Keep.push _ _))).set_new (Nat.le_refl _)).trunc (trunc_ob.trans (get_set f0))
theorem parts_xy(h:∀i σ',Keep σ σ'→σ'[i]? =some (.list [.tup [.tup [],pXY],.tup [.tup [.int 0],pX],.tup [.tup [.int 1],pY]])→Q (.ob i) σ'):Ca (PP sc₀) (k+40) 124 [pXY] σ Q:=by
 refine ca' rfl rfl ?_
 repeat walk_at "pq"
 refine OfS.mk (methB_ext (get_new _ _)) ?_
 repeat walk_at "pq"
 refine ap_fn rfl rfl (parts_x fun i0 s0 k0 h0=>?_)
 refine over_pure h0 ?_
 repeat walk_at "pq"
 have f0:=Keep.push s0 (.list [.tup [.tup [.int 0],pX]]) _ _ (k0 _ _ (get_new _ _))
 refine go_ext f0 (items_ob (get_new _ _)) rfl ?_
 repeat walk_at "pq"
 refine OfS.mk (methB_ext (get_set f0)) ?_
 repeat walk_at "pq"
 refine ap_fn rfl rfl (parts_y fun i1 s1 k1 h1=>?_)
 refine over_pure h1 ?_
 repeat walk_at "pq"
 have f1:=Keep.push s1 (.list [.tup [.tup [.int 1],pY]]) _ _ (k1 _ _ (get_set f0))
 refine go_ext f1 (items_ob (get_new _ _)) rfl ?_
 repeat walk_at "pq"
 exact h _ _ (((((Keep.push σ _).trans (k0.trans (Keep.push _ _))).set_new (Nat.le_refl _)).trans (k1.trans (Keep.push _ _))).set_new (Nat.le_refl _)).trunc (trunc_ob.trans (get_set f1))
theorem parts_yx(h:∀i σ',Keep σ σ'→σ'[i]? =some (.list [.tup [.tup [],pYX],.tup [.tup [.int 0],pY],.tup [.tup [.int 1],pX]])→Q (.ob i) σ'):Ca (PP sc₀) (k+40) 124 [pYX] σ Q:=by
 refine ca' rfl rfl ?_
 repeat walk_at "pq"
 refine OfS.mk (methB_ext (get_new _ _)) ?_
 repeat walk_at "pq"
 refine ap_fn rfl rfl (parts_y fun i0 s0 k0 h0=>?_)
 refine over_pure h0 ?_
 repeat walk_at "pq"
 have f0:=Keep.push s0 (.list [.tup [.tup [.int 0],pY]]) _ _ (k0 _ _ (get_new _ _))
 refine go_ext f0 (items_ob (get_new _ _)) rfl ?_
 repeat walk_at "pq"
 refine OfS.mk (methB_ext (get_set f0)) ?_
 repeat walk_at "pq"
 refine ap_fn rfl rfl (parts_x fun i1 s1 k1 h1=>?_)
 refine over_pure h1 ?_
 repeat walk_at "pq"
 have f1:=Keep.push s1 (.list [.tup [.tup [.int 1],pX]]) _ _ (k1 _ _ (get_set f0))
 refine go_ext f1 (items_ob (get_new _ _)) rfl ?_
 repeat walk_at "pq"
 exact h _ _ (((((Keep.push σ _).trans (k0.trans (Keep.push _ _))).set_new (Nat.le_refl _)).trans (k1.trans (Keep.push _ _))).set_new (Nat.le_refl _)).trunc (trunc_ob.trans (get_set f1))
end
end Mine
end
section
namespace Mine
open PySem
theorem keep_thaw{σ S:Store}{n:Nat}{xs:List AV}(hn:σ[n]? =some (.list xs))(h:Keep (σ.set n .frozen) S):Keep σ (S.set n (.list xs)):=fun j x hj=>by
 have hl:=get_lt hn
 have hl2:n<S.length:=get_lt (h n .frozen (get_set hn))
 by_cases e:n=j
 ·subst e
  rw[hn]at hj;cases hj
  rw[List.getElem?_set_self hl2]
 ·rw[List.getElem?_set_ne e]
  exact h j x (by rw[List.getElem?_set_ne e];exact hj)
theorem over_keep{ε α:Type}{σ:Store}{n:Nat}{xs:List AV}{f:List AV→Store→Out ε α}{R:α→Store→Prop}(hn:σ[n]? =some (.list xs))(h:WO (f xs (σ.set n .frozen)) fun a σ₁=>Keep (σ.set n .frozen) σ₁∧∀σ₂,Keep σ σ₂→R a σ₂):WO (over (.ob n) σ f) R:=
 over_list hn (h.mono fun a σ₁ ⟨hk,q⟩=>q _ (keep_thaw hn hk))
section
variable{sc₀:Addr→Option (List Int)}{k:Nat}{σ:Store}{Q:AV→Store→Prop}
theorem vars_x(h:∀i σ',Keep σ σ'→σ'[i]? =some (.list [.str "?x"])→Q (.ob i) σ'):Ca (PP sc₀) (k+80) 114 [pX] σ Q:=by
 refine ca' rfl rfl ?_
 repeat walk_at "pq"
 refine apE_fn rfl rfl rfl (parts_x fun i s k0 h0=>?_)
 refine over_keep h0 ?_
 repeat walk_at "pq"
 refine apE_fn rfl rfl rfl (isvar_x fun s1 k1=>?_)
 repeat walk_at "pq"
 refine⟨k1,fun s2 k2=>?_⟩
 repeat walk_at "pq"
 refine⟨_,_,_,_,rfl,get_new _ _,rfl,rfl,?_⟩
 repeat walk_at "pq"
 exact h _ _ (k0.trans (k2.trans ((Keep.push _ _).trans (Keep.push _ _)))).trunc (trunc_ob.trans (get_new _ _))
theorem vars_ffx(h:∀i σ',Keep σ σ'→σ'[i]? =some (.list [.str "?x"])→Q (.ob i) σ'):Ca (PP sc₀) (k+90) 114 [pFFX] σ Q:=by
 refine ca' rfl rfl ?_
 repeat walk_at "pq"
 refine apE_fn rfl rfl rfl (parts_ffx fun i s k0 h0=>?_)
 refine over_keep h0 ?_
 repeat walk_at "pq"
 refine apE_fn rfl rfl rfl (isvar_1 fun s1 k1=>?_)
 repeat walk_at "pq"
 refine apE_fn rfl rfl rfl (isvar_1 fun s2 k2=>?_)
 repeat walk_at "pq"
 refine apE_fn rfl rfl rfl (isvar_x fun s3 k3=>?_)
 repeat walk_at "pq"
 refine⟨((k1).trans k2).trans k3,fun s9 k9=>?_⟩
 repeat walk_at "pq"
 refine⟨_,_,_,_,rfl,get_new _ _,rfl,rfl,?_⟩
 repeat walk_at "pq"
 exact h _ _ (k0.trans (k9.trans ((Keep.push _ _).trans (Keep.push _ _)))).trunc (trunc_ob.trans (get_new _ _))
theorem vars_xy(h:∀i σ',Keep σ σ'→σ'[i]? =some (.list [.str "?x",.str "?y"])→Q (.ob i) σ'):Ca (PP sc₀) (k+90) 114 [pXY] σ Q:=by
 refine ca' rfl rfl ?_
 repeat walk_at "pq"
 refine apE_fn rfl rfl rfl (parts_xy fun i s k0 h0=>?_)
 refine over_keep h0 ?_
 repeat walk_at "pq"
 refine apE_fn rfl rfl rfl (isvar_2 fun s1 k1=>?_)
 repeat walk_at "pq"
 refine apE_fn rfl rfl rfl (isvar_x fun s2 k2=>?_)
 repeat walk_at "pq"
 refine apE_fn rfl rfl rfl (isvar_y fun s3 k3=>?_)
 repeat walk_at "pq"
 refine⟨((k1).trans k2).trans k3,fun s9 k9=>?_⟩
 repeat walk_at "pq"
 refine⟨_,_,_,_,rfl,get_new _ _,rfl,rfl,?_⟩
 repeat walk_at "pq"
 exact h _ _ (k0.trans (k9.trans ((Keep.push _ _).trans (Keep.push _ _)))).trunc (trunc_ob.trans (get_new _ _))
theorem vars_yx(h:∀i σ',Keep σ σ'→σ'[i]? =some (.list [.str "?x",.str "?y"])→Q (.ob i) σ'):Ca (PP sc₀) (k+90) 114 [pYX] σ Q:=by
 refine ca' rfl rfl ?_
 repeat walk_at "pq"
 refine apE_fn rfl rfl rfl (parts_yx fun i s k0 h0=>?_)
 refine over_keep h0 ?_
 repeat walk_at "pq"
 refine apE_fn rfl rfl rfl (isvar_2 fun s1 k1=>?_)
 repeat walk_at "pq"
 refine apE_fn rfl rfl rfl (isvar_y fun s2 k2=>?_)
 repeat walk_at "pq"
 refine apE_fn rfl rfl rfl (isvar_x fun s3 k3=>?_)
 repeat walk_at "pq"
 refine⟨((k1).trans k2).trans k3,fun s9 k9=>?_⟩
 repeat walk_at "pq"
 refine⟨_,_,_,_,rfl,get_new _ _,rfl,rfl,?_⟩
 repeat walk_at "pq"
 exact h _ _ (k0.trans (k9.trans ((Keep.push _ _).trans (Keep.push _ _)))).trunc (trunc_ob.trans (get_new _ _))
end
end Mine
end
section
namespace Mine
open PySem
theorem notList{σ:Store}{i:Nat}{kvs:List (Str×AV)}(h:σ[i]? =some (.dstr kvs)):listOf σ (.ob i)=none:=listNot h fun _ e=>nomatch e
theorem in_dict{σ:Store}{i:Nat}{kvs:List (Str×AV)}{x:Str}(h:σ[i]? =some (.dstr kvs)):inA σ (.str x) (.ob i)=some (look x kvs).isSome:=by
 show(match listOf σ (.ob i)with|some _=>_|none=>_)=_
 rw[notList h]
 show(match dstrOf σ (.ob i)with|some _=>_|none=>_)=_
 rw[dstrOf_ob h]
 rfl
theorem notin_dict{σ:Store}{i:Nat}{kvs:List (Str×AV)}{x:Str}(h:σ[i]? =some (.dstr kvs)):cmpA σ .NotIn (.str x) (.ob i)=some (!(look x kvs).isSome):=by
 show(inA σ (.str x) (.ob i)).map (!·)=_
 rw[in_dict h]
 rfl
theorem item_dict{σ:Store}{i:Nat}{kvs:List (Str×AV)}{x:Str}{v:AV}(h:σ[i]? =some (.dstr kvs))(hl:look x kvs=some v):itemA σ (.ob i) (.str x)=some v:=by
 show(match listOf σ (.ob i)with|some _=>_|none=>_)=_
 rw[notList h]
 show(match dintOf σ (.ob i)with|some _=>_|none=>_)=_
 rw[show dintOf σ (.ob i)=none from by
  show(match σ[i]? with|some o=>_|none=>none)=_
  rw[h]]
 show(dstrOf σ (.ob i)).bind _=_
 rw[dstrOf_ob h]
 exact hl
theorem ty_tuple_list{σ:Store}{n:Nat}{xs:List AV}(h:σ[n]? =some (.list xs)):typeA σ "tuple" [.ob n]= .ok (.tup xs) σ:=by
 show ofO (listOf σ (.ob n)) _=_
 rw[listOf_ob h]
 rfl
section
variable{sc₀:Addr→Option (List Int)}{k d:Nat}{σ:Store}{kvs:List (Str×AV)}{Q:AV→Store→Prop}{T U:AV}
theorem placed_x(hd:σ[d]? =some (.dstr kvs))(hx:look "?x" kvs=some T)(h:∀σ',Keep σ σ'→Q T σ'):Ca (PP sc₀) (k+40) 119 [pX,.ob d] σ Q:=by
 refine ca' rfl rfl ?_
 repeat walk_at "pq"
 refine apE_fn rfl rfl rfl (isvar_x fun s1 k1=>?_)
 repeat walk_at "pq"
 refine OfS.mk (notin_dict (k1 _ _ hd)) ?_
 refine⟨_,rfl,?_⟩
 refine sel_f (by rw[show look _ kvs=some T from hx];rfl) ?_
 repeat walk_at "pq"
 refine OfS.mk (item_dict (k1 _ _ hd) hx) ?_
 repeat walk_at "pq"
 exact h _ k1.trunc
theorem placed_y(hd:σ[d]? =some (.dstr kvs))(hx:look "?y" kvs=some T)(h:∀σ',Keep σ σ'→Q T σ'):Ca (PP sc₀) (k+40) 119 [pY,.ob d] σ Q:=by
 refine ca' rfl rfl ?_
 repeat walk_at "pq"
 refine apE_fn rfl rfl rfl (isvar_y fun s1 k1=>?_)
 repeat walk_at "pq"
 refine OfS.mk (notin_dict (k1 _ _ hd)) ?_
 refine⟨_,rfl,?_⟩
 refine sel_f (by rw[show look _ kvs=some T from hx];rfl) ?_
 repeat walk_at "pq"
 refine OfS.mk (item_dict (k1 _ _ hd) hx) ?_
 repeat walk_at "pq"
 exact h _ k1.trunc
noncomputable def PlacedTo(sc₀:Addr→Option (List Int))(d:Nat)(kvs:List (Str×AV))(N:Nat)(p T:AV):Prop:=∀{k:Nat} {σ:Store} {Q:AV→Store→Prop},σ[d]? =some (.dstr kvs)→(∀σ',Keep σ σ'→Q T σ')→Ca (PP sc₀) (k+N) 119 [p,.ob d] σ Q
theorem placed_1{op:Str}{kid:AV}{N:Nat}(hkid:PlacedTo sc₀ d kvs N kid T):PlacedTo sc₀ d kvs (N+40) (.tup [.str op,kid]) (.tup [.str op,T]):=by
 intro k σ Q hd h
 show Ca _ (k+N+40) _ _ _ _
 refine ca' rfl rfl ?_
 repeat walk_at "pq"
 refine apE_fn rfl rfl rfl (isvar_1 fun s1 k1=>?_)
 repeat walk_at "pq"
 refine apE_fn rfl rfl rfl ((Ca.up (n:=N) up_le fun _=>hkid (k1 _ _ hd) fun s2 k2=>?_))
 repeat walk_at "pq"
 refine OkO.mk (ty_tuple_list (get_new _ _)) ?_
 repeat walk_at "pq"
 exact h _ ((k1.trans k2).trans (Keep.push _ _)).trunc
theorem placed_2{op:Str}{kid kid2:AV}{N:Nat}(hkid:PlacedTo sc₀ d kvs N kid T)(hkid2:PlacedTo sc₀ d kvs N kid2 U):PlacedTo sc₀ d kvs (N+40) (.tup [.str op,kid,kid2]) (.tup [.str op,T,U]):=by
 intro k σ Q hd h
 show Ca _ (k+N+40) _ _ _ _
 refine ca' rfl rfl ?_
 repeat walk_at "pq"
 refine apE_fn rfl rfl rfl (isvar_2 fun s1 k1=>?_)
 repeat walk_at "pq"
 refine apE_fn rfl rfl rfl ((Ca.up (n:=N) up_le fun _=>hkid (k1 _ _ hd) fun s2 k2=>?_))
 repeat walk_at "pq"
 refine apE_fn rfl rfl rfl ((Ca.up (n:=N) up_le fun _=>hkid2 (k2 _ _ (k1 _ _ hd)) fun s3 k3=>?_))
 repeat walk_at "pq"
 refine OkO.mk (ty_tuple_list (get_new _ _)) ?_
 repeat walk_at "pq"
 exact h _ (((k1.trans k2).trans k3).trans (Keep.push _ _)).trunc
theorem placed_px(hx:look "?x" kvs=some T):PlacedTo sc₀ d kvs 40 pX T:=fun hd h=>placed_x hd hx h
theorem placed_py(hx:look "?y" kvs=some T):PlacedTo sc₀ d kvs 40 pY T:=fun hd h=>placed_y hd hx h
end
end Mine
end
section
namespace Mine
open PySem
inductive Tm where
 |a
 |b
 |f (x:Tm)
 |g (x y:Tm)
noncomputable def Tm.ctorIdx(x:Tm):Nat:=Tm.casesOn x 0 1 (fun _=>2) (fun _ _=>3)
noncomputable def Tm.enc:Tm→AV
 | .a=> .tup [.str "a"]
 | .b=> .tup [.str "b"]
 | .f x=> .tup [.str "f",x.enc]
 | .g x y=> .tup [.str "g",x.enc,y.enc]
noncomputable def Tm.kid:Tm→Nat→Option Tm
 | .f x,0=>some x
 | .g x _,0=>some x
 | .g _ y,1=>some y
 |_,_=>none
noncomputable def Tm.at:Tm→List Nat→Option Tm
 |t,[]=>some t
 |t,k::p=>(t.kid k).bind fun u=>u.at p
theorem at_cons{t u:Tm}{j:Nat}{p:List Nat}(h:t.at (j::p)=some u):∃v,t.kid j=some v∧v.at p=some u:=Option.bind_eq_some_iff.mp h
noncomputable def path(p:List Nat):List AV:=p.map fun(k:Nat)=> .int (k:Int)
section
variable{P:Prg}{sc:Scope}{ρ:Loc}{σ:Store}{k:Nat}{R:Fl×Loc→Store→Prop}{X:XA×Loc→Store→Prop}{t:Expr}{body:List Stmt}
theorem for_inv{I:List AV→Loc→Store→Prop}{xs:List AV}(h0:I xs ρ σ)(hs:∀x xs ρ σ,I (x::xs) ρ σ→∃ρ₁,bindA sc t x ρ=some ρ₁∧Ex P k sc ρ₁ σ body (Loop (I xs) R))(he:∀ρ σ,I [] ρ σ→R (.next,ρ) σ):For P k sc t body ρ xs σ R:=by
 induction xs generalizing ρ σ with
 |nil=>exact for_nil (he _ _ h0)
 |cons x xs ih=>
  refine ea11 (hs x xs ρ σ h0) fun ρ₁ hb h=>?_
  refine for_cons hb (h.mono fun q σ₁ hq=>?_)
  obtain⟨q1,q2⟩:=q
  cases q1 with
  |next=>exact ih hq
  |ret v=>exact hq
theorem forX_inv{I:List AV→Loc→Store→Prop}{xs:List AV}(h0:I xs ρ σ)(hn:∀ρ σ,¬I [] ρ σ)(hs:∀x xs ρ σ,I (x::xs) ρ σ→∃ρ₁,bindA sc t x ρ=some ρ₁∧(ExX P k sc ρ₁ σ body X∨Ex P k sc ρ₁ σ body fun q σ₁=>q.1= .next∧I xs q.2 σ₁)):ForX P k sc t body ρ xs σ X:=by
 induction xs generalizing ρ σ with
 |nil=>exact absurd h0 (hn _ _)
 |cons x xs ih=>
  refine ea11 (hs x xs ρ σ h0) fun ρ₁ hb h=>?_
  rcases h with h|h
  ·exact forX_here hb h
  ·exact forX_later hb (h.mono fun q σ₁ hq=>⟨hq.1,ih hq.2⟩)
end
theorem kid_cases{t u:Tm}{j:Nat}(h:t.kid j=some u):(t= .f u∧j=0)∨(∃y,t= .g u y∧j=0)∨(∃x,t= .g x u∧j=1):=by
 cases t with
 |a=>exact noneNe h
 |b=>exact noneNe h
 |f x=>
  cases j with
  |zero=>exact .inl ⟨congrArg Tm.f (Option.some.inj h),rfl⟩
  |succ j=>exact noneNe h
 |g x y=>
  cases j with
  |zero=>exact .inr (.inl ⟨y,congrArg (fun z=>Tm.g z y) (Option.some.inj h),rfl⟩)
  |succ j=>
   cases j with
   |zero=>exact .inr (.inr ⟨x,congrArg (Tm.g x) (Option.some.inj h),rfl⟩)
   |succ j=>exact noneNe h
section
variable{sc₀:Addr→Option (List Int)}{k:Nat}{σ:Store}{Q:AV→Store→Prop}{Y:XA→Store→Prop}
set_option tactic.hygienic true in
theorem part_at_ok{t u:Tm}{p:List Nat}(hp:t.at p=some u)(h:∀σ',Keep σ σ'→Q u.enc σ'):Ca (PP sc₀) (k+30) 131 [t.enc,.tup (path p)] σ Q:=by
 refine ca' rfl rfl ?_
 repeat walk_at "pq"
 refine for_inv (I:=fun xs ρ σ'=>σ'=σ∧∃T q,xs=path q∧T.at q=some u∧look "t" ρ=some T.enc∧only ["t","k","path"] ρ) ⟨rfl,t,p,rfl,hp,rfl,?_⟩ (fun x xs ρ σ' hI=>?_) (fun ρ σ' hI=>?_)
 ·exact only.cons rfl (only.cons rfl fun _ _=>rfl)
 ·refine ea01 hI fun z1=>?_;clear hI;subst z1;intro h1;refine ea23 h1 fun T q hq hat ht ho=>?_;clear h1
  cases q with
  |nil=>cases hq
  |cons j q=>
   refine ea01 (List.cons.inj hq) fun z1=>?_;subst z1;intro z2;subst z2
   refine ea11 (at_cons hat) fun v hv hat=>?_
   have ht':look "t" (("k",.int (j:Int))::ρ)=some T.enc:=look_tail rfl ht
   have ho':=only.cons (y:="k") (v:= .int (j:Int)) rfl ho
   rcases kid_cases hv with ⟨rfl,rfl⟩|⟨y,rfl,rfl⟩|⟨y,rfl,rfl⟩
   all_goals
    refine⟨_,rfl,?_⟩
    repeat walk_at "pq"
    exact⟨_,_,rfl,hat,rfl,only.cons rfl ho'⟩
 ·refine ea01 hI fun z1=>?_;clear hI;subst z1;intro h1;refine ea23 h1 fun T q hq hat ht ho=>?_;clear h1
  cases q with
  |cons j q=>cases hq
  |nil=>
   cases hat
   repeat walk_at "pq"
   exact h _ (Keep.refl _).trunc
set_option tactic.hygienic true in
theorem part_at_bad{t u:Tm}{p:List Nat}(hp:t.at p=some u)(h:∀σ',Keep σ σ'→Y .tf σ'):CaX (PP sc₀) (k+30) 131 [t.enc,.tup (path p++[.int 9])] σ Y:=by
 refine caX' rfl rfl ?_
 refine exX_here (stX_for rfl rfl ?_)
 repeat walk_at "pq"
 refine overX_tup ?_
 refine forX_inv (I:=fun xs ρ σ'=>σ'=σ∧∃T q,xs=path q++[.int 9]∧T.at q=some u∧look "t" ρ=some T.enc∧only ["t","k","path"] ρ) ⟨rfl,t,p,rfl,hp,rfl,?_⟩ (fun ρ σ' hI=>?_) (fun x xs ρ σ' hI=>?_)
 ·exact only.cons rfl (only.cons rfl fun _ _=>rfl)
 ·refine ea01 hI fun _ h1=>?_;clear hI;refine ea21 h1 fun T q hq _=>?_;clear h1
  cases q<;>cases hq
 ·refine ea01 hI fun z1=>?_;clear hI;subst z1;intro h1;refine ea23 h1 fun T q hq hat ht ho=>?_;clear h1
  cases q with
  |nil=>
   refine ea01 (List.cons.inj hq) fun z1=>?_;subst z1;intro z2;subst z2
   refine⟨_,rfl,.inl ?_⟩
   have ht':look "t" (("k",.int 9)::ρ)=some T.enc:=look_tail rfl ht
   have ho':=only.cons (y:="k") (v:= .int 9) rfl ho
   refine exX_here (stX_if ?_)
   cases T
   all_goals
    repeat walk_at "pq"
    refine exX_here (stX_raise (raise_W rfl (name_glob rfl (onlyF ho' rfl) rfl rfl) ?_))
    repeat walk_at "pq"
    exact h _ (Keep.refl _).trunc
  |cons j q=>
   refine ea01 (List.cons.inj hq) fun z1=>?_;subst z1;intro z2;subst z2
   refine ea11 (at_cons hat) fun v hv hat=>?_
   have ht':look "t" (("k",.int (j:Int))::ρ)=some T.enc:=look_tail rfl ht
   have ho':=only.cons (y:="k") (v:= .int (j:Int)) rfl ho
   rcases kid_cases hv with ⟨rfl,rfl⟩|⟨y,rfl,rfl⟩|⟨y,rfl,rfl⟩
   all_goals
    refine⟨_,rfl,.inr ?_⟩
    repeat walk_at "pq"
    exact⟨_,_,rfl,hat,rfl,only.cons rfl ho'⟩
end
end Mine
end
section
namespace Mine
open PySem
noncomputable def Tm.putK(t:Tm)(j:Nat)(r:Tm→Tm):Tm:=match t with
 | .a=> .a
 | .b=> .b
 | .f x=>match j with
   |0=> .f (r x)
   |_+1=> .f x
 | .g x y=>match j with
   |0=> .g (r x) y
   |k+1=>match k with
    |0=> .g x (r y)
    |_+1=> .g x y
noncomputable def Tm.put:Tm→List Nat→Tm→Tm
 |_,[],u=>u
 |t,j::p,u=>t.putK j fun x=>x.put p u
noncomputable def Tm.size:Tm→Nat
 | .a=>1
 | .b=>1
 | .f x=>1+x.size
 | .g x y=>1+(x.size+y.size)
theorem put_nil{t u:Tm}:t.put [] u=u:=rfl
theorem path_nil_eq{q:List Nat}:PyData.eqv (.tuple (q.map fun(k:Nat)=>PyData.int (k:Int))) (.tuple [])=q.isEmpty:=by
 cases q<;>rfl
theorem mapO_ints{σ:Store}{n:Nat}:∀q:List Nat,mapO (toPy σ (n+1)) (path q)=some (q.map fun(k:Nat)=>PyData.int (k:Int))
 |[]=>rfl
 |k::q=>by
  exact mapO_cons rfl (mapO_ints q)
theorem toPy_path{σ:Store}{n:Nat}(q:List Nat):toPy σ (n+2) (.tup (path q))=some (.tuple (q.map fun(k:Nat)=>PyData.int (k:Int))):=by
 show(mapO (toPy σ (n+1)) (path q)).map PyData.tuple=_
 rw[mapO_ints]
 rfl
theorem shp_ints(q:List Nat):shpL (.tuple (q.map fun(k:Nat)=>PyData.int (k:Int)))=true:=by
 have h1:laysL (q.map fun(k:Nat)=>PyData.int (k:Int))=true:=by
  induction q with
  |nil=>rfl
  |cons k q ih=>exact ih
 have h2:PyData.depthAll (q.map fun(k:Nat)=>PyData.int (k:Int))=0:=by
  induction q with
  |nil=>rfl
  |cons k q ih=>
   exact(Nat.zero_max _).trans (ih h1)
 unfold shpL
 show(laysL _&&decide (PyData.depthAll _+1≤64))=true
 rw[h1,h2]
 rfl
theorem eq_path_nil{σ:Store}(q:List Nat):cmpA σ .Eq (.tup (path q)) (.tup [])=some q.isEmpty:=by
 rw[eq_data (toPy_path q) (dy:= .tuple []) rfl (shp_ints q) rfl,path_nil_eq]
section
variable{sc₀:Addr→Option (List Int)}{k:Nat}{σ:Store}{Q:AV→Store→Prop}{Y:XA→Store→Prop}
set_option tactic.hygienic true in
theorem replaced_ok:∀(p:List Nat) {t v:Tm} {k:Nat} {σ:Store} {Q:AV→Store→Prop} (u:Tm),t.at p=some v→(∀σ',Keep σ σ'→Q (t.put p u).enc σ')→Ca (PP sc₀) (k+10*p.length+50) 138 [t.enc,.tup (path p),u.enc] σ Q
 |[],t,v,k,σ,Q,u,_,h=>by
  refine ca' rfl rfl ?_
  repeat walk_at "pq"
  rw[put_nil]at h
  exact h _ (Keep.refl _).trunc
 |j::p,t,v,k,σ,Q,u,hp,h=>by
  show Ca (PP sc₀) (k+10*p.length+60) _ _ _ _
  generalize hK:k+10*p.length=K
  refine ea11 (at_cons hp) fun w hw hp=>?_
  have h1:t.at [j]=some w:=by
   show(t.kid j).bind _=_
   rw[hw]
   rfl
  refine ca' rfl rfl ?_
  rcases kid_cases hw with ⟨rfl,rfl⟩|⟨y,rfl,rfl⟩|⟨y,rfl,rfl⟩
  all_goals
   repeat walk_at "pq"
   refine OfS.mk (eq_path_nil _) ?_
   repeat walk_at "pq"
   refine apE_fn rfl rfl rfl (part_at_ok h1 fun s1 k1=>?_)
   repeat walk_at "pq"
   refine apE_fn (P:=PP sc₀) (a:=138) rfl rfl rfl ?_
   refine Ca.lift (c:=50) (d:=10*p.length) (lift_le hK (by decide)) fun _=>?_
   refine replaced_ok p u hp fun s2 k2=>?_
   repeat walk_at "pq"
   exact h _ (k1.trans k2).trunc
end
end Mine
end
section
namespace Mine
open PySem
theorem bi_sum{σ:Store}{n:Nat}{xs:List AV}{l:List Int}(h:σ[n]? =some (.list xs))(hi:ints? xs=some l):builtinA σ "sum" [.ob n]= .ok (.int (sumL l)) σ:=by
 show ofO (listOf σ (.ob n)) _=_
 rw[listOf_ob h]
 show ofO (ints? xs) _=_
 rw[hi]
 rfl
noncomputable def Tm.depth:Tm→Nat
 | .a=>0
 | .b=>0
 | .f x=>x.depth+1
 | .g x y=>max x.depth y.depth+1
section
variable{sc₀:Addr→Option (List Int)}{k:Nat}{σ:Store}{Q:AV→Store→Prop}{Y:XA→Store→Prop}
set_option tactic.hygienic true in
theorem law_put_ok:∀(p:List Nat) {t v:Tm} {k:Nat} {σ:Store} {Q:AV→Store→Prop} (u:Tm),t.at p=some v→(∀σ',Keep σ σ'→Q (t.put p u).enc σ')→Ca (PP sc₀) (k+10*p.length+30) 384 [t.enc,.tup (path p),u.enc] σ Q
 |[],t,v,k,σ,Q,u,_,h=>by
  refine ca' rfl rfl ?_
  repeat walk_at "pq"
  rw[put_nil]at h
  exact h _ (Keep.refl _).trunc
 |j::p,t,v,k,σ,Q,u,hp,h=>by
  show Ca (PP sc₀) (k+10*p.length+40) _ _ _ _
  generalize hK:k+10*p.length=K
  refine ea11 (at_cons hp) fun w hw hp=>?_
  refine ca' rfl rfl ?_
  rcases kid_cases hw with ⟨rfl,rfl⟩|⟨y,rfl,rfl⟩|⟨y,rfl,rfl⟩
  all_goals
   repeat walk_at "pq"
   refine OfS.mk (eq_path_nil _) ?_
   repeat walk_at "pq"
   refine apE_fn (P:=PP sc₀) (a:=384) rfl rfl rfl ?_
   refine Ca.lift (c:=30) (d:=10*p.length) (lift_le hK (by decide)) fun _=>?_
   refine law_put_ok p u hp fun s2 k2=>?_
   repeat walk_at "pq"
   exact h _ k2.trunc
theorem law_size_ok:∀(t:Tm) {k:Nat} {σ:Store} {Q:AV→Store→Prop},(∀σ',Keep σ σ'→Q (.int (t.size:Int)) σ')→Ca (PP sc₀) (k+10*t.depth+20) 389 [t.enc] σ Q
 | .a,k,σ,Q,h=>by
   refine ca' rfl rfl ?_
   repeat walk_at "pq"
   refine OkO.mk (bi_sum (get_new _ _) rfl) ?_
   repeat walk_at "pq"
   exact h _ (Keep.push _ _).trunc
 | .b,k,σ,Q,h=>by
   refine ca' rfl rfl ?_
   repeat walk_at "pq"
   refine OkO.mk (bi_sum (get_new _ _) rfl) ?_
   repeat walk_at "pq"
   exact h _ (Keep.push _ _).trunc
 | .f x,k,σ,Q,h=>by
   show Ca (PP sc₀) (k+10*x.depth+30) _ _ _ _
   generalize hK:k+10*x.depth=K
   refine ca' rfl rfl ?_
   repeat walk_at "pq"
   refine apE_fn (P:=PP sc₀) (a:=389) rfl rfl rfl ?_
   refine Ca.lift (c:=20) (d:=10*x.depth) (lift_le hK (by decide)) fun _=>?_
   refine law_size_ok x fun s1 k1=>?_
   repeat walk_at "pq"
   refine OkO.mk (bi_sum (get_new _ _) rfl) ?_
   repeat walk_at "pq"
   have e:((Tm.f x).size:Int)=1+sumL [(x.size:Int)]:=(Int.natCast_add 1 _).trans (congrArg (1+·) (Int.add_zero _).symm)
   rw[e]at h
   exact h _ (k1.trans (Keep.push _ _)).trunc
 | .g x y,k,σ,Q,h=>by
   show Ca (PP sc₀) (k+10*max x.depth y.depth+30) _ _ _ _
   generalize hK:k+10*max x.depth y.depth=K
   refine ca' rfl rfl ?_
   repeat walk_at "pq"
   refine apE_fn (P:=PP sc₀) (a:=389) rfl rfl rfl ?_
   refine Ca.lift (c:=20) (d:=10*x.depth) (lift_le' hK (Nat.mul_le_mul_left 10 (Nat.le_max_left _ _)) (by decide)) fun _=>?_
   refine law_size_ok x fun s1 k1=>?_
   repeat walk_at "pq"
   refine apE_fn (P:=PP sc₀) (a:=389) rfl rfl rfl ?_
   refine Ca.lift (c:=20) (d:=10*y.depth) (lift_le' hK (Nat.mul_le_mul_left 10 (Nat.le_max_right _ _)) (by decide)) fun _=>?_
   refine law_size_ok y fun s2 k2=>?_
   repeat walk_at "pq"
   refine OkO.mk (bi_sum (get_new _ _) rfl) ?_
   repeat walk_at "pq"
   have e:((Tm.g x y).size:Int)=1+sumL [(x.size:Int),(y.size:Int)]:=(Int.natCast_add 1 _).trans (congrArg (1+·) ((Int.natCast_add _ _).trans (congrArg (_+·) (Int.add_zero _).symm)))
   rw[e]at h
   exact h _ ((k1.trans k2).trans (Keep.push _ _)).trunc
end
end Mine
end
section
namespace Mine
open PySem
section
variable{P:Prg}{sc:Scope}{ρ:Loc}{σ:Store}{k:Nat}{R:Fl×Loc→Store→Prop}{t:Expr}{body:List Stmt}
theorem while_inv{I:Nat→Loc→Store→Prop}(hs:∀m ρ σ,I m ρ σ→Ts P k sc ρ σ t (kWh P k sc ρ body (fun ρ₂ σ₂=>∃m',m'<m∧I m' ρ₂ σ₂) R)):
 ∀(N m:Nat) (ρ:Loc) (σ:Store),I m ρ σ→m<N→While P k sc t body N ρ σ R
 |0,_,_,_,_,h=>absurd h (Nat.not_lt_zero _)
 |N+1,m,ρ,σ,hI,hm=>by
  refine while_go ((hs m ρ σ hI).mono fun b σ₁ h=>?_)
  cases b with
  |false=>exact h
  |true=>
   refine sel_t rfl (WO.mono h fun q σ₂ h=>?_)
   obtain⟨q1,q2⟩:=q
   cases q1 with
   |next=>
    refine ea11 h fun m' hlt hI'=>?_;clear h
    exact while_inv hs N m' q2 σ₂ hI' (by omega)
   |ret v=>exact h
end
theorem bi_len{σ:Store}{n:Nat}{xs:List AV}(h:σ[n]? =some (.list xs)):builtinA σ "len" [.ob n]= .ok (.int xs.length) σ:=by
 show ofO (listOf σ (.ob n)) _=_
 rw[listOf_ob h]
 rfl
theorem bi_isinst_list{σ:Store}{n:Nat}{xs:List AV}(h:σ[n]? =some (.list xs)):builtinA σ "isinstance" [.ob n,.fix (.type "tuple")]= .ok (.bool false) σ:=by
 show orStuck (((listOf σ (.ob n)).map fun _=>false).map AV.bool) σ=_
 rw[listOf_ob h]
 rfl
noncomputable def sizeL:List Tm→Nat
 |[]=>0
 |t::r=>t.size+sizeL r
theorem sizeL_app:∀s r:List Tm,sizeL (s++r)=sizeL s+sizeL r
 |[],r=>(Nat.zero_add _).symm
 |t::s,r=>(congrArg (t.size+·) (sizeL_app s r)).trans (Nat.add_assoc _ _ _).symm
theorem size_pos(t:Tm):0<t.size:=by cases t<;>first |exact Nat.zero_lt_one|exact Nat.lt_of_lt_of_le Nat.zero_lt_one (Nat.le_add_right _ _)
theorem len_sizeL:∀s:List Tm,s.length≤sizeL s
 |[]=>Nat.le_refl _
 |t::s=>Nat.le_trans (Nat.add_le_add (len_sizeL s) (size_pos t)) (Nat.le_of_eq (Nat.add_comm _ _))
noncomputable def Tm.kids:Tm→List Tm
 | .a=>[]
 | .b=>[]
 | .f x=>[x]
 | .g x y=>[x,y]
theorem size_kids(t:Tm):t.size=1+sizeL t.kids:=by cases t<;>rfl
section
variable{sc₀:Addr→Option (List Int)}{k:Nat}{σ:Store}{Q:AV→Store→Prop}{Y:XA→Store→Prop}
theorem plain_ok{t:Tm}(ht:t.size≤500)(h:∀σ',Keep σ σ'→Q (.bool true) σ'):Ca (PP sc₀) (k+40) 152 [t.enc] σ Q:=by
 refine ca' rfl rfl ?_
 repeat walk_at "pq"
 refine while_inv (I:=fun m ρ S=>m≤500∧∃s:List Tm,m=sizeL s∧S[σ.length]? =some (.list (s.map Tm.enc))∧Keep σ S∧look "waiting" ρ=some (.ob σ.length)∧only ["thing","waiting","one"] ρ) (fun m ρ S hI=>?_) turns t.size _ _ ⟨ht,[t],rfl,get_new _ _,Keep.push _ _,rfl,?_⟩ (by unfold turns;omega)
 ·refine ea01 hI fun hm h1=>?_;clear hI;refine ea14 h1 fun s z1=>?_;clear h1;subst z1;intro hg hk hw ho
  rcases List.eq_nil_or_concat s with rfl|⟨r,u,rfl⟩
  ·repeat walk_at "pq"
   refine OkO.mk (bi_len hg) ?_
   repeat walk_at "pq"
   exact h _ hk.trunc
  ·repeat walk_at "pq"
   refine OkO.mk (bi_len hg) ?_
   repeat walk_at "pq"
   have hg':S[σ.length]? =some (.list (r.map Tm.enc++[u.enc])):=by simpa using hg
   have hz:sizeL r+sizeL [u]≤500:=by simpa [List.concat_eq_append,sizeL_app]using hm
   have hlt:sizeL (r++u.kids)<sizeL (r.concat u):=by
    rw[List.concat_eq_append,sizeL_app,sizeL_app]
    exact Nat.add_lt_add_left (Nat.lt_of_lt_of_eq (Nat.lt_add_of_pos_left Nat.zero_lt_one) (size_kids u).symm) _
   have hlen:=len_sizeL (r++u.kids)
   have hzz:sizeL (r++u.kids)≤500:=by omega
   refine sel_t (by simp) ?_
   repeat walk_at "pq"
   refine OfS.mk (methB_pop hg') ?_
   repeat walk_at "pq"
   refine go_pop hg' ?_
   have ho':=only.cons (y:="one") (v:=u.enc) rfl ho
   have hw':look "waiting" (("one",u.enc)::ρ)=some (.ob σ.length):=look_tail rfl hw
   have fin:∀ys,ys=u.kids.map Tm.enc→Nat.ble ((r.map Tm.enc).length+ys.length) bound=true:=fun ys e=>by
    subst e
    refine Nat.ble_eq_true_of_le ?_
    simp only [List.length_append]at hlen
    simp only [List.length_map]
    unfold bound;omega
   cases u
   all_goals
    repeat walk_at "pq"
    refine OfS.mk (methB_ext (get_set hg')) ?_
    repeat walk_at "pq"
    refine go_ext (get_set hg') rfl (fin _ rfl) ?_
    repeat walk_at "pq"
    refine⟨_,hlt,hzz,_,rfl,(get_set (get_set hg')).trans (by rw[List.map_append];rfl),(hk.set_new (Nat.le_refl _)).set_new (Nat.le_refl _),hw',ho'⟩
 ·exact only.cons rfl (only.cons rfl fun _ _=>rfl)
theorem plain_var(h:∀σ',Keep σ σ'→Q (.bool false) σ'):Ca (PP sc₀) (k+40) 152 [pY] σ Q:=by
 refine ca' rfl rfl ?_
 repeat walk_at "pq"
 refine while_go (n:=999) ?_
 repeat walk_at "pq"
 refine OkO.mk (bi_len (get_new _ _)) ?_
 repeat walk_at "pq"
 refine OfS.mk (methB_pop (get_new _ _)) ?_
 repeat walk_at "pq"
 refine go_pop (xs:=[]) (get_new _ _) ?_
 repeat walk_at "pq"
 exact h _ ((Keep.push _ _).set_new (Nat.le_refl _)).trunc
theorem plain_list{n:Nat}{xs:List AV}(hl:σ[n]? =some (.list xs))(h:∀σ',Keep σ σ'→Q (.bool false) σ'):Ca (PP sc₀) (k+40) 152 [.ob n] σ Q:=by
 have hn:=get_lt hl
 refine ca' rfl rfl ?_
 repeat walk_at "pq"
 refine while_go (n:=999) ?_
 repeat walk_at "pq"
 refine OkO.mk (bi_len (get_new _ _)) ?_
 repeat walk_at "pq"
 refine OfS.mk (methB_pop (get_new _ _)) ?_
 repeat walk_at "pq"
 refine go_pop (xs:=[]) (get_new _ _) ?_
 repeat walk_at "pq"
 refine OkO.mk (bi_isinst_list (get_set_ne (Keep.push _ _ _ _ hl) (by omega))) ?_
 repeat walk_at "pq"
 exact h _ ((Keep.push _ _).set_new (Nat.le_refl _)).trunc
end
end Mine
end
section
namespace Mine
open PySem
theorem toPy_list{σ:Store}{n m:Nat}{xs:List AV}{ds:List PyData}(h:σ[n]? =some (.list xs))(hm:mapO (toPy σ m) xs=some ds):toPy σ (m+1) (.ob n)=some (.list ds):=by
 show(listOf σ (.ob n)).bind _=_
 rw[listOf_ob h]
 show(mapO (toPy σ m) xs).map _=_
 rw[hm]
 rfl
section
variable{sc₀:Addr→Option (List Int)}{k:Nat}{σ:Store}{Q:AV→Store→Prop}{Y:XA→Store→Prop}
theorem places_0(h:∀σ',Keep σ σ'→Q (.bool true) σ'):Ca (PP sc₀) (k+80) 157 [.tup []] σ Q:=by
 refine ca' rfl rfl ?_
 repeat walk_at "pq"
 refine OfS.mk (ne_data (toPy_list (by walk_at "lk") rfl) (toPy_list (by walk_at "lk") rfl) rfl rfl) ?_
 repeat walk_at "pq"
 refine over_pure (get_new _ _) ?_
 repeat walk_at "pq"
 refine OfS.mk (ne_data (toPy_list (by walk_at "lk") rfl) (toPy_list (by walk_at "lk") rfl) rfl rfl) ?_
 repeat walk_at "pq"
 refine⟨_,_,_,_,rfl,by walk_at "lk",rfl,rfl,?_⟩
 refine OfS.mk (eq_data (toPy_list (by walk_at "lk") rfl) (toPy_list (by walk_at "lk") rfl) rfl rfl) ?_
 repeat walk_at "pq"
 refine OfS.mk (eq_data (toPy_list (by walk_at "lk") rfl) (toPy_list (by walk_at "lk") rfl) rfl rfl) ?_
 repeat walk_at "pq"
 exact h _ (Keep.trunc (by walk_at "kp"))
theorem places_1{t:Tm}(ht:t.size≤500)(h:∀σ',Keep σ σ'→Q (.bool true) σ'):Ca (PP sc₀) (k+80) 157 [.tup [.tup [.str "?x",t.enc]]] σ Q:=by
 refine ca' rfl rfl ?_
 repeat walk_at "pq"
 refine OfS.mk (ne_data (toPy_list (by walk_at "lk") rfl) (toPy_list (by walk_at "lk") rfl) rfl rfl) ?_
 repeat walk_at "pq"
 refine over_pure (get_new _ _) ?_
 repeat walk_at "pq"
 refine OfS.mk (ne_data (toPy_list (by walk_at "lk") rfl) (toPy_list (by walk_at "lk") rfl) rfl rfl) ?_
 repeat walk_at "pq"
 refine⟨_,_,_,_,rfl,by walk_at "lk",rfl,rfl,?_⟩
 refine OfS.mk (eq_data (toPy_list (by walk_at "lk") rfl) (toPy_list (by walk_at "lk") rfl) rfl rfl) ?_
 repeat walk_at "pq"
 refine apE_fn (P:=PP sc₀) (a:=152) rfl rfl rfl (plain_ok ht fun s1 k1=>?_)
 repeat walk_at "pq"
 refine OfS.mk (eq_data (toPy_list (by walk_at "lk") rfl) (toPy_list (by walk_at "lk") rfl) rfl rfl) ?_
 repeat walk_at "pq"
 exact h _ (Keep.trunc (by walk_at "kp"))
theorem places_2{t u:Tm}(ht:t.size≤500)(hu:u.size≤500)(h:∀σ',Keep σ σ'→Q (.bool true) σ'):Ca (PP sc₀) (k+80) 157 [.tup [.tup [.str "?x",t.enc],.tup [.str "?y",u.enc]]] σ Q:=by
 refine ca' rfl rfl ?_
 repeat walk_at "pq"
 refine OfS.mk (ne_data (toPy_list (by walk_at "lk") rfl) (toPy_list (by walk_at "lk") rfl) rfl rfl) ?_
 repeat walk_at "pq"
 refine over_pure (get_new _ _) ?_
 repeat walk_at "pq"
 refine OfS.mk (ne_data (toPy_list (by walk_at "lk") rfl) (toPy_list (by walk_at "lk") rfl) rfl rfl) ?_
 repeat walk_at "pq"
 refine⟨_,_,_,_,rfl,by walk_at "lk",rfl,rfl,?_⟩
 refine OfS.mk (eq_data (toPy_list (by walk_at "lk") rfl) (toPy_list (by walk_at "lk") rfl) rfl rfl) ?_
 repeat walk_at "pq"
 refine apE_fn (P:=PP sc₀) (a:=152) rfl rfl rfl (plain_ok ht fun s1 k1=>?_)
 repeat walk_at "pq"
 refine apE_fn (P:=PP sc₀) (a:=152) rfl rfl rfl (plain_ok hu fun s2 k2=>?_)
 repeat walk_at "pq"
 refine OfS.mk (eq_data (toPy_list (by walk_at "lk") rfl) (toPy_list (by walk_at "lk") rfl) rfl rfl) ?_
 repeat walk_at "pq"
 exact h _ (Keep.trunc (by walk_at "kp"))
theorem places_13a(h:∀σ',Keep σ σ'→Q (.bool false) σ'):Ca (PP sc₀) (k+80) 157 [.tup [.tup [.str "?x"]]] σ Q:=by
 refine ca' rfl rfl ?_
 repeat walk_at "pq"
 refine OfS.mk (ne_data (toPy_list (by walk_at "lk") rfl) (toPy_list (by walk_at "lk") rfl) rfl rfl) ?_
 repeat walk_at "pq"
 exact h _ (Keep.trunc (by walk_at "kp"))
theorem places_13b{t:AV}(h:∀σ',Keep σ σ'→Q (.bool false) σ'):Ca (PP sc₀) (k+80) 157 [.tup [.tup [.str "?x",t],.tup [.str "?x"]]] σ Q:=by
 refine ca' rfl rfl ?_
 repeat walk_at "pq"
 refine OfS.mk (ne_data (toPy_list (by walk_at "lk") rfl) (toPy_list (by walk_at "lk") rfl) rfl rfl) ?_
 repeat walk_at "pq"
 exact h _ (Keep.trunc (by walk_at "kp"))
theorem places_13c{t u:AV}(h:∀σ',Keep σ σ'→Q (.bool false) σ'):Ca (PP sc₀) (k+80) 157 [.tup [.tup [.str "?x",t],.tup [.str "?y",u],.tup [.str "?x"]]] σ Q:=by
 refine ca' rfl rfl ?_
 repeat walk_at "pq"
 refine OfS.mk (ne_data (toPy_list (by walk_at "lk") rfl) (toPy_list (by walk_at "lk") rfl) rfl rfl) ?_
 repeat walk_at "pq"
 exact h _ (Keep.trunc (by walk_at "kp"))
theorem places_21(h:∀σ',Keep σ σ'→Q (.bool false) σ'):Ca (PP sc₀) (k+80) 157 [.tup [.str "?x"]] σ Q:=by
 refine ca' rfl rfl ?_
 repeat walk_at "pq"
 refine OfS.mk (ne_data (toPy_list (by walk_at "lk") rfl) (toPy_list (by walk_at "lk") rfl) rfl rfl) ?_
 repeat walk_at "pq"
 exact h _ (Keep.trunc (by walk_at "kp"))
theorem places_14(h:∀σ',Keep σ σ'→Q (.bool false) σ'):Ca (PP sc₀) (k+80) 157 [.tup [.tup [.str "x",.tup [.str "a"]]]] σ Q:=by
 refine ca' rfl rfl ?_
 repeat walk_at "pq"
 refine OfS.mk (ne_data (toPy_list (by walk_at "lk") rfl) (toPy_list (by walk_at "lk") rfl) rfl rfl) ?_
 repeat walk_at "pq"
 refine over_pure (get_new _ _) ?_
 repeat walk_at "pq"
 refine OfS.mk (ne_data (toPy_list (by walk_at "lk") rfl) (toPy_list (by walk_at "lk") rfl) rfl rfl) ?_
 repeat walk_at "pq"
 exact h _ (Keep.trunc (by walk_at "kp"))
theorem places_15(h:∀σ',Keep σ σ'→Q (.bool false) σ'):Ca (PP sc₀) (k+80) 157 [.tup [.tup [.str "?x",.tup [.str "a"]],.tup [.str "?x",.tup [.str "a"]]]] σ Q:=by
 refine ca' rfl rfl ?_
 repeat walk_at "pq"
 refine OfS.mk (ne_data (toPy_list (by walk_at "lk") rfl) (toPy_list (by walk_at "lk") rfl) rfl rfl) ?_
 repeat walk_at "pq"
 refine over_pure (get_new _ _) ?_
 repeat walk_at "pq"
 refine OfS.mk (ne_data (toPy_list (by walk_at "lk") rfl) (toPy_list (by walk_at "lk") rfl) rfl rfl) ?_
 repeat walk_at "pq"
 refine⟨_,_,_,_,rfl,by walk_at "lk",rfl,rfl,?_⟩
 refine OfS.mk (eq_data (toPy_list (by walk_at "lk") rfl) (toPy_list (by walk_at "lk") rfl) rfl rfl) ?_
 repeat walk_at "pq"
 exact h _ (Keep.trunc (by walk_at "kp"))
theorem places_16(h:∀σ',Keep σ σ'→Q (.bool false) σ'):Ca (PP sc₀) (k+80) 157 [.tup [.tup [.str "?x",pY]]] σ Q:=by
 refine ca' rfl rfl ?_
 repeat walk_at "pq"
 refine OfS.mk (ne_data (toPy_list (by walk_at "lk") rfl) (toPy_list (by walk_at "lk") rfl) rfl rfl) ?_
 repeat walk_at "pq"
 refine over_pure (get_new _ _) ?_
 repeat walk_at "pq"
 refine OfS.mk (ne_data (toPy_list (by walk_at "lk") rfl) (toPy_list (by walk_at "lk") rfl) rfl rfl) ?_
 repeat walk_at "pq"
 refine⟨_,_,_,_,rfl,by walk_at "lk",rfl,rfl,?_⟩
 refine OfS.mk (eq_data (toPy_list (by walk_at "lk") rfl) (toPy_list (by walk_at "lk") rfl) rfl rfl) ?_
 repeat walk_at "pq"
 refine apE_fn (P:=PP sc₀) (a:=152) rfl rfl rfl (plain_var fun s1 k1=>?_)
 repeat walk_at "pq"
 refine OfS.mk (eq_data (toPy_list (by walk_at "lk") rfl) (toPy_list (by walk_at "lk") rfl) rfl rfl) ?_
 repeat walk_at "pq"
 exact h _ (Keep.trunc (by walk_at "kp"))
theorem places_20{n:Nat}(hl:σ[n]? =some (.list [.str "a"]))(h:∀σ',Keep σ σ'→Q (.bool false) σ'):Ca (PP sc₀) (k+80) 157 [.tup [.tup [.str "?x",.ob n]]] σ Q:=by
 refine ca' rfl rfl ?_
 repeat walk_at "pq"
 refine OfS.mk (ne_data (toPy_list (by walk_at "lk") rfl) (toPy_list (by walk_at "lk") rfl) rfl rfl) ?_
 repeat walk_at "pq"
 refine over_pure (get_new _ _) ?_
 repeat walk_at "pq"
 refine OfS.mk (ne_data (toPy_list (by walk_at "lk") rfl) (toPy_list (by walk_at "lk") rfl) rfl rfl) ?_
 repeat walk_at "pq"
 refine⟨_,_,_,_,rfl,by walk_at "lk",rfl,rfl,?_⟩
 refine OfS.mk (eq_data (toPy_list (by walk_at "lk") rfl) (toPy_list (by walk_at "lk") rfl) rfl rfl) ?_
 repeat walk_at "pq"
 refine apE_fn (P:=PP sc₀) (a:=152) rfl rfl rfl (plain_list (by walk_at "lk") fun s1 k1=>?_)
 repeat walk_at "pq"
 have hl2:s1[n]? =some (AO.list [.str "a"]):=k1 _ _ (by walk_at "lk")
 have hl3:(s1++[AO.list [.tup [.str "?x",.ob n]]]++[AO.list []])[n]? =some (AO.list [.str "a"]):=by walk_at "lk"
 have hm:mapO (toPy (s1++[AO.list [.tup [.str "?x",.ob n]]]++[AO.list []]) 39) [.tup [.str "?x",.ob n]]=some [.tuple [.str "?x",.list [.str "a"]]]:=mapO_cons (congrArg (Option.map PyData.tuple) (mapO_cons (f:=toPy (s1++[AO.list [.tup [.str "?x",.ob n]]]++[AO.list []]) 38) (x:= .str "?x") (y:=PyData.str "?x") (ys:=[PyData.list [.str "a"]]) rfl (mapO_cons (ys:=[]) (by
  show(listOf _ (.ob n)).bind _=_
  rw[listOf_ob hl3]
  rfl) rfl)):_) rfl
 refine OfS.mk (eq_data (toPy_list (by walk_at "lk") hm) (toPy_list (by walk_at "lk") rfl) rfl rfl) ?_
 repeat walk_at "pq"
 exact h _ (Keep.trunc (by walk_at "kp"))
theorem places_12{n:Nat}{xs:List AV}(hl:σ[n]? =some (.list xs))(h:∀σ',Keep σ σ'→Q (.bool false) σ'):Ca (PP sc₀) (k+80) 157 [.ob n] σ Q:=by
 refine ca' rfl rfl ?_
 repeat walk_at "pq"
 refine OkO.mk (bi_isinst_list hl) ?_
 repeat walk_at "pq"
 exact h _ (Keep.trunc (by walk_at "kp"))
end
end Mine
end
section
namespace Mine
open PySem
section
variable{P:Prg}{sc:Scope}{ρ:Loc}{σ:Store}{k:Nat}{t elt:Expr}{ifs:List Expr}
theorem comp_skip0{xs:List AV}{Q:List AV→Store→Prop}(h:∀x∈xs,∃ρ₁,bindA sc t x ρ=some ρ₁∧Tests P k sc ρ₁ ifs σ fun b σ₁=>b=false∧σ₁=σ)(q:Q [] σ):Comp P k sc ρ t ifs elt xs σ Q:=by
 induction xs with
 |nil=>exact comp_nil q
 |cons x xs ih=>
  refine ea11 (h x (.head _)) fun ρ₁ hb ht=>?_
  refine comp_cons hb (ht.mono fun b σ₁ ⟨h1,h2⟩=>?_)
  subst h1 h2
  exact ih fun y hy=>h y (.tail _ hy)
theorem comp_skip{xs ys:List AV}{Q:List AV→Store→Prop}(h:∀x∈xs,∃ρ₁,bindA sc t x ρ=some ρ₁∧Tests P k sc ρ₁ ifs σ fun b σ₁=>b=false∧σ₁=σ)(q:Comp P k sc ρ t ifs elt ys σ Q):Comp P k sc ρ t ifs elt (xs++ys) σ Q:=by
 induction xs with
 |nil=>exact q
 |cons x xs ih=>
  refine ea11 (h x (.head _)) fun ρ₁ hb ht=>?_
  refine comp_cons hb (ht.mono fun b σ₁ ⟨h1,h2⟩=>?_)
  subst h1 h2
  exact ih fun y hy=>h y (.tail _ hy)
end
noncomputable def builtinA_bool(c:AV):Prop:=∀σ:Store,builtinA σ "isinstance" [c,.fix (.type "bool")]= .ok (.bool false) σ
noncomputable def PlacesTo(sc₀:Addr→Option (List Int))(σ:Store)(v:AV)(b:Bool):Prop:=∀{k:Nat} {σ':Store} {Q:AV→Store→Prop},Keep σ σ'→(∀σ'',Keep σ' σ''→Q (.bool b) σ'')→Ca (PP sc₀) (k+80) 157 [v] σ' Q
theorem path_mem{p:List Nat}{x:AV}(h:x∈path p):∃j:Nat,x= .int (j:Int):=by
 refine ea11 (List.mem_map.mp h) fun j _ z1=>?_;subst z1
 exact⟨j,rfl⟩
section
variable{sc₀:Addr→Option (List Int)}{k:Nat}{σ:Store}{Q:AV→Store→Prop}{Y:XA→Store→Prop}
theorem step_of{p:List Nat}{kind pl:AV}{name:Str}{c:Bool}(hp:PlacesTo sc₀ σ pl true)(h:∀σ',Keep σ σ'→Q (.bool true) σ'):Ca (PP sc₀) (k+110) 250 [.tup [.tup (path p),kind,.str name,pl,.bool c]] σ Q:=by
 refine ca' rfl rfl ?_
 repeat walk_at "pq"
 refine comp_skip0 (fun x hx=>?_) ?_
 ·refine ea10 (path_mem hx) fun j z1=>?_;subst z1
  refine⟨_,rfl,?_⟩
  repeat walk_at "pq"
  rfl
 repeat walk_at "pq"
 refine OfS.mk (ne_data (toPy_list (by walk_at "lk") rfl) (toPy_list (by walk_at "lk") rfl) rfl rfl) ?_
 repeat walk_at "pq"
 refine apE_fn (P:=PP sc₀) (a:=157) rfl rfl rfl (hp (by walk_at "kp") fun s1 k1=>?_)
 repeat walk_at "pq"
 exact h _ (Keep.trunc (by walk_at "kp"))
theorem step_pl{p:List Nat}{kind pl:AV}{name:Str}{c:AV}(hp:PlacesTo sc₀ σ pl false)(h:∀σ',Keep σ σ'→Q (.bool false) σ'):Ca (PP sc₀) (k+110) 250 [.tup [.tup (path p),kind,.str name,pl,c]] σ Q:=by
 refine ca' rfl rfl ?_
 repeat walk_at "pq"
 refine comp_skip0 (fun x hx=>?_) ?_
 ·refine ea10 (path_mem hx) fun j z1=>?_;subst z1
  refine⟨_,rfl,?_⟩
  repeat walk_at "pq"
  rfl
 repeat walk_at "pq"
 refine OfS.mk (ne_data (toPy_list (by walk_at "lk") rfl) (toPy_list (by walk_at "lk") rfl) rfl rfl) ?_
 repeat walk_at "pq"
 refine apE_fn (P:=PP sc₀) (a:=157) rfl rfl rfl (hp (by walk_at "kp") fun s1 k1=>?_)
 repeat walk_at "pq"
 exact h _ (Keep.trunc (by walk_at "kp"))
theorem step_dir{p:List Nat}{kind pl:AV}{name:Str}{c:AV}(hc:builtinA_bool c)(hp:PlacesTo sc₀ σ pl true)(h:∀σ',Keep σ σ'→Q (.bool false) σ'):Ca (PP sc₀) (k+110) 250 [.tup [.tup (path p),kind,.str name,pl,c]] σ Q:=by
 refine ca' rfl rfl ?_
 repeat walk_at "pq"
 refine comp_skip0 (fun x hx=>?_) ?_
 ·refine ea10 (path_mem hx) fun j z1=>?_;subst z1
  refine⟨_,rfl,?_⟩
  repeat walk_at "pq"
  rfl
 repeat walk_at "pq"
 refine OfS.mk (ne_data (toPy_list (by walk_at "lk") rfl) (toPy_list (by walk_at "lk") rfl) rfl rfl) ?_
 repeat walk_at "pq"
 refine apE_fn (P:=PP sc₀) (a:=157) rfl rfl rfl (hp (by walk_at "kp") fun s1 k1=>?_)
 repeat walk_at "pq"
 refine OkO.mk (hc _) ?_
 repeat walk_at "pq"
 exact h _ (Keep.trunc (by walk_at "kp"))
theorem step_int{p:List Nat}{kind pl c:AV}{i:Int}(h:∀σ',Keep σ σ'→Q (.bool false) σ'):Ca (PP sc₀) (k+110) 250 [.tup [.tup (path p),kind,.int i,pl,c]] σ Q:=by
 refine ca' rfl rfl ?_
 repeat walk_at "pq"
 refine comp_skip0 (fun x hx=>?_) ?_
 ·refine ea10 (path_mem hx) fun j z1=>?_;subst z1
  refine⟨_,rfl,?_⟩
  repeat walk_at "pq"
  rfl
 repeat walk_at "pq"
 refine OfS.mk (ne_data (toPy_list (by walk_at "lk") rfl) (toPy_list (by walk_at "lk") rfl) rfl rfl) ?_
 repeat walk_at "pq"
 exact h _ (Keep.trunc (by walk_at "kp"))
theorem step_tup{p:List Nat}{kind pl c:AV}{xs:List AV}(h:∀σ',Keep σ σ'→Q (.bool false) σ'):Ca (PP sc₀) (k+110) 250 [.tup [.tup (path p),kind,.tup xs,pl,c]] σ Q:=by
 refine ca' rfl rfl ?_
 repeat walk_at "pq"
 refine comp_skip0 (fun x hx=>?_) ?_
 ·refine ea10 (path_mem hx) fun j z1=>?_;subst z1
  refine⟨_,rfl,?_⟩
  repeat walk_at "pq"
  rfl
 repeat walk_at "pq"
 refine OfS.mk (ne_data (toPy_list (by walk_at "lk") rfl) (toPy_list (by walk_at "lk") rfl) rfl rfl) ?_
 repeat walk_at "pq"
 exact h _ (Keep.trunc (by walk_at "kp"))
theorem step_list{n:Nat}{xs:List AV}(hl:σ[n]? =some (.list xs))(h:∀σ',Keep σ σ'→Q (.bool false) σ'):Ca (PP sc₀) (k+110) 250 [.ob n] σ Q:=by
 refine ca' rfl rfl ?_
 repeat walk_at "pq"
 refine OkO.mk (bi_isinst_list hl) ?_
 repeat walk_at "pq"
 exact h _ (Keep.trunc (by walk_at "kp"))
theorem step_4{a b c d:AV}(h:∀σ',Keep σ σ'→Q (.bool false) σ'):Ca (PP sc₀) (k+110) 250 [.tup [a,b,c,d]] σ Q:=by
 refine ca' rfl rfl ?_
 repeat walk_at "pq"
 exact h _ (Keep.trunc (by walk_at "kp"))
theorem step_6{a b c d e f:AV}(h:∀σ',Keep σ σ'→Q (.bool false) σ'):Ca (PP sc₀) (k+110) 250 [.tup [a,b,c,d,e,f]] σ Q:=by
 refine ca' rfl rfl ?_
 repeat walk_at "pq"
 exact h _ (Keep.trunc (by walk_at "kp"))
theorem step_none(h:∀σ',Keep σ σ'→Q (.bool false) σ'):Ca (PP sc₀) (k+110) 250 [.none] σ Q:=by
 refine ca' rfl rfl ?_
 repeat walk_at "pq"
 exact h _ (Keep.trunc (by walk_at "kp"))
theorem step_str{x:Str}(h:∀σ',Keep σ σ'→Q (.bool false) σ'):Ca (PP sc₀) (k+110) 250 [.str x] σ Q:=by
 refine ca' rfl rfl ?_
 repeat walk_at "pq"
 exact h _ (Keep.trunc (by walk_at "kp"))
theorem step_path{n:Nat}{xs:List AV}{a b c d:AV}(hl:σ[n]? =some (.list xs))(h:∀σ',Keep σ σ'→Q (.bool false) σ'):Ca (PP sc₀) (k+110) 250 [.tup [.ob n,a,b,c,d]] σ Q:=by
 refine ca' rfl rfl ?_
 repeat walk_at "pq"
 refine OkO.mk (bi_isinst_list hl) ?_
 repeat walk_at "pq"
 exact h _ (Keep.trunc (by walk_at "kp"))
theorem step_ps{p:List Nat}{a b c d:AV}(h:∀σ',Keep σ σ'→Q (.bool false) σ'):Ca (PP sc₀) (k+110) 250 [.tup [.tup (path p++[.str "0"]),a,b,c,d]] σ Q:=by
 refine ca' rfl rfl ?_
 repeat walk_at "pq"
 refine comp_skip (fun x hx=>?_) ?_
 ·refine ea10 (path_mem hx) fun j z1=>?_;subst z1
  refine⟨_,rfl,?_⟩
  repeat walk_at "pq"
  rfl
 repeat walk_at "pq"
 refine OfS.mk (ne_data (toPy_list (by walk_at "lk") rfl) (toPy_list (by walk_at "lk") rfl) rfl rfl) ?_
 repeat walk_at "pq"
 exact h _ (Keep.trunc (by walk_at "kp"))
theorem step_pt{p:List Nat}{a b c d:AV}(h:∀σ',Keep σ σ'→Q (.bool false) σ'):Ca (PP sc₀) (k+110) 250 [.tup [.tup (path p++[.bool true]),a,b,c,d]] σ Q:=by
 refine ca' rfl rfl ?_
 repeat walk_at "pq"
 refine comp_skip (fun x hx=>?_) ?_
 ·refine ea10 (path_mem hx) fun j z1=>?_;subst z1
  refine⟨_,rfl,?_⟩
  repeat walk_at "pq"
  rfl
 repeat walk_at "pq"
 refine OfS.mk (ne_data (toPy_list (by walk_at "lk") rfl) (toPy_list (by walk_at "lk") rfl) rfl rfl) ?_
 repeat walk_at "pq"
 exact h _ (Keep.trunc (by walk_at "kp"))
end
end Mine
end
section
namespace Mine
open PySem
theorem attr_inst{P:Prg}{σ:Store}{n:Nat}{C:Addr}{attrs:List (Str×AV)}{name:Str}{v:AV}(h:σ[n]? =some (.inst C attrs))(hl:look name attrs=some v)(hh:(P.attr C name&&handA v)=true):attrA P (.ob n) name σ= .ok v σ:=by
 unfold attrA
 rw[instOf_ob h]
 show els (look name attrs) (fun v=>chk (P.attr C name&&handA v) (.ok v σ)) _=_
 rw[hl]
 show chk _ _=_
 rw[hh]
 rfl
theorem attr_methL{P:Prg}{σ:Store}{n:Nat}{C f:Addr}{attrs:List (Str×AV)}{name:Str}(h:σ[n]? =some (.inst C attrs))(hl:look name attrs=none)(hm:P.meth C name=some f)(hf:(P.fn f).isSome=true):attrA P (.ob n) name σ= .ok (.ob σ.length) (σ++[.meth f (.ob n)]):=by
 refine ea10 (Option.isSome_iff_exists.mp hf) fun fd hf=>?_
 unfold attrA
 rw[instOf_ob h]
 show els (look name attrs) _ (ofO (P.meth C name) _)=_
 rw[hl,hm]
 show ofO (P.fn f) _=_
 rw[hf]
 rfl
structure Wd(σ:Store)(m j r td ro rs:Nat):Prop where
 hm:σ[m]? =some (.inst 307 [("judge",.ob j)])
 hj:σ[j]? =some (.inst 241 [("rules",.ob r),("told",.ob td)])
 hr:σ[r]? =some (.dstr [("off",.ob ro),("swap",.ob rs)])
 ht:σ[td]? =some (.dstr [("t0",.tup [Tm.a.enc,(Tm.f .b).enc])])
 ho:σ[ro]? =some (.inst 333 [("name",.str "off"),("left",pFFX),("right",pX),("needs",.tup [])])
 hs:σ[rs]? =some (.inst 333 [("name",.str "swap"),("left",pXY),("right",pYX),("needs",.tup [])])
theorem Wd.keep{σ σ':Store}{m j r td ro rs:Nat}(h:Wd σ m j r td ro rs)(k:Keep σ σ'):Wd σ' m j r td ro rs:=
 ⟨k _ _ h.hm,k _ _ h.hj,k _ _ h.hr,k _ _ h.ht,k _ _ h.ho,k _ _ h.hs⟩
section
variable{sc₀:Addr→Option (List Int)}{k:Nat}{σ:Store}{Q:AV→Store→Prop}{Y:XA→Store→Prop}{m j r td ro rs:Nat}
theorem told_sides_ok{n:AV}(W:Wd σ m j r td ro rs)(h:∀σ',Keep σ σ'→Q (.tup [Tm.a.enc,(Tm.f .b).enc]) σ'):Ca (PP sc₀) (k+30) 216 [.ob j,.str "t0",n] σ Q:=by
 have hj:=W.hj
 have ht:=W.ht
 refine ca' rfl rfl ?_
 repeat walk_at "pq"
 refine OkO.mk (attr_inst hj rfl rfl) ?_
 refine OfS.mk (notin_dict ht) ?_
 repeat walk_at "pq"
 refine OkO.mk (attr_inst hj rfl rfl) ?_
 repeat walk_at "pq"
 refine OfS.mk (item_dict ht rfl) ?_
 exact h _ (Keep.refl _).trunc
theorem rule_off_ok{x:Tm}{n:AV}(W:Wd σ m j r td ro rs)(h:∀σ',Keep σ σ'→Q (.tup [(Tm.f (.f x)).enc,(x).enc]) σ'):Ca (PP sc₀) (k+150) 221 [.ob j,.str "off",.tup [.tup [.str "?x",x.enc]],n] σ Q:=by
 have hj:=W.hj
 have hr:=W.hr
 have ho:=W.ho
 refine ca' rfl rfl ?_
 repeat walk_at "pq"
 refine OkO.mk (attr_inst hj rfl rfl) ?_
 refine OfS.mk (notin_dict hr) ?_
 repeat walk_at "pq"
 refine OkO.mk (attr_inst hj rfl rfl) ?_
 repeat walk_at "pq"
 refine OfS.mk (item_dict hr rfl) ?_
 repeat walk_at "pq"
 refine OkO.mk (attr_inst (by walk_at "lk") rfl rfl) ?_
 repeat walk_at "pq"
 refine apE_fn (P:=PP sc₀) (a:=114) rfl rfl rfl (vars_ffx fun i s1 k1 h1=>?_)
 refine OfS.mk (ne_data (toPy_list (k1 _ _ (get_new _ _)) rfl) (toPy_list h1 rfl) rfl rfl) ?_
 have k2:Keep σ s1:=by walk_at "kp"
 have ho2:=k2 _ _ ho
 repeat walk_at "pq"
 refine OkO.mk (attr_inst ho2 rfl rfl) ?_
 repeat walk_at "pq"
 refine apE_fn (P:=PP sc₀) (a:=119) rfl rfl rfl ?_
 refine((placed_1 (placed_1 (placed_px rfl))) (get_new _ _) fun s3 k3=>?_)
 have k4:Keep σ s3:=by walk_at "kp"
 have ho4:=k4 _ _ ho
 repeat walk_at "pq"
 refine OkO.mk (attr_inst ho4 rfl rfl) ?_
 repeat walk_at "pq"
 refine apE_fn (P:=PP sc₀) (a:=119) rfl rfl rfl ?_
 refine((placed_px rfl) (get_new _ _) fun s5 k5=>?_)
 repeat walk_at "pq"
 exact h _ (Keep.trunc (by walk_at "kp"))
theorem rule_swap_ok{x y:Tm}{n:AV}(W:Wd σ m j r td ro rs)(h:∀σ',Keep σ σ'→Q (.tup [(Tm.g x y).enc,(Tm.g y x).enc]) σ'):Ca (PP sc₀) (k+150) 221 [.ob j,.str "swap",.tup [.tup [.str "?x",x.enc],.tup [.str "?y",y.enc]],n] σ Q:=by
 have hj:=W.hj
 have hr:=W.hr
 have ho:=W.hs
 refine ca' rfl rfl ?_
 repeat walk_at "pq"
 refine OkO.mk (attr_inst hj rfl rfl) ?_
 refine OfS.mk (notin_dict hr) ?_
 repeat walk_at "pq"
 refine OkO.mk (attr_inst hj rfl rfl) ?_
 repeat walk_at "pq"
 refine OfS.mk (item_dict hr rfl) ?_
 repeat walk_at "pq"
 refine OkO.mk (attr_inst (by walk_at "lk") rfl rfl) ?_
 repeat walk_at "pq"
 refine apE_fn (P:=PP sc₀) (a:=114) rfl rfl rfl (vars_xy fun i s1 k1 h1=>?_)
 refine OfS.mk (ne_data (toPy_list (k1 _ _ (get_new _ _)) rfl) (toPy_list h1 rfl) rfl rfl) ?_
 have k2:Keep σ s1:=by walk_at "kp"
 have ho2:=k2 _ _ ho
 repeat walk_at "pq"
 refine OkO.mk (attr_inst ho2 rfl rfl) ?_
 repeat walk_at "pq"
 refine apE_fn (P:=PP sc₀) (a:=119) rfl rfl rfl ?_
 refine((placed_2 (placed_px rfl) (placed_py rfl)) (get_new _ _) fun s3 k3=>?_)
 have k4:Keep σ s3:=by walk_at "kp"
 have ho4:=k4 _ _ ho
 repeat walk_at "pq"
 refine OkO.mk (attr_inst ho4 rfl rfl) ?_
 repeat walk_at "pq"
 refine apE_fn (P:=PP sc₀) (a:=119) rfl rfl rfl ?_
 refine((placed_2 (placed_py rfl) (placed_px rfl)) (get_new _ _) fun s5 k5=>?_)
 repeat walk_at "pq"
 exact h _ (Keep.trunc (by walk_at "kp"))
end
end Mine
end
section
namespace Mine
open PySem
theorem in_list{σ:Store}{i:Nat}{x:Str}{ys:List AV}(hl:σ[i]? =some (.list ys)):inA σ (.str x) (.ob i)=(strs? ys).bind (inStrs x):=by
 show(match listOf σ (.ob i)with|some _=>_|none=>_)=_
 rw[listOf_ob hl]
 rfl
theorem notin_list{σ:Store}{i:Nat}{x:Str}{ys:List AV}{l:List Str}(hl:σ[i]? =some (.list ys))(hs:strs? ys=some l)(h:((x.cps.toList.all fun c=>decide (c<0x110000))&&l.all fun y=>y.cps.toList.all fun c=>decide (c<0x110000))=true):cmpA σ .NotIn (.str x) (.ob i)=some (!memS x l):=by
 show(inA σ (.str x) (.ob i)).map (!·)=_
 rw[in_list hl,hs]
 show(inStrs x l).map _=_
 rw[inStrs_L h]
 rfl
theorem bin_lists{σ:Store}{i j:Nat}{xs ys:List AV}(hi:σ[i]? =some (.list xs))(hj:σ[j]? =some (.list ys))(hb:Nat.ble (xs++ys).length bound=true):binA σ .Add (.ob i) (.ob j)= .ok (.ob σ.length) (σ++[.list (xs++ys)]):=by
 show ofO (listOf σ (.ob i)) _=_
 rw[listOf_ob hi]
 show ofO (listOf σ (.ob j)) _=_
 rw[listOf_ob hj]
 show mkList (xs++ys) σ=_
 unfold mkList
 rw[hb]
 rfl
theorem Keep.trunc_le{σ σ₁:Store}{n:Nat}{v:AV}(a:Keep σ σ₁)(hn:σ.length≤n):Keep σ (Mine.trunc n v σ₁):=fun j x h=>by
 obtain⟨hl,_⟩:=List.getElem?_eq_some_iff.mp h
 rw[trunc_get (by omega)];exact a j x h
theorem thaw_from{σ0 σ S:Store}{n:Nat}{xs:List AV}(hn:σ[n]? =some (.list xs))(h:Keep (σ.set n .frozen) S)(h0:Keep σ0 σ):Keep σ0 (S.set n (.list xs)):=h0.trans (keep_thaw hn h)
section
variable{sc₀:Addr→Option (List Int)}{k:Nat}{σ:Store}{Q:AV→Store→Prop}{Y:XA→Store→Prop}
theorem rule_init_off(h:∀σ',Keep σ σ'→σ'[σ.length]? =some (.inst 333 [("name",.str "off"),("left",pFFX),("right",pX),("needs",.tup [])])→Q .none σ'):Ca (PP sc₀) (k+150) 323 [.ob σ.length,.str "off",pFFX,pX,.tup []] (σ++[.inst 333 []]) Q:=by
 refine ca' rfl rfl ?_
 repeat walk_at "pq"
 refine apE_fn (P:=PP sc₀) (a:=109) rfl rfl rfl (isvar_1 fun s1 k1=>?_)
 repeat walk_at "pq"
 refine apE_fn (P:=PP sc₀) (a:=114) rfl rfl rfl (vars_ffx fun i2 s2 k2 h2=>?_)
 repeat walk_at "pq"
 refine OkO.mk (bin_lists (by walk_at "lk") (by walk_at "lk") rfl) ?_
 repeat walk_at "pq"
 refine over_list (get_new _ _) ?_
 repeat walk_at "pq"
 refine apE_fn (P:=PP sc₀) (a:=114) rfl rfl rfl (vars_x fun i3 s3 k3 h3=>?_)
 repeat walk_at "pq"
 refine apE_fn (P:=PP sc₀) (a:=114) rfl rfl rfl (vars_x fun i4 s4 k4 h4=>?_)
 repeat walk_at "pq"
 refine OkO.mk (bin_lists (k4 _ _ h3) h4 rfl) ?_
 repeat walk_at "pq"
 refine over_pure (get_new _ _) ?_
 repeat walk_at "pq"
 have e2:Keep s2 s3:=Keep.trans (Keep.set_new (by walk_at "kp") (by simp only [List.length_append,List.length_singleton];omega)) k3
 have g2:=(Keep.trans e2 k4) _ _ h2
 have n2:s4.length≠i2:=fun e=>by have :=get_lt g2;omega
 repeat(first |walk_at "pq"|refine OfS.mk (notin_list (get_set_ne (by walk_at "lk") n2) rfl rfl) ?_)
 refine OfS.mk (ne_data (toPy_list (by walk_at "lk") rfl) (toPy_list (by walk_at "lk") rfl) rfl rfl) ?_
 repeat walk_at "pq"
 have hs2:s2[σ.length]? =some (.inst 333 []):=k2 _ _ (k1 _ _ (get_new _ _))
 have hk2:Keep σ s2:=by walk_at "kp"
 refine⟨_,_,_,rfl,keep_thaw (get_new _ _) (by walk_at "kp") _ _ (by walk_at "lk"),rfl,?_⟩
 repeat walk_at "pq"
 refine⟨_,_,_,rfl,(get_set (o:=AO.inst 333 []) (by exact keep_thaw (get_new _ _) (by walk_at "kp") _ _ (by walk_at "lk"))),rfl,?_⟩
 repeat walk_at "pq"
 refine⟨_,_,_,rfl,(get_set (o:=AO.inst 333 [("name",.str "off")]) (get_set (o:=AO.inst 333 []) (by exact keep_thaw (get_new _ _) (by walk_at "kp") _ _ (by walk_at "lk")))),rfl,?_⟩
 repeat walk_at "pq"
 refine⟨_,_,_,rfl,(get_set (o:=AO.inst 333 [("name",.str "off"),("left",pFFX)]) (get_set (o:=AO.inst 333 [("name",.str "off")]) (get_set (o:=AO.inst 333 []) (by exact keep_thaw (get_new _ _) (by walk_at "kp") _ _ (by walk_at "lk"))))),rfl,?_⟩
 repeat walk_at "pq"
 refine h _ (Keep.trunc_le (Keep.set_new (Keep.set_new (Keep.set_new (Keep.set_new (thaw_from (get_new _ _) (by walk_at "kp") (by walk_at "kp")) (Nat.le_refl _)) (Nat.le_refl _)) (Nat.le_refl _)) (Nat.le_refl _)) (by simp)) ?_
 rw[trunc_get (by simp)]
 exact(get_set (o:=AO.inst 333 [("name",.str "off"),("left",pFFX),("right",pX)]) (get_set (o:=AO.inst 333 [("name",.str "off"),("left",pFFX)]) (get_set (o:=AO.inst 333 [("name",.str "off")]) (get_set (o:=AO.inst 333 []) (by exact keep_thaw (get_new _ _) (by walk_at "kp") _ _ (by walk_at "lk"))))))
theorem rule_init_swap(h:∀σ',Keep σ σ'→σ'[σ.length]? =some (.inst 333 [("name",.str "swap"),("left",pXY),("right",pYX),("needs",.tup [])])→Q .none σ'):Ca (PP sc₀) (k+150) 323 [.ob σ.length,.str "swap",pXY,pYX,.tup []] (σ++[.inst 333 []]) Q:=by
 refine ca' rfl rfl ?_
 repeat walk_at "pq"
 refine apE_fn (P:=PP sc₀) (a:=109) rfl rfl rfl (isvar_2 fun s1 k1=>?_)
 repeat walk_at "pq"
 refine apE_fn (P:=PP sc₀) (a:=114) rfl rfl rfl (vars_xy fun i2 s2 k2 h2=>?_)
 repeat walk_at "pq"
 refine OkO.mk (bin_lists (by walk_at "lk") (by walk_at "lk") rfl) ?_
 repeat walk_at "pq"
 refine over_list (get_new _ _) ?_
 repeat walk_at "pq"
 refine apE_fn (P:=PP sc₀) (a:=114) rfl rfl rfl (vars_yx fun i3 s3 k3 h3=>?_)
 repeat walk_at "pq"
 refine apE_fn (P:=PP sc₀) (a:=114) rfl rfl rfl (vars_yx fun i4 s4 k4 h4=>?_)
 repeat walk_at "pq"
 refine OkO.mk (bin_lists (k4 _ _ h3) h4 rfl) ?_
 repeat walk_at "pq"
 refine over_pure (get_new _ _) ?_
 repeat walk_at "pq"
 have e2:Keep s2 s3:=Keep.trans (Keep.set_new (by walk_at "kp") (by simp only [List.length_append,List.length_singleton];omega)) k3
 have g2:=(Keep.trans e2 k4) _ _ h2
 have n2:s4.length≠i2:=fun e=>by have :=get_lt g2;omega
 repeat(first |walk_at "pq"|refine OfS.mk (notin_list (get_set_ne (by walk_at "lk") n2) rfl rfl) ?_)
 refine OfS.mk (ne_data (toPy_list (by walk_at "lk") rfl) (toPy_list (by walk_at "lk") rfl) rfl rfl) ?_
 repeat walk_at "pq"
 have hs2:s2[σ.length]? =some (.inst 333 []):=k2 _ _ (k1 _ _ (get_new _ _))
 have hk2:Keep σ s2:=by walk_at "kp"
 refine⟨_,_,_,rfl,keep_thaw (get_new _ _) (by walk_at "kp") _ _ (by walk_at "lk"),rfl,?_⟩
 repeat walk_at "pq"
 refine⟨_,_,_,rfl,(get_set (o:=AO.inst 333 []) (by exact keep_thaw (get_new _ _) (by walk_at "kp") _ _ (by walk_at "lk"))),rfl,?_⟩
 repeat walk_at "pq"
 refine⟨_,_,_,rfl,(get_set (o:=AO.inst 333 [("name",.str "swap")]) (get_set (o:=AO.inst 333 []) (by exact keep_thaw (get_new _ _) (by walk_at "kp") _ _ (by walk_at "lk")))),rfl,?_⟩
 repeat walk_at "pq"
 refine⟨_,_,_,rfl,(get_set (o:=AO.inst 333 [("name",.str "swap"),("left",pXY)]) (get_set (o:=AO.inst 333 [("name",.str "swap")]) (get_set (o:=AO.inst 333 []) (by exact keep_thaw (get_new _ _) (by walk_at "kp") _ _ (by walk_at "lk"))))),rfl,?_⟩
 repeat walk_at "pq"
 refine h _ (Keep.trunc_le (Keep.set_new (Keep.set_new (Keep.set_new (Keep.set_new (thaw_from (get_new _ _) (by walk_at "kp") (by walk_at "kp")) (Nat.le_refl _)) (Nat.le_refl _)) (Nat.le_refl _)) (Nat.le_refl _)) (by simp)) ?_
 rw[trunc_get (by simp)]
 exact(get_set (o:=AO.inst 333 [("name",.str "swap"),("left",pXY),("right",pYX)]) (get_set (o:=AO.inst 333 [("name",.str "swap"),("left",pXY)]) (get_set (o:=AO.inst 333 [("name",.str "swap")]) (get_set (o:=AO.inst 333 []) (by exact keep_thaw (get_new _ _) (by walk_at "kp") _ _ (by walk_at "lk"))))))
theorem judge_init{r td:Nat}(h:∀σ',Keep σ σ'→σ'[σ.length]? =some (.inst 241 [("rules",.ob r),("told",.ob td)])→Q .none σ'):Ca (PP sc₀) (k+20) 209 [.ob σ.length,.ob r,.ob td] (σ++[.inst 241 []]) Q:=by
 refine ca' rfl rfl ?_
 repeat walk_at "pq"
 refine⟨_,_,_,rfl,get_new _ _,rfl,?_⟩
 repeat walk_at "pq"
 refine⟨_,_,_,rfl,get_set (get_new _ _),rfl,?_⟩
 repeat walk_at "pq"
 refine h _ (Keep.trunc_le (Keep.set_new (Keep.set_new (Keep.push _ _) (Nat.le_refl _)) (Nat.le_refl _)) (by simp)) ?_
 rw[trunc_get (by simp)]
 exact get_set (by exact get_set (get_new _ _))
theorem steps_init{j:Nat}(h:∀σ',Keep σ σ'→σ'[σ.length]? =some (.inst 307 [("judge",.ob j)])→Q .none σ'):Ca (PP sc₀) (k+20) 269 [.ob σ.length,.ob j] (σ++[.inst 307 []]) Q:=by
 refine ca' rfl rfl ?_
 repeat walk_at "pq"
 refine⟨_,_,_,rfl,get_new _ _,rfl,?_⟩
 repeat walk_at "pq"
 refine h _ (Keep.trunc_le (Keep.set_new (Keep.push _ _) (Nat.le_refl _)) (by simp)) ?_
 rw[trunc_get (by simp)]
 exact get_set (get_new _ _)
end
end Mine
end
section
namespace Mine
open PySem
inductive Mv where
 |off (back:Bool) (x:Tm)
 |swap (back:Bool) (x y:Tm)
 |told (back:Bool)
noncomputable def Mv.ctorIdx(x:Mv):Nat:=Mv.casesOn x (fun _ _=>0) (fun _ _ _=>1) (fun _=>2)
noncomputable def Mv.kind:Mv→Str
 | .off _ _=>"rule"
 | .swap _ _ _=>"rule"
 | .told _=>"told"
noncomputable def Mv.name:Mv→Str
 | .off _ _=>"off"
 | .swap _ _ _=>"swap"
 | .told _=>"t0"
noncomputable def Mv.pl:Mv→AV
 | .off _ x=> .tup [.tup [.str "?x",x.enc]]
 | .swap _ x y=> .tup [.tup [.str "?x",x.enc],.tup [.str "?y",y.enc]]
 | .told _=> .tup []
noncomputable def Mv.back:Mv→Bool
 | .off c _=>c
 | .swap c _ _=>c
 | .told c=>c
noncomputable def Mv.sz:Mv→Prop
 | .off _ x=>x.size≤500
 | .swap _ x y=>x.size≤500∧y.size≤500
 | .told _=>True
noncomputable def Mv.l:Mv→Tm
 | .off _ x=> .f (.f x)
 | .swap _ x y=> .g x y
 | .told _=> .a
noncomputable def Mv.r:Mv→Tm
 | .off _ x=>x
 | .swap _ x y=> .g y x
 | .told _=> .f .b
noncomputable def Mv.left(v:Mv):Tm:=match v.back with
 |true=>v.r
 |false=>v.l
noncomputable def Mv.right(v:Mv):Tm:=match v.back with
 |true=>v.l
 |false=>v.r
noncomputable def Mv.enc(v:Mv)(p:List Nat):AV:= .tup [.tup (path p),.str v.kind,.str v.name,v.pl,.bool v.back]
noncomputable def StepTo(sc₀:Addr→Option (List Int))(σ:Store)(v:AV)(b:Bool):Prop:=∀{k:Nat} {σ':Store} {Q:AV→Store→Prop},Keep σ σ'→(∀σ'',Keep σ' σ''→Q (.bool b) σ'')→Ca (PP sc₀) (k+110) 250 [v] σ' Q
theorem pl_places{sc₀:Addr→Option (List Int)}{v:Mv}(hz:v.sz){σ:Store}:PlacesTo sc₀ σ v.pl true:=fun hk h=>by
 cases v with
 |off c x=>exact places_1 hz h
 |swap c x y=>exact places_2 hz.1 hz.2 h
 |told c=>exact places_0 h
theorem mv_step{sc₀:Addr→Option (List Int)}{v:Mv}(hz:v.sz){p:List Nat}{σ:Store}:StepTo sc₀ σ (v.enc p) true:=fun hk h=>step_of (pl_places hz) h
section
variable{sc₀:Addr→Option (List Int)}{k:Nat}{σ:Store}{Q:AV→Store→Prop}{Y:XA→Store→Prop}{m j r td ro rs:Nat}
theorem sides_told{c:Bool}{p:List Nat}{n:AV}(W:Wd σ m j r td ro rs)(h:∀σ',Keep σ σ'→Q (.tup [(Mv.told c).left.enc,(Mv.told c).right.enc]) σ'):Ca (PP sc₀) (k+170) 283 [.ob m,(Mv.told c).enc p,n] σ Q:=by
 refine ca' rfl rfl ?_
 repeat walk_at "pq"
 refine apE_fn (P:=PP sc₀) (a:=250) rfl rfl rfl ((mv_step (v:= .told c) trivial (Keep.refl _) fun s1 k1=>?_))
 have W1:=W.keep k1
 repeat walk_at "pq"
 refine OkO.mk (attr_inst W1.hm rfl rfl) ?_
 refine OfS.mk (methB_user W1.hj rfl rfl rfl) ?_
 repeat walk_at "pq"
 refine go_user ((told_sides_ok W1 fun s2 k2=>?_))
 cases c
 all_goals
  repeat walk_at "pq"
  exact h _ (Keep.trunc (by walk_at "kp"))
theorem sides_off{c:Bool}{x:Tm}{p:List Nat}{n:AV}(hz:(Mv.off c x).sz)(W:Wd σ m j r td ro rs)(h:∀σ',Keep σ σ'→Q (.tup [(Mv.off c x).left.enc,(Mv.off c x).right.enc]) σ'):Ca (PP sc₀) (k+170) 283 [.ob m,(Mv.off c x).enc p,n] σ Q:=by
 refine ca' rfl rfl ?_
 repeat walk_at "pq"
 refine apE_fn (P:=PP sc₀) (a:=250) rfl rfl rfl ((mv_step hz (Keep.refl _) fun s1 k1=>?_))
 have W1:=W.keep k1
 repeat walk_at "pq"
 refine OkO.mk (attr_inst W1.hm rfl rfl) ?_
 refine OfS.mk (methB_user W1.hj rfl rfl rfl) ?_
 repeat walk_at "pq"
 refine go_user ((rule_off_ok W1 fun s2 k2=>?_))
 cases c
 all_goals
  repeat walk_at "pq"
  exact h _ (Keep.trunc (by walk_at "kp"))
theorem sides_swap{c:Bool}{x y:Tm}{p:List Nat}{n:AV}(hz:(Mv.swap c x y).sz)(W:Wd σ m j r td ro rs)(h:∀σ',Keep σ σ'→Q (.tup [(Mv.swap c x y).left.enc,(Mv.swap c x y).right.enc]) σ'):Ca (PP sc₀) (k+170) 283 [.ob m,(Mv.swap c x y).enc p,n] σ Q:=by
 refine ca' rfl rfl ?_
 repeat walk_at "pq"
 refine apE_fn (P:=PP sc₀) (a:=250) rfl rfl rfl ((mv_step hz (Keep.refl _) fun s1 k1=>?_))
 have W1:=W.keep k1
 repeat walk_at "pq"
 refine OkO.mk (attr_inst W1.hm rfl rfl) ?_
 refine OfS.mk (methB_user W1.hj rfl rfl rfl) ?_
 repeat walk_at "pq"
 refine go_user ((rule_swap_ok W1 fun s2 k2=>?_))
 cases c
 all_goals
  repeat walk_at "pq"
  exact h _ (Keep.trunc (by walk_at "kp"))
theorem sides_ok{v:Mv}{p:List Nat}{n:AV}(hz:v.sz)(W:Wd σ m j r td ro rs)(h:∀σ',Keep σ σ'→Q (.tup [v.left.enc,v.right.enc]) σ'):Ca (PP sc₀) (k+170) 283 [.ob m,v.enc p,n] σ Q:=by
 cases v with
 |off c x=>exact sides_off hz W h
 |swap c x y=>exact sides_swap hz W h
 |told c=>exact sides_told W h
theorem sides_form{v:AV}{n:Int}(hv:StepTo sc₀ σ v false)(h:∀σ',Keep σ σ'→Y (.pf (.int n)) σ'):CaX (PP sc₀) (k+170) 283 [.ob m,v,.int n] σ Y:=by
 refine caX' rfl rfl ?_
 refine exX_here (stX_if ?_)
 repeat walk_at "pq"
 refine apE_fn (P:=PP sc₀) (a:=250) rfl rfl rfl ((hv (Keep.refl _) fun s1 k1=>?_))
 repeat walk_at "pq"
 refine exX_here (stX_raise (raise_W rfl rfl ?_))
 repeat walk_at "pq"
 exact h _ (Keep.trunc (by walk_at "kp"))
theorem sides_kind_s{p:List Nat}{v:Mv}{n:Int}(hz:v.sz)(h:∀σ',Keep σ σ'→Y (.pf (.int n)) σ'):CaX (PP sc₀) (k+170) 283 [.ob m,.tup [.tup (path p),.str "same",.str v.name,v.pl,.bool v.back],.int n] σ Y:=by
 refine caX' rfl rfl ?_
 refine exX_later ?_
 repeat walk_at "pq"
 refine apE_fn (P:=PP sc₀) (a:=250) rfl rfl rfl ((step_of (pl_places hz) fun s1 k1=>?_))
 repeat walk_at "pq"
 refine exX_here (stX_if ?_)
 repeat walk_at "pq"
 refine exX_here (stX_if ?_)
 repeat walk_at "pq"
 refine exX_here (stX_raise (raise_W rfl rfl ?_))
 repeat walk_at "pq"
 exact h _ (Keep.trunc (by walk_at "kp"))
theorem sides_kind_n{p:List Nat}{v:Mv}{n:Int}(hz:v.sz)(h:∀σ',Keep σ σ'→Y (.pf (.int n)) σ'):CaX (PP sc₀) (k+170) 283 [.ob m,.tup [.tup (path p),.none,.str v.name,v.pl,.bool v.back],.int n] σ Y:=by
 refine caX' rfl rfl ?_
 refine exX_later ?_
 repeat walk_at "pq"
 refine apE_fn (P:=PP sc₀) (a:=250) rfl rfl rfl ((step_of (pl_places hz) fun s1 k1=>?_))
 repeat walk_at "pq"
 refine exX_here (stX_if ?_)
 repeat walk_at "pq"
 refine exX_here (stX_if ?_)
 repeat walk_at "pq"
 refine exX_here (stX_raise (raise_W rfl rfl ?_))
 repeat walk_at "pq"
 exact h _ (Keep.trunc (by walk_at "kp"))
end
end Mine
end
section
namespace Mine
open PySem
noncomputable def pyT:Tm→PyData
 | .a=> .tuple [.str "a"]
 | .b=> .tuple [.str "b"]
 | .f x=> .tuple [.str "f",pyT x]
 | .g x y=> .tuple [.str "g",pyT x,pyT y]
theorem two_more{d n:Nat}(h:d+2≤n):∃j,n=j+2∧d≤j:=⟨n - 2,(Nat.sub_add_cancel (Nat.le_trans (Nat.le_add_left 2 d) h)).symm,Nat.le_sub_of_add_le h⟩
theorem toPy_tm{σ:Store}:∀(t:Tm) {n:Nat},t.depth+2≤n→toPy σ n t.enc=some (pyT t)
 | .a,n,h=>by
   obtain⟨n,rfl,_⟩:=two_more h
   rfl
 | .b,n,h=>by
   obtain⟨n,rfl,_⟩:=two_more h
   rfl
 | .f x,n,h=>by
   obtain⟨n,rfl,h'⟩:=two_more h
   have h1:=toPy_tm (σ:=σ) x (n:=n+1) (Nat.succ_le_succ h')
   exact(congrArg (Option.map PyData.tuple) (mapO_cons (f:=toPy σ (n+1)) (x:= .str "f") (y:= .str "f") rfl (mapO_cons (xs:=[]) (ys:=[]) h1 rfl)):_)
 | .g x y,n,h=>by
   obtain⟨n,rfl,h'⟩:=two_more h
   have h1:=toPy_tm (σ:=σ) x (n:=n+1) (Nat.succ_le_succ (Nat.le_trans (Nat.succ_le_succ (Nat.le_max_left x.depth y.depth)) h'))
   have h2:=toPy_tm (σ:=σ) y (n:=n+1) (Nat.succ_le_succ (Nat.le_trans (Nat.succ_le_succ (Nat.le_max_right x.depth y.depth)) h'))
   exact(congrArg (Option.map PyData.tuple) (mapO_cons (f:=toPy σ (n+1)) (x:= .str "g") (y:= .str "g") rfl (mapO_cons h1 (mapO_cons (xs:=[]) (ys:=[]) h2 rfl))):_)
theorem lay_tm:∀t:Tm,layL (pyT t)=true
 | .a=>rfl
 | .b=>rfl
 | .f x=>by
   show(layL (.str "f")&&(layL (pyT x)&&true))=true
   rw[lay_tm x]
   decide+kernel
 | .g x y=>by
   show(layL (.str "g")&&(layL (pyT x)&&(layL (pyT y)&&true)))=true
   rw[lay_tm x,lay_tm y]
   decide+kernel
theorem depth_tm:∀t:Tm,(pyT t).depth=t.depth+1
 | .a=>rfl
 | .b=>rfl
 | .f x=>by
   show max 0 (max (pyT x).depth 0)+1=_
   rw[Nat.max_zero,Nat.zero_max,depth_tm x]
   rfl
 | .g x y=>by
   show max 0 (max (pyT x).depth (max (pyT y).depth 0))+1=_
   rw[Nat.max_zero,Nat.zero_max,depth_tm x,depth_tm y,Nat.add_max_add_right]
   rfl
theorem shp_tm{t:Tm}(h:t.depth≤38):shpL (pyT t)=true:=by
 unfold shpL
 rw[lay_tm,depth_tm]
 exact decide_eq_true (Nat.le_trans (Nat.succ_le_succ h) (by decide))
theorem eqv_self{d:PyData}(h:layL d=true):PyData.eqv d d=true:=PySem.SeqAt.eqv_refl d (by rw[lay_L];exact h)
theorem ne_tm{σ:Store}{t:Tm}(h:t.depth≤38):cmpA σ .NotEq t.enc t.enc=some false:=by
 rw[ne_data (toPy_tm t (Nat.add_le_add_right h 2)) (toPy_tm t (Nat.add_le_add_right h 2)) (shp_tm h) (shp_tm h),eqv_self (lay_tm t)]
 rfl
theorem depth_size:∀t:Tm,t.depth<t.size
 | .a=>Nat.zero_lt_one
 | .b=>Nat.zero_lt_one
 | .f x=>Nat.lt_of_lt_of_eq (Nat.succ_lt_succ (depth_size x)) (Nat.add_comm _ 1)
 | .g x y=>Nat.lt_of_lt_of_eq (Nat.succ_lt_succ (Nat.max_lt.mpr ⟨Nat.lt_of_lt_of_le (depth_size x) (Nat.le_add_right _ _),Nat.lt_of_lt_of_le (depth_size y) (Nat.le_add_left _ _)⟩)) (Nat.add_comm _ 1)
set_option tactic.hygienic true in
theorem at_depth:∀(p:List Nat) {t u:Tm},t.at p=some u→p.length+u.depth≤t.depth
 |[],t,u,h=>by rw[Option.some.inj h];exact Nat.le_of_eq (Nat.zero_add _)
 |j::p,t,u,h=>by
  refine ea11 (at_cons h) fun w hw h=>?_
  have :=at_depth p h
  rcases kid_cases hw with ⟨rfl,rfl⟩|⟨y,rfl,rfl⟩|⟨y,rfl,rfl⟩<;>rw[List.length_cons,Nat.add_right_comm]<;>refine Nat.succ_le_succ (Nat.le_trans this ?_)
  ·exact Nat.le_refl _
  ·exact Nat.le_max_left _ _
  ·exact Nat.le_max_right _ _
set_option tactic.hygienic true in
theorem at_size:∀(p:List Nat) {t u:Tm},t.at p=some u→u.size≤t.size
 |[],t,u,h=>Nat.le_of_eq (congrArg Tm.size (Option.some.inj h).symm)
 |j::p,t,u,h=>by
  refine ea11 (at_cons h) fun w hw h=>?_
  have :=at_size p h
  rcases kid_cases hw with ⟨rfl,rfl⟩|⟨y,rfl,rfl⟩|⟨y,rfl,rfl⟩<;>refine Nat.le_trans this ?_
  ·exact Nat.le_add_left _ _
  ·exact Nat.le_trans (Nat.le_add_right _ _) (Nat.le_add_left _ _)
  ·exact Nat.le_trans (Nat.le_add_left _ _) (Nat.le_add_left _ _)
theorem path_app{p:List Nat}:path p++[.int 9]=path (p++[9]):=by simp[path]
section
variable{P:Prg}{sc:Scope}{ρ:Loc}{σ:Store}{k:Nat}{X:XA×Loc→Store→Prop}{Y:XA→Store→Prop}
theorem stX_if_test{t:Expr}{a b:List Stmt}{p:Pos}(h:WX ((run P k).ts sc ρ σ t) fun x σ₁=>X (x,ρ) σ₁):StX P k sc ρ σ (.If t a b p) X:=
 WX.left (o:=((run P k).ts sc ρ σ t).at ρ) (f:=fun(c:Bool) σ=>match c with|true=>((run P k).ex sc ρ σ a:ResL (Fl×Loc))|false=>(run P k).ex sc ρ σ b) (WX.at h)
theorem tsX_cmp{l:Expr}{ops:List CmpOp}{es:List Expr}{p:Pos}(hs:es.any isSet=false)(h:EvX P k sc ρ σ l Y):WX ((run P (k+1)).ts sc ρ σ (.Compare l ops es p)) Y:=
 WX.eq rfl (WX.chk (not_t hs) (WX.left (o:=((run P k).ev sc ρ σ l).bd fun v σ=>chainA (run P k) sc ρ v ops es σ) (f:=fun v σ=>Mine.ofO (asBool v) fun b=>(.ok b σ:Res Bool)) (WX.left (f:=fun v σ=>chainA (run P k) sc ρ v ops es σ) h)))
end
section
variable{sc₀:Addr→Option (List Int)}{k:Nat}{σ:Store}{Q:AV→Store→Prop}{Y:XA→Store→Prop}{m j r td ro rs:Nat}
theorem stepped_ok{t:Tm}{v:Mv}{p:List Nat}{n:AV}(hz:v.sz)(ht:t.at p=some v.left)(hd:t.depth≤10)(W:Wd σ m j r td ro rs)(h:∀σ',Keep σ σ'→Q (t.put p v.right).enc σ'):Ca (PP sc₀) (k+190) 290 [.ob m,t.enc,v.enc p,n] σ Q:=by
 have hp:=at_depth p ht
 refine ca' rfl rfl ?_
 repeat walk_at "pq"
 refine OfS.mk (methB_user W.hm rfl rfl rfl) ?_
 repeat walk_at "pq"
 refine go_user ((sides_ok hz W fun s1 k1=>?_))
 repeat walk_at "pq"
 refine apE_fn (P:=PP sc₀) (a:=131) rfl rfl rfl ((part_at_ok ht fun s2 k2=>?_))
 repeat walk_at "pq"
 refine OfS.mk (ne_tm (by omega)) ?_
 repeat walk_at "pq"
 refine apE_fn (P:=PP sc₀) (a:=138) rfl rfl rfl (Ca.lift (c:=50) (d:=10*p.length) (by omega) fun _=>(replaced_ok p v.right ht fun s3 k3=>?_))
 repeat walk_at "pq"
 exact h _ (Keep.trunc (by walk_at "kp"))
theorem stepped_sides{t:AV}{v:AV}{n:Int}(hs:∀{k:Nat} {Y:XA→Store→Prop},(∀σ',Keep σ σ'→Y (.pf (.int n)) σ')→CaX (PP sc₀) (k+170) 283 [.ob m,v,.int n] σ Y)(W:Wd σ m j r td ro rs)(h:∀σ',Keep σ σ'→Y (.pf (.int n)) σ'):CaX (PP sc₀) (k+190) 290 [.ob m,t,v,.int n] σ Y:=by
 refine caX' rfl rfl ?_
 refine exX_here (stX_assign rfl rfl (evX_callM rfl rfl ?_))
 repeat walk_at "pq"
 refine⟨_,methB_user W.hm rfl rfl rfl,?_⟩
 repeat walk_at "pq"
 refine(hs fun s1 k1=>?_)
 exact h _ (Keep.trunc (by walk_at "kp"))
theorem stepped_path{t u:Tm}{v:Mv}{p:List Nat}{n:Int}(hz:v.sz)(ht:t.at p=some u)(W:Wd σ m j r td ro rs)(h:∀σ',Keep σ σ'→Y (.pf (.int n)) σ'):CaX (PP sc₀) (k+190) 290 [.ob m,t.enc,v.enc (p++[9]),.int n] σ Y:=by
 refine caX' rfl rfl ?_
 refine exX_later ?_
 repeat walk_at "pq"
 refine OfS.mk (methB_user W.hm rfl rfl rfl) ?_
 repeat walk_at "pq"
 refine go_user ((sides_ok hz W fun s1 k1=>?_))
 repeat walk_at "pq"
 refine exX_here (stX_try_tf ?_)
 refine exX_here (stX_if_test (tsX_cmp rfl (evX_callN rfl rfl rfl ?_)))
 repeat walk_at "pq"
 refine apX_fn rfl rfl (?_)
 rw[←path_app]
 refine part_at_bad ht fun s2 k2=>?_
 refine⟨rfl,_,rfl,raise_W rfl rfl ?_⟩
 repeat walk_at "pq"
 exact h _ (Keep.trunc (by walk_at "kp"))
end
end Mine
end
section
namespace Mine
open PySem
noncomputable abbrev Row:=List Nat×Mv
noncomputable def Legal:Tm→List Row→Prop
 |_,[]=>True
 |t,(p,v)::r=>(v.sz∧t.at p=some v.left∧t.depth≤10)∧Legal (t.put p v.right) r
noncomputable def trail:Tm→List Row→List Tm
 |t,[]=>[t]
 |t,(p,v)::r=>t::trail (t.put p v.right) r
noncomputable def ends:Tm→List Row→Tm
 |t,[]=>t
 |t,(p,v)::r=>ends (t.put p v.right) r
noncomputable def encs(rows:List Row):List AV:=rows.map fun q=>q.2.enc q.1
theorem Wd.frz{σ:Store}{m j r td ro rs i:Nat}{xs:List AV}(W:Wd σ m j r td ro rs)(hi:σ[i]? =some (.list xs)):Wd (σ.set i .frozen) m j r td ro rs:=by
 refine⟨get_set_ne W.hm ?_,get_set_ne W.hj ?_,get_set_ne W.hr ?_,get_set_ne W.ht ?_,get_set_ne W.ho ?_,get_set_ne W.hs ?_⟩<;>rintro rfl
 ·have :=W.hm;rw[hi]at this;cases this
 ·have :=W.hj;rw[hi]at this;cases this
 ·have :=W.hr;rw[hi]at this;cases this
 ·have :=W.ht;rw[hi]at this;cases this
 ·have :=W.ho;rw[hi]at this;cases this
 ·have :=W.hs;rw[hi]at this;cases this
theorem at_last{xs:List AV}{x:AV}:atA (xs++[x]) (-1)=some x:=by
 unfold atA
 have :PySem.seqIndex? (-1) (xs++[x]).length=some xs.length:=by
  unfold PySem.seqIndex?
  rw[List.length_append]
  show(if(decide (0≤ -1+(((xs.length+1:Nat)):Int))&&decide (-1+(((xs.length+1:Nat)):Int)<((xs.length+1:Nat):Int)))=true then some (-1+((xs.length+1:Nat):Int)).toNat else none)=_
  rw[show -1+(((xs.length+1:Nat)):Int)=(xs.length:Int)from by rw[Int.natCast_succ,Int.add_comm,Int.add_neg_cancel_right],decide_eq_true (Int.natCast_nonneg _),decide_eq_true (Int.ofNat_lt.mpr (Nat.lt_succ_self _)),Int.toNat_natCast]
  rfl
 rw[this]
 simp
theorem item_last{σ:Store}{i:Nat}{xs:List AV}{x:AV}(h:σ[i]? =some (.list (xs++[x]))):itemA σ (.ob i) (.int (-1))=some x:=by
 show(match listOf σ (.ob i)with|some _=>_|none=>_)=_
 rw[listOf_ob h]
 exact at_last
section
variable{sc₀:Addr→Option (List Int)}{k:Nat}{σ:Store}{Q:AV→Store→Prop}{Y:XA→Store→Prop}{m j r td ro rs:Nat}
noncomputable def WalkInv(σ:Store)(i m:Nat)(t0:Tm)(tail:List AV)(N:Nat)(all:List Tm)(xs:List AV)(ρ:Loc)(S:Store):Prop:=
 ∃(c:Nat) (cur:Tm) (rest:List Row) (seen:List Tm),xs=enumL c (encs rest++tail)∧c+rest.length=N∧seen++trail cur rest=all∧Legal cur rest∧seen.length+rest.length≤1000∧ends cur rest=t0∧
  S[σ.length]? =some (.list (seen.map Tm.enc++[cur.enc]))∧Keep (σ.set i .frozen) S∧look "found" ρ=some (.ob σ.length)∧look "self" ρ=some (.ob m)∧only ["self","term","steps","found","number","step"] ρ
theorem walk_ok{t:Tm}{rows:List Row}{i:Nat}(hl:Legal t rows)(hn:rows.length≤1000)(hi:σ[i]? =some (.list (encs rows)))(W:Wd σ m j r td ro rs)(h:∀o σ',Keep σ σ'→σ.length≤o→σ'[o]? =some (.list ((trail t rows).map Tm.enc))→Q (.ob o) σ'):Ca (PP sc₀) (k+210) 297 [.ob m,t.enc,.ob i] σ Q:=by
 have hlt:=get_lt hi
 have hlt2:(σ++[AO.list [t.enc]])[i]? =some (.list (encs rows)):=Keep.push _ _ _ _ hi
 refine ca' rfl rfl ?_
 repeat walk_at "pq"
 refine over_list hlt2 ?_
 refine for_inv (I:=fun xs ρ S=>WalkInv σ i m (ends t rows) [] rows.length (trail t rows) xs ρ S) ⟨0,t,rows,[],by simp,by simp,by simp,hl,by simpa using hn,rfl,?_,?_,rfl,rfl,?_⟩ (fun x xs ρ S hI=>?_) (fun ρ S hI=>?_)
 ·rw[List.getElem?_set_ne (Nat.ne_of_lt hlt)];exact get_new _ _
 ·rw[List.set_append_left _ _ hlt];exact Keep.push _ _
 ·exact only.cons rfl (only.cons rfl (only.cons rfl (only.cons rfl fun _ _=>rfl)))
 ·refine ea45 hI fun c cur rest seen hx hc hall hleg hlen h1=>?_;clear hI;refine ea05 h1 fun hend hg hk hf hs ho=>?_;clear h1
  cases rest with
  |nil=>cases hx
  |cons q rest=>
   obtain⟨p,v⟩:=q
   refine ea01 (List.cons.inj hx) fun z1=>?_;subst z1;intro z2;subst z2
   obtain⟨⟨hz,hat,hd⟩,hleg⟩:=hleg
   refine⟨_,rfl,?_⟩
   have hf':look "found" (("step",v.enc p)::("number",.int (c:Int))::ρ)=some (.ob σ.length):=look_tail rfl (look_tail rfl hf)
   have hs':look "self" (("step",v.enc p)::("number",.int (c:Int))::ρ)=some (.ob m):=look_tail rfl (look_tail rfl hs)
   have ho':=only.cons (y:="step") (v:=v.enc p) rfl (only.cons (y:="number") (v:= .int (c:Int)) rfl ho)
   have W1:=(W.frz hi).keep hk
   repeat walk_at "pq"
   refine OfS.mk (methB_app hg) ?_
   repeat walk_at "pq"
   refine OfS.mk (methB_user W1.hm rfl rfl rfl) ?_
   repeat walk_at "pq"
   refine OfS.mk (item_last hg) ?_
   repeat walk_at "pq"
   refine go_user ((stepped_ok hz hat hd W1 fun s2 k2=>?_))
   repeat walk_at "pq"
   have hg2:=k2 _ _ hg
   refine go_app hg2 (Nat.ble_eq_true_of_le (by simp only [List.length_append,List.length_map,List.length_cons,List.length_nil]at hlen ⊢;unfold bound;omega)) ?_
   repeat walk_at "pq"
   refine⟨c+1,_,rest,seen++[cur],rfl,by simp only [List.length_cons]at hc;omega,by rw[←hall];exact List.append_assoc _ _ _,hleg,by simp only [List.length_append,List.length_cons,List.length_nil]at hlen ⊢;omega,hend,?_,?_,hf',hs',ho'⟩
   ·rw[get_set hg2];simp
   ·exact(hk.trans k2).set_new (by rw[List.length_set];exact Nat.le_refl _)
 ·refine ea45 hI fun c cur rest seen hx hc hall hleg hlen h1=>?_;clear hI;refine ea05 h1 fun hend hg hk hf hs ho=>?_;clear h1
  cases rest with
  |cons q rest=>cases hx
  |nil=>
   repeat walk_at "pq"
   have hk2:Keep σ (S.set i (.list (encs rows))):=keep_thaw hi hk
   refine h _ _ hk2.trunc (Nat.le_refl _) ?_
   refine trunc_ob.trans ?_
   rw[List.getElem?_set_ne (Nat.ne_of_lt hlt),hg,←hall,List.map_append]
   rfl
noncomputable def Bad(sc₀:Addr→Option (List Int))(m j r td ro rs:Nat)(σ:Store)(t:Tm)(n:Nat)(bad:AV):Prop:=∀{k:Nat} {S:Store} {Y:XA→Store→Prop},Wd S m j r td ro rs→Keep σ S→(∀σ',Keep S σ'→Y (.pf (.int (n:Int))) σ')→CaX (PP sc₀) (k+190) 290 [.ob m,t.enc,bad,.int (n:Int)] S Y
theorem walk_bad{t:Tm}{rows:List Row}{bad:AV}{tail:List AV}{i:Nat}(hl:Legal t rows)(hn:rows.length≤1000)(hi:σ[i]? =some (.list (encs rows++bad::tail)))(hb:Bad sc₀ m j r td ro rs (σ.set i .frozen) (ends t rows) rows.length bad)(W:Wd σ m j r td ro rs)(h:∀σ',Keep σ σ'→Y (.pf (.int (rows.length:Int))) σ'):CaX (PP sc₀) (k+210) 297 [.ob m,t.enc,.ob i] σ Y:=by
 have hlt:=get_lt hi
 have hlt2:(σ++[AO.list [t.enc]])[i]? =some (.list (encs rows++bad::tail)):=Keep.push _ _ _ _ hi
 refine caX' rfl rfl ?_
 refine exX_later ?_
 repeat walk_at "pq"
 refine exX_here (stX_enum rfl rfl ?_)
 repeat walk_at "pq"
 refine overX_list hlt2 ?_
 refine forX_inv (I:=fun xs ρ S=>WalkInv σ i m (ends t rows) (bad::tail) rows.length (trail t rows) xs ρ S) ⟨0,t,rows,[],rfl,by simp,by simp,hl,by simpa using hn,rfl,?_,?_,rfl,rfl,?_⟩ (fun ρ S hI=>?_) (fun x xs ρ S hI=>?_)
 ·rw[List.getElem?_set_ne (Nat.ne_of_lt hlt)];exact get_new _ _
 ·rw[List.set_append_left _ _ hlt];exact Keep.push _ _
 ·exact only.cons rfl (only.cons rfl (only.cons rfl (only.cons rfl fun _ _=>rfl)))
 ·refine ea41 hI fun c cur rest seen hx _=>?_;clear hI
  cases rest<;>cases hx
 ·refine ea45 hI fun c cur rest seen hx hc hall hleg hlen h1=>?_;clear hI;refine ea05 h1 fun hend hg hk hf hs ho=>?_;clear h1
  cases rest with
  |nil=>
   refine ea01 (List.cons.inj hx) fun z1=>?_;subst z1;intro z2;subst z2
   refine⟨_,rfl,.inl ?_⟩
   have hf':look "found" (("step",bad)::("number",.int (c:Int))::ρ)=some (.ob σ.length):=look_tail rfl (look_tail rfl hf)
   have hs':look "self" (("step",bad)::("number",.int (c:Int))::ρ)=some (.ob m):=look_tail rfl (look_tail rfl hs)
   have W1:=(W.frz hi).keep hk
   simp only [List.length_nil,Nat.add_zero]at hc
   subst hc
   have hend:cur=ends t rows:=hend
   subst hend
   refine exX_here (stX_expr rfl (evX_callM_args rfl rfl ?_))
   repeat walk_at "pq"
   refine⟨_,methB_app hg,?_⟩
   refine evsX_here (evX_callM rfl rfl ?_)
   repeat walk_at "pq"
   refine⟨_,methB_user W1.hm rfl rfl rfl,?_⟩
   repeat walk_at "pq"
   refine OfS.mk (item_last hg) ?_
   repeat walk_at "pq"
   refine(hb W1 hk fun s2 k2=>?_)
   exact h _ (Keep.trunc (keep_thaw hi (hk.trans k2)))
  |cons q rest=>
   obtain⟨p,v⟩:=q
   refine ea01 (List.cons.inj hx) fun z1=>?_;subst z1;intro z2;subst z2
   obtain⟨⟨hz,hat,hd⟩,hleg⟩:=hleg
   refine⟨_,rfl,.inr ?_⟩
   have hf':look "found" (("step",v.enc p)::("number",.int (c:Int))::ρ)=some (.ob σ.length):=look_tail rfl (look_tail rfl hf)
   have hs':look "self" (("step",v.enc p)::("number",.int (c:Int))::ρ)=some (.ob m):=look_tail rfl (look_tail rfl hs)
   have ho':=only.cons (y:="step") (v:=v.enc p) rfl (only.cons (y:="number") (v:= .int (c:Int)) rfl ho)
   have W1:=(W.frz hi).keep hk
   repeat walk_at "pq"
   refine OfS.mk (methB_app hg) ?_
   repeat walk_at "pq"
   refine OfS.mk (methB_user W1.hm rfl rfl rfl) ?_
   repeat walk_at "pq"
   refine OfS.mk (item_last hg) ?_
   repeat walk_at "pq"
   refine go_user ((stepped_ok hz hat hd W1 fun s2 k2=>?_))
   repeat walk_at "pq"
   have hg2:=k2 _ _ hg
   refine go_app hg2 (Nat.ble_eq_true_of_le (by simp only [List.length_append,List.length_map,List.length_cons,List.length_nil]at hlen ⊢;unfold bound;omega)) ?_
   repeat walk_at "pq"
   refine⟨c+1,_,rest,seen++[cur],rfl,by simp only [List.length_cons]at hc;omega,by rw[←hall];exact List.append_assoc _ _ _,hleg,by simp only [List.length_append,List.length_cons,List.length_nil]at hlen ⊢;omega,hend,?_,?_,hf',hs',ho'⟩
   ·rw[get_set hg2];simp
   ·exact(hk.trans k2).set_new (by rw[List.length_set];exact Nat.le_refl _)
theorem paper_bad{t:Tm}{rows:List Row}{bad:AV}{tail:List AV}{i:Nat}(hl:Legal t rows)(hn:rows.length≤1000)(hi:σ[i]? =some (.list (encs rows++bad::tail)))(hb:Bad sc₀ m j r td ro rs (σ.set i .frozen) (ends t rows) rows.length bad)(W:Wd σ m j r td ro rs)(h:∀σ',Keep σ σ'→Y (.pf (.int (rows.length:Int))) σ'):CaX (PP sc₀) (k+220) 304 [.ob m,t.enc,.ob i] σ Y:=by
 refine caX' rfl rfl ?_
 refine exX_later ?_
 repeat walk_at "pq"
 refine exX_here (stX_for_iter rfl rfl (evX_callN_args rfl rfl rfl (evsX_here (evX_callM rfl rfl ?_))))
 repeat walk_at "pq"
 refine⟨_,methB_user W.hm rfl rfl rfl,?_⟩
 repeat walk_at "pq"
 refine(walk_bad hl hn hi hb W fun s2 k2=>?_)
 exact h _ k2.trunc
end
end Mine
end
section
namespace Mine
open PySem
noncomputable def HD(S:Store)(n:Nat)(v:AV):Prop:=∃d,toPy S n v=some d∧layL d=true∧d.depth≤n
theorem HD.tup{S:Store}{n:Nat}{xs:List AV}(h:∀x∈xs,HD S n x):∃ds,mapO (toPy S n) xs=some ds∧laysL ds=true∧PyData.depthAll ds≤n:=by
 induction xs with
 |nil=>exact⟨[],rfl,rfl,Nat.zero_le _⟩
 |cons x xs ih=>
  refine ea12 (h x (.head _)) fun d e1 e2 e3=>?_
  refine ea12 (ih fun y hy=>h y (.tail _ hy)) fun ds f1 f2 f3=>?_
  refine⟨d::ds,mapO_cons e1 f1,by show(layL d&&laysL ds)=true;rw[e2,f2];rfl,Nat.max_le.mpr ⟨e3,f3⟩⟩
theorem hd_tup{S:Store}{n:Nat}{xs:List AV}(h:∀x∈xs,HD S n x):HD S (n+1) (.tup xs):=by
 refine ea12 (HD.tup h) fun ds f1 f2 f3=>?_
 exact⟨.tuple ds,congrArg (Option.map PyData.tuple) f1,f2,Nat.succ_le_succ f3⟩
theorem hd_ob{S:Store}{n i:Nat}{xs:List AV}(hi:S[i]? =some (.list xs))(h:∀x∈xs,HD S n x):HD S (n+1) (.ob i):=by
 refine ea12 (HD.tup h) fun ds f1 f2 f3=>?_
 exact⟨.list ds,toPy_list hi f1,f2,Nat.succ_le_succ f3⟩
theorem hd_int{S:Store}{n:Nat}{i:Int}:HD S (n+1) (.int i):=⟨.int i,rfl,rfl,Nat.zero_le _⟩
theorem hd_bool{S:Store}{n:Nat}{i:Bool}:HD S (n+1) (.bool i):=⟨.bool i,rfl,rfl,Nat.zero_le _⟩
theorem hd_none{S:Store}{n:Nat}:HD S (n+1) .none:=⟨.none,rfl,rfl,Nat.zero_le _⟩
theorem hd_str{S:Store}{n:Nat}{x:Str}(h:(x.cps.toList.all fun c=>decide (c<0x110000))=true):HD S (n+1) (.str x):=⟨.str x,rfl,h,Nat.zero_le _⟩
theorem hd_tm{S:Store}{t:Tm}{n:Nat}(h:t.depth+2≤n):HD S n t.enc:=⟨pyT t,toPy_tm t h,lay_tm t,by rw[depth_tm];exact Nat.le_of_succ_le h⟩
theorem hd_path{S:Store}{p:List Nat}{n:Nat}:HD S (n+2) (.tup (path p)):=hd_tup fun x hx=>by
 refine ea10 (path_mem hx) fun j z1=>?_;subst z1
 exact hd_int
theorem ne_same{S:Store}{i j:Nat}{xs:List AV}(hi:S[i]? =some (.list xs))(hj:S[j]? =some (.list xs))(h:∀x∈xs,HD S 39 x):cmpA S .NotEq (.ob i) (.ob j)=some false:=by
 refine ea12 (HD.tup h) fun ds f1 f2 f3=>?_
 have sh:shpL (.list ds)=true:=by
  show(laysL ds&&decide (PyData.depthAll ds+1≤64))=true
  rw[f2]
  exact decide_eq_true (Nat.le_trans (Nat.succ_le_succ f3) (by decide))
 rw[ne_data (toPy_list hi f1) (toPy_list hj f1) sh sh,eqv_self (d:= .list ds) f2]
 rfl
noncomputable def Mv.low(v:Mv):Prop:=v.sz∧match v with
 | .off _ x=>x.depth≤30
 | .swap _ x y=>x.depth≤30∧y.depth≤30
 | .told _=>True
noncomputable def Mv.pls:Mv→List AV
 | .off _ x=>[.tup [.str "?x",x.enc]]
 | .swap _ x y=>[.tup [.str "?x",x.enc],.tup [.str "?y",y.enc]]
 | .told _=>[]
theorem Mv.pl_eq(v:Mv):v.pl= .tup v.pls:=by cases v<;>rfl
theorem all_mem1{α:Type}{p:α→Prop}{a:α}(h:p a):∀x∈[a],p x:=fun _ hx=>List.mem_singleton.mp hx▸h
theorem all_memc{α:Type}{p:α→Prop}{a:α}{r:List α}(h:p a)(k:∀x∈r,p x):∀x∈a::r,p x:=fun x hx=>(List.mem_cons.mp hx).elim (fun e=>e▸h) (k x)
theorem all_mem2{α:Type}{p:α→Prop}{a b:α}(h:p a)(h2:p b):∀x∈[a,b],p x:=all_memc h (all_mem1 h2)
theorem hd_pls{S:Store}{v:Mv}{n:Nat}(h:v.low)(hn:35≤n):∀x∈v.pls,HD S n x:=by
 obtain⟨n,rfl⟩:∃j,n=j+2:=Nat.exists_eq_add_of_le' (Nat.le_trans (by decide:2≤35) hn)
 have hx:(("?x":Str).cps.toList.all fun c=>decide (c<0x110000))=true:=by decide+kernel
 have hy:(("?y":Str).cps.toList.all fun c=>decide (c<0x110000))=true:=by decide+kernel
 cases v with
 |told c=>intro x hx;cases hx
 |off c t=>
  exact all_mem1 (hd_tup (all_mem2 (hd_str hx) (hd_tm (Nat.le_trans (Nat.add_le_add_right h.2 2) (Nat.le_trans (by decide:32≤34) (Nat.le_of_succ_le_succ hn))))))
 |swap c t u=>
  have go:∀{w:Tm},w.depth≤30→HD S (n+1) w.enc:=fun h=>hd_tm (Nat.le_trans (Nat.add_le_add_right h 2) (Nat.le_trans (by decide:32≤34) (Nat.le_of_succ_le_succ hn)))
  exact all_mem2 (hd_tup (all_mem2 (hd_str hx) (go h.2.1))) (hd_tup (all_mem2 (hd_str hy) (go h.2.2)))
theorem hd_kind{S:Store}{v:Mv}{n:Nat}:HD S (n+1) (.str v.kind):=by cases v<;>exact hd_str rfl
theorem hd_name{S:Store}{v:Mv}{n:Nat}:HD S (n+1) (.str v.name):=by cases v<;>exact hd_str rfl
theorem hd_pl{S:Store}{v:Mv}{n:Nat}(h:v.low)(hn:36≤n):HD S n v.pl:=by
 obtain⟨n,rfl⟩:∃j,n=j+1:=Nat.exists_eq_add_of_le' (Nat.le_trans (by decide:1≤36) hn)
 rw[Mv.pl_eq]
 exact hd_tup (hd_pls h (Nat.le_of_succ_le_succ hn))
theorem hd_enc{S:Store}{v:Mv}{p:List Nat}{n:Nat}(h:v.low)(hn:37≤n):HD S n (v.enc p):=by
 obtain⟨n,rfl⟩:∃j,n=j+3:=Nat.exists_eq_add_of_le' (Nat.le_trans (by decide:3≤37) hn)
 exact hd_tup (all_memc hd_path (all_memc hd_kind (all_memc hd_name (all_mem2 (hd_pl h (Nat.le_of_succ_le_succ hn)) hd_bool))))
section
variable{sc₀:Addr→Option (List Int)}{k:Nat}{σ S:Store}{Q:AV→Store→Prop}{Y:XA→Store→Prop}{m j r td ro rs n:Nat}{t u:Tm}{v:Mv}{p:List Nat}{bad:AV}
theorem bad_form(h:∀S',Keep S S'→StepTo sc₀ S' bad false):Bad sc₀ m j r td ro rs S t n bad:=fun W hk hY=>stepped_sides (fun hY'=>sides_form (h _ hk) hY') W hY
theorem bad_kind_s(hz:v.sz):Bad sc₀ m j r td ro rs S t n (.tup [.tup (path p),.str "same",.str v.name,v.pl,.bool v.back]):=fun W hk hY=>stepped_sides (fun hY'=>sides_kind_s hz hY') W hY
theorem bad_kind_n(hz:v.sz):Bad sc₀ m j r td ro rs S t n (.tup [.tup (path p),.none,.str v.name,v.pl,.bool v.back]):=fun W hk hY=>stepped_sides (fun hY'=>sides_kind_n hz hY') W hY
theorem bad_path(hz:v.sz)(ht:t.at p=some u):Bad sc₀ m j r td ro rs S t n (v.enc (p++[9])):=fun W hk hY=>stepped_path hz ht W hY
end
end Mine
end
section
namespace Mine
open PySem
noncomputable abbrev pathX(p:List Nat)(x:AV):List AV:=path p++[x]
noncomputable abbrev plX(v:Mv)(x:AV):List AV:=v.pls++[x]
theorem bin_tups{σ:Store}{xs ys:List AV}(h:xs.length+ys.length≤1000):binA σ .Add (.tup xs) (.tup ys)= .ok (.tup (xs++ys)) σ:=by
 show mkTup (xs++ys) σ=_
 unfold mkTup
 rw[show Nat.ble (xs++ys).length bound=true from Nat.ble_eq_true_of_le (by rw[List.length_append];unfold bound;omega)]
theorem notListI{σ:Store}{i:Nat}{kvs:List (Int×AV)}(h:σ[i]? =some (.dint kvs)):listOf σ (.ob i)=none:=listNot h fun _ e=>nomatch e
theorem in_dint{σ:Store}{i:Nat}{kvs:List (Int×AV)}{x:Int}(h:σ[i]? =some (.dint kvs)):cmpA σ .In (.int x) (.ob i)=some (lookI x kvs).isSome:=by
 show(match listOf σ (.ob i)with|some _=>_|none=>_)=_
 rw[notListI h]
 show(match dstrOf σ (.ob i)with|some _=>_|none=>(dintOf σ (.ob i)).bind _)=_
 rw[dintOf_ob h,show dstrOf σ (.ob i)=none from by
  show(match σ[i]? with|some o=>_|none=>none)=_
  rw[h]]
 rfl
theorem item_dint{σ:Store}{i:Nat}{kvs:List (Int×AV)}{x:Int}{v:AV}(h:σ[i]? =some (.dint kvs))(hl:lookI x kvs=some v):itemA σ (.ob i) (.int x)=some v:=by
 show(match listOf σ (.ob i)with|some _=>_|none=>_)=_
 rw[notListI h]
 show(match dintOf σ (.ob i)with|some _=>_|none=>_)=_
 rw[dintOf_ob h]
 exact hl
theorem trunc_open{n:Nat}{v:AV}{σ:Store}(h:v.closed n=false):trunc n v σ=σ:=by
 unfold trunc
 rw[h]
 rfl
theorem pls_len(v:Mv):v.pls.length≤2:=by cases v<;>simp[Mv.pls]
noncomputable def Has(σ' S:Store)(lo:Nat):Prop:=∀x ys,lo≤x→σ'[x]? =some (.list ys)→S[x]? =some (.list ys)
noncomputable def Spoilt(sc₀:Addr→Option (List Int))(σ':Store)(lo:Nat)(t:Tm)(p:List Nat)(v:Mv)(bad:AV):Prop:=∀S,Has σ' S lo→HD S 39 bad∧∀m j r td ro rs n,Bad sc₀ m j r td ro rs S t n bad
theorem blt_false{x n:Nat}(h:n≤x):Nat.blt x n=false:=by
 cases e:Nat.blt x n with
 |false=>rfl
 |true=>exact absurd (Nat.le_of_ble_eq_true e) (by omega)
theorem hd_pathx{S:Store}{p:List Nat}{n:Nat}{x:AV}(h:HD S (n+1) x):HD S (n+2) (.tup (path p++[x])):=hd_tup fun y hy=>by
 rcases List.mem_append.mp hy with hy|hy
 ·refine ea10 (path_mem hy) fun j z1=>?_;subst z1
  exact hd_int
 ·rw[List.mem_singleton.mp hy];exact h
theorem hd_plT{S:Store}{v:Mv}{n:Nat}(h:v.low)(hn:35≤n):HD S (n+1) (.tup v.pls):=hd_tup (hd_pls h hn)
theorem hd_plx{S:Store}{v:Mv}{n:Nat}{x:AV}(h:v.low)(hn:35≤n)(hx:HD S n x):HD S (n+1) (.tup (v.pls++[x])):=hd_tup fun y hy=>by
 rcases List.mem_append.mp hy with hy|hy
 ·exact hd_pls h hn y hy
 ·rw[List.mem_singleton.mp hy];exact hx
theorem hd_nil{S:Store}{n:Nat}:∀x∈([]:List AV),HD S n x:=fun _ h=>nomatch h
theorem hd_cons{S:Store}{n:Nat}{x:AV}{xs:List AV}(h:HD S n x)(t:∀y∈xs,HD S n y):∀y∈x::xs,HD S n y:=fun _ hy=>(List.mem_cons.1 hy).elim (fun e=>e▸h) (t _)
theorem hd_paths{S:Store}{p:List Nat}{n:Nat}:∀x∈path p,HD S (n+1) x:=fun x hx=>by
 refine ea10 (path_mem hx) fun j z1=>?_;subst z1
 exact hd_int
theorem upto{p:Nat→Prop}{n:Nat}(h:∀w,w<n→p w)(hn:p n):∀w,w<n+1→p w:=fun w hw=>(Nat.lt_succ_iff_lt_or_eq.1 hw).elim (h w) fun e=>e▸hn
theorem Has.open{σ' S:Store}{n lo:Nat}{v:AV}(hS:Has (trunc n v σ') S lo)(h:v.closed n=false):Has σ' S lo:=by rw[trunc_open h]at hS;exact hS
theorem open_ob{n i:Nat}(h:n≤i):(AV.ob i).closed n=false:=(blt_false h:Nat.blt i n=false)
theorem open_tup{n:Nat}{xs:List AV}(h:AV.closeds n xs=false):(AV.tup xs).closed n=false:=h
theorem open_here{n:Nat}{x:AV}{xs:List AV}(h:x.closed n=false):AV.closeds n (x::xs)=false:=by show(x.closed n&&_)=false;rw[h];rfl
theorem open_there{n:Nat}{x:AV}{xs:List AV}(h:AV.closeds n xs=false):AV.closeds n (x::xs)=false:=by show(_&&AV.closeds n xs)=false;rw[h,Bool.and_false]
theorem bin_path{σ:Store}{p:List Nat}{x:AV}(h:p.length≤500):binA σ .Add (.tup (path p)) (.tup [x])= .ok (.tup (path p++[x])) σ:=bin_tups (by
 rw[show(path p).length=p.length from List.length_map _]
 exact Nat.add_le_add h (Nat.le_of_ble_eq_true rfl:1≤500))
theorem bin_pls{σ:Store}{v:Mv}{x:AV}:binA σ .Add (.tup v.pls) (.tup [x])= .ok (.tup (v.pls++[x])) σ:=bin_tups (Nat.add_le_add (pls_len v) (by decide:1≤998))
set_option compiler.extract_closed false in
set_option hygiene false in
local macro_rules | `(tactic| walk_at "hd") => `(tactic| first
 |exact hd_int|exact hd_bool|exact hd_none|exact hd_path|exact hd_kind|exact hd_name|exact hd_plT (by assumption) (by decide)|exact hd_str rfl
 |(refine hd_pathx ?_;walk_at "hd")|(refine hd_plx (by assumption) (by decide) ?_;walk_at "hd")|exact hd_nil|(refine hd_cons ?_ ?_<;>walk_at "hd")|(refine hd_tup ?_;walk_at "hd")
 |exact hd_ob (by assumption) (hd_pls (by assumption) (by decide))|exact hd_ob (by assumption) hd_paths|(refine hd_ob (by assumption) ?_;walk_at "hd"))
section
variable{sc₀:Addr→Option (List Int)}{k:Nat}{σ:Store}{Q:AV→Store→Prop}{Y:XA→Store→Prop}
theorem spoiled_ok{t u:Tm}{v:Mv}{p:List Nat}(way:Nat)(hz:v.low)(ht:t.at p=some u)(hp:p.length≤500)(hw:way<22)(h:∀bad σ',Keep σ σ'→Spoilt sc₀ σ' σ.length t p v bad→Q bad σ'):Ca (PP sc₀) (k+60) 401 [v.enc p,.int (way:Int)] σ Q:=by
 rw[show v.enc p= .tup [.tup (path p),.str v.kind,.str v.name,.tup v.pls,.bool v.back]from by unfold Mv.enc;rw[Mv.pl_eq]]
 refine ca' rfl rfl ?_
 repeat walk_at "pq"
 repeat(first |walk_at "pq"|refine OkO.mk (bin_path hp) ?_|refine OkO.mk bin_pls ?_)
 revert way
 refine upto (n:=21) (upto (n:=20) (upto (n:=19) (upto (n:=18) (upto (n:=17) (upto (n:=16) (upto (n:=15) (upto (n:=14) (upto (n:=13) (upto (n:=12) (upto (n:=11) (upto (n:=10) (upto (n:=9) (upto (n:=8) (upto (n:=7) (upto (n:=6) (upto (n:=5) (upto (n:=4) (upto (n:=3) (upto (n:=2) (upto (n:=1) (upto (n:=0) (fun w h=>absurd h (Nat.not_lt_zero w)) ?_) ?_) ?_) ?_) ?_) ?_) ?_) ?_) ?_) ?_) ?_) ?_) ?_) ?_) ?_) ?_) ?_) ?_) ?_) ?_) ?_) ?_
 ·repeat(first |walk_at "pq"|refine OfS.mk (in_dint (by walk_at "lk")) ?_|refine OfS.mk (item_dint (by walk_at "lk") rfl) ?_)
  refine h _ _ (Keep.trunc (by walk_at "kp")) fun S hS=>?_
  have hx:=hS _ _ (Keep.len (by walk_at "kp")) (trunc_ob.trans (by walk_at "lk"))
  refine⟨hd_ob hx (by walk_at "hd"),?_⟩
  exact fun m j r td ro rs n=>bad_form fun S' k'=>fun k2 h2=>step_list (k2 _ _ (k' _ _ hx)) h2
 ·repeat(first |walk_at "pq"|refine OfS.mk (in_dint (by walk_at "lk")) ?_|refine OfS.mk (item_dint (by walk_at "lk") rfl) ?_)
  refine h (.tup [.tup (path p),.str v.kind,.str v.name,.tup v.pls]) _ (Keep.trunc (by walk_at "kp")) fun S hS=>?_
  exact⟨by walk_at "hd",fun m j r td ro rs n=>bad_form fun S' k'=>fun k2 h2=>step_4 h2⟩
 ·repeat(first |walk_at "pq"|refine OfS.mk (in_dint (by walk_at "lk")) ?_|refine OfS.mk (item_dint (by walk_at "lk") rfl) ?_)
  refine h (.tup [.tup (path p),.str v.kind,.str v.name,.tup v.pls,.bool v.back,.bool false]) _ (Keep.trunc (by walk_at "kp")) fun S hS=>?_
  exact⟨by walk_at "hd",fun m j r td ro rs n=>bad_form fun S' k'=>fun k2 h2=>step_6 h2⟩
 ·repeat(first |walk_at "pq"|refine OfS.mk (in_dint (by walk_at "lk")) ?_|refine OfS.mk (item_dint (by walk_at "lk") rfl) ?_)
  refine h .none _ (Keep.trunc (by walk_at "kp")) fun S hS=>?_
  exact⟨by walk_at "hd",fun m j r td ro rs n=>bad_form fun S' k'=>fun k2 h2=>step_none h2⟩
 ·repeat(first |walk_at "pq"|refine OfS.mk (in_dint (by walk_at "lk")) ?_|refine OfS.mk (item_dint (by walk_at "lk") rfl) ?_)
  refine h (.str "step") _ (Keep.trunc (by walk_at "kp")) fun S hS=>?_
  exact⟨by walk_at "hd",fun m j r td ro rs n=>bad_form fun S' k'=>fun k2 h2=>step_str h2⟩
 ·repeat(first |walk_at "pq"|refine OfS.mk (in_dint (by walk_at "lk")) ?_|refine OfS.mk (item_dint (by walk_at "lk") rfl) ?_)
  refine h (.tup [.ob _,.str v.kind,.str v.name,.tup v.pls,.bool v.back]) _ (Keep.trunc (by walk_at "kp")) fun S hS=>?_
  have hx:=(hS.open (open_tup (open_here (open_ob (Keep.len (by walk_at "kp")))))) σ.length (path p) (Nat.le_refl _) (by walk_at "lk")
  exact⟨hd_tup (hd_cons (hd_ob hx hd_paths) (by walk_at "hd")),fun m j r td ro rs n=>bad_form fun S' k'=>fun k2 h2=>step_path (k2 _ _ (k' _ _ hx)) h2⟩
 ·repeat(first |walk_at "pq"|refine OfS.mk (in_dint (by walk_at "lk")) ?_|refine OfS.mk (item_dint (by walk_at "lk") rfl) ?_)
  refine h (.tup [.tup (pathX p (.str "0")),.str v.kind,.str v.name,.tup v.pls,.bool v.back]) _ (Keep.trunc (by walk_at "kp")) fun S hS=>?_
  exact⟨by walk_at "hd",fun m j r td ro rs n=>bad_form fun S' k'=>fun k2 h2=>step_ps h2⟩
 ·repeat(first |walk_at "pq"|refine OfS.mk (in_dint (by walk_at "lk")) ?_|refine OfS.mk (item_dint (by walk_at "lk") rfl) ?_)
  refine h (.tup [.tup (pathX p (.bool true)),.str v.kind,.str v.name,.tup v.pls,.bool v.back]) _ (Keep.trunc (by walk_at "kp")) fun S hS=>?_
  exact⟨by walk_at "hd",fun m j r td ro rs n=>bad_form fun S' k'=>fun k2 h2=>step_pt h2⟩
 ·repeat(first |walk_at "pq"|refine OfS.mk (in_dint (by walk_at "lk")) ?_|refine OfS.mk (item_dint (by walk_at "lk") rfl) ?_)
  refine h (.tup [.tup (path p),.str "same",.str v.name,.tup v.pls,.bool v.back]) _ (Keep.trunc (by walk_at "kp")) fun S hS=>?_
  exact⟨by walk_at "hd",fun m j r td ro rs n=>by
   have e:Bad sc₀ m j r td ro rs S t n _:=bad_kind_s (p:=p) hz.1
   rw[Mv.pl_eq]at e
   exact @e⟩
 ·repeat(first |walk_at "pq"|refine OfS.mk (in_dint (by walk_at "lk")) ?_|refine OfS.mk (item_dint (by walk_at "lk") rfl) ?_)
  refine h (.tup [.tup (path p),.none,.str v.name,.tup v.pls,.bool v.back]) _ (Keep.trunc (by walk_at "kp")) fun S hS=>?_
  exact⟨by walk_at "hd",fun m j r td ro rs n=>by
   have e:Bad sc₀ m j r td ro rs S t n _:=bad_kind_n (p:=p) hz.1
   rw[Mv.pl_eq]at e
   exact @e⟩
 ·repeat(first |walk_at "pq"|refine OfS.mk (in_dint (by walk_at "lk")) ?_|refine OfS.mk (item_dint (by walk_at "lk") rfl) ?_)
  refine h (.tup [.tup (path p),.str v.kind,.int 7,.tup v.pls,.bool v.back]) _ (Keep.trunc (by walk_at "kp")) fun S hS=>?_
  exact⟨by walk_at "hd",fun m j r td ro rs n=>bad_form fun S' k'=>fun k2 h2=>step_int h2⟩
 ·repeat(first |walk_at "pq"|refine OfS.mk (in_dint (by walk_at "lk")) ?_|refine OfS.mk (item_dint (by walk_at "lk") rfl) ?_)
  refine h (.tup [.tup (path p),.str v.kind,.tup [.str v.name],.tup v.pls,.bool v.back]) _ (Keep.trunc (by walk_at "kp")) fun S hS=>?_
  exact⟨by walk_at "hd",fun m j r td ro rs n=>bad_form fun S' k'=>fun k2 h2=>step_tup h2⟩
 ·repeat(first |walk_at "pq"|refine OfS.mk (in_dint (by walk_at "lk")) ?_|refine OfS.mk (item_dint (by walk_at "lk") rfl) ?_)
  refine h (.tup [.tup (path p),.str v.kind,.str v.name,.ob _,.bool v.back]) _ (Keep.trunc (by walk_at "kp")) fun S hS=>?_
  have hx:=(hS.open (open_tup (open_there (open_there (open_there (open_here (open_ob (Keep.len (by walk_at "kp"))))))))) (List.length (_++[_])) (v.pls) ?_ (by walk_at "lk")
  ·exact⟨by walk_at "hd",fun m j r td ro rs n=>bad_form fun S' k'=>fun k2 h2=>step_pl (fun k3 h3=>places_12 (k3 _ _ (k2 _ _ (k' _ _ hx))) h3) h2⟩
  ·exact Keep.len (by walk_at "kp")
 ·repeat(first |walk_at "pq"|refine OfS.mk (in_dint (by walk_at "lk")) ?_|refine OfS.mk (item_dint (by walk_at "lk") rfl) ?_)
  refine h (.tup [.tup (path p),.str v.kind,.str v.name,.tup (plX v (.tup [.str "?x"])),.bool v.back]) _ (Keep.trunc (by walk_at "kp")) fun S hS=>?_
  exact⟨by walk_at "hd",fun m j r td ro rs n=>bad_form fun S' k'=>fun k2 h2=>step_pl (fun k3 h3=>by cases v with|off c x=>exact places_13b h3|swap c x y=>exact places_13c h3|told c=>exact places_13a h3) h2⟩
 ·repeat(first |walk_at "pq"|refine OfS.mk (in_dint (by walk_at "lk")) ?_|refine OfS.mk (item_dint (by walk_at "lk") rfl) ?_)
  refine h (.tup [.tup (path p),.str v.kind,.str v.name,.tup [.tup [.str "x",.tup [.str "a"]]],.bool v.back]) _ (Keep.trunc (by walk_at "kp")) fun S hS=>?_
  exact⟨by walk_at "hd",fun m j r td ro rs n=>bad_form fun S' k'=>fun k2 h2=>step_pl (fun k3 h3=>places_14 h3) h2⟩
 ·repeat(first |walk_at "pq"|refine OfS.mk (in_dint (by walk_at "lk")) ?_|refine OfS.mk (item_dint (by walk_at "lk") rfl) ?_)
  refine h (.tup [.tup (path p),.str v.kind,.str v.name,.tup [.tup [.str "?x",.tup [.str "a"]],.tup [.str "?x",.tup [.str "a"]]],.bool v.back]) _ (Keep.trunc (by walk_at "kp")) fun S hS=>?_
  exact⟨by walk_at "hd",fun m j r td ro rs n=>bad_form fun S' k'=>fun k2 h2=>step_pl (fun k3 h3=>places_15 h3) h2⟩
 ·repeat(first |walk_at "pq"|refine OfS.mk (in_dint (by walk_at "lk")) ?_|refine OfS.mk (item_dint (by walk_at "lk") rfl) ?_)
  refine h (.tup [.tup (path p),.str v.kind,.str v.name,.tup [.tup [.str "?x",pY]],.bool v.back]) _ (Keep.trunc (by walk_at "kp")) fun S hS=>?_
  exact⟨by walk_at "hd",fun m j r td ro rs n=>bad_form fun S' k'=>fun k2 h2=>step_pl (fun k3 h3=>places_16 h3) h2⟩
 ·repeat(first |walk_at "pq"|refine OfS.mk (in_dint (by walk_at "lk")) ?_|refine OfS.mk (item_dint (by walk_at "lk") rfl) ?_)
  refine h (.tup [.tup (path p),.str v.kind,.str v.name,.tup v.pls,.int (if v.back then 1 else 0)]) _ (Keep.trunc (by walk_at "kp")) fun S hS=>?_
  exact⟨by walk_at "hd",fun m j r td ro rs n=>bad_form fun S' k'=>fun k2 h2=>step_dir (fun _=>rfl) (by rw[←Mv.pl_eq];exact pl_places hz.1) h2⟩
 ·repeat(first |walk_at "pq"|refine OfS.mk (in_dint (by walk_at "lk")) ?_|refine OfS.mk (item_dint (by walk_at "lk") rfl) ?_)
  refine h (.tup [.tup (path p),.str v.kind,.str v.name,.tup v.pls,.none]) _ (Keep.trunc (by walk_at "kp")) fun S hS=>?_
  exact⟨by walk_at "hd",fun m j r td ro rs n=>bad_form fun S' k'=>fun k2 h2=>step_dir (fun _=>rfl) (by rw[←Mv.pl_eq];exact pl_places hz.1) h2⟩
 ·repeat(first |walk_at "pq"|refine OfS.mk (in_dint (by walk_at "lk")) ?_|refine OfS.mk (item_dint (by walk_at "lk") rfl) ?_)
  refine h (.tup [.tup (pathX p (.int 9)),.str v.kind,.str v.name,.tup v.pls,.bool v.back]) _ (Keep.trunc (by walk_at "kp")) fun S hS=>?_
  exact⟨by walk_at "hd",fun m j r td ro rs n=>by
   have e:Bad sc₀ m j r td ro rs S t n _:=bad_path hz.1 ht
   unfold Mv.enc at e
   rw[Mv.pl_eq,←path_app]at e
   exact @e⟩
 ·repeat(first |walk_at "pq"|refine OfS.mk (in_dint (by walk_at "lk")) ?_|refine OfS.mk (item_dint (by walk_at "lk") rfl) ?_)
  refine h (.tup [.tup (path p),.str v.kind,.str v.name,.tup [.tup [.str "?x",.ob _]],.bool v.back]) _ (Keep.trunc (by walk_at "kp")) fun S hS=>?_
  have hx:=(hS.open (open_tup (open_there (open_there (open_there (open_here (open_tup (open_here (open_tup (open_there (open_here (open_ob (Keep.len (by walk_at "kp")))))))))))))) (List.length (_++[_])) ([.str "a"]) ?_ (by walk_at "lk")
  ·exact⟨by walk_at "hd",fun m j r td ro rs n=>bad_form fun S' k'=>fun k2 h2=>step_pl (fun k3 h3=>places_20 (k3 _ _ (k2 _ _ (k' _ _ hx))) h3) h2⟩
  ·exact Keep.len (by walk_at "kp")
 ·repeat(first |walk_at "pq"|refine OfS.mk (in_dint (by walk_at "lk")) ?_|refine OfS.mk (item_dint (by walk_at "lk") rfl) ?_)
  refine h (.tup [.tup (path p),.str v.kind,.str v.name,.tup [.str "?x"],.bool v.back]) _ (Keep.trunc (by walk_at "kp")) fun S hS=>?_
  exact⟨by walk_at "hd",fun m j r td ro rs n=>bad_form fun S' k'=>fun k2 h2=>step_pl (fun k3 h3=>places_21 h3) h2⟩
end
end Mine
end
section
namespace Mine
open PySem
theorem item_list{σ:Store}{i:Nat}{xs:List AV}{n:Int}{v:AV}(h:σ[i]? =some (.list xs))(ha:atA xs n=some v):itemA σ (.ob i) (.int n)=some v:=by
 show(match listOf σ (.ob i)with|some _=>_|none=>_)=_
 rw[listOf_ob h]
 exact ha
theorem at_nat{xs:List AV}{s:Nat}{v:AV}(h:xs[s]? =some v):atA xs (s:Int)=some v:=by
 have hl:s<xs.length:=(List.getElem?_eq_some_iff.mp h).1
 unfold atA
 have :PySem.seqIndex? (s:Int) xs.length=some s:=by
  rw[seqIndex_of (Int.natCast_nonneg s) (Int.ofNat_lt.mpr hl),Int.toNat_natCast]
 rw[this]
 exact h
theorem bin_mul{σ:Store}{x y:Int}(hx:x.natAbs<4294967296)(hy:y.natAbs<4294967296):binA σ .Mult (.int x) (.int y)= .ok (.int (x*y)) σ:=by
 show Mine.chk (small x&&small y) _=_
 rw[show(small x&&small y)=true from by unfold small;rw[decide_eq_true hx,decide_eq_true hy];rfl]
 rfl
theorem bin_mod{σ:Store}{x y:Int}(hy:0<y):binA σ .Mod (.int x) (.int y)= .ok (.int (Int.fmod x y)) σ:=by
 show Mine.chk (!decide (y=0)) _=_
 rw[show decide (y=0)=false from decide_eq_false (Int.ne_of_gt hy)]
 rfl
theorem trunc_same{σ σ₁:Store}{v:AV}(h:σ₁.length=σ.length):Mine.trunc σ.length v σ₁=σ₁:=by
 rcases trunc_cases σ.length v σ₁ with e|⟨_,e⟩<;>rw[e]
 rw[←h,List.take_length]
structure Feed(σ:Store)(fd c:Nat)(cells:List Int)(s:Nat):Prop where
 hf:σ[fd]? =some (.dstr [("cells",.ob c),("spot",.int (s:Int))])
 hc:σ[c]? =some (.list (cells.map .int))
section
variable{sc₀:Addr→Option (List Int)}{k:Nat}{σ:Store}{Q:AV→Store→Prop}{Y:XA→Store→Prop}
theorem law_told_ok(h:∀i σ',Keep σ σ'→σ.length≤i→σ'[i]? =some (.dstr [("t0",.tup [Tm.a.enc,(Tm.f .b).enc])])→Q (.ob i) σ'):Ca (PP sc₀) (k+20) 344 [] σ Q:=by
 refine ca' rfl rfl ?_
 repeat walk_at "pq"
 exact h _ _ (Keep.push _ _).trunc (Nat.le_refl _) (trunc_ob.trans (get_new _ _))
theorem draw_ok{fd c:Nat}{cells:List Int}{s:Nat}{wide:Int}(F:Feed σ fd c cells s)(hs:s≤1000)(hz:cells.length≤1000)(hw:0<wide)(hw2:wide<4294967296)(h:∀d:Int,0≤d→d<wide→Q (.int d) (σ.set fd (.dstr [("cells",.ob c),("spot",.int ((s+1:Nat):Int))]))):Ca (PP sc₀) (k+40) 365 [.ob fd,.int wide] σ Q:=by
 have hf:=F.hf
 have hc:=F.hc
 have hne:fd≠c:=by rintro rfl;rw[hf]at hc;cases hc
 refine ca' rfl rfl ?_
 repeat(first |walk_at "pq"|refine OfS.mk (item_dict (by walk_at "lk") rfl) ?_)
 refine⟨_,_,_,rfl,rfl,by walk_at "lk",rfl,?_⟩
 have hc2:(σ.set fd (.dstr (putS "spot" (.int ((s:Int)+1)) [("cells",.ob c),("spot",.int (s:Int))])))[c]? =some (.list (cells.map .int)):=get_set_ne hc hne
 repeat walk_at "pq"
 refine OkO.mk (bi_len hc2) ?_
 repeat walk_at "pq"
 refine sel_of (fun hlt=>?_) (fun hlt=>?_)
 ·have hlt:=of_decide_eq_true hlt
  rw[List.length_map]at hlt
  have hlt':s<cells.length:=Int.ofNat_lt.mp hlt
  repeat walk_at "pq"
  refine OfS.mk (item_list hc2 (at_nat (v:= .int cells[s]) (by simp[hlt']))) ?_
  repeat walk_at "pq"
  refine OkO.mk (bin_mod hw) ?_
  repeat walk_at "pq"
  have :=h (Int.fmod cells[s] wide) (Int.fmod_nonneg_of_pos _ hw) (Int.fmod_lt_of_pos _ hw)
  refine Eq.mp ?_ this
  congr 1
  exact(trunc_same (by simp)).symm
 ·repeat walk_at "pq"
  refine OkO.mk (bin_mul (x:=3) (y:=(s:Int)) (by omega) (by omega)) ?_
  repeat walk_at "pq"
  refine OkO.mk (bin_mul (x:=3*(s:Int)) (y:=(s:Int)) (by omega) (by omega)) ?_
  repeat walk_at "pq"
  refine OkO.mk (bin_mul (x:=7) (y:=(s:Int)) (by omega) (by omega)) ?_
  repeat walk_at "pq"
  refine OkO.mk (bi_len hc2) ?_
  repeat walk_at "pq"
  refine OkO.mk (bin_mul (x:=5) (y:=((cells.map AV.int).length:Int)) (by omega) (by rw[List.length_map];omega)) ?_
  repeat walk_at "pq"
  refine OkO.mk (bin_mod hw) ?_
  repeat walk_at "pq"
  have :=h (Int.fmod (Int.fmod (3*(s:Int)*s+7*s+5*((cells.map AV.int).length:Int)) 97) wide) (Int.fmod_nonneg_of_pos _ hw) (Int.fmod_lt_of_pos _ hw)
  refine Eq.mp ?_ this
  congr 1
  exact(trunc_same (by simp)).symm
end
end Mine
end
section
namespace Mine
open PySem
noncomputable def turnsOf:Tm→List Mv
 | .a=>[.off true .a,.told false]
 | .b=>[.off true .b]
 | .f .a=>[.off true (.f .a)]
 | .f .b=>[.off true (.f .b),.told true]
 | .f (.f x)=>[.off true (.f (.f x)),.off false x]
 | .f (.g x y)=>[.off true (.f (.g x y))]
 | .g x y=>[.off true (.g x y),.swap false x y,.swap true y x]
noncomputable def rowE(v:Mv):AV:= .tup [.str v.kind,.str v.name,v.pl,.bool v.back,v.right.enc]
section
variable{sc₀:Addr→Option (List Int)}{k:Nat}{σ:Store}{Q:AV→Store→Prop}{Y:XA→Store→Prop}
theorem turns_a(hd:(Tm.depth (.a))≤30)(h:∀i σ',Keep σ σ'→σ'[i]? =some (.list ((turnsOf (.a)).map rowE))→Q (.ob i) σ'):Ca (PP sc₀) (k+60) 372 [(Tm.enc (.a))] σ Q:=by
 refine ca' rfl rfl ?_
 repeat walk_at "pq"
 refine apE_fn (P:=PP sc₀) (a:=344) rfl rfl rfl (law_told_ok fun i1 s1 k1 l1 h1=>?_)
 have g1:=k1 _ _ (get_new _ _)
 have q1:=(Keep.push σ _).trans k1
 repeat walk_at "pq"
 refine OfS.mk (item_dict h1 rfl) ?_
 repeat walk_at "pq"
 try refine OfS.mk (eq_data (toPy_tm (.a) (dle2 hd)) (toPy_tm Tm.a (by decide)) (shp_tm (dle hd)) (shp_tm (by decide))) ?_
 repeat walk_at "pq"
 refine OfS.mk (methB_app (g1)) ?_
 repeat walk_at "pq"
 refine apE_fn (P:=PP sc₀) (a:=344) rfl rfl rfl (law_told_ok fun i2 s2 k2 l2 h2=>?_)
 have g2:=k2 _ _ (g1)
 have q2:=(q1).trans k2
 repeat walk_at "pq"
 refine OfS.mk (item_dict h2 rfl) ?_
 repeat walk_at "pq"
 refine go_app (g2) rfl ?_
 repeat walk_at "pq"
 refine apE_fn (P:=PP sc₀) (a:=344) rfl rfl rfl (law_told_ok fun i3 s3 k3 l3 h3=>?_)
 have g3:=k3 _ _ (get_set (g2))
 have q3:=((q2).set_new (Nat.le_refl _)).trans k3
 repeat walk_at "pq"
 refine OfS.mk (item_dict h3 rfl) ?_
 repeat walk_at "pq"
 try refine OfS.mk (eq_data (toPy_tm (.a) (dle2 hd)) (toPy_tm (Tm.f .b) (by decide)) (shp_tm (dle hd)) (shp_tm (by decide))) ?_
 repeat walk_at "pq"
 exact h _ _ ((q3).trunc) (trunc_ob.trans (g3))
theorem turns_b(hd:(Tm.depth (.b))≤30)(h:∀i σ',Keep σ σ'→σ'[i]? =some (.list ((turnsOf (.b)).map rowE))→Q (.ob i) σ'):Ca (PP sc₀) (k+60) 372 [(Tm.enc (.b))] σ Q:=by
 refine ca' rfl rfl ?_
 repeat walk_at "pq"
 refine apE_fn (P:=PP sc₀) (a:=344) rfl rfl rfl (law_told_ok fun i1 s1 k1 l1 h1=>?_)
 have g1:=k1 _ _ (get_new _ _)
 have q1:=(Keep.push σ _).trans k1
 repeat walk_at "pq"
 refine OfS.mk (item_dict h1 rfl) ?_
 repeat walk_at "pq"
 try refine OfS.mk (eq_data (toPy_tm (.b) (dle2 hd)) (toPy_tm Tm.a (by decide)) (shp_tm (dle hd)) (shp_tm (by decide))) ?_
 repeat walk_at "pq"
 refine apE_fn (P:=PP sc₀) (a:=344) rfl rfl rfl (law_told_ok fun i2 s2 k2 l2 h2=>?_)
 have g2:=k2 _ _ (g1)
 have q2:=(q1).trans k2
 repeat walk_at "pq"
 refine OfS.mk (item_dict h2 rfl) ?_
 repeat walk_at "pq"
 try refine OfS.mk (eq_data (toPy_tm (.b) (dle2 hd)) (toPy_tm (Tm.f .b) (by decide)) (shp_tm (dle hd)) (shp_tm (by decide))) ?_
 repeat walk_at "pq"
 exact h _ _ ((q2).trunc) (trunc_ob.trans (g2))
theorem turns_fa(hd:(Tm.depth (.f .a))≤30)(h:∀i σ',Keep σ σ'→σ'[i]? =some (.list ((turnsOf (.f .a)).map rowE))→Q (.ob i) σ'):Ca (PP sc₀) (k+60) 372 [(Tm.enc (.f .a))] σ Q:=by
 refine ca' rfl rfl ?_
 repeat walk_at "pq"
 refine apE_fn (P:=PP sc₀) (a:=344) rfl rfl rfl (law_told_ok fun i1 s1 k1 l1 h1=>?_)
 have g1:=k1 _ _ (get_new _ _)
 have q1:=(Keep.push σ _).trans k1
 repeat walk_at "pq"
 refine OfS.mk (item_dict h1 rfl) ?_
 repeat walk_at "pq"
 try refine OfS.mk (eq_data (toPy_tm (.f .a) (dle2 hd)) (toPy_tm Tm.a (by decide)) (shp_tm (dle hd)) (shp_tm (by decide))) ?_
 repeat walk_at "pq"
 refine apE_fn (P:=PP sc₀) (a:=344) rfl rfl rfl (law_told_ok fun i2 s2 k2 l2 h2=>?_)
 have g2:=k2 _ _ (g1)
 have q2:=(q1).trans k2
 repeat walk_at "pq"
 refine OfS.mk (item_dict h2 rfl) ?_
 repeat walk_at "pq"
 try refine OfS.mk (eq_data (toPy_tm (.f .a) (dle2 hd)) (toPy_tm (Tm.f .b) (by decide)) (shp_tm (dle hd)) (shp_tm (by decide))) ?_
 repeat walk_at "pq"
 exact h _ _ ((q2).trunc) (trunc_ob.trans (g2))
theorem turns_fb(hd:(Tm.depth (.f .b))≤30)(h:∀i σ',Keep σ σ'→σ'[i]? =some (.list ((turnsOf (.f .b)).map rowE))→Q (.ob i) σ'):Ca (PP sc₀) (k+60) 372 [(Tm.enc (.f .b))] σ Q:=by
 refine ca' rfl rfl ?_
 repeat walk_at "pq"
 refine apE_fn (P:=PP sc₀) (a:=344) rfl rfl rfl (law_told_ok fun i1 s1 k1 l1 h1=>?_)
 have g1:=k1 _ _ (get_new _ _)
 have q1:=(Keep.push σ _).trans k1
 repeat walk_at "pq"
 refine OfS.mk (item_dict h1 rfl) ?_
 repeat walk_at "pq"
 try refine OfS.mk (eq_data (toPy_tm (.f .b) (dle2 hd)) (toPy_tm Tm.a (by decide)) (shp_tm (dle hd)) (shp_tm (by decide))) ?_
 repeat walk_at "pq"
 refine apE_fn (P:=PP sc₀) (a:=344) rfl rfl rfl (law_told_ok fun i2 s2 k2 l2 h2=>?_)
 have g2:=k2 _ _ (g1)
 have q2:=(q1).trans k2
 repeat walk_at "pq"
 refine OfS.mk (item_dict h2 rfl) ?_
 repeat walk_at "pq"
 try refine OfS.mk (eq_data (toPy_tm (.f .b) (dle2 hd)) (toPy_tm (Tm.f .b) (by decide)) (shp_tm (dle hd)) (shp_tm (by decide))) ?_
 repeat walk_at "pq"
 refine OfS.mk (methB_app (g2)) ?_
 repeat walk_at "pq"
 refine apE_fn (P:=PP sc₀) (a:=344) rfl rfl rfl (law_told_ok fun i3 s3 k3 l3 h3=>?_)
 have g3:=k3 _ _ (g2)
 have q3:=(q2).trans k3
 repeat walk_at "pq"
 refine OfS.mk (item_dict h3 rfl) ?_
 repeat walk_at "pq"
 refine go_app (g3) rfl ?_
 repeat walk_at "pq"
 exact h _ _ (((q3).set_new (Nat.le_refl _)).trunc) (trunc_ob.trans (get_set (g3)))
theorem turns_ff{x:Tm}(hd:(Tm.depth (.f (.f x)))≤30)(h:∀i σ',Keep σ σ'→σ'[i]? =some (.list ((turnsOf (.f (.f x))).map rowE))→Q (.ob i) σ'):Ca (PP sc₀) (k+60) 372 [(Tm.enc (.f (.f x)))] σ Q:=by
 refine ca' rfl rfl ?_
 repeat walk_at "pq"
 refine OfS.mk (methB_app (get_new _ _)) ?_
 repeat walk_at "pq"
 refine go_app (get_new _ _) rfl ?_
 repeat walk_at "pq"
 refine apE_fn (P:=PP sc₀) (a:=344) rfl rfl rfl (law_told_ok fun i1 s1 k1 l1 h1=>?_)
 have g1:=k1 _ _ (get_set (get_new _ _))
 have q1:=((Keep.push σ _).set_new (Nat.le_refl _)).trans k1
 repeat walk_at "pq"
 refine OfS.mk (item_dict h1 rfl) ?_
 repeat walk_at "pq"
 try refine OfS.mk (eq_data (toPy_tm (.f (.f x)) (dle2 hd)) (toPy_tm Tm.a (by decide)) (shp_tm (dle hd)) (shp_tm (by decide))) ?_
 repeat walk_at "pq"
 refine apE_fn (P:=PP sc₀) (a:=344) rfl rfl rfl (law_told_ok fun i2 s2 k2 l2 h2=>?_)
 have g2:=k2 _ _ (g1)
 have q2:=(q1).trans k2
 repeat walk_at "pq"
 refine OfS.mk (item_dict h2 rfl) ?_
 repeat walk_at "pq"
 try refine OfS.mk (eq_data (toPy_tm (.f (.f x)) (dle2 hd)) (toPy_tm (Tm.f .b) (by decide)) (shp_tm (dle hd)) (shp_tm (by decide))) ?_
 repeat walk_at "pq"
 exact h _ _ ((q2).trunc) (trunc_ob.trans (g2))
theorem turns_fg{x y:Tm}(hd:(Tm.depth (.f (.g x y)))≤30)(h:∀i σ',Keep σ σ'→σ'[i]? =some (.list ((turnsOf (.f (.g x y))).map rowE))→Q (.ob i) σ'):Ca (PP sc₀) (k+60) 372 [(Tm.enc (.f (.g x y)))] σ Q:=by
 refine ca' rfl rfl ?_
 repeat walk_at "pq"
 refine apE_fn (P:=PP sc₀) (a:=344) rfl rfl rfl (law_told_ok fun i1 s1 k1 l1 h1=>?_)
 have g1:=k1 _ _ (get_new _ _)
 have q1:=(Keep.push σ _).trans k1
 repeat walk_at "pq"
 refine OfS.mk (item_dict h1 rfl) ?_
 repeat walk_at "pq"
 try refine OfS.mk (eq_data (toPy_tm (.f (.g x y)) (dle2 hd)) (toPy_tm Tm.a (by decide)) (shp_tm (dle hd)) (shp_tm (by decide))) ?_
 repeat walk_at "pq"
 refine apE_fn (P:=PP sc₀) (a:=344) rfl rfl rfl (law_told_ok fun i2 s2 k2 l2 h2=>?_)
 have g2:=k2 _ _ (g1)
 have q2:=(q1).trans k2
 repeat walk_at "pq"
 refine OfS.mk (item_dict h2 rfl) ?_
 repeat walk_at "pq"
 try refine OfS.mk (eq_data (toPy_tm (.f (.g x y)) (dle2 hd)) (toPy_tm (Tm.f .b) (by decide)) (shp_tm (dle hd)) (shp_tm (by decide))) ?_
 repeat walk_at "pq"
 exact h _ _ ((q2).trunc) (trunc_ob.trans (g2))
theorem turns_g{x y:Tm}(hd:(Tm.depth (.g x y))≤30)(h:∀i σ',Keep σ σ'→σ'[i]? =some (.list ((turnsOf (.g x y)).map rowE))→Q (.ob i) σ'):Ca (PP sc₀) (k+60) 372 [(Tm.enc (.g x y))] σ Q:=by
 refine ca' rfl rfl ?_
 repeat walk_at "pq"
 refine OfS.mk (methB_app (get_new _ _)) ?_
 repeat walk_at "pq"
 refine go_app (get_new _ _) rfl ?_
 repeat walk_at "pq"
 refine OfS.mk (methB_app (get_set (get_new _ _))) ?_
 repeat walk_at "pq"
 refine go_app (get_set (get_new _ _)) rfl ?_
 repeat walk_at "pq"
 refine apE_fn (P:=PP sc₀) (a:=344) rfl rfl rfl (law_told_ok fun i1 s1 k1 l1 h1=>?_)
 have g1:=k1 _ _ (get_set (get_set (get_new _ _)))
 have q1:=(((Keep.push σ _).set_new (Nat.le_refl _)).set_new (Nat.le_refl _)).trans k1
 repeat walk_at "pq"
 refine OfS.mk (item_dict h1 rfl) ?_
 repeat walk_at "pq"
 try refine OfS.mk (eq_data (toPy_tm (.g x y) (dle2 hd)) (toPy_tm Tm.a (by decide)) (shp_tm (dle hd)) (shp_tm (by decide))) ?_
 repeat walk_at "pq"
 refine apE_fn (P:=PP sc₀) (a:=344) rfl rfl rfl (law_told_ok fun i2 s2 k2 l2 h2=>?_)
 have g2:=k2 _ _ (g1)
 have q2:=(q1).trans k2
 repeat walk_at "pq"
 refine OfS.mk (item_dict h2 rfl) ?_
 repeat walk_at "pq"
 try refine OfS.mk (eq_data (toPy_tm (.g x y) (dle2 hd)) (toPy_tm (Tm.f .b) (by decide)) (shp_tm (dle hd)) (shp_tm (by decide))) ?_
 repeat walk_at "pq"
 exact h _ _ ((q2).trunc) (trunc_ob.trans (g2))
theorem turns_ok{t:Tm}(hd:t.depth≤30)(h:∀i σ',Keep σ σ'→σ'[i]? =some (.list ((turnsOf t).map rowE))→Q (.ob i) σ'):Ca (PP sc₀) (k+60) 372 [t.enc] σ Q:=by
 cases t with
 |a=>exact turns_a hd h
 |b=>exact turns_b hd h
 |f x=>
  cases x with
  |a=>exact turns_fa hd h
  |b=>exact turns_fb hd h
  |f x=>exact turns_ff hd h
  |g x y=>exact turns_fg hd h
 |g x y=>exact turns_g hd h
end
end Mine
end
section
namespace Mine
open PySem
section
variable{P:Prg}{sc:Scope}{ρ:Loc}{σ:Store}{k:Nat}{t elt:Expr}{ifs:List Expr}
theorem comp_map{g:AV→AV}{xs:List AV}(h:∀x∈xs,∃ρ₁,bindA sc t x ρ=some ρ₁∧Ev P k sc ρ₁ σ elt fun v S=>v=g x∧S=σ):Comp P k sc ρ t [] elt xs σ fun ys S=>ys=xs.map g∧S=σ:=by
 induction xs with
 |nil=>exact comp_nil ⟨rfl,rfl⟩
 |cons x xs ih=>
  refine ea11 (h x (.head _)) fun ρ₁ hb hx=>?_
  refine comp_cons hb (tests_nil (sel_t rfl (WO.mono hx fun v S ⟨e1,e2⟩=>?_)))
  subst e1 e2
  exact(ih fun y hy=>h y (.tail _ hy)).mono fun ys S ⟨e1,e2⟩=>⟨by rw[e1];rfl,e2⟩
theorem comp_keep{f:AV→Option AV}{xs:List AV}{σ0:Store}(h:∀x∈xs,∀S,Keep σ0 S→∃ρ₁,bindA sc t x ρ=some ρ₁∧Tests P k sc ρ₁ ifs S fun b S₁=>Keep S S₁∧Sel b (Ev P k sc ρ₁ S₁ elt fun v S₂=>f x=some v∧Keep S₁ S₂) (f x=none)):∀{S:Store},Keep σ0 S→Comp P k sc ρ t ifs elt xs S fun ys S'=>ys=xs.filterMap f∧Keep S S':=by
 induction xs with
 |nil=>exact fun _=>comp_nil ⟨rfl,Keep.refl _⟩
 |cons x xs ih=>
  intro S hS
  refine ea11 (h x (.head _) S hS) fun ρ₁ hb hx=>?_
  refine comp_cons hb (hx.mono fun b S₁ ⟨k1,hs⟩=>?_)
  cases b with
  |false=>
   refine sel_f rfl ((ih (fun y hy=>h y (.tail _ hy)) (hS.trans k1)).mono fun ys S' ⟨e,k2⟩=>⟨?_,k1.trans k2⟩)
   have hs:f x=none:=hs
   rw[e,List.filterMap_cons_none hs]
  |true=>
   refine sel_t rfl (WO.mono hs fun v S₂ ⟨e0,k2⟩=>(ih (fun y hy=>h y (.tail _ hy)) ((hS.trans k1).trans k2)).mono fun ys S' ⟨e,k3⟩=>⟨?_,(k1.trans k2).trans k3⟩)
   rw[e,List.filterMap_cons_some e0]
end
theorem lift_s{k d D K c n:Nat}(hK:k+D+10=K)(hd:d≤D)(h:c≤n+11):d+c≤K+n+1:=by
 subst hK
 omega
theorem mkList_ok{xs:List AV}{σ:Store}(h:xs.length≤100000):mkList xs σ= .ok (.ob σ.length) (σ++[.list xs]):=by
 unfold mkList
 rw[show Nat.ble xs.length bound=true from Nat.ble_eq_true_of_le h]
 rfl
noncomputable def stepsOf:Tm→List Nat→List Row
 | .a,p=>(turnsOf .a).map (Prod.mk p)
 | .b,p=>(turnsOf .b).map (Prod.mk p)
 | .f x,p=>(turnsOf (.f x)).map (Prod.mk p)++stepsOf x (p++[0])
 | .g x y,p=>((turnsOf (.g x y)).map (Prod.mk p)++stepsOf x (p++[0]))++stepsOf y (p++[1])
noncomputable def stepE(q:Row):AV:= .tup [q.2.enc q.1,q.2.right.enc]
theorem turns_len(t:Tm):(turnsOf t).length≤3:=by
 cases t with
 |a=>exact(by decide:2≤3)
 |b=>exact(by decide:1≤3)
 |f x=>cases x<;>first |exact(by decide:1≤3)|exact(by decide:2≤3)
 |g x y=>exact(by decide:3≤3)
theorem steps_len:∀(t:Tm) (p:List Nat),(stepsOf t p).length≤3*t.size
 | .a,p=>(by decide:2≤3)
 | .b,p=>(by decide:1≤3)
 | .f x,p=>by
   have :=steps_len x (p++[0])
   have h2:=turns_len (.f x)
   show _≤3*(1+x.size);rw[Nat.mul_add];exact app_le (map_le h2 (Nat.le_refl 3)) this
 | .g x y,p=>by
   have :=steps_len x (p++[0])
   have h1:=steps_len y (p++[1])
   have h2:=turns_len (.g x y)
   show _≤3*(1+(x.size+y.size));rw[Nat.mul_add,Nat.mul_add,←Nat.add_assoc];exact app_le (app_le (map_le h2 (Nat.le_refl 3)) this) h1
theorem steps_cap{t:Tm}{p:List Nat}(h:t.size≤500):(stepsOf t p).length≤1500:=Nat.le_trans (steps_len t p) (Nat.mul_le_mul_left 3 h)
theorem path_snoc(p:List Nat)(j:Nat):path p++[.int (j:Int)]=path (p++[j]):=by simp[path]
theorem steps_row(p:List Nat)(vs:List Mv):(vs.map rowE).map (fun x=>match x with| .tup [a,b,c,d,e]=> .tup [.tup [.tup (path p),a,b,c,d],e]|_=> .none)=(vs.map (Prod.mk p)).map stepE:=by
 rw[List.map_map,List.map_map]
 rfl
section
variable{sc₀:Addr→Option (List Int)}{k:Nat}{σ:Store}{Q:AV→Store→Prop}{Y:XA→Store→Prop}
theorem law_steps_ok(t:Tm){p:List Nat}{k:Nat}{σ:Store}{Q:AV→Store→Prop}(hd:t.depth≤30)(hz:t.size≤500)(hp:p.length+t.depth≤500)(h:∀i σ',Keep σ σ'→σ'[i]? =some (.list ((stepsOf t p).map stepE))→Q (.ob i) σ'):Ca (PP sc₀) (k+10*t.depth+80) 377 [t.enc,.tup (path p)] σ Q:=by
 have pl:(path p).length≤500:=map_le (Nat.le_trans (Nat.le_add_right _ _) hp) (Nat.le_refl _)
 have htl:=turns_len t
 generalize hK:k+10*t.depth=K
 refine ca' rfl rfl ?_
 repeat walk_at "pq"
 refine apE_fn (P:=PP sc₀) (a:=372) rfl rfl rfl ((turns_ok (t:=t) hd fun i1 s1 k1 h1=>?_))
 refine over_pure h1 ((comp_map (g:=fun x=>match x with| .tup [a,b,c,d,e]=> .tup [.tup [.tup (path p),a,b,c,d],e]|_=> .none) fun x hx=>?_).mono fun ys S ⟨e1,e2⟩=>⟨e2,?_⟩)
 ·refine ea11 (List.mem_map.mp hx) fun v _ z1=>?_;subst z1
  refine⟨_,rfl,?_⟩
  repeat walk_at "pq"
  rfl
 subst e1
 rw[steps_row]
 refine OkO.mk (mkList_ok (map_le (map_le htl (Nat.le_refl 3)) (by decide))) ?_
 repeat walk_at "pq"
 cases t with
 |a=>
  repeat walk_at "pq"
  exact h _ _ (Keep.trunc (k1.trans (Keep.push _ _))) (trunc_ob.trans (get_new _ _))
 |b=>
  repeat walk_at "pq"
  exact h _ _ (Keep.trunc (k1.trans (Keep.push _ _))) (trunc_ob.trans (get_new _ _))
 |f x=>
  repeat walk_at "pq"
  refine OkO.mk (bin_tups (Nat.le_trans (Nat.add_le_add_right pl 1) (by decide))) ?_
  repeat walk_at "pq"
  refine apE_fn (P:=PP sc₀) (a:=377) rfl rfl rfl ?_
  refine(show Ca (PP sc₀) _ 377 [(x).enc,.tup (path p++[.int ((0:Nat):Int)])] _ _ from ?_)
  rw[path_snoc]
  refine Ca.lift (c:=80) (d:=10*x.depth) (lift_s (hK:k+10*x.depth+10=K) (Nat.le_refl _) (by decide)) fun _=>(law_steps_ok x (Nat.le_of_succ_le hd) (Nat.le_trans (Nat.le_add_left _ 1) hz) (snoc_le hp) fun j0 t0 m0 n0=>?_)
  repeat walk_at "pq"
  refine OkO.mk (bin_lists (m0 _ _ (get_new _ _)) n0 (ble_cap (app_le (map_le (map_le htl (Nat.le_refl 3)) (Nat.le_refl 3)) (map_le (steps_cap (Nat.le_trans (Nat.le_add_left _ 1) hz)) (Nat.le_refl _))) rfl)) ?_
  repeat walk_at "pq"
  refine h _ _ (Keep.trunc ((k1.trans (Keep.push _ _)).trans (m0.trans (Keep.push _ _)))) (trunc_ob.trans (?_))
  rw[get_new]
  exact congrArg (fun x=>some (AO.list x)) List.map_append.symm
 |g x y=>
  have zx:x.size≤500:=Nat.le_trans (Nat.le_trans (Nat.le_add_right _ _) (Nat.le_add_left _ 1)) hz
  have zy:y.size≤500:=Nat.le_trans (Nat.le_trans (Nat.le_add_left _ _) (Nat.le_add_left _ 1)) hz
  have dx:=Nat.le_max_left x.depth y.depth
  have dy:=Nat.le_max_right x.depth y.depth
  repeat walk_at "pq"
  refine OkO.mk (bin_tups (Nat.le_trans (Nat.add_le_add_right pl 1) (by decide))) ?_
  repeat walk_at "pq"
  refine apE_fn (P:=PP sc₀) (a:=377) rfl rfl rfl ?_
  refine(show Ca (PP sc₀) _ 377 [(x).enc,.tup (path p++[.int ((0:Nat):Int)])] _ _ from ?_)
  rw[path_snoc]
  refine Ca.lift (c:=80) (d:=10*x.depth) (lift_s (hK:k+10*max x.depth y.depth+10=K) (Nat.mul_le_mul_left 10 dx) (by decide)) fun _=>(law_steps_ok x (Nat.le_trans dx (Nat.le_of_succ_le hd)) zx (snoc_le (Nat.le_trans (Nat.add_le_add_left (Nat.succ_le_succ dx) _) hp)) fun j0 t0 m0 n0=>?_)
  repeat walk_at "pq"
  refine OkO.mk (bin_lists (m0 _ _ (get_new _ _)) n0 (ble_cap (app_le (map_le (map_le htl (Nat.le_refl 3)) (Nat.le_refl 3)) (map_le (steps_cap zx) (Nat.le_refl _))) rfl)) ?_
  repeat walk_at "pq"
  refine OkO.mk (bin_tups (Nat.le_trans (Nat.add_le_add_right pl 1) (by decide))) ?_
  repeat walk_at "pq"
  refine apE_fn (P:=PP sc₀) (a:=377) rfl rfl rfl ?_
  refine(show Ca (PP sc₀) _ 377 [(y).enc,.tup (path p++[.int ((1:Nat):Int)])] _ _ from ?_)
  rw[path_snoc]
  refine Ca.lift (c:=80) (d:=10*y.depth) (lift_s (hK:k+10*max x.depth y.depth+10=K) (Nat.mul_le_mul_left 10 dy) (by decide)) fun _=>(law_steps_ok y (Nat.le_trans dy (Nat.le_of_succ_le hd)) zy (snoc_le (Nat.le_trans (Nat.add_le_add_left (Nat.succ_le_succ dy) _) hp)) fun j1 t1 m1 n1=>?_)
  repeat walk_at "pq"
  refine OkO.mk (bin_lists (m1 _ _ (get_new _ _)) n1 (ble_cap (app_le (app_le (map_le (map_le htl (Nat.le_refl 3)) (Nat.le_refl 3)) (map_le (steps_cap zx) (Nat.le_refl _))) (map_le (steps_cap zy) (Nat.le_refl _))) rfl)) ?_
  repeat walk_at "pq"
  refine h _ _ (Keep.trunc (((k1.trans (Keep.push _ _)).trans (m0.trans (Keep.push _ _))).trans (m1.trans (Keep.push _ _)))) (trunc_ob.trans (?_))
  rw[get_new]
  show _=some (AO.list (((_++_)++_:List Row).map stepE))
  rw[List.map_append,List.map_append]
end
end Mine
end
section
namespace Mine
open PySem
section
variable{P:Prg}{sc:Scope}{ρ:Loc}{σ:Store}{k:Nat}{t elt:Expr}{ifs:List Expr}{α:Type}
theorem comp_keepM{e:α→AV}{f:α→Option AV}{qs:List α}{σ0:Store}(h:∀q∈qs,∀S,Keep σ0 S→∃ρ₁,bindA sc t (e q) ρ=some ρ₁∧Tests P k sc ρ₁ ifs S fun b S₁=>Keep S S₁∧Sel b (Ev P k sc ρ₁ S₁ elt fun v S₂=>f q=some v∧Keep S₁ S₂) (f q=none)):∀{S:Store},Keep σ0 S→Comp P k sc ρ t ifs elt (qs.map e) S fun ys S'=>ys=qs.filterMap f∧Keep S S':=by
 induction qs with
 |nil=>exact fun _=>comp_nil ⟨rfl,Keep.refl _⟩
 |cons x xs ih=>
  intro S hS
  refine ea11 (h x (.head _) S hS) fun ρ₁ hb hx=>?_
  refine comp_cons hb (hx.mono fun b S₁ ⟨k1,hs⟩=>?_)
  cases b with
  |false=>
   refine sel_f rfl ((ih (fun y hy=>h y (.tail _ hy)) (hS.trans k1)).mono fun ys S' ⟨e,k2⟩=>⟨?_,k1.trans k2⟩)
   have hs:f x=none:=hs
   rw[e,List.filterMap_cons_none hs]
  |true=>
   refine sel_t rfl (WO.mono hs fun v S₂ ⟨e0,k2⟩=>(ih (fun y hy=>h y (.tail _ hy)) ((hS.trans k1).trans k2)).mono fun ys S' ⟨e,k3⟩=>⟨?_,(k1.trans k2).trans k3⟩)
   rw[e,List.filterMap_cons_some e0]
end
theorem all_mem3{α:Type}{p:α→Prop}{a b c:α}(h:p a)(h2:p b)(h3:p c):∀x∈[a,b,c],p x:=all_memc h (all_mem2 h2 h3)
theorem turns_left(t:Tm):∀v∈turnsOf t,v.left=t:=by
 cases t with
 |a=>exact all_mem2 rfl rfl
 |b=>exact all_mem1 rfl
 |f x=>
  cases x with
  |a=>exact all_mem1 rfl
  |b=>exact all_mem2 rfl rfl
  |f x=>exact all_mem2 rfl rfl
  |g x y=>exact all_mem1 rfl
 |g x y=>exact all_mem3 rfl rfl rfl
theorem turns_low(t:Tm)(hd:t.depth≤30)(hz:t.size≤500):∀v∈turnsOf t,v.low:=by
 cases t with
 |a=>exact all_mem2 ⟨hz,hd⟩ ⟨trivial,trivial⟩
 |b=>exact all_mem1 ⟨hz,hd⟩
 |f x=>
  cases x with
  |a=>exact all_mem1 ⟨hz,hd⟩
  |b=>exact all_mem2 ⟨hz,hd⟩ ⟨trivial,trivial⟩
  |f x=>exact all_mem2 ⟨hz,hd⟩ ⟨Nat.le_trans (Nat.le_trans (Nat.le_add_left _ _) (Nat.le_add_left _ _)) hz,Nat.le_trans (Nat.le_trans (Nat.le_succ _) (Nat.le_succ _)) hd⟩
  |g x y=>exact all_mem1 ⟨hz,hd⟩
 |g x y=>
  have h1:x.size≤500:=Nat.le_trans (Nat.le_trans (Nat.le_add_right _ _) (Nat.le_add_left _ _)) hz
  have h2:y.size≤500:=Nat.le_trans (Nat.le_trans (Nat.le_add_left _ _) (Nat.le_add_left _ _)) hz
  have h3:x.depth≤30:=Nat.le_trans (Nat.le_trans (Nat.le_max_left _ _) (Nat.le_succ _)) hd
  have h4:y.depth≤30:=Nat.le_trans (Nat.le_trans (Nat.le_max_right _ _) (Nat.le_succ _)) hd
  exact all_mem3 ⟨hz,hd⟩ ⟨⟨h1,h2⟩,h3,h4⟩ ⟨⟨h2,h1⟩,h4,h3⟩
theorem steps_at:∀(t:Tm) (p:List Nat),∀q∈stepsOf t p,∃r,q.1=p++r∧t.at r=some q.2.left:=by
 intro t
 induction t with
 |a=>intro p q hq;refine ea11 (List.mem_map.mp hq) fun v hv z1=>?_;subst z1;exact⟨[],(List.append_nil p).symm,congrArg some (turns_left _ v hv).symm⟩
 |b=>intro p q hq;refine ea11 (List.mem_map.mp hq) fun v hv z1=>?_;subst z1;exact⟨[],(List.append_nil p).symm,congrArg some (turns_left _ v hv).symm⟩
 |f x ih=>
  intro p q hq
  rcases List.mem_append.mp hq with hq|hq
  ·refine ea11 (List.mem_map.mp hq) fun v hv z1=>?_;subst z1;exact⟨[],(List.append_nil p).symm,congrArg some (turns_left _ v hv).symm⟩
  ·refine ea11 (ih _ _ hq) fun r e1 e2=>?_
   exact⟨0::r,e1.trans (List.append_assoc _ _ _),e2⟩
 |g x y ih1 ih2=>
  intro p q hq
  rcases List.mem_append.mp hq with hq|hq
  ·rcases List.mem_append.mp hq with hq|hq
   ·refine ea11 (List.mem_map.mp hq) fun v hv z1=>?_;subst z1;exact⟨[],(List.append_nil p).symm,congrArg some (turns_left _ v hv).symm⟩
   ·refine ea11 (ih1 _ _ hq) fun r e1 e2=>?_
    exact⟨0::r,e1.trans (List.append_assoc _ _ _),e2⟩
  ·refine ea11 (ih2 _ _ hq) fun r e1 e2=>?_
   exact⟨1::r,e1.trans (List.append_assoc _ _ _),e2⟩
theorem steps_low:∀(t:Tm) (p:List Nat),t.depth≤30→t.size≤500→∀q∈stepsOf t p,q.2.low:=by
 intro t
 induction t with
 |a=>intro p hd hz q hq;refine ea11 (List.mem_map.mp hq) fun v hv z1=>?_;subst z1;exact turns_low _ hd hz v hv
 |b=>intro p hd hz q hq;refine ea11 (List.mem_map.mp hq) fun v hv z1=>?_;subst z1;exact turns_low _ hd hz v hv
 |f x ih=>
  intro p hd hz q hq
  rcases List.mem_append.mp hq with hq|hq
  ·refine ea11 (List.mem_map.mp hq) fun v hv z1=>?_;subst z1;exact turns_low _ hd hz v hv
  ·exact ih _ (Nat.le_of_succ_le hd) (Nat.le_trans (Nat.le_add_left _ 1) hz) _ hq
 |g x y ih1 ih2=>
  intro p hd hz q hq
  rcases List.mem_append.mp hq with hq|hq
  ·rcases List.mem_append.mp hq with hq|hq
   ·refine ea11 (List.mem_map.mp hq) fun v hv z1=>?_;subst z1;exact turns_low _ hd hz v hv
   ·exact ih1 _ (Nat.le_trans (Nat.le_max_left _ _) (Nat.le_of_succ_le hd)) (Nat.le_trans (Nat.le_trans (Nat.le_add_right _ _) (Nat.le_add_left _ 1)) hz) _ hq
  ·exact ih2 _ (Nat.le_trans (Nat.le_max_right _ _) (Nat.le_of_succ_le hd)) (Nat.le_trans (Nat.le_trans (Nat.le_add_left _ _) (Nat.le_add_left _ 1)) hz) _ hq
noncomputable def lateOf(t:Tm)(q:Row):Tm:=t.put q.1 q.2.right
noncomputable def cand(t:Tm):List Row:=(stepsOf t []).filter fun q=>decide ((lateOf t q).size≤10)
theorem cand_ne{t:Tm}(h:t.size≤10):cand t≠[]:=by
 have key:∃q,q∈stepsOf t []∧(lateOf t q).size≤10:=by
  cases t with
  |a=>exact⟨([],.off true .a),.head _,by decide⟩
  |b=>exact⟨([],.off true .b),.head _,by decide⟩
  |g x y=>exact⟨([],.swap false x y),.tail _ (.head _),Nat.le_trans (Nat.le_of_eq (congrArg (1+·) (Nat.add_comm _ _))) h⟩
  |f x=>
   cases x with
   |a=>exact⟨([],.off true (.f .a)),.head _,by decide⟩
   |b=>exact⟨([],.off true (.f .b)),.head _,by decide⟩
   |f y=>exact⟨([],.off false y),.tail _ (.head _),by
    rw[show lateOf (.f (.f y)) ([],.off false y)=y from put_nil]
    exact Nat.le_trans (Nat.le_trans (Nat.le_add_left _ 1) (Nat.le_add_left _ 1)) h⟩
   |g y z=>exact⟨([0],.swap false y z),.tail _ (.tail _ (.head _)),Nat.le_trans (Nat.le_of_eq (congrArg (fun n=>1+(1+n)) (Nat.add_comm _ _))) h⟩
 refine ea11 key fun q h1 h2=>?_;clear key
 exact List.ne_nil_of_mem (List.mem_filter.mpr ⟨h1,decide_eq_true h2⟩)
theorem put_size:∀(p:List Nat) (t u:Tm),(t.put p u).size≤t.size+u.size
 |[],t,u=>by rw[put_nil];exact Nat.le_add_left _ _
 |j::p,.a,u=>Nat.le_add_right _ _
 |j::p,.b,u=>Nat.le_add_right _ _
 |0::p,.f x,u=>Nat.le_trans (Nat.add_le_add_left (put_size p x u) 1) (Nat.le_of_eq (Nat.add_assoc _ _ _).symm)
 |0::p,.g x y,u=>Nat.le_trans (Nat.add_le_add_left (Nat.le_trans (Nat.add_le_add_right (put_size p x u) _) (Nat.le_of_eq (Nat.add_right_comm _ _ _))) 1) (Nat.le_of_eq (Nat.add_assoc _ _ _).symm)
 |1::p,.g x y,u=>Nat.le_trans (Nat.add_le_add_left (Nat.le_trans (Nat.add_le_add_left (put_size p y u) _) (Nat.le_of_eq (Nat.add_assoc _ _ _).symm)) 1) (Nat.le_of_eq (Nat.add_assoc _ _ _).symm)
 |(j+1)::p,.f x,u=>Nat.le_add_right (Tm.f x).size u.size
 |(j+2)::p,.g x y,u=>Nat.le_add_right _ _
theorem turns_right(t:Tm):∀v∈turnsOf t,v.right.size≤t.size+2:=by
 have e:∀u:Tm,(Tm.f (.f u)).size≤u.size+2:=fun u=>Nat.le_of_eq ((Nat.add_assoc 1 1 _).symm.trans (Nat.add_comm 2 _))
 cases t with
 |a=>exact all_mem2 (e _) (by decide:2≤3)
 |b=>exact all_mem1 (e _)
 |f x=>
  cases x with
  |a=>exact all_mem1 (e _)
  |b=>exact all_mem2 (e _) (by decide:1≤4)
  |f x=>exact all_mem2 (e _) (Nat.le_trans (Nat.le_add_left _ _) (Nat.le_trans (Nat.le_add_left _ 1) (Nat.le_add_right _ 2)))
  |g x y=>exact all_mem1 (e _)
 |g x y=>exact all_mem3 (e _) (Nat.le_trans (Nat.le_of_eq (congrArg (1+·) (Nat.add_comm _ _))) (Nat.le_add_right _ 2)) (Nat.le_trans (Nat.le_of_eq (congrArg (1+·) (Nat.add_comm _ _))) (Nat.le_add_right _ 2))
theorem steps_right:∀(t:Tm) (p:List Nat),∀q∈stepsOf t p,q.2.right.size≤t.size+2:=by
 intro t
 induction t with
 |a=>intro p q hq;refine ea11 (List.mem_map.mp hq) fun v hv z1=>?_;subst z1;exact turns_right _ v hv
 |b=>intro p q hq;refine ea11 (List.mem_map.mp hq) fun v hv z1=>?_;subst z1;exact turns_right _ v hv
 |f x ih=>
  intro p q hq
  rcases List.mem_append.mp hq with hq|hq
  ·refine ea11 (List.mem_map.mp hq) fun v hv z1=>?_;subst z1;exact turns_right _ v hv
  ·exact Nat.le_trans (ih _ _ hq) (Nat.add_le_add_right (Nat.le_add_left _ 1) 2)
 |g x y ih1 ih2=>
  intro p q hq
  rcases List.mem_append.mp hq with hq|hq
  ·rcases List.mem_append.mp hq with hq|hq
   ·refine ea11 (List.mem_map.mp hq) fun v hv z1=>?_;subst z1;exact turns_right _ v hv
   ·exact Nat.le_trans (ih1 _ _ hq) (Nat.add_le_add_right (Nat.le_trans (Nat.le_add_right _ _) (Nat.le_add_left _ 1)) 2)
  ·exact Nat.le_trans (ih2 _ _ hq) (Nat.add_le_add_right (Nat.le_trans (Nat.le_add_left _ _) (Nat.le_add_left _ 1)) 2)
noncomputable def KeepBut(f:Nat)(σ σ':Store):Prop:=∀(j:Nat) (x:AO),j≠f→σ[j]? =some x→σ'[j]? =some x
theorem Feed.keep{σ σ':Store}{fd c:Nat}{cells:List Int}{s:Nat}(F:Feed σ fd c cells s)(k:Keep σ σ'):Feed σ' fd c cells s:=⟨k _ _ F.hf,k _ _ F.hc⟩
noncomputable def drawE(t:Tm)(q:Row):AV:= .tup [q.2.enc q.1,(lateOf t q).enc]
end Mine
end
section
namespace Mine
open PySem
theorem cand_map(t:Tm):(stepsOf t []).filterMap (fun q=>if(lateOf t q).size≤10 then some (drawE t q)else none)=(cand t).map (drawE t):=by
 unfold cand
 induction stepsOf t []with
 |nil=>rfl
 |cons q r ih=>
  by_cases h:(lateOf t q).size≤10
  ·rw[List.filterMap_cons_some (by rw[if_pos h]),List.filter_cons_of_pos (by simpa using h),List.map_cons,ih]
  ·rw[List.filterMap_cons_none (by rw[if_neg h]),List.filter_cons_of_neg (by simpa using h),ih]
theorem fm_some{α β:Type}(g:α→β)(l:List α):l.filterMap (fun q=>some (g q))=l.map g:=by
 induction l with
 |nil=>rfl
 |cons x r ih=>simp
theorem KeepBut.trunc{f:Nat}{σ σ₁:Store}{v:AV}(a:KeepBut f σ σ₁):KeepBut f σ (Mine.trunc σ.length v σ₁):=fun j x hj h=>by
 obtain⟨hl,_⟩:=List.getElem?_eq_some_iff.mp h
 rw[trunc_get hl];exact a j x hj h
section
variable{sc₀:Addr→Option (List Int)}{k:Nat}{σ:Store}{Q:AV→Store→Prop}{Y:XA→Store→Prop}
theorem drawn_ok{t:Tm}{fd c:Nat}{cells:List Int}{s:Nat}(hz:t.size≤10)(F:Feed σ fd c cells s)(hs:s≤1000)(hc:cells.length≤1000)(h:∀q σ',q∈cand t→KeepBut fd σ σ'→Feed σ' fd c cells (s+1)→Q (drawE t q) σ'):Ca (PP sc₀) (k+250) 394 [.ob fd,t.enc] σ Q:=by
 have hd:=depth_size t
 have hdt:t.depth≤10:=Nat.le_trans (Nat.le_of_lt hd) hz
 refine ca' rfl rfl ?_
 repeat walk_at "pq"
 refine apE_fn (P:=PP sc₀) (a:=377) rfl rfl rfl (Ca.lift (c:=80) (d:=10*t.depth) (lift_n hdt (by decide)) fun _=>(law_steps_ok t (p:=[]) (Nat.le_trans hdt (by decide)) (Nat.le_trans hz (by decide)) (Nat.le_trans (Nat.le_of_eq (Nat.zero_add _)) (Nat.le_trans hdt (by decide))) fun i1 s1 k1 h1=>?_))
 refine over_keep h1 ((comp_keepM (e:=stepE) (f:=fun q=>some (drawE t q)) (σ0:=s1.set i1 .frozen) (fun q hq S hS=>?_) (Keep.refl _)).mono fun ys S ⟨e1,e2⟩=>⟨e2,fun s2 k2=>?_⟩)
 ·refine ea11 (steps_at t [] q hq) fun r hr hat=>?_
  rw[List.nil_append]at hr
  subst hr
  have hl:=at_depth _ hat
  refine⟨_,rfl,?_⟩
  repeat walk_at "pq"
  refine⟨Keep.refl _,sel_t rfl ?_⟩
  repeat walk_at "pq"
  refine apE_fn (P:=PP sc₀) (a:=384) rfl rfl rfl (Ca.lift (c:=30) (d:=10*q.1.length) (lift_n (le3 hl hdt) (by decide)) fun _=>(law_put_ok q.1 q.2.right hat fun s3 k3=>?_))
  repeat walk_at "pq"
  exact k3
 subst e1
 have e1:=fm_some (drawE t) (stepsOf t [])
 rw[e1]
 have hlen:(stepsOf t []).length≤30:=Nat.le_trans (steps_len t []) (Nat.mul_le_mul_left 3 hz)
 refine OkO.mk (mkList_ok (map_le hlen (by decide))) ?_
 repeat walk_at "pq"
 refine over_keep (get_new _ _) ((comp_keepM (e:=drawE t) (f:=fun q=>if(lateOf t q).size≤10 then some (drawE t q)else none) (σ0:=(s2++[AO.list ((stepsOf t []).map (drawE t))]).set s2.length .frozen) (fun q hq S hS=>?_) (Keep.refl _)).mono fun ys S ⟨e1,e2⟩=>⟨e2,fun s4 k4=>?_⟩)
 ·have hr:=steps_right t [] q hq
  have hp:=put_size q.1 t q.2.right
  have hdl:=depth_size (lateOf t q)
  have hls:(lateOf t q).size≤22:=by unfold lateOf;omega
  refine⟨_,rfl,?_⟩
  repeat walk_at "pq"
  refine apE_fn (P:=PP sc₀) (a:=389) rfl rfl rfl (Ca.lift (c:=20) (d:=10*(lateOf t q).depth) (lift_n (Nat.le_trans (Nat.le_of_lt hdl) hls) (by decide)) fun _=>(law_size_ok (lateOf t q) fun s3 k3=>?_))
  repeat walk_at "pq"
  refine sel_of (fun hb=>?_) (fun hb=>?_)
  ·have hb':(lateOf t q).size≤10:=by first |exact Int.ofNat_le.mp (of_decide_eq_true hb)|(have :=of_decide_eq_true hb;omega)
   repeat walk_at "pq"
   refine⟨k3,sel_t rfl ?_⟩
   repeat walk_at "pq"
   exact⟨by rw[if_pos hb'];rfl,Keep.refl _⟩
  ·have hb':¬(lateOf t q).size≤10:=by first |exact fun e=>of_decide_eq_false hb (Int.ofNat_le.mpr e)|(have :=of_decide_eq_false hb;omega)
   exact⟨k3,sel_f rfl (if_neg hb')⟩
 subst e1
 rw[cand_map]
 have hlen2:(cand t).length≤(stepsOf t []).length:=List.length_filter_le _ _
 refine OkO.mk (mkList_ok (map_le (Nat.le_trans hlen2 hlen) (by decide))) ?_
 repeat walk_at "pq"
 refine OkO.mk (bi_len (get_new _ _)) ?_
 repeat walk_at "pq"
 have hpos:0<(cand t).length:=by
  cases e:cand t with
  |nil=>exact absurd e (cand_ne hz)
  |cons x r=>simp
 have kk:Keep σ (s4++[AO.list ((cand t).map (drawE t))]):=by walk_at "kp"
 have F4:=F.keep kk
 have hne:fd≠s4.length:=by
  intro e
  have :=F4.hf
  rw[e,get_new]at this
  cases this
 refine apE_fn (P:=PP sc₀) (a:=365) rfl rfl rfl ((draw_ok F4 hs hc (by rw[List.length_map];exact Int.ofNat_lt.mpr hpos) (by rw[List.length_map];exact Int.lt_of_le_of_lt (Int.ofNat_le.mpr (Nat.le_trans hlen2 hlen)) (by decide)) fun d d0 d1=>?_))
 repeat walk_at "pq"
 rw[List.length_map]at d1
 obtain⟨n,rfl⟩:∃n:Nat,d=(n:Int):=⟨d.toNat,(Int.toNat_of_nonneg d0).symm⟩
 have hn:n<(cand t).length:=Int.ofNat_lt.mp d1
 refine OfS.mk (item_list (get_set_ne (get_new _ _) hne) (at_nat (v:=drawE t (cand t)[n]) (by simp[hn]))) ?_
 have kb:KeepBut fd σ ((s4++[AO.list ((cand t).map (drawE t))]).set fd (.dstr [("cells",.ob c),("spot",.int ((s+1:Nat):Int))])):=fun j x hj hx=>get_set_ne (kk _ _ hx) (Ne.symm hj)
 have hcf:fd≠c:=by
  intro e
  have h1:=F.hf
  have h2:=F.hc
  rw[e,h2]at h1
  cases h1
 have l1:=get_lt F.hf
 have l2:=get_lt F.hc
 exact h _ _ (List.getElem_mem hn) kb.trunc ⟨(trunc_get l1).trans (get_set F4.hf),(trunc_get l2).trans (get_set_ne F4.hc hcf)⟩
end
end Mine
end
section
namespace Mine
open PySem
section
variable{sc₀:Addr→Option (List Int)}{k:Nat}{σ:Store}{Q:AV→Store→Prop}{Y:XA→Store→Prop}
theorem place_bad{d g:Nat}{self t st:AV}{n:Int}(hg:(fnAt g).isSome=true)(hd:σ[d]? =some (.meth g self))(hx:∀{k:Nat} {Y:XA→Store→Prop},(∀σ',Keep σ σ'→Y (.pf (.int n)) σ')→CaX (PP sc₀) (k+220) g [self,t,st] σ Y)(h:∀σ',Keep σ σ'→Q (.int n) σ'):Ca (PP sc₀) (k+230) 408 [.ob d,t,st] σ Q:=by
 refine ca' rfl rfl ?_
 refine ex_cons (st_try_pf ?_)
 refine exX_here (stX_expr rfl (evX_callN rfl rfl rfl ?_))
 repeat walk_at "pq"
 refine apX_meth hd hg ((hx fun s1 k1=>?_))
 refine⟨_,rfl,rfl,?_⟩
 repeat walk_at "pq"
 exact h _ k1.trunc
end
theorem legal_app:∀(rows:List Row) (t:Tm) (q:Row),Legal t rows→q.2.sz→(ends t rows).at q.1=some q.2.left→(ends t rows).depth≤10→Legal t (rows++[q])
 |[],t,q,_,h1,h2,h3=>⟨⟨h1,h2,h3⟩,trivial⟩
 |(p,v)::rows,t,q,h,h1,h2,h3=>⟨h.1,legal_app rows _ q h.2 h1 h2 h3⟩
theorem ends_app:∀(rows:List Row) (t:Tm) (q:Row),ends t (rows++[q])=lateOf (ends t rows) q
 |[],t,q=>rfl
 |(p,v)::rows,t,q=>ends_app rows _ q
theorem trail_app:∀(rows:List Row) (t:Tm) (q:Row),trail t (rows++[q])=trail t rows++[lateOf (ends t rows) q]
 |[],t,q=>rfl
 |(p,v)::rows,t,q=>congrArg (t::·) (trail_app rows _ q)
theorem trail_last:∀(rows:List Row) (t:Tm),∃l,trail t rows=l++[ends t rows]
 |[],t=>⟨[],rfl⟩
 |(p,v)::rows,t=>by
  refine ea10 (trail_last rows (t.put p v.right)) fun l e=>?_
  exact⟨t::l,congrArg (t::·) e⟩
theorem trail_head:∀(rows:List Row) (t:Tm),∃l,trail t rows=t::l
 |[],t=>⟨[],rfl⟩
 |(p,v)::rows,t=>⟨_,rfl⟩
theorem trail_len:∀(rows:List Row) (t:Tm),(trail t rows).length=rows.length+1
 |[],t=>rfl
 |(p,v)::rows,t=>congrArg (·+1) (trail_len rows _)
structure Mn(S:Store)(fd c rw tm m j r td ro rs:Nat)(cells:List Int)(s:Nat)(t:Tm)(rows:List Row):Prop where
 F:Feed S fd c cells s
 W:Wd S m j r td ro rs
 hr:S[rw]? =some (.list (encs rows))
 ht:S[tm]? =some (.list ((trail t rows).map Tm.enc))
 legal:Legal t rows
 low:∀q∈rows,q.2.low
 sz:∀u∈trail t rows,u.size≤10
 cr:c≠rw
 ct:c≠tm
 rt:rw≠tm
section
variable{S S':Store}{fd c rw tm m j r td ro rs:Nat}{cells:List Int}{s s':Nat}{t:Tm}{rows:List Row}
theorem Mn.keep(M:Mn S fd c rw tm m j r td ro rs cells s t rows)(k:Keep S S'):Mn S' fd c rw tm m j r td ro rs cells s t rows:=
 ⟨M.F.keep k,M.W.keep k,k _ _ M.hr,k _ _ M.ht,M.legal,M.low,M.sz,M.cr,M.ct,M.rt⟩
theorem Mn.draw(M:Mn S fd c rw tm m j r td ro rs cells s t rows)(k:KeepBut fd S S')(F:Feed S' fd c cells s'):Mn S' fd c rw tm m j r td ro rs cells s' t rows:=by
 have ne:∀{i:Nat} {o:AO},S[i]? =some o→(∀a b,o≠ .dstr [("cells",a),("spot",b)])→i≠fd:=fun hi ho e=>by
  subst e
  rw[M.F.hf]at hi
  exact ho _ _ (Option.some.inj hi).symm
 have go:∀{i:Nat} {o:AO},S[i]? =some o→(∀a b,o≠ .dstr [("cells",a),("spot",b)])→S'[i]? =some o:=fun hi ho=>k _ _ (ne hi ho) hi
 refine⟨F,⟨go M.W.hm (by simp),go M.W.hj (by simp),go M.W.hr ?_,go M.W.ht ?_,go M.W.ho (by simp),go M.W.hs (by simp)⟩,go M.hr (by simp),go M.ht (by simp),M.legal,M.low,M.sz,M.cr,M.ct,M.rt⟩
 ·intro a b e
  exact AO.noConfusion e fun e=>absurd (Prod.mk.inj (List.cons.inj e).1).1 (by decide+kernel)
 ·intro a b e
  exact AO.noConfusion e fun e=>absurd (Prod.mk.inj (List.cons.inj e).1).1 (by decide+kernel)
theorem Mn.last_sz(M:Mn S fd c rw tm m j r td ro rs cells s t rows):(ends t rows).size≤10:=by
 refine ea10 (trail_last rows t) fun l e=>?_
 exact M.sz _ (by rw[e];simp)
theorem Mn.ne(M:Mn S fd c rw tm m j r td ro rs cells s t rows){q:Row}(hq:q∈cand (ends t rows)){v:AV}(hv:v=q.2.enc q.1){S₁:Store}
 (h1:S₁=S.set rw (.list (encs rows++[v]))):Mn (S₁.set tm (.list ((trail t rows).map Tm.enc++[(lateOf (ends t rows) q).enc]))) fd c rw tm m j r td ro rs cells s t (rows++[q]):=by
 subst hv h1
 have hne:=M.rt
 have nr:∀{i:Nat} {o:AO},S[i]? =some o→(∀xs,o≠ .list xs)→((S.set rw (.list (encs rows++[q.2.enc q.1]))).set tm (.list ((trail t rows).map Tm.enc++[(lateOf (ends t rows) q).enc])))[i]? =some o:=fun hi ho=>by
  refine get_set_ne (get_set_ne hi fun e=>?_) fun e=>?_
  ·subst e;rw[M.hr]at hi;exact ho _ (Option.some.inj hi).symm
  ·subst e;rw[M.ht]at hi;exact ho _ (Option.some.inj hi).symm
 have hz:=M.last_sz
 have hd:=depth_size (ends t rows)
 refine ea01 (List.mem_filter.mp hq) fun hq1 hq2=>?_
 refine ea11 (steps_at _ _ _ hq1) fun p e1 e2=>?_
 rw[List.nil_append]at e1
 subst e1
 have hlow:=steps_low _ _ (Nat.le_trans (Nat.le_of_lt hd) (Nat.le_trans hz (by decide))) (Nat.le_trans hz (by decide)) _ hq1
 refine⟨⟨nr M.F.hf (by simp),?_⟩,⟨nr M.W.hm (by simp),nr M.W.hj (by simp),nr M.W.hr (by simp),nr M.W.ht (by simp),nr M.W.ho (by simp),nr M.W.hs (by simp)⟩,?_,?_,legal_app _ _ _ M.legal hlow.1 e2 (Nat.le_trans (Nat.le_of_lt hd) hz),?_,?_,M.cr,M.ct,M.rt⟩
 ·exact get_set_ne (get_set_ne M.F.hc (Ne.symm M.cr)) (Ne.symm M.ct)
 ·rw[get_set_ne (get_set M.hr) (Ne.symm hne)]
  simp[encs]
 ·rw[get_set (get_set_ne M.ht hne),trail_app]
  simp
 ·intro q' h'
  rcases List.mem_append.mp h' with h'|h'
  ·exact M.low _ h'
  ·rw[List.mem_singleton.mp h'];exact hlow
 ·intro u h'
  rw[trail_app]at h'
  rcases List.mem_append.mp h' with h'|h'
  ·exact M.sz _ h'
  ·rw[List.mem_singleton.mp h'];exact of_decide_eq_true hq2
end
end Mine
end
section
namespace Mine
open PySem
noncomputable def lawX:Fn:=(defAt 40).get rfl
theorem law_enter{P:Prg}{k:Nat}{ρ:Loc}{σ:Store}{ps:List Str}{body:List Stmt}{fsc:Scope}{R:Fl×Loc→Store→Prop}(hf:defAt 40=some ⟨ps,body,fsc⟩)(h:Ex P k fsc ρ σ body R):Ex P k lawX.scope ρ σ lawX.body R:=by
 have e:lawX=⟨ps,body,fsc⟩:=Option.some.inj ((Option.some_get _).trans hf)
 rw[e]
 exact h
theorem slice_script{P:Prg}{σ:Store}{a:Addr}{l:List Int}{lo:Nat}{hi:Option Nat}(h:P.script a=some l):sliceA P σ (.fix (.ref a)) lo hi= .ok (.ob σ.length) (σ++[.list ((partL l lo hi).map .int)]):=by
 show ofO (P.script a) _=_
 rw[h]
 rfl
theorem ty_list_ob{σ:Store}{n:Nat}{xs:List AV}(h:σ[n]? =some (.list xs)):typeA σ "list" [.ob n]= .ok (.ob σ.length) (σ++[.list xs]):=by
 show ofO (itemsA σ (.ob n)) _=_
 rw[items_ob h]
 rfl
theorem ty_dict_ob{σ:Store}{n:Nat}{xs:List (Str×AV)}(h:σ[n]? =some (.dstr xs)):typeA σ "dict" [.ob n]= .ok (.ob σ.length) (σ++[.dstr xs]):=by
 show ofO (dstrOf σ (.ob n)) _=_
 rw[dstrOf_ob h]
 rfl
theorem apE_cls{P:Prg}{k:Nat}{f:AV}{σ:Store}{Q:AV→Store→Prop}{a i:Addr}{vs:List AV}(e:f= .fix (.ref a))(hc:P.cls a=true)(hi:P.init a=some i)(h:Ca P k i (.ob σ.length::vs) (σ++[.inst a []]) fun v σ₁=>v= .none∧Q (.ob σ.length) σ₁):Ap P k f vs σ Q:=by
 subst e
 exact ap_cls hc hi h
theorem Wd.but{S S':Store}{fd m j r td ro rs:Nat}{a b:AV}(W:Wd S m j r td ro rs)(hf:S[fd]? =some (.dstr [("cells",a),("spot",b)]))(k:KeepBut fd S S'):Wd S' m j r td ro rs:=by
 have ne:∀{i:Nat} {o:AO},S[i]? =some o→(o≠ .dstr [("cells",a),("spot",b)])→i≠fd:=fun hi ho e=>by
  subst e
  rw[hf]at hi
  exact ho (Option.some.inj hi).symm
 have go:∀{i:Nat} {o:AO},S[i]? =some o→(o≠ .dstr [("cells",a),("spot",b)])→S'[i]? =some o:=fun hi ho=>k _ _ (ne hi ho) hi
 refine⟨go W.hm (by simp),go W.hj (by simp),go W.hr ?_,go W.ht ?_,go W.ho (by simp),go W.hs (by simp)⟩
 ·intro e
  exact AO.noConfusion e fun e=>absurd (Prod.mk.inj (List.cons.inj e).1).1 (by decide+kernel)
 ·intro e
  exact AO.noConfusion e fun e=>absurd (Prod.mk.inj (List.cons.inj e).1).1 (by decide+kernel)
theorem ne_int{σ:Store}{a b:Int}(h:a=b):cmpA σ .NotEq (.int a) (.int b)=some false:=by
 subst h
 rw[ne_data (dx:= .int a) (dy:= .int a) rfl rfl rfl rfl,eqv_self rfl]
 rfl
theorem at_head{x:AV}{xs:List AV}:atA (x::xs) 0=some x:=item_head (σ:=[])
theorem nat_of{n:Nat}:natOf (.int (n:Int))=some n:=by simp[natOf,asInt]
theorem Feed.next{S:Store}{fd c:Nat}{cells:List Int}{s:Nat}(F:Feed S fd c cells s):Feed (S.set fd (.dstr [("cells",.ob c),("spot",.int ((s+1:Nat):Int))])) fd c cells (s+1):=by
 have hcf:fd≠c:=by rintro rfl;have h1:=F.hf;have h2:=F.hc;rw[h1]at h2;cases h2
 exact⟨get_set F.hf,get_set_ne F.hc hcf⟩
theorem range_len:∀(n k:Nat),(rangeL k n).length=n
 |0,_=>rfl
 |n+1,k=>congrArg (·+1) (range_len n (k+1))
theorem KeepBut.set{S:Store}{fd:Nat}{o:AO}:KeepBut fd S (S.set fd o):=fun _ _ hj h=>get_set_ne h (Ne.symm hj)
theorem start_mn{S:Store}{fd c rw m j r td ro rs:Nat}{cells:List Int}{s:Nat}{t:Tm}(F:Feed S fd c cells s)(W:Wd S m j r td ro rs)(R:S[rw]? =some (.list []))(hz:t.size≤10)(hcr:c≠rw):Mn (S.set fd (.dstr [("cells",.ob c),("spot",.int ((s+1:Nat):Int))])++[.list [t.enc]]) fd c rw (S.set fd (.dstr [("cells",.ob c),("spot",.int ((s+1:Nat):Int))])).length m j r td ro rs cells (s+1) t []:=by
 have hcf:fd≠c:=by rintro rfl;have h1:=F.hf;have h2:=F.hc;rw[h1]at h2;cases h2
 have hrf:fd≠rw:=by rintro rfl;have h1:=F.hf;rw[h1]at R;cases R
 have lc:=get_lt F.hc
 have lr:=get_lt R
 refine⟨⟨Keep.push _ _ _ _ (get_set F.hf),Keep.push _ _ _ _ (get_set_ne F.hc hcf)⟩,(W.but F.hf KeepBut.set).keep (Keep.push _ _),Keep.push _ _ _ _ (get_set_ne R hrf),get_new _ _,trivial,(fun q hq=>nomatch hq),?_,hcr,?_,?_⟩
 ·intro u hu
  rw[List.mem_singleton.mp hu];exact hz
 ·simp;omega
 ·simp;omega
set_option compiler.extract_closed false in
set_option hygiene false in
local macro_rules | `(tactic| walk_at "nm") => `(tactic| first
 |assumption|(refine look_tail rfl ?_;walk_at "nm"))
set_option compiler.extract_closed false in
set_option hygiene false in
local macro_rules | `(tactic| walk_at "ng") => `(tactic| first
 |exact onlyF (by assumption) rfl|(refine look_tail rfl ?_;walk_at "ng"))
set_option compiler.extract_closed false in
set_option hygiene false in
local macro_rules | `(tactic| walk_at "nx") => `(tactic| first
 |walk_at "pq"|((with_reducible apply ev_name);exact name_loc rfl (by walk_at "nm"))
 |((with_reducible apply ev_name);exact name_glob rfl (by walk_at "ng") rfl rfl)
 |((with_reducible apply ev_callN);exact rfl;exact rfl;exact name_glob rfl (by walk_at "ng") rfl rfl))
section
variable{sc₀:Addr→Option (List Int)}{a:Addr}{cells:List Int}{k:Nat}{σ:Store}
theorem law_ok(ha:sc₀ a=some cells)(hz:cells.length≤63):Ex (PP sc₀) (k+290) lawX.scope [("script",.fix (.ref a))] σ lawX.body fun q S=>q.1= .ret (.bool true):=by
 refine law_enter rfl ?_
 repeat walk_at "pq"
 refine OkO.mk (slice_script ha) ?_
 repeat walk_at "pq"
 refine OkO.mk (ty_list_ob (by walk_at "lk")) ?_
 repeat walk_at "pq"
 refine apE_cls (P:=PP sc₀) (a:=333) (i:=323) rfl rfl rfl ((rule_init_off fun s1 k1 h1=>?_))
 refine⟨rfl,?_⟩
 repeat walk_at "pq"
 refine apE_cls (P:=PP sc₀) (a:=333) (i:=323) rfl rfl rfl ((rule_init_swap fun s2 k2 h2=>?_))
 refine⟨rfl,?_⟩
 repeat walk_at "pq"
 refine apE_fn (P:=PP sc₀) (a:=344) rfl rfl rfl ((law_told_ok fun i3 s3 k3 l3 h3=>?_))
 repeat walk_at "pq"
 refine OkO.mk (ty_dict_ob h3) ?_
 repeat walk_at "pq"
 refine apE_cls (P:=PP sc₀) (a:=241) (i:=209) rfl rfl rfl ((judge_init fun s4 k4 h4=>?_))
 refine⟨rfl,?_⟩
 repeat walk_at "pq"
 refine apE_cls (P:=PP sc₀) (a:=307) (i:=269) rfl rfl rfl ((steps_init fun s5 k5 h5=>?_))
 refine⟨rfl,?_⟩
 repeat walk_at "pq"
 have W:Wd s5 s4.length (s3++[AO.dstr [("t0",.tup [Tm.a.enc,(Tm.f .b).enc])]]).length s2.length s3.length _ s1.length:=⟨h5,k5 _ _ h4,k5 _ _ (k4 _ _ (Keep.push _ _ _ _ (k3 _ _ (get_new _ _)))),k5 _ _ (k4 _ _ (get_new _ _)),k5 _ _ (k4 _ _ (Keep.push _ _ _ _ (k3 _ _ (Keep.push _ _ _ _ (k2 _ _ h1))))),k5 _ _ (k4 _ _ (Keep.push _ _ _ _ (k3 _ _ (Keep.push _ _ _ _ h2))))⟩
 have K5:=k1.trans (k2.trans ((Keep.push _ _).trans (k3.trans ((Keep.push _ _).trans (k4.trans k5)))))
 have F:Feed s5 _ _ (partL cells 0 (some 40)) 0:=⟨K5 _ _ (Keep.push _ _ _ _ (get_new _ _)),K5 _ _ (Keep.push _ _ _ _ (Keep.push _ _ _ _ (get_new _ _)))⟩
 have R:=K5 _ _ (get_new _ _)
 have hl:(partL cells 0 (some 40)).length≤1000:=by
  show((cells.drop 0).take (40 - 0)).length≤1000
  rw[List.length_take];exact Nat.le_trans (Nat.min_le_left _ _) (by decide)
 refine apE_fn (P:=PP sc₀) (a:=365) rfl rfl rfl ((draw_ok F (Nat.zero_le _) hl (by first |decide|omega) (by first |decide|omega) fun d d0 d1=>?_))
 obtain⟨t,htz,hte⟩:∃t:Tm,t.size≤10∧∀S,itemA S lawTerms (.int d)=some t.enc:=by
  have :d=0∨d=1∨d=2∨d=3:=by omega
  rcases this with rfl|rfl|rfl|rfl
  ·exact⟨.g .a .b,by decide,fun _=>rfl⟩
  ·exact⟨.f (.f .a),by decide,fun _=>rfl⟩
  ·exact⟨.a,by decide,fun _=>rfl⟩
  ·exact⟨.g (.f .b) (.f (.f .b)),by decide,fun _=>rfl⟩
 refine OfS.mk (hte _) ?_
 repeat walk_at "pq"
 have M:=start_mn F W R htz (by simp)
 refine apE_fn (P:=PP sc₀) (a:=365) rfl rfl rfl ((draw_ok M.F (by first |decide|omega) hl (by first |decide|omega) (by first |decide|omega) fun d2 d20 d21=>?_))
 have M2:=M.draw KeepBut.set M.F.next
 obtain⟨n,rfl⟩:∃n:Nat,d2=(n:Int):=⟨d2.toNat,(Int.toNat_of_nonneg d20).symm⟩
 refine⟨n,nat_of,Nat.ble_eq_true_of_le (by first |exact Nat.le_trans (Nat.le_of_lt (lt_cast (m:=4) d21 rfl)) (by decide)|exact Nat.le_trans (Nat.le_of_lt (lt_cast (m:=3) d21 rfl)) (by decide)|omega),?_⟩
 refine for_inv (I:=fun xs ρ S=>∃s rows,Mn S _ _ _ _ _ _ _ _ _ _ _ s t rows∧s+xs.length≤5∧rows.length+xs.length≤3∧look "feed" ρ=some (.ob _)∧look "row" ρ=some (.ob _)∧look "terms" ρ=some (.ob _)∧look "made" ρ=some (.ob _)∧only ["script","feed","row","rules","made","terms","lap","step","late","right","bent","steps","kept"] ρ) ⟨_,_,M2,by rw[range_len];omega,by rw[range_len,List.length_nil];omega,rfl,rfl,rfl,rfl,?_⟩ (fun x xs ρ S hI=>?_) (fun ρ S hI=>?_)
 ·iterate 6 (refine only.cons rfl ?_)
  exact fun _ _=>rfl
 ·refine ea25 hI fun s rows M hs hrw hfd hro h6=>?_;clear hI;refine ea02 h6 fun hte hma hon=>?_;clear h6
  refine ea10 (trail_last rows t) fun l el=>?_
  have hT:=M.ht
  rw[el,List.map_append]at hT
  refine⟨_,rfl,?_⟩
  have hfd':=look_tail (x:="feed") (y:="lap") (v:=x) rfl hfd
  have hte':=look_tail (x:="terms") (y:="lap") (v:=x) rfl hte
  have hro':=look_tail (x:="row") (y:="lap") (v:=x) rfl hro
  have hma':=look_tail (x:="made") (y:="lap") (v:=x) rfl hma
  have hon':=only.cons (y:="lap") (v:=x) rfl hon
  repeat walk_at "pq"
  refine OfS.mk (item_last hT) ?_
  repeat walk_at "pq"
  refine apE_fn (P:=PP sc₀) (a:=394) rfl rfl rfl ((drawn_ok M.last_sz M.F (le3 hs (by decide)) hl fun q S' hq kb F'=>?_))
  have M':=M.draw kb F'
  refine⟨_,rfl,?_⟩
  have hro2:=look_tail (x:="row") (y:="late") (v:=(lateOf (ends t rows) q).enc) rfl (look_tail (y:="step") (v:=q.2.enc q.1) rfl hro')
  have hte2:=look_tail (x:="terms") (y:="late") (v:=(lateOf (ends t rows) q).enc) rfl (look_tail (y:="step") (v:=q.2.enc q.1) rfl hte')
  have hfd2:=look_tail (x:="feed") (y:="late") (v:=(lateOf (ends t rows) q).enc) rfl (look_tail (y:="step") (v:=q.2.enc q.1) rfl hfd')
  have hma2:=look_tail (x:="made") (y:="late") (v:=(lateOf (ends t rows) q).enc) rfl (look_tail (y:="step") (v:=q.2.enc q.1) rfl hma')
  have hon2:=only.cons (y:="late") (v:=(lateOf (ends t rows) q).enc) rfl (only.cons (y:="step") (v:=q.2.enc q.1) rfl hon')
  repeat walk_at "pq"
  refine OfS.mk (methB_app M'.hr) ?_
  repeat walk_at "pq"
  refine go_app M'.hr (blt_cap (map_le (le3 hrw (Nat.le_refl 3)) (Nat.le_refl 3)) rfl) ?_
  repeat walk_at "pq"
  refine OfS.mk (methB_app (get_set_ne M'.ht M'.rt)) ?_
  repeat walk_at "pq"
  refine go_app (get_set_ne M'.ht M'.rt) (blt_cap (map_le (Nat.le_trans (Nat.le_of_eq (trail_len _ _)) (Nat.succ_le_succ (le3 hrw (Nat.le_refl 3)))) (Nat.le_refl 4)) rfl) ?_
  repeat walk_at "pq"
  exact⟨s+1,rows++[q],M'.ne hq rfl rfl,by rw[Nat.add_assoc,Nat.add_comm 1];exact hs,snoc_le hrw,hfd2,hro2,hte2,hma2,hon2⟩
 ·refine ea25 hI fun s rows M hs hrw hfd hro h6=>?_;clear hI;refine ea02 h6 fun hte hma hon=>?_;clear h6
  refine ea10 (trail_last rows t) fun l el=>?_
  have hT:=M.ht
  rw[el,List.map_append]at hT
  have hez:=M.last_sz
  have hed:=depth_size (ends t rows)
  repeat walk_at "pq"
  refine OfS.mk (item_last hT) ?_
  repeat walk_at "pq"
  refine apE_fn (P:=PP sc₀) (a:=394) rfl rfl rfl ((drawn_ok M.last_sz M.F (le3 hs (by decide)) hl fun q S' hq kb F'=>?_))
  have M':=M.draw kb F'
  refine ea01 (List.mem_filter.mp hq) fun hq1 hq2=>?_
  refine ea11 (steps_at _ _ _ hq1) fun p e1 hat=>?_
  rw[List.nil_append]at e1
  subst e1
  have hpl:=at_depth _ hat
  have hlow:=steps_low _ _ (Nat.le_trans (Nat.le_of_lt hed) (Nat.le_trans hez (by decide))) (Nat.le_trans hez (by decide)) _ hq1
  repeat walk_at "pq"
  have hfd1:=look_tail (x:="feed") (y:="right") (v:=q.2.enc q.1) rfl hfd
  have hro1:=look_tail (x:="row") (y:="right") (v:=q.2.enc q.1) rfl hro
  have hte1:=look_tail (x:="terms") (y:="right") (v:=q.2.enc q.1) rfl hte
  have hma1:=look_tail (x:="made") (y:="right") (v:=q.2.enc q.1) rfl hma
  have hon1:=only.cons (y:="right") (v:=q.2.enc q.1) rfl hon
  repeat walk_at "pq"
  refine apE_fn (P:=PP sc₀) (a:=365) rfl rfl rfl ((draw_ok M'.F (Nat.le_trans (Nat.succ_le_succ (le3 hs (Nat.le_refl 5))) (by decide)) hl (by first |decide|omega) (by first |decide|omega) fun d3 d30 d31=>?_))
  have M3:=M'.draw KeepBut.set M'.F.next
  obtain⟨way,rfl⟩:∃n:Nat,d3=(n:Int):=⟨d3.toNat,(Int.toNat_of_nonneg d30).symm⟩
  repeat walk_at "pq"
  refine apE_fn (P:=PP sc₀) (a:=401) rfl rfl rfl ((spoiled_ok (t:=ends t rows) (u:=q.2.left) (v:=q.2) (p:=q.1) (way:=way) hlow hat (Nat.le_trans (le3 hpl (Nat.le_of_lt hed)) (Nat.le_trans hez (by decide))) (by first |exact lt_cast (m:=22) d31 rfl|omega) fun bad S4 k4 hsp=>?_))
  have M4:=M3.keep k4
  repeat walk_at "pq"
  have hro2:=look_tail (x:="row") (y:="bent") (v:=bad) rfl hro1
  have hte2:=look_tail (x:="terms") (y:="bent") (v:=bad) rfl hte1
  have hma2:=look_tail (x:="made") (y:="bent") (v:=bad) rfl hma1
  have hon2:=only.cons (y:="bent") (v:=bad) rfl hon1
  have l4:=k4.len
  generalize hlo:List.length (List.set _ _ _)=lo at hsp l4
  refine ea10 (trail_head rows t) fun l0 el0=>?_
  have hT0:=M4.ht
  rw[el0,List.map_cons]at hT0
  repeat walk_at "pq"
  refine OfS.mk (methB_user M4.W.hm rfl rfl rfl) ?_
  repeat walk_at "pq"
  refine OfS.mk (item_list hT0 at_head) ?_
  repeat walk_at "pq"
  refine OkO.mk (ty_list_ob M4.hr) ?_
  repeat walk_at "pq"
  refine go_user ((walk_ok M4.legal (le3 hrw (by decide)) (get_new _ _) (M4.W.keep (Keep.push _ _)) fun o S5 k5 l5 h5=>?_))
  have K5':Keep S4 S5:=by walk_at "kp"
  have M5:=M4.keep K5'
  repeat walk_at "pq"
  refine OfS.mk (ne_same h5 M5.ht (fun x hx=>?_)) ?_
  ·refine ea11 (List.mem_map.mp hx) fun u hu z1=>?_;subst z1
   have :=M4.sz u hu
   have :=depth_size u
   exact hd_tm (Nat.le_trans (Nat.add_le_add_right (Nat.le_trans (Nat.le_of_lt (depth_size u)) (M4.sz u hu)) 2) (by decide))
  repeat walk_at "pq"
  have hB:∀m j r td ro rs S i,Keep S4 S→S4.length≤i→Bad sc₀ m j r td ro rs (S.set i .frozen) (ends t rows) rows.length bad:=fun m j r td ro rs S i hk hi=>(hsp _ (fun x ys hx hg=>get_set_ne (hk _ _ hg) (Nat.ne_of_gt (Nat.lt_of_lt_of_le (get_lt hg) hi)))).2 _ _ _ _ _ _ _
  have hD:∀S,Keep S4 S→HD S 39 bad:=fun S hk=>(hsp _ (fun x ys hx hg=>hk _ _ hg)).1
  have len5:=K5'.len
  have hm5:=M5.W.hm
  have hr5:=M5.hr
  have ht5:=M5.ht
  rw[el0,List.map_cons]at ht5
  refine OkO.mk (bin_lists (Keep.push _ _ _ _ hr5) (get_new _ _) (ble_cap (app_le (map_le (le3 hrw (Nat.le_refl 3)) (Nat.le_refl 3)) (Nat.le_refl 1)) rfl)) ?_
  repeat walk_at "nx"
  refine OkO.mk (bin_lists (Keep.push _ _ _ _ (Keep.push _ _ _ _ (Keep.push _ _ _ _ hr5))) (get_new _ _) (ble_cap (app_le (map_le (le3 hrw (Nat.le_refl 3)) (Nat.le_refl 3)) (Nat.le_refl 2)) rfl)) ?_
  repeat walk_at "nx"
  refine OkO.mk (ty_list_ob (by walk_at "lk")) ?_
  repeat walk_at "nx"
  refine OkO.mk (attr_methL (by walk_at "lk") rfl rfl rfl) ?_
  repeat walk_at "nx"
  refine OfS.mk (item_list (by walk_at "lk") at_head) ?_
  repeat walk_at "nx"
  refine apE_fn (P:=PP sc₀) (a:=408) rfl rfl rfl ((place_bad rfl (get_new _ _) (@fun k' Y' hY=>(walk_bad M5.legal (le3 hrw (by decide)) (by walk_at "lk") (hB _ _ _ _ _ _ _ _ (by walk_at "kp") (by simp only [List.length_append,List.length_cons,List.length_nil];omega)) (M5.W.keep (by walk_at "kp")) hY)) fun s7 k7=>?_))
  repeat walk_at "nx"
  have K7:Keep S5 s7:=by walk_at "kp"
  have M7:=M5.keep K7
  have hm7:=M7.W.hm
  have hr7:=M7.hr
  have ht7:=K7 _ _ ht5
  have hL7:=k7 _ _ (Keep.push _ _ _ _ (Keep.push _ _ _ _ (Keep.push _ _ _ _ (Keep.push _ _ _ _ (get_new _ _)))))
  have hK7:=k7 _ _ (Keep.push _ _ _ _ (get_new _ _))
  have hN7:=k7 _ _ (Keep.push _ _ _ _ (Keep.push _ _ _ _ (get_new _ _)))
  have len7:=K7.len
  have hE:∀S,Keep S4 S→∀x∈encs rows++[bad,q.2.enc q.1],HD S 39 x:=fun S hk x hx=>by
   rcases List.mem_append.mp hx with hx|hx
   ·refine ea11 (List.mem_map.mp hx) fun q' hq' z1=>?_;subst z1
    exact hd_enc (M5.low _ hq') (by first |decide|omega)
   ·simp only [List.mem_cons,List.not_mem_nil,or_false]at hx
    rcases hx with rfl|rfl
    ·exact hD S hk
    ·exact hd_enc hlow (by first |decide|omega)
  have hE1:∀S,Keep S4 S→∀x∈encs rows++[bad],HD S 39 x:=fun S hk x hx=>hE S hk x (by
   rcases List.mem_append.mp hx with hx|hx
   ·exact List.mem_append_left _ hx
   ·rw[List.mem_singleton.mp hx];simp)
  refine OkO.mk (bi_len hr7) ?_
  refine OfS.mk (ne_int (by simp[encs])) ?_
  repeat walk_at "nx"
  refine OkO.mk (attr_methL hm7 rfl rfl rfl) ?_
  repeat walk_at "nx"
  refine OfS.mk (item_list (by walk_at "lk") at_head) ?_
  repeat walk_at "nx"
  refine apE_fn (P:=PP sc₀) (a:=408) rfl rfl rfl ((place_bad rfl (get_new _ _) (@fun k' Y' hY=>(paper_bad M7.legal (le3 hrw (by decide)) (Keep.push _ _ _ _ hL7) (hB _ _ _ _ _ _ _ _ (by walk_at "kp") (by simp only [List.length_append,List.length_cons,List.length_nil];omega)) (M7.W.keep (by walk_at "kp")) hY)) fun s8 k8=>?_))
  repeat walk_at "nx"
  have K8:Keep s7 s8:=by walk_at "kp"
  refine OkO.mk (bi_len (K8 _ _ hr7)) ?_
  refine OfS.mk (ne_int (by simp[encs])) ?_
  repeat walk_at "nx"
  have K48:Keep S4 s8:=by walk_at "kp"
  refine OfS.mk (ne_same (K8 _ _ hL7) (K8 _ _ hK7) (hE1 _ K48)) ?_
  repeat walk_at "nx"
  have M8:=M7.keep K8
  have hm8:=M8.W.hm
  have hr8:=M8.hr
  have ht8:=K8 _ _ ht7
  have hN8:=K8 _ _ hN7
  have len8:=K48.len
  refine OkO.mk (ty_list_ob hN8) ?_
  repeat walk_at "nx"
  refine OkO.mk (attr_methL (Keep.push _ _ _ _ hm8) rfl rfl rfl) ?_
  repeat walk_at "nx"
  refine OfS.mk (item_list (by walk_at "lk") at_head) ?_
  repeat walk_at "nx"
  refine apE_fn (P:=PP sc₀) (a:=408) rfl rfl rfl ((place_bad rfl (get_new _ _) (@fun k' Y' hY=>(walk_bad M8.legal (le3 hrw (by decide)) (Keep.push _ _ _ _ (Keep.push _ _ _ _ hN8)) (hB _ _ _ _ _ _ _ _ (by walk_at "kp") (by simp only [List.length_append,List.length_cons,List.length_nil];omega)) (M8.W.keep (by walk_at "kp")) hY)) fun s9 k9=>?_))
  repeat walk_at "nx"
  have K9:Keep s8 s9:=by walk_at "kp"
  have hK9:=k9 _ _ (Keep.push _ _ _ _ (get_new _ _))
  have hN9:=K9 _ _ hN8
  have M9:=M8.keep K9
  have hm9:=M9.W.hm
  have ht9:=K9 _ _ ht8
  refine OkO.mk (bi_len M9.hr) ?_
  refine OfS.mk (ne_int (by simp[encs])) ?_
  repeat walk_at "nx"
  refine OkO.mk (attr_methL hm9 rfl rfl rfl) ?_
  repeat walk_at "nx"
  refine OfS.mk (item_list (by walk_at "lk") at_head) ?_
  repeat walk_at "nx"
  refine apE_fn (P:=PP sc₀) (a:=408) rfl rfl rfl ((place_bad rfl (get_new _ _) (@fun k' Y' hY=>(paper_bad M9.legal (le3 hrw (by decide)) (Keep.push _ _ _ _ hN9) (hB _ _ _ _ _ _ _ _ (by walk_at "kp") (by simp only [List.length_append,List.length_cons,List.length_nil];omega)) (M9.W.keep (by walk_at "kp")) hY)) fun s10 k10=>?_))
  repeat walk_at "nx"
  have K10:Keep s9 s10:=by walk_at "kp"
  refine OkO.mk (bi_len (K10 _ _ M9.hr)) ?_
  refine OfS.mk (ne_int (by simp[encs])) ?_
  repeat walk_at "nx"
  have K410:Keep S4 s10:=by walk_at "kp"
  refine OfS.mk (ne_same (K10 _ _ hN9) (K10 _ _ hK9) (hE _ K410)) ?_
  repeat walk_at "nx"
  rfl
end
theorem law_true_X(sc₀:Addr→Option (List Int))(a:Addr)(cells:List Int)(ha:sc₀ a=some cells)(h:cells.length≤63):∃ρ σ,(run (prg sc₀) 290).ex lawX.scope [("script",.fix (.ref a))] [] lawX.body= .ok (.ret (.bool true),ρ) σ:=by
 obtain⟨⟨fl,ρ⟩,σ,e,q⟩:=law_ok (k:=0) (σ:=[]) ha h
 refine⟨ρ,σ,?_⟩
 refine e.trans ?_
 cases q
 rfl
end Mine
end
end
section
namespace Mine
open PySem
noncomputable def en(P:Params)(x:Str)(t:Nat)(v:Value):DictEntry:={hash:=PyData.keyHash P x,key:= .str x t,val:=v}
noncomputable def meth(i j:Nat):Option Stmt:=(clsOf mainBody[i]?)[j]?
noncomputable def fnO(st:Option Stmt)(q m:Str)(t:Nat)(c:Addr)(cl:List (Str×Addr))(ct:Value):Obj:=(defV st).elim {cls:= .none,data:= .fields #[]} fun q0=>{cls:= .type "function",data:= .func {name:=q0.1,qualname:=q,params:=q0.2.1,body:= .stmts q0.2.2.1,scope:=q0.2.2.2,globals:=3,closure:=cl,defaults:= .none,kwdefaults:= .none,pyModule:= .str m t,code:= .ref c,closureTuple:=ct}}
noncomputable def coO(n:Str)(t1:Nat)(q:Str)(t2 t3:Nat)(l k:Int)(r:Addr)(a b c d e:Value)(z l2:Int)(t4:Nat):Obj:={cls:= .type "code",data:= .fields #[.str n t1,.str q t2,.str "/claim/cut.py" t3,.int l 0,.int k 0,.int 0 0,.int 0 0,.int 3 0,.ref r,.bool true,.int 181 0,a,b,c,d,e,.int z 0,.int l2 0,.str "/claim/cut.py" t4]}
noncomputable def theK(P:Params):W.Frag:=[
 (2,{cls:= .none,data:= .dict #[en P "type.__subclasses__.Exception.0" 230 (.int 47 0),en P "type.__subclasses__.Exception.n" 231 (.int 1 0)] 2}),
 (3,{cls:= .type "dict",data:= .dict #[en P "__name__" 165 (.str "law_pq0028_01" 616),en P "__doc__" 166 (.none),en P "__package__" 167 (.none),en P "__loader__" 168 (.builtin "__main__.__loader__#opaque"),en P "__spec__" 169 (.none),en P "__annotations__" 170 (.ref 6),en P "__builtins__" 171 (.ref 4),en P "__file__" 173 (.str "/claim/cut.py" 172),en P "__cached__" 174 (.none),en P "_wall" 193 (.ref 21),en P "HeapError" 233 (.ref 47),en P "TermFault" 249 (.ref 60),en P "RuleFault" 265 (.ref 72),en P "PaperFault" 300 (.ref 100),en P "is_variable" 309 (.ref 109),en P "variables" 315 (.ref 114),en P "placed" 321 (.ref 119),en P "parts" 327 (.ref 124),en P "part_at" 336 (.ref 131),en P "replaced" 346 (.ref 138),en P "parts_of" 355 (.ref 145),en P "is_plain_term" 364 (.ref 152),en P "are_places" 370 (.ref 157),en P "has_form" 379 (.ref 164),en P "in_order" 385 (.ref 169),en P "want_form" 393 (.ref 176),en P "turned" 400 (.ref 183),en P "joined" 408 (.ref 190),en P "under" 414 (.ref 195),en P "Judge" 480 (.ref 241),en P "is_step" 486 (.ref 250),en P "within" 492 (.ref 255),en P "Steps" 576 (.ref 307),en P "Rule" 615 (.ref 333),en P "_law_told" 623 (.ref 344),en P "_law_terms" 637 (.ref 358),en P "_law_draw" 647 (.ref 365),en P "_law_turns" 656 (.ref 372),en P "_law_steps" 662 (.ref 377),en P "_law_put" 672 (.ref 384),en P "_law_size" 678 (.ref 389),en P "_law_drawn" 684 (.ref 394),en P "_law_spoiled" 700 (.ref 401),en P "_law_place" 710 (.ref 408),en P "law" 729 (.ref 415)] 45}),
 (25,{cls:= .type "cell",data:= .cell (some (.ref 47))}),
 (36,coO "__init__" 208 "HeapError.__init__" 209 210 7 2 31 (.ref 32) (.none) (.ref 33) (.ref 34) (.ref 35) 214 7 215),
 (37,fnO (meth 2 0) "HeapError.__init__" "alikeheap.errors" 194 36 [("__class__",25)] (.ref 30)),
 (46,{cls:= .type "dict",data:= .dict #[en P "__module__" 203 (.str "alikeheap.errors" 194),en P "__firstlineno__" 207 (.int 5 206),en P "__init__" 216 (.ref 37),en P "told" 223 (.ref 44),en P "__static_attributes__" 225 (.ref 45),en P "__weakref__" 228 (.ref 48),en P "__doc__" 229 (.none)] 4}),
 (47,{cls:= .type "type",data:= .cls {name:="HeapError",bases:=[.type "Exception"],mro:=[.ref 47,.type "Exception",.type "BaseException",.type "object"],ns:=46,qualname:="HeapError",subclasses:=[.ref 60,.ref 72,.ref 100]},slots:=#[some (.ref 22),none,some (.str "HeapError" 196),some (.str "HeapError" 204),some (.builtin "Exception.__new__"),some (.bool true)]}),
 (48,{cls:= .type "getset_descriptor",data:= .fields #[.str "__weakref__" 227,.ref 47,.builtin "ExceptionGroup.__weakref__",.none]}),
 (59,{cls:= .type "dict",data:= .dict #[en P "__module__" 241 (.str "alikeheap.errors" 194),en P "__firstlineno__" 245 (.int 13 244),en P "__static_attributes__" 246 (.ref 58),en P "__doc__" 247 (.none)] 2}),
 (60,{cls:= .type "type",data:= .cls {name:="TermFault",bases:=[.ref 47],mro:=[.ref 60,.ref 47,.type "Exception",.type "BaseException",.type "object"],ns:=59,qualname:="TermFault"},slots:=#[some (.ref 51),none,some (.str "TermFault" 234),some (.str "TermFault" 242),some (.builtin "Exception.__new__"),some (.bool true)]}),
 (71,{cls:= .type "dict",data:= .dict #[en P "__module__" 257 (.str "alikeheap.errors" 194),en P "__firstlineno__" 261 (.int 15 260),en P "__static_attributes__" 262 (.ref 70),en P "__doc__" 263 (.none)] 2}),
 (72,{cls:= .type "type",data:= .cls {name:="RuleFault",bases:=[.ref 47],mro:=[.ref 72,.ref 47,.type "Exception",.type "BaseException",.type "object"],ns:=71,qualname:="RuleFault"},slots:=#[some (.ref 63),none,some (.str "RuleFault" 250),some (.str "RuleFault" 258),some (.builtin "Exception.__new__"),some (.bool true)]}),
 (78,{cls:= .type "cell",data:= .cell (some (.ref 100))}),
 (89,coO "__init__" 278 "PaperFault.__init__" 279 280 19 3 84 (.ref 85) (.none) (.ref 86) (.ref 87) (.ref 88) 285 19 286),
 (90,fnO (meth 5 0) "PaperFault.__init__" "alikeheap.errors" 194 89 [("__class__",78)] (.ref 83)),
 (99,{cls:= .type "dict",data:= .dict #[en P "__module__" 273 (.str "alikeheap.errors" 194),en P "__firstlineno__" 277 (.int 17 276),en P "__init__" 287 (.ref 90),en P "told" 294 (.ref 97),en P "__static_attributes__" 296 (.ref 98),en P "__doc__" 298 (.none)] 3}),
 (100,{cls:= .type "type",data:= .cls {name:="PaperFault",bases:=[.ref 47],mro:=[.ref 100,.ref 47,.type "Exception",.type "BaseException",.type "object"],ns:=99,qualname:="PaperFault"},slots:=#[some (.ref 75),none,some (.str "PaperFault" 266),some (.str "PaperFault" 274),some (.builtin "Exception.__new__"),some (.bool true)]}),
 (108,coO "is_variable" 303 "is_variable" 304 305 26 1 103 (.ref 104) (.none) (.ref 105) (.ref 106) (.ref 107) 307 26 308),
 (109,fnO mainBody[7]? "is_variable" "alikeheap.terms" 301 108 [] (.none)),
 (113,coO "variables" 310 "variables" 311 312 28 1 110 (.ref 111) (.none) (.none) (.none) (.ref 112) 313 28 314),
 (114,fnO mainBody[8]? "variables" "alikeheap.terms" 301 113 [] (.none)),
 (118,coO "placed" 316 "placed" 317 318 30 2 115 (.ref 116) (.none) (.none) (.none) (.ref 117) 319 30 320),
 (119,fnO mainBody[9]? "placed" "alikeheap.terms" 301 118 [] (.none)),
 (123,coO "parts" 322 "parts" 323 324 36 1 120 (.ref 121) (.none) (.none) (.none) (.ref 122) 325 36 326),
 (124,fnO mainBody[10]? "parts" "alikeheap.terms" 301 123 [] (.none)),
 (130,coO "part_at" 328 "part_at" 329 330 41 2 125 (.ref 126) (.none) (.ref 127) (.ref 128) (.ref 129) 334 41 335),
 (131,fnO mainBody[11]? "part_at" "alikeheap.terms" 301 130 [] (.none)),
 (137,coO "replaced" 337 "replaced" 338 339 47 3 132 (.ref 133) (.none) (.ref 134) (.ref 135) (.ref 136) 344 47 345),
 (138,fnO mainBody[12]? "replaced" "alikeheap.terms" 301 137 [] (.none)),
 (151,coO "is_plain_term" 356 "is_plain_term" 357 358 57 1 146 (.ref 147) (.none) (.ref 148) (.ref 149) (.ref 150) 362 57 363),
 (152,fnO mainBody[15]? "is_plain_term" "alikeheap.papers" 347 151 [] (.none)),
 (156,coO "are_places" 365 "are_places" 366 367 65 1 153 (.ref 154) (.none) (.none) (.none) (.ref 155) 368 65 369),
 (157,fnO mainBody[16]? "are_places" "alikeheap.papers" 347 156 [] (.none)),
 (208,coO "__init__" 427 "Judge.__init__" 428 429 111 3 203 (.ref 204) (.none) (.ref 205) (.ref 206) (.ref 207) 433 111 434),
 (209,fnO (meth 23 0) "Judge.__init__" "alikeheap.papers" 347 208 [] (.none)),
 (215,coO "told_sides" 436 "Judge.told_sides" 437 438 115 3 210 (.ref 211) (.none) (.ref 212) (.ref 213) (.ref 214) 442 115 443),
 (216,fnO (meth 23 1) "Judge.told_sides" "alikeheap.papers" 347 215 [] (.none)),
 (220,coO "rule_sides" 445 "Judge.rule_sides" 446 447 120 4 217 (.ref 218) (.none) (.none) (.none) (.ref 219) 448 120 449),
 (221,fnO (meth 23 2) "Judge.rule_sides" "alikeheap.papers" 347 220 [] (.none)),
 (240,{cls:= .type "dict",data:= .dict #[en P "__module__" 422 (.str "alikeheap.papers" 347),en P "__firstlineno__" 426 (.int 109 425),en P "__init__" 435 (.ref 209),en P "told_sides" 444 (.ref 216),en P "rule_sides" 450 (.ref 221),en P "sides_of" 456 (.ref 226),en P "sides" 462 (.ref 231),en P "count" 470 (.ref 238),en P "__static_attributes__" 473 (.ref 239),en P "__dict__" 475 (.ref 242),en P "__weakref__" 477 (.ref 243),en P "__doc__" 478 (.none)] 4}),
 (241,{cls:= .type "type",data:= .cls {name:="Judge",bases:=[.type "object"],mro:=[.ref 241,.type "object"],ns:=240,qualname:="Judge"},slots:=#[none,none,some (.str "Judge" 415),some (.str "Judge" 423),some (.builtin "object.__new__"),some (.bool true)]}),
 (242,{cls:= .type "getset_descriptor",data:= .fields #[.str "__dict__" 474,.ref 241,.builtin "function.__dict__",.builtin "function.__dict__#set"]}),
 (243,{cls:= .type "getset_descriptor",data:= .fields #[.str "__weakref__" 476,.ref 241,.builtin "ExceptionGroup.__weakref__",.none]}),
 (249,coO "is_step" 481 "is_step" 482 483 156 1 246 (.ref 247) (.none) (.none) (.none) (.ref 248) 484 156 485),
 (250,fnO mainBody[24]? "is_step" "alikeheap.papers" 347 249 [] (.none)),
 (268,coO "__init__" 505 "Steps.__init__" 506 507 170 2 263 (.ref 264) (.none) (.ref 265) (.ref 266) (.ref 267) 510 170 511),
 (269,fnO (meth 26 0) "Steps.__init__" "alikeheap.papers" 347 268 [] (.none)),
 (282,coO "sides" 521 "Steps.sides" 522 523 176 3 277 (.ref 278) (.none) (.ref 279) (.ref 280) (.ref 281) 528 176 529),
 (283,fnO (meth 26 2) "Steps.sides" "alikeheap.papers" 347 282 [] (.none)),
 (289,coO "stepped" 531 "Steps.stepped" 532 533 187 4 284 (.ref 285) (.none) (.ref 286) (.ref 287) (.ref 288) 540 187 541),
 (290,fnO (meth 26 3) "Steps.stepped" "alikeheap.papers" 347 289 [] (.none)),
 (296,coO "walk" 543 "Steps.walk" 544 545 196 3 291 (.ref 292) (.none) (.ref 293) (.ref 294) (.ref 295) 552 196 553),
 (297,fnO (meth 26 4) "Steps.walk" "alikeheap.papers" 347 296 [] (.none)),
 (303,coO "paper_of" 555 "Steps.paper_of" 556 557 202 3 298 (.ref 299) (.none) (.ref 300) (.ref 301) (.ref 302) 565 202 566),
 (304,fnO (meth 26 5) "Steps.paper_of" "alikeheap.papers" 347 303 [] (.none)),
 (306,{cls:= .type "dict",data:= .dict #[en P "__module__" 500 (.str "alikeheap.papers" 347),en P "__firstlineno__" 504 (.int 168 503),en P "__init__" 512 (.ref 269),en P "of_paper" 520 (.ref 276),en P "sides" 530 (.ref 283),en P "stepped" 542 (.ref 290),en P "walk" 554 (.ref 297),en P "paper_of" 567 (.ref 304),en P "__static_attributes__" 569 (.ref 305),en P "__dict__" 571 (.ref 308),en P "__weakref__" 573 (.ref 309),en P "__doc__" 574 (.none)] 4}),
 (307,{cls:= .type "type",data:= .cls {name:="Steps",bases:=[.type "object"],mro:=[.ref 307,.type "object"],ns:=306,qualname:="Steps"},slots:=#[none,none,some (.str "Steps" 493),some (.str "Steps" 501),some (.builtin "object.__new__"),some (.bool true)]}),
 (308,{cls:= .type "getset_descriptor",data:= .fields #[.str "__dict__" 570,.ref 307,.builtin "function.__dict__",.builtin "function.__dict__#set"]}),
 (309,{cls:= .type "getset_descriptor",data:= .fields #[.str "__weakref__" 572,.ref 307,.builtin "ExceptionGroup.__weakref__",.none]}),
 (322,coO "__init__" 591 "Rule.__init__" 592 593 211 5 319 (.ref 320) (.none) (.none) (.none) (.ref 321) 594 211 595),
 (323,fnO (meth 28 0) "Rule.__init__" "alikeheap.rules" 577 322 [] (.none)),
 (332,{cls:= .type "dict",data:= .dict #[en P "__module__" 586 (.str "alikeheap.rules" 577),en P "__firstlineno__" 590 (.int 209 589),en P "__init__" 596 (.ref 323),en P "turned" 603 (.ref 330),en P "__static_attributes__" 608 (.ref 331),en P "__dict__" 610 (.ref 334),en P "__weakref__" 612 (.ref 335),en P "__doc__" 613 (.none)] 4}),
 (333,{cls:= .type "type",data:= .cls {name:="Rule",bases:=[.type "object"],mro:=[.ref 333,.type "object"],ns:=332,qualname:="Rule"},slots:=#[none,none,some (.str "Rule" 579),some (.str "Rule" 587),some (.builtin "object.__new__"),some (.bool true)]}),
 (334,{cls:= .type "getset_descriptor",data:= .fields #[.str "__dict__" 609,.ref 333,.builtin "function.__dict__",.builtin "function.__dict__#set"]}),
 (335,{cls:= .type "getset_descriptor",data:= .fields #[.str "__weakref__" 611,.ref 333,.builtin "ExceptionGroup.__weakref__",.none]}),
 (343,coO "_law_told" 618 "_law_told" 619 620 230 0 338 (.ref 339) (.none) (.ref 340) (.ref 341) (.ref 342) 621 230 622),
 (344,fnO mainBody[30]? "_law_told" "law_pq0028_01" 616 343 [] (.none)),
 (345,{cls:= .type "tuple",data:= .seq #[.str "a" 625]}),
 (346,{cls:= .type "tuple",data:= .seq #[.str "b" 626]}),
 (347,{cls:= .type "tuple",data:= .seq #[.str "g" 624,.ref 345,.ref 346]}),
 (348,{cls:= .type "tuple",data:= .seq #[.str "a" 629]}),
 (349,{cls:= .type "tuple",data:= .seq #[.str "f" 628,.ref 348]}),
 (350,{cls:= .type "tuple",data:= .seq #[.str "f" 627,.ref 349]}),
 (351,{cls:= .type "tuple",data:= .seq #[.str "a" 630]}),
 (352,{cls:= .type "tuple",data:= .seq #[.str "b" 633]}),
 (353,{cls:= .type "tuple",data:= .seq #[.str "f" 632,.ref 352]}),
 (354,{cls:= .type "tuple",data:= .seq #[.str "b" 636]}),
 (355,{cls:= .type "tuple",data:= .seq #[.str "f" 635,.ref 354]}),
 (356,{cls:= .type "tuple",data:= .seq #[.str "f" 634,.ref 355]}),
 (357,{cls:= .type "tuple",data:= .seq #[.str "g" 631,.ref 353,.ref 356]}),
 (358,{cls:= .type "tuple",data:= .seq #[.ref 347,.ref 350,.ref 351,.ref 357]}),
 (364,coO "_law_draw" 638 "_law_draw" 639 640 233 2 359 (.ref 360) (.none) (.ref 361) (.ref 362) (.ref 363) 645 233 646),
 (365,fnO mainBody[32]? "_law_draw" "law_pq0028_01" 616 364 [] (.none)),
 (371,coO "_law_turns" 648 "_law_turns" 649 650 239 1 366 (.ref 367) (.none) (.ref 368) (.ref 369) (.ref 370) 654 239 655),
 (372,fnO mainBody[33]? "_law_turns" "law_pq0028_01" 616 371 [] (.none)),
 (376,coO "_law_steps" 657 "_law_steps" 658 659 250 2 373 (.ref 374) (.none) (.none) (.none) (.ref 375) 660 250 661),
 (377,fnO mainBody[34]? "_law_steps" "law_pq0028_01" 616 376 [] (.none)),
 (383,coO "_law_put" 663 "_law_put" 664 665 255 3 378 (.ref 379) (.none) (.ref 380) (.ref 381) (.ref 382) 670 255 671),
 (384,fnO mainBody[35]? "_law_put" "law_pq0028_01" 616 383 [] (.none)),
 (388,coO "_law_size" 673 "_law_size" 674 675 260 1 385 (.ref 386) (.none) (.none) (.none) (.ref 387) 676 260 677),
 (389,fnO mainBody[36]? "_law_size" "law_pq0028_01" 616 388 [] (.none)),
 (393,coO "_law_drawn" 679 "_law_drawn" 680 681 262 2 390 (.ref 391) (.none) (.none) (.none) (.ref 392) 682 262 683),
 (394,fnO mainBody[37]? "_law_drawn" "law_pq0028_01" 616 393 [] (.none)),
 (400,coO "_law_spoiled" 685 "_law_spoiled" 686 687 266 2 395 (.ref 396) (.none) (.ref 397) (.ref 398) (.ref 399) 698 266 699),
 (401,fnO mainBody[38]? "_law_spoiled" "law_pq0028_01" 616 400 [] (.none)),
 (407,coO "_law_place" 701 "_law_place" 702 703 278 3 402 (.ref 403) (.none) (.ref 404) (.ref 405) (.ref 406) 708 278 709),
 (408,fnO mainBody[39]? "_law_place" "law_pq0028_01" 616 407 [] (.none)),
 (414,coO "law" 711 "law" 712 713 284 1 409 (.ref 410) (.none) (.ref 411) (.ref 412) (.ref 413) 727 284 728),
 (415,fnO mainBody[40]? "law" "law_pq0028_01" 616 414 [] (.none))]
noncomputable def theA:List Addr:=[2,3,25,36,37,46,47,48,59,60,71,72,78,89,90,99,100,108,109,113,114,118,119,123,124,130,131,137,138,151,152,156,157,208,209,215,216,220,221,240,241,242,243,249,250,268,269,282,283,289,290,296,297,303,304,306,307,308,309,322,323,332,333,334,335,343,344,345,346,347,348,349,350,351,352,353,354,355,356,357,358,364,365,371,372,376,377,383,384,388,389,393,394,400,401,407,408,414,415]
end Mine
end
section
namespace Mine
open PySem PySem.W PyProof.Rows
section
variable{tb:String→Option Builtin}{p q:Program}{w:World}{n₀:Nat}{ann:Option Value}
noncomputable def runTree(stp:SharedT→Thread→Option (SharedT×Thread))(ok:Thread→Bool):Nat→SharedT→Thread→Option SharedT
 |0,_,_=>none
 |n+1,s,t=>match through t with
  |true=>some s
  |false=>match ok t with
   |false=>none
   |true=>match stp s t with
    |some (s',t')=>runTree stp ok n s' t'
    |none=>none
theorem runTree_spec:∀{n:Nat} {s s':SharedT} {t:Thread},runTree (stepT (denote tb) p w) (stepOk n₀ ann) n s t=some s'→topRun tb p w n₀ ann n s.abs t=some s'.abs
 |0,_,_,_,h=>by cases h
 |n+1,s,s',t,h=>by
  rw[show runTree (stepT (denote tb) p w) (stepOk n₀ ann) (n+1) s t=cond (through t) (some s) (cond (stepOk n₀ ann t) ((stepT (denote tb) p w s t).elim none fun r=>runTree (stepT (denote tb) p w) (stepOk n₀ ann) n r.1 r.2) none)from by kernel_rfl]at h
  unfold topRun
  cases he:through t with
  |true=>rw[he]at h;cases h;rfl
  |false=>
   rw[he]at h
   cases hk:stepOk n₀ ann t with
   |false=>rw[hk]at h;cases h
   |true=>
    rw[hk]at h
    cases hs:stepT (denote tb) p w s t with
    |none=>rw[hs]at h;cases h
    |some r=>obtain⟨s₂,t₂⟩:=r;rw[hs]at h;rw[stepT_spec hs];exact runTree_spec h
noncomputable def growTree:BT→Nat→List Obj→BT
 |t,_,[]=>t
 |t,n,o::r=>growTree (t.ins n o) (n+1) r
noncomputable def growOk:BT→Nat→List Obj→Bool
 |_,_,[]=>true
 |t,n,o::r=>cond ((t.ins n o).get n).isSome (growOk (t.ins n o) (n+1) r) false
theorem grow_abs(life:Life):∀(l:List Obj) (t:BT) (n:Nat),growOk t n l=true→absHeap (growTree t n l) (n+l.length) life=⟨((absHeap t n life).objs.toList++l).toArray,life⟩
 |[],t,n,_=>by
  show absHeap t n life=⟨((absHeap t n life).objs.toList++[]).toArray,life⟩
  rw[List.append_nil,Array.toArray_toList]
  rfl
 |o::r,t,n,h=>by
  have h:cond ((t.ins n o).get n).isSome (growOk (t.ins n o) (n+1) r) false=true:=h
  cases e:((t.ins n o).get n).isSome with
  |false=>rw[e]at h;cases h
  |true=>
   rw[e]at h
   have :=grow_abs life r (t.ins n o) (n+1) h
   rw[absHeap_ins e]at this
   show absHeap (growTree (t.ins n o) (n+1) r) (n+(r.length+1)) life=_
   rw[show n+(r.length+1)=n+1+r.length by omega,this]
   simp[Heap.push]
end
noncomputable def bootT(w:World)(os:OsState):SharedT:=⟨growTree .nil 0 (boot_heap w.params).objs.toList,(boot_heap w.params).objs.toList.length,(boot_heap w.params).life,#[],boot_drawn,boot_toks,os⟩
theorem boot_abs(w:World)(os:OsState):(bootT w os).abs=⟨boot_heap w.params,#[],boot_drawn,boot_toks,os⟩:=by
 have h:growOk .nil 0 (boot_heap w.params).objs.toList=true:=by kernel_rfl
 have :=grow_abs (boot_heap w.params).life (boot_heap w.params).objs.toList .nil 0 h
 rw[Nat.zero_add]at this
 unfold bootT SharedT.abs
 dsimp only
 rw[this]
 rfl
noncomputable abbrev prg0:Program:=PySem.Challenge.rw_pq0028_01.row.toRowW.1
theorem left_of{p q:Program}{loose:List Str}{Xt:Shared→Bool}{α:Type}{Yf:Shared→α}{Ya:World→α}{N:Nat}{m₀:Nat}{ann:Option Value}
 (o:opening p=plainProg p.main.scope.names) (hN:Nat.ble 600 N=true) (f:∀s,fenceModules? p s=some s)
 (size:∀w:World,((boot_heap w.params).isNs mainGlobals&&true,(boot_heap w.params).objs.size,(boot_heap w.params).nsMap mainGlobals "__annotations__")=(true,m₀,ann))
 (run:∀(w:World) (os:OsState),(runTree (stepT (denote treeTable) p w) (stepOk m₀ ann) N (bootT w os) (topStub p)).map (fun s=>(staticsOk (importedModules p.main.body) (boot_heap w.params) s.abs.heap&&namesBound p s.abs.heap&&gensDone s.abs&&laidKept (boot_heap w.params) s.abs.heap,
   openSeen q loose (importedModules p.main.body) Xt true s.abs,Yf s.abs))=some (true,openGood q loose,Ya w)):LeftO p q loose Xt Yf Ya N true:=fun w=>by
 obtain⟨⟨h,gs,d,k,os⟩,e,e'⟩:=Option.map_eq_some_iff.mp (boot_open o hN f w)
 obtain⟨rfl,rfl,rfl,rfl⟩:h=boot_heap w.params∧gs=#[]∧d=boot_drawn∧k=boot_toks:=by simpa using e'
 obtain⟨z1,z2,z3⟩:_∧_∧_:=by simpa only [Prod.mk.injEq]using size w
 obtain⟨s₁,r,l⟩:=Option.map_eq_some_iff.mp (run w os)
 obtain⟨l1,l2,l3⟩:_∧_∧_:=by simpa only [Prod.mk.injEq]using l
 have r:=runTree_spec r
 rw[boot_abs]at r
 have t:topFrom treeTable p w N ⟨boot_heap w.params,#[],boot_drawn,boot_toks,os⟩=some s₁.abs:=by
  unfold topFrom
  dsimp only
  rw[show((boot_heap w.params).isNs mainGlobals&&(#[]:Array GenState).size==0)=true from z1,z2,z3,r]
  show(match staticsOk (importedModules p.main.body) (boot_heap w.params) s₁.abs.heap&&namesBound p s₁.abs.heap&&gensDone s₁.abs&&laidKept (boot_heap w.params) s₁.abs.heap with|true=>_|false=>_)=_
  rw[l1]
 unfold openEnds
 rw[e]
 show(topFrom treeTable p w N _).map _=_
 rw[t]
 exact congrArg some (Prod.ext l2 l3)
noncomputable def theView:Program:=view prg0 [0,2,3,4,5,7,8,9,10,11,12,14,15,16,17,18,19,20,21,22,23,24,25,26,28,30,31,32,33,34,35,36,37,38,39,40]
noncomputable abbrev hk:Hook:=kHook theK theA (fun _=>by kernel_rfl)
noncomputable abbrev XtM:Shared→Bool:=fun s=>xlAt theView [] s&&recOk (RowW.records PySem.Challenge.rw_pq0028_01.row.toRowW) s
theorem o1:opening prg0=plainProg prg0.main.scope.names:=by kernel_rfl
theorem o2:∀s,fenceModules? prg0 s=some s:=fun s=>by kernel_rfl
theorem o3:∀w:World,((boot_heap w.params).isNs mainGlobals&&true,(boot_heap w.params).objs.size,(boot_heap w.params).nsMap mainGlobals "__annotations__")=(true,11,some (.ref 6)):=fun w=>by kernel_rfl
noncomputable abbrev stp(p:Program)(w:World):=Fast.tw10156331382660048174 (Fast.tw11892475500146522536 Fast.tw14364793385576792824) p w
theorem stp_eq(p:Program)(w:World):stepT (denote treeTable) p w=stp p w:=by
 unfold stp
 rw[←Fast.te10156331382660048174,←Fast.te11892475500146522536,←Fast.te14364793385576792824]
theorem left:LeftO PySem.Challenge.rw_pq0028_01.row.prog theView [] XtM (Hook.obs hk) (Hook.val hk) 5988 true:=
 left_of (p:=PySem.Challenge.rw_pq0028_01.row.prog) o1 (by decide) o2 o3 (fun w os=>by rw[stp_eq,Fast.te4187177175401517315];kernel_rfl)
end Mine
end
section
namespace Mine
open PySem PySem.W PyProof.Rows
set_option tactic.hygienic true in
theorem lookN_mem{α:Type}{a:Nat}{v:α}:∀{l:List (Nat×α)},lookN a l=some v→(a,v)∈l
 |[],h=>nomatch h
 |q::r,h=>by
  have h:cond (Nat.beq q.1 a) (some q.2) (lookN a r)=some v:=h
  cases e:Nat.beq q.1 a<;>rw[e]at h
  ·exact .tail _ (lookN_mem h)
  ·rw[←Nat.eq_of_beq_eq_true e,←Option.some.inj h]
   exact .head _
set_option tactic.hygienic true in
theorem cls_cases{C:Nat}(h:isClsA C=true):C=241∨C=307∨C=333:=by
 refine ea10 (Option.isSome_iff_exists.mp h) fun v hv=>?_
 have hm:C∈methTab.map (·.1):=List.mem_map.mpr ⟨_,lookN_mem hv,rfl⟩
 have hm:C∈[241,307,333]:=hm
 rcases List.mem_cons.mp hm with h|hm
 ·exact .inl h
 ·rcases List.mem_cons.mp hm with h|hm
  ·exact .inr (.inl h)
  ·exact .inr (.inr (List.mem_singleton.mp hm))
variable(p:Params)
theorem all_cls{Q:Nat→Prop}(h1:Q 241)(h2:Q 307)(h3:Q 333):∀C,isClsA C=true→Q C:=fun C h=>by
 rcases cls_cases h with rfl|rfl|rfl
 ·exact h1
 ·exact h2
 ·exact h3
theorem c_ga:∀C,isClsA C=true→findIn (theK p) (.ref C) "__getattribute__"=some (some (.builtin "object.__getattribute__")):=all_cls (by rfl) (by rfl) (by rfl)
theorem c_gt:∀C,isClsA C=true→findIn (theK p) (.ref C) "__getattr__"=some none:=all_cls (by rfl) (by rfl) (by rfl)
theorem c_dict:∀C,isClsA C=true→hasDictIn (theK p) C=true:=all_cls (by rfl) (by rfl) (by rfl)
theorem c_sa:∀C,isClsA C=true→findIn (theK p) (.ref C) "__setattr__"=some (some (.builtin "object.__setattr__")):=all_cls (by rfl) (by rfl) (by rfl)
theorem c_over:∀C,isClsA C=true→plainOver (theK p) C=true:=all_cls (by rfl) (by rfl) (by rfl)
theorem c_makes:∀C,isClsA C=true→makesIn (theK p) C=true:=all_cls (by rfl) (by rfl) (by rfl)
theorem c_keep:∀C,isClsA C=true→keepIn (theK p) (.ref C)=true:=all_cls (by rfl) (by rfl) (by rfl)
set_option tactic.hygienic true in
theorem c_own:∀C x,attrOf C x=true→isClsA C=true∧findIn (theK p) (.ref C) x=some none:=fun C x h=>by
 refine ea10 (Option.isSome_iff_exists.mp h) fun v h=>?_
 ·refine ea11 (Option.bind_eq_some_iff.mp h) fun l hl hv=>?_
  have h1:=lookN_mem hl
  have h2:=look_mem hv
  simp only [attrTab,List.mem_cons,List.not_mem_nil,or_false,Prod.mk.injEq]at h1
  rcases h1 with ⟨rfl,rfl⟩|⟨rfl,rfl⟩|⟨rfl,rfl⟩
  all_goals
   simp only [List.mem_cons,List.not_mem_nil,or_false,Prod.mk.injEq]at h2
   rcases h2 with ⟨rfl,_⟩|⟨rfl,_⟩|⟨rfl,_⟩|⟨rfl,_⟩
   all_goals exact⟨by rfl,by rfl⟩
set_option tactic.hygienic true in
theorem c_meth:∀C x f,methTo C x=some f→isClsA C=true∧copiedNames.contains x=false∧findIn (theK p) (.ref C) x=some (some (.ref f)):=fun C x f h=>by
 ·refine ea11 (Option.bind_eq_some_iff.mp h) fun l hl h=>?_
  have h1:=lookN_mem hl
  have h2:=look_mem h
  simp only [methTab,List.mem_cons,List.not_mem_nil,or_false,Prod.mk.injEq]at h1
  rcases h1 with ⟨rfl,rfl⟩|⟨rfl,rfl⟩|⟨rfl,rfl⟩
  all_goals
   simp only [List.mem_cons,List.not_mem_nil,or_false,Prod.mk.injEq]at h2
  ·rcases h2 with ⟨rfl,rfl⟩|⟨rfl,rfl⟩|⟨rfl,rfl⟩<;>exact⟨by rfl,by decide+kernel,by rfl⟩
  ·rcases h2 with ⟨rfl,rfl⟩|⟨rfl,rfl⟩|⟨rfl,rfl⟩|⟨rfl,rfl⟩|⟨rfl,rfl⟩<;>exact⟨by rfl,by decide+kernel,by rfl⟩
  ·refine ea01 h2 fun z1=>?_;clear h2;subst z1;intro z2;subst z2
   exact⟨by rfl,by decide+kernel,by rfl⟩
theorem c_init:∀C f,initOf C=some f→findIn (theK p) (.ref C) "__init__"=some (some (.ref f)):=fun C f h=>(c_meth p C "__init__" f h).2.2
noncomputable def fnAddrs:List Nat:=[109,114,119,124,131,138,152,157,209,216,221,250,269,283,290,297,304,323,344,365,372,377,384,389,394,401,408]
set_option tactic.hygienic true in
theorem fn_addr{a:Nat}{f:Fn}(h:fnAt a=some f):a∈fnAddrs:=by
 ·refine ea11 (Option.bind_eq_some_iff.mp h) fun o ho h=>?_
  have h1:=lookN_mem ho
  have :a∈fnTab.map (·.1):=List.mem_map.mpr ⟨_,h1,rfl⟩
  exact this
noncomputable def fnSees(K:Frag)(a:Nat):Option Value×Bool×Option (Option Value)×Option Bool:=(typeIn K (.ref a),fnIn K a,specialIn K (.ref a) "__get__",takesIn K (.ref a))
theorem fn_facts:fnAddrs.map (fnSees (theK p))=fnAddrs.map fun _=>(some (.type "function"),true,some (some (.builtin "function.__get__")),some false):=by rfl
theorem fn_fact{a:Nat}{f:Fn}(h:fnAt a=some f):fnSees (theK p) a=(some (.type "function"),true,some (some (.builtin "function.__get__")),some false):=List.map_inj_left.mp (fn_facts p) a (fn_addr h)
set_option tactic.hygienic true in
theorem cls_ok(sc:Addr→Option (List Int)):ClsOK (theK p) (prg sc) where
 ga:=c_ga p
 gt:=c_gt p
 dict:=c_dict p
 sa:=c_sa p
 over:=c_over p
 makes:=c_makes p
 keep:=c_keep p
 own:=c_own p
 meth:=c_meth p
 init:=c_init p
 fn:=fun a f h=>⟨congrArg (fun q=>q.1) (fn_fact p h),congrArg (fun q=>q.2.1) (fn_fact p h)⟩
 fget:=fun a f h=>⟨congrArg (fun q=>q.2.2.1) (fn_fact p h),congrArg (fun q=>q.2.2.2) (fn_fact p h)⟩
end Mine
end
section
namespace Mine
open PySem PySem.W PyProof.Rows PySem.Calls
noncomputable def funcIn(K:Frag)(a:Addr):Option FuncData:=match K.lookup a with
 |some ⟨_,_,.func fd,_⟩=>some fd
 |_=>none
set_option tactic.hygienic true in
theorem funcIn_at{K:Frag}{h:Heap}(X:K.In h){a:Addr}{fd:FuncData}(e:funcIn K a=some fd):∃o,h.get? a=some o∧o.data= .func fd:=by
 cases ho:K.lookup a with
 |none=>
  delta funcIn at e
  rw[ho]at e;exact noneNe e
 |some o=>
  delta funcIn at e
  rw[ho]at e
  obtain⟨oc,od,d,sl⟩:=o
  cases d with
  |func c=>exact Option.some.inj e▸⟨_,X _ _ ho,rfl⟩
  |_=>exact noneNe e
structure FnAt(K:Frag)(a:Addr)(f:Fn)(fd:FuncData):Prop where
 at_:funcIn K a=some fd
 body:fd.body= .stmts f.body
 scope:fd.scope=f.scope
 clo:fd.closure=[]
 code:codeIn K fd.code fd.qualname=true
 globals:fd.globals=mainGlobals
 builtins:fd.builtins=builtinsNs
 co:fd.scope.isCoroutine=false
 gen:fd.scope.isGenerator=false
 kind:fd.scope.kind= .function
 bind:∀vals:List Value,vals.length=f.params.length→bindArgs fd ⟨vals,[]⟩=pure (f.params.zip vals)
structure FnGood(K:Frag)(a:Addr)(f:Fn):Prop where
 fn:∃fd,FnAt K a f fd
 nodup:f.params.Nodup
 names:(f.scope.names.map (·.1)).Nodup
 loc:∀x∈f.params,localIn f.scope x=true
theorem len_0{α:Type}{l:List α}(h:l.length=0):l=[]:=List.eq_nil_of_length_eq_zero h
theorem len_s{α:Type}{l:List α}{n:Nat}(h:l.length=n+1):∃a r,l=a::r∧r.length=n:=by
 cases l with
 |nil=>cases h
 |cons a r=>exact⟨a,r,rfl,Nat.succ.inj h⟩
theorem all_1{α:Type}{p:List α→Prop}(h:∀a,p [a])(l:List α)(e:l.length=1):p l:=let ⟨a,r,e1,e2⟩:=len_s e;e1▸len_0 e2▸h a
theorem all_2{α:Type}{p:List α→Prop}(h:∀a b,p [a,b])(l:List α)(e:l.length=2):p l:=let ⟨a,r,e1,e2⟩:=len_s e;e1▸all_1 (p:=fun r=>p (a::r)) (h a) r e2
theorem all_3{α:Type}{p:List α→Prop}(h:∀a b c,p [a,b,c])(l:List α)(e:l.length=3):p l:=let ⟨a,r,e1,e2⟩:=len_s e;e1▸all_2 (p:=fun r=>p (a::r)) (h a) r e2
theorem all_4{α:Type}{p:List α→Prop}(h:∀a b c d,p [a,b,c,d])(l:List α)(e:l.length=4):p l:=let ⟨a,r,e1,e2⟩:=len_s e;e1▸all_3 (p:=fun r=>p (a::r)) (h a) r e2
theorem all_5{α:Type}{p:List α→Prop}(h:∀a b c d e,p [a,b,c,d,e])(l:List α)(e:l.length=5):p l:=let ⟨a,r,e1,e2⟩:=len_s e;e1▸all_4 (p:=fun r=>p (a::r)) (h a) r e2
theorem all_0{α:Type}{p:List α→Prop}(h:p [])(l:List α)(e:l.length=0):p l:=len_0 e▸h
variable(p:Params)
theorem fnAt_109:∀f,fnAt 109=some f→FnGood (theK p) 109 f:=fun f h=>by
 cases h
 refine⟨⟨_,rfl,rfl,rfl,rfl,rfl,rfl,rfl,rfl,rfl,rfl,all_1 (fun _=>rfl)⟩,by decide+kernel,by decide+kernel,by decide+kernel⟩
theorem fnAt_114:∀f,fnAt 114=some f→FnGood (theK p) 114 f:=fun f h=>by
 cases h
 refine⟨⟨_,rfl,rfl,rfl,rfl,rfl,rfl,rfl,rfl,rfl,rfl,all_1 (fun _=>rfl)⟩,by decide+kernel,by decide+kernel,by decide+kernel⟩
theorem fnAt_119:∀f,fnAt 119=some f→FnGood (theK p) 119 f:=fun f h=>by
 cases h
 refine⟨⟨_,rfl,rfl,rfl,rfl,rfl,rfl,rfl,rfl,rfl,rfl,all_2 (fun _ _=>rfl)⟩,by decide+kernel,by decide+kernel,by decide+kernel⟩
theorem fnAt_124:∀f,fnAt 124=some f→FnGood (theK p) 124 f:=fun f h=>by
 cases h
 refine⟨⟨_,rfl,rfl,rfl,rfl,rfl,rfl,rfl,rfl,rfl,rfl,all_1 (fun _=>rfl)⟩,by decide+kernel,by decide+kernel,by decide+kernel⟩
theorem fnAt_131:∀f,fnAt 131=some f→FnGood (theK p) 131 f:=fun f h=>by
 cases h
 refine⟨⟨_,rfl,rfl,rfl,rfl,rfl,rfl,rfl,rfl,rfl,rfl,all_2 (fun _ _=>rfl)⟩,by decide+kernel,by decide+kernel,by decide+kernel⟩
theorem fnAt_138:∀f,fnAt 138=some f→FnGood (theK p) 138 f:=fun f h=>by
 cases h
 refine⟨⟨_,rfl,rfl,rfl,rfl,rfl,rfl,rfl,rfl,rfl,rfl,all_3 (fun _ _ _=>rfl)⟩,by decide+kernel,by decide+kernel,by decide+kernel⟩
theorem fnAt_152:∀f,fnAt 152=some f→FnGood (theK p) 152 f:=fun f h=>by
 cases h
 refine⟨⟨_,rfl,rfl,rfl,rfl,rfl,rfl,rfl,rfl,rfl,rfl,all_1 (fun _=>rfl)⟩,by decide+kernel,by decide+kernel,by decide+kernel⟩
theorem fnAt_157:∀f,fnAt 157=some f→FnGood (theK p) 157 f:=fun f h=>by
 cases h
 refine⟨⟨_,rfl,rfl,rfl,rfl,rfl,rfl,rfl,rfl,rfl,rfl,all_1 (fun _=>rfl)⟩,by decide+kernel,by decide+kernel,by decide+kernel⟩
theorem fnAt_209:∀f,fnAt 209=some f→FnGood (theK p) 209 f:=fun f h=>by
 cases h
 refine⟨⟨_,rfl,rfl,rfl,rfl,rfl,rfl,rfl,rfl,rfl,rfl,all_3 (fun _ _ _=>rfl)⟩,by decide+kernel,by decide+kernel,by decide+kernel⟩
theorem fnAt_216:∀f,fnAt 216=some f→FnGood (theK p) 216 f:=fun f h=>by
 cases h
 refine⟨⟨_,rfl,rfl,rfl,rfl,rfl,rfl,rfl,rfl,rfl,rfl,all_3 (fun _ _ _=>rfl)⟩,by decide+kernel,by decide+kernel,by decide+kernel⟩
theorem fnAt_221:∀f,fnAt 221=some f→FnGood (theK p) 221 f:=fun f h=>by
 cases h
 refine⟨⟨_,rfl,rfl,rfl,rfl,rfl,rfl,rfl,rfl,rfl,rfl,all_4 (fun _ _ _ _=>rfl)⟩,by decide+kernel,by decide+kernel,by decide+kernel⟩
theorem fnAt_250:∀f,fnAt 250=some f→FnGood (theK p) 250 f:=fun f h=>by
 cases h
 refine⟨⟨_,rfl,rfl,rfl,rfl,rfl,rfl,rfl,rfl,rfl,rfl,all_1 (fun _=>rfl)⟩,by decide+kernel,by decide+kernel,by decide+kernel⟩
theorem fnAt_269:∀f,fnAt 269=some f→FnGood (theK p) 269 f:=fun f h=>by
 cases h
 refine⟨⟨_,rfl,rfl,rfl,rfl,rfl,rfl,rfl,rfl,rfl,rfl,all_2 (fun _ _=>rfl)⟩,by decide+kernel,by decide+kernel,by decide+kernel⟩
theorem fnAt_283:∀f,fnAt 283=some f→FnGood (theK p) 283 f:=fun f h=>by
 cases h
 refine⟨⟨_,rfl,rfl,rfl,rfl,rfl,rfl,rfl,rfl,rfl,rfl,all_3 (fun _ _ _=>rfl)⟩,by decide+kernel,by decide+kernel,by decide+kernel⟩
theorem fnAt_290:∀f,fnAt 290=some f→FnGood (theK p) 290 f:=fun f h=>by
 cases h
 refine⟨⟨_,rfl,rfl,rfl,rfl,rfl,rfl,rfl,rfl,rfl,rfl,all_4 (fun _ _ _ _=>rfl)⟩,by decide+kernel,by decide+kernel,by decide+kernel⟩
theorem fnAt_297:∀f,fnAt 297=some f→FnGood (theK p) 297 f:=fun f h=>by
 cases h
 refine⟨⟨_,rfl,rfl,rfl,rfl,rfl,rfl,rfl,rfl,rfl,rfl,all_3 (fun _ _ _=>rfl)⟩,by decide+kernel,by decide+kernel,by decide+kernel⟩
theorem fnAt_304:∀f,fnAt 304=some f→FnGood (theK p) 304 f:=fun f h=>by
 cases h
 refine⟨⟨_,rfl,rfl,rfl,rfl,rfl,rfl,rfl,rfl,rfl,rfl,all_3 (fun _ _ _=>rfl)⟩,by decide+kernel,by decide+kernel,by decide+kernel⟩
theorem fnAt_323:∀f,fnAt 323=some f→FnGood (theK p) 323 f:=fun f h=>by
 cases h
 refine⟨⟨_,rfl,rfl,rfl,rfl,rfl,rfl,rfl,rfl,rfl,rfl,all_5 (fun _ _ _ _ _=>rfl)⟩,by decide+kernel,by decide+kernel,by decide+kernel⟩
theorem fnAt_344:∀f,fnAt 344=some f→FnGood (theK p) 344 f:=fun f h=>by
 cases h
 refine⟨⟨_,rfl,rfl,rfl,rfl,rfl,rfl,rfl,rfl,rfl,rfl,all_0 (rfl)⟩,by decide+kernel,by decide+kernel,by decide+kernel⟩
theorem fnAt_365:∀f,fnAt 365=some f→FnGood (theK p) 365 f:=fun f h=>by
 cases h
 refine⟨⟨_,rfl,rfl,rfl,rfl,rfl,rfl,rfl,rfl,rfl,rfl,all_2 (fun _ _=>rfl)⟩,by decide+kernel,by decide+kernel,by decide+kernel⟩
theorem fnAt_372:∀f,fnAt 372=some f→FnGood (theK p) 372 f:=fun f h=>by
 cases h
 refine⟨⟨_,rfl,rfl,rfl,rfl,rfl,rfl,rfl,rfl,rfl,rfl,all_1 (fun _=>rfl)⟩,by decide+kernel,by decide+kernel,by decide+kernel⟩
theorem fnAt_377:∀f,fnAt 377=some f→FnGood (theK p) 377 f:=fun f h=>by
 cases h
 refine⟨⟨_,rfl,rfl,rfl,rfl,rfl,rfl,rfl,rfl,rfl,rfl,all_2 (fun _ _=>rfl)⟩,by decide+kernel,by decide+kernel,by decide+kernel⟩
theorem fnAt_384:∀f,fnAt 384=some f→FnGood (theK p) 384 f:=fun f h=>by
 cases h
 refine⟨⟨_,rfl,rfl,rfl,rfl,rfl,rfl,rfl,rfl,rfl,rfl,all_3 (fun _ _ _=>rfl)⟩,by decide+kernel,by decide+kernel,by decide+kernel⟩
theorem fnAt_389:∀f,fnAt 389=some f→FnGood (theK p) 389 f:=fun f h=>by
 cases h
 refine⟨⟨_,rfl,rfl,rfl,rfl,rfl,rfl,rfl,rfl,rfl,rfl,all_1 (fun _=>rfl)⟩,by decide+kernel,by decide+kernel,by decide+kernel⟩
theorem fnAt_394:∀f,fnAt 394=some f→FnGood (theK p) 394 f:=fun f h=>by
 cases h
 refine⟨⟨_,rfl,rfl,rfl,rfl,rfl,rfl,rfl,rfl,rfl,rfl,all_2 (fun _ _=>rfl)⟩,by decide+kernel,by decide+kernel,by decide+kernel⟩
theorem fnAt_401:∀f,fnAt 401=some f→FnGood (theK p) 401 f:=fun f h=>by
 cases h
 refine⟨⟨_,rfl,rfl,rfl,rfl,rfl,rfl,rfl,rfl,rfl,rfl,all_2 (fun _ _=>rfl)⟩,by decide+kernel,by decide+kernel,by decide+kernel⟩
theorem fnAt_408:∀f,fnAt 408=some f→FnGood (theK p) 408 f:=fun f h=>by
 cases h
 refine⟨⟨_,rfl,rfl,rfl,rfl,rfl,rfl,rfl,rfl,rfl,rfl,all_3 (fun _ _ _=>rfl)⟩,by decide+kernel,by decide+kernel,by decide+kernel⟩
noncomputable def AllN(P:Nat→Prop):List Nat→Prop
 |[]=>True
 |a::r=>P a∧AllN P r
theorem allN_get{P:Nat→Prop}{a:Nat}{l:List Nat}(h:AllN P l)(m:a∈l):P a:=by
 induction m with
 |head=>exact h.1
 |tail _ _ ih=>exact ih h.2
theorem fn_good{a:Nat}{f:Fn}(h:fnAt a=some f):FnGood (theK p) a f:=by
 exact allN_get (P:=fun a=>∀f,fnAt a=some f→FnGood (theK p) a f) (l:=fnAddrs) ⟨fnAt_109 p,fnAt_114 p,fnAt_119 p,fnAt_124 p,fnAt_131 p,fnAt_138 p,fnAt_152 p,fnAt_157 p,fnAt_209 p,fnAt_216 p,fnAt_221 p,fnAt_250 p,fnAt_269 p,fnAt_283 p,fnAt_290 p,fnAt_297 p,fnAt_304 p,fnAt_323 p,fnAt_344 p,fnAt_365 p,fnAt_372 p,fnAt_377 p,fnAt_384 p,fnAt_389 p,fnAt_394 p,fnAt_401 p,fnAt_408 p,trivial⟩ (fn_addr h) f h
theorem fn_ok{h:Heap}(X:(theK p).In h)(hl:h.NoLimit)(sc:Addr→Option (List Int)):FnOK h (prg sc) mainGlobals builtinsNs where
 lim:=hl
 fn:=fun a f hf=>by
  obtain⟨⟨fd,F⟩,_⟩:=fn_good p hf
  refine ea11 (funcIn_at X F.at_) fun o ho hd=>?_
  exact⟨o,fd,ho,hd,F.body,F.scope,F.clo,codeRec_of X F.code,F.globals,F.builtins,F.co,F.gen,F.kind,F.bind⟩
 par:=fun a f hf=>by
  have F:=fn_good p hf
  exact⟨F.nodup,F.names,F.loc⟩
end Mine
end
section
namespace Mine
open PySem PySem.W PyProof.Rows PySem.Calls
noncomputable abbrev prgP:Program:=PySem.Challenge.rw_pq0028_01.row.prog
noncomputable def fdAt(K:Frag)(a:Addr)(h:(funcIn K a).isSome=true):FuncData:=(funcIn K a).get h
theorem no_cell{l:List (Str×NameKind)}(h:l.all (fun x=>x.2 != .cell)=true):∀x∈l,x.2≠ .cell:=fun x hx=>by
 have :=List.all_eq_true.mp h x hx
 simpa using this
theorem all_loc{ps:List Str}{l:List (Str×NameKind)}(h:ps.all (fun y=>l.lookup y==some .local)=true):∀y∈ps,l.lookup y=some .local:=fun y hy=>by
 have :=List.all_eq_true.mp h y hy
 simpa using this
variable(p:Params)
noncomputable def fd37:FuncData:=fdAt (theK p) 37 rfl
noncomputable def fd90:FuncData:=fdAt (theK p) 90 rfl
theorem len_two{α:Type}{l:List α}(h:l.length=2):∃a b,l=[a,b]:=all_2 (p:=fun l=>∃a b,l=[a,b]) (fun a b=>⟨a,b,rfl⟩) l h
theorem len_three{α:Type}{l:List α}(h:l.length=3):∃a b c,l=[a,b,c]:=all_3 (p:=fun l=>∃a b c,l=[a,b,c]) (fun a b c=>⟨a,b,c,rfl⟩) l h
theorem xfn37:XFn prgP (theK p) mainGlobals builtinsNs 37 47 (fd37 p) [selfS,whatS] whatS:=by
 refine{fn:=⟨_,_,_,rfl⟩,body:=⟨_,_,_,_,_,_,_,_,_,_,?_,rfl⟩,clo:=⟨_,_,_,_,rfl,rfl⟩,code:=⟨_,_,_,_,_,_,_,rfl,rfl,rfl,?_⟩,codeIn:=by rfl,first:=⟨_,rfl,rfl⟩,binds:=?_,globals:=rfl,builtins:=rfl,kind:=rfl,co:=rfl,gen:=rfl,nocell:=no_cell rfl,super:=by rfl,cls:=by rfl,loc:=all_loc rfl,self:=by decide+kernel,what:=by decide+kernel,mine:=by decide+kernel,clsD:=⟨_,rfl⟩,name:=by decide+kernel}
 ·rfl
 ·rfl
 ·intro vals hv
  refine ea20 (len_two hv) fun a b z=>?_;subst z;rfl
theorem xfn90:XFn prgP (theK p) mainGlobals builtinsNs 90 100 (fd90 p) [selfS,whatS,placeS] placeS:=by
 refine{fn:=⟨_,_,_,rfl⟩,body:=⟨_,_,_,_,_,_,_,_,_,_,?_,rfl⟩,clo:=⟨_,_,_,_,rfl,rfl⟩,code:=⟨_,_,_,_,_,_,_,rfl,rfl,rfl,?_⟩,codeIn:=by rfl,first:=⟨_,rfl,rfl⟩,binds:=?_,globals:=rfl,builtins:=rfl,kind:=rfl,co:=rfl,gen:=rfl,nocell:=no_cell rfl,super:=by rfl,cls:=by rfl,loc:=all_loc rfl,self:=by decide+kernel,what:=by decide+kernel,mine:=by decide+kernel,clsD:=⟨_,rfl⟩,name:=by decide+kernel}
 ·rfl
 ·rfl
 ·intro vals hv
  refine ea30 (len_three hv) fun a b c z=>?_;subst z;rfl
end Mine
end
section
namespace Mine
open PySem PySem.W PyProof.Rows PySem.Calls
variable(p:Params)
theorem xcls60:XCls (theK p) 60:=⟨by rfl,by rfl,by rfl,by rfl,by rfl,by rfl⟩
theorem xcls100:XCls (theK p) 100:=⟨by rfl,by rfl,by rfl,by rfl,by rfl,by rfl⟩
theorem xprog{h:Heap}{loose:List Str}{mean:ExcName→Option Value}{mg mb:Str→Option Value}(X:(theK p).In h)(T:Top theView loose mean mg mb h)(sc:Addr→Option (List Int)):
 XProg prgP (theK p) h (prg sc) mainGlobals builtinsNs 37 47 90 (fd37 p) (fd90 p) where
 bs:=⟨X,T.nolimit,⟨mg,mb,T.g,mg_none_of X T.g (by rfl),T.b,(T.builtins _ (by decide+kernel)).trans (by first |boot_by_name|rfl|kernel_rfl)⟩,by rfl,by rfl⟩
 hf:=xfn37 p
 hf2:=xfn90 p
 fnf:=by rfl
 tyf:=by rfl
 tyf2:=by rfl
 ypf:=xcls100 p
 ytf:=xcls60 p
 w1:=by rfl
 w2:=by rfl
 pl:=by rfl
 sub1:=by rfl
 sub2:=by rfl
 sub3:=by rfl
 up1:=by rfl
 up2:=by rfl
 up3:=by rfl
 ini1:=by rfl
 ini2:=by rfl
 keep1:=by rfl
 keep2:=by rfl
 typ1:=by rfl
 typ2:=by rfl
end Mine
end
section
namespace Mine
open PySem PySem.W PyProof.Rows PySem.Calls
variable(p:Params)
theorem terms_vr{h:Heap}(X:(theK p).In h):VR h [] (.ref 358) lawTerms:=by
 unfold lawTerms sA sB sF sG
 repeat(first
  |exact VRs.nil
  |exact VR.str _ _
  |refine VRs.cons ?_ ?_
  |refine VR.tup ⟨_,X _ _ rfl⟩ (Nat.le_of_ble_eq_true rfl) ?_)
end Mine
end
section
namespace Mine
open PySem PySem.W PyProof.Rows PySem.Calls
noncomputable def scOf(a:Addr)(cells:List Int)(b:Addr):Option (List Int):=match Nat.beq b a with
 |true=>some cells
 |false=>none
set_option tactic.hygienic true in
theorem scOf_inv{a b:Addr}{cells l:List Int}(h:scOf a cells b=some l):b=a∧cells=l:=by
 unfold scOf at h
 split at h
 ·rename_i e
  exact⟨Nat.eq_of_beq_eq_true e,by simpa using h⟩
 ·cases h
noncomputable def GlobGood(h:Heap)(mg mb:Str→Option Value)(q:Str×AV):Prop:=∃u,(mg q.1=some u∨(mg q.1=none∧mb q.1=some u))∧VR h [] u q.2
section
variable{K:Frag}{h:Heap}{p:Program}{loose:List Str}{mean:ExcName→Option Value}{mg mb:Str→Option Value}
theorem gg_bi{x:Str}{u:Value}(X:K.In h)(T:Top p loose mean mg mb h)(e:nsIn K mainGlobals x=some none)(hx:(x==("__name__":Str))=false)(hb:bootBuiltins x=some u):GlobGood h mg mb (x,.fix u):=
 ⟨u,.inr ⟨mg_none_of X T.g e,(T.builtins x (by simpa using hx)).trans hb⟩,.fix u⟩
theorem gg_mg{x:Str}{u:Value}{v:AV}(X:K.In h)(T:Top p loose mean mg mb h)(e:nsIn K mainGlobals x=some (some u))(hv:VR h [] u v):GlobGood h mg mb (x,v):=
 ⟨u,.inl (mg_of X T.g e),hv⟩
end
variable(p:Params)
theorem glob_good{h:Heap}{loose:List Str}{mean:ExcName→Option Value}{mg mb:Str→Option Value}(X:(theK p).In h)(T:Top theView loose mean mg mb h):∀q∈globTab,GlobGood h mg mb q:=by
 unfold globTab nv fx
 intro q hq
 simp only [List.mem_cons,List.not_mem_nil,or_false]at hq
 rcases hq with rfl|rfl|rfl|rfl|rfl|rfl|rfl|rfl|rfl|rfl|rfl|rfl|rfl|rfl|rfl|rfl|rfl|rfl|rfl|rfl|rfl|rfl|rfl|rfl|rfl|rfl|rfl|rfl|rfl|rfl|rfl|rfl|rfl|rfl|rfl|rfl|rfl|rfl
 iterate 14 exact gg_bi X T (by rfl) (by decide+kernel) (by first |boot_by_name|rfl|kernel_rfl)
 iterate 23 exact gg_mg X T (by rfl) (.fix _)
 exact gg_mg X T (by rfl) (terms_vr p X)
theorem heap0{h:Heap}{loose:List Str}{mean:ExcName→Option Value}{mg mb:Str→Option Value}(X:(theK p).In h)(T:Top theView loose mean mg mb h){a:Addr}{cells:List Int}{vs:List Value}(hl:h.IsList a vs.toArray)(hi:IntsAre vs cells)(hz:vs.length≤63):
 Heap0 (prg (scOf a cells)) h mainGlobals builtinsNs where
 sys:=let ⟨_,⟨o,_,_,ho,_⟩,_⟩:=(T.seer (by first |rfl|decide+kernel)).mods;⟨o,ho⟩
 glob:=⟨mg,mb,T.g,T.b,fun x v hx=>glob_good p X T _ (look_mem hx)⟩
 script:=fun b l hb=>by
  refine ea01 (scOf_inv hb) fun z1=>?_;subst z1;intro z2;subst z2
  exact⟨vs,hl,hi,hz⟩
theorem env0{w:World}{h:Heap}{loose:List Str}{mean:ExcName→Option Value}{mg mb:Str→Option Value}(X:(theK p).In h)(T:Top theView loose mean mg mb h){a:Addr}{cells:List Int}{vs:List Value}(hl:h.IsList a vs.toArray)(hi:IntsAre vs cells)(hz:vs.length≤63):
 Env0 prgP w h (prg (scOf a cells)) mainGlobals builtinsNs (theK p) where
 H:=heap0 p X T hl hi hz
 X:=X
 CO:=cls_ok p _
 fnNone:=fun a h=>by
  rcases cls_cases h with rfl|rfl|rfl<;>rfl
 initFn:=fun C i h=>by
  have h':=(c_meth p C "__init__" i h)
  rcases cls_cases h'.1 with rfl|rfl|rfl
  ·cases h;exact⟨_,rfl⟩
  ·cases h;exact⟨_,rfl⟩
  ·cases h;exact⟨_,rfl⟩
 callNone:=trivial
theorem good_at{w:World}{h:Heap}{loose:List Str}{mean:ExcName→Option Value}{mg mb:Str→Option Value}(X:(theK p).In h)(T:Top theView loose mean mg mb h){a:Addr}{cells:List Int}{vs:List Value}(hl:h.IsList a vs.toArray)(hi:IntsAre vs cells)(hz:vs.length≤63)(n:Nat):
 Good prgP w h (prg (scOf a cells)) mainGlobals builtinsNs (run (prg (scOf a cells)) n) n:=
 good (env0 p X T hl hi hz) (fn_ok p X T.nolimit _) (xc_ok (xprog p X T _) (env0 p X T hl hi hz)) n
end Mine
end
section
namespace Mine
open PySem PySem.W PyProof.Rows PySem.Calls
noncomputable def lawF:Fn:=(defAt 40).get rfl
noncomputable def scriptS:Str:="script"
noncomputable def lawR(f:Fn)(n:Nat)(a:Addr)(cells:List Int):ResL (Fl×Mine.Loc):=(run (prg (scOf a cells)) n).ex f.scope [(scriptS,.fix (.ref a))] [] f.body
theorem law_kinds:lawF.scope.names.all (fun p=>p.2 != .cell)=true:=by rfl
theorem law_kind:lawF.scope.kind= .function:=by rfl
theorem law_script:look scriptS lawF.scope.names=some .local:=by rfl
section
variable{w:World}{h h₁:Heap}{loose:List Str}{mean:ExcName→Option Value}{mg mb:Str→Option Value}{a:Addr}{cells:List Int}{vs:List Value}{L fa:Addr}{cd:Value}{nm:Str}{g:Array GenState}{d:Drawn}{tk:Tok}{os:OsState}
set_option tactic.hygienic true in
theorem law_run{f:Fn}(hkind:f.scope.kind= .function)(hcells:f.scope.names.all (fun p=>p.2 != .cell)=true)(hscript:look scriptS f.scope.names=some .local){n:Nat}(hn:n≤290)(X:(theK w.params).In h)(T:Top theView loose mean mg mb h)(hl:h.IsList a vs.toArray)(hi:IntsAre vs cells)(hz:cells.length≤63)(F:Fr h L h₁ (fun x=>List.lookup x [(scriptS,.ref a)])){ρ':Mine.Loc}{σ':Store}
 (hr:lawR f n a cells= .ok (.ret (.bool true),ρ') σ') {Q:Flow→Shared→Prop} {E:Value→Shared→Prop}
 (hQ:∀h' tk' d',(∀b o,h.get? b=some o→h'.get? b=some o)→Q (.ret (.bool true)) ⟨h',g,d',tk',os⟩):
 wpAny (model prgP w) (callerA.deeper (envOf nm f.scope L fa cd)) (execs f.body (envOf nm f.scope L fa cd)) Q E ⟨h₁,g,d,tk,os⟩:=by
 have hz':vs.length≤63:=by rw[hi.length];exact hz
 have G:=good_at w.params (w:=w) X T hl hi hz' n
 have hb:h.get? L=none:=by
  cases q:h.get? L with
  |none=>rfl
  |some o=>exact absurd (Heap.lt_size q) (Nat.not_lt.mpr F.above)
 have ok:AOK (callerA.deeper (envOf nm f.scope L fa cd)) [envOf nm f.scope L fa cd] L n:=by
  refine⟨rfl,rfl,?_,?_,_,_,rfl,rfl⟩
  ·show 1+claimMargin+1+n<900
   have :claimMargin=300:=rfl
   omega
  ·show 4+3+30*n<9000
   omega
 have eo:EnvOK mainGlobals builtinsNs L (envOf nm f.scope L fa cd) f.scope:=by
  have nc:∀x,look x f.scope.names=some .cell→False:=fun x hx=>by
   have :=List.all_eq_true.mp hcells _ (look_mem hx)
   simp at this
  have kk:∀x k,look x f.scope.names=some k→(envOf nm f.scope L fa cd).kindOf x=some k:=fun x k hx=>by
   show f.scope.names.lookup x=some k
   rw[←look_eq];exact hx
  exact⟨hkind,rfl,rfl,rfl,fun x hx=>kk x _ hx,fun x hx=>kk x _ hx,fun x hx=>(nc x hx).elim,fun⟨x,hx⟩=>(nc x hx).elim,fun q hq=>nomatch hq⟩
 obtain⟨o,es,ep,ho,hd,hk⟩:=F.ns
 have I:Inv prgP w h [envOf nm f.scope L fa cd] (envOf nm f.scope L fa cd) ⟨h₁,g,d,tk,os⟩ [] [] [(scriptS,.fix (.ref a))]:=by
  refine⟨⟨F.keep,rfl,(fun i p o hp=>by simp at hp),(fun p hp=>nomatch hp),(fun p hp=>nomatch hp),(fun i j p q hp=>by simp at hp)⟩,fun e he=>?_,(fun b _ p hp=>nomatch hp),⟨⟨_,F.ns,fun x v hx=>?_⟩,fun q hq=>nomatch hq⟩,fun b hb'=>⟨?_,fun p hp=>nomatch hp⟩⟩
  ·rw[List.mem_singleton.mp he]
   exact⟨(by show f.scope.kind≠_;rw[hkind];decide),L,o,rfl,hb,ho,.dict hd⟩
  ·rw[look_cons]at hx
   split at hx
   ·rename_i e
    cases hx
    subst e
    exact .inl ⟨by show f.scope.names.lookup _=_;rw[←look_eq];exact hscript,.ref a,by simp[List.lookup],.fix _⟩
   ·cases hx
  ·have :b=L:=by simpa [owns,envOf]using hb'
   rw[this];exact hb
 have hex:=G.ex f.body ok eo I
 rw[show(run (prg (scOf a cells)) n).ex f.scope [(scriptS,.fix (.ref a))] [] f.body=_ from hr]at hex
 refine hex Q E fun fl s' γ' hp hf=>?_
 obtain⟨u,rfl,hu⟩:=hf
 cases hu
 obtain⟨h',tk',d',hs⟩:=hp.same
 have hst:=hp.sr.stays
 subst hs
 exact hQ h' tk' d' fun b o e=>hst b o e
end
end Mine
end
section
open PySem PySem.W PyProof.Rows
theorem Mine.scOf_self(a:Addr)(cells:List Int):Mine.scOf a cells a=some cells:=by
 unfold Mine.scOf
 rw[show Nat.beq a a=true from Nat.beq_refl a]
theorem Mine.law_true(a:Addr)(cells:List Int)(h:cells.length≤63):∃ρ σ,Mine.lawR Mine.lawF 290 a cells= .ok (.ret (.bool true),ρ) σ:=
 Mine.law_true_X (Mine.scOf a cells) a cells (Mine.scOf_self a cells) h
theorem Mine.post_true(d:WData):PySem.Challenge.rw_pq0028_01.row.claim.post [d] (.bool true) [d]=true:=by
 first |rfl|kernel_rfl
set_option tactic.hygienic true in
theorem PySem.Challenge.cw_pq0028_01_holds : PySem.Challenge.rw_pq0028_01.Holds := by
 w_on
 refine holds_law (by kernel_rfl) fun said=>?_
 refine holds_open (q:=Mine.theView) (loose:=[]) (Xt:=Mine.XtM) (XP:=XL Mine.theView []) (Yf:=Hook.obs Mine.hk) (Ya:=Hook.val Mine.hk) (YP:=Hook.says Mine.hk) (N:=5988) Mine.left (Hook.of Mine.hk) (Hook.keeps Mine.hk) (fun s e=>xl_of s (Bool.and_eq_true_iff.mp e).1) XL.keeps (by rfl) (by rfl) (by rfl) (fun s e=>recFacts_of (Bool.and_eq_true_iff.mp e).2) (by rfl) (by first |assumption|decide+kernel) (by decide+kernel) ⟨rfl,rfl,rfl,rfl,rfl,by decide+kernel⟩ ?hw ?hc
 case hw=>w_witness2
 intro w s₀ s₁ mg mb G Y fa o pm cd doc dV kV ho hd hcd hD hmg hg args vals as hpre hlay hrd hwl hlo
 have KX:=kIn_of Y
 refine Ground.open G ?_
 intro T B D TE TW
 try(refine guard_noD D (by decide+kernel) ?_;clear D)
 obtain⟨_,_,M⟩:=bmod_of_top T
 have TA:=at_of_top T
 try(obtain⟨_,_,he,B0⟩:=based_of_top T rfl hmg ho hd;have he':cd=_:=he;subst he';clear he)
 clear hmg
 wrow_args hpre hlay hrd hwl hlo
 refine enter_call ?_
 w_top on
 try refine codeAny_mono ?_ (fun _ _ g=>GoodW.toG g)
 have K0:=below_caller (Top.heap T)
 w_call any ho hd hcd hD T F
 clear hd TA
 k_drop
 rename_i cells hs hlay0 hL1 hr1 hl2 w4 w3 a vs wl hL ra w1 r0 hI hr hc1 hc2 h1 N0
 have hz:cells.length≤63:=by omega
 obtain⟨ρ',σ',hrun⟩:=Mine.law_true a cells hz
 refine Mine.law_run (f:=Mine.lawF) Mine.law_kind Mine.law_kinds Mine.law_script (n:=290) (by decide) KX T hL hI hz F hrun fun h' tk' d' hk=>?_
 exact⟨.inl ⟨_,_,[],rfl,fun _=>rfl,ReadsW.bool true,Mine.post_true _,fun _=>⟨List.nodup_nil,fun _ hm=>(nomatch hm)⟩⟩,hk,rfl,hg⟩
end
end
