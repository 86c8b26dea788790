import PyProof.Rows.All
import Wide.All
import OpenK.AllK
import Wide.FinOn
import Lean
import PySem.Challenge.RW_pc0257_01
set_option bootstrap.genMatcherCode false
set_option tactic.hygienic false
set_option backward.match.sparseCases false
set_option backward.eqns.nonrecursive false
set_option genSizeOf false
set_option genCtorIdx false
set_option compiler.extract_closed false
set_option compiler.reuse false
set_option Elab.async false
set_option maxRecDepth 100000
set_option linter.unusedVariables false
set_option linter.unusedSimpArgs false
section
namespace Mine.Internal
section
@[elab_as_elim] theorem WE{α:Sort _}{a b:α}{M:α->Prop}(h:a=b)(p:M b):M a:=h▸p
@[elab_as_elim] theorem WG{α:Sort _}{a b:α}{M:α->Prop}(h:b=a)(p:M b):M a:=h▸p
@[elab_as_elim] theorem WH{a b:Prop}{M:Prop->Prop}(h:a↔b)(p:M b):M a:=propext h▸p
theorem WI{a b:Nat}(h:a<=8)(q:Nat.ble 8 b=true):a<=b:=Nat.le_trans h (Nat.le_of_ble_eq_true q)
theorem VC{a b:Nat}(h:a<=1000)(q:Nat.ble 1000 b=true):a<=b:=Nat.le_trans h (Nat.le_of_ble_eq_true q)
 def xX (t:String):List String:=("{ (tacticSeq (tacticSeq1Indented =,} ) ) ),| - '| (tacticSeq (tacticSeq1Indented =,/ ) ) ) ),F (first 'first =,f ) )".splitOn ",").foldl (λd l=>match l.splitOn " "with
  |x::r=>if x==t then r else d
  |r=>r) [t]
 def xN (c:Char) (r:String):Lean.Name:=
  let s:=if c=='='then "null"else if c=='-'then "group"else r
  .str (if c=='('then `Lean.Parser.Tactic else if c=='['then `Lean.Parser.Term else .anonymous) s
 def xS (hs:List (List Lean.Syntax)) (st:List (Lean.Name×List Lean.Syntax)) (t:String):List (Lean.Name×List Lean.Syntax):=match st with
  |(k,a)::u=>(match t.toList with
   |c::q=>
    let r:=String.ofList q
    if "=-([<".contains c then(xN c r,[])::(k,a)::u
    else if c==')'then(match u with|(k2,b)::u=>(k2,.node .none k a.reverse.toArray::b)::u|u=>u)
    else(k,if c=='*'then(hs.getD q.length []).reverse++a else(if c=='\''then .atom .none r else Lean.mkIdent t.toName)::a)::u
   |_=>(k,a)::u)
  |u=>u
 def xB (hs:List (List Lean.Syntax)) (s:String):Lean.Syntax:=match(s.splitOn " ").foldl (λst t=>(xX t).foldl (xS hs) st) [(`null,[])]with
  |(_,s::_)::_=>s
  |_=>.missing
 def xT (p q s:String):String:=(s.splitOn " ").foldl (λa n=>if n==""then a else a++p++n++q) ""
 def xL (s:String):String:=xT "| (paren '( { (tactic_<;>_ (apply 'apply " " ) '<;> F | (assumption 'assumption ) / | (exact 'exact rfl ) / f ) } ') ) / " s
 def xA (z a k:String):String:="| (paren '( { (tactic_<;>_ (paren '( { F "++xT "| (apply 'apply " " ) / " z++"| (withReducible 'with_reducible { F "++xT "| (apply 'apply " " ) / " a++"f } ) / f } ') ) '<;> "++k++" ) } ') ) / "
 def xR (r:Lean.Syntax):Lean.Syntax:=xB [[r[1]],[r]] ("F "++xT "| (withReducible 'with_reducible { (refine 'refine [app " " = [app * = [ellipsis '.. ) ) ) [syntheticHole '? '_ ) ) ) ) } ) / " (if r[0].isNone then "WE WH"else "WG")++"| (rewriteSeq 'rewrite (optConfig = ) ) (rwRuleSeq '[ = ** ) '] ) = ) ) / f")
 def xM (x:String):String:="| (paren '( { (simp 'simp (optConfig = ) ) = ) = ) = '[ = "++x++"* ) '] ) = ) ) '; (done 'done ) } ') ) / "
theorem bT{p0 p1:Prop}{C:Prop}(h:p0/\p1)(k:p0->p1->C):C:=k h.1 h.2
theorem cW{aN:Sort _}{p0:aN->Prop}{C:Prop}(h:∃x0,p0 x0)(k:∀x0,p0 x0->C):C:=h.elim λx0 h=>k x0 h
theorem fm{p0 p1 p2:Prop}{C:Prop}(h:p0/\p1/\p2)(k:p0->p1->p2->C):C:=k h.1 h.2.1 h.2.2
theorem az{aN:Sort _}{p0 p1:aN->Prop}{C:Prop}(h:∃x0,p0 x0/\p1 x0)(k:∀x0,p0 x0->p1 x0->C):C:=h.elim λx0 h=>k x0 h.1 h.2
theorem xo{aN:Sort _}{bh:Sort _}{p0:aN->bh->Prop}{C:Prop}(h:∃x0 x1,p0 x0 x1)(k:∀x0 x1,p0 x0 x1->C):C:=h.elim λx0 h=>h.elim λx1 h=>k x0 x1 h
theorem Hw{p0 p1 p2 p3:Prop}{C:Prop}(h:p0/\p1/\p2/\p3)(k:p0->p1->p2->p3->C):C:=k h.1 h.2.1 h.2.2.1 h.2.2.2
theorem aY{aN:Sort _}{p0 p1 p2:aN->Prop}{C:Prop}(h:∃x0,p0 x0/\p1 x0/\p2 x0)(k:∀x0,p0 x0->p1 x0->p2 x0->C):C:=h.elim λx0 h=>k x0 h.1 h.2.1 h.2.2
theorem fH{aN:Sort _}{bh:Sort _}{p0 p1:aN->bh->Prop}{C:Prop}(h:∃x0 x1,p0 x0 x1/\p1 x0 x1)(k:∀x0 x1,p0 x0 x1->p1 x0 x1->C):C:=h.elim λx0 h=>h.elim λx1 h=>k x0 x1 h.1 h.2
theorem Sj{aN:Sort _}{bh:Sort _}{bW:Sort _}{p0:aN->bh->bW->Prop}{C:Prop}(h:∃x0 x1 x2,p0 x0 x1 x2)(k:∀x0 x1 x2,p0 x0 x1 x2->C):C:=h.elim λx0 h=>h.elim λx1 h=>h.elim λx2 h=>k x0 x1 x2 h
theorem jo{p0 p1 p2 p3 p4:Prop}{C:Prop}(h:p0/\p1/\p2/\p3/\p4)(k:p0->p1->p2->p3->p4->C):C:=k h.1 h.2.1 h.2.2.1 h.2.2.2.1 h.2.2.2.2
theorem fI{aN:Sort _}{p0 p1 p2 p3:aN->Prop}{C:Prop}(h:∃x0,p0 x0/\p1 x0/\p2 x0/\p3 x0)(k:∀x0,p0 x0->p1 x0->p2 x0->p3 x0->C):C:=h.elim λx0 h=>k x0 h.1 h.2.1 h.2.2.1 h.2.2.2
theorem fN{aN:Sort _}{bh:Sort _}{p0 p1 p2:aN->bh->Prop}{C:Prop}(h:∃x0 x1,p0 x0 x1/\p1 x0 x1/\p2 x0 x1)(k:∀x0 x1,p0 x0 x1->p1 x0 x1->p2 x0 x1->C):C:=h.elim λx0 h=>h.elim λx1 h=>k x0 x1 h.1 h.2.1 h.2.2
theorem nA{aN:Sort _}{bh:Sort _}{bW:Sort _}{p0 p1:aN->bh->bW->Prop}{C:Prop}(h:∃x0 x1 x2,p0 x0 x1 x2/\p1 x0 x1 x2)(k:∀x0 x1 x2,p0 x0 x1 x2->p1 x0 x1 x2->C):C:=h.elim λx0 h=>h.elim λx1 h=>h.elim λx2 h=>k x0 x1 x2 h.1 h.2
theorem Bi{p0 p1 p2 p3 p4 p5:Prop}{C:Prop}(h:p0/\p1/\p2/\p3/\p4/\p5)(k:p0->p1->p2->p3->p4->p5->C):C:=k h.1 h.2.1 h.2.2.1 h.2.2.2.1 h.2.2.2.2.1 h.2.2.2.2.2
theorem Hx{aN:Sort _}{p0 p1 p2 p3 p4:aN->Prop}{C:Prop}(h:∃x0,p0 x0/\p1 x0/\p2 x0/\p3 x0/\p4 x0)(k:∀x0,p0 x0->p1 x0->p2 x0->p3 x0->p4 x0->C):C:=h.elim λx0 h=>k x0 h.1 h.2.1 h.2.2.1 h.2.2.2.1 h.2.2.2.2
theorem iz{aN:Sort _}{bh:Sort _}{p0 p1 p2 p3:aN->bh->Prop}{C:Prop}(h:∃x0 x1,p0 x0 x1/\p1 x0 x1/\p2 x0 x1/\p3 x0 x1)(k:∀x0 x1,p0 x0 x1->p1 x0 x1->p2 x0 x1->p3 x0 x1->C):C:=h.elim λx0 h=>h.elim λx1 h=>k x0 x1 h.1 h.2.1 h.2.2.1 h.2.2.2
theorem lR{aN:Sort _}{bh:Sort _}{bW:Sort _}{p0 p1 p2:aN->bh->bW->Prop}{C:Prop}(h:∃x0 x1 x2,p0 x0 x1 x2/\p1 x0 x1 x2/\p2 x0 x1 x2)(k:∀x0 x1 x2,p0 x0 x1 x2->p1 x0 x1 x2->p2 x0 x1 x2->C):C:=h.elim λx0 h=>h.elim λx1 h=>h.elim λx2 h=>k x0 x1 x2 h.1 h.2.1 h.2.2
theorem xp{aN:Sort _}{p0 p1 p2 p3 p4 p5:aN->Prop}{C:Prop}(h:∃x0,p0 x0/\p1 x0/\p2 x0/\p3 x0/\p4 x0/\p5 x0)(k:∀x0,p0 x0->p1 x0->p2 x0->p3 x0->p4 x0->p5 x0->C):C:=h.elim λx0 h=>k x0 h.1 h.2.1 h.2.2.1 h.2.2.2.1 h.2.2.2.2.1 h.2.2.2.2.2
theorem mO{aN:Sort _}{bh:Sort _}{p0 p1 p2 p3 p4:aN->bh->Prop}{C:Prop}(h:∃x0 x1,p0 x0 x1/\p1 x0 x1/\p2 x0 x1/\p3 x0 x1/\p4 x0 x1)(k:∀x0 x1,p0 x0 x1->p1 x0 x1->p2 x0 x1->p3 x0 x1->p4 x0 x1->C):C:=h.elim λx0 h=>h.elim λx1 h=>k x0 x1 h.1 h.2.1 h.2.2.1 h.2.2.2.1 h.2.2.2.2
theorem hU{aN:Sort _}{bh:Sort _}{bW:Sort _}{p0 p1 p2 p3:aN->bh->bW->Prop}{C:Prop}(h:∃x0 x1 x2,p0 x0 x1 x2/\p1 x0 x1 x2/\p2 x0 x1 x2/\p3 x0 x1 x2)(k:∀x0 x1 x2,p0 x0 x1 x2->p1 x0 x1 x2->p2 x0 x1 x2->p3 x0 x1 x2->C):C:=h.elim λx0 h=>h.elim λx1 h=>h.elim λx2 h=>k x0 x1 x2 h.1 h.2.1 h.2.2.1 h.2.2.2
theorem Bj{aN:Sort _}{bh:Sort _}{bW:Sort _}{ef:Sort _}{p0 p1 p2:aN->bh->bW->ef->Prop}{C:Prop}(h:∃x0 x1 x2 x3,p0 x0 x1 x2 x3/\p1 x0 x1 x2 x3/\p2 x0 x1 x2 x3)(k:∀x0 x1 x2 x3,p0 x0 x1 x2 x3->p1 x0 x1 x2 x3->p2 x0 x1 x2 x3->C):C:=h.elim λx0 h=>h.elim λx1 h=>h.elim λx2 h=>h.elim λx3 h=>k x0 x1 x2 x3 h.1 h.2.1 h.2.2
theorem qz{aN:Sort _}{bh:Sort _}{p0 p1 p2 p3 p4 p5:aN->bh->Prop}{C:Prop}(h:∃x0 x1,p0 x0 x1/\p1 x0 x1/\p2 x0 x1/\p3 x0 x1/\p4 x0 x1/\p5 x0 x1)(k:∀x0 x1,p0 x0 x1->p1 x0 x1->p2 x0 x1->p3 x0 x1->p4 x0 x1->p5 x0 x1->C):C:=h.elim λx0 h=>h.elim λx1 h=>k x0 x1 h.1 h.2.1 h.2.2.1 h.2.2.2.1 h.2.2.2.2.1 h.2.2.2.2.2
theorem ou{aN:Sort _}{bh:Sort _}{bW:Sort _}{p0 p1 p2 p3 p4:aN->bh->bW->Prop}{C:Prop}(h:∃x0 x1 x2,p0 x0 x1 x2/\p1 x0 x1 x2/\p2 x0 x1 x2/\p3 x0 x1 x2/\p4 x0 x1 x2)(k:∀x0 x1 x2,p0 x0 x1 x2->p1 x0 x1 x2->p2 x0 x1 x2->p3 x0 x1 x2->p4 x0 x1 x2->C):C:=h.elim λx0 h=>h.elim λx1 h=>h.elim λx2 h=>k x0 x1 x2 h.1 h.2.1 h.2.2.1 h.2.2.2.1 h.2.2.2.2
theorem Sk{aN:Sort _}{bh:Sort _}{bW:Sort _}{ef:Sort _}{p0 p1 p2 p3:aN->bh->bW->ef->Prop}{C:Prop}(h:∃x0 x1 x2 x3,p0 x0 x1 x2 x3/\p1 x0 x1 x2 x3/\p2 x0 x1 x2 x3/\p3 x0 x1 x2 x3)(k:∀x0 x1 x2 x3,p0 x0 x1 x2 x3->p1 x0 x1 x2 x3->p2 x0 x1 x2 x3->p3 x0 x1 x2 x3->C):C:=h.elim λx0 h=>h.elim λx1 h=>h.elim λx2 h=>h.elim λx3 h=>k x0 x1 x2 x3 h.1 h.2.1 h.2.2.1 h.2.2.2
theorem xq{p0 p1 p2 p3 p4 p5 p6 p7 p8 p9:Prop}{C:Prop}(h:p0/\p1/\p2/\p3/\p4/\p5/\p6/\p7/\p8/\p9)(k:p0->p1->p2->p3->p4->p5->p6->p7->p8->p9->C):C:=k h.1 h.2.1 h.2.2.1 h.2.2.2.1 h.2.2.2.2.1 h.2.2.2.2.2.1 h.2.2.2.2.2.2.1 h.2.2.2.2.2.2.2.1 h.2.2.2.2.2.2.2.2.1 h.2.2.2.2.2.2.2.2.2
theorem Hy{aN:Sort _}{p0 p1 p2 p3 p4 p5 p6 p7:aN->Prop}{C:Prop}(h:∃x0,p0 x0/\p1 x0/\p2 x0/\p3 x0/\p4 x0/\p5 x0/\p6 x0/\p7 x0)(k:∀x0,p0 x0->p1 x0->p2 x0->p3 x0->p4 x0->p5 x0->p6 x0->p7 x0->C):C:=h.elim λx0 h=>k x0 h.1 h.2.1 h.2.2.1 h.2.2.2.1 h.2.2.2.2.1 h.2.2.2.2.2.1 h.2.2.2.2.2.2.1 h.2.2.2.2.2.2.2
theorem Sl{aN:Sort _}{bh:Sort _}{p0 p1 p2 p3 p4 p5 p6 p7 p8 p9:aN->bh->Prop}{C:Prop}(h:∃x0 x1,p0 x0 x1/\p1 x0 x1/\p2 x0 x1/\p3 x0 x1/\p4 x0 x1/\p5 x0 x1/\p6 x0 x1/\p7 x0 x1/\p8 x0 x1/\p9 x0 x1)(k:∀x0 x1,p0 x0 x1->p1 x0 x1->p2 x0 x1->p3 x0 x1->p4 x0 x1->p5 x0 x1->p6 x0 x1->p7 x0 x1->p8 x0 x1->p9 x0 x1->C):C:=h.elim λx0 h=>h.elim λx1 h=>k x0 x1 h.1 h.2.1 h.2.2.1 h.2.2.2.1 h.2.2.2.2.1 h.2.2.2.2.2.1 h.2.2.2.2.2.2.1 h.2.2.2.2.2.2.2.1 h.2.2.2.2.2.2.2.2.1 h.2.2.2.2.2.2.2.2.2
theorem uu{aN:Sort _}{bh:Sort _}{bW:Sort _}{p0 p1 p2 p3 p4 p5 p6:aN->bh->bW->Prop}{C:Prop}(h:∃x0 x1 x2,p0 x0 x1 x2/\p1 x0 x1 x2/\p2 x0 x1 x2/\p3 x0 x1 x2/\p4 x0 x1 x2/\p5 x0 x1 x2/\p6 x0 x1 x2)(k:∀x0 x1 x2,p0 x0 x1 x2->p1 x0 x1 x2->p2 x0 x1 x2->p3 x0 x1 x2->p4 x0 x1 x2->p5 x0 x1 x2->p6 x0 x1 x2->C):C:=h.elim λx0 h=>h.elim λx1 h=>h.elim λx2 h=>k x0 x1 x2 h.1 h.2.1 h.2.2.1 h.2.2.2.1 h.2.2.2.2.1 h.2.2.2.2.2.1 h.2.2.2.2.2.2
theorem Hz{aN:Sort _}{bh:Sort _}{bW:Sort _}{ef:Sort _}{p0 p1 p2 p3 p4 p5:aN->bh->bW->ef->Prop}{C:Prop}(h:∃x0 x1 x2 x3,p0 x0 x1 x2 x3/\p1 x0 x1 x2 x3/\p2 x0 x1 x2 x3/\p3 x0 x1 x2 x3/\p4 x0 x1 x2 x3/\p5 x0 x1 x2 x3)(k:∀x0 x1 x2 x3,p0 x0 x1 x2 x3->p1 x0 x1 x2 x3->p2 x0 x1 x2 x3->p3 x0 x1 x2 x3->p4 x0 x1 x2 x3->p5 x0 x1 x2 x3->C):C:=h.elim λx0 h=>h.elim λx1 h=>h.elim λx2 h=>h.elim λx3 h=>k x0 x1 x2 x3 h.1 h.2.1 h.2.2.1 h.2.2.2.1 h.2.2.2.2.1 h.2.2.2.2.2
theorem Bl{aN:Sort _}{bh:Sort _}{bW:Sort _}{ef:Sort _}{gn:Sort _}{p0 p1 p2 p3:aN->bh->bW->ef->gn->Prop}{C:Prop}(h:∃x0 x1 x2 x3 x4,p0 x0 x1 x2 x3 x4/\p1 x0 x1 x2 x3 x4/\p2 x0 x1 x2 x3 x4/\p3 x0 x1 x2 x3 x4)(k:∀x0 x1 x2 x3 x4,p0 x0 x1 x2 x3 x4->p1 x0 x1 x2 x3 x4->p2 x0 x1 x2 x3 x4->p3 x0 x1 x2 x3 x4->C):C:=h.elim λx0 h=>h.elim λx1 h=>h.elim λx2 h=>h.elim λx3 h=>h.elim λx4 h=>k x0 x1 x2 x3 x4 h.1 h.2.1 h.2.2.1 h.2.2.2
theorem HB{aN:Sort _}{bh:Sort _}{bW:Sort _}{ef:Sort _}{gn:Sort _}{p0 p1 p2 p3 p4:aN->bh->bW->ef->gn->Prop}{C:Prop}(h:∃x0 x1 x2 x3 x4,p0 x0 x1 x2 x3 x4/\p1 x0 x1 x2 x3 x4/\p2 x0 x1 x2 x3 x4/\p3 x0 x1 x2 x3 x4/\p4 x0 x1 x2 x3 x4)(k:∀x0 x1 x2 x3 x4,p0 x0 x1 x2 x3 x4->p1 x0 x1 x2 x3 x4->p2 x0 x1 x2 x3 x4->p3 x0 x1 x2 x3 x4->p4 x0 x1 x2 x3 x4->C):C:=h.elim λx0 h=>h.elim λx1 h=>h.elim λx2 h=>h.elim λx3 h=>h.elim λx4 h=>k x0 x1 x2 x3 x4 h.1 h.2.1 h.2.2.1 h.2.2.2.1 h.2.2.2.2
theorem Sm{aN:Sort _}{bh:Sort _}{bW:Sort _}{ef:Sort _}{gn:Sort _}{p0 p1 p2 p3 p4 p5 p6:aN->bh->bW->ef->gn->Prop}{C:Prop}(h:∃x0 x1 x2 x3 x4,p0 x0 x1 x2 x3 x4/\p1 x0 x1 x2 x3 x4/\p2 x0 x1 x2 x3 x4/\p3 x0 x1 x2 x3 x4/\p4 x0 x1 x2 x3 x4/\p5 x0 x1 x2 x3 x4/\p6 x0 x1 x2 x3 x4)(k:∀x0 x1 x2 x3 x4,p0 x0 x1 x2 x3 x4->p1 x0 x1 x2 x3 x4->p2 x0 x1 x2 x3 x4->p3 x0 x1 x2 x3 x4->p4 x0 x1 x2 x3 x4->p5 x0 x1 x2 x3 x4->p6 x0 x1 x2 x3 x4->C):C:=h.elim λx0 h=>h.elim λx1 h=>h.elim λx2 h=>h.elim λx3 h=>h.elim λx4 h=>k x0 x1 x2 x3 x4 h.1 h.2.1 h.2.2.1 h.2.2.2.1 h.2.2.2.2.1 h.2.2.2.2.2.1 h.2.2.2.2.2.2
theorem Sn{aN:Sort _}{bh:Sort _}{bW:Sort _}{ef:Sort _}{gn:Sort _}{lg:Sort _}{p0 p1 p2 p3 p4:aN->bh->bW->ef->gn->lg->Prop}{C:Prop}(h:∃x0 x1 x2 x3 x4 x5,p0 x0 x1 x2 x3 x4 x5/\p1 x0 x1 x2 x3 x4 x5/\p2 x0 x1 x2 x3 x4 x5/\p3 x0 x1 x2 x3 x4 x5/\p4 x0 x1 x2 x3 x4 x5)(k:∀x0 x1 x2 x3 x4 x5,p0 x0 x1 x2 x3 x4 x5->p1 x0 x1 x2 x3 x4 x5->p2 x0 x1 x2 x3 x4 x5->p3 x0 x1 x2 x3 x4 x5->p4 x0 x1 x2 x3 x4 x5->C):C:=h.elim λx0 h=>h.elim λx1 h=>h.elim λx2 h=>h.elim λx3 h=>h.elim λx4 h=>h.elim λx5 h=>k x0 x1 x2 x3 x4 x5 h.1 h.2.1 h.2.2.1 h.2.2.2.1 h.2.2.2.2
theorem So{aN:Sort _}{bh:Sort _}{bW:Sort _}{ef:Sort _}{gn:Sort _}{lg:Sort _}{p0 p1 p2 p3 p4 p5 p6:aN->bh->bW->ef->gn->lg->Prop}{C:Prop}(h:∃x0 x1 x2 x3 x4 x5,p0 x0 x1 x2 x3 x4 x5/\p1 x0 x1 x2 x3 x4 x5/\p2 x0 x1 x2 x3 x4 x5/\p3 x0 x1 x2 x3 x4 x5/\p4 x0 x1 x2 x3 x4 x5/\p5 x0 x1 x2 x3 x4 x5/\p6 x0 x1 x2 x3 x4 x5)(k:∀x0 x1 x2 x3 x4 x5,p0 x0 x1 x2 x3 x4 x5->p1 x0 x1 x2 x3 x4 x5->p2 x0 x1 x2 x3 x4 x5->p3 x0 x1 x2 x3 x4 x5->p4 x0 x1 x2 x3 x4 x5->p5 x0 x1 x2 x3 x4 x5->p6 x0 x1 x2 x3 x4 x5->C):C:=h.elim λx0 h=>h.elim λx1 h=>h.elim λx2 h=>h.elim λx3 h=>h.elim λx4 h=>h.elim λx5 h=>k x0 x1 x2 x3 x4 x5 h.1 h.2.1 h.2.2.1 h.2.2.2.1 h.2.2.2.2.1 h.2.2.2.2.2.1 h.2.2.2.2.2.2
theorem Sp{aN:Sort _}{bh:Sort _}{bW:Sort _}{ef:Sort _}{gn:Sort _}{lg:Sort _}{Tr:Sort _}{Ts:Sort _}{p0 p1 p2 p3:aN->bh->bW->ef->gn->lg->Tr->Ts->Prop}{C:Prop}(h:∃x0 x1 x2 x3 x4 x5 x6 x7,p0 x0 x1 x2 x3 x4 x5 x6 x7/\p1 x0 x1 x2 x3 x4 x5 x6 x7/\p2 x0 x1 x2 x3 x4 x5 x6 x7/\p3 x0 x1 x2 x3 x4 x5 x6 x7)(k:∀x0 x1 x2 x3 x4 x5 x6 x7,p0 x0 x1 x2 x3 x4 x5 x6 x7->p1 x0 x1 x2 x3 x4 x5 x6 x7->p2 x0 x1 x2 x3 x4 x5 x6 x7->p3 x0 x1 x2 x3 x4 x5 x6 x7->C):C:=h.elim λx0 h=>h.elim λx1 h=>h.elim λx2 h=>h.elim λx3 h=>h.elim λx4 h=>h.elim λx5 h=>h.elim λx6 h=>h.elim λx7 h=>k x0 x1 x2 x3 x4 x5 x6 x7 h.1 h.2.1 h.2.2.1 h.2.2.2
theorem lS{aN:Sort _}{bh:Sort _}{bW:Sort _}{p0 p1 p2 p3 p4 p5:aN->bh->bW->Prop}{C:Prop}(h:∃x0 x1 x2,p0 x0 x1 x2/\p1 x0 x1 x2/\p2 x0 x1 x2/\p3 x0 x1 x2/\p4 x0 x1 x2/\p5 x0 x1 x2)(k:∀x0 x1 x2,p0 x0 x1 x2->p1 x0 x1 x2->p2 x0 x1 x2->p3 x0 x1 x2->p4 x0 x1 x2->p5 x0 x1 x2->C):C:=h.elim λx0 h=>h.elim λx1 h=>h.elim λx2 h=>k x0 x1 x2 h.1 h.2.1 h.2.2.1 h.2.2.2.1 h.2.2.2.2.1 h.2.2.2.2.2
theorem Sq{aN:Sort _}{bh:Sort _}{bW:Sort _}{ef:Sort _}{gn:Sort _}{lg:Sort _}{p0 p1 p2 p3 p4 p5 p6 p7:aN->bh->bW->ef->gn->lg->Prop}{C:Prop}(h:∃x0 x1 x2 x3 x4 x5,p0 x0 x1 x2 x3 x4 x5/\p1 x0 x1 x2 x3 x4 x5/\p2 x0 x1 x2 x3 x4 x5/\p3 x0 x1 x2 x3 x4 x5/\p4 x0 x1 x2 x3 x4 x5/\p5 x0 x1 x2 x3 x4 x5/\p6 x0 x1 x2 x3 x4 x5/\p7 x0 x1 x2 x3 x4 x5)(k:∀x0 x1 x2 x3 x4 x5,p0 x0 x1 x2 x3 x4 x5->p1 x0 x1 x2 x3 x4 x5->p2 x0 x1 x2 x3 x4 x5->p3 x0 x1 x2 x3 x4 x5->p4 x0 x1 x2 x3 x4 x5->p5 x0 x1 x2 x3 x4 x5->p6 x0 x1 x2 x3 x4 x5->p7 x0 x1 x2 x3 x4 x5->C):C:=h.elim λx0 h=>h.elim λx1 h=>h.elim λx2 h=>h.elim λx3 h=>h.elim λx4 h=>h.elim λx5 h=>k x0 x1 x2 x3 x4 x5 h.1 h.2.1 h.2.2.1 h.2.2.2.1 h.2.2.2.2.1 h.2.2.2.2.2.1 h.2.2.2.2.2.2.1 h.2.2.2.2.2.2.2
theorem B4{G:Prop}(H:∀C:Prop,(G->C)->C):G:=H G id
theorem Tt{aN:Sort _}{bh:Sort _}{bW:Sort _}{ef:Sort _}{gn:Sort _}{p0 p1 p2 p3 p4 p5 p6 p7 p8 p9 Ih Ii Ij Ik Il:aN->bh->bW->ef->gn->Prop}{C:Prop}(h:∃x0 x1 x2 x3 x4,p0 x0 x1 x2 x3 x4/\p1 x0 x1 x2 x3 x4/\p2 x0 x1 x2 x3 x4/\p3 x0 x1 x2 x3 x4/\p4 x0 x1 x2 x3 x4/\p5 x0 x1 x2 x3 x4/\p6 x0 x1 x2 x3 x4/\p7 x0 x1 x2 x3 x4/\p8 x0 x1 x2 x3 x4/\p9 x0 x1 x2 x3 x4/\Ih x0 x1 x2 x3 x4/\Ii x0 x1 x2 x3 x4/\Ij x0 x1 x2 x3 x4/\Ik x0 x1 x2 x3 x4/\Il x0 x1 x2 x3 x4)(k:∀x0 x1 x2 x3 x4,p0 x0 x1 x2 x3 x4->p1 x0 x1 x2 x3 x4->p2 x0 x1 x2 x3 x4->p3 x0 x1 x2 x3 x4->p4 x0 x1 x2 x3 x4->p5 x0 x1 x2 x3 x4->p6 x0 x1 x2 x3 x4->p7 x0 x1 x2 x3 x4->p8 x0 x1 x2 x3 x4->p9 x0 x1 x2 x3 x4->Ih x0 x1 x2 x3 x4->Ii x0 x1 x2 x3 x4->Ij x0 x1 x2 x3 x4->Ik x0 x1 x2 x3 x4->Il x0 x1 x2 x3 x4->C):C:=h.elim λx0 h=>h.elim λx1 h=>h.elim λx2 h=>h.elim λx3 h=>h.elim λx4 h=>k x0 x1 x2 x3 x4 h.1 h.2.1 h.2.2.1 h.2.2.2.1 h.2.2.2.2.1 h.2.2.2.2.2.1 h.2.2.2.2.2.2.1 h.2.2.2.2.2.2.2.1 h.2.2.2.2.2.2.2.2.1 h.2.2.2.2.2.2.2.2.2.1 h.2.2.2.2.2.2.2.2.2.2.1 h.2.2.2.2.2.2.2.2.2.2.2.1 h.2.2.2.2.2.2.2.2.2.2.2.2.1 h.2.2.2.2.2.2.2.2.2.2.2.2.2.1 h.2.2.2.2.2.2.2.2.2.2.2.2.2.2
theorem aX{α:Type}{a:α}{C:Prop}(h:none=some a):C:=nomatch h
theorem iW{α:Type}{P:α->Prop}:∀x∈([]:List α),P x:=λ_ h=>nomatch h
theorem dP{α:Type}{P:α->Prop}{a:α}{l:List α}(h:P a)(t:∀x∈l,P x):∀x∈a::l,P x:=List.forall_mem_cons.mpr ⟨h,t⟩
theorem rJ{α:Type}{a b c:α}(e:a=b)(h:b≠c):a≠c:=λq=>h (e.symm.trans q)
theorem dU{α β:Type}{f:α->β}{x y:α}{a b:β}(h:f x=a)(h':f y=b)(n:a≠b):x≠y:=λe=>n (h.symm.trans ((congrArg f e).trans h'))
theorem kP{aN:Sort _}{p0:aN->Prop}(x0:aN)(h0:p0 x0):∃x0,p0 x0:=⟨x0,h0⟩
theorem a0{aN:Sort _}{p0 p1:aN->Prop}(x0:aN)(h0:p0 x0)(h1:p1 x0):∃x0,p0 x0/\p1 x0:=⟨x0,h0,h1⟩
theorem cA{aN:Sort _}{p0 p1 p2:aN->Prop}(x0:aN)(h0:p0 x0)(h1:p1 x0)(h2:p2 x0):∃x0,p0 x0/\p1 x0/\p2 x0:=⟨x0,h0,h1,h2⟩
theorem gO{aN:Sort _}{p0 p1 p2 p3:aN->Prop}(x0:aN)(h0:p0 x0)(h1:p1 x0)(h2:p2 x0)(h3:p3 x0):∃x0,p0 x0/\p1 x0/\p2 x0/\p3 x0:=⟨x0,h0,h1,h2,h3⟩
theorem GI{aN:Sort _}{p0 p1 p2 p3 p4:aN->Prop}(x0:aN)(h0:p0 x0)(h1:p1 x0)(h2:p2 x0)(h3:p3 x0)(h4:p4 x0):∃x0,p0 x0/\p1 x0/\p2 x0/\p3 x0/\p4 x0:=⟨x0,h0,h1,h2,h3,h4⟩
theorem Qc{aN:Sort _}{p0 p1 p2 p3 p4 p5:aN->Prop}(x0:aN)(h0:p0 x0)(h1:p1 x0)(h2:p2 x0)(h3:p3 x0)(h4:p4 x0)(h5:p5 x0):∃x0,p0 x0/\p1 x0/\p2 x0/\p3 x0/\p4 x0/\p5 x0:=⟨x0,h0,h1,h2,h3,h4,h5⟩
theorem Qd{aN:Sort _}{p0 p1 p2 p3 p4 p5 p6 p7:aN->Prop}(x0:aN)(h0:p0 x0)(h1:p1 x0)(h2:p2 x0)(h3:p3 x0)(h4:p4 x0)(h5:p5 x0)(h6:p6 x0)(h7:p7 x0):∃x0,p0 x0/\p1 x0/\p2 x0/\p3 x0/\p4 x0/\p5 x0/\p6 x0/\p7 x0:=⟨x0,h0,h1,h2,h3,h4,h5,h6,h7⟩
theorem GJ{aN:Sort _}{bh:Sort _}{p0:aN->bh->Prop}(x0:aN)(x1:bh)(h0:p0 x0 x1):∃x0 x1,p0 x0 x1:=⟨x0,x1,h0⟩
theorem gZ{aN:Sort _}{bh:Sort _}{p0 p1:aN->bh->Prop}(x0:aN)(x1:bh)(h0:p0 x0 x1)(h1:p1 x0 x1):∃x0 x1,p0 x0 x1/\p1 x0 x1:=⟨x0,x1,h0,h1⟩
theorem hG{aN:Sort _}{bh:Sort _}{p0 p1 p2:aN->bh->Prop}(x0:aN)(x1:bh)(h0:p0 x0 x1)(h1:p1 x0 x1)(h2:p2 x0 x1):∃x0 x1,p0 x0 x1/\p1 x0 x1/\p2 x0 x1:=⟨x0,x1,h0,h1,h2⟩
theorem kQ{aN:Sort _}{bh:Sort _}{p0 p1 p2 p3:aN->bh->Prop}(x0:aN)(x1:bh)(h0:p0 x0 x1)(h1:p1 x0 x1)(h2:p2 x0 x1)(h3:p3 x0 x1):∃x0 x1,p0 x0 x1/\p1 x0 x1/\p2 x0 x1/\p3 x0 x1:=⟨x0,x1,h0,h1,h2,h3⟩
theorem wY{aN:Sort _}{bh:Sort _}{p0 p1 p2 p3 p4:aN->bh->Prop}(x0:aN)(x1:bh)(h0:p0 x0 x1)(h1:p1 x0 x1)(h2:p2 x0 x1)(h3:p3 x0 x1)(h4:p4 x0 x1):∃x0 x1,p0 x0 x1/\p1 x0 x1/\p2 x0 x1/\p3 x0 x1/\p4 x0 x1:=⟨x0,x1,h0,h1,h2,h3,h4⟩
theorem GK{aN:Sort _}{bh:Sort _}{p0 p1 p2 p3 p4 p5:aN->bh->Prop}(x0:aN)(x1:bh)(h0:p0 x0 x1)(h1:p1 x0 x1)(h2:p2 x0 x1)(h3:p3 x0 x1)(h4:p4 x0 x1)(h5:p5 x0 x1):∃x0 x1,p0 x0 x1/\p1 x0 x1/\p2 x0 x1/\p3 x0 x1/\p4 x0 x1/\p5 x0 x1:=⟨x0,x1,h0,h1,h2,h3,h4,h5⟩
theorem Qe{aN:Sort _}{bh:Sort _}{p0 p1 p2 p3 p4 p5 p6 p7 p8 p9:aN->bh->Prop}(x0:aN)(x1:bh)(h0:p0 x0 x1)(h1:p1 x0 x1)(h2:p2 x0 x1)(h3:p3 x0 x1)(h4:p4 x0 x1)(h5:p5 x0 x1)(h6:p6 x0 x1)(h7:p7 x0 x1)(h8:p8 x0 x1)(h9:p9 x0 x1):∃x0 x1,p0 x0 x1/\p1 x0 x1/\p2 x0 x1/\p3 x0 x1/\p4 x0 x1/\p5 x0 x1/\p6 x0 x1/\p7 x0 x1/\p8 x0 x1/\p9 x0 x1:=⟨x0,x1,h0,h1,h2,h3,h4,h5,h6,h7,h8,h9⟩
theorem wZ{aN:Sort _}{bh:Sort _}{bW:Sort _}{p0 p1:aN->bh->bW->Prop}(x0:aN)(x1:bh)(x2:bW)(h0:p0 x0 x1 x2)(h1:p1 x0 x1 x2):∃x0 x1 x2,p0 x0 x1 x2/\p1 x0 x1 x2:=⟨x0,x1,x2,h0,h1⟩
theorem qk{aN:Sort _}{bh:Sort _}{bW:Sort _}{p0 p1 p2:aN->bh->bW->Prop}(x0:aN)(x1:bh)(x2:bW)(h0:p0 x0 x1 x2)(h1:p1 x0 x1 x2)(h2:p2 x0 x1 x2):∃x0 x1 x2,p0 x0 x1 x2/\p1 x0 x1 x2/\p2 x0 x1 x2:=⟨x0,x1,x2,h0,h1,h2⟩
theorem kn{aN:Sort _}{bh:Sort _}{bW:Sort _}{p0 p1 p2 p3:aN->bh->bW->Prop}(x0:aN)(x1:bh)(x2:bW)(h0:p0 x0 x1 x2)(h1:p1 x0 x1 x2)(h2:p2 x0 x1 x2)(h3:p3 x0 x1 x2):∃x0 x1 x2,p0 x0 x1 x2/\p1 x0 x1 x2/\p2 x0 x1 x2/\p3 x0 x1 x2:=⟨x0,x1,x2,h0,h1,h2,h3⟩
theorem tT{aN:Sort _}{bh:Sort _}{bW:Sort _}{p0 p1 p2 p3 p4:aN->bh->bW->Prop}(x0:aN)(x1:bh)(x2:bW)(h0:p0 x0 x1 x2)(h1:p1 x0 x1 x2)(h2:p2 x0 x1 x2)(h3:p3 x0 x1 x2)(h4:p4 x0 x1 x2):∃x0 x1 x2,p0 x0 x1 x2/\p1 x0 x1 x2/\p2 x0 x1 x2/\p3 x0 x1 x2/\p4 x0 x1 x2:=⟨x0,x1,x2,h0,h1,h2,h3,h4⟩
theorem w7{aN:Sort _}{bh:Sort _}{bW:Sort _}{p0 p1 p2 p3 p4 p5:aN->bh->bW->Prop}(x0:aN)(x1:bh)(x2:bW)(h0:p0 x0 x1 x2)(h1:p1 x0 x1 x2)(h2:p2 x0 x1 x2)(h3:p3 x0 x1 x2)(h4:p4 x0 x1 x2)(h5:p5 x0 x1 x2):∃x0 x1 x2,p0 x0 x1 x2/\p1 x0 x1 x2/\p2 x0 x1 x2/\p3 x0 x1 x2/\p4 x0 x1 x2/\p5 x0 x1 x2:=⟨x0,x1,x2,h0,h1,h2,h3,h4,h5⟩
theorem ql{aN:Sort _}{bh:Sort _}{bW:Sort _}{p0 p1 p2 p3 p4 p5 p6:aN->bh->bW->Prop}(x0:aN)(x1:bh)(x2:bW)(h0:p0 x0 x1 x2)(h1:p1 x0 x1 x2)(h2:p2 x0 x1 x2)(h3:p3 x0 x1 x2)(h4:p4 x0 x1 x2)(h5:p5 x0 x1 x2)(h6:p6 x0 x1 x2):∃x0 x1 x2,p0 x0 x1 x2/\p1 x0 x1 x2/\p2 x0 x1 x2/\p3 x0 x1 x2/\p4 x0 x1 x2/\p5 x0 x1 x2/\p6 x0 x1 x2:=⟨x0,x1,x2,h0,h1,h2,h3,h4,h5,h6⟩
theorem Qf{aN:Sort _}{bh:Sort _}{bW:Sort _}{ef:Sort _}{p0 p1 p2:aN->bh->bW->ef->Prop}(x0:aN)(x1:bh)(x2:bW)(x3:ef)(h0:p0 x0 x1 x2 x3)(h1:p1 x0 x1 x2 x3)(h2:p2 x0 x1 x2 x3):∃x0 x1 x2 x3,p0 x0 x1 x2 x3/\p1 x0 x1 x2 x3/\p2 x0 x1 x2 x3:=⟨x0,x1,x2,x3,h0,h1,h2⟩
theorem Qg{aN:Sort _}{bh:Sort _}{bW:Sort _}{ef:Sort _}{p0 p1 p2 p3:aN->bh->bW->ef->Prop}(x0:aN)(x1:bh)(x2:bW)(x3:ef)(h0:p0 x0 x1 x2 x3)(h1:p1 x0 x1 x2 x3)(h2:p2 x0 x1 x2 x3)(h3:p3 x0 x1 x2 x3):∃x0 x1 x2 x3,p0 x0 x1 x2 x3/\p1 x0 x1 x2 x3/\p2 x0 x1 x2 x3/\p3 x0 x1 x2 x3:=⟨x0,x1,x2,x3,h0,h1,h2,h3⟩
theorem w8{aN:Sort _}{bh:Sort _}{bW:Sort _}{ef:Sort _}{p0 p1 p2 p3 p4 p5:aN->bh->bW->ef->Prop}(x0:aN)(x1:bh)(x2:bW)(x3:ef)(h0:p0 x0 x1 x2 x3)(h1:p1 x0 x1 x2 x3)(h2:p2 x0 x1 x2 x3)(h3:p3 x0 x1 x2 x3)(h4:p4 x0 x1 x2 x3)(h5:p5 x0 x1 x2 x3):∃x0 x1 x2 x3,p0 x0 x1 x2 x3/\p1 x0 x1 x2 x3/\p2 x0 x1 x2 x3/\p3 x0 x1 x2 x3/\p4 x0 x1 x2 x3/\p5 x0 x1 x2 x3:=⟨x0,x1,x2,x3,h0,h1,h2,h3,h4,h5⟩
theorem Qh{aN:Sort _}{bh:Sort _}{bW:Sort _}{ef:Sort _}{p0 p1 p2 p3 p4 p5 p6 p7 p8:aN->bh->bW->ef->Prop}(x0:aN)(x1:bh)(x2:bW)(x3:ef)(h0:p0 x0 x1 x2 x3)(h1:p1 x0 x1 x2 x3)(h2:p2 x0 x1 x2 x3)(h3:p3 x0 x1 x2 x3)(h4:p4 x0 x1 x2 x3)(h5:p5 x0 x1 x2 x3)(h6:p6 x0 x1 x2 x3)(h7:p7 x0 x1 x2 x3)(h8:p8 x0 x1 x2 x3):∃x0 x1 x2 x3,p0 x0 x1 x2 x3/\p1 x0 x1 x2 x3/\p2 x0 x1 x2 x3/\p3 x0 x1 x2 x3/\p4 x0 x1 x2 x3/\p5 x0 x1 x2 x3/\p6 x0 x1 x2 x3/\p7 x0 x1 x2 x3/\p8 x0 x1 x2 x3:=⟨x0,x1,x2,x3,h0,h1,h2,h3,h4,h5,h6,h7,h8⟩
theorem qm{aN:Sort _}{bh:Sort _}{bW:Sort _}{ef:Sort _}{gn:Sort _}{p0 p1 p2 p3:aN->bh->bW->ef->gn->Prop}(x0:aN)(x1:bh)(x2:bW)(x3:ef)(x4:gn)(h0:p0 x0 x1 x2 x3 x4)(h1:p1 x0 x1 x2 x3 x4)(h2:p2 x0 x1 x2 x3 x4)(h3:p3 x0 x1 x2 x3 x4):∃x0 x1 x2 x3 x4,p0 x0 x1 x2 x3 x4/\p1 x0 x1 x2 x3 x4/\p2 x0 x1 x2 x3 x4/\p3 x0 x1 x2 x3 x4:=⟨x0,x1,x2,x3,x4,h0,h1,h2,h3⟩
theorem Qi{aN:Sort _}{bh:Sort _}{bW:Sort _}{ef:Sort _}{gn:Sort _}{p0 p1 p2 p3 p4:aN->bh->bW->ef->gn->Prop}(x0:aN)(x1:bh)(x2:bW)(x3:ef)(x4:gn)(h0:p0 x0 x1 x2 x3 x4)(h1:p1 x0 x1 x2 x3 x4)(h2:p2 x0 x1 x2 x3 x4)(h3:p3 x0 x1 x2 x3 x4)(h4:p4 x0 x1 x2 x3 x4):∃x0 x1 x2 x3 x4,p0 x0 x1 x2 x3 x4/\p1 x0 x1 x2 x3 x4/\p2 x0 x1 x2 x3 x4/\p3 x0 x1 x2 x3 x4/\p4 x0 x1 x2 x3 x4:=⟨x0,x1,x2,x3,x4,h0,h1,h2,h3,h4⟩
theorem Qj{aN:Sort _}{bh:Sort _}{bW:Sort _}{ef:Sort _}{gn:Sort _}{p0 p1 p2 p3 p4 p5 p6:aN->bh->bW->ef->gn->Prop}(x0:aN)(x1:bh)(x2:bW)(x3:ef)(x4:gn)(h0:p0 x0 x1 x2 x3 x4)(h1:p1 x0 x1 x2 x3 x4)(h2:p2 x0 x1 x2 x3 x4)(h3:p3 x0 x1 x2 x3 x4)(h4:p4 x0 x1 x2 x3 x4)(h5:p5 x0 x1 x2 x3 x4)(h6:p6 x0 x1 x2 x3 x4):∃x0 x1 x2 x3 x4,p0 x0 x1 x2 x3 x4/\p1 x0 x1 x2 x3 x4/\p2 x0 x1 x2 x3 x4/\p3 x0 x1 x2 x3 x4/\p4 x0 x1 x2 x3 x4/\p5 x0 x1 x2 x3 x4/\p6 x0 x1 x2 x3 x4:=⟨x0,x1,x2,x3,x4,h0,h1,h2,h3,h4,h5,h6⟩
theorem GL{aN:Sort _}{bh:Sort _}{bW:Sort _}{ef:Sort _}{gn:Sort _}{lg:Sort _}{p0 p1 p2 p3 p4:aN->bh->bW->ef->gn->lg->Prop}(x0:aN)(x1:bh)(x2:bW)(x3:ef)(x4:gn)(x5:lg)(h0:p0 x0 x1 x2 x3 x4 x5)(h1:p1 x0 x1 x2 x3 x4 x5)(h2:p2 x0 x1 x2 x3 x4 x5)(h3:p3 x0 x1 x2 x3 x4 x5)(h4:p4 x0 x1 x2 x3 x4 x5):∃x0 x1 x2 x3 x4 x5,p0 x0 x1 x2 x3 x4 x5/\p1 x0 x1 x2 x3 x4 x5/\p2 x0 x1 x2 x3 x4 x5/\p3 x0 x1 x2 x3 x4 x5/\p4 x0 x1 x2 x3 x4 x5:=⟨x0,x1,x2,x3,x4,x5,h0,h1,h2,h3,h4⟩
theorem w9{aN:Sort _}{bh:Sort _}{bW:Sort _}{ef:Sort _}{gn:Sort _}{lg:Sort _}{p0 p1 p2 p3 p4 p5 p6:aN->bh->bW->ef->gn->lg->Prop}(x0:aN)(x1:bh)(x2:bW)(x3:ef)(x4:gn)(x5:lg)(h0:p0 x0 x1 x2 x3 x4 x5)(h1:p1 x0 x1 x2 x3 x4 x5)(h2:p2 x0 x1 x2 x3 x4 x5)(h3:p3 x0 x1 x2 x3 x4 x5)(h4:p4 x0 x1 x2 x3 x4 x5)(h5:p5 x0 x1 x2 x3 x4 x5)(h6:p6 x0 x1 x2 x3 x4 x5):∃x0 x1 x2 x3 x4 x5,p0 x0 x1 x2 x3 x4 x5/\p1 x0 x1 x2 x3 x4 x5/\p2 x0 x1 x2 x3 x4 x5/\p3 x0 x1 x2 x3 x4 x5/\p4 x0 x1 x2 x3 x4 x5/\p5 x0 x1 x2 x3 x4 x5/\p6 x0 x1 x2 x3 x4 x5:=⟨x0,x1,x2,x3,x4,x5,h0,h1,h2,h3,h4,h5,h6⟩
theorem B5{α:Type}{m:List α}{x y:α}{j:Nat}:m.length<((m++[x]).set j y).length:=by simp
theorem Im{α:Type}{m:List α}{x y:α}{j:Nat}:m.length<=((m++[x]).set j y).length:=by simp
theorem qE{α:Type}{m:List α}{y:α}{j:Nat}:m.length<=(m.set j y).length:=by simp
theorem Io{α:Type}{m:List α}{y:α}:m.length<=(m++[y]).length:=by simp
theorem Ip{α:Type}{m:List α}{y:α}:m.length<(m++[y]).length:=by simp
theorem Tu{α:Type}{m:List α}{x y:α}{j:Nat}(h:m[j]?=some x):(m.set j y)[j]?=some y:=List.getElem?_set_self (List.getElem?_eq_some_iff.mp h).1
theorem Iq{α:Type}{m:List α}{x y:α}:(m++[x]++[y])[m.length]?=some x:=by simp
theorem Ir{α:Type}{m:List α}{x y:α}:(m++[x]++[y])[m.length+1]?=some y:=by simp
theorem WJ{α:Type}{m:List α}{x:α}:(m++[x])[m.length]?=some x:=by simp
theorem Tv{α:Type}{x:α}:[x].Nodup:=by simp
theorem WK{α:Type}{p q:List α}{x:α}:x∈p++x::q:=by simp
theorem WL{α:Type}{p:List α}{x:α}:x∈p++[x]:=by simp
end
end Mine.Internal
end
section
set_option tactic.hygienic true
open PySem PySem.W PyProof.Rows
set_option maxHeartbeats 8000000
namespace Mine.Internal
noncomputable def tv(tb:String->Option Builtin)(p:Program)(w:World)(rV:Nat)(ann:Option Value)(n:Nat):SharedT->Thread->Option SharedT:=
 @Nat.rec (λ_=>SharedT->Thread->Option SharedT) (λ_ _=>none) (λ_ ih s t=>@Bool.casesOn (λ_=>Option SharedT) (through t)
  (@Bool.casesOn (λ_=>Option SharedT) (stepOk rV ann t) none (@Option.casesOn _ (λ_=>Option SharedT) (stepT (denote tb) p w s t) none λr=>ih r.1 r.2)) (some s)) n
theorem DL{tb:String->Option Builtin}{p:Program}{w:World}{rV:Nat}{ann:Option Value}:∀{n:Nat} {s s':SharedT} {t:Thread},tv tb p w rV ann n s t=some s'->topRun tb p w rV ann n s.abs t=some s'.abs
 |0,_,_,_,h=>by cases h
 |n+1,s,s',t,h=>by
  unfold topRun;revert h;show@Bool.casesOn (λ_=>Option SharedT) (through t) _ _=_->_;cases ht:through t with
  |true=>intro h;cases h;rfl
  |false=>
   show@Bool.casesOn (λ_=>Option SharedT) (stepOk rV ann t) _ _=_->_;cases hk:stepOk rV ann t with
   |false=>intro h;cases h
   |true=>
    show@Option.casesOn _ (λ_=>Option SharedT) (stepT (denote tb) p w s t) _ _=_->_;cases hs:stepT (denote tb) p w s t with
    |none=>intro h;cases h
    |some r=>obtain⟨qA,jC⟩:=r;intro h;dsimp only;rw[stepT_spec hs];exact DL h
noncomputable def Au(P:Params):BT:=((boot_heap P).objs.toList.foldl (λ(s:BT×Nat) o=>(s.1.ins s.2 o,s.2+1)) (.nil,0)).1
noncomputable def rL(w:World)(os:OsState):SharedT:=⟨Au w.params,11,(boot_heap w.params).life,#[],boot_drawn,boot_toks,os⟩
theorem K4{p q:Program}{loose:List Str}{Xt:Shared->Bool}{α:Type}{Yf:Shared->α}{Ya:World->α}{N:Nat}{rW:Nat}{ann:Option Value}
 (Av:∀w:World,(fencedOpening treeTable p w N).map (λs=>(s.heap,s.gens,s.drawn,s.toks))=some (boot_heap w.params,#[],boot_drawn,boot_toks))
 (hT:∀P,absHeap (Au P) 11 (boot_heap P).life=boot_heap P)
 (size:∀w:World,((boot_heap w.params).isNs mainGlobals&&(#[]:Array GenState).size==0,(boot_heap w.params).objs.size,(boot_heap w.params).nsMap mainGlobals "__annotations__")=(true,rW,ann))
 (Sr:∀(w:World) (os:OsState),(tv treeTable p w rW ann N (rL w os) (topStub p)).map (λs=>(openSeen q loose (importedModules p.main.body) Xt true s.abs).2)=some (openGood q loose).2)
 (Ss:∀(w:World) (os:OsState),(tv treeTable p w rW ann N (rL w os) (topStub p)).map (λs=>((staticsOk (importedModules p.main.body) (boot_heap w.params) s.abs.heap&&namesBound p s.abs.heap&&gensDone s.abs&&laidKept (boot_heap w.params) s.abs.heap),(openSeen q loose (importedModules p.main.body) Xt true s.abs).1,Yf s.abs))=some (true,(openGood q loose).1,Ya w)):LeftO p q loose Xt Yf Ya N:=λw=>by
 obtain⟨⟨h,gs,d,k,os⟩,e,e'⟩:=Option.map_eq_some_iff.mp (Av w);obtain⟨rfl,rfl,rfl,rfl⟩:h=boot_heap w.params/\gs=#[]/\d=boot_drawn/\k=boot_toks:=by simpa using e'
 obtain⟨z1,z2,z3⟩:_/\_/\_:=by simpa only[Prod.mk.injEq]using size w
 have a1:=Sr w os;obtain⟨s',r,l⟩:=Option.map_eq_some_iff.mp (Ss w os);rw[r]at a1;obtain⟨l1,b1,l3⟩:_/\_/\_:=by simpa only[Prod.mk.injEq]using l
 have l2:openSeen q loose (importedModules p.main.body) Xt true s'.abs=openGood q loose:=Prod.ext b1 (Option.some.inj a1);have r:=DL r;have es:(rL w os).abs=⟨boot_heap w.params,#[],boot_drawn,boot_toks,os⟩:=by unfold rL SharedT.abs;rw[hT]
 rw[es]at r;have t:topFrom treeTable p w N ⟨boot_heap w.params,#[],boot_drawn,boot_toks,os⟩=some s'.abs:=by unfold topFrom;dsimp only;rw[z1,z2,z3,r];show(match staticsOk (importedModules p.main.body) (boot_heap w.params) s'.abs.heap&&namesBound p s'.abs.heap&&gensDone s'.abs&&laidKept (boot_heap w.params) s'.abs.heap with|true=>_|false=>_)=_;rw[l1]
 unfold openEnds;rw[e];show(topFrom treeTable p w N ⟨boot_heap w.params,#[],boot_drawn,boot_toks,os⟩).map _=_;rw[t];show some (_,_)=_;rw[l2,l3]
noncomputable def pv:Program:=PySem.Challenge.rw_pc0257_01.row.prog
noncomputable def qv:Program:=view pv [1,2,3,4,5,6,8,9,10,11,12,14,15,16,17,18,19,20,21,22,23,24,25,26,27,28,29,30,31,32,33,35,36,37,38,40,41,42,43,44,45,46,47,48,49,50,51,52,53,54,55,56,57]
theorem K5(P:Params):absHeap (Au P) 11 (boot_heap P).life=boot_heap P:=by kernel_rfl
theorem M8(w:World):(fencedOpening treeTable pv w 6662).map (λs=>(s.heap,s.gens,s.drawn,s.toks))=some (boot_heap w.params,#[],boot_drawn,boot_toks):=boot_open (by kernel_rfl) (by decide+kernel) (λs=>by kernel_rfl) w
theorem M9(w:World):((boot_heap w.params).isNs mainGlobals&&(#[]:Array GenState).size==0,(boot_heap w.params).objs.size,(boot_heap w.params).nsMap mainGlobals "__annotations__")=(true,11,some (.ref 6)):=by kernel_rfl
theorem M'(w:World)(os:OsState):(tv treeTable pv w 11 (some (.ref 6)) 6662 (rL w os) (topStub pv)).map (λs=>(openSeen qv [Str.ofString "Thrown"] (importedModules pv.main.body) (λs=>xlAt Mine.Internal.qv [] s&&recOk (RowW.records PySem.Challenge.rw_pc0257_01.row.toRowW) s) true s.abs).2)=some (openGood qv [Str.ofString "Thrown"]).2:=by kernel_rfl
theorem Vw:PySem.Challenge.rw_pc0257_01.wellSaid=true:=by kernel_rfl
theorem Vx(H:Hook)(r3:∀(w:World) (os:OsState),(tv treeTable pv w 11 (some (.ref 6)) 6662 (rL w os) (topStub pv)).map (λs=>((staticsOk (importedModules pv.main.body) (boot_heap w.params) s.abs.heap&&namesBound pv s.abs.heap&&gensDone s.abs&&laidKept (boot_heap w.params) s.abs.heap),(openSeen qv [Str.ofString "Thrown"] (importedModules pv.main.body) (λs=>xlAt qv [] s&&recOk (RowW.records PySem.Challenge.rw_pc0257_01.row.toRowW) s) true s.abs).1,H.obs s.abs))=some (true,(openGood qv [Str.ofString "Thrown"]).1,H.val w)){d:DefRec}{B6:List (Str×Expr)}(Su:defOf qv PySem.Challenge.rw_pc0257_01.row.name=some (d,B6))(hp:PySem.Challenge.rw_pc0257_01.row.prog.theDef PySem.Challenge.rw_pc0257_01.row.name=some (d.params,d.body,d.scope))(hk:kwWritten? d.params.kwonlyargs d.params.kw_defaults=some B6)
 (hw:PySem.Challenge.rw_pc0257_01.row.toRowW.promised)(call:WalkO qv [Str.ofString "Thrown"] (XL qv []) H.says PySem.Challenge.rw_pc0257_01.row.toRowW d B6 λf vs=>PySem.call f vs):PySem.Challenge.rw_pc0257_01.row.Holds:=
 holds_open (q:=qv) (loose:=[Str.ofString "Thrown"]) (Xt:=λs=>xlAt qv [] s&&recOk (RowW.records PySem.Challenge.rw_pc0257_01.row.toRowW) s) (XP:=XL qv []) (Yf:=H.obs) (Ya:=H.val) (YP:=H.says) (N:=6662) (K4 M8 K5 M9 M' r3) H.of H.keeps (λs e=>xl_of s (Bool.and_eq_true_iff.mp e).1) XL.keeps Su hp hk (λs e=>recFacts_of (Bool.and_eq_true_iff.mp e).2) (by rfl) (by decide+kernel) (by decide+kernel) ⟨rfl,rfl,rfl,rfl,rfl,by decide+kernel⟩ hw call
end Mine.Internal
local macro_rules (kind:=PySem.W.tacticO_law)|x=>pure (Mine.Internal.xB [] "(refine 'refine [app holds_law = Mine.Internal.Vw [fun 'fun [basicFun = [hole '_ ) ) = ) '=> [syntheticHole '? '_ ) ) ) ) ) )")
local macro_rules (kind:=PySem.W.tacticO_head_)|x=>let b:="[byTactic 'by { (tacticRfl 'rfl ) } ) ";pure (Mine.Internal.xB [[x[1]]] ("(refine 'refine [app Mine.Internal.Vx = * [fun 'fun [basicFun = w os ) = ) '=> [byTactic 'by { <tacticKernel_rfl 'kernel_rfl ) } ) ) ) "++b++b++b++"[syntheticHole '? hw ) [syntheticHole '? hc ) ) ) )"))
open_top hd for PySem.Challenge.rw_pc0257_01
end
noncomputable section
namespace Mine.Internal
open PySem PySem.W PySem.Calls PyProof.Rows
open List (getElem?_set_ne getElem?_set_self mem_map replicate getElem?_append_left mem_filterMap length_set lookup_cons mem_append_right mem_append_left mem_cons size_toArray getElem?_concat_length getElem?_map map_map mem_cons_self length_map filterMap_append filterMap_map mem_of_getElem? filterMap_cons map_cons)
open Nat (zero_le le_refl le_trans lt_of_lt_of_le le_add_right ne_of_lt le_succ le_of_ble_eq_true)
open Option (map_eq_some_iff)
open PySem.Str (ofString)
section
structure c9 where
 params:Arguments
 body:List Stmt
 scope:Scope
noncomputable def B7:List Stmt->Nat->Stmt
 |a::_,0=>a
 |_::l,k+1=>B7 l k
 |[],_=>.Pass ⟨0,0,0,0⟩
noncomputable def inner:Stmt->List Stmt
 |.ClassDef _ _ _ b _ _ _ _ _ _ _=>b
 |_=>[]
noncomputable def Sv:Stmt->Arguments
 |.FunctionDef _ a _ _ _ _ _ _ _ _=>a
 |_=>⟨[],[],none,[],[],none,[]⟩
noncomputable def Sw:Stmt->List Stmt
 |.FunctionDef _ _ b _ _ _ _ _ _ _=>b
 |_=>[]
noncomputable def Sx:Stmt->Scope
 |.FunctionDef _ _ _ _ _ _ s _ _ _=>s
 |_=>⟨.function,[],false,false,[]⟩
def bU(s:Stmt):c9:=⟨Sv s,Sw s,Sx s⟩
def fg(k:Nat):Stmt:=B7 PySem.Challenge.pw_pc0257_01.main.body k
def ow(k j:Nat):Stmt:=B7 (inner (fg k)) j
def lL:c9:=bU (fg 57)
noncomputable abbrev cG(items:List Value)(n:Nat):Obj:={cls:=.type "list",data:=.seq items.toArray n}
structure ip(A:Around)(n:Nat):Prop where
 hh:A.handled=none
 depth:A.depth+3*n<=900
 units:A.units+10*n<=9000
structure uV where
 w:World
 h₀:Heap
 loose:List Str
 HC:ExcName->Option Value
 mg:Str->Option Value
 mb:Str->Option Value
noncomputable def KK(P:Params):Frag:=_root_.hd.heap_1 P
def uW(c:uV):Prop:=(KK c.w.params).In c.h₀->Top qv c.loose c.HC c.mg c.mb c.h₀->
 ∀{A:Around} {J:Env} {s:Shared} {l:Addr} {vs:List Value} {ns:List Int} {oc:Obj} {mL:Str->Option Value} {E:Value->Shared->Prop} {Q:Flow->Shared->Prop},ip A 199->J.scope=lL.scope->J.globals=mainGlobals->J.builtins=builtinsNs->J.cells=[(ofString "script",J.locals+1)]->
  c.h₀.get? l=some (cG vs 0)->IntsAre vs ns->ns.length<=63->(∀b o,c.h₀.get? b=some o->s.heap.get? b=some o)->c.h₀.objs.size<=J.locals->s.heap.Ns J.locals mL->s.heap.get? (J.locals+1)=some oc->oc.data=.cell (some (.ref l))->
  (∀h' tk,(∀b o,c.h₀.get? b=some o->h'.get? b=some o)->Q (.ret (.bool true)) {s with heap:=h',toks:=tk})->wpAny (model pv c.w) A (execs lL.body J) Q E s
theorem Tw:Nonempty uV:=⟨⟨⟨λ_ _=>0,⟨λ_=>0,λ_=>0,id,λ_=>0,λ_ _=>0,λ_=>false,λ_=>0,.refcount,.text,λ_=>0,λ_=>none,λ_=>false,λ_ _ _=>true,λ_ _ _=>false,true,λ_=>false,λ_=>none,λ_=>none,λ_ _ _=>0,λ_ _=>none,λ_=>none,λ_=>(0,false,""),λ_=>none,λd=>d,λ_=>false⟩⟩,default,[],λ_=>none,λ_=>none,λ_=>none⟩⟩
noncomputable def cc:uV:=@Classical.epsilon uV Tw λc=>¬uW c
theorem Na(h:uW cc)(c:uV):uW c:=Classical.byContradiction λn=>Classical.epsilon_spec (p:=λc=>¬uW c) ⟨c,n⟩ h
noncomputable def prog:Program:=pv
noncomputable def w:World:=cc.w
noncomputable def B.K:Frag:=KK cc.w.params
noncomputable def B.h₀:Heap:=cc.h₀
noncomputable def B.mg:Str->Option Value:=cc.mg
noncomputable def B.mb:Str->Option Value:=cc.mb
structure OF:Prop where
 X:B.K.In B.h₀
 T:Top qv cc.loose cc.HC B.mg B.mb B.h₀
end
section
theorem K6:typeLookup (.type "list") (ofString "keys")=pure none:=am_miss_of_fast (by kernel_rfl)
section
variable{A:Around}{E:Value->Shared->Prop}{s:Shared}
theorem K7{a:Addr}{xs:Array Value}{k:Nat}{Q:Option Value->Shared->Prop}(hx:s.heap.get? a=some {cls:=.type "list",data:=.seq xs k})(hA:A.handled=none)
 (h:∀h' tk,(∀b o,s.heap.get? b=some o->h'.get? b=some o)->Q none {s with heap:=h',toks:=tk}):wpAny (model prog w) A (getAttr? (.ref a) (ofString "keys")) Q E s:=by
 obtain⟨hp,g,d,tk,os⟩:=s;have hT:∀b0,(⟨hp,g,d,b0,os⟩:Shared).TypeIs (.ref a) "list":=λ_=>⟨_,hx,rfl⟩;have f1:=sub_AttributeError;have f3:=F.slot_list_getattribute.lookup;have f4:=F.slot_list_getattribute.bind (.ref a);have f5:=am_list_getattr_none;have Qk:=K6;repeat(any_goals(first|assumption|exact hT _|((with_reducible show wpAny _ _ (call (Value.builtin "list.__getattribute__") _ _) _ _ _);refine call_meets F.slot_list_getattribute (hT _) am_entry_list_getattribute (F.args_list_getattribute_2 _ _) (meets_getattribute_miss_list a xs k #[] (ofString "keys") _ Qk (by decide+kernel) (by rw[sizeLine_eq];decide)) ⟨hx,hA,λh' b0 e pC=>?_⟩)|wp_step))
 refine xo pC.there λt' u' he=>?_;show wpAny _ _ (getattributeRaised _ _ _ _ _ _ _) _ _ _;repeat(any_goals(first|assumption|wp_step))
 exact h h' b0 pC.keeps
end
end
end Mine.Internal
end
noncomputable section
namespace Mine.Internal
local macro_rules (kind:=Lean.Parser.Tactic.omega)|x=>pure (xB [] ("F | (assumption 'assumption ) / "++xT "| (paren '( { (tactic_<;>_ (apply 'apply " " ) '<;> (assumption 'assumption ) ) } ') ) / " "Nat.le_refl Nat.le_add_right Nat.lt_succ_self Nat.le_of_lt Nat.ne_of_lt Nat.ne_of_gt"++xT "| (exact 'exact [app " " = [byTactic 'by { (assumption 'assumption ) } ) rfl ) ) ) / " "WI VC"++"| (exact 'exact [app Nat.le_of_ble_eq_true = rfl ) ) ) / "++"| (lia 'lia (optConfig = ) ) ) / f")) local macro_rules (kind:=Lean.Parser.Tactic.rwSeq)|x=>if x[3].isNone then pure (xB [x[2][1].getSepArgs.toList.foldl (λa r=>a++[xR r,.atom .none ";"]) []] "(paren '( { * (tacticTry_ 'try { (withReducible 'with_reducible { (tacticRfl 'rfl ) } ) } ) } ') )")else Lean.Macro.throwUnsupported
section
open PySem PySem.W PySem.Calls PyProof.Rows
open List (getElem?_set_ne getElem?_set_self mem_map replicate getElem?_append_left mem_filterMap length_set lookup_cons mem_append_right mem_append_left mem_cons size_toArray getElem?_concat_length getElem?_map map_map mem_cons_self length_map filterMap_append filterMap_map mem_of_getElem? filterMap_cons map_cons)
open Nat (zero_le le_refl le_trans lt_of_lt_of_le le_add_right ne_of_lt le_succ le_of_ble_eq_true)
open Option (map_eq_some_iff)
open PySem.Str (ofString)
section
theorem oR(h:ofString a=ofString b):a=b:=by
 rw[Str.ofString_eq_toList,Str.ofString_eq_toList]at h;have h1:a.toList.map Char.toNat=b.toList.map Char.toNat:=by injection h with h;exact(List.toArray_inj h)
 have h2:a.toList=b.toList:=by refine List.map_inj_right (f:=Char.toNat) ?_|>.mp h1;intro x y e;exact Char.toNat_inj.mp e
 exact String.toList_inj.mp h2
inductive V where
 |none|bool(b:Bool)|int(i:Int)|str(s:String)|ref(i:Nat)|absent|tup(vs:List V)|lst(vs:List V)|iM(n:Nat)
noncomputable def V.ctorIdx(x:V):Nat:=@V.casesOn (λ_=>Nat) x 0 (λ_=>1) (λ_=>2) (λ_=>3) (λ_=>4) 5 (λ_=>6) (λ_=>7) (λ_=>8)
inductive DK where
 |int(i:Int)|str(s:String)
noncomputable def DK.ctorIdx(x:DK):Nat:=@DK.casesOn (λ_=>Nat) x (λ_=>0) (λ_=>1)
deriving instance DecidableEq for DK
set_option genCtorIdx true in
inductive jr where
 |arr|ref|abs
 deriving DecidableEq
inductive FV where
 |val(v:V)|lst(xs:List V)|js
noncomputable def FV.ctorIdx(x:FV):Nat:=@FV.casesOn (λ_=>Nat) x (λ_=>0) (λ_=>1) 2
inductive MO where
 |inst(c:jr)(fs:List (String×FV))|dict(es:List (DK×V))|list(xs:List V)
noncomputable def MO.ctorIdx(x:MO):Nat:=@MO.casesOn (λ_=>Nat) x (λ_ _=>0) (λ_=>1) (λ_=>2)
noncomputable abbrev Hp:=List MO
noncomputable abbrev av:=String->Option V
noncomputable def av.set(l:av)(x:String)(v:V):av:=λy=>if y=x then some v else l y
inductive fB where
 |free|fu|obj(i:Nat)(p:String)
noncomputable def fB.ctorIdx(x:fB):Nat:=@fB.casesOn (λ_=>Nat) x 0 1 (λ_ _=>2)
structure G where
 news:List (Addr×Obj)
 tag:Addr->fB
 dm:List Addr
 top:Nat
structure Aw(K:Frag)(C:Addr):Prop where
 dict:hasDictIn K C=true
 setattr:findIn K (.ref C) "__setattr__"=some (some (.builtin "object.__setattr__"))
 over:plainOver K C=true
 yN:findIn K (.ref C) "__getattribute__"=some (some (.builtin "object.__getattribute__"))
 getattr:findIn K (.ref C) "__getattr__"=some none
noncomputable def hB:List String:=["is_packed","keys","vals","heads","nexts","size","count","next","at","is_shared","walks","value","holders","types","was_unset"]
noncomputable def eE:jr->Addr
 |.arr=>241|.ref=>106|.abs=>128
theorem B.pD(c:jr):Aw B.K (eE c):=by cases c<;>exact⟨rfl,rfl,rfl,rfl,rfl⟩
theorem B.fld(c:jr):∀f∈hB,findIn B.K (.ref (eE c)) (ofString f)=some none:=by
 have h:∀c,(hB.all λf=>findIn B.K (.ref (eE c)) (ofString f)==some none)=true:=by intro c;delta B.K KK;cases c<;>rfl
 intro f hf;exact beq_iff_eq.mp (List.all_eq_true.mp (h c) f hf)
noncomputable abbrev nq(items:List Value)(n:Nat):Obj:={cls:=.type "tuple",data:=.seq items.toArray n}
noncomputable abbrev wF(n:Nat)(t u v:Tok):Obj:={cls:=.type "range",data:=.fields #[.int 0 t,.int n u,.int 1 v]}
section
mutual
inductive aA(g:G):V->Value->Prop where
 |none:aA g .none .none
 |bool (b:Bool):aA g (.bool b) (.bool b)
 |int (i:Int) (t:Tok):aA g (.int i) (.int i t)
 |str (s:String) (t:Tok):aA g (.str s) (.str (ofString s) t)
 |ref {i:Nat} {a:Addr}:g.dm[i]?=some a->aA g (.ref i) (.ref a)
 |absent {a dx:Addr}:(a,instObj (eE .abs) dx)∈g.news->g.tag a=.fu->aA g .absent (.ref a)
 |tup {a:Addr} {items:List Value} {n:Nat} {vs:List V}:(a,nq items n)∈g.news->g.tag a=.fu->bD g vs items->aA g (.tup vs) (.ref a)
 |lst {a:Addr} {items:List Value} {n:Nat} {vs:List V}:(a,cG items n)∈g.news->g.tag a=.fu->bD g vs items->aA g (.lst vs) (.ref a)
 |iM {a:Addr} {n:Nat} {t u v:Tok}:(a,wF n t u v)∈g.news->g.tag a=.fu->n<=1000->aA g (.iM n) (.ref a)
inductive bD(g:G):List V->List Value->Prop where
 |nil:bD g [] []
 |cons {v:V} {x:Value} {vs:List V} {xs:List Value}:aA g v x->bD g vs xs->bD g (v::vs) (x::xs)
end
def Wr(μ:Nat):fB->Prop
 |.obj _ p=>2<=μ\/(1<=μ/\p="#")
 |_=>False
theorem Wr.up{μ ν:Nat}(h:μ<=ν)(q:Wr μ t):Wr ν t:=by
 cases t with
 |obj i p=>exact q.elim (λq=>.inl (by omega)) λq=>.inr ⟨by omega,q.2⟩
 |_=>exact q.elim
structure Le(μ:Nat)(ex:Addr->Prop)(g g':G):Prop where
 keep:∀a o,(a,o)∈g.news->¬Wr μ (g.tag a)->¬ex a->(a,o)∈g'.news/\g'.tag a=g.tag a
 dm:∃t,g'.dm=g.dm++t
 top:g.top<=g'.top
abbrev cC:Addr->Prop:=λ_=>False
theorem Le.refl(μ:Nat)(ex:Addr->Prop)(g:G):Le μ ex g g:=⟨λ_ _ h _ _=>⟨h,rfl⟩,⟨[],by simp⟩,le_refl _⟩
theorem Le.trans{μ:Nat}{ex:Addr->Prop}(a:Le μ ex g g')(b:Le μ ex g' bp):Le μ ex g bp:=by
 refine⟨λx o h t e=>?_,?_,le_trans a.top b.top⟩
 .refine bT (a.keep x o h t e) λh1 t1=>?_;refine bT (b.keep x o h1 (by rw[t1];exact t) e) λh2 t2=>?_;exact⟨h2,t2.trans t1⟩
 .refine cW a.dm λt h=>?_;refine cW b.dm λt' h'=>?_;exact⟨t++t',by rw[h',h,List.append_assoc]⟩
theorem Le.weak{μ:Nat}{ex ex':Addr->Prop}(a:Le μ ex g g')(h:∀x,ex x->ex' x):Le μ ex' g g':=⟨λx o m t e=>a.keep x o m t λq=>e (h x q),a.dm,a.top⟩
theorem Le.up{μ ν:Nat}{ex:Addr->Prop}(a:Le μ ex g g')(h:μ<=ν):Le ν ex g g':=⟨λx o m t e=>a.keep x o m (λq=>t (q.up h)) e,a.dm,a.top⟩
theorem Le.mG{μ:Nat}{ex:Addr->Prop}(a:Le μ ex g g'){i:Nat}(h:g.dm[i]?=some x):g'.dm[i]?=some x:=by refine cW a.dm λt e=>?_;rw[e,getElem?_append_left ((List.getElem?_eq_some_iff.mp h).1)];exact h
def jc(ex:Addr->Prop)(g:G):Prop:=∀a,ex a->g.tag a≠.fu
theorem bD.ind{P:List V->List Value->Prop}(n:P [] [])(c:∀v x vs xs,aA g v x->bD g vs xs->P vs xs->P (v::vs) (x::xs))(h:bD g vs xs):P vs xs:=bD.rec (motive_1:=λ_ _ _=>True) (motive_2:=λvs xs _=>P vs xs) trivial (λ_=>trivial) (λ_ _=>trivial) (λ_ _=>trivial) (λ_=>trivial) (λ_ _=>trivial) (λ_ _ _ _=>trivial) (λ_ _ _ _=>trivial) (λ_ _ _=>trivial) n (λa b _ ih=>c _ _ _ _ a b ih) h
theorem Le.fu{μ:Nat}{ex:Addr->Prop}(h:Le μ ex g g')(hx:jc ex g)(m:(a,o)∈g.news)(t:g.tag a=.fu):(a,o)∈g'.news/\g'.tag a=.fu:=
 have q:=h.keep _ _ m (by rw[t];exact id) (λe=>hx _ e t)
 ⟨q.1,q.2.trans t⟩
theorem aA.mono{μ:Nat}{ex:Addr->Prop}(h:Le μ ex g g')(hx:jc ex g)(r:aA g v x):aA g' v x:=aA.rec (motive_1:=λv x _=>aA g' v x) (motive_2:=λvs xs _=>bD g' vs xs) .none .bool .int .str (λe=>.ref (h.mG e)) (λm t=>.absent (h.fu hx m t).1 (h.fu hx m t).2) (λm t _ ih=>.tup (h.fu hx m t).1 (h.fu hx m t).2 ih) (λm t _ ih=>.lst (h.fu hx m t).1 (h.fu hx m t).2 ih) (λm t hn=>.iM (h.fu hx m t).1 (h.fu hx m t).2 hn) .nil (λ_ _ a b=>.cons a b) r
theorem bD.mono{μ:Nat}{ex:Addr->Prop}(h:Le μ ex g g')(hx:jc ex g)(r:bD g vs xs):bD g' vs xs:=r.ind .nil λ_ _ _ _ a _ ih=>.cons (a.mono h hx) ih
theorem bD.length(h:bD g vs xs):xs.length=vs.length:=h.ind (P:=λvs xs=>xs.length=vs.length) rfl λ_ _ _ _ _ _ ih=>congrArg (·+1) ih
theorem bD.get(h:bD g vs xs):∀{i:Nat} {v:V},vs[i]?=some v->∃x,xs[i]?=some x/\aA g v x:=
 h.ind (P:=λvs xs=>∀{i:Nat} {v:V},vs[i]?=some v->∃x,xs[i]?=some x/\aA g v x) (λe=>nomatch e) λv x vs xs a _ ih {i u} e=>match i,e with
  |0,e=>(a0 x rfl (Option.some.inj e▸a))
  |i+1,e=>ih e
theorem bD.append{vs us:List V}{xs ys:List Value}(h:bD g vs xs)(q:bD g us ys):bD g (vs++us) (xs++ys):=h.ind (P:=λvs xs=>bD g (vs++us) (xs++ys)) q λ_ _ _ _ a _ ih=>.cons a ih
theorem bD.set(h:aA g u y)(r:bD g vs xs):∀(i:Nat),bD g (vs.set i u) (xs.set i y):=
 r.ind (P:=λvs xs=>∀(i:Nat),bD g (vs.set i u) (xs.set i y)) (λ_=>.nil) λ_ _ _ _ a b ih i=>match i with
  |0=>.cons h b
  |i+1=>.cons a (ih i)
theorem bD.take(r:bD g vs xs):∀n,bD g (vs.take n) (xs.take n):=
 r.ind (P:=λvs xs=>∀n,bD g (vs.take n) (xs.take n)) (λn=>match n with|0=>.nil|_+1=>.nil) λ_ _ _ _ a _ ih n=>match n with
  |0=>.nil
  |n+1=>.cons a (ih n)
theorem bD.drop(r:bD g vs xs):∀n,bD g (vs.drop n) (xs.drop n):=
 r.ind (P:=λvs xs=>∀n,bD g (vs.drop n) (xs.drop n)) (λn=>match n with|0=>.nil|_+1=>.nil) λ_ _ _ _ a b ih n=>match n with
  |0=>.cons a b
  |n+1=>ih n
theorem bD.dropLast(r:bD g vs xs):bD g vs.dropLast xs.dropLast:=by rw[List.dropLast_eq_take,List.dropLast_eq_take,r.length];exact r.take _
theorem fh{β γ:Type}{m:Option (β×γ)}{F:β->γ->Prop}{r:β}{c:γ}(h:m=some (r,c))(H:∀P:β->γ->Prop,(∀r c,F r c->P r c)->∀r c,m=some (r,c)->P r c):F r c:=H F (λ_ _ g=>g) _ _ h
theorem k6{β γ δ:Type}{m:Option (β×γ×δ)}{F:β->γ->δ->Prop}{r:β}{c:γ}{d:δ}(h:m=some (r,c,d))(H:∀P:β->γ->δ->Prop,(∀r c d,F r c d->P r c d)->∀r c d,m=some (r,c,d)->P r c d):F r c d:=H F (λ_ _ _ g=>g) _ _ _ h
theorem eZ{β γ:Type}{a r:β}{b c:γ}{C:β->γ->Prop}(h:some (a,b)=some (r,c))(k:C a b):C r c:=by cases h;exact k
theorem kS{β γ δ:Type}{a r:β}{b c:γ}{x d:δ}{C:β->γ->δ->Prop}(h:some (a,b,x)=some (r,c,d))(k:C a b x):C r c d:=by cases h;exact k
end
theorem gg{β:Type}{a r:β}{C:β->Prop}(h:some a=some r)(k:C a):C r:=by cases h;exact k
theorem kr{β:Type}{c:Prop}[Decidable c]{t:Option β}{r:β}{C:Prop}(h:(if c then t else none)=some r)(k:c->t=some r->C):C:=by
 by_cases hc:c
 .rw[if_pos hc]at h;exact k hc h
 .rw[if_neg hc]at h;cases h
theorem tU{γ:Type}{x:Option DK}{F:DK->Option γ}{r:γ}{C:Prop}(h:(match x with|some a=>F a|none=>none)=some r)(k:∀a,x=some a->F a=some r->C):C:=by
 cases x with
 |none=>exact aX h
 |some a=>exact k a rfl h
theorem Ql{γ:Type}{x:Option V}{F:V->Option γ}{r:γ}{C:Prop}(h:(match x with|some a=>F a|none=>none)=some r)(k:∀a,x=some a->F a=some r->C):C:=by
 cases x with
 |none=>exact aX h
 |some a=>exact k a rfl h
theorem Qm{γ:Type}{x:Option Hp}{F:Hp->Option γ}{r:γ}{C:Prop}(h:(match x with|some a=>F a|none=>none)=some r)(k:∀a,x=some a->F a=some r->C):C:=by
 cases x with
 |none=>exact aX h
 |some a=>exact k a rfl h
theorem VW{γ:Type}{x:Option (List V)}{F:(List V)->Option γ}{r:γ}{C:Prop}(h:(match x with|some a=>F a|none=>none)=some r)(k:∀a,x=some a->F a=some r->C):C:=by
 cases x with
 |none=>exact aX h
 |some a=>exact k a rfl h
theorem j9{γ:Type}{x:Option (V×Hp)}{F:V->Hp->Option γ}{r:γ}{C:Prop}(h:(match x with|some (a,b)=>F a b|none=>none)=some r)(k:∀a b,x=some (a,b)->F a b=some r->C):C:=by
 cases x with
 |none=>exact aX h
 |some a=>exact k _ _ rfl h
theorem xa{γ:Type}{x:Option (List V×Hp)}{F:List V->Hp->Option γ}{r:γ}{C:Prop}(h:(match x with|some (a,b)=>F a b|none=>none)=some r)(k:∀a b,x=some (a,b)->F a b=some r->C):C:=by
 cases x with
 |none=>exact aX h
 |some a=>exact k _ _ rfl h
theorem VX{γ:Type}{x:Option (Bool×Hp)}{F:Bool->Hp->Option γ}{r:γ}{C:Prop}(h:(match x with|some (a,b)=>F a b|none=>none)=some r)(k:∀a b,x=some (a,b)->F a b=some r->C):C:=by
 cases x with
 |none=>exact aX h
 |some a=>exact k _ _ rfl h
theorem Ax{γ:Type}{x:Option (Nat×Hp)}{F:Nat->Hp->Option γ}{r:γ}{C:Prop}(h:(match x with|some (a,b)=>F a b|none=>none)=some r)(k:∀a b,x=some (a,b)->F a b=some r->C):C:=by
 cases x with
 |none=>exact aX h
 |some a=>exact k _ _ rfl h
theorem Ay{γ:Type}{x:Option (jr×List (String×FV)×List V)}{F:jr->List (String×FV)->List V->Option γ}{r:γ}{C:Prop}(h:(match x with|some (a,b,c)=>F a b c|none=>none)=some r)(k:∀a b c,x=some (a,b,c)->F a b c=some r->C):C:=by
 cases x with
 |none=>exact aX h
 |some a=>exact k _ _ _ rfl h
theorem oA{γ:Type}{x:Option (V×Hp)}{F:Nat->Hp->Option γ}{r:γ}{C:Prop}(h:(match x with|some (.ref i,b)=>F i b|_=>none)=some r)(k:∀i b,x=some (.ref i,b)->F i b=some r->C):C:=by
 cases x with
 |none=>exact aX h
 |some p=>obtain⟨v,b⟩:=p;cases v<;>first|exact k _ _ rfl h|cases h
theorem Bm{γ:Type}{x:Option MO}{F:List V->Option γ}{r:γ}{C:Prop}(h:(match x with|some (.list xs)=>F xs|_=>none)=some r)(k:∀xs,x=some (.list xs)->F xs=some r->C):C:=by
 cases x with
 |none=>exact aX h
 |some p=>cases p<;>first|exact k _ rfl h|cases h
theorem uv{γ:Type}{x:Option MO}{F:List (DK×V)->Option γ}{r:γ}{C:Prop}(h:(match x with|some (.dict xs)=>F xs|_=>none)=some r)(k:∀xs,x=some (.dict xs)->F xs=some r->C):C:=by
 cases x with
 |none=>exact aX h
 |some p=>cases p<;>first|exact k _ rfl h|cases h
theorem Az{γ:Type}{x:Option FV}{F:List V->Option γ}{r:γ}{C:Prop}(h:(match x with|some (.lst xs)=>F xs|_=>none)=some r)(k:∀xs,x=some (.lst xs)->F xs=some r->C):C:=by
 cases x with
 |none=>exact aX h
 |some p=>cases p<;>first|exact k _ rfl h|exact aX h
theorem Qn{γ:Type}{x:Option FV}{F:V->Option γ}{r:γ}{C:Prop}(h:(match x with|some (.val v)=>F v|_=>none)=some r)(k:∀v,x=some (.val v)->F v=some r->C):C:=by
 cases x with
 |none=>exact aX h
 |some p=>cases p<;>first|exact k _ rfl h|exact aX h
theorem Qo{γ:Type}{x:Option V}{F:Int->Option γ}{r:γ}{C:Prop}(h:(match x with|some (.int a)=>F a|_=>none)=some r)(k:∀a,x=some (.int a)->F a=some r->C):C:=by
 cases x with
 |none=>exact aX h
 |some p=>cases p<;>first|exact k _ rfl h|exact aX h
theorem Bn{γ:Type}{x:Option (V×Hp)}{F:Int->Hp->Option γ}{r:γ}{C:Prop}(h:(match x with|some (.int i,b)=>F i b|_=>none)=some r)(k:∀i b,x=some (.int i,b)->F i b=some r->C):C:=by
 cases x with
 |none=>exact aX h
 |some p=>obtain⟨v,b⟩:=p;cases v<;>first|exact k _ _ rfl h|exact aX h
theorem GN{γ:Type}{x:Option (V×Hp)}{F:List V->Hp->Option γ}{r:γ}{C:Prop}(h:(match x with|some (.tup i,b)=>F i b|_=>none)=some r)(k:∀i b,x=some (.tup i,b)->F i b=some r->C):C:=by
 cases x with
 |none=>exact aX h
 |some p=>obtain⟨v,b⟩:=p;cases v<;>first|exact k _ _ rfl h|exact aX h
theorem Sy{γ:Type}{x:Option (V×Hp)}{F:Hp->Option γ}{r:γ}{C:Prop}(h:(match x with|some (.none,b)=>F b|_=>none)=some r)(k:∀b,x=some (.none,b)->F b=some r->C):C:=by
 cases x with
 |none=>exact aX h
 |some p=>obtain⟨v,b⟩:=p;cases v<;>first|exact k _ rfl h|exact aX h
theorem GO{γ:Type}{x:Option Int}{F:Int->Option γ}{r:γ}{C:Prop}(h:(match x with|some a=>F a|none=>none)=some r)(k:∀a,x=some a->F a=some r->C):C:=by
 cases x with
 |none=>exact aX h
 |some a=>exact k a rfl h
theorem Qp{γ:Type}{x:Option av}{F:av->Option γ}{r:γ}{C:Prop}(h:(match x with|some a=>F a|none=>none)=some r)(k:∀a,x=some a->F a=some r->C):C:=by
 cases x with
 |none=>exact aX h
 |some a=>exact k a rfl h
theorem GP{γ:Type}{x:Option MO}{F:List V->Option γ}{G:List (DK×V)->Option γ}{r:γ}{C:Prop}(h:(match x with|some (.list xs)=>F xs|some (.dict es)=>G es|_=>none)=some r)(k:∀xs,x=some (.list xs)->F xs=some r->C)(q:∀es,x=some (.dict es)->G es=some r->C):C:=by
 cases x with
 |none=>exact aX h
 |some p=>cases p<;>first|exact k _ rfl h|exact q _ rfl h|exact aX h
theorem Qq{γ:Type}{x:Option Bool}{F G:Option γ}{r:γ}{C:Prop}(h:(match x with|some true=>F|some false=>G|none=>none)=some r)(k:x=some true->F=some r->C)(q:x=some false->G=some r->C):C:=by
 cases x with
 |none=>exact aX h
 |some b=>cases b<;>first|exact k rfl h|exact q rfl h
theorem GQ{γ:Type}{x:Option (Bool×Hp)}{F G:Hp->Option γ}{r:γ}{C:Prop}(h:(match x with|some (true,b)=>F b|some (false,b)=>G b|none=>none)=some r)(k:∀b,x=some (true,b)->F b=some r->C)(q:∀b,x=some (false,b)->G b=some r->C):C:=by
 cases x with
 |none=>exact aX h
 |some p=>obtain⟨v,b⟩:=p;cases v<;>first|exact k _ rfl h|exact q _ rfl h
theorem Qr{γ:Type}{x:Option (Unit×Hp)}{F:Unit->Hp->Option γ}{r:γ}{C:Prop}(h:(match x with|some (a,b)=>F a b|none=>none)=some r)(k:∀a b,x=some (a,b)->F a b=some r->C):C:=by
 cases x with
 |none=>exact aX h
 |some a=>exact k _ _ rfl h
theorem Qs{γ:Type}{x:Option (List (V×V)×Hp)}{F:List (V×V)->Hp->Option γ}{r:γ}{C:Prop}(h:(match x with|some (a,b)=>F a b|none=>none)=some r)(k:∀a b,x=some (a,b)->F a b=some r->C):C:=by
 cases x with
 |none=>exact aX h
 |some a=>exact k _ _ rfl h
theorem GR{γ:Type}{x:Option (List (DK×V))}{F:List (DK×V)->Option γ}{r:γ}{C:Prop}(h:(match x with|some a=>F a|none=>none)=some r)(k:∀a,x=some a->F a=some r->C):C:=by
 cases x with
 |none=>exact aX h
 |some a=>exact k a rfl h
theorem Qt{γ:Type}{x:Option (List (V×V))}{F:List (V×V)->Option γ}{r:γ}{C:Prop}(h:(match x with|some a=>F a|none=>none)=some r)(k:∀a,x=some a->F a=some r->C):C:=by
 cases x with
 |none=>exact aX h
 |some a=>exact k a rfl h
theorem Qu{γ:Type}{x:Option (List Int)}{F:List Int->Option γ}{r:γ}{C:Prop}(h:(match x with|some a=>F a|none=>none)=some r)(k:∀a,x=some a->F a=some r->C):C:=by
 cases x with
 |none=>exact aX h
 |some a=>exact k a rfl h
theorem Qv{γ:Type}{x:Option FV}{F:Option γ}{r:γ}{C:Prop}(h:(match x with|some .js=>F|_=>none)=some r)(k:x=some .js->F=some r->C):C:=by
 cases x with
 |none=>exact aX h
 |some p=>cases p<;>first|exact k rfl h|exact aX h
theorem Qw{γ:Type}{x:Option (av×Hp)}{F:av->Hp->Option γ}{r:γ}{C:Prop}(h:(match x with|some (a,b)=>F a b|none=>none)=some r)(k:∀a b,x=some (a,b)->F a b=some r->C):C:=by
 cases x with
 |none=>exact aX h
 |some a=>exact k _ _ rfl h
theorem Qx{γ:Type}{x:Option FV}{F:Int->Option γ}{r:γ}{C:Prop}(h:(match x with|some (.val (.int a))=>F a|_=>none)=some r)(k:∀a,x=some (.val (.int a))->F a=some r->C):C:=by
 cases x with
 |none=>exact aX h
 |some p=>
  cases p with
  |val v=>cases v<;>first|exact k _ rfl h|exact aX h
  |_=>exact aX h
theorem lU{γ:Type}{x:Option MO}{F:jr->List (String×FV)->Option γ}{r:γ}{C:Prop}(h:(match x with|some (.inst c fs)=>F c fs|_=>none)=some r)(k:∀c fs,x=some (.inst c fs)->F c fs=some r->C):C:=by
 cases x with
 |none=>exact aX h
 |some p=>cases p<;>first|exact k _ _ rfl h|cases h
section
variable{g:G}{x:Value}{C:Value->Prop}
theorem aA.nK(h:aA g .none x)(k:C .none):C x:=by cases h;exact k
theorem aA.bK{b:Bool}(h:aA g (.bool b) x)(k:C (.bool b)):C x:=by cases h;exact k
theorem aA.iK{i:Int}(h:aA g (.int i) x)(k:∀t,C (.int i t)):C x:=by cases h;exact k _
theorem aA.sK(h:aA g (.str s) x)(k:∀t,C (.str (ofString s) t)):C x:=by cases h;exact k _
theorem aA.rK{i:Nat}(h:aA g (.ref i) x)(k:∀a,g.dm[i]?=some a->C (.ref a)):C x:=by cases h;exact k _ (by assumption)
theorem Bo{α:Type}{v:V}{r:α}{f:Int->Option α}{C:V->Prop}(h:(match v with|.int i=>f i|_=>none)=some r)(K:∀i,f i=some r->C (.int i)):C v:=by cases v<;>first|exact K _ h|exact aX h
theorem Wl{α:Type}{v:V}{r:α}{f:List V->Option α}{C:V->Prop}(h:(match v with|.lst i=>f i|_=>none)=some r)(K:∀i,f i=some r->C (.lst i)):C v:=by cases v<;>first|exact K _ h|exact aX h
theorem Wm{α:Type}{v:V}{r:α}{f:Bool->Option α}{C:V->Prop}(h:(match v with|.bool i=>f i|_=>none)=some r)(K:∀i,f i=some r->C (.bool i)):C v:=by cases v<;>first|exact K _ h|exact aX h
theorem uw{α:Type}{v:V}{r:α}{f:Nat->Option α}{C:V->Prop}(h:(match v with|.ref i=>f i|_=>none)=some r)(K:∀i,f i=some r->C (.ref i)):C v:=by cases v<;>first|exact K _ h|exact aX h
theorem Wn{α:Type}{v:V}{r:α}{f:List V->Option α}{C:V->Prop}(h:(match v with|.tup i=>f i|_=>none)=some r)(K:∀i,f i=some r->C (.tup i)):C v:=by cases v<;>first|exact K _ h|exact aX h
theorem Wo{α:Type}{v:V}{r:α}{f:String->Option α}{C:V->Prop}(h:(match v with|.str i=>f i|_=>none)=some r)(K:∀i,f i=some r->C (.str i)):C v:=by cases v<;>first|exact K _ h|exact aX h
theorem Wq{α:Type}{v:V}{r:α}{f:Nat->Option α}{C:V->Prop}(h:(match v with|.iM i=>f i|_=>none)=some r)(K:∀i,f i=some r->C (.iM i)):C v:=by cases v<;>first|exact K _ h|exact aX h
theorem xb{α:Type}{u v:V}{r:α}{f:Int->Int->Option α}{C:V->V->Prop}(h:(match u,v with|.int i,.int j=>f i j|_,_=>none)=some r)(K:∀i j,f i j=some r->C (.int i) (.int j)):C u v:=by cases u<;>first|exact aX h|(cases v<;>first|exact K _ _ h|exact aX h)
theorem aA.tK(h:aA g (.tup vs) x)(k:∀a items n,(a,nq items n)∈g.news->g.tag a=.fu->bD g vs items->C (.ref a)):C x:=by cases h;exact k _ _ _ (by assumption) (by assumption) (by assumption)
theorem aA.lK(h:aA g (.lst vs) x)(k:∀a items n,(a,cG items n)∈g.news->g.tag a=.fu->bD g vs items->C (.ref a)):C x:=by cases h;exact k _ _ _ (by assumption) (by assumption) (by assumption)
theorem aA.gK{n:Nat}(h:aA g (.iM n) x)(k:∀a t u v,(a,wF n t u v)∈g.news->g.tag a=.fu->n<=1000->C (.ref a)):C x:=by cases h;exact k _ _ _ _ (by assumption) (by assumption) (by assumption)
theorem bD.nK{C:List Value->Prop}(h:bD g [] xs)(k:C []):C xs:=by cases h;exact k
theorem bD.cK{C:List Value->Prop}(h:bD g (v::vs) xs)(k:∀x ys,aA g v x->bD g vs ys->C (x::ys)):C xs:=by cases h;exact k _ _ (by assumption) (by assumption)
end
end
section
noncomputable abbrev KI:=Int⊕Str
noncomputable def tV:KI->Value->Bool
 |.inl n,v=>Value.isInt n v
 |.inr x,v=>Value.isStrOf x v
theorem oU(h:tV k v=true):(∃n t,k=.inl n/\v=.int n t)\/∃x t,k=.inr x/\v=.str x t:=by
 cases k with
 |inl n=>obtain⟨t,rfl⟩:=Value.isInt_shape h;exact .inl ⟨n,t,rfl,rfl⟩
 |inr x=>obtain⟨t,rfl⟩:=Value.isStrOf_shape h;exact .inr ⟨x,t,rfl,rfl⟩
section
variable{A:Around}{E:Value->Shared->Prop}{s:Shared}
theorem Qy{a:Int}{Q:Value->Shared->Prop}(h:Q (.bool false) s):wpAny (model prog w) A (richCompare .Eq (.int a t) (.str x u)) Q E s:=EqMixed.eq_int_str h
theorem Qz{a:Int}{Q:Value->Shared->Prop}(h:Q (.bool false) s):wpAny (model prog w) A (richCompare .Eq (.str x u) (.int a t)) Q E s:=EqMixed.eq_str_int h
theorem K8{a:Int}{Q:Bool->Shared->Prop}(h:Q false s):
 wpAny (model prog w) A (eqBool (.int a t) (.str x u)) Q E s:=by
 unfold eqBool;refine wpAny_holding ?_;rw[if_neg (λz4=>Bool.noConfusion z4)];exact wpAny_bind (Qy (wpAny_truthy_bool h))
theorem K9{a:Int}{Q:Bool->Shared->Prop}(h:Q false s):
 wpAny (model prog w) A (eqBool (.str x u) (.int a t)) Q E s:=by
 unfold eqBool;refine wpAny_holding ?_;rw[if_neg (λz4=>Bool.noConfusion z4)];exact wpAny_bind (Qz (wpAny_truthy_bool h))
end
noncomputable def Nb:KI->Int
 |.inl n=>hashInt n
 |.inr x=>hashStr w x
noncomputable def gN:KeyKind prog w KI where
 is:=tV
 hash:=Nb
 inj:=λv a b ha hb=>by rcases oU ha with⟨n,t,rfl,rfl⟩|⟨x,t,rfl,rfl⟩<;>rcases oU hb with⟨n',t',rfl,e⟩|⟨x',t',rfl,e⟩<;>(clear hb;cases e)<;>rfl
 byValue:=λk v h=>by rcases oU h with⟨n,t,rfl,rfl⟩|⟨x,t,rfl,rfl⟩<;>rfl
 pyHash:=λ{_ _ _ k v _} hv h=>by
  rcases oU hv with hr|hr
  .refine fH hr λn t bL gI=>?_;clear hr hv;subst bL;subst gI;exact wpAny_pyHash_int h
  .refine fH hr λx t bL gI=>?_;clear hr hv;subst bL;subst gI;exact wpAny_pyHash_str h
 eqBool:=λ{_ _ _ a b u v _} hu hv h=>by
  rcases oU hu with⟨n,t,rfl,rfl⟩|⟨x,t,rfl,rfl⟩<;>rcases oU hv with⟨n',t',rfl,rfl⟩|⟨x',t',rfl,rfl⟩
  .refine wpAny_eqBool_int ?_;have e:(n==n')=decide ((Sum.inl n:KI)=.inl n'):=by by_cases q:n=n'<;>simp[q]
   rw[e];exact h
  .exact K8 (by simpa using h)
  .exact K9 (by simpa using h)
  .refine wpAny_eqBool_str ?_;have e:decide (x=x')=decide ((Sum.inr x:KI)=.inr x'):=by by_cases q:x=x'<;>simp[q]
   rw[e];exact h
 «strs»:=λk x t v h=>by
  rcases oU h with hr|hr
  .refine fH hr λn t bL e=>?_;clear h;clear hr;subst bL;exact PySem.Value.noConfusion e
  .refine fH hr λy t bL e=>?_;clear h;clear hr;subst bL;cases e;cases v<;>rfl
noncomputable def ki:DK->KI
 |.int i=>.inl i
 |.str s=>.inr (ofString s)
theorem zZ(h:ki a=ki b):a=b:=by
 cases a<;>cases b<;>simp[ki]at h
 .rw[h]
 .rw[oR h]
section
inductive d6(g:G):List (DK×V)->List (KI×Value)->Prop where
 |nil:d6 g [] []
 |cons {k:DK} {v:V} {x:Value} {es:List (DK×V)} {kvs:List (KI×Value)}:aA g v x->d6 g es kvs->d6 g ((k,v)::es) ((ki k,x)::kvs)
theorem d6.mono{μ:Nat}{ex:Addr->Prop}(h:Le μ ex g g')(hx:jc ex g)(r:d6 g es kvs):d6 g' es kvs:=d6.rec (motive:=λes kvs _=>d6 g' es kvs) .nil (λa _ ih=>.cons (a.mono h hx) ih) r
def pn(g:G)(i:Nat)(f:String):FV->Value->Prop
 |.val v,x=>aA g v x
 |.lst xs,x=>∃k items n,x=.ref k/\g.tag k=.obj i f/\(k,cG items n)∈g.news/\bD g xs items/\xs.length<=1000/\f∈hB
 |.js,x=>∃k n,x=.ref k/\g.tag k=.obj i f/\(k,dictOf [] n)∈g.news/\f∈hB
structure HD(g:G)(i:Nat)(fs:List (String×FV))(es:List DictEntry):Prop where
 len:es.length=fs.length
 has:∀f fv,fs.lookup f=some fv->∃x,getL (ofString f) es=some (some x)/\pn g i f fv x
 tW:∀f,fs.lookup f=none->getL (ofString f) es=some none
def pE(g:G)(i:Nat)(a:Addr):MO->Prop
 |.list xs=>∃items n,(a,cG items n)∈g.news/\bD g xs items/\xs.length<=1000
 |.dict es=>∃o kvs,(a,o)∈g.news/\o.IsDictOf (gN) kvs/\d6 g es kvs/\es.length<=1000
 |.inst c fs=>∃dx es m,(a,instObj (eE c) dx)∈g.news/\(dx,dictOf es m)∈g.news/\g.tag dx=.obj i "#"/\HD g i fs es
structure aJ(g:G)(ms:Hp)(h:Heap):Prop where
 base:OF
 keep:∀b o,B.h₀.get? b=some o->h.get? b=some o
 led:∀a o,(a,o)∈g.news->h.get? a=some o
 fresh:∀a o,(a,o)∈g.news->g.tag a≠.fu->B.h₀.objs.size<=a
 len:g.dm.length=ms.length
 low:B.h₀.objs.size<=h.objs.size
 top:g.top=h.objs.size
 objs:∀i o,ms[i]?=some o->∃a,g.dm[i]?=some a/\g.tag a=.obj i ""/\pE g i a o
theorem aJ.fn(R:aJ g ms h)(x:(a,o)∈g.news)(y:(a,o')∈g.news):o=o':=Option.some.inj ((R.led _ _ x).symm.trans (R.led _ _ y))
theorem aJ.lt{h:Heap}(R:aJ g ms h){a:Addr}(x:(a,o)∈g.news):a<h.objs.size:=Heap.lt_size (R.led _ _ x)
theorem pn.mono{μ:Nat}{ex:Addr->Prop}{i:Nat}(h:Le μ ex g g')(hx:jc ex g)
 (own:∀b o p,(b,o)∈g.news->g.tag b=.obj i p->(b,o)∈g'.news/\g'.tag b=g.tag b)(q:pn g i f fv x):pn g' i f fv x:=by
 cases fv with
 |val v=>exact aA.mono h hx q
 |lst xs=>refine ou q λk items n h1 h2 h3 h4 h5=>?_;exact tT k items n h1 ((own _ _ _ h3 h2).2.trans h2) ((own _ _ _ h3 h2).1) (h4.mono h hx) h5
 |js=>refine iz q λk n h1 h2 h3 h4=>?_;exact kQ k n h1 ((own _ _ _ h3 h2).2.trans h2) ((own _ _ _ h3 h2).1) h4
theorem pE.mono{μ:Nat}{ex:Addr->Prop}{i:Nat}(h:Le μ ex g g')(hx:jc ex g)(ht:g.tag a=.obj i "")
 (own:∀b o p,(b,o)∈g.news->g.tag b=.obj i p->(b,o)∈g'.news/\g'.tag b=g.tag b)(q:pE g i a o):pE g' i a o:=by
 cases o with
 |list xs=>refine fN q λitems n h1 h2 h3=>?_;exact hG items n ((own _ _ _ h1 ht).1) (h2.mono h hx) h3
 |dict es=>refine iz q λo kvs h1 h2 h3 h4=>?_;exact kQ o kvs ((own _ _ _ h1 ht).1) h2 (h3.mono h hx) h4
 |inst c fs=>
  refine hU q λdx es m h1 h2 h3 h4=>?_;exact⟨dx,es,m,(own _ _ _ h1 ht).1,(own _ _ _ h2 h3).1,(own _ _ _ h2 h3).2.trans h3,
   ⟨h4.len,λf fv e=>(h4.has f fv e).imp λx q=>⟨q.1,q.2.mono h hx own⟩,h4.tW⟩⟩
theorem pE.here{i:Nat}(q:pE g i a o):∃o',(a,o')∈g.news:=by
 cases o with
 |list xs=>refine fH q λ_ _ q _=>?_;exact⟨_,q⟩
 |dict es=>refine fH q λ_ _ q _=>?_;exact⟨_,q⟩
 |inst c fs=>refine nA q λ_ _ _ q _=>?_;exact⟨_,q⟩
noncomputable def Bp(c:Addr)(o':Obj)(l:List (Addr×Obj)):List (Addr×Obj):=(c,o')::l.filter λp=>p.1≠c
theorem gf:(a,o)∈Bp c o' l↔(a=c/\o=o')\/((a,o)∈l/\a≠c):=by simp[Bp,List.mem_filter]
def G.put(g:G)(c:Addr)(o':Obj):G:={g with news:=Bp c o' g.news}
noncomputable def G.add(g:G)(c:Addr)(o:Obj)(t:fB):G:={g with news:=(c,o)::g.news,tag:=λa=>if a=c then t else g.tag a,top:=g.top+1}
noncomputable def G.obj(g:G)(c:Addr):G:={g with dm:=g.dm++[c]}
theorem Le.put{μ:Nat}{ex:Addr->Prop}(h:Wr μ (g.tag c)\/ex c):Le μ ex g (g.put c o'):=by
 refine⟨λa o m t e=>⟨gf.mpr (.inr ⟨m,?_⟩),rfl⟩,⟨[],by simp[G.put]⟩,le_refl _⟩;rintro rfl;rcases h with q|q
 .exact t q
 .exact e q
theorem Le.add{μ:Nat}{ex:Addr->Prop}(h:∀o,(c,o)∉g.news):Le μ ex g (g.add c o t):=by
 refine⟨λa o' m _ _=>⟨.tail _ m,?_⟩,⟨[],by simp[G.add]⟩,le_succ _⟩;have:a≠c:=by rintro rfl;exact h _ m
 exact if_neg this
theorem Le.obj{μ:Nat}{ex:Addr->Prop}:Le μ ex g (g.obj c):=⟨λa o m _ _=>⟨m,rfl⟩,⟨[c],rfl⟩,le_refl _⟩
theorem aJ.next(R:aJ g ms h):∀o,(h.objs.size,o)∉g.news:=λ_ m=>Nat.lt_irrefl _ (R.lt m)
theorem aJ.push(R:aJ g ms h)(o:Obj)(t:fB)(hf:o.isFreed=false):
 aJ (g.add h.objs.size o t) ms (h.push o):=by
 have L:Le 0 cC g (g.add h.objs.size o t):=Le.add (R.next);refine⟨R.base,λb x e=>Heap.get?_push_of_some _ (R.keep b x e),?_,?_,R.len,by rw[Heap.size_push];exact Nat.le_succ_of_le R.low,by rw[Heap.size_push];exact congrArg (·+1) R.top,?_⟩
 .intro a x m;rcases mem_cons.mp m with e|m
  .clear m;cases e;exact Heap.get?_push_size _ hf
  .exact Heap.get?_push_of_some _ (R.led _ _ m)
 .intro a x m ht;rcases mem_cons.mp m with e|m
  .clear ht;clear m;cases e;exact R.low
  .have:a≠h.objs.size:=ne_of_lt (R.lt m);exact R.fresh _ _ m (by simpa[G.add,this]using ht)
 .intro i x e;refine aY (R.objs i x e) λa h1 h2 h3=>?_;have own:∀b o' p,(b,o')∈g.news->g.tag b=.obj i p->(b,o')∈(g.add h.objs.size o t).news/\(g.add h.objs.size o t).tag b=g.tag b:=by intro b o' p m _;refine⟨.tail _ m,?_⟩;have:b≠h.objs.size:=ne_of_lt (R.lt m);exact if_neg this
  refine cW (h3.here) λo' hm=>?_;refine cA a h1 ?_ (h3.mono L (λ_ e=>e.elim) h2 own);rw[(own _ _ "" hm h2).2,h2]
end
end
section
section
theorem ip.le{n m:Nat}(b:ip A n)(h:m<=n):ip A m:=⟨b.hh,by have:=b.depth;omega,by have:=b.units;omega⟩
theorem ip.room{n:Nat}(b:ip A n):A.depth<recursionLimit:=by have:=b.depth;show A.depth<1000;omega
theorem ip.GS{n:Nat}(b:ip A n):A.units<cLine:=by have:=b.units;show A.units<9900;omega
structure hJ(g:G)(J:Env):Prop where
 kind:J.scope.kind=.function
 glob:J.globals=mainGlobals
 blt:J.builtins=builtinsNs
 loc:∃o es ep,(J.locals,o)∈g.news/\g.tag J.locals=.free/\o.data=.dict es ep/\StrKeys es
 apart:∀x y c,J.cells.lookup x=some c->J.cells.lookup y=some c->x=y
 cells:∀x c,J.cells.lookup x=some c->∃o v,(c,o)∈g.news/\g.tag c=.free/\o.data=.cell v
 own:∀x,J.kindOf x=some .cell->(J.cells.lookup x).isSome
def Nc(g:G)(J:Env)(x:Str)(y:Value):Prop:=
 (J.kindOf x=some .local/\∃o es ep,(J.locals,o)∈g.news/\o.data=.dict es ep/\nsFind es x=some y)\/
 ((J.kindOf x=some .cell\/J.kindOf x=some .free)/\∃c o,J.cells.lookup x=some c/\(c,o)∈g.news/\o.data=.cell (some y))
def k7(g:G)(J:Env)(l:av):Prop:=∀x v,l x=some v->∃y,aA g v y/\Nc g J (ofString x) y
theorem hJ.mono{μ:Nat}(h:Le μ cC g g')(e:hJ g J):hJ g' J:=by
 refine⟨e.kind,e.glob,e.blt,?_,e.apart,?_,?_⟩
 .refine hU e.loc λo es ep h1 h2 h3 h4=>?_;have q:=h.keep _ _ h1 (h2▸id) id;exact kn o es ep q.1 (q.2.trans h2) h3 h4
 .intro x c hc;refine fN (e.cells x c hc) λo v h1 h2 h3=>?_;have q:=h.keep _ _ h1 (h2▸id) id;exact hG o v q.1 (q.2.trans h2) h3
 .exact e.own
theorem cx(g:G):jc cC g:=λ_ e=>e.elim
theorem k7.mono{μ:Nat}(h:Le μ cC g g')(e:hJ g J)(r:k7 g J l):k7 g' J l:=by
 intro x v hx;refine az (r x v hx) λy h1 h2=>?_;refine a0 y (h1.mono h (cx g)) ?_;rcases h2 with hr|hr
 .obtain⟨hk,o,es,ep,m,d,f⟩:=hr;refine hU e.loc λo' bu nN m' t' d' s'=>?_;have q:=h.keep _ _ m (t'▸id) id;exact .inl ⟨hk,o,es,ep,q.1,d,f⟩
 .obtain⟨hk,c,o,hc,m,d⟩:=hr;refine fN (e.cells _ _ hc) λo' v' m' t' d'=>?_;have q:=h.keep _ _ m (t'▸id) id;exact .inr ⟨hk,c,o,hc,q.1,d⟩
structure fK(sc:Scope)(n:Nat)(A:Around)(J:Env)(g:G)(ms:Hp)(h:Heap)(l:av):Prop where
 fk:ip A n
 sc:J.scope=sc
 ok:hJ g J
 loc:k7 g J l
 rel:aJ g ms h
theorem fK.next{μ:Nat}{sc:Scope}{n:Nat}{A:Around}{J:Env}{g g':G}{ms ms':Hp}{h h':Heap}{l:av}(p:fK sc n A J g ms h l)(L:Le μ cC g g')(R:aJ g' ms' h'):fK sc n A J g' ms' h' l:=⟨p.fk,p.sc,p.ok.mono L,p.loc.mono L p.ok,R⟩
def fE{α β:Type}(sc:Scope)(n μ:Nat)(t:Env->Sem α)(m:av->Hp->Option (β×Hp))(P:G->G->β->α->Prop):Prop:=
 ∀⦃A:Around⦄ ⦃J:Env⦄ ⦃g:G⦄ ⦃ms:Hp⦄ ⦃s:Shared⦄ ⦃l:av⦄ ⦃E:Value->Shared->Prop⦄ ⦃Q:α->Shared->Prop⦄,fK sc n A J g ms s.heap l->
  ∀{r:β} {ms':Hp},m l ms=some (r,ms')->
  (∀x h' tk g',aJ g' ms' h'->Le μ cC g g'->P g g' r x->Q x {s with heap:=h',toks:=tk})->wpAny (model prog w) A (t J) Q E s
noncomputable abbrev ME:=av->Hp->Option (V×Hp)
noncomputable abbrev MB:=av->Hp->Option (Bool×Hp)
noncomputable abbrev ML:=av->Hp->Option (List V×Hp)
abbrev aQ(sc:Scope)(n μ:Nat)(e:Expr)(m:ME):Prop:=fE sc n μ (λJ=>eval e J) m (λ_ g v x=>aA g v x)
abbrev hK(sc:Scope)(n μ:Nat)(e:Expr)(m:MB):Prop:=fE sc n μ (λJ=>isTrue e J (eval e J)) m (λ_ _ b x=>b=x)
theorem fE.up{α β:Type}{n μ ν:Nat}{t:Env->Sem α}{m:av->Hp->Option (β×Hp)}{P:G->G->β->α->Prop}(h:fE sc n μ t m P)(qF:μ<=ν):fE sc n ν t m P:=by intro A J g ms s l E Q p r ms' hm hQ;exact h p hm λx h' tk g' R L q=>hQ x h' tk g' R (L.up qF) q
noncomputable def ay{β γ:Type}(m:av->Hp->Option (β×Hp))(k:β->av->Hp->Option (γ×Hp)):av->Hp->Option (γ×Hp):=
 λl ms=>match m l ms with
  |some (b,ms')=>k b l ms'
  |none=>none
inductive Tx{β γ:Type}(m:av->Hp->Option (β×Hp))(k:β->av->Hp->Option (γ×Hp))(l:av)(ms ms':Hp)(r:γ):Prop
 |mk (b:β) (aF:Hp) (h1:m l ms=some (b,aF)) (h2:k b l aF=some (r,ms'))
set_option tactic.hygienic true in
theorem Kq{β γ:Type}{m:av->Hp->Option (β×Hp)}{k:β->av->Hp->Option (γ×Hp)}{l:av}{ms ms':Hp}{r:γ}(h:ay m k l ms=some (r,ms')):Tx m k l ms ms' r:=by
 unfold ay at h;split at h
 .rename_i b aF e;exact⟨b,aF,e,h⟩
 .exact aX h
theorem bY{β γ:Type}{m:av->Hp->Option (β×Hp)}{k:β->av->Hp->Option (γ×Hp)}{l:av}{ms ms':Hp}{r:γ}{C:Prop}(h:ay m k l ms=some (r,ms'))(K:∀b aF,m l ms=some (b,aF)->k b l aF=some (r,ms')->C):C:=by obtain⟨b,aF,h1,h2⟩:=Kq h;exact K b aF h1 h2
noncomputable def nm(x:String):ME:=λl ms=>(l x).map λv=>(v,ms)
theorem Et{n:Nat}{E:Value->Shared->Prop}{Q:Value->Shared->Prop}(p:fK sc n A J g ms s.heap l)(hv:l x=some v)
 (hn:(ofString x==("__classdict__":Str))=false)(hQ:∀y,aA g v y->Q y s):wpAny (model prog w) A (loadName J (ofString x)) Q E s:=by
 refine az (p.loc x v hv) λy hy hl=>?_;have fin:Q y s:=hQ y hy;rcases hl with hr|hr
 .obtain⟨hk,o,es,ep,m,d,f⟩:=hr;refine hU p.ok.loc λo' bu nN m' t' d' s'=>?_;have e:=p.rel.fn m m';clear m';subst e;rw[d]at d';cases d';exact wpAny_loadName_local p.ok.kind hk ⟨o,es,ep,p.rel.led _ _ m,d,s',λ_=>rfl⟩ f fin
 .obtain⟨hk,c,o,hc,m,d⟩:=hr;rcases hk with hk|hk
  .exact wpAny_loadName_cell p.ok.kind hk hc ⟨o,p.rel.led _ _ m,d⟩ fin
  .exact wpAny_loadName_free p.ok.kind hk hc ⟨o,p.rel.led _ _ m,d⟩ fin hn
theorem OG{n μ:Nat}(hd:(ofString x==("__debug__":Str))=false)(hn:(ofString x==("__classdict__":Str))=false):aQ sc n μ (.Name (ofString x) pos) (nm x):=by intro A J g ms s l E Q p r ms' hm hQ;simp only[nm,map_eq_some_iff]at hm;obtain⟨v,hv,e⟩:=hm;cases e;exact wpAny_Name (Et p hv hn λy hy=>hQ y s.heap s.toks g p.rel (.refl _ _ _) hy) hd
noncomputable def ae(v:V):ME:=λ_ ms=>some (v,ms)
theorem OH{n k μ:Nat}:aQ sc n μ (.Constant .none k pos) (ae .none):=by intro A J g ms s l E Q p r ms' hm;apply fh hm;intro P go r ms' hm;refine eZ hm (go _ _ λhQ=>?_);exact wpAny_Constant_none (hQ _ _ _ g p.rel (.refl _ _ _) .none)
theorem OI{n k μ:Nat}{b:Bool}:aQ sc n μ (.Constant (.bool b) k pos) (ae (.bool b)):=by intro A J g ms s l E Q p r ms' hm;apply fh hm;intro P go r ms' hm;refine eZ hm (go _ _ λhQ=>?_);exact wpAny_Constant_bool (hQ _ _ _ g p.rel (.refl _ _ _) (.bool b))
theorem QA{n k μ:Nat}{i:Int}:aQ sc n μ (.Constant (.int i) k pos) (ae (.int i)):=by intro A J g ms s l E Q p r ms' hm;apply fh hm;intro P go r ms' hm;refine eZ hm (go _ _ λhQ=>?_);exact wpAny_Constant_int (hQ _ _ _ g p.rel (.refl _ _ _) (.int i _))
theorem QB{n k μ:Nat}:aQ sc n μ (.Constant (.str (ofString x)) k pos) (ae (.str x)):=by intro A J g ms s l E Q p r ms' hm;apply fh hm;intro P go r ms' hm;refine eZ hm (go _ _ λhQ=>?_);exact wpAny_Constant_str (hQ _ _ _ g p.rel (.refl _ _ _) (.str x _))
end
end
section
section
variable{sc:Scope}{n μ:Nat}
def aw(m:ME):MB:=ay m λv _ ms=>match v with
 |.bool b=>some (b,ms)
 |_=>none
theorem Nd(h:aQ sc n μ e m)(he:∀J:Env,isTrue e J (eval e J)=(do let v<-eval e J;standAt e.pos;holding [v] (truthy v))):
 hK sc n μ e (aw m):=by
 intro A J g ms s l E Q p r ms' hm hQ;refine bY hm λv aF h1 h2=>?_;cases v with
 |bool b=>cases h2;refine isTrue_plain (h p h1 λx h' tk g' R L v=>?_) (he J);apply aA.bK v;exact wpAny_truthy_bool (hQ _ _ _ g' R L rfl)
 |_=>exact aX h2
def ba(m:MB):MB:=ay m λb _ ms=>some (!b,ms)
theorem QC(h:hK sc n μ e m):hK sc n μ (.UnaryOp .Not e pos) (ba m):=by intro A J g ms s l E Q p r ms' hm;apply fh hm;intro P go r ms' hm;refine bY hm λb aF h1 h2=>?_;refine eZ h2 (go _ _ λhQ=>?_);refine isTrue_not (h p h1 λx h' tk g' R L v=>?_);subst v;exact hQ _ _ _ g' R L rfl
def aK(a b:MB):MB:=ay a λt=>if t then b else λ_ ms=>some (false,ms)
def bC(a b:MB):MB:=ay a λt=>if t then λ_ ms=>some (true,ms)else b
noncomputable def aS:MB:=λ_ ms=>some (true,ms)
noncomputable def cy:MB:=λ_ ms=>some (false,ms)
theorem K':hK sc n μ (.BoolOp .And [] pos) aS:=by intro A J g ms s l E Q p r ms' hm;apply fh hm;intro P go r ms' hm;refine eZ hm (go _ _ λhQ=>?_);exact isTrue_and_nil (hQ _ _ _ g p.rel (.refl _ _ _) rfl)
theorem L5:hK sc n μ (.BoolOp .Or [] pos) cy:=by intro A J g ms s l E Q p r ms' hm;apply fh hm;intro P go r ms' hm;refine eZ hm (go _ _ λhQ=>?_);exact isTrue_or_nil (hQ _ _ _ g p.rel (.refl _ _ _) rfl)
theorem QD(h1:hK sc n μ e a)(h2:hK sc n μ (.BoolOp .And r pos) b):hK sc n μ (.BoolOp .And (e::r) pos) (aK a b):=by
 intro A J g ms s l E Q p r ms' hm hQ;refine bY hm λt aF q1 q2=>?_;refine isTrue_and (h1 p q1 λx h' tk g' R L v=>?_);subst v;cases t with
 |true=>exact h2 (s:={s with heap:=h',toks:=tk}) (p.next L R) q2 λx bN tk bp R' L' v=>hQ _ _ _ bp R' (L.trans L') v
 |false=>clear hm q1;cases q2;exact hQ _ _ _ g' R L rfl
theorem Sz(h1:hK sc n μ e a)(h2:hK sc n μ (.BoolOp .Or r pos) b):hK sc n μ (.BoolOp .Or (e::r) pos) (bC a b):=by
 intro A J g ms s l E Q p r ms' hm hQ;refine bY hm λt aF q1 q2=>?_;refine isTrue_or (h1 p q1 λx h' tk g' R L v=>?_);subst v;cases t with
 |false=>exact h2 (s:={s with heap:=h',toks:=tk}) (p.next L R) q2 λx bN tk bp R' L' v=>hQ _ _ _ bp R' (L.trans L') v
 |true=>clear hm q1;cases q2;exact hQ _ _ _ g' R L rfl
def bz(c:MB)(a b:ME):ME:=ay c λt=>if t then a else b
theorem QE(hc:hK sc n μ t c)(ha:aQ sc n μ a x)(hb:aQ sc n μ b y):aQ sc n μ (.IfExp t a b pos) (bz c x y):=by
 intro A J g ms s l E Q p r ms' hm hQ;refine bY hm λt aF q1 q2=>?_;refine IfExp_ (hc p q1 λz h' tk g' R L v=>?_);subst v;cases t with
 |true=>exact ha (s:={s with heap:=h',toks:=tk}) (p.next L R) q2 λx bN tk bp R' L' v=>hQ _ _ _ bp R' (L.trans L') v
 |false=>exact hb (s:={s with heap:=h',toks:=tk}) (p.next L R) q2 λx bN tk bp R' L' v=>hQ _ _ _ bp R' (L.trans L') v
def dV(m:ME):ME:=ay m λv _ ms=>match v with
 |.bool b=>some (.bool (!b),ms)
 |_=>none
theorem QF(h:aQ sc n μ e m):aQ sc n μ (.UnaryOp .Not e pos) (dV m):=by
 intro A J g ms s l E Q p r ms' hm hQ;refine bY hm λv aF h1 h2=>?_;cases v with
 |bool b=>clear hm;cases h2;refine UnaryOp_ (h p h1 λx h' tk g' R L v=>?_);apply aA.bK v;exact not_of (wpAny_truthy_bool (hQ _ _ _ g' R L (.bool _)))
 |_=>exact aX h2
def dQ(a b:ME):ME:=ay a λv=>match v with
 |.bool true=>b
 |.bool false=>λ_ ms=>some (.bool false,ms)
 |_=>λ_ _=>none
theorem QG(h1:aQ sc n μ e a)(h2:aQ sc n μ f b):aQ sc n μ (.BoolOp .And [e,f] pos) (dQ a b):=by
 intro A J g ms s l E Q p r ms' hm hQ;refine bY hm λt aF q1 q2=>?_;refine BoolOp_and (h1 p q1 λx h' tk g' R L v=>?_);cases t with
 |bool c=>
  apply aA.bK v;refine wpAny_truthy_bool ?_;cases c with
  |true=>exact h2 (s:={s with heap:=h',toks:=tk}) (p.next L R) q2 λx bN tk bp R' L' v=>hQ _ _ _ bp R' (L.trans L') v
  |false=>clear hm q1;cases q2;exact hQ _ _ _ g' R L (.bool _)
 |_=>exact aX q2
noncomputable def cB(op:Operator)(a b:Int):Option Int:=match op with
 |.Add=>some (a+b)
 |.Sub=>some (a-b)
 |.Mod=>if b=0 then none else some (a.fmod b)
 |.FloorDiv=>if b=0\/1000000<b.natAbs then none else some (a.fdiv b)
 |.Pow=>if 0<=b/\b<=100/\a.natAbs<100 then some (a^b.toNat)else none
 |.RShift=>if 0<=b then some (a.fdiv (2^b.toNat))else none
 |_=>none
theorem La{E:Value->Shared->Prop}{a b c:Int}{Q:Value->Shared->Prop}(h:cB op a b=some c)(hQ:∀t tk,Q (.int c t) {s with toks:=tk}):
 wpAny (model prog w) A (binaryOp op (.int a t) (.int b u)) Q E s:=by
 cases op<;>simp only[cB]at h<;>try(exact aX h)
 .cases h;exact add_int (hQ _ _)
 .cases h;exact sub_int (hQ _ _)
 .split at h
  .exact absurd h (by nofun)
  .rename_i q;cases h;exact mod_int' q (hQ _ _)
 .split at h
  .rename_i q;cases h;exact pow_int_small q.1 (by omega) (by omega) (hQ _ _)
  .exact absurd h (by nofun)
 .split at h
  .rename_i q;cases h;exact rshift_int q (hQ _ _)
  .exact absurd h (by nofun)
 .split at h
  .exact absurd h (by nofun)
  .rename_i q;cases h;exact floordiv_int (λe=>q (.inl e)) (hQ _ _) (.inl (PyProof.noPylong_small (by omega)))
def aE(op:Operator)(a b:ME):ME:=ay a λx=>ay b λy _ ms=>match x,y with
 |.int i,.int j=>(cB op i j).map λk=>(.int k,ms)
 |_,_=>none
theorem QH(h1:aQ sc n μ e a)(h2:aQ sc n μ f b):aQ sc n μ (.BinOp e op f pos) (aE op a b):=by intro A J g ms s l E Q p r ms' hm hQ;refine bY hm λx aF q1 q2=>?_;refine bY q2 λy cf q2 q3=>?_;revert q1 q2;apply xb q3;intro i j q3 q1 q2;refine wpAny_BinOp (h1 p q1 λx' h' tk g' R L v=>?_);refine h2 (s:={s with heap:=h',toks:=tk}) (p.next L R) q2 λy' bN b0 bp R' L' v'=>?_;simp only[map_eq_some_iff]at q3;obtain⟨k,hk,e⟩:=q3;clear hm q2 q3;clear q2;cases e;apply aA.iK v;intro It;apply aA.iK v';intro ux;exact La hk λt tk=>hQ _ _ _ bp R' (L.trans L') (.int _ t)
noncomputable def qG(a b:V):Option Bool:=match a with
 |.int i=>(match b with|.int j=>some (i !=j)|.str _=>some true|.none=>some true|_=>none)
 |.str i=>(match b with|.str j=>some (i !=j)|.int _=>some true|.none=>some true|_=>none)
 |.none=>(match b with|.int _=>some true|.str _=>some true|.none=>some false|_=>none)
 |_=>none
noncomputable def rX(a b:V):Option Bool:=match b with
 |.ref j=>(match a with|.ref i=>some (i==j)|_=>none)
 |.none=>(match a with|.none=>some true|.int _=>some false|.ref _=>some false|_=>none)
 |_=>none
noncomputable def mP(r:Int->Int->Bool)(a b:V):Option Bool:=match a with
 |.int i=>(match b with|.int j=>some (r i j)|_=>none)
 |_=>none
def hZ(op:CmpOp)(a b:V):Option Bool:=match op with
 |.Lt=>mP (λi j=>decide (i<j)) a b
 |.LtE=>mP (λi j=>decide (i<=j)) a b
 |.Gt=>mP (λi j=>decide (j<i)) a b
 |.GtE=>mP (λi j=>decide (j<=i)) a b
 |.Eq=>(match a with|.bool i=>(match b with|.bool j=>some (i==j)|_=>none)|_=>mP (λi j=>i==j) a b)
 |.NotEq=>qG a b
 |.Is=>rX a b
 |.IsNot=>(match a with|.ref i=>(match b with|.ref j=>some (i !=j)|_=>none)|_=>none)
 |_=>none
theorem aJ.main(R:aJ g ms h){i:Nat}(e:g.dm[i]?=some a):∃o,h.get? a=some o/\o.cls≠.type "tuple"/\g.tag a=.obj i "":=by
 have hi:i<ms.length:=by rw[<-R.len];exact(List.getElem?_eq_some_iff.mp e).1
 refine aY (R.objs i ms[i] (by simp[hi])) λa' e' t q=>?_;rw[e]at e';cases e';revert q;generalize ms[i]=o;intro q;cases o with
 |list xs=>refine fH q λ_ _ q _=>?_;exact(cA _ (R.led _ _ q) (by simp) t)
 |dict es=>refine fN q λo _ q uY _=>?_;obtain⟨_,_,x,_⟩:=uY;exact(cA _ (R.led _ _ q) (by rw[x.1];simp) t)
 |inst c fs=>refine nA q λ_ _ _ q _=>?_;exact(cA _ (R.led _ _ q) (λz4=>PySem.Value.noConfusion z4) t)
theorem aJ.E5(R:aJ g ms h){i j:Nat}(e:g.dm[i]?=some a)(f:g.dm[j]?=some b)(gB:i≠j):a≠b:=by rintro rfl;refine aY (R.main e) λ_ _ _ t=>?_;refine aY (R.main f) λ_ _ _ t'=>?_;rw[t]at t';clear f;cases t';exact gB rfl
theorem aA.iN(h:aA g .none x):x=.none:=by apply aA.nK h;rfl
theorem aA.iB{b:Bool}(h:aA g (.bool b) x):x=.bool b:=by apply aA.bK h;rfl
theorem aA.iI{i:Int}(h:aA g (.int i) x):∃t,x=.int i t:=by apply aA.iK h;intro Tz;exact⟨_,rfl⟩
theorem aA.iS(h:aA g (.str s) x):∃t,x=.str (ofString s) t:=by apply aA.sK h;intro Tz;exact⟨_,rfl⟩
theorem aA.iR{i:Nat}(h:aA g (.ref i) x):∃a,x=.ref a/\g.dm[i]?=some a:=by apply aA.rK h;intro WM WN;exact(a0 _ rfl (by assumption))
theorem tF{r:Int->Int->Bool}{c:Bool}{C:Value->Value->Bool->Prop}(ha:aA g a x)(hb:aA g b y)(h:mP r a b=some c)(k:∀i t j u,C (.int i t) (.int j u) (r i j)):C x y c:=by
 cases a with
 |int i=>
  cases b with
  |int j=>apply aA.iK ha;intro t;apply aA.iK hb;intro u;apply gg h;exact k _ _ _ _
  |_=>exact aX h
 |_=>exact aX h
theorem QI{c:Bool}{C:Value->Value->Bool->Prop}(ha:aA g a x)(hb:aA g b y)(h:qG a b=some c)(nn:C .none .none false)(ni:∀j u,C .none (.int j u) true)(ns:∀j u,C .none (.str (ofString j) u) true)
 (iN:∀i t,C (.int i t) .none true)(ii:∀i t j u,C (.int i t) (.int j u) (i !=j))(is:∀i t j u,C (.int i t) (.str (ofString j) u) true)(sn:∀i t,C (.str (ofString i) t) .none true)(si:∀i t j u,C (.str (ofString i) t) (.int j u) true)
 (ss:∀i t j u,C (.str (ofString i) t) (.str (ofString j) u) (i !=j)):C x y c:=by
 cases a with
 |none=>
  apply aA.nK ha;cases b with
  |none=>apply aA.nK hb;apply gg h;exact nn
  |int j=>apply aA.iK hb;intro u;apply gg h;exact ni _ _
  |str j=>apply aA.sK hb;intro u;apply gg h;exact ns _ _
  |_=>exact aX h
 |int i=>
  apply aA.iK ha;intro t;cases b with
  |none=>apply aA.nK hb;apply gg h;exact iN _ _
  |int j=>apply aA.iK hb;intro u;apply gg h;exact ii _ _ _ _
  |str j=>apply aA.sK hb;intro u;apply gg h;exact is _ _ _ _
  |_=>exact aX h
 |str i=>
  apply aA.sK ha;intro t;cases b with
  |none=>apply aA.nK hb;apply gg h;exact sn _ _
  |int j=>apply aA.iK hb;intro u;apply gg h;exact si _ _ _ _
  |str j=>apply aA.sK hb;intro u;apply gg h;exact ss _ _ _ _
  |_=>exact aX h
 |_=>exact aX h
theorem OJ{c:Bool}{C:Value->Value->Bool->Prop}(ha:aA g a x)(hb:aA g b y)(h:rX a b=some c)(nn:C .none .none true)(iN:∀i t,C (.int i t) .none false)(rn:∀p,C (.ref p) .none false)
 (rr:∀(i j:Nat) p q,g.dm[i]?=some p->g.dm[j]?=some q->C (.ref p) (.ref q) (i==j)):C x y c:=by
 cases b with
 |none=>
  apply aA.nK hb;cases a with
  |none=>apply aA.nK ha;apply gg h;exact nn
  |int j=>apply aA.iK ha;intro u;apply gg h;exact iN _ _
  |ref j=>apply aA.rK ha;intro p _;apply gg h;exact rn _
  |_=>exact aX h
 |ref j=>
  cases a with
  |ref i=>apply aA.rK ha;intro p e;apply aA.rK hb;intro q f;apply gg h;exact rr _ _ _ _ e f
  |_=>exact aX h
 |_=>exact aX h
theorem L6{c:Bool}(h:hZ .Eq a b=some c):(∃i j,a=.bool i/\b=.bool j/\(i==j)=c)\/mP (λi j=>i==j) a b=some c:=by
 cases a with
 |bool i=>
  cases b with
  |bool j=>exact .inl ⟨i,j,rfl,rfl,Option.some.inj h⟩
  |_=>exact aX h
 |_=>exact .inr h
theorem L7{c:Bool}(h:hZ .IsNot a b=some c):∃i j,a=.ref i/\b=.ref j/\(i !=j)=c:=by
 cases a with
 |ref i=>
  cases b with
  |ref j=>exact⟨i,j,rfl,rfl,Option.some.inj h⟩
  |_=>exact aX h
 |_=>exact aX h
theorem JV(i j:String):(ofString i !=ofString j)=(i !=j):=by
 by_cases q:i=j
 .simp[q]
 .have:ofString i≠ofString j:=λe=>q (oR e);rw[bne_iff_ne.mpr q,bne_iff_ne.mpr this]
theorem tw{E:Value->Shared->Prop}{c:Bool}{Q:Value->Shared->Prop}(R:aJ g ms s.heap)(ha:aA g a x)(hb:aA g b y)(h:hZ op a b=some c)
 (hQ:Q (.bool c) s):wpAny (model prog w) A (compareOp op x y) Q E s:=by
 revert hQ;cases op with
 |Lt=>apply tF ha hb h;intro i t j u hQ;exact lt_int hQ
 |LtE=>apply tF ha hb h;intro i t j u hQ;exact le_int hQ
 |Gt=>apply tF ha hb h;intro i t j u hQ;exact gt_int hQ
 |GtE=>apply tF ha hb h;intro i t j u hQ;exact ge_int hQ
 |Eq=>
  rcases L6 h with hr|h
  .clear h;obtain⟨i,j,rfl,rfl,rfl⟩:=hr;apply aA.bK ha;apply aA.bK hb;exact λhQ=>eq_bool hQ
  .apply tF ha hb h;intro i t j u hQ;exact eq_int hQ
 |NotEq=>
  apply QI ha hb h
  .exact λhQ=>EqNone.ne_none_none hQ
  .exact λ_ _ hQ=>EqNone.ne_none_int hQ
  .exact λ_ _ hQ=>EqNone.ne_none_str hQ
  .exact λ_ _ hQ=>EqNone.ne_int_none hQ
  .exact λ_ _ _ _ hQ=>ne_int hQ
  .exact λ_ _ _ _ hQ=>EqMixed.ne_int_str hQ
  .exact λ_ _ hQ=>EqNone.ne_str_none hQ
  .exact λ_ _ _ _ hQ=>EqMixed.ne_str_int hQ
  .exact λi _ j _ hQ=>ne_str (by rw[JV];exact hQ)
 |Is=>
  apply OJ ha hb h
  .exact λhQ=>wpAny_is_plain rfl hQ
  .exact λ_ _ hQ=>wpAny_is_other rfl (by intro x;exact PySem.Value.noConfusion x) hQ
  .exact λ_ hQ=>wpAny_is_other rfl (by intro x;exact PySem.Value.noConfusion x) hQ
  .intro i j p q e f hQ;by_cases z:i=j
   .subst z;rw[e]at f;apply gg f;exact wpAny_is_ref_self (by simpa using hQ)
   .refine aY (R.main e) λox h1 h2 _=>?_;refine aY (R.main f) λoy h3 _ _=>?_;exact wpAny_is_ref_other (R.E5 e f z) h1 h3 h2 (by rw[beq_eq_false_iff_ne.mpr z]at hQ;exact hQ)
 |IsNot=>
  refine fN (L7 h) λi j bL gI lh=>?_;clear h;subst bL;subst gI;subst lh;apply aA.rK ha;intro p e;apply aA.rK hb;intro q f hQ;by_cases z:i=j
  .clear hb;subst z;rw[e]at f;apply gg f;exact wpAny_isNot_ref_self (by simpa using hQ)
  .refine aY (R.main e) λox h1 h2 _=>?_;refine aY (R.main f) λoy h3 _ _=>?_;exact wpAny_isNot_ref_other (R.E5 e f z) h1 h3 h2 (by rw[bne_iff_ne.mpr z]at hQ;exact hQ)
 |_=>exact aX h
def df(op:CmpOp)(a b:ME):ME:=ay a λx=>ay b λy _ ms=>(hZ op x y).map λc=>(.bool c,ms)
theorem QJ(h1:aQ sc n μ e a)(h2:aQ sc n μ f b)(iq:behindInMarks op f=false):aQ sc n μ (.Compare e [op] [f] pos) (df op a b):=by intro A J g ms s l E Q p r ms' hm hQ;refine bY hm λx aF q1 q2=>?_;refine bY q2 λy cf q2 q3=>?_;refine wpAny_Compare1 (h1 p q1 λx' h' tk g' R L v=>?_) iq;refine h2 (s:={s with heap:=h',toks:=tk}) (p.next L R) q2 λy' bN b0 bp R' L' v'=>?_;simp only[map_eq_some_iff]at q3;obtain⟨k,hk,e⟩:=q3;clear hm q2;clear q2;cases e;exact tw R' (v.mono L' (cx _)) v' hk (hQ _ _ _ bp R' (L.trans L') (.bool _))
def aB(op:CmpOp)(a b:ME):MB:=ay a λx=>ay b λy _ ms=>(hZ op x y).map λc=>(c,ms)
theorem QK(h1:aQ sc n μ e a)(h2:aQ sc n μ f b)(iq:behindInMarks op f=false):hK sc n μ (.Compare e [op] [f] pos) (aB op a b):=by intro A J g ms s l E Q p r ms' hm hQ;refine bY hm λx aF q1 q2=>?_;refine bY q2 λy cf q2 q3=>?_;refine wpAny_isTrue_Compare1 (h1 p q1 λx' h' tk g' R L v=>?_) iq;refine h2 (s:={s with heap:=h',toks:=tk}) (p.next L R) q2 λy' bN b0 bp R' L' v'=>?_;simp only[map_eq_some_iff]at q3;obtain⟨k,hk,e⟩:=q3;clear q2;cases e;exact tw R' (v.mono L' (cx _)) v' hk (wpAny_truthy_bool (hQ _ _ _ bp R' (L.trans L') rfl))
def dF(op qH:CmpOp)(a b c:ME):ME:=ay a λx=>ay b λy l ms=>match hZ op x y with
 |some true=>(ay c λz _ ms=>(hZ qH y z).map λc=>(.bool c,ms)) l ms
 |some false=>some (.bool false,ms)
 |none=>none
theorem Nf(h1:aQ sc n μ e a)(h2:aQ sc n μ f b)(h3:aQ sc n μ f' c)(iq:lastMarks [op,qH] [f,f']=false):
 aQ sc n μ (.Compare e [op,qH] [f,f'] pos) (dF op qH a b c):=by
 intro A J g ms s l E Q p r ms' hm hQ;refine bY hm λx aF q1 q2=>?_;refine bY q2 λy cf q2 q3=>?_;refine Compare_chain (h1 p q1 λx' h' tk g' R L v=>?_) iq;refine chain_link (h2 (s:={s with heap:=h',toks:=tk}) (p.next L R) q2 λy' bN b0 bp R' L' v'=>?_);have v:=v.mono L' (cx _);refine Qq q3 (λhc q3=>?_) λhc q3=>?_
 .refine bY q3 λz mK q3 q4=>?_;refine tw R' v v' hc (wpAny_truthy_bool ?_);refine chain_last (h3 (s:={s with heap:=bN,toks:=b0}) (p.next (L.trans L') R') q3 λz' fi gP cQ dq cF Bq=>?_);simp only[map_eq_some_iff]at q4;obtain⟨k,hk,e⟩:=q4;clear hm q3;clear q3;clear q3;cases e;exact tw dq (v'.mono cF (cx _)) Bq hk (hQ _ _ _ cQ dq ((L.trans L').trans cF) (.bool _))
 .clear q2;clear hm q2;cases q3;exact tw R' v v' hc (wpAny_truthy_bool (hQ _ _ _ bp R' (L.trans L') (.bool _)))
end
end
section
section
variable{sc:Scope}{n μ:Nat}
theorem aJ.E6{h h':Heap}(R:aJ g ms h)(hm:(c,o)∈g.news)(ht:g.tag c≠.fu)(hs:Heap.SameBut c h h')(ho:h'.get? c=some o'):
 (∀b o,B.h₀.get? b=some o->h'.get? b=some o)/\(∀a x,(a,x)∈(g.put c o').news->h'.get? a=some x)/\(∀a x,(a,x)∈(g.put c o').news->(g.put c o').tag a≠.fu->B.h₀.objs.size<=a)/\B.h₀.objs.size<=h'.objs.size/\g.top=h'.objs.size:=by
 refine⟨λb x e=>(hs.2 b ?_).trans (R.keep b x e),λa x m=>?_,λa x m Iu=>?_,hs.1▸R.low,hs.1▸R.top⟩
 .clear ho hs;rintro rfl;exact absurd (Heap.lt_size e) (Nat.not_lt.mpr (R.fresh _ _ hm ht))
 .rcases gf.mp m with hr|hr
  .clear hm ht m;clear hs;obtain⟨rfl,rfl⟩:=hr;exact ho
  .obtain⟨m,gB⟩:=hr;exact(hs.2 a gB).trans (R.led _ _ m)
 .rcases gf.mp m with hr|hr
  .clear Iu;clear ho m;clear hs;obtain⟨rfl,rfl⟩:=hr;exact R.fresh _ _ hm ht
  .obtain⟨m,gB⟩:=hr;exact R.fresh _ _ m Iu
theorem aJ.th(R:aJ g ms h)(hm:(c,o)∈g.news)(ht:g.tag c=.free)(hs:Heap.SameBut c h h')(ho:h'.get? c=some o'):
 aJ (g.put c o') ms h':=by
 refine jo (R.E6 hm (by rw[ht];exact λz4=>fB.noConfusion z4) hs ho) λk l f lw tp=>?_;refine⟨R.base,k,l,f,R.len,lw,tp,λi x e=>?_⟩;refine aY (R.objs i x e) λa h1 h2 h3=>?_;have L:Le 0 (·=c) g (g.put c o'):=Le.put (.inr rfl);refine cA a h1 h2 (h3.mono L (λa e t=>by clear L f hm ho hs l;subst e;rw[ht]at t;exact fB.noConfusion t) h2 λb y p m t=>⟨gf.mpr (.inr ⟨m,?_⟩),rfl⟩);clear L f hm ho hs l;rintro rfl;rw[ht]at t;exact fB.noConfusion t
theorem aJ.tx(R:aJ g ms h){i:Nat}(hm:(c,o)∈g.news)(ht:g.tag c=.obj i p)(hs:Heap.SameBut c h h')(ho:h'.get? c=some o')
 (ha:g.dm[i]?=some a)(hq:pE (g.put c o') i a mo):aJ (g.put c o') (ms.set i mo) h':=by
 refine jo (R.E6 hm (by rw[ht];exact λz4=>fB.noConfusion z4) hs ho) λk l f lw tp=>?_;refine⟨R.base,k,l,f,by rw[length_set];exact R.len,lw,tp,λj x e=>?_⟩;by_cases hj:i=j
 .subst hj;have hi:i<ms.length:=by rw[<-R.len];exact(List.getElem?_eq_some_iff.mp ha).1
  rw[getElem?_set_self hi]at e;apply gg e;refine aY (R.main ha) λ_ _ _ t=>?_;exact cA a ha t hq
 .rw[getElem?_set_ne hj]at e;refine aY (R.objs j x e) λb h1 h2 h3=>?_;have L:Le 2 cC g (g.put c o'):=Le.put (.inl (by rw[ht];exact .inl (le_refl _)));refine cA b h1 h2 (h3.mono L (cx _) h2 λb y p' m t=>⟨gf.mpr (.inr ⟨m,?_⟩),rfl⟩);clear L f hm ho hq hs l;rintro rfl;rw[ht]at t;clear e h1 h2 h3;cases t;exact hj rfl
def fF(J:Env):Addr->Prop:=λa=>a=J.locals\/∃x,J.cells.lookup x=some a
theorem hJ.off(e:hJ g J):jc (fF J) g:=by
 rintro a (rfl|⟨x,h⟩)
 .refine lR e.loc λ_ _ _ _ t _=>?_;rw[t];exact λz4=>fB.noConfusion z4
 .refine fN (e.cells x a h) λ_ _ _ t _=>?_;rw[t];exact λz4=>fB.noConfusion z4
structure fC(sc:Scope)(μ:Nat)(J:Env)(g g':G)(ms':Hp)(h':Heap)(l':av):Prop where
 rel:aJ g' ms' h'
 le:Le μ (fF J) g g'
 ok:hJ g' J
 loc:k7 g' J l'
theorem fC.pre(p:fK sc n A J g ms h l)(q:fC sc μ J g g' ms' h' l'):fK sc n A J g' ms' h' l':=⟨p.fk,p.sc,q.ok,q.loc,q.rel⟩
theorem fC.of(p:fK sc n A J g ms h l)(R:aJ g' ms' h')(L:Le μ cC g g'):fC sc μ J g g' ms' h' l:=⟨R,L.weak λ_ e=>e.elim,p.ok.mono L,p.loc.mono L p.ok⟩
theorem fC.trans(a:fC sc μ J g g' ms h l)(b:fC sc μ J g' bp ms' h' l'):fC sc μ J g bp ms' h' l':=⟨b.rel,a.le.trans b.le,b.ok,b.loc⟩
theorem fC.after(L:Le μ cC g g')(b:fC sc μ J g' bp ms' h' l'):fC sc μ J g bp ms' h' l':=⟨b.rel,(L.weak λ_ e=>e.elim).trans b.le,b.ok,b.loc⟩
theorem av.jJ(l:av)(x:String)(v:V):l.set x v x=some v:=by exact if_pos rfl
theorem av.tG(l:av)(v:V)(h:y≠x):l.set x v y=l y:=by exact if_neg h
theorem oY{E:Value->Shared->Prop}{Q:Unit->Shared->Prop}(p:fK sc n A J g ms s.heap l)(hv:aA g v y)
 (hk:sc.names.lookup (ofString x)=some .local\/sc.names.lookup (ofString x)=some .cell)
 (hQ:∀h' tk g',fC sc μ J g g' ms h' (l.set x v)->Q () {s with heap:=h',toks:=tk}):wpAny (model prog w) A (storeName J (ofString x) y) Q E s:=by
 have xW:=p.ok.kind;rcases hk with hk|hk
 .have fw:J.kindOf (ofString x)=some .local:=by unfold Env.kindOf;rw[p.sc];exact hk
  refine hU p.ok.loc λo es ep hm ht hd uZ=>?_;refine wpAny_storeName_local fw ⟨o,es,ep,p.rel.led _ _ hm,hd,uZ,λ_=>rfl⟩ (λh' hn hs=>?_) (by rw[xW];rfl);refine hU hn λo' bu nN bP gv Br qI=>?_;have R':=p.rel.th hm ht hs bP;have L':Le μ (fF J) g (g.put J.locals o'):=Le.put (.inr (.inl rfl));have pq:=p.ok.off;refine hQ h' _ (g.put J.locals o') ⟨R',L',⟨p.ok.kind,p.ok.glob,p.ok.blt,⟨o',bu,nN,gf.mpr (.inl ⟨rfl,rfl⟩),ht,gv,Br⟩,p.ok.apart,λz c hc=>?_,p.ok.own⟩,λz u hz=>?_⟩
  .refine fN (p.ok.cells z c hc) λoc vc m t d=>?_;refine hG oc vc (gf.mpr (.inr ⟨m,?_⟩)) t d;clear hc t;rintro rfl;have:=p.rel.fn m hm;clear hm;subst this;rw[hd]at d;exact PySem.Data.noConfusion d
  .by_cases mW:z=x
   .clear hQ hk hn;subst mW;rw[av.jJ]at hz;apply gg hz;exact a0 y (hv.mono L' pq) (.inl ⟨fw,o',bu,nN,gf.mpr (.inl ⟨rfl,rfl⟩),gv,by rw[qI];exact if_pos rfl⟩)
   .rw[av.tG _ _ mW]at hz;refine az (p.loc z u hz) λy' r la=>?_;refine a0 y' (r.mono L' pq) ?_;rcases la with hr|hr
    .obtain⟨k,Bs,AA,AB,m,d,f⟩:=hr;have:=p.rel.fn m hm;clear hm;subst this;rw[hd]at d;cases d;exact .inl ⟨k,o',bu,nN,gf.mpr (.inl ⟨rfl,rfl⟩),gv,by rw[qI];exact(if_neg (λe=>mW (oR e))).trans f⟩
    .obtain⟨k,c,oc,hc,m,d⟩:=hr;refine .inr ⟨k,c,oc,hc,gf.mpr (.inr ⟨m,?_⟩),d⟩;clear hc;rintro rfl;have:=p.rel.fn m hm;clear hm;subst this;rw[hd]at d;exact PySem.Data.noConfusion d
 .have fw:J.kindOf (ofString x)=some .cell:=by unfold Env.kindOf;rw[p.sc];exact hk
  refine cW (Option.isSome_iff_exists.mp (p.ok.own _ fw)) λc hc=>?_;refine fN (p.ok.cells _ _ hc) λo SA hm ht hd=>?_;refine wpAny_storeName_cell xW fw hc ⟨o,p.rel.led _ _ hm,hd⟩ λh' ka hs=>?_;refine az ka λo' bP gv=>?_;have R':=p.rel.th hm ht hs bP;have L':Le μ (fF J) g (g.put c o'):=Le.put (.inr (.inr ⟨_,hc⟩));have pq:=p.ok.off;refine hU p.ok.loc λoL es ep u4 TF xY SD=>?_;have xZ:J.locals≠c:=by clear L' R' bP hs ht ka;clear hc;rintro rfl;have:=p.rel.fn hm u4;clear u4;subst this;rw[hd]at xY;exact PySem.Data.noConfusion xY
  refine hQ h' s.toks (g.put c o') ⟨R',L',⟨p.ok.kind,p.ok.glob,p.ok.blt,⟨oL,es,ep,gf.mpr (.inr ⟨u4,xZ⟩),TF,xY,SD⟩,p.ok.apart,λz c' oD=>?_,p.ok.own⟩,λz u hz=>?_⟩
  .refine fN (p.ok.cells z c' oD) λoc vc m t d=>?_;by_cases e:c'=c
   .clear xZ;clear L' R' bP hs ht ka;clear hc hm;subst e;exact⟨o',_,gf.mpr (.inl ⟨rfl,rfl⟩),t,gv⟩
   .exact hG oc vc (gf.mpr (.inr ⟨m,e⟩)) t d
  .by_cases mW:z=x
   .clear hQ hk;subst mW;rw[av.jJ]at hz;apply gg hz;exact a0 y (hv.mono L' pq) (.inr ⟨.inl fw,c,o',hc,gf.mpr (.inl ⟨rfl,rfl⟩),gv⟩)
   .rw[av.tG _ _ mW]at hz;refine az (p.loc z u hz) λy' r la=>?_;refine a0 y' (r.mono L' pq) ?_;rcases la with hr|hr
    .obtain⟨k,Bs,AA,AB,m,d,f⟩:=hr;have:=p.rel.fn m u4;clear xY;clear u4;subst this;exact .inl ⟨k,Bs,AA,AB,gf.mpr (.inr ⟨m,xZ⟩),d,f⟩
    .obtain⟨k,c',oc,oD,m,d⟩:=hr;refine .inr ⟨k,c',oc,oD,gf.mpr (.inr ⟨m,?_⟩),d⟩;clear xZ;clear L' R' bP hs ht ka;clear hm;rintro rfl;exact mW (oR (p.ok.apart _ _ _ oD hc))
inductive Fl where
 |next|ret(v:V)
noncomputable def Fl.ctorIdx(x:Fl):Nat:=@Fl.casesOn (λ_=>Nat) x 0 (λ_=>1)
theorem Bt{γ:Type}{x:Option (Fl×av×Hp)}{F:av->Hp->Option γ}{G:V->av->Hp->Option γ}{r:γ}{C:Prop}(h:(match x with|some (.next,l,m)=>F l m|some (.ret v,l,m)=>G v l m|none=>none)=some r)(k:∀l m,x=some (.next,l,m)->F l m=some r->C)(q:∀v l m,x=some (.ret v,l,m)->G v l m=some r->C):C:=by
 cases x with
 |none=>exact aX h
 |some p=>obtain⟨v,l,b⟩:=p;cases v<;>first|exact k _ _ rfl h|exact q _ _ _ rfl h
def AD(g:G):Fl->Flow->Prop
 |.next,f=>f=.next
 |.ret v,f=>∃x,f=.ret x/\aA g v x
noncomputable abbrev MS:=av->Hp->Option (Fl×av×Hp)
def lM(sc:Scope)(n μ:Nat)(t:Env->Sem Flow)(m:MS):Prop:=
 ∀⦃A:Around⦄ ⦃J:Env⦄ ⦃g:G⦄ ⦃ms:Hp⦄ ⦃s:Shared⦄ ⦃l:av⦄ ⦃E:Value->Shared->Prop⦄ ⦃Q:Flow->Shared->Prop⦄,fK sc n A J g ms s.heap l->
  ∀{r:Fl} {l':av} {ms':Hp},m l ms=some (r,l',ms')->
  (∀f h' tk g',fC sc μ J g g' ms' h' l'->AD g' r f->Q f {s with heap:=h',toks:=tk})->wpAny (model prog w) A (t J) Q E s
abbrev hM(sc:Scope)(n μ:Nat)(st:Stmt)(m:MS):Prop:=lM sc n μ (λJ=>exec st J) m
abbrev jA(sc:Scope)(n μ:Nat)(ss:List Stmt)(m:MS):Prop:=lM sc n μ (λJ=>execs ss J) m
theorem lM.fail{t:Env->Sem Flow}:lM sc n μ t (λ_ _=>none):=by intro A J g ms s l E Q _ r l' ms' h;cases h
noncomputable def ao:MS:=λl ms=>some (.next,l,ms)
noncomputable def ag(a b:MS):MS:=λl ms=>match a l ms with
 |some (.next,l',ms')=>b l' ms'
 |some (.ret v,l',ms')=>some (.ret v,l',ms')
 |none=>none
theorem QL:jA sc n μ [] ao:=by intro A J g ms s l E Q p r l' ms' h;apply k6 h;intro P go r l' ms' h;refine kS h (go _ _ _ λhQ=>?_);exact wpAny_execs_nil (hQ _ _ _ g (fC.of p p.rel (.refl _ _ _)) rfl)
set_option tactic.hygienic true in
theorem OK{st:Stmt}{ss:List Stmt}{a b:MS}(ha:hM sc n μ st a)(hb:jA sc n μ ss b):jA sc n μ (st::ss) (ag a b):=by
 intro A J g ms s l E Q p r l' ms' h hQ;refine wpAny_execs_cons ?_;unfold ag at h;refine Bt h (λil aF e h=>?_) λv il aF e h=>?_
 .refine ha p e λf h' tk g' P fr=>?_;cases fr;refine hb (s:={s with heap:=h',toks:=tk}) (P.pre p) h λf bN b0 bp P' fr=>hQ _ _ _ bp (P.trans P') fr
 .cases h;refine ha p e λf h' tk g' P fr=>?_;refine az fr λx bf hx=>?_;clear fr;subst bf;exact hQ _ _ _ g' P ⟨x,rfl,hx⟩
noncomputable def aW(m:ME):MS:=λl ms=>match m l ms with
 |some (v,ms')=>some (.ret v,l,ms')
 |none=>none
theorem L8(h:aQ sc n μ e m):hM sc n μ (.Return (some e) pos) (aW m):=by intro A J g ms s l E Q p r l' ms' hm;apply k6 hm;intro P go r l' ms' hm;unfold aW at hm;refine j9 hm λv aF e hm=>?_;refine kS hm (go _ _ _ λhQ=>?_);exact wpAny_Return_some (h p e λx h' tk g' R L v=>hQ _ _ _ g' (fC.of p R L) ⟨x,rfl,v⟩)
theorem Lb:hM sc n μ (.Return none pos) (aW (ae .none)):=by intro A J g ms s l E Q p r l' ms' hm;apply k6 hm;intro P go r l' ms' hm;refine kS hm (go _ _ _ λhQ=>?_);exact wpAny_Return_none (hQ _ _ _ g (fC.of p p.rel (.refl _ _ _)) ⟨_,rfl,.none⟩)
def bq(x:String)(m:ME):MS:=λl ms=>match m l ms with
 |some (v,ms')=>some (.next,l.set x v,ms')
 |none=>none
theorem GU(h:aQ sc n μ e m)(hk:sc.names.lookup (ofString x)=some .local\/sc.names.lookup (ofString x)=some .cell)
 (hs:∀J:Env,J.scope=sc->swapsWith e (some (.Name (ofString x) px)) pos.line J=pure false):hM sc n μ (.Assign [.Name (ofString x) px] e pos) (bq x m):=by
 intro A J g ms s l E Q p r l' ms' hm;apply k6 hm;intro P go r l' ms' hm;unfold bq at hm;refine j9 hm λv aF e hm=>?_;refine kS hm (go _ _ _ λhQ=>?_);refine wpAny_Assign_Name (h p e λy h' tk g' R L v=>?_) (hs J p.sc);exact oY (s:={s with heap:=h',toks:=tk}) (p.next L R) v hk λbN b0 bp P=>hQ _ _ _ bp (fC.after L P) rfl
noncomputable def aG(c:MB)(a b:MS):MS:=λl ms=>match c l ms with
 |some (true,ms')=>a l ms'
 |some (false,ms')=>b l ms'
 |none=>none
set_option tactic.hygienic true in
theorem SE(hc:hK sc n μ t c)(ha:jA sc n μ b a)(hd:jA sc n μ o d):hM sc n μ (.If t b o pos) (aG c a d):=by
 intro A J g ms s l E Q p r l' ms' hm hQ;unfold aG at hm;refine wpAny_If ?_;refine GQ hm (λaF e hm=>?_) λaF e hm=>?_
 .refine hc p e λx h' tk g' R L v=>?_;subst v;exact ha (s:={s with heap:=h',toks:=tk}) (p.next L R) hm λf bN b0 bp P fr=>hQ _ _ _ bp (fC.after L P) fr
 .refine hc p e λx h' tk g' R L v=>?_;subst v;exact hd (s:={s with heap:=h',toks:=tk}) (p.next L R) hm λf bN b0 bp P fr=>hQ _ _ _ bp (fC.after L P) fr
end
end
section
set_option tactic.hygienic true in
theorem Di(name:Str)(h:Int)(k v:Value)(hk:k.isStr name=true):∀es:List DictEntry,getL name (putL name h k v es)=some (some v)
 |[]=>by simp[putL,getL,hk]
 |e::r=>by
  unfold putL;by_cases q:e.key.isStr name=true
  .rw[if_pos q];simp[getL,List.find?_cons,q]
  .rw[if_neg q];have ih:=Di name h k v hk r;unfold getL at ih⊢;rw[List.find?_cons,Bool.not_eq_true _|>.mp q];dsimp only;split at ih
   .rename_i e' u5;rw[u5];exact ih
   .rename_i u5;split at ih<;>cases ih
theorem yT(name:Str)(h:Int)(k v:Value):∀es:List DictEntry,(putL name h k v es).length=if es.any (·.key.isStr name)then es.length else es.length+1
 |[]=>rfl
 |e::r=>by
  unfold putL;by_cases q:e.key.isStr name=true
  .rw[if_pos q];simp[q]
  .rw[if_neg q,List.length_cons,yT name h k v r];simp only[List.any_cons,Bool.not_eq_true _|>.mp q,Bool.false_or,List.length_cons];split<;>rfl
theorem Dm(hn:n'≠name)(h:Int)(k v:Value)(hk:k.isStr name=true):∀es:List DictEntry,
 ((putL name h k v es).find? (·.key.isStr n')).map (·.val)=(es.find? (·.key.isStr n')).map (·.val)
 |[]=>by
  have:k.isStr n'=false:=by
   cases q:k.isStr n' with
   |false=>rfl
   |true=>exact absurd (Value.isStr_inj _ _ _ q hk) hn
  simp[putL,this]
 |e::r=>by
  unfold putL;by_cases q:e.key.isStr name=true
  .rw[if_pos q];have:e.key.isStr n'=false:=by
    cases q':e.key.isStr n' with
    |false=>rfl
    |true=>exact absurd (Value.isStr_inj _ _ _ q' q) hn
   simp[List.find?_cons,this]
  .rw[if_neg q,List.find?_cons,List.find?_cons];cases e.key.isStr n' with
   |true=>rfl
   |false=>exact Dm hn h k v hk r
theorem Eu(name:Str)(h:Int)(k v:Value)(hk:k.isStr name=true):∀es:List DictEntry,(putL name h k v es).any (·.refKey)=es.any (·.refKey)
 |[]=>by
  have:(⟨h,k,v⟩:DictEntry).refKey=false:=by cases k<;>simp[Value.isStr]at hk;rfl
  simp[putL,this]
 |e::r=>by
  unfold putL;by_cases q:e.key.isStr name=true
  .rw[if_pos q];rfl
  .rw[if_neg q,List.any_cons,List.any_cons,Eu name h k v hk r]
theorem Dn(hn:n'≠name)(h:Int)(k v:Value)(hk:k.isStr name=true)(es:List DictEntry):getL n' (putL name h k v es)=getL n' es:=by have a:=Dm hn h k v hk es;have b:=Eu name h k v hk es;unfold getL;rw[b];cases h1:(putL name h k v es).find? (·.key.isStr n')<;>cases h2:es.find? (·.key.isStr n')<;>rw[h1,h2]at a<;>simp at a<;>simp[a]
set_option tactic.hygienic true in
theorem Dw(h:getL name es=some r):es.any (·.key.isStr name)=r.isSome/\(!es.any (·.key.isStr name)&&es.any (·.refKey))=false:=by
 unfold getL at h;split at h
 .rename_i e he;apply gg h;have:es.any (·.key.isStr name)=true:=List.any_eq_true.mpr ⟨e,List.mem_of_find?_eq_some he,by have:=List.find?_some he;simpa using this⟩;rw[this];exact⟨rfl,rfl⟩
 .rename_i he;split at h
  .exact aX h
  .rename_i q;apply gg h;have:es.any (·.key.isStr name)=false:=by rw[List.any_eq_false];intro e hm;rw[List.find?_eq_none]at he;exact he e hm
   rw[this,Bool.not_eq_true _|>.mp q];exact⟨rfl,rfl⟩
section
variable{sc:Scope}{n μ:Nat}
theorem Ng{m:Nat}{R:Result->Shared->Prop}(ok:Aw B.K C)(X:B.K.In s.heap)
 (hx:s.heap.get? x=some (instObj C dx))(pF:s.heap.get? dx=some (dictOf es m))(ht:findIn B.K (.ref C) name=some none)(hl:getL name es=some r)(hz:es.length<=900)
 (h:∀h' tk hs k m',Heap.SameBut dx s.heap h'->k.isStr name=true->h'.get? dx=some (dictOf (putL name hs k v es) m')->R (.ok (.ret .none)) {s with heap:=h',toks:=tk}):
 codeAny (model prog w) A (.call (.builtin "object.__setattr__") ⟨[.ref x,.str name tk,v],[]⟩) R s:=by
 have I:InstAt s.heap x (instObj C dx) C (some (dictOf es m)):=⟨hx,rfl,rfl,pF⟩;refine osa_open (r:=none) X I ok.over (by unfold takerIn;rw[ht];rfl) λb=>?_;refine az (any_some ok.dict) λcd hc hd=>?_;refine wpAny_bind (wpAny_pure (wpAny_bind (wpAny_bind (wpAny_loadPart hx (wpAny_bind ((looks_clsIn X hc).here ?_))))));rw[hd];refine wpAny_pure (a:=some dx) (wpAny_bind (wpAny_pure (wpAny_bind ?_)));refine wpAny_bind (wpAny_bind (wpAny_askSetting (wpAny_pure (wpAny_bind (wpAny_mkText (wpAny_bind (wpAny_loadPart pF ?_)))))));refine bT (Dw hl) λa1 a2=>?_;dsimp only;rw[aRefKeyMayBeTheName_at,<-Array.any_toList,<-Array.any_toList];rw[show(es.toArray.toList.any λe=>e.key.isStr name)=es.any (·.key.isStr name)from rfl,show(es.toArray.toList.any λe=>e.refKey)=es.any (·.refKey)from rfl,a2];refine wpAny_updatePart pF ?_;have key:(Value.str name s.toks).isStr name=true:=by simp[Value.isStr]
 refine wpAny_bind (wpAny_lookBehind (o:=dictOf (putL name (PyData.keyHash w.params name) (.str name s.toks) v es) (putN name es m)) ?_ ?_ ?_)
 .show(s.heap.update dx _).get? dx=_;rw[Heap.get?_update_self _ pF (by rw[putName_dict];rfl),putName_dict];rfl
 .refine pastItsLine_dict ?_;rw[size_toArray,yT,sizeLine_eq];split<;>omega
 .refine wpAny_pure ?_;refine h _ _ (PyData.keyHash w.params name) _ (putN name es m) (Heap.SameBut.update ..) key ?_;rw[Heap.get?_update_self _ pF (by rw[putName_dict];rfl),putName_dict];rfl
theorem JD{E:Value->Shared->Prop}{m:Nat}{Q:Unit->Shared->Prop}(ok:Aw B.K C)(X:B.K.In s.heap)
 (hx:s.heap.get? x=some (instObj C dx))(pF:s.heap.get? dx=some (dictOf es m))(ht:findIn B.K (.ref C) name=some none)(hl:getL name es=some r)(hz:es.length<=900)
 (h:∀h' tk hs k m',Heap.SameBut dx s.heap h'->k.isStr name=true->h'.get? dx=some (dictOf (putL name hs k v es) m')->Q () {s with heap:=h',toks:=tk}):
 wpAny (model prog w) A (setAttr (.ref x) name v) Q E s:=
 set_plain X (show InstAt s.heap x (instObj C dx) C (some (dictOf es m))from⟨hx,rfl,rfl,pF⟩) ok.setattr (Ng (s:={s with toks:=s.toks+1}) ok X hx pF ht hl hz h)
theorem aA.handed(h:aA g v x):handedIn x=true:=by cases h<;>rfl
theorem aJ.inst(R:aJ g ms h){i:Nat}(hi:ms[i]?=some (.inst c fs))(ha:g.dm[i]?=some a):
 ∃dx es m,(a,instObj (eE c) dx)∈g.news/\(dx,dictOf es m)∈g.news/\g.tag dx=.obj i "#"/\g.tag a=.obj i ""/\HD g i fs es:=by
 refine aY (R.objs i _ hi) λa' e t q=>?_;rw[ha]at e;cases e;refine hU q λdx es m h1 h2 h3 h4=>?_;exact tT dx es m h1 h2 h3 t h4
theorem vT{E:Value->Shared->Prop}{i:Nat}{ex:Bool}{Q:Value->Shared->Prop}(R:aJ g ms s.heap)
 (hi:ms[i]?=some (.inst c fs))(ha:g.dm[i]?=some a)(hf:f∈hB)(hv:fs.lookup f=some fv)(hQ:∀x tk,pn g i f fv x->Q x {s with toks:=tk}):
 wpAny (model prog w) A (getAttr (.ref a) (ofString f) ex) Q E s:=by
 refine ou (R.inst hi ha) λdx es m h1 h2 h3 h4 h5=>?_;refine az (h5.has f fv hv) λx hx hr=>?_;have X:B.K.In s.heap:=R.base.X.keeps R.keep;have ok:=B.pD c;refine get_value (C:=eE c) (od:=some (dictOf es m)) X ⟨R.led _ _ h1,rfl,rfl,R.led _ _ h2⟩ ok.yN (findObj_own ok.dict (B.fld c f hf) rfl (by rw[lookIn_dict];exact hx)) ?_ (hQ x _ hr);cases fv with
 |val v=>exact aA.handed hr
 |lst xs=>refine nA hr λk _ _ gI _=>?_;clear hr hx;subst gI;rfl
 |js=>refine fH hr λk _ bL _=>?_;clear hr hx;subst bL;rfl
def aP(f:String)(m:ME):ME:=ay m λv _ ms=>match v with
 |.ref i=>match ms[i]? with
  |some (.inst _ fs)=>match fs.lookup f with
   |some (.val x)=>some (x,ms)
   |_=>none
  |_=>none
 |_=>none
theorem OL(h:aQ sc n μ e m)(hf:f∈hB)
 (he:∀J,eval (.Attribute e (ofString f) pos) J=(do let o<-eval e J;standAt pos.atName;let r<-holding [o] (getAttr o (ofString f) true);letTemporaryGo e o r;pure r)):
 aQ sc n μ (.Attribute e (ofString f) pos) (aP f m):=by
 intro A J g ms s l E Q p r ms' hm;apply fh hm;intro P go r ms' hm;refine bY hm λv aF h1 h2=>?_;revert h1;apply uw h2;intro i h2 h1;refine lU h2 λc fs hi h2=>?_;refine Qn h2 λy hy h2=>?_;refine eZ h2 (go _ _ λhQ=>?_);refine Attribute_any_ (h p h1 λx h' tk g' R L v=>?_) (he J);apply aA.rK v;intro a ha;exact vT (s:={s with heap:=h',toks:=tk}) R hi ha hf hy λx b0 fr=>hQ _ _ _ g' R L fr
end
end
section
noncomputable def fj(f:String)(fv:FV):List (String×FV)->List (String×FV)
 |[]=>[(f,fv)]
 |(k,v)::r=>if k=f then(f,fv)::r else(k,v)::fj f fv r
theorem s9(f:String)(fv:FV):∀fs,(fj f fv fs).lookup f=some fv
 |[]=>by simp[fj]
 |(k,v)::r=>by
  unfold fj;by_cases h:k=f
  .simp[h]
  .have:(f==k)=false:=by simp[Ne.symm h]
   simp[h,lookup_cons,this,s9 f fv r]
theorem tA(h:f'≠f)(fv:FV):∀fs,(fj f fv fs).lookup f'=fs.lookup f'
 |[]=>by
  have:(f'==f)=false:=by simp[h]
  simp[fj,lookup_cons,this]
 |(k,v)::r=>by
  unfold fj;by_cases q:k=f
  .subst q;have:(f'==k)=false:=by simp[h]
   simp[lookup_cons,this]
  .simp[q,lookup_cons,tA h fv r]
theorem yU(f:String)(fv:FV):∀fs,(fj f fv fs).length=if(fs.lookup f).isSome then fs.length else fs.length+1
 |[]=>rfl
 |(k,v)::r=>by
  unfold fj;by_cases h:k=f
  .simp[h]
  .have:(f==k)=false:=by simp[Ne.symm h]
   simp only[h,if_false,List.length_cons,lookup_cons,this,yU f fv r];split<;>rfl
noncomputable def G.gA(g:G)(c:Addr)(t:fB):G:={g with tag:=λa=>if a=c then t else g.tag a}
theorem Le.gA{μ:Nat}:Le μ (·=c) g (g.gA c t):=⟨λa o m _ e=>⟨m,by simp only[G.gA];rw[if_neg e]⟩,⟨[],by simp[G.gA]⟩,le_refl _⟩
section
variable{sc:Scope}{n μ:Nat}
theorem Le.drop{k:Addr}(L:Le μ (·=k) g g')(R:aJ g ms h)(hk:g.top<=k):Le μ cC g g':=⟨λa o m t _=>L.keep a o m t λe=>by clear L;subst e;exact absurd (R.lt m) (Nat.not_lt.mpr (R.top▸hk)),L.dm,L.top⟩
theorem Le.drop'{k:Addr}(L:Le μ cC g g')(L':Le μ (·=k) g' bp)(R:aJ g ms h)(hk:g.top<=k):Le μ cC g bp:=Le.drop ((L.weak λ_ e=>e.elim).trans L') R hk
theorem aJ.gA(R:aJ g ms h)(hm:(k,o)∈g.news)(ht:g.tag k=.free)(t:fB):aJ (g.gA k t) ms h:=by
 refine⟨R.base,R.keep,R.led,λa x m h=>R.fresh a x m ?_,R.len,R.low,R.top,λi x e=>?_⟩
 .intro q;refine h ?_;show(if a=k then t else g.tag a)=_;rw[if_neg];exact q;clear h hm m;rintro rfl;rw[ht]at q;exact fB.noConfusion q
 refine aY (R.objs i x e) λa h1 h2 h3=>?_;have ne:∀b i p,g.tag b=.obj i p->b≠k:=by clear hm;rintro b i p e rfl;rw[ht]at e;exact fB.noConfusion e
 refine cA a h1 ?_ (h3.mono (Le.gA (μ:=0) (t:=t)) (λa e t=>by clear ne;clear hm;subst e;rw[ht]at t;exact fB.noConfusion t) h2 λb y p m q=>⟨m,?_⟩)
 .show(if a=k then t else g.tag a)=_;rw[if_neg (ne a _ _ h2)];exact h2
 .show(if b=k then t else g.tag b)=_;rw[if_neg (ne b _ _ q)]
theorem aJ.newObj{ms:Hp}(R:aJ g ms h)(ht:g.tag a=.obj ms.length "")(hq:pE (g.obj a) ms.length a mo):aJ (g.obj a) (ms++[mo]) h:=by
 refine⟨R.base,R.keep,R.led,R.fresh,by simp[G.obj,R.len],R.low,R.top,λi x e=>?_⟩;by_cases hi:i<ms.length
 .rw[getElem?_append_left hi]at e;refine aY (R.objs i x e) λb h1 h2 h3=>?_;exact cA b (by simp only[G.obj];rw[getElem?_append_left (by rw[R.len];exact hi)];exact h1) h2 (h3.mono (Le.obj (μ:=0) (ex:=cC)) (cx _) h2 λb y p m q=>⟨m,rfl⟩)
 .rw[List.getElem?_append_right (Nat.le_of_not_lt hi)]at e;have h0:i-ms.length=0:=by
   cases q:i-ms.length with
   |zero=>rfl
   |succ k=>rw[q]at e;simp at e
  have:i=ms.length:=by omega
  clear h0 hi;subst this;simp at e;subst e;exact cA a (by simp[G.obj,<-R.len]) ht hq
theorem sU{E:Value->Shared->Prop}{i:Nat}{Q:Unit->Shared->Prop}(R:aJ g ms s.heap)
 (hi:ms[i]?=some (.inst c fs))(ha:g.dm[i]?=some a)(hf:f∈hB)(hz:fs.length<=500)(hv:pn g i f fv x)
 (hQ:∀h' tk g',aJ g' (ms.set i (.inst c (fj f fv fs))) h'->Le 1 cC g g'->Q () {s with heap:=h',toks:=tk}):
 wpAny (model prog w) A (setAttr (.ref a) (ofString f) x) Q E s:=by
 refine ou (R.inst hi ha) λdx es m h1 h2 h3 h4 h5=>?_;have X:B.K.In s.heap:=R.base.X.keeps R.keep;have hl:getL (ofString f) es=some ((fs.lookup f).bind λ_=>((getL (ofString f) es).getD none)):=by
  cases q:fs.lookup f with
  |none=>rw[h5.tW f q];rfl
  |some lj=>refine az (h5.has f lj q) λy hy _=>?_;rw[hy];rfl
 have AE:((fs.lookup f).bind λ_=>((getL (ofString f) es).getD none)).isSome=(fs.lookup f).isSome:=by
  cases q:fs.lookup f with
  |none=>rfl
  |some lj=>refine az (h5.has f lj q) λy hy _=>?_;rw[hy];rfl
 refine JD (B.pD c) X (R.led _ _ h1) (R.led _ _ h2) (B.fld c f hf) hl (by rw[h5.len];omega) λh' tk hs k m' nO hk hg=>?_;have L:Le 1 cC g (g.put dx (dictOf (putL (ofString f) hs k x es) m')):=Le.put (.inl (by rw[h3];exact .inr ⟨le_refl _,rfl⟩));have Iv:a≠dx:=by clear L h1 h2 hg nO;rintro rfl;rw[h3]at h4;simp at h4
 refine hQ h' tk (g.put dx (dictOf (putL (ofString f) hs k x es) m')) (R.tx h2 h3 nO hg ha ?_) L;have own:∀b o p,(b,o)∈g.news->g.tag b=.obj i p->p∈hB->(b,o)∈(g.put dx (dictOf (putL (ofString f) hs k x es) m')).news:=by intro b o p m t hp;refine gf.mpr (.inr ⟨m,?_⟩);clear Iv;clear L h1 h2 hg nO;rintro rfl;rw[h3]at t;cases t;exact absurd hp (by decide)
 have fr:∀f' lj y,pn g i f' lj y->pn (g.put dx (dictOf (putL (ofString f) hs k x es) m')) i f' lj y:=by
  intro f' lj y q;cases lj with
  |val v=>exact aA.mono L (cx _) q
  |lst xs=>refine lS q λk items n q1 q2 q3 q4 q5 q6=>?_;exact w7 k items n q1 q2 (own _ _ _ q3 q2 q6) (q4.mono L (cx _)) q5 q6
  |js=>refine iz q λk n q1 q2 q3 q4=>?_;exact kQ k n q1 q2 (own _ _ _ q3 q2 q4) q4
 refine⟨dx,_,_,gf.mpr (.inr ⟨h1,Iv⟩),gf.mpr (.inl ⟨rfl,rfl⟩),h3,?_,?_,?_⟩
 .rw[yT,yU,h5.len,(Dw hl).1,AE]
 .intro f' lj e;by_cases q:f'=f
  .clear hQ hf hl AE own;clear L hg;subst q;rw[s9]at e;apply gg e;exact a0 x (Di _ _ _ _ hk _) (fr _ _ _ hv)
  .rw[tA q]at e;refine az (h5.has f' lj e) λy hy hr=>?_;exact a0 y (by rw[Dn (λe=>q (oR e)) _ _ _ hk];exact hy) (fr _ _ _ hr)
 .intro f' e;by_cases q:f'=f
  .clear fr hk hv;clear hQ hf hl AE own;clear L hg;subst q;rw[s9]at e;cases e
  .rw[tA q]at e;rw[Dn (λe=>q (oR e)) _ _ _ hk];exact h5.tW f' e
end
end
section
section
variable{sc:Scope}{n μ:Nat}
abbrev nu(sc:Scope)(n μ:Nat)(es:List Expr)(m:ML):Prop:=∀pos,fE sc n μ (λJ=>spliced (backTo pos (starEach es J))) m (λ_ g vs xs=>bD g vs xs)
noncomputable def af:ML:=λ_ ms=>some ([],ms)
def aa(a:ME)(b:ML):ML:=ay a λv=>ay b λvs _ ms=>some (v::vs,ms)
theorem GV:nu sc n μ [] af:=by intro pos A J g ms s l E Q p r ms' hm;apply fh hm;intro P go r ms' hm;refine eZ hm (go _ _ λhQ=>?_);exact args_nil (hQ _ _ _ g p.rel (.refl _ _ _) .nil)
theorem OM(h1:aQ sc n μ e a)(h2:nu sc n μ es b)(he:∀J,starEach (e::es) J=(false,eval e J)::starEach es J):nu sc n μ (e::es) (aa a b):=by intro pos A J g ms s l E Q p r ms' hm;apply fh hm;intro P go r ms' hm;refine bY hm λv aF q1 q2=>?_;refine bY q2 λvs cf q2 q3=>?_;refine eZ q3 (go _ _ λhQ=>?_);refine args_cons (h1 p q1 λx h' tk g' R L v=>?_) (he J);exact h2 pos (s:={s with heap:=h',toks:=tk}) (p.next L R) q2 λy bN b0 bp R' L' v'=>hQ _ _ _ bp R' (L.trans L') (.cons (v.mono L' (cx _)) v')
inductive LP(mQ g:G)(xs:List V)(x:Value):Prop
 |mk (k:Addr) (items:List Value) (n:Nat) (h1:x=.ref k) (h2:(k,cG items n)∈g.news) (h3:g.tag k=.free) (h4:bD g xs items) (h5:xs.length<=1000) (h6:mQ.top<=k)
theorem LP.K{C:Value->Prop}(h:LP mQ g xs x)(K:∀k items n,(k,cG items n)∈g.news->g.tag k=.free->bD g xs items->xs.length<=1000->mQ.top<=k->C (.ref k)):C x:=by obtain⟨k,items,n,rfl,h2,h3,h4,h5,h6⟩:=h;exact K k items n h2 h3 h4 h5 h6
abbrev iG(sc:Scope)(n μ:Nat)(e:Expr)(m:ML):Prop:=fE sc n μ (λJ=>eval e J) m (LP)
theorem aJ.new{h:Heap}(R:aJ g ms h)(o:Obj)(t:fB)(hf:o.isFreed=false):
 aJ (g.add h.objs.size o t) ms (h.push o)/\Le 0 cC g (g.add h.objs.size o t)/\(h.objs.size,o)∈(g.add h.objs.size o t).news/\(g.add h.objs.size o t).tag h.objs.size=t/\g.top<=h.objs.size:=
 ⟨R.push o t hf,Le.add (R.next),.head _,by exact if_pos rfl,Nat.le_of_eq R.top⟩
theorem Dx{E:Value->Shared->Prop}{Q:Value->Shared->Prop}(R:aJ g ms s.heap)(hv:bD g vs xs)(hz:vs.length<=1000)
 (hQ:∀x h' g',aJ g' ms h'->Le 0 cC g g'->LP g g' vs x->Q x {s with heap:=h'}):wpAny (model prog w) A (newList xs) Q E s:=by
 refine jo (R.new (cG xs 0) .free rfl) λR' L' m' t' tp=>?_;refine wpAny_newObj_type (hQ _ _ _ R' L' ⟨_,xs,0,rfl,m',t',hv.mono L' (cx _),hz,tp⟩) ?_;show xs.toArray.size<=sizeLine;rw[size_toArray,hv.length,sizeLine_eq];omega
theorem JE{E:Value->Shared->Prop}{Q:Value->Shared->Prop}(R:aJ g ms s.heap)(hv:bD g vs xs)(hz:vs.length<=1000)
 (hQ:∀x h' g',aJ g' ms h'->Le 0 cC g g'->aA g' (.tup vs) x->Q x {s with heap:=h'}):wpAny (model prog w) A (newTuple xs) Q E s:=by
 refine jo (R.new (nq xs 0) .fu rfl) λR' L' m' t' tp=>?_;refine wpAny_newObj_type (hQ _ _ _ R' L' (.tup m' t' (hv.mono L' (cx _)))) ?_;show xs.toArray.size<=sizeLine;rw[size_toArray,hv.length,sizeLine_eq];omega
def bI(a:ML):ML:=ay a λvs _ ms=>if vs.length<=1000 then some (vs,ms)else none
theorem jw{β:Type}{vs:List V}{ms ms':Hp}{r:β}{c:Prop}[Decidable c]{x:Option β}(h:(if c then x else none)=some r):c/\x=some r:=by
 split at h
 .rename_i hc;exact⟨hc,h⟩
 .exact aX h
theorem ON{a:ML}{pos:Pos}(h:nu sc n μ es a):iG sc n μ (.List es pos) (bI a):=by intro A J g ms s l E Q p r ms' hm;apply fh hm;intro P go r ms' hm;refine bY hm λvs aF q1 q2=>?_;obtain⟨hz,q2⟩:=jw (vs:=vs) (ms:=ms) (ms':=ms) q2;refine eZ q2 (go _ _ λhQ=>?_);refine List_ (h pos p q1 λxs h' tk g' R L v=>?_);refine Dx (s:={s with heap:=h',toks:=tk}) R v hz λx bN bp R' L' lp=>?_;obtain⟨k,items,n,e1,e2,e3,e4,e5,e6⟩:=lp;exact hQ _ _ _ bp R' (L.trans (L'.up (zero_le _))) ⟨k,items,n,e1,e2,e3,e4,e5,le_trans L.top e6⟩
def aU(a:ML):ME:=ay a λvs _ ms=>if vs.length<=1000 then some (.tup vs,ms)else none
theorem Nh{a:ML}{k:Nat}{pos:Pos}(h:nu sc n μ es a):aQ sc n μ (.Tuple es k pos) (aU a):=by intro A J g ms s l E Q p r ms' hm;apply fh hm;intro P go r ms' hm;refine bY hm λvs aF q1 q2=>?_;obtain⟨hz,q2⟩:=jw (vs:=vs) (ms:=ms) (ms':=ms) q2;refine eZ q2 (go _ _ λhQ=>?_);refine Tuple_ (h pos p q1 λxs h' tk g' R L v=>?_);exact JE (s:={s with heap:=h',toks:=tk}) R v hz λx bN bp R' L' lp=>hQ _ _ _ bp R' (L.trans (L'.up (zero_le _))) lp
def bE(a:ML):ME:=ay a λvs _ ms=>some (.lst vs,ms)
theorem tX(h:iG sc n μ e a):aQ sc n μ e (bE a):=by intro A J g ms s l E Q p r ms' hm;apply fh hm;intro P go r ms' hm;refine bY hm λvs aF q1 q2=>?_;refine eZ q2 (go _ _ λhQ=>?_);refine h p q1 λx h' tk g' R L lp=>?_;apply LP.K lp;intro k items n e2 e3 e4 e5 e6;have R':=R.gA e2 e3 .fu;have L':Le μ (·=k) g' (g'.gA k .fu):=Le.gA;refine hQ _ _ _ (g'.gA k .fu) R' (Le.drop' L L' p.rel e6) (.lst e2 (if_pos rfl) (e4.mono L' λa e=>by clear L' R' e2 e6;subst e;rw[e3];exact λz4=>fB.noConfusion z4))
def kh(a:ML):ME:=ay a λvs _ ms=>some (.ref ms.length,ms++[.list vs])
theorem Ni(h:iG sc n μ e a):aQ sc n μ e (kh a):=by
 intro A J g ms s l E Q p r ms' hm;apply fh hm;intro P go r ms' hm;refine bY hm λvs aF q1 q2=>?_;refine eZ q2 (go _ _ λhQ=>?_);refine h p q1 λx h' tk g' R L lp=>?_;apply LP.K lp;intro k items n e2 e3 e4 e5 e6;have R':=R.gA e2 e3 (.obj aF.length "");have L':Le μ (·=k) g' (g'.gA k (.obj aF.length "")):=Le.gA;have v':=e4.mono L' λa e=>by clear L' R' e2 e6;subst e;rw[e3];exact λz4=>fB.noConfusion z4
 have jD:Le μ cC (g'.gA k (.obj aF.length "")) ((g'.gA k (.obj aF.length "")).obj k):=Le.obj;have x8:=R'.newObj (a:=k) (mo:=.list vs) (if_pos rfl) ⟨items,n,e2,v'.mono jD (cx _),e5⟩;refine hQ _ _ _ _ x8 ((Le.drop' L L' p.rel e6).trans jD) (.ref ?_);simp[G.obj,G.gA,<-R.len]
inductive LX(g:G)(xs:List V)(x:Value):Prop
 |mk (k:Addr) (items:List Value) (n:Nat) (h1:x=.ref k) (h2:(k,cG items n)∈g.news) (h3:¬Wr 1 (g.tag k)) (h4:bD g xs items) (h5:xs.length<=1000)
theorem LX.K{C:Value->Prop}(h:LX g xs x)(K:∀k items n,(k,cG items n)∈g.news->¬Wr 1 (g.tag k)->bD g xs items->xs.length<=1000->C (.ref k)):C x:=by obtain⟨k,items,n,rfl,h2,h3,h4,h5⟩:=h;exact K k items n h2 h3 h4 h5
abbrev ij(sc:Scope)(n μ:Nat)(e:Expr)(m:ML):Prop:=fE sc n μ (λJ=>eval e J) m (λ_=>LX)
theorem QM(h:iG sc n μ e a):ij sc n μ e a:=by intro A J g ms s l E Q p r ms' hm hQ;refine h p hm λx h' tk g' R L lp=>?_;obtain⟨k,items,n,e1,e2,e3,e4,e5,e6⟩:=lp;exact hQ _ _ _ g' R L ⟨k,items,n,e1,e2,by rw[e3];exact id,e4,e5⟩
def bc(m:ME):ML:=ay m λv _ ms=>match v with
 |.lst vs=>if vs.length<=1000 then some (vs,ms)else none
 |.ref i=>match ms[i]? with
  |some (.list vs)=>some (vs,ms)
  |_=>none
 |_=>none
set_option tactic.hygienic true in
theorem GW{e:Expr}{m:ME}(h:aQ sc n μ e m):ij sc n μ e (bc m):=by
 intro A J g ms s l E Q p r ms' hm hQ;refine bY hm λv aF q1 q2=>?_;refine h p q1 λx h' tk g' R L v'=>?_;clear q1;cases v<;>try(exact aX q2)
 .rename_i i;dsimp only at q2;refine Bm q2 λvs hi q2=>?_
  .cases q2;cases v';rename_i a ha;refine aY (R.objs i _ hi) λa' e t q=>?_;rw[ha]at e;cases e;refine fN q λitems n h1 h2 h3=>?_;exact hQ _ _ _ g' R L ⟨a,items,n,rfl,h1,by rw[t];rintro(q|⟨_,q⟩)<;>simp at q,h2,h3⟩
 .rename_i vs;refine bT (jw (vs:=vs) (ms:=ms) (ms':=ms) q2) λhz q2=>?_;cases q2;apply aA.lK v';intro u6 u7 u9 m t vs;exact hQ _ _ _ g' R L ⟨_,_,_,rfl,m,by rw[t];exact id,vs,hz⟩
def a9(f:String)(m:ME):ML:=ay m λv _ ms=>match v with
 |.ref i=>match ms[i]? with
  |some (.inst _ fs)=>match fs.lookup f with
   |some (.lst xs)=>some (xs,ms)
   |_=>none
  |_=>none
 |_=>none
theorem OO(h:aQ sc n μ e m)(hf:f∈hB)
 (he:∀J,eval (.Attribute e (ofString f) pos) J=(do let o<-eval e J;standAt pos.atName;let r<-holding [o] (getAttr o (ofString f) true);letTemporaryGo e o r;pure r)):
 ij sc n μ (.Attribute e (ofString f) pos) (a9 f m):=by
 intro A J g ms s l E Q p r ms' hm;apply fh hm;intro P go r ms' hm;refine bY hm λv aF h1 h2=>?_;revert h1;apply uw h2;intro i h2 h1;refine lU h2 λc fs hi h2=>?_;refine Az h2 λy hy h2=>?_;refine eZ h2 (go _ _ λhQ=>?_);refine Attribute_any_ (h p h1 λx h' tk g' R L v=>?_) (he J);apply aA.rK v;intro a ha;refine vT (s:={s with heap:=h',toks:=tk}) R hi ha hf hy λx b0 fr=>?_;refine lS fr λk items n q1 q2 q3 q4 q5 q6=>?_;refine hQ _ _ _ g' R L ⟨k,items,n,q1,q3,?_,q4,q5⟩;rw[q2];rintro(q|⟨_,q⟩)
 .exact absurd q (by exact λz4=>Nat.not_lt_of_le z4 (Nat.lt_succ_self _))
 .rw[q]at q6;exact absurd q6 (by decide)
noncomputable def mX(k:Int)(len:Nat):Option Nat:=if 0<=k then(if k<len then some k.toNat else none)else if-(len:Int)<=k then some (k+len).toNat else none
def at_(xs:List V)(k:Int):Option V:=(mX k xs.length).bind λj=>xs[j]?
theorem yV{E:Value->Shared->Prop}{c:Nat}{j:Int}{Q:Value->Shared->Prop}(R:aJ g ms s.heap)(hm:(k,cG items c)∈g.news)
 (hv:bD g xs items)(hz:xs.length<=1000)(hj:at_ xs j=some v)(hQ:∀x,aA g v x->Q x s):wpAny (model prog w) A (getItem (.ref k) (.int j t)) Q E s:=by
 have hl:s.heap.IsList k items.toArray:=⟨_,R.led _ _ hm,rfl,c,rfl⟩;unfold at_ mX at hj;split at hj
 .rename_i h0;split at hj
  .rename_i h1;refine az (hv.get hj) λx hx hr=>?_;exact wpAny_getItem_list hl h0 (by omega) (by simpa using hx) (hQ x hr)
  .exact absurd hj (by nofun)
 .rename_i h0;split at hj
  .rename_i h1;refine az (hv.get hj) λx hx hr=>?_;have:=hv.length;exact wpAny_getItem_list_neg hl (by omega) (by simp[this];omega) (by omega) (by simpa[this]using hx) (hQ x hr)
  .exact absurd hj (by nofun)
def b9(a:ML)(b:ME):ME:=ay a λxs=>ay b λi _ ms=>match i with
 |.int j=>(at_ xs j).map λv=>(v,ms)
 |_=>none
theorem OP(h1:ij sc n μ e a)(h2:aQ sc n 0 f b)(hs:∀o i,subscripted f false o i=operate [o,i] (getItem o i)):
 aQ sc n μ (.Subscript e f pos) (b9 a b):=by
 intro A J g ms s l E Q p r ms' hm hQ;refine bY hm λxs aF q1 q2=>?_;refine bY q2 λi cf q2 q3=>?_;cases i<;>try(exact aX q3)
 rename_i j;simp only[map_eq_some_iff]at q3;obtain⟨v,hv,e⟩:=q3;cases e;refine Subscript_ (h1 p q1 λx h' tk g' R L lx=>?_);apply LX.K lx;intro k items c m1 m2 m3 m4;refine h2 (s:={s with heap:=h',toks:=tk}) (p.next L R) q2 λy bN b0 bp R' L' v'=>?_;apply aA.iK v';intro _;have q:=L'.keep _ _ m1 (λq=>m2 (q.up (by omega))) id;refine tail_any (T:="list") (ops:=[.ref k,_]) ⟨_,R'.led _ _ q.1,rfl⟩ slot_list_getitem.lookup ?_ (hs _ _);exact yV (s:={s with heap:=bN,toks:=b0}) R' q.1 (m3.mono L' (cx _)) m4 hv λx hx=>hQ _ _ _ bp R' (L.trans (L'.up (zero_le _))) hx
end
end
section
theorem JW{k:Int}{m j:Nat}(h:mX k m=some j):seqIndex? k m=some j:=by
 unfold mX at h;unfold seqIndex?;dsimp only;split at h
 .rename_i h0;split at h
  .rename_i h1;apply gg h;have e:(if k<0 then k+m else k)=k:=if_neg (by omega);rw[e];simp[h0,h1]
  .exact absurd h (by nofun)
 .rename_i h0;split at h
  .rename_i h1;apply gg h;have e:(if k<0 then k+m else k)=k+m:=if_pos (by omega);rw[e];have a1:0<=k+m:=by omega
   have a2:k+m<m:=by omega
   simp[a1,a2]
  .exact absurd h (by nofun)
section
variable{sc:Scope}{n μ:Nat}
theorem aJ.tB(R:aJ g ms h)(m:(a,o)∈g.news)(ht:g.tag a≠.fu):(a==sysModules)=false:=by
 refine az R.base.T.nolimit λmc ll _=>?_;have h1:cStatics<B.h₀.objs.size:=ll.lt;have h2:=R.fresh _ _ m ht;have h3:sysModules<cStatics:=by decide
 exact beq_eq_false_iff_ne.mpr λe=>by clear ht m;subst e;exact absurd (lt_of_lt_of_le (Nat.lt_trans h3 h1) h2) (Nat.lt_irrefl _)
def bR(f:String)(o v:ME):MS:=λl ms=>match v l ms with
 |some (x,aF)=>match o l aF with
  |some (.ref i,cf)=>match cf[i]? with
   |some (.inst c fs)=>if fs.length<=500 then some (.next,l,cf.set i (.inst c (fj f (.val x) fs)))else none
   |_=>none
  |_=>none
 |none=>none
theorem OQ(hv:aQ sc n μ ev v)(ho:aQ sc n μ eo o)(fY:1<=μ)(hf:f∈hB)
 (hs:∀J:Env,swapsWith ev (some (.Attribute eo (ofString f) ap)) pos.line J=pure false):
 hM sc n μ (.Assign [.Attribute eo (ofString f) ap] ev pos) (bR f o v):=by
 intro A J g ms s l E Q p r l' ms' hm;apply k6 hm;intro P go r l' ms' hm;unfold bR at hm;refine j9 hm λx aF e1 hm=>?_;refine oA hm λi cf e2 hm=>?_;refine lU hm λc fs e3 hm=>?_;refine kr hm λhz hm=>?_;refine kS hm (go _ _ _ λhQ=>?_);refine plainObj_wpAny_Assign_Attribute (hv p e1 λy h' tk g' R L vr=>?_) (hs J);refine ho (s:={s with heap:=h',toks:=tk}) (p.next L R) e2 λz bN b0 bp R' L' lq=>?_;apply aA.rK lq;intro a ha;refine sU (s:={s with heap:=bN,toks:=b0}) R' e3 ha hf hz (fv:=.val x) (vr.mono L' (cx _)) λfi gP cQ dq cF=>?_;exact hQ _ _ _ cQ (fC.of p dq ((L.trans L').trans (cF.up fY))) rfl
def cz(f:String)(o:ME)(v:ML):MS:=λl ms=>match v l ms with
 |some (xs,aF)=>match o l aF with
  |some (.ref i,cf)=>match cf[i]? with
   |some (.inst c fs)=>if fs.length<=500 then some (.next,l,cf.set i (.inst c (fj f (.lst xs) fs)))else none
   |_=>none
  |_=>none
 |none=>none
theorem Nj(hv:iG sc n μ ev v)(ho:aQ sc n μ eo o)(fY:1<=μ)(hf:f∈hB)
 (hs:∀J:Env,swapsWith ev (some (.Attribute eo (ofString f) ap)) pos.line J=pure false):
 hM sc n μ (.Assign [.Attribute eo (ofString f) ap] ev pos) (cz f o v):=by
 intro A J g ms s l E Q p r l' ms' hm;apply k6 hm;intro P go r l' ms' hm;unfold cz at hm;refine xa hm λxs aF e1 hm=>?_;refine oA hm λi cf e2 hm=>?_;refine lU hm λc fs e3 hm=>?_;refine kr hm λhz hm=>?_;refine kS hm (go _ _ _ λhQ=>?_);refine plainObj_wpAny_Assign_Attribute (hv p e1 λy h' tk g' R L lp=>?_) (hs J);apply LP.K lp;intro k items cn m1 t1 v1 z1 f1;refine ho (s:={s with heap:=h',toks:=tk}) (p.next L R) e2 λz bN b0 bp R' L' lq=>?_;apply aA.rK lq;intro a ha;obtain⟨m2,t2⟩:=L'.keep _ _ m1 (by rw[t1];exact id) id;have t2:=t2.trans t1;have bS:=R'.gA m2 t2 (.obj i f);have bx:Le μ (·=k) bp (bp.gA k (.obj i f)):=Le.gA;have v2:=(v1.mono L' (cx _)).mono bx λa e=>by clear bx bS f1 m1 m2 t1;subst e;rw[t2];exact λz4=>fB.noConfusion z4
 refine sU (s:={s with heap:=bN,toks:=b0}) bS e3 ha hf hz (fv:=.lst xs) ⟨k,items,cn,rfl,by exact if_pos rfl,m2,v2,z1,hf⟩ λfi gP cQ dq cF=>?_;exact hQ _ _ _ cQ (fC.of p dq ((Le.drop' (L.trans L') bx p.rel f1).trans (cF.up fY))) rfl
noncomputable def jO:V->Option DK
 |.int i=>some (.int i)
 |.str s=>some (.str s)
 |_=>none
theorem rA(h:jO v=some k)(r:aA g v x):(gN).is (ki k) x=true:=by
 cases v with
 |int i=>apply aA.iK r;intro _;apply gg h;simp[gN,tV,ki,Value.isInt]
 |str s=>apply aA.sK r;intro _;apply gg h;simp[gN,tV,ki,Value.isStrOf]
 |_=>exact aX h
noncomputable def iA(es:List (DK×V))(k:DK):Option V:=es.lookup k
theorem d6.get(r:d6 g es kvs):match iA es k with
 |some v=>∃x,valueAt kvs (ki k)=some x/\aA g v x
 |none=>valueAt kvs (ki k)=none:=by
 induction r with
 |nil=>rfl
 |@cons k' v x es kvs a b ih=>
  unfold iA at ih⊢;by_cases h:k=k'
  .subst h;simp only[lookup_cons,beq_self_eq_true];exact⟨x,by simp[valueAt],a⟩
  .have h1:(k==k')=false:=beq_eq_false_iff_ne.mpr h;have h2:ki k'≠ki k:=λe=>h (zZ e).symm;simp only[lookup_cons,h1];have e:valueAt ((ki k',x)::kvs) (ki k)=valueAt kvs (ki k):=by simp[valueAt,List.find?_cons,h2]
   rw[e];exact ih
theorem aJ.dict(R:aJ g ms h){i:Nat}(hi:ms[i]?=some (.dict es))(ha:g.dm[i]?=some a):
 ∃o kvs,(a,o)∈g.news/\g.tag a=.obj i ""/\h.DictOf (gN) a kvs/\o.IsDictOf (gN) kvs/\d6 g es kvs/\es.length<=1000:=by
 refine aY (R.objs i _ hi) λa' e t q=>?_;rw[ha]at e;cases e;refine iz q λo kvs h1 h2 h3 h4=>?_;exact GK o kvs h1 t (Heap.dictOf_iff.mpr ⟨o,R.led _ _ h1,h2⟩) h2 h3 h4
def gm(o i:V)(ms:Hp):Option V:=match o with
 |.tup xs=>match i with
  |.int k=>if xs.length<=1000 then at_ xs k else none
  |_=>none
 |.lst xs=>match i with
  |.int k=>if xs.length<=1000 then at_ xs k else none
  |_=>none
 |.ref j=>match ms[j]? with
  |some (.list xs)=>match i with
   |.int k=>at_ xs k
   |_=>none
  |some (.dict es)=>(jO i).bind (iA es)
  |_=>none
 |_=>none
set_option tactic.hygienic true in
theorem L9{E:Value->Shared->Prop}{Q:Value->Shared->Prop}(R:aJ g ms s.heap)(ho:aA g o x)(hi:aA g i y)(h:gm o i ms=some v)
 (hs:∀o i,subscripted slice false o i=operate [o,i] (getItem o i))(hQ:∀z tk,aA g v z->Q z {s with toks:=tk}):wpAny (model prog w) A (subscriptTail value slice x y) Q E s:=by
 unfold gm at h;cases o<;>try(exact aX h)
 .rename_i j;dsimp only at h;apply aA.rK ho;intro a ha;refine GP h (λxs hj h=>?_) λes hj h=>?_
  .cases i<;>try(exact aX h)
   rename_i k;refine aY (R.objs j _ hj) λa' e t q=>?_;rw[ha]at e;clear t;cases e;refine fN q λitems c h1 h2 h3=>?_;apply aA.iK hi;intro _;exact tail_any (T:="list") (ops:=[.ref a,_]) ⟨_,R.led _ _ h1,rfl⟩ slot_list_getitem.lookup (yV R h1 h2 h3 h λz hz=>hQ z s.toks hz) (hs _ _)
  .refine az (Option.bind_eq_some_iff.mp h) λk hk hg=>?_;refine qz (R.dict hj ha) λod kvs h1 h2 h3 h4 h5 h6=>?_;have q:=d6.get (k:=k) h5;rw[hg]at q;refine az q λz hz hr=>?_;exact tail_any (T:="dict") (ops:=[.ref a,_]) h3.mapOf.typeIs slot_dict_getitem.lookup (wpAny_getItem_of (rA hk hi) h3.mapOf hz (hQ z _ hr)) (hs _ _)
 .rename_i xs;cases i<;>try(exact aX h)
  rename_i k;dsimp only at h;refine kr h λhz h=>?_;apply aA.iK hi;intro _;unfold at_ at h;refine az (Option.bind_eq_some_iff.mp h) λj hj hx=>?_;apply aA.tK ho;intro a items c m t vs;refine az (vs.get hx) λz pG hr=>?_;have hb:-(2^63)<=k/\k<2^63:=by
   unfold mX at hj;split at hj
   .split at hj
    .omega
    .exact aX hj
   .split at hj
    .omega
    .exact aX hj
  have ht:IsTup s.heap a items.toArray:=⟨_,R.led _ _ m,rfl,c,rfl⟩;exact tail_any (T:="tuple") (ops:=[.ref a,_]) ht.typeIs slot_tuple_getitem.lookup (getItem_tuple ht hb.1 hb.2 (j:=j) (by rw[size_toArray,vs.length];exact JW hj) (by simpa using pG) (hQ z _ hr)) (hs _ _)
 .rename_i xs;cases i<;>try(exact aX h)
  rename_i k;dsimp only at h;refine kr h λhz h=>?_;apply aA.iK hi;intro _;apply aA.lK ho;intro u6 u7 u9 m t vs;exact tail_any (T:="list") (ops:=[.ref _,_]) ⟨_,R.led _ _ m,rfl⟩ slot_list_getitem.lookup (yV R m vs hz h λz hz=>hQ z s.toks hz) (hs _ _)
def au(a b:ME):ME:=ay a λo=>ay b λi _ ms=>(gm o i ms).map λv=>(v,ms)
theorem QN(h1:aQ sc n μ e a)(h2:aQ sc n μ f b)(hs:∀o i,subscripted f false o i=operate [o,i] (getItem o i)):
 aQ sc n μ (.Subscript e f pos) (au a b):=by
 intro A J g ms s l E Q p r ms' hm hQ;refine bY hm λo aF q1 q2=>?_;refine bY q2 λi cf q2 q3=>?_;simp only[map_eq_some_iff]at q3;obtain⟨v,hv,e⟩:=q3;cases e;refine Subscript_ (h1 p q1 λx h' tk g' R L v'=>?_);refine h2 (s:={s with heap:=h',toks:=tk}) (p.next L R) q2 λy bN b0 bp R' L' TG=>?_;exact L9 (s:={s with heap:=bN,toks:=b0}) R' (v'.mono L' (cx _)) TG hv hs λz Bu hz=>hQ _ _ _ bp R' (L.trans L') hz
end
end
section
section
variable{sc:Scope}{n μ:Nat}
theorem Dl{E:Value->Shared->Prop}{items:List Value}{c:Nat}{j:Int}{Q:Unit->Shared->Prop}(hl:s.heap.get? k=some (cG items c))
 (h0:0<=j)(h1:j<items.length)(h2:j<2^63)
 (hQ:∀h',Heap.SameBut k s.heap h'->h'.get? k=some (cG (items.set j.toNat y) c)->Q () {s with heap:=h'}):wpAny (model prog w) A (setItem (.ref k) (.int j t) y) Q E s:=by
 have ty:s.TypeIs (.ref k) "list":=(a0 _ hl rfl);unfold setItem;with_reducible refine wpAny_holding ?_
 refine wpAny_bind (wpAny_sequenceKey ty (by exact rfl) ?_);refine wpAny_bind (wpAny_callSpecial?_slot (name:=ofString "__setitem__") ty slot_list_setitem (wpAny_call_entry slot_list_setitem ty entry_list_setitem ?_ (args_list_setitem _ _ _)));show wpAny _ _ (Builtin.List.listSubscript? (.int j t)>>=_) _ _ s;refine wpAny_bind (wpAny_listSubscript_int (fitsIndex_of h0 h2) ?_);clear h2;obtain⟨i,rfl⟩:=Int.eq_ofNat_of_zero_le h0;have hi:i<items.length:=by omega
 have new:Obj.mapSeq (·.setIfInBounds i y) (cG items c)=cG (items.set i y) c:=by simp[Obj.mapSeq]
 have fin:=hQ (s.heap.update k (Obj.mapSeq (·.setIfInBounds i y))) (Heap.SameBut.update ..) (by rw[Heap.get?_update_self _ hl (by rw[new];rfl),new];simp);show wpAny _ _ ((seqItemAt k i>>=λr=>pure (r.map (i,·)))>>=_) _ _ s;refine wpAny_bind (wpAny_bind (wpAny_seqItemAt hl rfl (wpAny_pure ?_)));rw[show items.toArray[i]?=some items[i] by simp[hi]];show wpAny _ _ (setSeqItemAt k i y>>=_) _ _ s;refine wpAny_bind (wpAny_setSeqItemAt hl rfl ?_);exact wpAny_pure ⟨.none,rfl,wpAny_pure fin⟩
theorem MO.Nk(h:f∈hB):f≠""/\f≠"#":=by constructor<;>(rintro rfl;exact absurd h (by decide))
def va(g:G)(f:String)(i:Nat)(x:Value):Prop:=∃a k dx es m C,x=.ref k/\g.dm[i]?=some a/\(a,instObj C dx)∈g.news/\g.tag a=.obj i ""/\(dx,dictOf es m)∈g.news/\g.tag dx=.obj i "#"/\getL (ofString f) es=some (some (.ref k))/\g.tag k=.obj i f/\∃items cn,(k,cG items cn)∈g.news
theorem va.mono{i:Nat}(L:Le 0 cC g g')(q:va g f i x):va g' f i x:=by obtain⟨a,k,dx,es,m,C,e,h1,h2,h3,h4,h5,h6,h7,items,cn,h8⟩:=q;have q3:=L.keep _ _ h8 (by rw[h7];rintro(q|⟨q,_⟩)<;>omega) id;have q1:=L.keep _ _ h2 (by rw[h3];rintro(q|⟨q,_⟩)<;>omega) id;have q2:=L.keep _ _ h4 (by rw[h5];rintro(q|⟨q,_⟩)<;>omega) id;exact⟨a,k,dx,es,m,C,e,L.mG h1,q1.1,q1.2.trans h3,q2.1,q2.2.trans h5,h6,q3.2.trans h7,items,cn,q3.1⟩
theorem aJ.field(R:aJ g ms h){i:Nat}(hi:ms[i]?=some (.inst c fs))(hf:fs.lookup f=some (.lst xs))(q:va g f i x):
 ∃k items cn,x=.ref k/\(k,cG items cn)∈g.news/\bD g xs items/\xs.length<=1000/\
  ∀h' items' nP mY,Heap.SameBut k h h'->h'.get? k=some (cG items' nP)->bD g mY items'->mY.length<=1000->
   aJ (g.put k (cG items' nP)) (ms.set i (.inst c (fj f (.lst mY) fs))) h'/\Le 2 cC g (g.put k (cG items' nP)):=by
 refine Sq q λa k dx es m C B8 e1 e2 e3 e4 e5 e6 _=>?_;clear q;subst B8;refine ou (R.inst hi e1) λWO bu m' h1 h2 h3 ta h4=>?_;have z:=R.fn e2 h1;simp only[Obj.mk.injEq,Option.some.injEq]at z;refine Hw z λ_ bf _ _=>?_;clear z;subst bf;have z:=R.fn e4 h2;have z2:es=bu:=by have:=congrArg Obj.data z;simp at this;exact this.1
 clear z;subst z2;refine az (h4.has f _ hf) λy hy hr=>?_;rw[e6]at hy;cases hy;refine lS hr λk' items cn q1 ht hm hv hz hn=>?_;cases q1;refine tT k items cn rfl hm hv hz (λh' items' nP mY hs ho hv hz=>?_);have L:Le 2 cC g (g.put k (cG items' nP)):=Le.put (.inl (by rw[ht];exact .inl (le_refl _)));have off:=MO.Nk hn;have own:∀b o p,(b,o)∈g.news->g.tag b=.obj i p->p≠f->(b,o)∈(g.put k (cG items' nP)).news:=by intro b o p m t hp;refine gf.mpr (.inr ⟨m,?_⟩);clear L e6 hm ho hr hs;rintro rfl;rw[ht]at t;cases t;exact hp rfl
 refine⟨R.tx hm ht hs ho e1 ⟨dx,es,m',own _ _ _ h1 ta (Ne.symm off.1),own _ _ _ h2 h3 (Ne.symm off.2),h3,?_,?_,?_⟩,L⟩
 .rw[yU,hf];exact h4.len
 .intro f' lj e;by_cases q:f'=f
  .clear hf off own;clear hr;subst q;rw[s9]at e;apply gg e;exact⟨.ref k,e6,k,items',nP,rfl,ht,gf.mpr (.inl ⟨rfl,rfl⟩),hv.mono L (cx _),hz,hn⟩
  .rw[tA q]at e;refine az (h4.has f' lj e) λy hy hr=>?_;refine a0 y hy ?_;cases lj with
   |val v=>exact aA.mono L (cx _) hr
   |lst us=>refine lS hr λk' it n' q1 q2 q3 q4 q5 q6=>?_;exact w7 k' it n' q1 q2 (own _ _ _ q3 q2 q) (q4.mono L (cx _)) q5 q6
   |js=>refine iz hr λk' n' q1 q2 q3 q4=>?_;exact kQ k' n' q1 q2 (own _ _ _ q3 q2 q) q4
 .intro f' e;by_cases q:f'=f
  .clear hn ht;clear e6 hf off own;subst q;rw[s9]at e;cases e
  .rw[tA q]at e;exact h4.tW f' e
noncomputable abbrev MI:=av->Hp->Option (Nat×Hp)
def bJ(f:String)(m:ME):MI:=ay m λv _ ms=>match v with
 |.ref i=>match ms[i]? with
  |some (.inst c fs)=>match fs.lookup f with
   |some (.lst xs)=>some (i,ms)
   |_=>none
  |_=>none
 |_=>none
abbrev rM(f:String)(sc:Scope)(n μ:Nat)(e:Expr)(m:MI):Prop:=fE sc n μ (λJ=>eval e J) m (λ_ g i x=>va g f i x)
theorem OR(h:aQ sc n μ e m)(hf:f∈hB)
 (he:∀J,eval (.Attribute e (ofString f) pos) J=(do let o<-eval e J;standAt pos.atName;let r<-holding [o] (getAttr o (ofString f) true);letTemporaryGo e o r;pure r)):
 rM f sc n μ (.Attribute e (ofString f) pos) (bJ f m):=by
 intro A J g ms s l E Q p r ms' hm;apply fh hm;intro P go r ms' hm;refine bY hm λv aF h1 h2=>?_;revert h1;apply uw h2;intro i h2 h1;refine lU h2 λc fs hi h2=>?_;refine Az h2 λy hy h2=>?_;refine eZ h2 (go _ _ λhQ=>?_);refine Attribute_any_ (h p h1 λx h' tk g' R L v=>?_) (he J);apply aA.rK v;intro a ha;refine ou (R.inst hi ha) λdx es m k1 k2 k3 k4 k5=>?_;refine az (k5.has f _ hy) λx hx hr=>?_;refine lS hr λk items n q1 q2 q3 q4 q5 q6=>?_;clear hr;subst q1;have X:B.K.In h':=R.base.X.keeps R.keep;refine get_value (s:={s with heap:=h',toks:=tk}) (C:=eE c) (od:=some (dictOf es m)) X ⟨R.led _ _ k1,rfl,rfl,R.led _ _ k2⟩ (B.pD c).yN (findObj_own (B.pD c).dict (B.fld c f hf) rfl (by rw[lookIn_dict];exact hx)) rfl ?_;exact hQ _ _ _ g' R L ⟨a,k,dx,es,m,_,rfl,ha,k1,k4,k2,k3,hx,q2,items,n,q3⟩
noncomputable def dA(ms:Hp)(i:Nat)(f:String):Option (jr×List (String×FV)×List V):=match ms[i]? with
 |some (.inst c fs)=>match fs.lookup f with
  |some (.lst xs)=>some (c,fs,xs)
  |_=>none
 |_=>none
theorem yO{i:Nat}(h:dA ms i f=some r):ms[i]?=some (.inst r.1 r.2.1)/\r.2.1.lookup f=some (.lst r.2.2):=by unfold dA at h;refine lU h λc fs e1 h=>?_;refine Az h λxs e2 h=>?_;apply gg h;exact⟨e1,e2⟩
def cT(f:String)(o:MI)(b v:ME):MS:=λl ms=>match v l ms with
 |some (x,aF)=>match o l aF with
  |some (i,cf)=>match b l cf with
   |some (.int j,mK)=>match dA mK i f with
    |some (c,fs,xs)=>if 0<=j/\j<xs.length then some (.next,l,mK.set i (.inst c (fj f (.lst (xs.set j.toNat x)) fs)))else none
    |none=>none
   |_=>none
  |none=>none
 |none=>none
theorem Nl(hv:aQ sc n 2 ev v)(ho:rM f sc n 2 eo o)(hb:aQ sc n 0 ei b)
 (hs:∀J:Env,swapsWith ev (some (.Subscript eo ei ap)) pos.line J=pure false):
 hM sc n 2 (.Assign [.Subscript eo ei ap] ev pos) (cT f o b v):=by
 intro A J g ms s l E Q p r l' ms' hm;apply k6 hm;intro P go r l' ms' hm;unfold cT at hm;refine j9 hm λx aF e1 hm=>?_;refine Ax hm λi cf e2 hm=>?_;refine Bn hm λj mK e3 hm=>?_;refine Ay hm λc fs xs e4 hm=>?_;refine kr hm λhj hm=>?_;refine kS hm (go _ _ _ λhQ=>?_);refine wpAny_Assign_Subscript (hv p e1 λy h' tk g' R L vr=>?_) (hs J);refine ho (s:={s with heap:=h',toks:=tk}) (p.next L R) e2 λz bN b0 bp R' L' fa=>?_;refine hb (s:={s with heap:=bN,toks:=b0}) (p.next (L.trans L') R') e3 λiv fi gP cQ dq cF ir=>?_;apply aA.iK ir;intro _;have hi:=yO e4;refine ou (dq.field hi.1 hi.2 (fa.mono cF)) λk items cn gI hm gW hz kk=>?_;clear fa;subst gI;have vr:=(vr.mono L' (cx _)).mono cF (cx _);refine Dl (s:={s with heap:=fi,toks:=gP}) (dq.led _ _ hm) hj.1 (by rw[gW.length];exact hj.2) (by have:=hj.2;have pG:xs.length<=1000:=hz;omega) λnD tY tZ=>?_;obtain⟨k8,lV⟩:=kk nD _ cn (xs.set j.toNat x) tY tZ (gW.set vr _) (by rw[length_set];exact hz);exact hQ _ _ _ _ (fC.of p k8 (((L.trans L').trans (cF.up (zero_le _))).trans lV)) rfl
end
end
section
section
variable{sc:Scope}{n μ:Nat}
noncomputable def ku(es:List (DK×V))(k:DK)(v:V):List (DK×V):=if es.any (λe=>e.1=k)then es.map (λe=>if e.1=k then(k,v)else e)else es++[(k,v)]
noncomputable def lW(es:List (DK×V))(k:DK):List (DK×V):=es.filter λe=>e.1≠k
theorem FQ:ki a=ki b↔a=b:=⟨zZ,λh=>by rw[h]⟩
theorem d6.any(r:d6 g es kvs):kvs.any (λkv=>kv.1=ki k)=es.any (λe=>e.1=k):=d6.rec (motive:=λes kvs _=>kvs.any (λkv=>kv.1=ki k)=es.any (λe=>e.1=k)) rfl (λ_ _ ih=>by simp only[List.any_cons,ih,FQ]) r
theorem d6.map(hx:aA g v x)(r:d6 g es kvs):
 d6 g (es.map λe=>if e.1=k then(k,v)else e) (kvs.map λkv=>if kv.1=ki k then(kv.1,x)else kv):=
 d6.rec (motive:=λes kvs _=>d6 g (es.map λe=>if e.1=k then(k,v)else e) (kvs.map λkv=>if kv.1=ki k then(kv.1,x)else kv)) .nil (λ{k'} _ _ _ _ a _ ih=>by
  simp only[map_cons,FQ];by_cases h:k'=k
  .subst h;simp only[if_true];exact .cons hx ih
  .simp only[h,if_false];exact .cons a ih) r
theorem d6.append(hx:aA g v x){es:List (DK×V)}{kvs:List (KI×Value)}(r:d6 g es kvs):d6 g (es++[(k,v)]) (kvs++[(ki k,x)]):=d6.rec (motive:=λes kvs _=>d6 g (es++[(k,v)]) (kvs++[(ki k,x)])) (.cons hx .nil) (λa _ ih=>.cons a ih) r
theorem d6.stored(hx:aA g v x)(h:d6 g es kvs):d6 g (ku es k v) (PySem.stored kvs (ki k) x):=by
 delta ku PySem.stored;rw[h.any];split
 .exact h.map hx
 .exact h.append hx
theorem JX(es:List (DK×V))(k:DK)(v:V):(ku es k v).length<=es.length+1:=by unfold ku;split<;>simp
theorem d6.length(r:d6 g es kvs):kvs.length=es.length:=d6.rec (motive:=λes kvs _=>kvs.length=es.length) rfl (λ_ _ ih=>congrArg (·+1) ih) r
theorem d6.without(r:d6 g es kvs):d6 g (lW es k) (PySem.without kvs (ki k)):=
 d6.rec (motive:=λes kvs _=>d6 g (lW es k) (PySem.without kvs (ki k))) .nil (λ{k'} _ _ es kvs a _ ih=>by
  unfold lW PySem.without at*;simp only[List.filter_cons];by_cases h:k'=k
  .subst h;simpa using ih
  .have h2:ki k'≠ki k:=λe=>h (zZ e);simp only[h,h2,ne_eq,not_false_eq_true,decide_true,if_true];exact .cons a ih) r
theorem aJ.E7(R:aJ g ms h){i:Nat}(hi:ms[i]?=some (.dict es))(ha:g.dm[i]?=some a)(hs:Heap.SameBut a h h')(hd:h'.DictOf (gN) a kvs)
 (hr:d6 g bu kvs)(hz:bu.length<=1000):∃g',aJ g' (ms.set i (.dict bu)) h'/\Le 2 cC g g':=by
 refine qz (R.dict hi ha) λo FR h1 t _ _ _ _=>?_;refine az (Heap.dictOf_iff.mp hd) λo' bP gv=>?_;have L:Le 2 cC g (g.put a o'):=Le.put (.inl (by rw[t];exact .inl (le_refl _)));exact a0 _ (R.tx h1 t hs bP ha ⟨o',kvs,gf.mpr (.inl ⟨rfl,rfl⟩),gv,hr.mono L (cx _),hz⟩) L
theorem aJ.t5(R:aJ g ms h){i:Nat}(hi:ms[i]?=some (.list xs))(ha:g.dm[i]?=some a):
 ∃items c,(a,cG items c)∈g.news/\g.tag a=.obj i ""/\bD g xs items/\xs.length<=1000:=by
 refine aY (R.objs i _ hi) λa' e t q=>?_;rw[ha]at e;cases e;refine fN q λitems c h1 h2 h3=>?_;exact kQ items c h1 t h2 h3
theorem aJ.E8(R:aJ g ms h){i:Nat}{c':Nat}(hi:ms[i]?=some (.list xs))(ha:g.dm[i]?=some a)(hs:Heap.SameBut a h h')(ho:h'.get? a=some (cG items' c'))
 (hr:bD g mY items')(hz:mY.length<=1000):∃g',aJ g' (ms.set i (.list mY)) h'/\Le 2 cC g g':=by
 refine iz (R.t5 hi ha) λitems c h1 t _ _=>?_;have L:Le 2 cC g (g.put a (cG items' c')):=Le.put (.inl (by rw[t];exact .inl (le_refl _)));exact a0 _ (R.tx h1 t hs ho ha ⟨items',c',gf.mpr (.inl ⟨rfl,rfl⟩),hr.mono L (cx _),hz⟩) L
def k9(o i x:V)(ms:Hp):Option Hp:=match o with
 |.ref j=>match ms[j]? with
  |some (.list xs)=>match i with
   |.int k=>if 0<=k/\k<xs.length then some (ms.set j (.list (xs.set k.toNat x)))else none
   |_=>none
  |some (.dict es)=>match jO i with
   |some k=>if es.length<=900 then some (ms.set j (.dict (ku es k x)))else none
   |none=>none
  |_=>none
 |_=>none
set_option tactic.hygienic true in
theorem Ew{E:Value->Shared->Prop}{Q:Unit->Shared->Prop}(R:aJ g ms s.heap)(ho:aA g o x)(hi:aA g i y)(hv:aA g v z)(h:k9 o i v ms=some ms')
 (hQ:∀h' tk g',aJ g' ms' h'->Le 2 cC g g'->Q () {s with heap:=h',toks:=tk}):wpAny (model prog w) A (setItem x y z) Q E s:=by
 unfold k9 at h;cases o<;>try(exact aX h)
 rename_i j;dsimp only at h;apply aA.rK ho;intro a ha;refine GP h (λxs hj h=>?_) λes hj h=>?_
 .revert hi;apply Bo h;intro k h hi;refine kr h λhk h=>?_;cases h;apply aA.iK hi;intro Ws;refine iz (R.t5 hj ha) λitems c h1 t h2 h3=>?_;refine Dl (R.led _ _ h1) hk.1 (by rw[h2.length];exact hk.2) (by have:=hk.2;omega) λh' hs ho=>?_;refine az (R.E8 hj ha hs ho (h2.set hv k.toNat) (by rw[length_set];exact h3)) λg' R' L'=>?_;exact hQ h' s.toks g' R' L'
 .refine tU h λk hk h=>?_;refine kr h λhz h=>?_;cases h;refine qz (R.dict hj ha) λod kvs h1 t h3 h4 h5 h6=>?_;refine wpAny_setItem_pairs (rA hk hi) h3 (λh' hd hs=>?_) (by rw[h5.length,sizeLine_eq];omega);refine az (R.E7 hj ha hs hd (h5.stored hv) (by have:=JX es k v;omega)) λg' R' L'=>?_;exact hQ h' _ g' R' L'
def gE(o b v:ME):MS:=λl ms=>match v l ms with
 |some (x,aF)=>match o l aF with
  |some (p,cf)=>match b l cf with
   |some (i,mK)=>match k9 p i x mK with
    |some GX=>some (.next,l,GX)
    |none=>none
   |none=>none
  |none=>none
 |none=>none
theorem OS(hv:aQ sc n 2 ev v)(ho:aQ sc n 2 eo o)(hb:aQ sc n 2 ei b)
 (hs:∀J:Env,swapsWith ev (some (.Subscript eo ei ap)) pos.line J=pure false):
 hM sc n 2 (.Assign [.Subscript eo ei ap] ev pos) (gE o b v):=by
 intro A J g ms s l E Q p r l' ms' hm;apply k6 hm;intro P go r l' ms' hm;unfold gE at hm;refine j9 hm λx aF e1 hm=>?_;refine j9 hm λq cf e2 hm=>?_;refine j9 hm λi mK e3 hm=>?_;refine Qm hm λGX e4 hm=>?_;refine kS hm (go _ _ _ λhQ=>?_);refine wpAny_Assign_Subscript (hv p e1 λy h' tk g' R L vr=>?_) (hs J);refine ho (s:={s with heap:=h',toks:=tk}) (p.next L R) e2 λz bN b0 bp R' L' lq=>?_;refine hb (s:={s with heap:=bN,toks:=b0}) (p.next (L.trans L') R') e3 λiv fi gP cQ dq cF ir=>?_;exact Ew (s:={s with heap:=fi,toks:=gP}) dq (lq.mono cF (cx _)) ir ((vr.mono L' (cx _)).mono cF (cx _)) e4 λnD AF Bv k8 lV=>hQ _ _ _ Bv (fC.of p k8 (((L.trans L').trans cF).trans lV)) rfl
abbrev o5(o:Expr)(name:Str)(apos pos:Pos)(args:List Expr)(pl:Env->Sem Bool):Prop:=∀J,eval (.Call (.Attribute o name apos) args [] pos) J=(do
 let ov<-eval o J
 standAt apos.atName
 let(f,first)<-holding [ov] (getMethod ov name (pl J))
 callWith pos f first (backTo pos (starEach args J)) [])
def jm(f:String)(o:MI)(v:ME):ME:=λl ms=>match o l ms with
 |some (i,aF)=>match v l aF with
  |some (x,cf)=>match dA cf i f with
   |some (c,fs,xs)=>if xs.length<=900 then some (.none,cf.set i (.inst c (fj f (.lst (xs++[x])) fs)))else none
   |none=>none
  |none=>none
 |none=>none
theorem OT{pl:Env->Sem Bool}(ho:rM f sc n 2 eo o)(hv:aQ sc n 0 ev v)(hm:o5 eo "append" ap pos [ev] pl)
 (he:∀J,starEach [ev] J=(false,eval ev J)::starEach [] J):aQ sc n 2 (.Call (.Attribute eo "append" ap) [ev] [] pos) (jm f o v):=by
 intro A J g ms s l E Q p r ms' h;apply fh h;intro P go r ms' h;unfold jm at h;refine Ax h λi aF e1 h=>?_;refine j9 h λx cf e2 h=>?_;refine Ay h λc fs xs e3 h=>?_;refine kr h λhz h=>?_;refine eZ h (go _ _ λhQ=>?_);refine MethodCall_ (ho p e1 λy h' tk g' R L fa=>?_) (hm J);obtain⟨_,k,_,_,_,_,rfl,_,_,_,_,_,_,_,Ma,VY,AG⟩:=id fa;refine getMethod_list_append (s:={s with heap:=h',toks:=tk}) (R.led _ _ AG) rfl rfl ?_;refine callWith_method1 (args_cons (hv (s:={s with heap:=h',toks:=tk}) (p.next L R) e2 λz bN b0 bp R' L' vr=>args_nil ?_) (he J)) (he J);have hi:=yO e3;refine ou (R'.field hi.1 hi.2 (fa.mono L')) λk' items cn q hm gW pG kk=>?_;cases q;refine append_at (s:={s with heap:=bN,toks:=b0}) (R'.led _ _ hm) (λfi om AH=>?_) (by rw[size_toArray,gW.length,sizeLine_eq];have:xs.length<=1000:=pG;omega);have z6:fi.get? k=some (cG (items++[z]) (cn+1)):=by rw[AH];simp
 obtain⟨dq,cF⟩:=kk fi _ _ (xs++[x]) om z6 (gW.append (.cons vr .nil)) (by rw[List.length_append,List.length_singleton];omega);exact hQ _ _ _ _ dq ((L.trans (L'.up (zero_le _))).trans cF) .none
noncomputable def kx(o v:ME):ME:=λl ms=>match o l ms with
 |some (.ref i,aF)=>match aF[i]? with
  |some (.list _)=>match v l aF with
   |some (x,cf)=>match cf[i]? with
    |some (.list xs)=>if xs.length<=900 then some (.none,cf.set i (.list (xs++[x])))else none
    |_=>none
   |none=>none
  |_=>none
 |_=>none
theorem QO{pl:Env->Sem Bool}(ho:aQ sc n 2 eo o)(hv:aQ sc n 2 ev v)(hm:o5 eo "append" ap pos [ev] pl)
 (he:∀J,starEach [ev] J=(false,eval ev J)::starEach [] J):aQ sc n 2 (.Call (.Attribute eo "append" ap) [ev] [] pos) (kx o v):=by
 intro A J g ms s l E Q p r ms' h;apply fh h;intro P go r ms' h;unfold kx at h;refine oA h λi aF e1 h=>?_;refine Bm h λVZ e0 h=>?_;refine j9 h λx cf e2 h=>?_;refine Bm h λxs e3 h=>?_;refine kr h λhz h=>?_;refine eZ h (go _ _ λhQ=>?_);refine MethodCall_ (ho p e1 λy h' tk g' R L vr=>?_) (hm J);apply aA.rK vr;intro a ha;refine fH (R.t5 e0 ha) λMa c₀ AG _=>?_;refine getMethod_list_append (s:={s with heap:=h',toks:=tk}) (R.led _ _ AG) rfl rfl ?_;refine callWith_method1 (args_cons (hv (s:={s with heap:=h',toks:=tk}) (p.next L R) e2 λz bN b0 bp R' L' vr=>args_nil ?_) (he J)) (he J);refine iz (R'.t5 e3 (L'.mG ha)) λitems c hm t gW pG=>?_;refine append_at (s:={s with heap:=bN,toks:=b0}) (R'.led _ _ hm) (λfi om AH=>?_) (by rw[size_toArray,gW.length,sizeLine_eq];omega);have z6:fi.get? a=some (cG (items++[z]) (c+1)):=by rw[AH];simp
 refine az (R'.E8 e3 (L'.mG ha) om z6 (gW.append (.cons vr .nil)) (by rw[List.length_append,List.length_singleton];omega)) λcQ dq cF=>?_;exact hQ _ _ _ _ dq ((L.trans L').trans cF) .none
def iH(o k:ME):ME:=λl ms=>match o l ms with
 |some (.ref i,aF)=>match aF[i]? with
  |some (.dict _)=>match k l aF with
   |some (x,cf)=>match cf[i]? with
    |some (.dict es)=>match jO x with
     |some k=>some ((iA es k).getD .none,cf)
     |none=>none
    |_=>none
   |none=>none
  |_=>none
 |_=>none
theorem OU{pl:Env->Sem Bool}(ho:aQ sc n μ eo o)(hk:aQ sc n μ ek k)(hm:o5 eo "get" ap pos [ek] pl)
 (he:∀J,starEach [ek] J=(false,eval ek J)::starEach [] J):aQ sc n μ (.Call (.Attribute eo "get" ap) [ek] [] pos) (iH o k):=by
 intro A J g ms s l E Q p r ms' h;apply fh h;intro P go r ms' h;unfold iH at h;refine oA h λi aF e1 h=>?_;refine uv h λQP e0 h=>?_;refine j9 h λx cf e2 h=>?_;refine uv h λes e3 h=>?_;refine tU h λkey e4 h=>?_;refine eZ h (go _ _ λhQ=>?_);refine MethodCall_ (ho p e1 λy h' tk g' R L vr=>?_) (hm J);apply aA.rK vr;intro a ha;refine iz (R.dict e0 ha) λSF FR rW t₀ uy _=>?_;refine getMethod_builtin (s:={s with heap:=h',toks:=tk}) uy.mapOf.typeIs F.plainAttrs_dict F.slot_dict_get F.type_dict_get uy.mapOf.noDict ?_;rw[show backTo pos (starEach [ek] J)=[(false,eval ek J)] by rw[he J];rfl];refine wpAny_dict_get1 (K:=KI) (knd:=gN) (R.tB rW (by rw[t₀];exact λz4=>fB.noConfusion z4)) (hk (s:={s with heap:=h',toks:=tk}) (p.next L R) e2 λz bN b0 bp R' L' vr=>?_);refine qz (R'.dict e3 (L'.mG ha)) λo kvs m _ d _ dr _=>?_;refine hG (ki key) _ (rA e4 vr) d.mapOf ?_;have q:=d6.get (k:=key) dr;cases hg:iA es key with
 |some v=>rw[hg]at q;refine az q λz' hz hr=>?_;rw[hz];exact hQ _ _ _ _ R' (L.trans L') (hg▸hr)
 |none=>rw[hg]at q;rw[q];exact hQ _ _ _ _ R' (L.trans L') (hg▸.none)
def pg(o k:ME):ME:=λl ms=>match o l ms with
 |some (.ref i,aF)=>match aF[i]? with
  |some (.dict _)=>match k l aF with
   |some (x,cf)=>match cf[i]? with
    |some (.dict es)=>match jO x with
     |some k=>some ((iA es k).getD .none,if(iA es k).isSome then cf.set i (.dict (lW es k))else cf)
     |none=>none
    |_=>none
   |none=>none
  |_=>none
 |_=>none
theorem Mb(e4:jO v=some key)(vr:aA g v z):(keyPart z).isSome=true:=by
 cases v with
 |int i=>apply aA.iK vr;intro _;rfl
 |str s=>apply aA.sK vr;intro _;rfl
 |_=>exact aX e4
theorem OV{c:Nat}{pl:Env->Sem Bool}(ho:aQ sc n 2 eo o)(hk:aQ sc n 2 ek k)(hm:o5 eo "pop" ap pos [ek,.Constant .none c np] pl)
 (he:∀J,starEach [ek,.Constant .none c np] J=(false,eval ek J)::starEach [.Constant .none c np] J):aQ sc n 2 (.Call (.Attribute eo "pop" ap) [ek,.Constant .none c np] [] pos) (pg o k):=by
 intro A J g ms s l E Q p r ms' h;apply fh h;intro P go r ms' h;unfold pg at h;refine oA h λi aF e1 h=>?_;refine uv h λQP e0 h=>?_;refine j9 h λx cf e2 h=>?_;refine uv h λes e3 h=>?_;refine tU h λkey e4 h=>?_;refine eZ h (go _ _ λhQ=>?_);refine MethodCall_ (ho p e1 λy h' tk g' R L vr=>?_) (hm J);apply aA.rK vr;intro a ha;refine iz (R.dict e0 ha) λSF FR rW t₀ uy _=>?_;refine getMethod_builtin (s:={s with heap:=h',toks:=tk}) uy.mapOf.typeIs F.plainAttrs_dict F.slot_dict_pop F.type_dict_pop uy.mapOf.noDict ?_;rw[show backTo pos (starEach [ek,.Constant .none c np] J)=[(false,eval ek J),(false,eval (.Constant .none c np) J)] by rw[he J];rfl];refine method2_meetsIn F.slot_dict_pop F.entry_dict_pop (hk (s:={s with heap:=h',toks:=tk}) (p.next L R) e2 λz bN b0 bp R' L' vr=>?_);refine wpAny_Constant_none ?_;refine qz (R'.dict e3 (L'.mG ha)) λo kvs m tm d _ dr hz=>?_;refine⟨d.mapOf.typeIs,F.args_dict_pop_3 _ _ _,?_⟩;have xt:=rA e4 vr;have GY:=Mb e4 vr;have q:=d6.get (k:=key) dr;cases hg:iA es key with
 |some v=>rw[hg]at q;refine az q λz' pG hr=>?_;refine⟨_,meets_dict_pop_there (gN) a xt [.none] (.inr ⟨_,rfl⟩) GY,kvs,z',d,by rw[dr.length,sizeLine_eq];omega,pG,λfi QQ om=>?_⟩;refine az (R'.E7 e3 (L'.mG ha) om QQ (dr.without) (le_trans (List.length_filter_le _ _) hz)) λcQ dq cF=>?_;refine hQ _ _ _ cQ (by simp only[hg,Option.isSome_some,if_true];exact dq) ((L.trans L').trans cF) ?_;simp only[hg,Option.getD_some];exact hr.mono cF (cx _)
 |none=>rw[hg]at q;refine⟨_,meets_dict_pop_default (gN) a xt (R'.tB m (by rw[tm];exact λz4=>fB.noConfusion z4)) GY .none,kvs,d,q,?_⟩;exact hQ _ _ _ bp (by simp only[hg,Option.isSome_none,Bool.false_eq_true,if_false];exact R') (L.trans L') (by simp only[hg,Option.getD_none];exact .none)
end
end
section
noncomputable abbrev fZ(s:Shared):Nat:=s.heap.objs.size
theorem zi{s s':Shared}(h:Runs M Γ p t fs s e s'):fZ s<=fZ s':=by unfold fZ;induction h<;>(try simp only[Shared.setGen,Heap.size_push,Heap.size_after_update]at*)<;>omega
theorem Kr{g:Nat}{s s':Shared}(h:Wakes M Γ p g r s res s'):fZ s<=fZ s':=by
 unfold Wakes at h;split at h
 .exact h.elim
 .split at h
  .refine iz h λSG gu hr _ _ jE=>?_;clear h;subst jE;exact(zi hr:fZ (s.setGen g .running)<=fZ gu)
  .rw[h.2];exact le_refl _
  .rw[h.2];exact le_refl _
 .refine iz h λSG gu hr _ _ jE=>?_;clear h;subst jE;exact(zi hr:fZ (s.setGen g .running)<=fZ gu)
 .rw[h.2];exact le_refl _
 .rw[h.2];exact le_refl _
theorem Nm{α:Type}(M:Model)(Γ:Ctx)(n:Nat)(t:Sem α):∀(Q:α->Pos->Shared->Prop) (E:Value->Pos->Shared->Prop) (p:Pos) (s:Shared),n<=fZ s->Sem.wp M Γ t Q E p s->
 Sem.wp M Γ t (λa p' s'=>n<=fZ s'/\Q a p' s') (λe p' s'=>n<=fZ s'/\E e p' s') p s:=by
 induction t with
 |pure a=>intro Q E p s hn h;exact⟨hn,h⟩
 |raise e=>intro Q E p s hn h;exact⟨hn,h⟩
 |unsupported _=>intro Q E p s _ h;exact h
 |finish _=>intro Q E p s _ h;exact h
 |rule _ k ih=>intro Q E p s hn h;exact ih () Q E p s hn h
 |«at» p' k ih=>intro Q E p s hn h;exact ih () Q E p' s hn h
 |load a _ k ih=>intro Q E p s hn h;obtain⟨o,ho,h⟩:=h;exact(a0 o ho (ih o Q E p s hn h))
 |update a _ f k ih=>intro Q E p s hn h;exact⟨h.1,ih () Q E p _ (by show n<=(s.heap.update a f).objs.size;rw[Heap.size_after_update];exact hn) h.2⟩
 |loadIfAlive a k ih=>intro Q E p s hn h;exact ih _ Q E p s hn h
 |point _ k ih=>intro Q E p s hn h;exact ih () Q E p s hn h
 |register _ _=>intro Q E p s _ h;exact h
 |alloc o k ih=>intro Q E p s hn h;exact ih _ Q E p _ (by show n<=(s.heap.push o).objs.size;rw[Heap.size_push];exact Nat.le_succ_of_le hn) h
 |fresh k ih=>intro Q E p s hn h;exact ih _ Q E p _ hn h
 |ask k ih=>intro Q E p s hn h;exact ih _ Q E p s hn h
 |choose bU m k ih=>intro Q E p s hn h;exact⟨h.1,ih _ Q E p _ hn h.2⟩
 |os q _ k ih=>intro Q E p s hn h;exact ih _ Q E p _ hn h
 |call c hd _ _ k ih=>intro Q E p s hn h;obtain⟨r,s',hr,h⟩:=h;exact⟨r,s',hr,ih r Q E p s' (le_trans hn (zi hr)) h⟩
 |handled own k ih=>intro Q E p s hn h;exact ih _ Q E p s hn h
 |genState g k ih=>intro Q E p s hn h;obtain⟨st,hs,h⟩:=h;exact(a0 st hs (ih _ Q E p s hn h))
 |newGen c k ih=>intro Q E p s hn h;exact ih _ Q E p _ hn h
 |resume g r _ k ih=>intro Q E p s hn h;obtain⟨res,s',hw,h⟩:=h;exact⟨res,s',hw,ih res Q E p s' (le_trans hn (Kr hw)) h⟩
 |yield _ _ _ _=>intro Q E p s _ h;exact h
 |stack k ih=>intro Q E p s hn h;exact ih _ Q E p s hn h
 |fork _ _=>intro Q E p s _ h;exact h
 |thread k ih=>intro Q E p s hn h;exact ih _ Q E p s hn h
 |await _ _ _ _ _=>intro Q E p s _ h;exact h
theorem jG{α:Type}{s:Shared}{t:Sem α}{Q:α->Shared->Prop}{E:Value->Shared->Prop}
 (h:wpAny M A t (λa s'=>fZ s<=fZ s'->Q a s') E s):wpAny M A t Q E s:=
 λΓ p TH=>Sem.wp_mono M Γ t (λ_ _ _ x=>x.2 x.1) (λ_ _ _ x=>x.2) p s (Nm M Γ _ t _ _ p s (le_refl _) (h Γ p TH))
section
variable{sc:Scope}{n μ:Nat}
theorem aJ.ext{h h':Heap}(R:aJ g ms h)(k:∀b o,h.get? b=some o->h'.get? b=some o)(hs:h.objs.size<=h'.objs.size):
 aJ {g with top:=h'.objs.size} ms h'/\Le 0 cC g {g with top:=h'.objs.size}:=by
 have L:Le 0 cC g {g with top:=h'.objs.size}:=⟨λ_ _ m _ _=>⟨m,rfl⟩,⟨[],by simp⟩,by show g.top<=h'.objs.size;rw[R.top];exact hs⟩;refine⟨⟨R.base,λb o e=>k _ _ (R.keep b o e),λa o m=>k _ _ (R.led a o m),R.fresh,R.len,le_trans R.low hs,rfl,λi x e=>?_⟩,L⟩;refine aY (R.objs i x e) λa h1 h2 h3=>?_;exact cA a h1 h2 (h3.mono L (cx _) h2 λb y p m q=>⟨m,rfl⟩)
theorem aJ.extBut{h h':Heap}(R:aJ g ms h)(k:Heap.ExtBut h.objs.size h h')(hs:h.objs.size<=h'.objs.size):
 aJ {g with top:=h'.objs.size} ms h'/\Le 0 cC g {g with top:=h'.objs.size}:=
 R.ext (λb o e=>k b o (ne_of_lt (Heap.lt_size e)) e) hs
noncomputable def aR(m:ME):MS:=λl ms=>match m l ms with
 |some (_,ms')=>some (.next,l,ms')
 |none=>none
theorem OW(h:aQ sc n μ e m)(hi:∀J:Env,J.scope=sc->J.scope.kind=.function->interactive J=false)
 (hs:∀J:Env,swapsWith e none pos.line J=pure false):hM sc n μ (.Expr e pos) (aR m):=by
 intro A J g ms s l E Q p r l' ms' hm;apply k6 hm;intro P go r l' ms' hm;unfold aR at hm;refine j9 hm λv aF e1 hm=>?_;refine kS hm (go _ _ _ λhQ=>?_);exact wpAny_Expr_any (h p e1 λx h' tk g' R L v=>hQ _ _ _ g' (fC.of p R L) rfl) (hi J p.sc p.ok.kind) (hs J)
noncomputable def dI(op:Operator)(a b:Int):Option Int:=match op with
 |.Add=>some (a+b)
 |.Sub=>some (a-b)
 |_=>none
theorem E9{E:Value->Shared->Prop}{a b c:Int}{Q:Value->Shared->Prop}(h:dI op a b=some c)(hQ:∀t tk,Q (.int c t) {s with toks:=tk}):
 wpAny (model prog w) A (inplaceOp op (.int a t) (.int b u)) Q E s:=by
 cases op<;>simp only[dI]at h<;>(try(exact aX h))<;>cases h
 .exact iadd_int (hQ _ _)
 .exact isub_int (hQ _ _)
def dC(x:String)(op:Operator)(m:ME):MS:=λl ms=>match l x with
 |some (.int a)=>match m l ms with
  |some (.int b,ms')=>match dI op a b with
   |some c=>some (.next,l.set x (.int c),ms')
   |none=>none
  |_=>none
 |_=>none
theorem QR(h:aQ sc n μ e m)(hn:(ofString x==("__classdict__":Str))=false)(hk:sc.names.lookup (ofString x)=some .local\/sc.names.lookup (ofString x)=some .cell):
 hM sc n μ (.AugAssign (.Name (ofString x) px) op e pos) (dC x op m):=by
 intro A J g ms s l E Q p r l' ms' hm;apply k6 hm;intro P go r l' ms' hm;unfold dC at hm;refine Qo hm λa e1 hm=>?_;refine Bn hm λb aF e2 hm=>?_;refine GO hm λc e3 hm=>?_;refine kS hm (go _ _ _ λhQ=>?_);refine wpAny_AugAssign_Name (Et p e1 hn λy hy=>?_);refine h p e2 λz h' tk g' R L vr=>?_;apply aA.iK hy;intro Wt;apply aA.iK vr;intro SH;refine E9 (s:={s with heap:=h',toks:=tk}) e3 λt b0=>?_;exact oY (s:={s with heap:=h',toks:=b0}) (p.next L R) (.int c t) hk λbN Bu bp P=>hQ _ _ _ bp (fC.after L P) rfl
def dh(f:String)(op:Operator)(o v:ME):MS:=λl ms=>match o l ms with
 |some (.ref i,aF)=>match aF[i]? with
  |some (.inst _ GZ)=>match GZ.lookup f with
   |some (.val (.int a))=>match v l aF with
    |some (.int b,cf)=>match dI op a b with
     |some c=>match cf[i]? with
      |some (.inst k fs)=>if fs.length<=500 then some (.next,l,cf.set i (.inst k (fj f (.val (.int c)) fs)))else none
      |_=>none
     |none=>none
    |_=>none
   |_=>none
  |_=>none
 |_=>none
theorem Lc(ho:aQ sc n μ eo o)(hv:aQ sc n μ ev v)(fY:1<=μ)(hf:f∈hB):
 hM sc n μ (.AugAssign (.Attribute eo (ofString f) ap) op ev pos) (dh f op o v):=by
 intro A J g ms s l E Q p r l' ms' hm;apply k6 hm;intro P go r l' ms' hm;unfold dh at hm;refine oA hm λi aF e1 hm=>?_;refine lU hm λc₁ GZ e2 hm=>?_;refine Qx hm λa e3 hm=>?_;refine Bn hm λb cf e4 hm=>?_;refine GO hm λc e5 hm=>?_;refine lU hm λk fs e6 hm=>?_;refine kr hm λhz hm=>?_;refine kS hm (go _ _ _ λhQ=>?_);refine wpAny_AugAssign_AttributeAny (ho p e1 λy h' tk g' R L vr=>?_);apply aA.rK vr;intro ad ha;refine vT (s:={s with heap:=h',toks:=tk}) R e2 ha hf e3 λx b0 fr=>?_;refine hv (s:={s with heap:=h',toks:=b0}) (p.next L R) e4 λz bN Bu bp R' L' lq=>?_;apply aA.iK lq;intro _;cases(fr:aA g' (.int a) x);refine E9 (s:={s with heap:=bN,toks:=Bu}) e5 λt gP=>?_;refine sU (s:={s with heap:=bN,toks:=gP}) R' e6 (L'.mG ha) hf hz (fv:=.val (.int c)) (aA.int c t) λfi AF cQ dq cF=>?_;exact hQ _ _ _ cQ (fC.of p dq ((L.trans L').trans (cF.up fY))) rfl
noncomputable def ix:Nat->MB->MS->MS
 |0,_,_=>λ_ _=>none
 |k+1,c,b=>λl ms=>match c l ms with
  |some (true,ms')=>match b l ms' with
   |some (.next,l',uz)=>ix k c b l' uz
   |some (.ret v,l',uz)=>some (.ret v,l',uz)
   |none=>none
  |some (false,ms')=>some (.next,l,ms')
  |none=>none
set_option tactic.hygienic true in
theorem DM(hc:hK sc n μ t c)(hb:jA sc n μ body b):∀(k:Nat) {A:Around} {J:Env} {g:G} {ms:Hp} {s:Shared} {l:av} {R:Result->Shared->Prop},fK sc n A J g ms s.heap l->
 ∀{r:Fl} {l':av} {ms':Hp},ix k c b l ms=some (r,l',ms')->(∀f h' tk g',fC sc μ J g g' ms' h' l'->AD g' r f->R (.ok f) {s with heap:=h',toks:=tk})->
 codeAny (model prog w) A (.whileLoop t body [] J) R s
 |0,_,_,_,_,_,_,_,_,_,_,_,hm,_=>by cases hm
 |k+1,A,J,g,ms,s,l,R,p,r,l',ms',hm,hQ=>by
  unfold ix at hm;refine codeAny_of_tree ?_;rw[Around.under_of_weight (c:=.whileLoop t body [] J) rfl];show wpAny _ _ ((whileTurn t body [] J).onRaise _) _ _ _;refine wpAny_onRaise ?_;unfold whileTurn;refine wpAny_bind ?_;refine GQ hm (λaF e1 hm=>?_) λaF e1 hm=>?_
  .refine hc p e1 λx cZ g6 gS fJ dG e=>?_;subst e;refine Bt hm (λBw cf e2 hm=>?_) λv Bw cf e2 hm=>?_
   .refine wpAny_bind (m:=execs body J) (hb (s:={s with heap:=cZ,toks:=g6}) (p.next dG fJ) e2 λf cu hO da iC fr=>?_);cases fr;refine wpAny_pure ⟨rfl,?_⟩;exact DM hc hb k (s:={s with heap:=cu,toks:=hO}) (iC.pre (p.next dG fJ)) hm λf fi gP cQ mR fr=>hQ f _ _ cQ ((fC.after dG iC).trans mR) fr
   .cases hm;refine wpAny_bind (m:=execs body J) (hb (s:={s with heap:=cZ,toks:=g6}) (p.next dG fJ) e2 λf cu hO da iC fr=>?_);refine az fr λx bf hx=>?_;clear fr;subst bf;exact wpAny_pure (hQ _ _ _ da (fC.after dG iC) ⟨x,rfl,hx⟩)
  .cases hm;refine hc p e1 λx cZ g6 gS fJ dG e=>?_;subst e;refine wpAny_bind (m:=execs [] J) (wpAny_execs_nil (wpAny_pure ?_));exact hQ _ _ _ gS (fC.of p fJ dG) rfl
theorem Nn(k:Nat)(hc:hK sc n μ t c)(hb:jA sc n μ body b):hM sc n μ (.While t body [] pos) (ix k c b):=by intro A J g ms s l E Q p r l' ms' hm hQ;exact wpAny_While (DM hc hb k p hm λf h' tk g' P fr=>hQ f h' tk g' P fr)
end
end
section
theorem yI:∀(names:List (Str×NameKind)) (k:Nat) (acc:List (Str×Addr)) (x:Str),(acc.lookup x).isSome->((cellsFrom k names acc).lookup x).isSome
 |[],_,_,_,h=>h
 |(y,kd)::r,k,acc,x,h=>by
  unfold cellsFrom;split
  .refine yI r _ _ x ?_;rw[lookup_cons];split
   .rfl
   .exact h
  .exact yI r _ _ x h
theorem sO:∀(names:List (Str×NameKind)) (k:Nat) (acc:List (Str×Addr)) (x:Str),names.lookup x=some .cell->((cellsFrom k names acc).lookup x).isSome
 |[],_,_,_,h=>by cases h
 |(y,kd)::r,k,acc,x,h=>by
  unfold cellsFrom;rw[lookup_cons]at h;split at h
  .rename_i q;cases h;rw[if_pos (by rfl)];refine yI r _ _ x ?_;rw[lookup_cons,q];rfl
  .split
   .exact sO r _ _ x h
   .exact sO r _ _ x h
noncomputable def G.adopt(g:G)(c:Addr)(o:Obj)(t:fB):G:={g with news:=(c,o)::g.news,tag:=λa=>if a=c then t else g.tag a}
section
variable{sc:Scope}{n μ:Nat}
theorem aJ.adopt(R:aJ g ms h){c:Addr}(t:fB)(hc:h.get? c=some o)(hn:∀o,(c,o)∉g.news)(hl:t≠.fu->B.h₀.objs.size<=c):
 aJ (g.adopt c o t) ms h/\Le 0 cC g (g.adopt c o t):=by
 have ne:∀a o,(a,o)∈g.news->a≠c:=by clear hc hl;rintro a o m rfl;exact hn _ m
 have L:Le 0 cC g (g.adopt c o t):=by refine⟨λa o' m _ _=>⟨.tail _ m,?_⟩,⟨[],by simp[G.adopt]⟩,le_refl _⟩;simp[G.adopt,ne _ _ m]
 refine⟨⟨R.base,R.keep,?_,?_,R.len,R.low,R.top,?_⟩,L⟩
 .intro a x m;rcases mem_cons.mp m with e|m
  .clear m;cases e;exact hc
  .exact R.led _ _ m
 .intro a x m ht;rcases mem_cons.mp m with e|m
  .clear m;cases e;exact hl (by simpa[G.adopt]using ht)
  .exact R.fresh _ _ m (by simpa[G.adopt,ne _ _ m]using ht)
 .intro i x e;refine aY (R.objs i x e) λa h1 h2 h3=>?_;have own:∀b o' p,(b,o')∈g.news->g.tag b=.obj i p->(b,o')∈(g.adopt c o t).news/\(g.adopt c o t).tag b=g.tag b:=by intro b o' p m _;refine⟨.tail _ m,?_⟩;simp[G.adopt,ne _ _ m]
  refine cW (h3.here) λo' hm=>?_;refine cA a h1 ?_ (h3.mono L (λ_ e=>e.elim) h2 own);rw[(own _ _ "" hm h2).2,h2]
theorem aJ.wG{lo:Nat}(hl:B.h₀.objs.size<=lo):∀(as:List Addr) {g:G},aJ g ms h->(∀a∈as,lo<=a/\∃o,h.get? a=some o)->(∀a o,(a,o)∈g.news->lo<=a->g.tag a=.free)->
 ∃g',aJ g' ms h/\Le 0 cC g g'/\(∀a∈as,∃o,(a,o)∈g'.news/\g'.tag a=.free/\h.get? a=some o)/\(∀a o,(a,o)∈g'.news->lo<=a->g'.tag a=.free)
 |[],g,R,_,hf=>(gO g R (.refl _ _ _) (λ_ m=>by cases m) hf)
 |a::as,g,R,ha,hf=>by
  obtain⟨x9,o,ho⟩:=ha a (.head _);by_cases q:∃o,(a,o)∈g.news
  .refine cW q λo' m=>?_;refine fI (aJ.wG hl as R (λb m=>ha b (.tail _ m)) hf) λg' R' L' h1 h2=>?_;refine gO g' R' L' ?_ h2;intro b mb;clear ha ho q;rcases mem_cons.mp mb with rfl|mb
   .have t:=hf _ _ m x9;have k:=L'.keep _ _ m (t▸id) id;exact cA o' k.1 (k.2.trans t) (R.led _ _ m)
   .exact h1 b mb
  .have hn:∀o,(a,o)∉g.news:=λo m=>q ⟨o,m⟩;refine bT (R.adopt .free ho hn (λ_=>le_trans hl x9)) λfJ dG=>?_;have G0:∀b x,(b,x)∈(g.adopt a o .free).news->lo<=b->(g.adopt a o .free).tag b=.free:=by
    intro b x m hb;rcases mem_cons.mp m with e|m
    .clear hb m;cases e;exact if_pos rfl
    .have:b≠a:=by intro e;clear dG fJ x9;clear ha ho q;subst e;exact hn _ (by assumption)
     simp only[G.adopt,this,if_false];exact hf _ _ m hb
   refine fI (aJ.wG hl as fJ (λb m=>ha b (.tail _ m)) G0) λg' R' L' h1 h2=>?_;refine gO g' R' (dG.trans L') ?_ h2;intro b mb;clear G0 hn;clear dG fJ x9;clear ha q;rcases mem_cons.mp mb with rfl|mb
   .have t:(g.adopt b o .free).tag b=.free:=by exact if_pos rfl
    have k:=L'.keep _ _ (mem_cons_self:(b,o)∈(g.adopt b o .free).news) (t.symm▸id) id;exact cA o k.1 (k.2.trans t) ho
   .exact h1 b mb
structure SI(K:Frag)(f:Addr)(fd:FuncData)(body:List Stmt):Prop where
 lies:∃oc od l9,K.lookup f=some ⟨oc,od,.func fd,l9⟩
 code:codeIn K fd.code fd.qualname=true
 body:fd.body=.stmts body
 glob:fd.globals=mainGlobals
 blt:fd.builtins=builtinsNs
 TJ:fd.closure=[]
 co:fd.scope.isCoroutine=false
 gen:fd.scope.isGenerator=false
 kind:fd.scope.kind=.function
noncomputable def ax:List String->List V->av
 |p::ps,v::vs=>(ax ps vs).set p v
 |_,_=>λ_=>none
noncomputable def jK(ps:List String)(xs:List Value):List (Str×Value):=(ps.map ofString).zip xs
theorem Ex{kd:Str->Option NameKind}:∀(bs:List (Str×Value)) (m:Str->Option Value),(∀b∈bs,b.1≠x)->bindL kd bs m x=m x
 |[],_,_=>rfl
 |(y,v)::r,m,h=>by
  unfold bindL;rw[Ex r _ λb hb=>h b (.tail _ hb)];have:x≠y:=Ne.symm (h (y,v) (.head _));split
  .exact if_neg this
  .rfl
theorem Ey{kd:Str->Option NameKind}:∀(bs:List (Str×Value)) (m:Str->Option Value),(∀b∈bs,b.1≠x)->bindC kd bs m x=m x
 |[],_,_=>rfl
 |(y,v)::r,m,h=>by
  unfold bindC;rw[Ey r _ λb hb=>h b (.tail _ hb)];have:x≠y:=Ne.symm (h (y,v) (.head _));split
  .rfl
  .exact if_neg this
theorem Dy(h:b∈jK ps xs):∃p∈ps,b.1=ofString p:=by have:=List.of_mem_zip h;refine az (mem_map.mp this.1) λp hp e=>?_;exact a0 p hp e.symm
theorem QS{kd:Str->Option NameKind}:∀{ps:List String} {vs:List V} {xs:List Value} (m cm:Str->Option Value),bD g vs xs->ps.Nodup->(∀p∈ps,kd (ofString p)=some .local\/kd (ofString p)=some .cell)->
 ∀p v,ax ps vs p=some v->∃y,aA g v y/\((kd (ofString p)=some .local/\bindL kd (jK ps xs) m (ofString p)=some y)\/(kd (ofString p)=some .cell/\bindC kd (jK ps xs) cm (ofString p)=some y)):=by
 intro ps;induction ps with
 |nil=>intro _ _ _ _ _ _ _ p v h;cases h
 |cons q ps ih=>
  intro vs xs m cm r hn hk p v h;cases vs with
  |nil=>exact aX h
  |cons SA vs=>
  apply bD.cK r;intro uB xs hv gW;refine bT (List.nodup_cons.mp hn) λhq hn=>?_;unfold ax at h;by_cases e:p=q
  .subst e;rw[av.jJ]at h;clear r;cases h;have ne:∀b∈jK ps xs,b.1≠ofString p:=by intro b hb e;refine az (Dy hb) λp' vb e'=>?_;rw[e']at e;exact hq (oR e▸vb)
   refine a0 uB hv ?_;rcases hk p (.head _)with k|k
   .refine .inl ⟨k,?_⟩;show bindL kd ((ofString p,uB)::jK ps xs) m _=_;unfold bindL;rw[Ex _ _ ne,if_pos k];exact if_pos rfl
   .refine .inr ⟨k,?_⟩;show bindC kd ((ofString p,uB)::jK ps xs) cm _=_;unfold bindC;rw[Ey _ _ ne,if_neg (by rw[k];decide)];exact if_pos rfl
  .rw[av.tG _ _ e]at h;refine az (ih (if kd (ofString q)=some .local then λz=>if z=ofString q then some uB else m z else m) (if kd (ofString q)=some .local then cm else λz=>if z=ofString q then some uB else cm z) gW hn (λp hp=>hk p (.tail _ hp)) p v h) λy hy hh=>?_;exact a0 y hy hh
noncomputable abbrev MF:=List V->Hp->Option (V×Hp)
def iF(n μ:Nat)(f:Addr)(m:MF):Prop:=
 ∀⦃A:Around⦄ ⦃g:G⦄ ⦃ms:Hp⦄ ⦃s:Shared⦄ ⦃vs:List V⦄ ⦃xs:List Value⦄ ⦃R:Result->Shared->Prop⦄,ip A n->bD g vs xs->aJ g ms s.heap->∀{r:V} {ms':Hp},m vs ms=some (r,ms')->
  (∀x h' tk g',aJ g' ms' h'->Le μ cC g g'->aA g' r x->R (.ok (.ret x)) {s with heap:=h',toks:=tk})->codeAny (model prog w) A (.call (.ref f) ⟨xs,[]⟩) R s
theorem iF.fail:iF n μ f (λ_ _=>none):=by intro A g ms s vs xs R _ _ _ r ms' h;cases h
def cE(ps:List String)(ds:List V)(k:Nat)(m:MS):MF:=λvs ms=>if vs.length=k then match m (ax ps (vs++ds)) ms with
 |some (.ret v,_,ms')=>some (v,ms')
 |some (.next,_,ms')=>some (.none,ms')
 |none=>none
 else none
theorem ip.deeper{n:Nat}(b:ip A (n+1)):ip (A.deeper J) n:=⟨b.hh,by have:=b.depth;show A.depth+1+3*n<=900;omega,by have:=b.units;show A.units+3+10*n<=9000;omega⟩
set_option tactic.hygienic true in
theorem AI{dx:List Value}{k:Nat}(ok:SI B.K f fd body)(B9:∀g,bD g ds dx)(hn:ps.Nodup)
 (hp:∀p∈ps,fd.scope.names.lookup (ofString p)=some .local\/fd.scope.names.lookup (ofString p)=some .cell)
 (hb:∀(s:Shared) (xs:List Value),B.K.In s.heap->xs.length=k->BindsTo s fd ⟨xs,[]⟩ (jK ps (xs++dx)))(h:jA fd.scope n μ body m):iF (n+1) μ f (cE ps ds k m):=by
 intro A g ms s vs xs R fk hv rel r ms' hm hQ;unfold cE at hm;split at hm
 case isFalse=>exact aX hm
 rename_i hk;refine Sj ok.lies λoc od l9 hl=>?_;have X:B.K.In s.heap:=rel.base.X.keeps rel.keep;have SJ:s.heap.NoLimit:=rel.base.T.nolimit.keeps rel.keep;have gW:=hv.append (B9 g);refine codeAny_call_function (fk.room) (X _ _ hl) rfl ok.co ok.gen ok.body (codeRec_of X ok.code) (hb s xs X (by rw[hv.length];exact hk) _ _ _ _ ?_);rw[ok.TJ];refine wpAny_newFunctionEnv_cells ok.kind (λx hx=>?_) λJ he s' x=>?_
 .refine az (Dy hx) λp vb e=>?_;rw[e];rcases hp p vb with q|q
  .exact .inl q
  .exact .inr ⟨q,sO _ _ _ _ q⟩
 have hL:J.locals=s.heap.objs.size:=by rw[he];rfl
 have FT:J.cells=cellsFrom (s.heap.objs.size+1) fd.scope.names []:=by rw[he];rfl
 have z7:J.scope=fd.scope:=by rw[he];rfl
 have B':J.kindOf=λx=>fd.scope.names.lookup x:=by funext y;unfold Env.kindOf;rw[z7]
 refine⟨SJ.keeps x.toInCall.keep,codeAny_func ?_⟩;refine xo x.toInCall.same λcZ g6 bL=>?_;subst bL;have fZ:s.heap.objs.size<=cZ.objs.size:=Nat.le_of_lt (by have:=x.toInCall.ns.lt;rw[hL]at this;exact this);refine bT (rel.ext (h':=cZ) x.toInCall.keep fZ) λfJ dG=>?_;have pI:∀a o,(a,o)∈({g with top:=cZ.objs.size}:G).news->s.heap.objs.size<=a->({g with top:=cZ.objs.size}:G).tag a=.free:=λa o m hle=>absurd (rel.lt m) (Nat.not_lt.mpr hle);obtain⟨da,bS,bx,nE,_⟩:=fJ.wG (lo:=s.heap.objs.size) rel.low (J.locals::J.cells.filterMap λp=>J.cells.lookup p.1) (λa ha=>by
  rcases mem_cons.mp ha with rfl|ha
  .refine nA x.toInCall.ns λo _ _ ho _=>?_;exact⟨by rw[hL];exact le_refl _,o,ho⟩
  .refine az (mem_filterMap.mp ha) λp hp e=>?_;refine az (x.cell _ _ e) λo ho _=>?_;have:=x.above _ _ (mem_of_lookup e);rw[hL]at this;exact⟨Nat.le_of_lt this,o,ho⟩) pI
 have L:=dG.trans bx;have cellIn:∀y c,J.cells.lookup y=some c->∃o,(c,o)∈da.news/\da.tag c=.free/\o.data=.cell (bindC J.kindOf (jK ps (xs++dx)) (λ_=>none) y):=by intro y c hc;refine aY (nE c (.tail _ (mem_filterMap.mpr ⟨(y,c),mem_of_lookup hc,hc⟩))) λo m t ho=>?_;refine az (x.cell _ _ hc) λo' bP hd=>?_;rw[show cZ.get? c=some o from ho]at bP;cases bP;exact cA o m t hd
 refine aY (nE J.locals (.head _)) λoL mL tL TK=>?_;refine hU x.toInCall.ns λWQ es ep bP gv jd qI=>?_;rw[show cZ.get? J.locals=some oL from TK]at bP;cases bP;have pre:fK fd.scope n (A.deeper J) J da ms cZ (ax ps (vs++ds)):=by
  refine⟨fk.deeper,z7,⟨by rw[z7];exact ok.kind,by rw[he];exact ok.glob,by rw[he];exact ok.blt,⟨oL,es,ep,mL,tL,gv,jd⟩,?_,?_,?_⟩,?_,bS⟩
  .intro y z c h1 h2;exact name_of_addr x.apart (mem_of_lookup h1) (mem_of_lookup h2)
  .intro y c hc;refine aY (cellIn y c hc) λo m t d=>?_;exact hG o _ m t d
  .intro y hy;rw[FT];rw[B']at hy;exact sO _ _ _ _ hy
  .intro p v ka;obtain⟨y,hy,hh⟩:=QS (kd:=J.kindOf) (λ_=>none) (λ_=>none) gW hn (λp q=>by rw[B'];exact hp p q) p v ka;refine a0 y (hy.mono L (cx _)) ?_;rcases hh with hr|hr
   .obtain⟨k1,k2⟩:=hr;exact .inl ⟨k1,oL,es,ep,mL,gv,by rw[qI];exact k2⟩
   .obtain⟨k1,k2⟩:=hr;have:(J.cells.lookup (ofString p)).isSome:=by rw[FT];rw[B']at k1;exact sO _ _ _ _ k1
    refine cW (Option.isSome_iff_exists.mp this) λc hc=>?_;refine aY (cellIn _ c hc) λo m t d=>?_;exact .inr ⟨.inl k1,c,o,hc,m,by rw[d];exact congrArg _ k2⟩
 have own:∀a,fF J a->s.heap.objs.size<=a:=by
  rintro a (rfl|⟨y,hy⟩)
  .rw[hL];exact le_refl _
  .have:=x.above _ _ (mem_of_lookup hy);rw[hL]at this;exact Nat.le_of_lt this
 have drop:∀{g':G},Le μ (fF J) da g'->Le μ cC g g':=λL'=>by have q:=((L.up (zero_le μ)).weak (ex':=fF J) λ_ e=>e.elim).trans L';exact⟨λa o m t _=>q.keep a o m t λe=>absurd (rel.lt m) (Nat.not_lt.mpr (own a e)),q.dm,q.top⟩
 split at hm
 .rename_i v l' aF e;cases hm;refine h (s:={s with heap:=cZ,toks:=g6}) pre e λfl h' tk g' P fr=>?_;refine az fr λy bf hy=>?_;subst bf;exact hQ y h' tk g' P.rel (drop P.le) hy
 .rename_i l' aF e;cases hm;refine h (s:={s with heap:=cZ,toks:=g6}) pre e λfl h' tk g' P fr=>?_;cases fr;exact hQ _ h' tk g' P.rel (drop P.le) .none
 .exact aX hm
end
end
section
section
variable{sc:Scope}{n μ:Nat}
theorem ip.make{n:Nat}(b:ip A (n+1)):ip (A.under (.builtin "type.__call__" ⟨.ref C::rest,[]⟩)) n:=⟨b.hh,by have:=b.depth;show A.depth+1+3*n<=900;omega,by have:=b.units;show A.units+(1+3*0)+10*n<=9000;omega⟩
structure oB(K:Frag)(x:String)(v:Value):Prop where
 at_:nsIn K mainGlobals (ofString x)=some (some v)
 keep:keepIn K v=true
theorem wg{E:Value->Shared->Prop}{Q:Value->Shared->Prop}(p:fK sc n A J g ms s.heap l)(hx:sc.names.lookup (ofString x)=some .globalImplicit)
 (hg:nsIn B.K mainGlobals (ofString x)=some (some v))(hd:(ofString x==("__debug__":Str))=false)(hQ:Q v s):wpAny (model prog w) A (eval (.Name (ofString x) pos) J) Q E s:=by
 refine Name_function_global p.ok.kind (by unfold Env.kindOf;rw[p.sc];exact hx) ?_ hd;refine loadGlobal_global (mg:=B.mg) ?_ (mg_of p.rel.base.X p.rel.base.T.g hg) hQ;rw[p.ok.glob];exact p.rel.base.T.g.keeps p.rel.keep
theorem jI{E:Value->Shared->Prop}{Q:Value->Shared->Prop}(p:fK sc n A J g ms s.heap l)(hx:sc.names.lookup (ofString x)=some .globalImplicit)
 (hg:nsIn B.K mainGlobals (ofString x)=some none)(hb:bootBuiltins (ofString x)=some v)(hn:ofString x≠"__name__")(hd:(ofString x==("__debug__":Str))=false)(hQ:Q v s):wpAny (model prog w) A (eval (.Name (ofString x) pos) J) Q E s:=by
 refine Name_function_global p.ok.kind (by unfold Env.kindOf;rw[p.sc];exact hx) ?_ hd;refine loadGlobal_builtin (mg:=B.mg) (mb:=B.mb) ?_ (mg_none_of p.rel.base.X p.rel.base.T.g hg) ?_ ((p.rel.base.T.builtins _ hn).trans hb) hQ
 .rw[p.ok.glob];exact p.rel.base.T.g.keeps p.rel.keep
 .rw[p.ok.blt];exact p.rel.base.T.b.keeps p.rel.keep
theorem vS{E:Value->Shared->Prop}{first:List Value}{Q:Value->Shared->Prop}(p:fK sc n A J g ms s.heap l)
 (hk:keepIn B.K f=true)(ha:nu sc n μ es a)(hm:a l ms=some (vs,ms'))(cH:(backTo pos (starEach es J)).any (·.1)=false)
 (hQ:∀xs h' tk g',aJ g' ms' h'->Le μ cC g g'->bD g' vs xs->wpAny (model prog w) A (call f (first++xs)) Q E {s with heap:=h',toks:=tk}):
 wpAny (model prog w) A (callWith pos f first (backTo pos (starEach es J)) []) Q E s:=by
 refine callWith_of (P:=B.K.In) (by rw[cH];rfl) (keeps_K hk) ?_;have h:wpAny (model prog w) A (spliced (backTo pos (starEach es J))) (λxs s'=>B.K.In s'.heap/\wpAny (model prog w) A (call f (first++xs)) Q E s') E s:=ha pos p hm λxs h' tk g' R L v=>⟨R.base.X.keeps R.keep,hQ xs h' tk g' R L v⟩;revert h cH;generalize backTo pos (starEach es J)=args;intro cH h;cases args with
 |nil=>show wpAny _ _ (spliced []>>=_) _ _ s;refine wpAny_bind (wpAny_mono h (λvs s' h'=>?_) λ_ _ x=>x);refine wpAny_bind (wpAny_pure ?_);refine wpAny_holding ?_;exact wpAny_bind (wpAny_pure (wpAny_bind (wpAny_pure (wpAny_pure h'))))
 |cons x r=>
  obtain⟨b,x⟩:=x;have hb:b=false:=by simp at cH;exact cH.1
  clear cH;subst hb;exact evalArgs_plain h
def aq(f:MF)(a:ML):ME:=ay a λvs _ ms=>f vs ms
theorem OX(hg:oB B.K x (.ref f))(hf:iF n μ f m)(ha:nu sc n μ es a)(hx:sc.names.lookup (ofString x)=some .globalImplicit)
 (hd:(ofString x==("__debug__":Str))=false)(cH:∀J,(backTo pos (starEach es J)).any (·.1)=false):aQ sc n μ (.Call (.Name (ofString x) px) es [] pos) (aq m a):=by
 intro A J g ms s l E Q p r ms' hm hQ;refine bY hm λvs aF q1 q2=>?_;refine wpAny_Call_NameR (wg p hx hg.at_ hd ?_);refine vS p hg.keep ha q1 (cH J) λxs h' tk g' R L v=>?_;refine wpAny_call (hf (s:={s with heap:=h',toks:=tk}) p.fk v R q2 λy bN b0 bp R' L' v'=>?_);exact hQ _ _ _ bp R' (L.trans L') v'
structure HE(K:Frag)(C:Addr)(x:String)(f:Addr):Prop where
 find:findIn K (.ref C) (ofString x)=some (some (.ref f))
 fn:typeIn K (.ref f)=some (.type "function")
 keep:keepIn K (.ref f)=true
noncomputable def bw(c:jr)(x:String)(f:MF)(o:ME)(a:ML):ME:=λl ms=>match o l ms with
 |some (.ref i,aF)=>match aF[i]? with
  |some (.inst c' fs)=>if c'=c/\fs.lookup x=none then match a l aF with
   |some (vs,cf)=>f (.ref i::vs) cf
   |none=>none
   else none
  |_=>none
 |_=>none
set_option tactic.hygienic true in
theorem OY{pl:Env->Sem Bool}(hg:HE B.K (eE c) x f)(hf:iF n μ f m)(ho:aQ sc n μ eo o)(ha:nu sc n μ es a)
 (hm:o5 eo (ofString x) ap pos es pl)(cH:∀J,(backTo pos (starEach es J)).any (·.1)=false):aQ sc n μ (.Call (.Attribute eo (ofString x) ap) es [] pos) (bw c x m o a):=by
 intro A J g ms s l E Q p r ms' h hQ;unfold bw at h;refine oA h λi aF e1 h=>?_;refine lU h λc' fs e2 h=>?_;refine kr h λhc h3=>?_;refine bT hc λjF qJ=>?_;clear hc;clear h;subst jF;refine xa h3 λvs cf e3 h=>?_;refine MethodCall_ (ho p e1 λy h' tk g' R L vr=>?_) (hm J);apply aA.rK vr;intro ad jt;refine ou (R.inst e2 jt) λdx ds m' h1 h2 h3 h4 h5=>?_;have ok:=B.pD c';refine method_fn (s:={s with heap:=h',toks:=tk}) (R.base.X.keeps R.keep) (show InstAt h' ad (instObj (eE c') dx) (eE c') (some (dictOf ds m'))from⟨R.led _ _ h1,rfl,rfl,R.led _ _ h2⟩) ok.yN ok.getattr hg.find hg.fn
  (by show(lookIn (ofString x) (dictOf ds m')).map (·.isSome)=_;rw[lookIn_dict,h5.tW x qJ];rfl) ?_
 refine vS (s:={s with heap:=h',toks:=tk}) (first:=[.ref ad]) (p.next L R) hg.keep ha e3 (cH J) λxs bN b0 bp R' L' v=>?_;refine wpAny_call (hf (s:={s with heap:=bN,toks:=b0}) p.fk (.cons (.ref (L'.mG jt)) v) R' h λy fi gP cQ dq cF v'=>?_);exact hQ _ _ _ cQ dq ((L.trans L').trans cF) v'
structure o6(K:Frag)(C f:Addr):Prop where
 makes:makesIn K C=true
 find:findIn K (.ref C) "__init__"=some (some (.ref f))
 fn:typeIn K (.ref f)=some (.type "function")
theorem aJ.make{ms:Hp}(R:aJ g ms h)(c:jr):∃g',aJ g' (ms++[.inst c []]) ((h.push emptyDict).push (instObj (eE c) h.objs.size))/\Le 0 cC g g'/\g'.dm=g.dm++[h.objs.size+1]/\g'.dm[ms.length]?=some (h.objs.size+1):=by
 have R1:=R.push emptyDict (.obj ms.length "#") rfl;have R2:=R1.push (instObj (eE c) h.objs.size) (.obj ms.length "") rfl;rw[Heap.size_push]at R2;have L1:Le 0 cC g (g.add h.objs.size emptyDict (.obj ms.length "#")):=Le.add (R.next);have L2:Le 0 cC (g.add h.objs.size emptyDict (.obj ms.length "#")) ((g.add h.objs.size emptyDict (.obj ms.length "#")).add (h.objs.size+1) (instObj (eE c) h.objs.size) (.obj ms.length "")):=Le.add (by have:=R1.next;rwa [Heap.size_push]at this);refine gO _ (R2.newObj (a:=h.objs.size+1) (mo:=.inst c []) (if_pos rfl) ?_) ((L1.trans L2).trans Le.obj) rfl ?_
 .refine kn h.objs.size ([]) 0 (.head _) (.tail _ (.head _)) (by simp[G.add,G.obj]) ⟨rfl,λf fv e=>(by cases e),λf e=>rfl⟩
 .simp[G.obj,G.add,<-R.len]
def g7(c:jr)(f:MF)(a:ML):ME:=ay a λvs _ ms=>match f (.ref ms.length::vs) (ms++[.inst c []])with
 |some (.none,ms')=>some (.ref ms.length,ms')
 |_=>none
theorem Ez{E:Value->Shared->Prop}{ms ms':Hp}{Q:Value->Shared->Prop}(b:ip A (n+1))(R:aJ g ms s.heap)(hc:o6 B.K (eE c) f)(hf:iF n μ f m)(hv:bD g vs xs)
 (hm:m (.ref ms.length::vs) (ms++[.inst c []])=some (.none,ms'))
 (hQ:∀h' tk gS g' a,gS.dm=g.dm++[a]->Le 0 cC g gS->aJ g' ms' h'->Le μ cC gS g'->g'.dm[ms.length]?=some a->g.top<=a->Q (.ref a) {s with heap:=h',toks:=tk}):
 wpAny (model prog w) A (call (.ref (eE c)) xs) Q E s:=by
 obtain⟨h,gs,d,t,os⟩:=s;refine fI (R.make c) λgS fJ dG er e1=>?_;have X:B.K.In h:=R.base.X.keeps R.keep;refine wpAny_call (make_core (makes_of X hc.makes) (looks_findIn X hc.find) (λself=>bind_fn X self hc.fn) (.inl rfl) ?_);refine hf (s:=⟨(h.push emptyDict).push (instObj (eE c) h.objs.size),gs,d,t,os⟩) b.make (.cons (.ref e1) (hv.mono dG (cx _))) fJ hm λy h' tk g' R' L' v=>?_;apply aA.nK v;have tp:g.top<=h.objs.size+1:=by have q:g.top=h.objs.size:=R.top;omega
 exact⟨rfl,hQ _ _ gS g' _ er dG R' L' (L'.mG e1) tp⟩
theorem OZ(hg:oB B.K x (.ref (eE c)))(hc:o6 B.K (eE c) f)(hf:iF n μ f m)(ha:nu sc (n+1) μ es a)(hx:sc.names.lookup (ofString x)=some .globalImplicit)
 (hd:(ofString x==("__debug__":Str))=false)(cH:∀J,(backTo pos (starEach es J)).any (·.1)=false):aQ sc (n+1) μ (.Call (.Name (ofString x) px) es [] pos) (g7 c m a):=by
 intro A J g ms s l E Q p r ms' hm;apply fh hm;intro P go r ms' hm;refine bY hm λvs aF q1 q2=>?_;refine Sy q2 λcf e2 q2=>?_;refine eZ q2 (go _ _ λhQ=>?_);refine wpAny_Call_NameR (wg p hx hg.at_ hd ?_);refine vS p hg.keep ha q1 (cH J) λxs h' tk g' R L v=>?_;exact Ez (s:={s with heap:=h',toks:=tk}) p.fk R hc hf v e2 λcu hO gS da ad _ dG bS bx e _=>hQ _ _ _ da bS ((L.trans (dG.up (zero_le _))).trans bx) (.ref e)
noncomputable def dB:ME:=λ_ ms=>some (.absent,ms)
end
end
section
section
variable{sc:Scope}{n μ:Nat}
theorem jY{E:Value->Shared->Prop}{Q:Args->Shared->Prop}(cH:(backTo pos (starEach es J)).any (·.1)=false)
 (h:wpAny (model prog w) A (spliced (backTo pos (starEach es J))) (λvs s'=>Q ⟨vs,[]⟩ s') E s):wpAny (model prog w) A (evalArgs f true (backTo pos (starEach es J)) []) Q E s:=by
 revert h cH;generalize backTo pos (starEach es J)=args;intro cH h;cases args with
 |nil=>show wpAny _ _ (spliced []>>=_) _ _ s;refine wpAny_bind (wpAny_mono h (λvs s' h'=>?_) λ_ _ x=>x);refine wpAny_bind (wpAny_pure ?_);refine wpAny_holding ?_;exact wpAny_bind (wpAny_pure (wpAny_bind (wpAny_pure (wpAny_pure h'))))
 |cons x r=>
  obtain⟨b,x⟩:=x;have hb:b=false:=by simp at cH;exact cH.1
  clear cH;subst hb;exact evalArgs_plain h
structure gh(K:Frag)(x:String)(v:Value):Prop where
 miss:nsIn K mainGlobals (ofString x)=some none
 boot:bootBuiltins (ofString x)=some v
 no:ofString x≠"__name__"
 jS:(ofString x==("__debug__":Str))=false
inductive Ty where
 |c(c:jr)|obj|none|bool|int|str|list|dict|tuple
noncomputable def Ty.ctorIdx(x:Ty):Nat:=@Ty.casesOn (λ_=>Nat) x (λ_=>0) 1 2 3 4 5 6 7 8
deriving instance DecidableEq for Ty
def lu:Ty->Value
 |.c c=>.ref (eE c)|.obj=>.ref 149|.none=>.type "NoneType"|.bool=>.type "bool"|.int=>.type "int"|.str=>.type "str"|.list=>.type "list"|.dict=>.type "dict"|.tuple=>.type "tuple"
noncomputable def fx(t c:Ty):Bool:=t=c||(t=.bool&&c=.int)
noncomputable def bG(v:V)(ms:Hp):Option Ty:=match v with
 |.none=>some .none|.bool _=>some .bool|.int _=>some .int|.str _=>some .str|.absent=>some (.c .abs)|.tup _=>some .tuple|.lst _=>some .list|.iM _=>none
 |.ref i=>match ms[i]? with
  |some (.inst c _)=>some (.c c)|some (.dict _)=>some .dict|some (.list _)=>some .list|none=>none
def cg(v:V)(ms:Hp)(c:Ty):Option Bool:=match v with
 |.absent=>if c=.c .abs then some true else none
 |_=>(bG v ms).map λt=>fx t c
structure t6:Prop where
 fx:∀t c,kitOne B.K (lu t) (lu c)=some (fx t c)
 own:∀{c:jr} {x dx:Addr} {es:List DictEntry} {m:Nat},KitX B.K (.ref x) (.ref (eE c)) (λh=>InstAt h x (instObj (eE c) dx) (eE c) (some (dictOf es m)))
set_option tactic.hygienic true in
theorem EA(F:t6)(R:aJ g ms h)(hv:aA g v x)(ht:bG v ms=some t)(qJ:v≠.absent):∃H,KitX B.K x (lu t) H/\H h:=by
 cases hv with
 |none=>cases ht;exact(a0 _ kitx_none trivial)
 |bool b=>cases ht;exact(a0 _ kitx_bool trivial)
 |int i t=>cases ht;exact(a0 _ kitx_int trivial)
 |str s t=>cases ht;exact(a0 _ kitx_str trivial)
 |absent _ _=>exact absurd rfl qJ
 |tup m _ _=>cases ht;exact⟨_,kitx_tuple,_,R.led _ _ m,rfl⟩
 |lst m _ _=>cases ht;exact⟨_,kitx_list,_,R.led _ _ m,rfl⟩
 |iM _ _ _=>exact aX ht
 |ref e=>
  rename_i i a;unfold bG at ht;dsimp only at ht;split at ht<;>cases ht
  .rename_i c fs hi;refine lR (R.inst hi e) λdx es m h1 h2 _=>?_;exact a0 _ F.own ((show InstAt h a (instObj (eE c) dx) (eE c) (some (dictOf es m))from⟨R.led _ _ h1,rfl,rfl,R.led _ _ h2⟩))
  .rename_i es hi;refine iz (R.dict hi e) λo kvs m _ d _=>?_;obtain⟨o',bP,⟨_,_,x,_⟩⟩:=Heap.dictOf_iff.mp d;exact⟨_,kitx_dict,o',bP,x.1⟩
  .rename_i xs hi;refine fH (R.t5 hi e) λitems c m _=>?_;exact⟨_,kitx_list,_,R.led _ _ m,rfl⟩
theorem aA.D6(h:aA g v x):x≠.builtin "__main__.__loader__#opaque":=by cases h<;>(intro e;exact PySem.Value.noConfusion e)
theorem Mc{K:Frag}{H:Heap->Prop}(ty:∀(M:Model) (h:Heap),K.In h->H h->Looks M h (typeOf x) t)(hq:(t==t)=true):Answers (λs=>K.In s.heap/\H s.heap) x t true:=by
 intro dep tk prog w A R s hs;obtain⟨h0,g,d,tt,os⟩:=s;refine bT hs λly Ca=>?_;obtain⟨X,p⟩:=ly;have LT:=ty (model prog w) h0 X p;refine wpAny_bind (LT.at ?_);rw[if_pos hq];first
  |((repeat lk);exact Ca tt)
  |exact wpAny_bind (wpAny_rule (Ca tt))
  |exact wpAny_bind (wpAny_rule (wpAny_pure (Ca tt)))
set_option tactic.hygienic true in
theorem Np(F:t6){E:Value->Shared->Prop}{b:Bool}{Q:Value->Shared->Prop}(R:aJ g ms s.heap)(hv:aA g v x)(h:cg v ms c=some b)
 (hQ:∀tk,Q (.bool b) {s with toks:=tk}):wpAny (model prog w) A (call (.builtin "isinstance") [x,lu c]) Q E s:=by
 have X:B.K.In s.heap:=R.base.X.keeps R.keep;by_cases q:v=.absent
 .subst q;unfold cg at h;dsimp only at h;split at h
  .rename_i hc;subst hc;cases h;cases hv with
   |absent m t=>
    rename_i a dx;refine call_isinstance (S:=λ_ R s=>(B.K.In s.heap/\s.heap.get? a=some (instObj (eE .abs) dx))/\∀tk,R (.ok (.ret (.bool true))) {s with toks:=tk})
     (λprog w A R s hs=>isinstance_outer (Mc (H:=λh=>h.get? a=some (instObj (eE .abs) dx)) (t:=.ref (eE .abs)) (λM h _ p=>(show Looks M h (typeOf (.ref a)) (instObj (eE .abs) dx).cls from(Looks.ld p).andThen .now)) rfl 0 _ prog w A R s hs) (by intro e;exact PySem.Value.noConfusion e)) ⟨⟨X,R.led _ _ m⟩,hQ⟩
  .exact aX h
 .have h':(bG v ms).map (λt=>fx t c)=some b:=by clear hv;cases v<;>first|exact absurd rfl q|exact h
  refine az (map_eq_some_iff.mp h') λt ht hb=>?_;clear h h';subst hb;refine az (EA F R hv ht q) λH Z p=>?_;exact kia_one Z X p (F.fx t c) (hv.D6) hQ
inductive o7(sc:Scope):Expr->Ty->Prop where
 |glob {x:String} {pos:Pos} {t:Ty}:nsIn B.K mainGlobals (ofString x)=some (some (lu t))->sc.names.lookup (ofString x)=some .globalImplicit->(ofString x==("__debug__":Str))=false->o7 sc (.Name (ofString x) pos) t
 |blt {x:String} {pos:Pos} {t:Ty}:gh B.K x (lu t)->sc.names.lookup (ofString x)=some .globalImplicit->o7 sc (.Name (ofString x) pos) t
theorem za{E:Value->Shared->Prop}{Q:Value->Shared->Prop}(p:fK sc n A J g ms s.heap l)(ht:o7 sc e t)(hQ:Q (lu t) s):wpAny (model prog w) A (eval e J) Q E s:=by
 cases ht with
 |glob h1 h2 h3=>exact wg p h2 h1 h3 hQ
 |blt h1 h2=>exact jI p h2 h1.miss h1.boot h1.no h1.jS hQ
def aO(m:ME)(c:Ty):ME:=ay m λv _ ms=>(cg v ms c).map λb=>(.bool b,ms)
theorem QT(F:t6)(h:aQ sc n μ e m)(hc:o7 sc ec c)(hi:gh B.K "isinstance" (.builtin "isinstance"))(hx:sc.names.lookup (ofString "isinstance")=some .globalImplicit)
 (he:∀J,starEach [e,ec] J=(false,eval e J)::starEach [ec] J)(qK:∀J,starEach [ec] J=(false,eval ec J)::starEach [] J)(cH:∀J,(backTo pos (starEach [e,ec] J)).any (·.1)=false):
 aQ sc n μ (.Call (.Name (ofString "isinstance") px) [e,ec] [] pos) (aO m c):=by
 intro A J g ms s l E Q p r ms' hm hQ;refine bY hm λv aF q1 q2=>?_;refine az (map_eq_some_iff.mp q2) λb hb e=>?_;clear hm q2;cases e;refine wpAny_Call_NameR (jI p hx hi.miss hi.boot hi.no hi.jS ?_);refine callWith_builtin (cH J) (jY (cH J) ?_);refine args_cons (h p q1 λx h' tk g' R L vr=>?_) (he J);refine args_cons (za (s:={s with heap:=h',toks:=tk}) (p.next L R) hc ?_) (qK J);refine args_nil ?_;exact Np F (s:={s with heap:=h',toks:=tk}) R vr hb λb0=>hQ _ _ _ g' R L (.bool b)
def kU(m:ME)(t1 t2:Ty):ME:=ay m λv _ ms=>match v with
 |.absent=>none
 |_=>(bG v ms).map λt=>(.bool (fx t t1||fx t t2),ms)
theorem O0(F:t6){k:Nat}(h:aQ sc n μ e m)(h1:o7 sc c1 t1)(h2:o7 sc c2 t2)(hi:gh B.K "isinstance" (.builtin "isinstance"))(hx:sc.names.lookup (ofString "isinstance")=some .globalImplicit)
 (he:∀J,starEach [e,.Tuple [c1,c2] k tp] J=(false,eval e J)::starEach [.Tuple [c1,c2] k tp] J)(qK:∀J,starEach [.Tuple [c1,c2] k tp] J=(false,eval (.Tuple [c1,c2] k tp) J)::starEach [] J)
 (TL:∀J,starEach [c1,c2] J=(false,eval c1 J)::starEach [c2] J)(TM:∀J,starEach [c2] J=(false,eval c2 J)::starEach [] J)(cH:∀J,(backTo pos (starEach [e,.Tuple [c1,c2] k tp] J)).any (·.1)=false):
 aQ sc n μ (.Call (.Name (ofString "isinstance") px) [e,.Tuple [c1,c2] k tp] [] pos) (kU m t1 t2):=by
 intro A J g ms s l E Q p r ms' hm hQ;refine bY hm λv aF q1 q2=>?_;have iX:∃t,bG v aF=some t/\v≠.absent/\some (V.bool (fx t t1||fx t t2),aF)=some (r,ms'):=by clear q1;cases v<;>first|(exact aX q2)|(obtain⟨t,h1,h2⟩:=map_eq_some_iff.mp q2;exact(cA t h1 (by intro e;exact V.noConfusion e) (congrArg some h2)))
 refine aY iX λt ht qJ e=>?_;clear hm iX q2;cases e;refine wpAny_Call_NameR (jI p hx hi.miss hi.boot hi.no hi.jS ?_);refine callWith_builtin (cH J) (jY (cH J) ?_);refine args_cons (h p q1 λx h' tk g' R L vr=>?_) (he J);refine args_cons (Tuple_ ?_) (qK J);have p':=p.next L R;refine args_cons (za (s:={s with heap:=h',toks:=tk}) p' h1 ?_) (TL J);refine args_cons (za (s:={s with heap:=h',toks:=tk}) p' h2 ?_) (TM J);refine args_nil ?_;refine jo (R.new (nq [lu t1,lu t2] 0) .free rfl) λR' L' m' t' WR=>?_;refine wpAny_newObj_type ?_ (by show 2<=sizeLine;rw[sizeLine_eq];omega);refine args_nil ?_;refine az (EA F R' (vr.mono L' (cx _)) ht qJ) λH Z pH=>?_;refine kia_tup Z (R.base.X.keeps R'.keep) pH (R'.led _ _ m') (b:=fx t t1||fx t t2) ?_ (vr.D6) λb0=>?_
 .unfold kitAny;rw[F.fx t t1];cases fx t t1 with
  |true=>rfl
  |false=>unfold kitAny;rw[F.fx t t2];cases fx t t2<;>rfl
 .exact hQ _ _ _ _ R' (L.trans (L'.up (zero_le _))) (.bool _)
end
end
section
noncomputable def G.re(g:G)(wr:List Addr)(h:Heap):G:={news:=g.news.filter (λp=>decide (p.1∉wr))++wr.filterMap (λb=>(h.get? b).map λo=>(b,o)),tag:=g.tag,dm:=g.dm,top:=h.objs.size}
theorem G.z9{g:G}{wr:List Addr}{h:Heap}{b:Addr}{o:Obj}(m:(b,o)∈g.news)(hb:b∉wr):(b,o)∈(g.re wr h).news:=mem_append_left _ (List.mem_filter.mpr ⟨m,by simpa using hb⟩)
theorem G.O1{g:G}{wr:List Addr}{h:Heap}{b:Addr}{o:Obj}(hb:b∈wr)(e:h.get? b=some o):(b,o)∈(g.re wr h).news:=mem_append_right _ (mem_filterMap.mpr ⟨b,hb,by rw[e];rfl⟩)
theorem G.EB{g:G}{wr:List Addr}{h:Heap}{b:Addr}{o:Obj}(m:(b,o)∈(g.re wr h).news):((b,o)∈g.news/\b∉wr)\/(b∈wr/\h.get? b=some o):=by
 rcases List.mem_append.mp m with q|q
 .refine bT (List.mem_filter.mp q) λq1 q2=>?_;exact .inl ⟨q1,by simpa using q2⟩
 .refine az (mem_filterMap.mp q) λc hc e=>?_;refine az (map_eq_some_iff.mp e) λo' h1 h2=>?_;clear e;cases h2;exact .inr ⟨hc,h1⟩
section
variable{sc:Scope}{n μ:Nat}
theorem aJ.re{h h':Heap}(R:aJ g ms h){wr:List Addr}(hw:∀b∈wr,g.tag b=.free/\∃o,(b,o)∈g.news)(k:∀b o,b∉wr->h.get? b=some o->h'.get? b=some o)(sz:h.objs.size<=h'.objs.size):
 aJ (g.re wr h') ms h'/\Le 0 (·∈wr) g (g.re wr h'):=by
 have L:Le 0 (·∈wr) g (g.re wr h'):=⟨λa o m _ e=>⟨G.z9 m e,rfl⟩,⟨[],by simp[G.re]⟩,by show g.top<=h'.objs.size;rw[R.top];exact sz⟩;refine⟨⟨R.base,λb o e=>?_,λb o m=>?_,λb o m ht=>?_,R.len,le_trans R.low sz,rfl,λi x e=>?_⟩,L⟩
 .refine k b o (λhb=>?_) (R.keep b o e);obtain⟨t,o',m⟩:=hw b hb;exact absurd (Heap.lt_size e) (Nat.not_lt.mpr (R.fresh _ _ m (by rw[t];exact λz4=>fB.noConfusion z4)))
 .rcases G.EB m with hr|hr
  .refine bT hr λq hb=>?_;exact k b o hb (R.led _ _ q)
  .refine bT hr λ_ q=>?_;exact q
 .rcases G.EB m with hr|hr
  .refine bT hr λq hb=>?_;exact R.fresh _ _ q ht
  .refine bT hr λhb _=>?_;obtain⟨t,o',m'⟩:=hw b hb;exact R.fresh _ _ m' (by rw[t];exact λz4=>fB.noConfusion z4)
 .refine aY (R.objs i x e) λa h1 h2 h3=>?_;exact cA a h1 h2 (h3.mono L (λa ha t=>by rw[(hw a ha).1]at t;exact fB.noConfusion t) h2 λb o p m t=>⟨G.z9 m λhb=>(by rw[(hw b hb).1]at t;exact fB.noConfusion t),rfl⟩)
theorem hJ.nv{μ:Nat}{ex:Addr->Prop}(h:Le μ ex g g')(hx:∀a,ex a->¬fF J a)(e:hJ g J):hJ g' J:=by
 refine⟨e.kind,e.glob,e.blt,?_,e.apart,?_,?_⟩
 .refine hU e.loc λo es ep h1 h2 h3 h4=>?_;have q:=h.keep _ _ h1 (h2▸id) λq=>hx _ q (.inl rfl);exact kn o es ep q.1 (q.2.trans h2) h3 h4
 .intro x c hc;refine fN (e.cells x c hc) λo v h1 h2 h3=>?_;have q:=h.keep _ _ h1 (h2▸id) λq=>hx _ q (.inr ⟨x,hc⟩);exact hG o v q.1 (q.2.trans h2) h3
 .exact e.own
theorem k7.nv{μ:Nat}{ex:Addr->Prop}(h:Le μ ex g g')(hx:∀a,ex a->¬fF J a)(ho:jc ex g)(e:hJ g J)(r:k7 g J l):k7 g' J l:=by
 intro x v hv;refine az (r x v hv) λy h1 h2=>?_;refine a0 y (h1.mono h ho) ?_;rcases h2 with hr|hr
 .obtain⟨hk,o,es,ep,m,d,f⟩:=hr;refine hU e.loc λo' bu nN m' t' d' s'=>?_;have q:=h.keep _ _ m (t'▸id) λq=>hx _ q (.inl rfl);exact .inl ⟨hk,o,es,ep,q.1,d,f⟩
 .obtain⟨hk,c,o,hc,m,d⟩:=hr;refine fN (e.cells _ _ hc) λo' v' m' t' d'=>?_;have q:=h.keep _ _ m (t'▸id) λq=>hx _ q (.inr ⟨_,hc⟩);exact .inr ⟨hk,c,o,hc,q.1,d⟩
structure jP(fp wr:List Addr)(own:Addr->Prop)(lo μ:Nat)(g:G):Prop where
 sub:∀b∈wr,b∈fp
 here:∀b∈fp,∃o,(b,o)∈g.news/\¬Wr μ (g.tag b)/\¬own b
 free:∀b∈wr,g.tag b=.free/\lo<=b
theorem jP.mono{own:Addr->Prop}{lo μ:Nat}(c:jP fp wr own lo μ g)(L:Le μ own g g'):jP fp wr own lo μ g':=by
 have k:∀b∈fp,∃o,(b,o)∈g'.news/\g'.tag b=g.tag b:=λb hb=>by refine aY (c.here b hb) λo h1 h2 h3=>?_;exact kP o (L.keep _ _ h1 h2 h3)
 refine⟨c.sub,λb hb=>?_,λb hb=>?_⟩
 .refine az (k b hb) λo h1 h2=>?_;refine aY (c.here b hb) λ_ _ q q'=>?_;exact cA o h1 (by rw[h2];exact q) q'
 .refine az (k b (c.sub b hb)) λo h1 h2=>?_;rw[h2];exact c.free b hb
theorem jP.same{own:Addr->Prop}{lo μ:Nat}(c:jP fp wr own lo μ g)(L:Le μ own g g')(R:aJ g ms h)(R':aJ g' ms' h'):∀b∈fp,∀o,h.get? b=some o->h'.get? b=some o:=by intro b hb o ho;refine aY (c.here b hb) λo' h1 h2 h3=>?_;have e:=R.led _ _ h1;rw[ho]at e;cases e;exact R'.led _ _ (L.keep _ _ h1 h2 h3).1
theorem jP.qn{own:Addr->Prop}{lo μ:Nat}(c:jP fp wr own lo μ g):∀b∈wr,g.tag b=.free/\∃o,(b,o)∈g.news:=λb hb=>⟨(c.free b hb).1,(c.here b (c.sub b hb)).imp λ_ q=>q.1⟩
theorem jP.re{own:Addr->Prop}{lo μ:Nat}{h':Heap}(c:jP fp wr own lo μ g)(ex:∀b∈wr,∃o,h'.get? b=some o):jP fp wr own lo μ (g.re wr h'):=by
 refine⟨c.sub,λb hb=>?_,c.free⟩;refine aY (c.here b hb) λo h1 h2 h3=>?_;by_cases q:b∈wr
 .refine cW (ex b q) λo' e=>?_;exact cA o' (G.O1 q e) h2 h3
 .exact cA o (G.z9 h1 q) h2 h3
inductive d7(own:Addr->Prop)(lo μ:Nat)(t:Bool)(it:Addr)(vs:List V)(g:G)(h:Heap):Prop where
 |walks {fp wr:List Addr} {k:Nat} {P:Nat->Value->Prop} {St:Nat->Heap->Prop} {i:Nat} (W:∀A:Around,A.handled=none->Walks prog w A it fp wr k P St) (ex:∀i h,St i h->∀b∈wr,∃o,h.get? b=some o)
  (go:t=true->∀(A:Around) (E:Value->Shared->Prop) (elts:List Expr) (x1:Nat) (pos:Pos) (i:Nat) (T:Addr) (s:Shared) (Q:Unit->Shared->Prop),St i s.heap->Q () s->wpAny (model prog w) A (letOwnedTupleGo (.Tuple elts x1 pos) (.ref it) (.ref T)) Q E s)
  (c:jP fp wr own lo μ g) (st:St i h) (hn:k=i+vs.length) (items:∀j v x,vs[j]?=some v->P (i+j) x->aA g v x):d7 own lo μ t it vs g h
 |kK {fp wr:List Addr} {k:Nat} {Pt:Nat->Array Value->Prop} {St:Nat->Heap->Prop} {ya:Nat->Addr->Heap->Prop} {i:Nat} (ht:t=true) (W:∀A:Around,A.handled=none->WalksT prog w A it fp wr k Pt St ya) (ex:∀i h,St i h->∀b∈wr,∃o,h.get? b=some o)
  (nQ:∀i T h,ya i T h->∀b∈wr,∃o,h.get? b=some o)
  (c:jP fp wr own lo μ g) (st:St i h) (hn:k=i+vs.length) (items:∀j v us,vs[j]?=some v->Pt (i+j) us->∃mZ,v=.tup mZ/\bD g mZ us.toList):d7 own lo μ t it vs g h
theorem d7.mono{own:Addr->Prop}{lo:Nat}{t:Bool}(S:d7 own lo μ t it vs g h)(L:Le μ own g g')(ho:jc own g)(R:aJ g ms h)(R':aJ g' ms' h'):d7 own lo μ t it vs g' h':=by
 cases S with
 |walks W ex go c st hn items=>exact .walks W ex go (c.mono L) ((W {handled:=none,depth:=0,frames:=none,guards:=none,units:=0} rfl).frame _ _ _ st (c.same L R R')) hn λj v x e p=>(items j v x e p).mono L ho
 |kK ht W ex nQ c st hn items=>exact .kK ht W ex nQ (c.mono L) ((W {handled:=none,depth:=0,frames:=none,guards:=none,units:=0} rfl).frame _ _ _ st (c.same L R R')) hn λj v x e p=>(items j v x e p).imp λmZ q=>⟨q.1,q.2.mono L ho⟩
theorem d7.QU{own own':Addr->Prop}{lo:Nat}{t:Bool}(S:d7 own lo μ t it vs g h)(R:aJ g ms h)(ho:∀a,own' a->own a\/h.objs.size<=a):d7 own' lo μ t it vs g h:=by
 have go:∀{fp wr},jP fp wr own lo μ g->jP fp wr own' lo μ g:=λ{fp wr} c=>⟨c.sub,λb hb=>by
  refine aY (c.here b hb) λo h1 h2 h3=>?_;refine cA o h1 h2 (λq=>?_);rcases ho b q with q|q
  .exact h3 q
  .exact absurd (R.lt h1) (Nat.not_lt.mpr q),c.free⟩
 cases S with
 |walks W ex g' c st hn items=>exact .walks W ex g' (go c) st hn items
 |kK ht W ex nQ c st hn items=>exact .kK ht W ex nQ (go c) st hn items
def ib(own:Addr->Prop)(lo:Nat)(g:G):Addr->Prop:=λb=>lo<=b/\¬own b/\g.tag b=.free
theorem jP.oE{own:Addr->Prop}{lo μ:Nat}(c:jP fp wr own lo μ g):∀b,b∈wr->ib own lo g b:=λb hb=>by refine aY (c.here b (c.sub b hb)) λ_ _ _ q=>?_;exact⟨(c.free b hb).2,q,(c.free b hb).1⟩
theorem ib.off{own:Addr->Prop}{lo:Nat}:jc (ib own lo g) g:=λa h t=>by rw[h.2.2]at t;exact fB.noConfusion t
set_option tactic.hygienic true in
theorem d7.next{E:Value->Shared->Prop}{own:Addr->Prop}{lo:Nat}{Q:Option Value->Shared->Prop}(hh:A.handled=none)(S:d7 own lo μ false it (v::vs) g s.heap)(R:aJ g ms s.heap)
 (hQ:∀x h' tk g',aJ g' ms h'->Le 0 (ib own lo g) g g'->aA g' v x->d7 own lo μ false it vs g' h'->Q (some x) {s with heap:=h',toks:=tk}):wpAny (model prog w) A (pyNext (.ref it)) Q E s:=by
 cases S with
 |kK ht=>exact Bool.noConfusion ht
 |walks W ex go c st hn items=>rename_i fp wr k P St i;refine jG ?_;refine(W A hh).item i s _ E (by rw[hn];simp) st λx h' tk hP oF hk sz=>?_;obtain⟨R',L'⟩:=R.re c.qn hk sz;have jD:Le 0 (ib own lo g) g (g.re wr h'):=L'.weak c.oE;refine hQ x h' tk _ R' jD ((items 0 v x rfl hP).mono jD ib.off) (.walks W ex go (c.re (ex _ _ oF)) oF (by rw[hn,List.length_cons];omega) λj u y e p=>?_);exact(items (j+1) u y e (by rw[show i+(j+1)=i+1+j by omega];exact p)).mono jD ib.off
set_option tactic.hygienic true in
theorem d7.done{E:Value->Shared->Prop}{own:Addr->Prop}{lo:Nat}{t:Bool}{Q:Option Value->Shared->Prop}(hh:A.handled=none)(S:d7 own lo μ t it [] g s.heap)(R:aJ g ms s.heap)
 (hQ:∀h' tk g',aJ g' ms h'->Le 0 (ib own lo g) g g'->Q none {s with heap:=h',toks:=tk}):wpAny (model prog w) A (pyNext (.ref it)) Q E s:=by
 cases S with
 |walks W ex go c st hn items=>rename_i fp wr k P St i;refine jG ?_;simp at hn;clear items;subst hn;refine(W A hh).done s _ E st λh' tk hk sz=>?_;obtain⟨R',L'⟩:=R.re c.qn hk sz;exact hQ h' tk _ R' (L'.weak c.oE)
 |kK ht W ex nQ c st hn items=>rename_i fp wr k P St ya i;refine jG ?_;simp at hn;clear items;subst hn;refine(W A hh).done s _ E st λh' tk hk sz=>?_;obtain⟨R',L'⟩:=R.re c.qn hk sz;exact hQ h' tk _ R' (L'.weak c.oE)
theorem d7.self{E:Value->Shared->Prop}{own:Addr->Prop}{lo:Nat}{t:Bool}{Q:Value->Shared->Prop}(hh:A.handled=none)(S:d7 own lo μ t it vs g s.heap)(hQ:Q (.ref it) s):wpAny (model prog w) A (pyIter (.ref it)) Q E s:=by
 cases S with
 |walks W ex go c st hn items=>exact(W A hh).self _ s Q E st hQ
 |kK ht W ex nQ c st hn items=>exact(W A hh).self _ s Q E st hQ
set_option tactic.hygienic true in
theorem d7.G1{E:Value->Shared->Prop}{own:Addr->Prop}{lo:Nat}{Q:Option Value->Shared->Prop}(hh:A.handled=none)(S:d7 own lo μ true it (.tup us::vs) g s.heap)(R:aJ g ms s.heap)
 (hQ:∀T items gu,(∀(elts:List Expr) (x1:Nat) (pos:Pos) (E:Value->Shared->Prop) (Q:Unit->Shared->Prop),(∀h' tk g',aJ g' ms h'->Le 0 (ib own lo g) g g'->h'.IsTuple T items.toArray->bD g' us items->d7 own lo μ true it vs g' h'->Q () {s with heap:=h',toks:=tk})->
  wpAny (model prog w) A (letOwnedTupleGo (.Tuple elts x1 pos) (.ref it) (.ref T)) Q E gu)->Q (some (.ref T)) gu):wpAny (model prog w) A (pyNext (.ref it)) Q E s:=by
 cases S with
 |walks W ex go c st hn items=>rename_i fp wr k P St i;refine jG ?_;refine(W A hh).item i s _ E (by rw[hn];simp) st λx h' tk hP oF hk sz=>?_;refine bT (R.re c.qn hk sz) λR' L'=>?_;have jD:Le 0 (ib own lo g) g (g.re wr h'):=L'.weak c.oE;have hv:=(items 0 (.tup us) x rfl hP).mono jD ib.off;apply aA.tK hv;intro a pJ cnt m t hv;refine hQ a pJ _ λelts x1 pos E Q kk=>go rfl A E elts x1 pos (i+1) a _ Q oF ?_;refine kk h' tk _ R' jD ⟨_,R'.led _ _ m,rfl,cnt,rfl⟩ hv (.walks W ex go (c.re (ex _ _ oF)) oF (by rw[hn,List.length_cons];omega) λj u y e p=>?_);exact(items (j+1) u y e (by rw[show i+(j+1)=i+1+j by omega];exact p)).mono jD ib.off
 |kK ht W ex nQ c st hn items=>rename_i fp wr k Pt St ya i;refine jG ?_;refine(W A hh).item i s _ E (by rw[hn];simp) st λT pJ h' tk hP hT TN HF hk sz=>?_;refine hQ T pJ.toList _ λelts x1 pos E Q kk=>?_;refine jG ?_;refine(W A hh).go elts x1 pos i T {s with heap:=h',toks:=tk} _ E HF λbN oF fw Cb=>?_;have SK:∀b o,b∉wr->s.heap.get? b=some o->bN.get? b=some o:=λb o hb e=>fw b o hb (hk b o hb e);refine bT (R.re c.qn SK (le_trans sz Cb)) λR' L'=>?_;have jD:Le 0 (ib own lo g) g (g.re wr bN):=L'.weak c.oE;have TO:T∉wr:=(W A hh).apart _ _ _ HF;refine az TN λoT yb Cc=>?_;refine az (items 0 (.tup us) pJ rfl hP) λmZ e gW=>?_;cases e;refine kk bN tk _ R' jD ⟨oT,fw T oT TO yb,by simpa using Cc⟩ (gW.mono jD ib.off) (.kK rfl W ex nQ (c.re (ex _ _ oF)) oF (by rw[hn,List.length_cons];omega) λj u y e p=>?_);refine az (items (j+1) u y e (by rw[show i+(j+1)=i+1+j by omega];exact p)) λQV SM q=>?_;exact a0 QV SM (q.mono jD ib.off)
end
end
section
def HG(J:Env)(lo:Nat):Addr->Prop:=λa=>fF J a\/lo<=a
section
variable{sc:Scope}{n μ:Nat}
structure jM(sc:Scope)(μ lo:Nat)(J:Env)(g g':G)(ms':Hp)(h':Heap)(l':av):Prop where
 rel:aJ g' ms' h'
 le:Le μ (HG J lo) g g'
 ok:hJ g' J
 loc:k7 g' J l'
theorem jM.trans{lo:Nat}(a:jM sc μ lo J g g' ms h l)(b:jM sc μ lo J g' bp ms' h' l'):jM sc μ lo J g bp ms' h' l':=⟨b.rel,a.le.trans b.le,b.ok,b.loc⟩
theorem jM.pre{lo:Nat}(p:fK sc n A J g ms h l)(q:jM sc μ lo J g g' ms' h' l'):fK sc n A J g' ms' h' l':=⟨p.fk,p.sc,q.ok,q.loc,q.rel⟩
theorem fC.vd{lo:Nat}(q:fC sc μ J g g' ms' h' l'):jM sc μ lo J g g' ms' h' l':=⟨q.rel,q.le.weak λ_ e=>.inl e,q.ok,q.loc⟩
theorem jM.close{lo:Nat}(L:Le μ cC g gS)(R:aJ g aF cZ)(pI:g.top<=lo)(q:jM sc μ lo J gS g' ms' h' l'):fC sc μ J g g' ms' h' l':=by
 have z:=(L.weak (ex':=HG J lo) λ_ e=>e.elim).trans q.le;refine⟨q.rel,⟨λa o m t e=>z.keep a o m t ?_,z.dm,z.top⟩,q.ok,q.loc⟩;rintro(e'|e')
 .exact e e'
 .exact absurd (R.lt m) (Nat.not_lt.mpr (R.top▸(le_trans pI e')))
theorem fK.oE{lo:Nat}(p:fK sc n A J g ms h l)(R:aJ g' ms' h')(L:Le 0 (ib (fF J) lo g) g g'):jM sc μ lo J g g' ms' h' l:=⟨R,(L.up (zero_le _)).weak λa e=>.inr e.1,p.ok.nv L λa e=>e.2.1,p.loc.nv L (λa e=>e.2.1) ib.off p.ok⟩
theorem yW{E:Value->Shared->Prop}{k:Nat}{Q:Unit->Shared->Prop}(hh:A.handled=none)(R:aJ g ms s.heap)(hT:s.heap.IsTuple T items.toArray)
 (hn:(assignEach elts J).length=items.length)(AJ:(assignEach elts J).findIdx? (·.1)=none)
 (h:∀h' g',aJ g' ms h'->Le 0 cC g g'->wpAny (model prog w) A (assignInOrder ((assignEach elts J).map (·.2)) items) Q E {s with heap:=h'}):wpAny (model prog w) A (assign (.Tuple elts k pos) J (.ref T)) Q E s:=by
 rw[assign_Tuple];refine wpAny_bind (wpAny_standAt ?_);unfold unpack;rw[hn,AJ];refine wpAny_bind (wpAny_holding (jG ?_));have q:=unpackItems_tuple (prog:=prog) (w:=w) (A:=A) (E:=E) (s:=s) (t:=T) (items:=items.toArray) (Q:=λl s'=>fZ s<=fZ s'->wpAny (model prog w) A (assignInOrder ((assignEach elts J).map (·.2)) l) Q E s') hh hT λh' he sz=>?_
 .simpa using q
 .refine bT (R.extBut he sz) λR' L'=>?_;have:=h h' _ R' L';simpa using this
inductive nS(sc:Scope):Bool->Expr->(V->av->Option av)->Prop where
 |name {x:String} {px:Pos} (hk:sc.names.lookup (ofString x)=some .local\/sc.names.lookup (ofString x)=some .cell):nS sc false (.Name (ofString x) px) (λv l=>some (l.set x v))
 |pair {a b:String} {pa pb:Pos} {k:Nat} {pos:Pos} (ha:sc.names.lookup (ofString a)=some .local\/sc.names.lookup (ofString a)=some .cell) (hb:sc.names.lookup (ofString b)=some .local\/sc.names.lookup (ofString b)=some .cell):
  nS sc true (.Tuple [.Name (ofString a) pa,.Name (ofString b) pb] k pos) (λv l=>match v with
   |.tup [p,q]=>some ((l.set a p).set b q)
   |_=>none)
theorem HH{α:Type}{v:V}{r:α}{f:V->V->Option α}{C:V->Prop}(h:(match v with|.tup [p,q]=>f p q|_=>none)=some r)(K:∀p q,f p q=some r->C (.tup [p,q])):C v:=by
 cases v with
 |tup vs=>match vs,h with
  |[p,q],h=>exact K p q h
  |[],h=>exact aX h
  |[_],h=>exact aX h
  |_::_::_::_,h=>exact aX h
 |_=>exact aX h
section
variable{A:Around}{E E':Value->Shared->Prop}{J:Env}{s:Shared}{lo:Nat}{it:Addr}{vs:List V}{g:G}{ms:Hp}{l:av}{Q:Unit->Shared->Prop}
theorem Ld(hk:sc.names.lookup (ofString x)=some .local\/sc.names.lookup (ofString x)=some .cell)(p:fK sc n A J g ms s.heap l)(S:d7 (fF J) lo μ false it (v::vs) g s.heap)
 (hQ:∀h' tk g',jM sc μ lo J g g' ms h' (l.set x v)->d7 (fF J) lo μ false it vs g' h'->Q () {s with heap:=h',toks:=tk}):
 wpAny (model prog w) A (pyNext (.ref it)) (λr gu=>∃y,r=some y/\wpAny (model prog w) A (letOwnedTupleGo (.Name (ofString x) px) (.ref it) y) (λ_ qA=>wpAny (model prog w) A (assign (.Name (ofString x) px) J y) Q E qA) E gu) E' s:=by
 refine S.next p.fk.hh p.rel λx h' tk g' R' L' hv S'=>(a0 x rfl ?_);have P':=p.oE (μ:=μ) R' L';refine wpAny_pure (wpAny_assign_Name ?_);refine oY (μ:=μ) (s:={s with heap:=h',toks:=tk}) (P'.pre p) hv hk λbN b0 bp Cd=>?_;exact hQ bN b0 bp (P'.trans (Cd.vd)) (S'.mono Cd.le P'.ok.off R' Cd.rel)
theorem Lf{k:Nat}(ha:sc.names.lookup (ofString a)=some .local\/sc.names.lookup (ofString a)=some .cell)(hb:sc.names.lookup (ofString b)=some .local\/sc.names.lookup (ofString b)=some .cell)(p:fK sc n A J g ms s.heap l)
 (S:d7 (fF J) lo μ true it (.tup [uE,uF]::vs) g s.heap)(hQ:∀h' tk g',jM sc μ lo J g g' ms h' ((l.set a uE).set b uF)->d7 (fF J) lo μ true it vs g' h'->Q () {s with heap:=h',toks:=tk}):
 wpAny (model prog w) A (pyNext (.ref it)) (λr gu=>∃y,r=some y/\wpAny (model prog w) A (letOwnedTupleGo (.Tuple [.Name (ofString a) pa,.Name (ofString b) pb] k pos) (.ref it) y) (λ_ qA=>wpAny (model prog w) A (assign (.Tuple [.Name (ofString a) pa,.Name (ofString b) pb] k pos) J y) Q E qA) E gu) E' s:=by
 refine S.G1 p.fk.hh p.rel λT items gu kk=>(a0 _ rfl (kk _ _ _ _ _ λh' tk g' R' L' hT hv S'=>?_));have P':=p.oE (μ:=μ) R' L';revert hT;apply bD.cK hv;intro x ys hx hv;apply bD.cK hv;intro y ys hy hv;apply bD.nK hv;intro hT;refine yW (s:={s with heap:=h',toks:=tk}) p.fk.hh R' hT rfl rfl λcu da bS bx=>?_;have nF:=(P'.pre p).next bx bS
 refine assignInOrder_cons (wpAny_assign_Name ?_);refine oY (μ:=μ) (s:={s with heap:=cu,toks:=tk}) nF (hx.mono bx (cx _)) ha λfi gP cQ mR=>?_;refine assignInOrder_cons (wpAny_assign_Name ?_);refine oY (μ:=μ) (s:={s with heap:=fi,toks:=gP}) (mR.pre nF) ((hy.mono bx (cx _)).mono mR.le nF.ok.off) hb λnD AF Bv Bx=>?_;refine assignInOrder_nil ?_;have uG:=S'.mono ((bx.up (zero_le μ)).weak (ex':=fF J) λ_ e=>e.elim) P'.ok.off R' bS;have By:=uG.mono mR.le nF.ok.off bS mR.rel;have iC:jM sc μ lo J g da ms cu l:=⟨bS,P'.le.trans ((bx.up (zero_le μ)).weak λ_ e=>e.elim),nF.ok,nF.loc⟩;exact hQ _ _ _ ((iC.trans (mR.vd)).trans (Bx.vd)) (By.mono Bx.le mR.ok.off mR.rel Bx.rel)
theorem Md{t:Bool}{upd:V->av->Option av}{l':av}(hT:nS sc t tg upd)(p:fK sc n A J g ms s.heap l)
 (S:d7 (fF J) lo μ t it (v::vs) g s.heap)(hu:upd v l=some l')(hQ:∀h' tk g',jM sc μ lo J g g' ms h' l'->d7 (fF J) lo μ t it vs g' h'->Q () {s with heap:=h',toks:=tk}):
 wpAny (model prog w) A (pyNext (.ref it)) (λr gu=>∃x,r=some x/\wpAny (model prog w) A (letOwnedTupleGo tg (.ref it) x) (λ_ qA=>wpAny (model prog w) A (assign tg J x) Q E qA) E gu) E' s:=by
 cases hT with
 |name hk=>exact Ld hk p S (Option.some.inj hu▸hQ)
 |pair ha hb=>exact HH (C:=λv=>d7 (fF J) lo μ true it (v::vs) g s.heap->_) hu (λuE uF hu S=>Lf ha hb p S (Option.some.inj hu▸hQ)) S
end
theorem D7{γ:Type}{E E':Value->Shared->Prop}{lo:Nat}{t:Bool}{upd:V->av->Option av}{f:Option Value->Sem γ}{k:Sem γ}{Q:γ->Shared->Prop}(hT:nS sc t tg upd)(p:fK sc n A J g ms s.heap l)
 (S:d7 (fF J) lo μ t it (v::vs) g s.heap)(hu:upd v l=some l')(hf:∀x,f (some x)=(do letOwnedTupleGo tg (.ref it) x;assign tg J x;k))
 (hQ:∀h' tk g',jM sc μ lo J g g' ms h' l'->d7 (fF J) lo μ t it vs g' h'->wpAny (model prog w) A k Q E {s with heap:=h',toks:=tk}):
 wpAny (model prog w) A (pyNext (.ref it)) (λr gu=>wpAny (model prog w) A (f r) Q E gu) E' s:=by
 refine wpAny_mono (Md (A:=A) (E:=E) (E':=E') hT p S hu (Q:=λ_ s'=>wpAny (model prog w) A k Q E s') hQ) (λr gu hr=>?_) λ_ _ x=>x;obtain⟨x,rfl,hr⟩:=hr;rw[hf x];exact wpAny_bind (wpAny_mono hr (λ_ qA cu=>wpAny_bind cu) λ_ _ x=>x)
noncomputable def kW(upd:V->av->Option av)(b:MS):List V->MS
 |[]=>ao
 |v::vs=>λl ms=>match upd v l with
  |some l'=>match b l' ms with
   |some (.next,ve,ms')=>kW upd b vs ve ms'
   |some (.ret r,ve,ms')=>some (.ret r,ve,ms')
   |none=>none
  |none=>none
set_option tactic.hygienic true in
theorem EC{t:Bool}{upd:V->av->Option av}{lo:Nat}{b:MS}(hT:nS sc t tg upd)(hb:jA sc n μ body b):∀(vs:List V) {A:Around} {J:Env} {g:G} {ms:Hp} {s:Shared} {l:av} {R:Result->Shared->Prop},
 fK sc n A J g ms s.heap l->d7 (fF J) lo μ t it vs g s.heap->∀{r:Fl} {l':av} {ms':Hp},kW upd b vs l ms=some (r,l',ms')->
 (∀f h' tk g',jM sc μ lo J g g' ms' h' l'->AD g' r f->R (.ok f) {s with heap:=h',toks:=tk})->codeAny (model prog w) A (.forLoop tg (.ref it) body [] J) R s
 |[],A,J,g,ms,s,l,R,p,S,r,l',ms',hm,hQ=>by cases hm;refine codeAny_of_tree ?_;rw[Around.under_of_weight (c:=.forLoop tg (.ref it) body [] J) rfl];show wpAny _ _ ((forTurn tg (.ref it) body [] J).onRaise _) _ _ _;refine wpAny_onRaise ?_;refine wpAny_bind (wpAny_standAt (wpAny_bind (wpAny_onRaise ?_)));refine S.done p.fk.hh p.rel λh' tk g' R' L'=>?_;have P':=p.oE (μ:=μ) R' L';refine wpAny_pure ⟨rfl,?_⟩;refine codeAny_of_tree ?_;rw[Around.under_of_weight (c:=.block [] J) rfl];show wpAny _ _ (((execs [] J).onRaise _)>>=_) _ _ _;refine wpAny_bind (wpAny_onRaise (wpAny_execs_nil (wpAny_pure ?_)));exact hQ _ _ _ g' P' rfl
 |v::vs,A,J,g,ms,s,l,R,p,S,r,l',ms',hm,hQ=>by
  unfold kW at hm;refine Qp hm λil e1 hm=>?_;refine codeAny_of_tree ?_;rw[Around.under_of_weight (c:=.forLoop tg (.ref it) body [] J) rfl];show wpAny _ _ ((forTurn tg (.ref it) body [] J).onRaise _) _ _ _;refine wpAny_onRaise ?_;refine wpAny_bind (wpAny_standAt (wpAny_bind (wpAny_onRaise ?_)));refine Bt hm (λBw cf e2 hm=>?_) λv' Bw cf e2 hm=>?_
  .refine D7 hT p S e1 (λ_=>rfl) λcZ g6 gS qB nG=>?_;refine wpAny_bind (m:=execs body J) (hb (s:={s with heap:=cZ,toks:=g6}) (qB.pre p) e2 λf cu hO da iC fr=>?_);cases fr;refine wpAny_pure ⟨rfl,?_⟩;have Fb:=qB.trans (iC.vd);have uG:=nG.mono iC.le qB.ok.off qB.rel iC.rel;exact EC hT hb vs (s:={s with heap:=cu,toks:=hO}) (Fb.pre p) uG hm λf fi gP cQ mR fr=>hQ f _ _ cQ (Fb.trans mR) fr
  .cases hm;refine D7 hT p S e1 (λ_=>rfl) λcZ g6 gS qB nG=>?_;refine wpAny_bind (m:=execs body J) (hb (s:={s with heap:=cZ,toks:=g6}) (qB.pre p) e2 λf cu hO da iC fr=>?_);refine az fr λx bf hx=>?_;clear fr;subst bf;exact wpAny_pure (hQ _ _ _ da (qB.trans (iC.vd)) ⟨x,rfl,hx⟩)
def jL(sc:Scope)(n μ:Nat)(t:Bool)(e:Expr)(m:ML):Prop:=
 ∀⦃A:Around⦄ ⦃J:Env⦄ ⦃g:G⦄ ⦃ms:Hp⦄ ⦃s:Shared⦄ ⦃l:av⦄ ⦃E:Value->Shared->Prop⦄ ⦃Q:Value->Shared->Prop⦄,fK sc n A J g ms s.heap l->∀{vs:List V} {ms':Hp},m l ms=some (vs,ms')->
  (∀it h' tk g',aJ g' ms' h'->Le μ cC g g'->d7 (fF J) g.top μ t it vs g' h'->Q (.ref it) {s with heap:=h',toks:=tk})->wpAny (model prog w) A (eval e J) (λx gu=>wpAny (model prog w) A (pyIter x) Q E gu) E s
def gU(bU:ML)(upd:V->av->Option av)(b:MS):MS:=λl ms=>match bU l ms with
 |some (vs,ms')=>kW upd b vs l ms'
 |none=>none
theorem QW{t:Bool}{tg iter:Expr}{upd:V->av->Option av}{bU:ML}{body:List Stmt}{b:MS}{pos:Pos}(hT:nS sc t tg upd)(hi:jL sc n μ t iter bU)(hb:jA sc n μ body b)(hs:∀J x,foldedSetIterable iter J x=pure x):
 hM sc n μ (.For tg iter body [] pos) (gU bU upd b):=by
 intro A J g ms s l E Q p r l' ms' hm hQ;unfold gU at hm;refine xa hm λvs aF e1 hm=>?_;refine wpAny_For (hi p e1 λit cZ g6 gS fJ dG nG=>?_) (hs J);exact EC hT hb vs (s:={s with heap:=cZ,toks:=g6}) (p.next dG fJ) nG hm λf cu hO da iC fr=>hQ f _ _ da (iC.close dG p.rel (le_refl _)) fr
end
end
section
section
variable{sc:Scope}{n μ:Nat}
theorem vX(R:aJ g ms h)(ok:hJ g J){c:Nat}(m:(k,cG items c)∈g.news):¬fF J k:=by
 rintro(rfl|⟨x,hx⟩)
 .refine hU ok.loc λo es ep h1 _ h3 _=>?_;have e:=R.fn m h1;clear h1;subst e;exact PySem.Data.noConfusion h3
 .refine fN (ok.cells x k hx) λo v h1 _ h3=>?_;have e:=R.fn m h1;clear h1;subst e;exact PySem.Data.noConfusion h3
theorem Ks(ok:hJ g J)(m:g.tag k≠.free):¬fF J k:=by
 rintro(rfl|⟨x,hx⟩)
 .refine lR ok.loc λo es ep _ t _=>?_;exact m t
 .refine fN (ok.cells x k hx) λo v _ t _=>?_;exact m t
theorem oW(R:aJ g ms h)(ok:hJ g J){k:Addr}(hk:h.objs.size<=k):¬fF J k:=by
 rintro(rfl|⟨x,hx⟩)
 .refine nA ok.loc λo es ep m _=>?_;exact absurd (R.lt m) (Nat.not_lt.mpr hk)
 .refine fH (ok.cells x k hx) λo v m _=>?_;exact absurd (R.lt m) (Nat.not_lt.mpr hk)
theorem aJ.news{h h':Heap}(R:aJ g ms h)(k:∀b o,h.get? b=some o->h'.get? b=some o)(sz:h.objs.size<=h'.objs.size)(as:List Addr)(ha:∀a∈as,h.objs.size<=a/\∃o,h'.get? a=some o):
 ∃g',aJ g' ms h'/\Le 0 cC g g'/\∀a∈as,∃o,(a,o)∈g'.news/\g'.tag a=.free/\h'.get? a=some o:=by
 refine bT (R.ext k sz) λfJ dG=>?_;refine fI (fJ.wG (lo:=h.objs.size) R.low as ha (λa o m hle=>absurd (R.lt m) (Nat.not_lt.mpr hle))) λda bS bx nE _=>?_;exact cA da bS (dG.trans bx) nE
theorem v9{E:Value->Shared->Prop}{g:G}{t:Bool}{c lo:Nat}{Q:Value->Shared->Prop}(R:aJ g ms s.heap)(ok:hJ g J)(pI:lo<=g.top)(m:(k,cG items c)∈g.news)(ht:¬Wr μ (g.tag k))(hv:bD g vs items)
 (hQ:∀it h' g',aJ g' ms h'->Le 0 cC g g'->d7 (fF J) lo μ t it vs g' h'->Q (.ref it) {s with heap:=h'}):wpAny (model prog w) A (pyIter (.ref k)) Q E s:=by
 have hl:s.heap.IsList k items.toArray:=⟨_,R.led _ _ m,rfl,c,rfl⟩;refine wpAny_pyIter_list hl ?_;refine jo (R.new {cls:=.type "list_iterator",data:=.fields #[.ref k,.int 0 0]} .free rfl) λR' L' m' t' tp=>?_;have hk:=L'.keep _ _ m (by intro q;exact ht (q.up (zero_le _))) id;have gB:k≠s.heap.objs.size:=ne_of_lt (R.lt m);refine hQ _ _ _ R' L' (.walks (λA hA=>Walks.list hA s.heap.objs.size k gB items.toArray) (λi h st=>?_) (λ_ A E elts x1 pos i T s Q st q=>wpAny_letOwnedTupleGo_listiter st.1 q)
  ⟨dP (.head _) iW,?_,?_⟩ (i:=0) ⟨⟨_,R'.led _ _ m',rfl,rfl⟩,⟨_,R'.led _ _ hk.1,rfl,c,rfl⟩⟩ (by simp[hv.length]) λj v x e p=>?_)
 .exact dP (az st.1 λo ho _=>⟨o,ho⟩) iW
 .exact dP ⟨_,m',by rw[t'];exact id,oW R ok (le_refl _)⟩ (dP ⟨_,hk.1,by rw[hk.2];exact ht,vX R ok m⟩ iW)
 .exact dP ⟨t',le_trans pI tp⟩ iW
 .refine az ((hv.mono L' (cx _)).get e) λy hy hr=>?_;simp at p;rw[hy]at p;cases p;exact hr
theorem HI{t:Bool}(fY:μ<=1)(h:ij sc n μ e m):jL sc n μ t e m:=by intro A J g ms s l E Q p vs ms' hm hQ;refine h p hm λx h' tk g' R L lx=>?_;apply LX.K lx;intro k items c m1 m2 m3 m4;exact v9 (s:={s with heap:=h',toks:=tk}) R (p.ok.mono L) L.top m1 (λq=>m2 (q.up fY)) m3 λit bN bp R' L' S=>hQ it bN tk bp R' (L.trans (L'.up (zero_le _))) S
def gG(m:ME):ML:=ay m λv _ ms=>match v with
 |.lst vs=>some (vs,ms)
 |_=>none
theorem tH{t:Bool}(h:aQ sc n μ e m):jL sc n μ t e (gG m):=by
 intro A J g ms s l E Q p vs ms' hm;apply fh hm;intro P go vs ms' hm;refine bY hm λv aF q1 q2=>?_;cases v<;>try(exact aX q2)
 refine eZ q2 (go _ _ λhQ=>?_);refine h p q1 λx h' tk g' R L hv=>?_;apply aA.lK hv;intro u6 u7 u9 m1 t1 hv;exact v9 (s:={s with heap:=h',toks:=tk}) R (p.ok.mono L) L.top m1 (t1▸id) hv λit bN bp R' L' S=>hQ it bN tk bp R' (L.trans (L'.up (zero_le _))) S
noncomputable def gF(n:Nat):List V:=(List.range n).map λi=>V.int (Int.ofNat i)
def gD(m:ME):ME:=ay m λv _ ms=>match v with
 |.int k=>if 0<=k/\k<=1000 then some (.iM k.toNat,ms)else none
 |_=>none
set_option tactic.hygienic true in
theorem Nq(h:aQ sc n μ e m)(hi:gh B.K "range" (.type "range"))(hx:sc.names.lookup (ofString "range")=some .globalImplicit)
 (he:∀J,starEach [e] J=(false,eval e J)::starEach [] J)(cH:∀J,(backTo pos (starEach [e] J)).any (·.1)=false):
 aQ sc n μ (.Call (.Name (ofString "range") px) [e] [] pos) (gD m):=by
 intro A J g ms s l E Q p r ms' hm hQ;refine bY hm λv aF q1 q2=>?_;revert q1;apply Bo q2;intro k q2 q1;refine kr q2 λhk q2=>?_;clear hm;cases q2;refine wpAny_Call_NameR (jI p hx hi.miss hi.boot hi.no hi.jS ?_);refine PyProof.Rows.callWith_type (cH J) (jY (cH J) ?_);refine args_cons (h p q1 λx h' tk g' R L vr=>?_) (he J);refine args_nil ?_;apply aA.iK vr;intro t;refine call_range_1 ?_;refine jo (R.new (wF k.toNat tk t (tk+1)) .fu rfl) λR' L' m' t' tp=>?_;have e:((k.toNat:Nat):Int)=k:=Int.toNat_of_nonneg hk.1;have:=hQ _ _ (tk+1+1) _ R' (L.trans (L'.up (zero_le _))) (.iM m' t' (by omega));simp only[wF,e]at this;exact this
def iy(m:ME):ML:=ay m λv _ ms=>match v with
 |.lst vs=>some (vs,ms)
 |.iM k=>some (gF k,ms)
 |_=>none
set_option tactic.hygienic true in
theorem Me{E:Value->Shared->Prop}{g:G}{k:Nat}{lo:Nat}{Q:Value->Shared->Prop}(R:aJ g ms s.heap)(ok:hJ g J)(pI:lo<=g.top)(hv:aA g (.iM k) x)
 (hQ:∀it h' g',aJ g' ms h'->Le 0 cC g g'->d7 (fF J) lo μ false it (gF k) g' h'->Q (.ref it) {s with heap:=h'}):wpAny (model prog w) A (pyIter x) Q E s:=by
 apply aA.gK hv;intro a t1 t2 t3 m t hn;refine wpAny_pyIter_range (R.led _ _ m) (small_one (by decide) (by decide) (by omega) (by omega)) ?_;have fZ:Builtin.Range.rangeSize 0 (k:Int) 1=(k:Int):=by rw[rangeSize_one];split<;>omega
 refine jo (R.new {cls:=.type "range_iterator",data:=.fields #[rawInt 0,rawInt (Builtin.Range.rangeSize 0 (k:Int) 1),rawInt 1]} .free rfl) λR' L' m' t' tp=>?_;refine hQ _ _ _ R' L' (.walks (λA hA=>Walks.range hA s.heap.objs.size 0 1 k) (λi h st b hb=>?_) (λq=>by exact Bool.noConfusion q) ⟨λb hb=>hb,λb hb=>?_,λb hb=>?_⟩ (i:=0) ?_ (by simp[gF]) λj v x e p=>?_)
 .simp at hb;subst hb;exact⟨_,st⟩
 .simp at hb;subst hb;exact cA _ m' (by rw[t'];exact id) (oW R ok (le_refl _))
 .simp at hb;subst hb;exact⟨t',le_trans pI tp⟩
 .have:=R'.led _ _ m';have e1:(0+((0:Nat):Int)*1)=0:=by exact rfl
  have e2:((k:Int) -((0:Nat):Int))=Builtin.Range.rangeSize 0 (k:Int) 1:=by rw[fZ];exact rfl
  show IsRangeIter _ _ _ _ _;rw[e1,e2];exact this
 .refine cW p λu bf=>?_;clear p;subst bf;simp only[gF,getElem?_map,map_eq_some_iff]at e;refine az e λi hi bL=>?_;clear e;subst bL;have:i=j:=by rw[List.getElem?_eq_some_iff]at hi;refine cW hi λh1 h2=>?_;simpa using h2.symm
  clear hi;subst this;have q:(0+((0+i:Nat):Int)*1)=Int.ofNat i:=by simp
  rw[q];exact .int _ _
theorem Fc(h:aQ sc n μ e m):jL sc n μ false e (iy m):=by
 intro A J g ms s l E Q p vs ms' hm hQ;refine bY hm λv aF q1 q2=>?_;cases v<;>try(exact aX q2)
 .cases q2;refine h p q1 λx h' tk g' R L hv=>?_;apply aA.lK hv;intro u6 u7 u9 m1 t1 hv;exact v9 (s:={s with heap:=h',toks:=tk}) R (p.ok.mono L) L.top m1 (t1▸id) hv λit bN bp R' L' S=>hQ it bN tk bp R' (L.trans (L'.up (zero_le _))) S
 .clear hm;cases q2;refine h p q1 λx h' tk g' R L hv=>?_;exact Me (s:={s with heap:=h',toks:=tk}) R (p.ok.mono L) L.top hv λit bN bp R' L' S=>hQ it bN tk bp R' (L.trans (L'.up (zero_le _))) S
noncomputable def DK.val:DK->V
 |.int i=>.int i
 |.str s=>.str s
def iT(m:ME):ML:=ay m λv _ ms=>match v with
 |.ref i=>match ms[i]? with
  |some (.dict es)=>some (es.map λe=>e.1.val,ms)
  |_=>none
 |_=>none
theorem Lg(h:tV (ki k) v=true):aA g k.val v:=by
 rcases oU h with hr|hr
 .obtain⟨i,t,e,rfl⟩:=hr;cases k<;>cases e;exact .int _ _
 .obtain⟨x,t,e,rfl⟩:=hr;cases k<;>cases e;exact .str _ _
theorem d6.O2(r:d6 g es kvs):∀{j:Nat} {k:KI} {x:Value} {e:DK×V},kvs[j]?=some (k,x)->es[j]?=some e->k=ki e.1/\aA g e.2 x:=by
 induction r with
 |nil=>exact λh=>nomatch h
 |cons a b ih=>
  intro j k x e h h';cases j with
  |zero=>cases h;cases h';exact⟨rfl,a⟩
  |succ j=>exact ih h h'
set_option tactic.hygienic true in
theorem Nr(fY:μ<=1)(h:aQ sc n μ e m):jL sc n μ false e (iT m):=by
 intro A J g ms s l E Q p vs ms' hm hQ;refine bY hm λv aF q1 q2=>?_;revert q1;apply uw q2;intro i q2 q1;refine uv q2 λes hi q2=>?_;clear hm;cases q2;refine h p q1 λx h' tk g' R L hv=>?_;apply aA.rK hv;intro a ha;have iX:∃o kvs,(a,o)∈g'.news/\g'.tag a=.obj i ""/\d6 g' es kvs/\o.IsDictOf (gN) kvs:=by refine aY (R.objs i _ hi) λa' e t q=>?_;rw[ha]at e;cases e;refine iz q λo kvs h1 h2 h3 _=>?_;exact kQ o kvs h1 t h3 h2
 refine iz iX λo kvs md td dr hd=>?_;have hD:h'.DictOf (gN) a kvs:=Heap.dictOf_iff.mpr ⟨o,R.led _ _ md,hd⟩;refine cW hD.dictAt λep hA=>?_;refine wpAny_pyIter_dict (s:={s with heap:=h',toks:=tk}) (R.tB md (by rw[td];exact λz4=>fB.noConfusion z4)) hA ?_;refine jo (R.new {cls:=.type "dict_keyiterator",data:=.fields #[.ref a,.int 0 0,.int kvs.length 0,.int ep 0]} .free rfl) λR' L' m' t' tp=>?_;have hk:=L'.keep _ _ md (by rw[td];rintro(q|⟨q,_⟩)<;>omega) id;have gB:a≠h'.objs.size:=ne_of_lt (R.lt md);have kc:=p.ok.mono L;have nt:¬Wr μ (g'.tag a):=by
  rw[td];rintro(q|⟨_,q⟩)
  .omega
  .exact absurd q (by decide)
 refine hQ _ _ _ _ R' (L.trans (L'.up (zero_le _))) (.walks (λA hA=>Walks.dictKeys (knd:=gN) hA h'.objs.size a gB kvs ep) (λi h st=>?_) (λq=>by exact Bool.noConfusion q)
  ⟨dP (.head _) iW,?_,?_⟩ (i:=0) ⟨⟨_,R'.led _ _ m',rfl,rfl⟩,?_⟩ (by simp[dr.length]) λj v x e p=>?_)
 .exact dP (az st.1 λo ho _=>⟨o,ho⟩) iW
 .exact dP ⟨_,m',by rw[t'];exact id,oW R kc (le_refl _)⟩ (dP ⟨_,hk.1,by rw[hk.2];exact nt,Ks kc (by rw[td];exact λz4=>fB.noConfusion z4)⟩ iW)
 .exact dP ⟨t',le_trans L.top tp⟩ iW
 .exact hA.at' λo' bP=>Heap.get?_push_of_some _ bP
 .refine fH p λk y hy TP=>?_;simp only[Nat.zero_add]at hy;simp only[getElem?_map,map_eq_some_iff]at e;refine az e λen TQ bL=>?_;clear e;subst bL;refine bT ((dr.mono L' (cx _)).O2 hy TQ) λjF _=>?_;clear hy;subst jF;exact Lg TP
end
end
section
section
variable{sc:Scope}{n μ:Nat}
noncomputable def rN(xs:List V):List V:=xs.zipIdx.map λp=>V.tup [.int (Int.ofNat p.2),p.1]
def lN(m:ME):ML:=ay m λv _ ms=>match v with
 |.lst xs=>some (rN xs,ms)
 |_=>none
set_option tactic.hygienic true in
theorem Nt(h:aQ sc n μ e m)(hi:gh B.K "enumerate" (.type "enumerate"))(hx:sc.names.lookup (ofString "enumerate")=some .globalImplicit)
 (he:∀J,starEach [e] J=(false,eval e J)::starEach [] J)(cH:∀J,(backTo pos (starEach [e] J)).any (·.1)=false):
 jL sc n μ true (.Call (.Name (ofString "enumerate") px) [e] [] pos) (lN m):=by
 intro A J g ms s l E Q p vs ms' hm;apply fh hm;intro P go vs ms' hm;refine bY hm λv aF q1 q2=>?_;cases v<;>try(exact aX q2)
 rename_i xs;refine eZ q2 (go _ _ λhQ=>?_);refine wpAny_Call_NameR (jI p hx hi.miss hi.boot hi.no hi.jS ?_);refine PyProof.Rows.callWith_type (cH J) (jY (cH J) ?_);refine args_cons (h p q1 λx h' tk g' R L vr=>?_) (he J);refine args_nil ?_;apply aA.lK vr;intro a items c m1 t1 hv;have kc:=p.ok.mono L;have hl:h'.IsList a items.toArray:=⟨_,R.led _ _ m1,rfl,c,rfl⟩;refine call_enumerate_list (s:={s with heap:=h',toks:=tk}) hl λcu he hit fZ hk=>?_;have he:IsEnum cu (h'.objs.size+1) h'.objs.size 0 .none:=he;have hit:cu.IsListIter h'.objs.size a 0:=hit;have m5:(a:Nat)<h'.objs.size:=R.lt m1;have e1:∃o,cu.get? h'.objs.size=some o:=let⟨o,q,_⟩:=hit;⟨o,q⟩;refine aY (R.news (h':=cu) hk (by show h'.objs.size<=cu.objs.size;rw[show cu.objs.size=h'.objs.size+2 from fZ];exact le_add_right _ _) [h'.objs.size+1,h'.objs.size] (dP ⟨le_succ _,_,he⟩ (dP ⟨le_refl _,e1⟩ iW))) λda bS bx nE=>?_;have qL:=bx.keep _ _ m1 (t1▸id) id;have tp:g.top<=h'.objs.size:=R.top▸L.top;have n1:h'.objs.size+1≠h'.objs.size:=by omega
 have n2:a≠h'.objs.size+1:=ne_of_lt (Nat.lt_succ_of_lt m5);have n3:a≠h'.objs.size:=ne_of_lt m5;show wpAny _ _ (pyIter (.ref (h'.objs.size+1))) _ _ _;refine wpAny_pyIter_enum (i:=0) he ?_;refine hQ _ _ _ _ bS (L.trans (bx.up (zero_le _))) (.kK rfl (λA hA=>WalksT.enumerate hA (h'.objs.size+1) h'.objs.size a n1 n2 n3 items.toArray) (λi h st=>?_) (λi T h st=>?_)
  ⟨dP (.head _) (dP (.tail _ (.head _)) iW),?_,?_⟩ (i:=0) ⟨⟨_,he⟩,hit,⟨_,bS.led _ _ qL.1,rfl,c,rfl⟩⟩ (by simp[rN,hv.length]) λj v us e p=>?_)
 .refine fm st λly Ce _=>?_;obtain⟨old,q1⟩:=ly;obtain⟨o,q2,_⟩:=Ce;exact dP ⟨_,q1⟩ (dP ⟨_,q2⟩ iW)
 .refine fm st λly Ce _=>?_;obtain⟨old,q1⟩:=ly;obtain⟨o,q2,_⟩:=Ce;exact dP ⟨_,q1⟩ (dP ⟨_,q2⟩ iW)
 .have new:∀b,b∈[h'.objs.size+1,h'.objs.size]->h'.objs.size<=b->∃o,(b,o)∈da.news/\¬Wr μ (da.tag b)/\¬fF J b:=λb hb hle=>by refine aY (nE b hb) λo q1 q2 _=>?_;exact cA o q1 (q2▸id) (oW R kc hle)
  exact dP (new _ (.head _) (le_succ _)) (dP (new _ (.tail _ (.head _)) (le_refl _)) (dP ⟨_,qL.1,by rw[qL.2,t1];exact id,vX R kc m1⟩ iW))
 .have new:∀b,b∈[h'.objs.size+1,h'.objs.size]->h'.objs.size<=b->da.tag b=.free/\g.top<=b:=λb hb hle=>by refine aY (nE b hb) λo q1 q2 _=>?_;exact⟨q2,le_trans tp hle⟩
  exact dP (new _ (.head _) (le_succ _)) (dP (new _ (.tail _ (.head _)) (le_refl _)) iW)
 .refine fH p λt x hx gI=>?_;clear p;subst gI;simp only[rN,getElem?_map,List.getElem?_zipIdx,Option.map_map,map_eq_some_iff,Function.comp]at e;refine az e λy hy bL=>?_;clear e;subst bL;refine az ((hv.mono bx (cx _)).get hy) λx' pC hr=>?_;simp at hx;rw[pC]at hx;clear pC;cases hx;exact a0 _ rfl (.cons (.int _ _) (.cons hr .nil))
noncomputable def uH(xs ys:List V):List V:=(xs.zip ys).map λp=>V.tup [p.1,p.2]
end
end
section
noncomputable def iY(scope sc:Scope):Scope:={scope with names:=scope.names.map λ(n,k)=>if(k==.free&&sc.kind==.function&&sc.names.lookup n==some .cell)then(n,.cell)else(n,k)}
noncomputable def lZ(cells:List (Str×Addr)):List (Str×NameKind)->List (Str×Addr)->List (Str×Addr)
 |[],acc=>acc
 |(x,k)::r,acc=>lZ cells r (if k==.free then(x,(cells.lookup x).getD 0)::acc else acc)
theorem Jw(h:∀x∈scope.names,x.2=.free->(J.cells.lookup x.1).isSome):closureFor scope J=pure (lZ J.cells scope.names []):=by
 have go:∀(names:List (Str×NameKind)) (acc:List (Str×Addr)),(∀x∈names,x.2=.free->(J.cells.lookup x.1).isSome)->
  (forIn names acc λ(x:Str×NameKind) cs=>if(x.2==NameKind.free)=true then do let a<-cellOf J x.1;pure (ForInStep.yield ((x.1,a)::cs))else pure (ForInStep.yield cs))=(pure (lZ J.cells names acc):Sem _):=by
  intro names;induction names with
  |nil=>intro acc _;rfl
  |cons x r ih=>
   intro acc hx;obtain⟨y,k⟩:=x;rw[List.forIn_cons];unfold lZ;by_cases hk:k=.free
   .subst hk;obtain⟨c,hc⟩:=Option.isSome_iff_exists.mp (hx _ (.head _) rfl);have:cellOf J y=pure c:=by unfold cellOf;rw[hc]
    simp only[beq_self_eq_true,if_true,this,hc,Option.getD_some];exact ih _ λz hz=>hx z (.tail _ hz)
   .have hb:(k==NameKind.free)=false:=by simpa using hk
    simp only[hb,Bool.false_eq_true,if_false];exact ih _ λz hz=>hx z (.tail _ hz)
 exact congrArg (·>>=pure) (go scope.names [] h)|>.trans rfl
theorem ED:∀(names:List (Str×NameKind)) (acc:List (Str×Addr)) {x:Str} {c:Addr},(lZ cells names acc).lookup x=some c->((x,.free)∈names/\c=(cells.lookup x).getD 0)\/acc.lookup x=some c
 |[],acc,x,c,h=>.inr h
 |(y,k)::r,acc,x,c,h=>by
  rcases ED r _ h with q|q
  .exact .inl ⟨.tail _ q.1,q.2⟩
  .split at q
   .rename_i hk;rw[lookup_cons]at q;split at q
    .rename_i hx;apply gg q;have:x=y:=beq_iff_eq.mp hx;clear h hx q;subst this;have:k=.free:=by simpa using hk
     clear hk;subst this;exact .inl ⟨.head _,rfl⟩
    .exact .inr q
   .exact .inr q
theorem D8:∀(names:List (Str×NameKind)) (acc:List (Str×Addr)) (x:Str),(acc.lookup x).isSome->((lZ cells names acc).lookup x).isSome
 |[],_,_,h=>h
 |(y,k)::r,acc,x,h=>by
  refine D8 r _ x ?_;split
  .rw[lookup_cons];split
   .rfl
   .exact h
  .exact h
theorem zz:∀(names:List (Str×NameKind)) (acc:List (Str×Addr)) (x:Str),(x,.free)∈names->((lZ cells names acc).lookup x).isSome
 |(y,k)::r,acc,x,h=>by
  rcases mem_cons.mp h with e|h
  .clear h;cases e;refine D8 r _ _ ?_;simp[lookup_cons]
  .exact zz r _ x h
section
variable{sc:Scope}{n μ:Nat}
theorem zj{E:Value->Shared->Prop}{Q:Unit->Shared->Prop}(p:fK sc n A J g ms s.heap l)(hv:aA g v y)
 (hk:sc.names.lookup (ofString x)=some .local)
 (hQ:∀h' tk g',aJ g' ms h'->Le μ (·=J.locals) g g'->hJ g' J->k7 g' J (l.set x v)->Q () {s with heap:=h',toks:=tk}):wpAny (model prog w) A (storeName J (ofString x) y) Q E s:=by
 have xW:=p.ok.kind;have fw:J.kindOf (ofString x)=some .local:=by unfold Env.kindOf;rw[p.sc];exact hk
 refine hU p.ok.loc λo es ep hm ht hd uZ=>?_;refine wpAny_storeName_local fw ⟨o,es,ep,p.rel.led _ _ hm,hd,uZ,λ_=>rfl⟩ (λh' hn hs=>?_) (by rw[xW];rfl);refine hU hn λo' bu nN bP gv Br qI=>?_;have R':=p.rel.th hm ht hs bP;have L':Le μ (·=J.locals) g (g.put J.locals o'):=Le.put (.inr rfl);have pq:jc (·=J.locals) g:=λa e t=>by subst e;rw[ht]at t;exact fB.noConfusion t
 refine hQ h' _ (g.put J.locals o') R' L' ⟨p.ok.kind,p.ok.glob,p.ok.blt,⟨o',bu,nN,gf.mpr (.inl ⟨rfl,rfl⟩),ht,gv,Br⟩,p.ok.apart,λz c hc=>?_,p.ok.own⟩ λz u hz=>?_
 .refine fN (p.ok.cells z c hc) λoc vc m t d=>?_;refine hG oc vc (gf.mpr (.inr ⟨m,?_⟩)) t d;clear hc t;rintro rfl;have:=p.rel.fn m hm;clear hm;subst this;rw[hd]at d;exact PySem.Data.noConfusion d
 .by_cases mW:z=x
  .clear hQ hk hn;subst mW;rw[av.jJ]at hz;apply gg hz;exact a0 y (hv.mono L' pq) (.inl ⟨fw,o',bu,nN,gf.mpr (.inl ⟨rfl,rfl⟩),gv,by rw[qI];exact if_pos rfl⟩)
  .rw[av.tG _ _ mW]at hz;refine az (p.loc z u hz) λy' r la=>?_;refine a0 y' (r.mono L' pq) ?_;rcases la with hr|hr
   .obtain⟨k,Bs,AA,AB,m,d,f⟩:=hr;have:=p.rel.fn m hm;clear hm;subst this;rw[hd]at d;cases d;exact .inl ⟨k,o',bu,nN,gf.mpr (.inl ⟨rfl,rfl⟩),gv,by rw[qI];exact(if_neg (λe=>mW (oR e))).trans f⟩
   .obtain⟨k,c,oc,hc,m,d⟩:=hr;refine .inr ⟨k,c,oc,hc,gf.mpr (.inr ⟨m,?_⟩),d⟩;clear hc;rintro rfl;have:=p.rel.fn m hm;clear hm;subst this;rw[hd]at d;exact PySem.Data.noConfusion d
inductive l7(sc:Scope):Bool->Expr->(V->av->Option av)->Prop where
 |name {x:String} {px:Pos} (hk:sc.names.lookup (ofString x)=some .local):l7 sc false (.Name (ofString x) px) (λv l=>some (l.set x v))
 |pair {a b:String} {pa pb:Pos} {k:Nat} {pos:Pos} (ha:sc.names.lookup (ofString a)=some .local) (hb:sc.names.lookup (ofString b)=some .local):
  l7 sc true (.Tuple [.Name (ofString a) pa,.Name (ofString b) pb] k pos) (λv l=>match v with
   |.tup [p,q]=>some ((l.set a p).set b q)
   |_=>none)
def iJ(J:Env)(D:Addr):Addr->Prop:=λa=>fF J a\/a=D
structure lz(J:Env)(D lo:Nat)(xs:List V)(g:G):Prop where
 at_:∃items c,(D,cG items c)∈g.news/\bD g xs items
 free:g.tag D=.free
 no:¬fF J D
 lo:lo<=D
theorem lz.off{D lo:Nat}(a:lz J D lo xs g)(ok:hJ g J):jc (iJ J D) g:=by
 rintro b (q|rfl)
 .exact ok.off b q
 .rw[a.free];exact λz4=>fB.noConfusion z4
theorem lz.mono{D lo:Nat}{ex:Addr->Prop}(a:lz J D lo xs g)(L:Le μ ex g g')(hx:¬ex D)(ho:jc ex g):lz J D lo xs g':=by refine fH a.at_ λitems c m hv=>?_;have q:=L.keep _ _ m (by rw[a.free];exact id) hx;exact⟨⟨items,c,q.1,hv.mono L ho⟩,q.2.trans a.free,a.no,a.lo⟩
def Iw(J:Env)(lo μ:Nat)(g g':G):Prop:=Le μ (λa=>a=J.locals\/lo<=a) g g'
section
variable{γ:Type}{A:Around}{E E':Value->Shared->Prop}{J:Env}{s:Shared}{lo D:Nat}{it:Addr}{vs xs:List V}{g:G}{ms:Hp}{l:av}{f:Option Value->Sem γ}{k:Sem γ}{Q:γ->Shared->Prop}
structure ic(J:Env)(D lo μ:Nat)(g g':G)(h':Heap)(ms:Hp)(xs:List V)(l':av):Prop where
 rel:aJ g' ms h'
 le:Iw J lo μ g g'
 ok:hJ g' J
 loc:k7 g' J l'
 acc:lz J D lo xs g'
theorem ic.first(p:fK sc n A J g ms h l)(a:lz J D lo xs g)(R':aJ g' ms h')(L':Le 0 (ib (iJ J D) lo g) g g'):ic J D lo μ g g' h' ms xs l:=
 have xu:∀b,ib (iJ J D) lo g b->¬fF J b:=λb e q=>e.2.1 (.inl q)
 ⟨R',(L'.up (zero_le _)).weak λb e=>.inr e.1,p.ok.nv L' xu,p.loc.nv L' xu ib.off p.ok,a.mono L' (λe=>e.2.1 (.inr rfl)) ib.off⟩
theorem ic.pre(p:fK sc n A J g ms h l)(c:ic J D lo μ g g' h' ms' xs l'):fK sc n A J g' ms' h' l':=⟨p.fk,p.sc,c.ok,c.loc,c.rel⟩
theorem ic.off(c:ic J D lo μ g g' h' ms xs l'):jc (·=J.locals) g':=λb e=>c.ok.off b (.inl e)
theorem ic.step(c:ic J D lo μ g g' h' ms xs l')(R:aJ bp ms bN)(L:Le μ (·=J.locals) g' bp)(ok:hJ bp J)(lr:k7 bp J ve):ic J D lo μ g bp bN ms xs ve:=⟨R,c.le.trans (L.weak λb e=>.inl e),ok,lr,c.acc.mono L (λe=>c.acc.no (.inl e)) c.off⟩
theorem ic.iter{t:Bool}(c:ic J D lo μ g g' h' ms xs l')(S:d7 (iJ J D) lo μ t it us g' h')(R:aJ bp ms bN)(L:Le μ (·=J.locals) g' bp):d7 (iJ J D) lo μ t it us bp bN:=S.mono (L.weak λb e=>.inl (.inl e)) (c.acc.off c.ok) c.rel R
theorem ic.next(c:ic J D lo μ g g' h' ms xs l')(R:aJ bp ms' bN)(L:Le μ cC g' bp):ic J D lo μ g bp bN ms' xs l':=⟨R,c.le.trans (L.weak λ_ e=>e.elim),c.ok.mono L,c.loc.mono L c.ok,c.acc.mono L id (cx _)⟩
theorem ic.AL{t:Bool}(c:ic J D lo μ g g' h' ms xs l')(S:d7 (iJ J D) lo μ t it us g' h')(R:aJ bp ms' bN)(L:Le μ cC g' bp):d7 (iJ J D) lo μ t it us bp bN:=S.mono (L.weak λ_ e=>e.elim) (c.acc.off c.ok) c.rel R
theorem Kt(hk:sc.names.lookup (ofString x)=some .local)(p:fK sc n A J g ms s.heap l)(S:d7 (iJ J D) lo μ false it (v::vs) g s.heap)(a:lz J D lo xs g)(hf:∀y,f (some y)=(do letOwnedTupleGo (.Name (ofString x) px) (.ref it) y;assign (.Name (ofString x) px) J y;k))
 (hQ:∀h' tk g',ic J D lo μ g g' h' ms xs (l.set x v)->d7 (iJ J D) lo μ false it vs g' h'->wpAny (model prog w) A k Q E {s with heap:=h',toks:=tk}):
 wpAny (model prog w) A (pyNext (.ref it)) (λr gu=>wpAny (model prog w) A (f r) Q E gu) E' s:=by
 refine S.next p.fk.hh p.rel λx h' tk g' R' L' hv S'=>?_;rw[hf x];have c:=ic.first (μ:=μ) p a R' L';refine wpAny_bind (wpAny_pure (wpAny_bind (wpAny_assign_Name ?_)));refine zj (μ:=μ) (s:={s with heap:=h',toks:=tk}) (c.pre p) hv hk λbN b0 bp x8 jD SN SO=>?_;exact hQ bN b0 bp (c.step x8 jD SN SO) (c.iter S' x8 jD)
theorem Ku{kk:Nat}(ha:sc.names.lookup (ofString na)=some .local)(hb:sc.names.lookup (ofString nb)=some .local)(p:fK sc n A J g ms s.heap l)(S:d7 (iJ J D) lo μ true it (.tup [uE,uF]::vs) g s.heap)(a:lz J D lo xs g)
 (hf:∀y,f (some y)=(do letOwnedTupleGo (.Tuple [.Name (ofString na) pa,.Name (ofString nb) pb] kk pos) (.ref it) y;assign (.Tuple [.Name (ofString na) pa,.Name (ofString nb) pb] kk pos) J y;k))
 (hQ:∀h' tk g',ic J D lo μ g g' h' ms xs ((l.set na uE).set nb uF)->d7 (iJ J D) lo μ true it vs g' h'->wpAny (model prog w) A k Q E {s with heap:=h',toks:=tk}):
 wpAny (model prog w) A (pyNext (.ref it)) (λr gu=>wpAny (model prog w) A (f r) Q E gu) E' s:=by
 refine S.G1 p.fk.hh p.rel λT items gu kk=>?_;rw[hf];refine wpAny_bind (kk _ _ _ _ _ λh' tk g' R' L' hT hv S'=>?_);have c:=ic.first (μ:=μ) p a R' L';revert hT;apply bD.cK hv;intro x ys hx hv;apply bD.cK hv;intro y ys hy hv;apply bD.nK hv;intro hT;refine wpAny_bind ?_;refine yW (s:={s with heap:=h',toks:=tk}) p.fk.hh R' hT rfl rfl λcu da bS bx=>?_;have nF:=(c.pre p).next bx bS
 have G2:Le μ (·=J.locals) g' da:=(bx.up (zero_le μ)).weak λ_ e=>e.elim;have c₂:=c.step bS G2 nF.ok nF.loc;refine assignInOrder_cons (wpAny_assign_Name ?_);refine zj (μ:=μ) (s:={s with heap:=cu,toks:=tk}) nF (hx.mono bx (cx _)) ha λfi gP cQ dq cF QX QY=>?_;have rY:=c₂.step dq cF QX QY;refine assignInOrder_cons (wpAny_assign_Name ?_);refine zj (μ:=μ) (s:={s with heap:=fi,toks:=gP}) (rY.pre p) ((hy.mono bx (cx _)).mono cF c₂.off) hb λnD AF Bv k8 lV AM AN=>?_;refine assignInOrder_nil ?_;exact hQ _ _ _ (rY.step k8 lV AM AN) (rY.iter (c₂.iter (c.iter S' bS G2) dq cF) k8 lV)
theorem FU{t:Bool}{upd:V->av->Option av}(hT:l7 sc t tg upd)(p:fK sc n A J g ms s.heap l)
 (S:d7 (iJ J D) lo μ t it (v::vs) g s.heap)(a:lz J D lo xs g)(hu:upd v l=some l')(hf:∀x,f (some x)=(do letOwnedTupleGo tg (.ref it) x;assign tg J x;k))
 (hQ:∀h' tk g',ic J D lo μ g g' h' ms xs l'->d7 (iJ J D) lo μ t it vs g' h'->wpAny (model prog w) A k Q E {s with heap:=h',toks:=tk}):
 wpAny (model prog w) A (pyNext (.ref it)) (λr gu=>wpAny (model prog w) A (f r) Q E gu) E' s:=by
 cases hT with
 |name hk=>exact Kt hk p S a hf (Option.some.inj hu▸hQ)
 |pair ha hb=>exact HH (C:=λv=>d7 (iJ J D) lo μ true it (v::vs) g s.heap->_) hu (λuE uF hu S=>Ku ha hb p S a hf (Option.some.inj hu▸hQ)) S
end
end
end
section
section
variable{sc:Scope}{n μ:Nat}
abbrev oZ(sc:Scope)(n μ:Nat)(ifs:List Expr)(m:MB):Prop:=fE sc n μ (λJ=>forIn ifs true λc r=>if r=true then do let ok<-isTrue c J (eval c J);pure (ForInStep.yield ok)else pure (ForInStep.yield r)) m (λ_ _ b x=>b=x)
theorem Nu:oZ sc n μ [] aS:=by intro A J g ms s l E Q p r ms' hm;apply fh hm;intro P go r ms' hm;refine eZ hm (go _ _ λhQ=>?_);exact wpAny_pure (hQ _ _ _ g p.rel (.refl _ _ _) rfl)
theorem Nv(h:hK sc n μ c m):oZ sc n μ [c] m:=by intro A J g ms s l E Q p r ms' hm hQ;show wpAny _ _ (forIn [c] true _) _ _ _;rw[List.forIn_cons];rw[if_pos rfl];refine wpAny_bind (wpAny_bind (h p hm λx h' tk g' R L v=>wpAny_pure ?_));exact wpAny_pure (hQ _ _ _ g' R L v)
noncomputable def ja(upd:V->av->Option av)(c:MB)(e:ME):List V->av->Hp->List V->Option (List V×Hp)
 |[],_,ms,acc=>if acc.length<=1000 then some (acc,ms)else none
 |v::vs,l,ms,acc=>match upd v l with
  |some l'=>match c l' ms with
   |some (true,ms')=>match e l' ms' with
    |some (x,uz)=>if acc.length<=1000 then ja upd c e vs l' uz (acc++[x])else none
    |none=>none
   |some (false,ms')=>ja upd c e vs l' ms' acc
   |none=>none
  |none=>none
theorem Lh{upd:V->av->Option av}{vs xs:List V}{C:Prop}(h:ja upd c e (v::vs) l ms xs=some r)
 (kT:∀il aF x cf,upd v l=some il->c il ms=some (true,aF)->e il aF=some (x,cf)->xs.length<=1000->ja upd c e vs il cf (xs++[x])=some r->C)
 (kF:∀il aF,upd v l=some il->c il ms=some (false,aF)->ja upd c e vs il aF xs=some r->C):C:=by
 unfold ja at h;cases e1:upd v l with
 |none=>rw[e1]at h;exact aX h
 |some il=>
  rw[e1]at h;dsimp only at h;cases e2:c il ms with
  |none=>rw[e2]at h;exact aX h
  |some q=>
   obtain⟨b,aF⟩:=q;rw[e2]at h;cases b with
   |false=>exact kF il aF e1 e2 h
   |true=>
    dsimp only at h;cases e3:e il aF with
    |none=>rw[e3]at h;exact aX h
    |some q=>rw[e3]at h;dsimp only at h;exact kr h λhz h=>kT il aF _ _ e1 e2 e3 hz h
theorem ic.grow{D lo:Nat}{xs:List V}{items:List Value}{cn:Nat}(c:ic J D lo μ g cQ fi ms xs il)(pw:(D,cG items cn)∈cQ.news)(gW:bD cQ xs items)(hv:aA cQ x y)(tY:Heap.SameBut D fi nD)(tZ:nD.get? D=some (cG (items++[y]) (cn+1))):
 ic J D lo μ g (cQ.put D (cG (items++[y]) (cn+1))) nD ms (xs++[x]) il/\∀{t:Bool} {it:Addr} {us:List V},d7 (iJ J D) lo μ t it us cQ fi->d7 (iJ J D) lo μ t it us (cQ.put D (cG (items++[y]) (cn+1))) nD:=by
 have k8:=c.rel.th pw c.acc.free tY tZ;have lV:Le μ (·=D) cQ (cQ.put D (cG (items++[y]) (cn+1))):=Le.put (.inr rfl);have rZ:jc (·=D) cQ:=λb e t=>by rw[show b=D from e,c.acc.free]at t;exact fB.noConfusion t
 have vf:∀b,b=D->¬fF J b:=λb e q=>c.acc.no (e▸q);exact⟨⟨k8,c.le.trans (lV.weak λb e=>.inr (e▸c.acc.lo)),c.ok.nv lV vf,c.loc.nv lV vf rZ c.ok,⟨⟨_,_,gf.mpr (.inl ⟨rfl,rfl⟩),(gW.append (.cons hv .nil)).mono lV rZ⟩,c.acc.free,c.acc.no,c.acc.lo⟩⟩,λS=>S.mono (lV.weak λ_ e=>.inr e) (c.acc.off c.ok) c.rel k8⟩
set_option tactic.hygienic true in
theorem zk{t:Bool}{upd:V->av->Option av}{lo D:Nat}(hT:l7 sc t tg upd)(hc:oZ sc n μ ifs c)(he:aQ sc n μ elt e):∀(vs:List V) {A:Around} {J:Env} {g:G} {ms:Hp} {s:Shared} {l:av} {xs:List V} {R:Result->Shared->Prop},
 fK sc n A J g ms s.heap l->d7 (iJ J D) lo μ t it vs g s.heap->lz J D lo xs g->∀{ys:List V} {ms':Hp},ja upd c e vs l ms xs=some (ys,ms')->
 (∀h' tk g',aJ g' ms' h'->Iw J lo μ g g'->hJ g' J->lz J D lo ys g'->ys.length<=1000->R (.ok .next) {s with heap:=h',toks:=tk})->
 codeAny (model prog w) A (.compLoop (.ListComp elt [⟨tg,iter,ifs,0⟩] scope pos) 0 (.ref it) (.ref D) J) R s
 |[],A,J,g,ms,s,l,xs,R,p,S,a,ys,ms',hm,hQ=>by refine bT (jw (vs:=xs) (ms:=ms) (ms':=ms) hm) λhz hm=>?_;cases hm;refine codeAny_of_tree ?_;rw[Around.under_of_weight (c:=.compLoop (.ListComp elt [⟨tg,iter,ifs,0⟩] scope pos) 0 (.ref it) (.ref D) J) rfl];show wpAny _ _ ((compTurn (.ListComp elt [⟨tg,iter,ifs,0⟩] scope pos) 0 (.ref it) (.ref D) J).onRaise _) _ _ _;refine wpAny_onRaise ?_;rw[compTurn_list];refine wpAny_bind (wpAny_standAt (wpAny_bind ?_));refine S.done p.fk.hh p.rel λh' tk g' R' L'=>?_;have xu:∀b,ib (iJ J D) lo g b->¬fF J b:=λb e q=>e.2.1 (.inl q);have TR:¬ib (iJ J D) lo g D:=λe=>e.2.1 (.inr rfl);refine wpAny_pure ?_;exact hQ _ _ _ R' ((L'.up (zero_le _)).weak λb e=>.inr e.1) (p.ok.nv L' xu) (a.mono L' TR ib.off) hz
 |v::vs,A,J,g,ms,s,l,xs,R,p,S,a,ys,ms',hm,hQ=>by
  refine codeAny_of_tree ?_;rw[Around.under_of_weight (c:=.compLoop (.ListComp elt [⟨tg,iter,ifs,0⟩] scope pos) 0 (.ref it) (.ref D) J) rfl];show wpAny _ _ ((compTurn (.ListComp elt [⟨tg,iter,ifs,0⟩] scope pos) 0 (.ref it) (.ref D) J).onRaise _) _ _ _;refine wpAny_onRaise ?_;rw[compTurn_list];refine wpAny_bind (wpAny_standAt (wpAny_bind ?_));refine Lh hm (λil aF x cf e1 e2 e3 hz hm=>?_) λil aF e1 e2 hm=>?_
  .refine FU hT p S a e1 (λ_=>rfl) λcZ g6 gS c₁ nG=>?_;refine wpAny_bind (hc (s:={s with heap:=cZ,toks:=g6}) (c₁.pre p) e2 λb cu hO da bS bx hb=>?_);subst hb;have uG:=c₁.AL nG bS bx;have c₂:=c₁.next bS bx;refine wpAny_bind (wpAny_bind (he (s:={s with heap:=cu,toks:=hO}) (c₂.pre p) e3 λy fi gP cQ dq cF hv=>?_));have By:=c₂.AL uG dq cF;have rY:=c₂.next dq cF;refine fH rY.acc.at_ λitems cn pw gW=>?_;refine wpAny_bind (append_at (s:={s with heap:=fi,toks:=gP}) (dq.led _ _ pw) (λnD tY tZ=>?_) (by rw[size_toArray,gW.length,sizeLine_eq];omega));refine wpAny_pure (wpAny_pure ⟨rfl,?_⟩);refine bT (rY.grow pw gW hv tY (by simpa using tZ)) λBz xv=>?_;exact zk hT hc he vs (s:={s with heap:=nD,toks:=gP}) (Bz.pre p) (xv By) Bz.acc hm λBA AO BB BC BD AP BE AQ=>hQ BA AO BB BC (Bz.le.trans BD) AP BE AQ
  .refine FU hT p S a e1 (λ_=>rfl) λcZ g6 gS c₁ nG=>?_;refine wpAny_bind (hc (s:={s with heap:=cZ,toks:=g6}) (c₁.pre p) e2 λb cu hO da bS bx hb=>?_);subst hb;have c₂:=c₁.next bS bx;refine wpAny_pure ⟨rfl,?_⟩;exact zk hT hc he vs (s:={s with heap:=cu,toks:=hO}) (c₂.pre p) (c₁.AL nG bS bx) c₂.acc hm λBA AO BB BC BD AP BE AQ=>hQ BA AO BB BC (c₂.le.trans BD) AP BE AQ
end
end
section
noncomputable def iL(gV:List String)(l:av):av:=λx=>if x∈gV then l x else none
structure tI(scope sc:Scope)(gV:List String):Prop where
 kind:scope.kind=.function
 names:∀x∈scope.names,x.2=.local->scope.names.lookup x.1=some .local
 cell:∀y∈scope.names,y.2≠.cell
 free:∀x∈scope.names,x.2=.free->sc.names.lookup x.1=some .cell
 gV:∀x∈gV,(ofString x,NameKind.free)∈scope.names/\sc.names.lookup (ofString x)=some .cell/\(iY scope sc).names.lookup (ofString x)=some .cell
theorem Mf(hc:∀y∈scope.names,y.2≠.cell)(h:(iY scope sc).names.lookup x=some .cell):(x,NameKind.free)∈scope.names:=by
 have m:=mem_of_lookup h;refine az (mem_map.mp m) λly hy e=>?_;obtain⟨y,k⟩:=ly;dsimp only at e;split at e
 .rename_i q;cases e;have:k=.free:=by simp only[Bool.and_eq_true,beq_iff_eq]at q;exact q.1.1
  clear q;subst this;exact hy
 .cases e;exact absurd rfl (hc _ hy)
section
variable{sc:Scope}{n μ:Nat}
theorem d7.QZ{own:Addr->Prop}{lo:Nat}{t:Bool}(S:d7 own lo μ t it vs g h)(L:Le μ cC g g')(R:aJ g ms h)(R':aJ g' ms' h'):d7 own lo μ t it vs g' h':=by
 have L':Le μ own g g':=L.weak λ_ e=>e.elim;cases S with
 |walks W ex go c st hn items=>exact .walks W ex go (c.mono L') ((W {handled:=none,depth:=0,frames:=none,guards:=none,units:=0} rfl).frame _ _ _ st (c.same L' R R')) hn λj v x e p=>(items j v x e p).mono L (cx _)
 |kK ht W ex nQ c st hn items=>exact .kK ht W ex nQ (c.mono L') ((W {handled:=none,depth:=0,frames:=none,guards:=none,units:=0} rfl).frame _ _ _ st (c.same L' R R')) hn λj v x e p=>(items j v x e p).imp λmZ q=>⟨q.1,q.2.mono L (cx _)⟩
def cM(bU:ML)(gV:List String)(upd:V->av->Option av)(c:MB)(e:ME):ML:=λl ms=>match bU l ms with
 |some (vs,ms')=>ja upd c e vs (iL gV l) ms' []
 |none=>none
theorem EE{t:Bool}{tg iter elt:Expr}{ifs:List Expr}{scope:Scope}{pos pos':Pos}{gV:List String}{upd:V->av->Option av}{bU:ML}{c:MB}{e:ME}(ok:tI scope sc gV)(hi:jL sc n μ t iter bU)(hT:l7 (iY scope sc) t tg upd)
 (hc:oZ (iY scope sc) n μ ifs c)(he:aQ (iY scope sc) n μ elt e)(hs:∀J x,foldedSetIterable iter J x=pure x)
 {A:Around}{J:Env}{g:G}{ms ms':Hp}{s:Shared}{l:av}{E:Value->Shared->Prop}{use:Option (Value->Sem Unit)}{Q:Value->Shared->Prop}{ys:List V}(p:fK sc n A J g ms s.heap l)(hm:cM bU gV upd c e l ms=some (ys,ms'))
 (hQ:∀D C h' tk g',aJ g' ms' h'->Le μ cC g g'->LP g g' ys (.ref D)->g.top<=C->C≠D->(∃o es ep,(C,o)∈g'.news/\g'.tag C=.free/\o.data=.dict es ep/\StrKeys es)->compPost (model prog w) A E use Q (.ref D) C (.ok .next) {s with heap:=h',toks:=tk}):
 wpAny (model prog w) A (comprehension (.ListComp elt [⟨tg,iter,ifs,0⟩] scope pos) scope J pos' (newList []) false (eval iter J) use) Q E s:=by
 unfold cM at hm;refine xa hm λvs aF e1 hm=>?_;have Q0:closureFor scope J=pure (lZ J.cells scope.names []):=Jw λx hx hf=>p.ok.own _ (by unfold Env.kindOf;rw[p.sc];exact ok.free x hx hf);have uI:∀{x a},(lZ J.cells scope.names []).lookup x=some a->J.cells.lookup x=some a:=λ{x a} h=>by
  rcases ED _ _ h with hr|q
  .refine bT hr λq1 q2=>?_;refine cW (Option.isSome_iff_exists.mp (p.ok.own x (by unfold Env.kindOf;rw[p.sc];exact ok.free (x,.free) q1 rfl))) λc' oD=>?_;rw[oD]at q2;rw[oD,q2];rfl
  .exact aX q
 refine wpAny_comprehension_free (cl:=lZ J.cells scope.names []) rfl (hs J) Q0 ok.kind ok.names ?_;refine hi p e1 λit cZ g6 gS fJ dG nG=>?_;refine jo (fJ.new (cG [] 0) .free rfl) λbS bx m₂ jC xc=>?_;refine wpAny_newObj_type ?_ (by show 0<=sizeLine;exact zero_le _);refine wpAny_newFunctionEnv ok.cell (by intro y hy;cases hy) (λfi ll nO=>?_) ok.kind;have fZ:(cZ.push (cG [] 0)).objs.size=cZ.objs.size+1:=Heap.size_push ..;have dq:=bS.push {cls:=.type "dict",data:=.dict #[]} .free rfl;have cF:Le 0 cC (gS.add cZ.objs.size (cG [] 0) .free) ((gS.add cZ.objs.size (cG [] 0) .free).add (cZ.push (cG [] 0)).objs.size {cls:=.type "dict",data:=.dict #[]} .free):=Le.add (bS.next);refine hU (id ll) λoC TS TU sm TV TX WS=>?_;generalize Cf:(cZ.push (cG [] 0)).objs.size=C at dq cF ll nO sm;have sm:fi.get? C=some oC:=Cf▸sm;have nO:Heap.SameBut C ((cZ.push (cG [] 0)).push {cls:=.type "dict",data:=.dict #[]}) fi:=nO;generalize AR:(gS.add cZ.objs.size (cG [] 0) .free).add C {cls:=.type "dict",data:=.dict #[]} .free=cQ at dq cF;have mC:(C,({cls:=.type "dict",data:=.dict #[]}:Obj))∈cQ.news:=AR▸(.head _);have tC:cQ.tag C=.free:=by rw[<-AR];exact if_pos rfl
 have k8:=dq.th mC tC nO sm;have so:C=cZ.objs.size+1:=by rw[<-Cf,fZ]
 have Nw:Le 0 cC gS cQ:=bx.trans cF;have sq:∀o,(C,o)∉gS.news:=λo m=>by have:C<cZ.objs.size:=fJ.lt m;rw[so]at this;exact absurd this (Nat.not_lt.mpr (le_succ _))
 have Fd:Le 0 cC gS (cQ.put C oC):=by have q:=(Nw.weak (ex':=(·=C)) λ_ e=>e.elim).trans (Le.put (.inr rfl):Le 0 (·=C) cQ (cQ.put C oC));exact⟨λa o m t _=>q.keep a o m t (λe=>by clear k8 so Cf AR ll sm nO mC q tC;clear sm nO;subst e;exact sq _ m),q.dm,q.top⟩
 have zM:Le μ cC g (cQ.put C oC):=dG.trans (Fd.up (zero_le _));have BF:cZ.objs.size≠C:=by rw[so];exact ne_of_lt (Nat.lt_succ_self _)
 have mD:(cZ.objs.size,cG [] 0)∈(cQ.put C oC).news/\(cQ.put C oC).tag cZ.objs.size=.free:=by have q:=cF.keep _ _ m₂ (jC.symm▸id) id;exact⟨gf.mpr (.inr ⟨q.1,BF⟩),q.2.trans jC⟩
 have Q1:=p.ok.mono dG;have AM:=p.ok.mono zM;have AN:=p.loc.mono zM p.ok;have tp:g.top<=cZ.objs.size:=fJ.top▸dG.top;generalize su:({newEnv scope C J.globals (lZ J.cells scope.names []) J.qual none .none (some J) builtinsNs with scope:=relabel scope J}:Env)=ky;have r6:ky.locals=C:=by rw[<-su];rfl
 have r7:ky.cells=lZ J.cells scope.names []:=by rw[<-su];rfl
 have xw:ky.scope=iY scope sc:=by rw[<-su,<-p.sc];rfl
 have Cg:∀x,ky.kindOf x=(iY scope sc).names.lookup x:=λx=>by unfold Env.kindOf;rw[xw]
 have BG:∀a,fF ky a->fF J a\/a=C:=by
  rintro a (q|⟨x,hx⟩)
  .exact .inr (q.trans r6)
  .rw[r7]at hx;exact .inl (.inr ⟨x,uI hx⟩)
 have pD:hJ (cQ.put C oC) ky:=by
  refine⟨xw▸ok.kind,su▸p.ok.glob,su▸p.ok.blt,?_,?_,?_,?_⟩
  .exact kn oC TS TU (by rw[r6];exact gf.mpr (.inl ⟨rfl,rfl⟩)) (r6▸tC) TV TX
  .intro x y a hx hy;rw[r7]at hx hy;exact p.ok.apart x y a (uI hx) (uI hy)
  .intro x a hx;rw[r7]at hx;exact AM.cells x a (uI hx)
  .intro x hx;rw[Cg]at hx;rw[r7];exact zz _ _ _ (Mf ok.cell hx)
 have Iy:k7 (cQ.put C oC) ky (iL gV l):=by
  intro x v hv;unfold iL at hv;split at hv
  .rename_i hx;refine az (AN x v hv) λy hy la=>?_;refine fm (ok.gV x hx) λq1 q2 q3=>?_;refine a0 y hy (.inr ⟨.inl (by rw[Cg];exact q3),?_⟩);rcases la with hr|hr
   .refine bT hr λk _=>?_;unfold Env.kindOf at k;rw[p.sc,q2]at k;cases k
   .obtain⟨_,a,o,hc,m,d⟩:=hr;refine hG a o ?_ m d;rw[r7];refine cW (Option.isSome_iff_exists.mp (zz (cells:=J.cells) scope.names [] _ q1)) λa' jt=>?_;rw[jt];have:=uI jt;rw[hc]at this;rw[this]
  .exact aX hv
 have pc:fK (iY scope sc) n A ky (cQ.put C oC) aF fi (iL gV l):=⟨p.fk,xw,pD,Iy,k8⟩;have vf:¬fF ky cZ.objs.size:=λq=>by
  rcases BG _ q with q|q
  .exact oW fJ Q1 (le_refl _) q
  .exact BF q
 have xv:d7 (iJ ky cZ.objs.size) g.top μ t it vs (cQ.put C oC) fi:=by
  refine(nG.QU fJ (own':=iJ ky cZ.objs.size) ?_).QZ (Fd.up (zero_le _)) fJ k8;rintro a (q|rfl)
  .rcases BG a q with q|q
   .exact .inl q
   .exact .inr (by rw[q,so];exact le_succ _)
  .exact .inr (le_refl _)
 have HJ:lz ky cZ.objs.size g.top [] (cQ.put C oC):=⟨⟨[],0,mD.1,.nil⟩,mD.2,vf,tp⟩;have fin:∀tk,codeAny (model prog w) A (.compLoop (.ListComp elt [⟨tg,iter,ifs,0⟩] scope pos) 0 (.ref it) (.ref cZ.objs.size) ky) (compPost (model prog w) A E use Q (.ref cZ.objs.size) C) {s with heap:=fi,toks:=tk}:=λtk=>by
  refine zk hT hc he vs (s:={s with heap:=fi,toks:=tk}) pc xv HJ hm λh' b0 g' R' L' kc a' hz=>?_;have LL:Le μ cC g g':=by
   have q:=(zM.weak (ex':=λa=>a=ky.locals\/g.top<=a) λ_ e=>e.elim).trans L';refine⟨λa o m t _=>q.keep a o m t ?_,q.dm,q.top⟩;have lt:a<g.top:=p.rel.top▸(p.rel.lt m);rintro(e|e)
   .rw[e,r6,so]at lt;exact absurd lt (Nat.not_lt.mpr (Nat.le_succ_of_le tp))
   .exact absurd lt (Nat.not_lt.mpr e)
  refine fH a'.at_ λitems cn TY hv=>?_;refine hQ _ C h' b0 g' R' LL ⟨_,items,cn,rfl,TY,a'.free,hv,hz,tp⟩ (so▸(Nat.le_succ_of_le tp)) (Ne.symm BF) ?_;refine hU kc.loc λo es ep q1 q2 q3 q4=>?_;rw[r6]at q1 q2;exact kn o es ep q1 q2 q3 q4
 have SP:=fin;clear HJ r7 Cg r6 xw SP Iy vf pD BG pc;subst su;refine codeAny_compStart_list ?_ ?_
 .exact fin _
 .exact xv.self p.fk.hh (fin _)
end
end
section
section
variable{sc:Scope}{n μ:Nat}
theorem aJ.letGo(R:aJ g ms h)(m:(C,o)∈g.news)(t:g.tag C=.free)(hs:Heap.SameBut C h h'):
 aJ (g.re [C] h') ms h'/\Le 0 (·=C) g (g.re [C] h'):=by
 refine bT (R.re (wr:=[C]) (h':=h') (λb hb=>by simp at hb;clear hs;subst hb;exact⟨t,o,m⟩) (λb x hb e=>(hs.2 b (by simpa using hb)).trans e) (Nat.le_of_eq hs.1.symm)) λR' L'=>?_;exact⟨R',L'.weak λb hb=>by simpa using hb⟩
theorem O3{t:Bool}{tg iter elt:Expr}{ifs:List Expr}{scope:Scope}{pos:Pos}{gV:List String}{upd:V->av->Option av}{bU:ML}{c:MB}{e:ME}(ok:tI scope sc gV)(hi:jL sc n μ t iter bU)(hT:l7 (iY scope sc) t tg upd)
 (hc:oZ (iY scope sc) n μ ifs c)(he:aQ (iY scope sc) n μ elt e)(hs:∀J x,foldedSetIterable iter J x=pure x):
 iG sc n μ (.ListComp elt [⟨tg,iter,ifs,0⟩] scope pos) (cM bU gV upd c e):=by
 intro A J g ms s l E Q p r ms' hm hQ;show wpAny _ _ (eval (.ListComp elt [⟨tg,iter,ifs,0⟩] scope pos) J) _ _ _;rw[eval_ListComp];refine EE ok hi hT hc he hs (use:=none) p hm λD C h' tk g' R L lp hC sv ⟨o,es,ep,m,t,d,sk⟩=>?_;refine a0 (nsFind es) ⟨o,es,ep,R.led _ _ m,d,sk,λ_=>rfl⟩ (λbN HK=>?_);refine bT (R.letGo m t HK) λbS bx=>?_;obtain⟨k,items,cn,e1,e2,e3,e4,e5,e6⟩:=lp;cases e1;have q:=bx.keep _ _ e2 (by rw[e3];exact id) (Ne.symm sv);refine hQ _ bN tk _ bS ?_ ⟨D,items,cn,rfl,q.1,q.2.trans e3,e4.mono bx (λa e t'=>by clear bx bS hC sv HK m q;subst e;rw[t]at t';exact fB.noConfusion t'),e5,e6⟩;have z:=(L.weak (ex':=(·=C)) λ_ e=>e.elim).trans (bx.up (zero_le μ));exact Le.drop z p.rel hC
theorem Li{t:Bool}{y:String}{tg iter elt:Expr}{ifs:List Expr}{scope:Scope}{py pos BH:Pos}{gV:List String}{upd:V->av->Option av}{bU:ML}{c:MB}{e:ME}(ok:tI scope sc gV)(hi:jL sc n μ t iter bU)(hT:l7 (iY scope sc) t tg upd)
 (hc:oZ (iY scope sc) n μ ifs c)(he:aQ (iY scope sc) n μ elt e)(hk:sc.names.lookup (ofString y)=some .local)(hl:(py.line==pos.line)=true)(qJ:(scope.names.any λx=>x.1==ofString y&&(x.2==.local||x.2==.cell))=false)(uZ:sc.kind=.function)(hs:∀J x,foldedSetIterable iter J x=pure x):
 hM sc n μ (.Assign [.Name (ofString y) py] (.ListComp elt [⟨tg,iter,ifs,0⟩] scope pos) BH) (bq y (bE (cM bU gV upd c e))):=by
 intro A J g ms s l E Q p r l' ms' hm;apply k6 hm;intro P go r l' ms' hm;refine j9 hm λv aF e1 hm=>?_;refine kS hm (go _ _ _ λhQ=>?_);refine bY e1 λys cf e1 e2=>?_;clear hm;cases e2;have TZ:swapsWith (.ListComp elt [⟨tg,iter,ifs,0⟩] scope pos) (some (.Name (ofString y) py)) BH.line J=pure true:=by
  show(pure (J.blockKind==.function&&J.kindOf (ofString y)==some .local&&py.line==pos.line&&!(scope.names.any λx=>x.1==ofString y&&(x.2==.local||x.2==.cell))):Sem Bool)=_;have h1:J.blockKind=.function:=by unfold Env.blockKind;rw[p.sc,uZ];rfl
  have h2:J.kindOf (ofString y)=some .local:=by unfold Env.kindOf;rw[p.sc];exact hk
  rw[h1,h2,hl,qJ];rfl
 show wpAny _ _ (exec (.Assign [.Name (ofString y) py] (.ListComp elt [⟨tg,iter,ifs,0⟩] scope pos) BH) J) _ _ _;rw[exec_Assign_Name_used _ _ _ _ TZ];refine wpAny_bind (wpAny_standAt (wpAny_bind ?_));show wpAny _ A (do let _<-comprehension (.ListComp elt [⟨tg,iter,ifs,0⟩] scope pos) scope J _ (newList []) false (eval iter J) (some (assign (.Name (ofString y) py) J))) _ _ s;refine wpAny_bind ?_;refine EE (E:=E) (Q:=λ_ s'=>wpAny (model prog w) A (pure PUnit.unit) (λ_ s'=>wpAny (model prog w) A (pure Flow.next) Q E s') E s') ok hi hT hc he hs (use:=some _) p e1 λD C h' tk g' R L lp hC sv ⟨o,es,ep,m,t,d,sk⟩=>?_;obtain⟨k,items,cn,e1,e2,e3,e4,e5,e6⟩:=lp;cases e1;show wpAny _ A (assign (.Name (ofString y) py) J (.ref D)) _ _ _;have fJ:=R.gA e2 e3 .fu;have dG:Le μ (·=D) g' (g'.gA D .fu):=Le.gA;have rZ:jc (·=D) g':=λa e=>by clear dG fJ e2 e6 sv;subst e;rw[e3];exact λz4=>fB.noConfusion z4
 have LL:=Le.drop' L dG p.rel e6;have xx:=p.next LL fJ;have mC:(C,o)∈(g'.gA D .fu).news/\(g'.gA D .fu).tag C=.free:=by have q:=dG.keep _ _ m (t▸id) sv;exact⟨q.1,q.2.trans t⟩
 have nC:¬fF J C:=oW p.rel p.ok (p.rel.top▸hC);refine wpAny_assign_Name ?_;refine oY (μ:=μ) (s:={s with heap:=h',toks:=tk}) xx (.lst e2 (if_pos rfl) (e4.mono dG rZ)) (.inl hk) λcu hO da iC=>?_;have t7:=iC.le.keep _ _ mC.1 (mC.2▸id) nC;have AS:=t7.2.trans mC.2;refine a0 (nsFind es) ⟨o,es,ep,iC.rel.led _ _ t7.1,d,sk,λ_=>rfl⟩ (λfi om=>?_);refine bT (iC.rel.letGo t7.1 AS om) λdq cF=>?_;have sq:∀a,a=C->¬fF J a:=λa e q=>nC (e▸q);have HL:jc (·=C) da:=λa e t'=>by clear cF dq hC om m mC t7 nC sq t;clear sv;subst e;rw[AS]at t';exact fB.noConfusion t'
 refine wpAny_pure (wpAny_pure (hQ _ fi hO _ ⟨dq,?_,iC.ok.nv cF sq,iC.loc.nv cF sq HL iC.ok⟩ rfl));have z:=((LL.weak (ex':=λa=>fF J a\/a=C) λ_ e=>e.elim).trans (iC.le.weak λa e=>.inl e)).trans ((cF.up (zero_le μ)).weak λa e=>.inr e);refine⟨λa x mm tt e=>z.keep a x mm tt ?_,z.dm,z.top⟩;rintro(q|q)
 .exact e q
 .clear HL AS z;clear cF dq om m mC t7 nC sq t;subst q;exact absurd (p.rel.lt mm) (Nat.not_lt.mpr (p.rel.top▸hC))
end
end
section
section
variable{sc:Scope}{n μ:Nat}
theorem LX.isList(R:aJ g ms h)(lx:LX g xs x):∃k items c,x=.ref k/\(k,cG items c)∈g.news/\h.IsList k items.toArray/\bD g xs items/\xs.length<=1000/\items.length=xs.length:=by apply LX.K lx;intro k items c m1 m2 m3 m4;exact w7 k items c rfl m1 ⟨_,R.led _ _ m1,rfl,c,rfl⟩ m3 m4 m3.length
def bj(a:ML):ME:=ay a λxs _ ms=>some (.int xs.length,ms)
theorem Q2(h:ij sc n μ e a)(hi:gh B.K "len" (.builtin "len"))(hx:sc.names.lookup (ofString "len")=some .globalImplicit)
 (he:∀J,starEach [e] J=(false,eval e J)::starEach [] J)(cH:∀J,(backTo pos (starEach [e] J)).any (·.1)=false):
 aQ sc n μ (.Call (.Name (ofString "len") px) [e] [] pos) (bj a):=by
 intro A J g ms s l E Q p r ms' hm;apply fh hm;intro P go r ms' hm;refine bY hm λxs aF q1 q2=>?_;refine eZ q2 (go _ _ λhQ=>?_);refine wpAny_Call_NameR (jI p hx hi.miss hi.boot hi.no hi.jS ?_);refine callWith_builtin (cH J) (jY (cH J) ?_);refine args_cons (h p q1 λx h' tk g' R L lx=>?_) (he J);refine args_nil ?_;refine lS (lx.isList R) λk items c gI m hl hv hz hlen=>?_;clear lx;subst gI;refine call_len_list (s:={s with heap:=h',toks:=tk}) hl (by rw[size_toArray];omega) ?_;have:=hQ (.int items.length (tk+1)) h' (tk+1+1) g' R L (hlen▸(.int _ _));rw[size_toArray];exact this
theorem bD.of_get:∀{xs:List Value},xs.length=vs.length->(∀(j:Nat) (v:V) (x:Value),vs[j]?=some v->xs[j]?=some x->aA g v x)->bD g vs xs:=by
 induction vs with
 |nil=>intro xs hl _;rewrite[List.eq_nil_of_length_eq_zero hl];exact .nil
 |cons v vs ih=>
  intro xs hl h;cases xs with
  |nil=>exact Nat.noConfusion hl
  |cons x xs=>exact .cons (h 0 v x rfl rfl) (ih (Nat.succ.inj hl) λj u y e e'=>h (j+1) u y e e')
theorem Lj{k j:Nat}(h:(gF k)[j]?=some v):v=.int (Int.ofNat j)/\j<k:=by simp only[gF,getElem?_map,map_eq_some_iff]at h;obtain⟨i,hi,rfl⟩:=h;rw[List.getElem?_eq_some_iff]at hi;obtain⟨h1,h2⟩:=hi;simp at h1 h2;subst h2;exact⟨rfl,h1⟩
theorem ti{h h':Heap}{a:Addr}(R:aJ g ms h)(k:∀b o,h.get? b=some o->h'.get? b=some o)(sz:h.objs.size<=h'.objs.size)(ha:h.objs.size<=a)(ho:h'.get? a=some o)(t:fB):
 ∃g',aJ g' ms h'/\Le 0 cC g g'/\(a,o)∈g'.news/\g'.tag a=t:=by
 refine bT (R.ext k sz) λfJ dG=>?_;have hn:∀o,(a,o)∉({g with top:=h'.objs.size}:G).news:=λo m=>absurd (R.lt m) (Nat.not_lt.mpr ha);refine bT (fJ.adopt t ho hn (λ_=>le_trans R.low ha)) λbS bx=>?_;exact gO _ bS (dG.trans bx) (.head _) (if_pos rfl)
theorem Mg(h:ij sc n μ e a)(hi:gh B.K "list" (.type "list"))(hx:sc.names.lookup (ofString "list")=some .globalImplicit)
 (he:∀J,starEach [e] J=(false,eval e J)::starEach [] J)(cH:∀J,(backTo pos (starEach [e] J)).any (·.1)=false):
 iG sc n μ (.Call (.Name (ofString "list") px) [e] [] pos) a:=by
 intro A J g ms s l E Q p r ms' hm hQ;refine wpAny_Call_NameR (jI p hx hi.miss hi.boot hi.no hi.jS ?_);refine PyProof.Rows.callWith_type (cH J) (jY (cH J) ?_);refine args_cons (h p hm λx h' tk g' R L lx=>?_) (he J);refine args_nil ?_;refine lS (lx.isList R) λk items c gI m hl hv hz hlen=>?_;clear lx;subst gI;refine jG ?_;refine call_list_seq (s:={s with heap:=h',toks:=tk}) k (.inl rfl) (R.led _ _ m) rfl rfl (λcu c' hk hn sz=>?_) (by rw[size_toArray,sizeLine_eq];omega);refine fI (ti R hk sz (le_refl _) hn .free) λda bS bx m₂ jC=>?_;exact hQ _ cu tk da bS (L.trans (bx.up (zero_le _))) ⟨_,items,c',rfl,m₂,jC,hv.mono bx (cx _),hz,R.top▸L.top⟩
def tJ(m:ME):ML:=ay m λv _ ms=>match v with
 |.iM k=>some (gF k,ms)
 |_=>none
set_option tactic.hygienic true in
theorem Nx(h:aQ sc n μ e m)(hi:gh B.K "list" (.type "list"))(hx:sc.names.lookup (ofString "list")=some .globalImplicit)
 (he:∀J,starEach [e] J=(false,eval e J)::starEach [] J)(cH:∀J,(backTo pos (starEach [e] J)).any (·.1)=false):
 iG sc n μ (.Call (.Name (ofString "list") px) [e] [] pos) (tJ m):=by
 intro A J g ms s l E Q p r ms' hm;apply fh hm;intro P go r ms' hm;refine bY hm λv aF q1 q2=>?_;cases v<;>try(exact aX q2)
 rename_i k;refine eZ q2 (go _ _ λhQ=>?_);refine wpAny_Call_NameR (jI p hx hi.miss hi.boot hi.no hi.jS ?_);refine PyProof.Rows.callWith_type (cH J) (jY (cH J) ?_);refine args_cons (h p q1 λx h' tk g' R L vr=>?_) (he J);refine args_nil ?_;apply aA.gK vr;intro u6 u7 u9 WT m t hn;refine jG ?_;have fZ:Builtin.Range.rangeSize 0 (k:Int) 1=(k:Int):=by rw[rangeSize_one];split<;>omega
 refine call_list_range (s:={s with heap:=h',toks:=tk}) (n:=k) p.fk.hh (R.led _ _ m) (small_one (by decide) (by decide) (by omega) (by omega)) fZ (by omega) λcu hO acc c' hk ho vg sz=>?_;refine fI (ti R hk sz (le_refl _) ho .free) λda bS bx m₂ jC=>?_;refine hQ _ cu hO da bS (L.trans (bx.up (zero_le _))) ⟨_,acc.toList,c',rfl,by simpa using m₂,jC,?_,by simp[gF];omega,R.top▸L.top⟩;refine bD.of_get (by simp[gF,vg.1]) λj v x e e'=>?_;refine bT (Lj e) λjF _=>?_;clear e;subst jF;refine cW (vg.2 j x (by simpa using e')) λt' bf=>?_;clear e';subst bf;rw[show(0+(j:Int)*1)=Int.ofNat j by simp];exact .int _ _
def oo(a:ML):ME:=ay a λxs _ ms=>some (.tup xs,ms)
theorem O4(h:ij sc n μ e a)(hi:gh B.K "tuple" (.type "tuple"))(hx:sc.names.lookup (ofString "tuple")=some .globalImplicit)
 (he:∀J,starEach [e] J=(false,eval e J)::starEach [] J)(cH:∀J,(backTo pos (starEach [e] J)).any (·.1)=false):
 aQ sc n μ (.Call (.Name (ofString "tuple") px) [e] [] pos) (oo a):=by
 intro A J g ms s l E Q p r ms' hm;apply fh hm;intro P go r ms' hm;refine bY hm λxs aF q1 q2=>?_;refine eZ q2 (go _ _ λhQ=>?_);refine wpAny_Call_NameR (jI p hx hi.miss hi.boot hi.no hi.jS ?_);refine PyProof.Rows.callWith_type (cH J) (jY (cH J) ?_);refine args_cons (h p q1 λx h' tk g' R L lx=>?_) (he J);refine args_nil ?_;refine lS (lx.isList R) λk items c gI m hl hv hz hlen=>?_;clear lx;subst gI;refine jG ?_;refine call_tuple_list (s:={s with heap:=h',toks:=tk}) hl (λcu hk sz=>?_) (by rw[size_toArray,sizeLine_eq];omega);have Cb:h'.objs.size<=(cu.push (nq items 0)).objs.size:=sz;have hn:(cu.push (nq items 0)).get? cu.objs.size=some (nq items 0):=Heap.get?_push_size _ rfl;have fw:∀b o,h'.get? b=some o->(cu.push (nq items 0)).get? b=some o:=λb o e=>Heap.get?_push_of_some _ (hk b o e);refine bT (R.ext fw Cb) λfJ dG=>?_;have no:∀o,(cu.objs.size,o)∉({g' with top:=(cu.push (nq items 0)).objs.size}:G).news:=λo m=>Nat.lt_irrefl _ (Heap.lt_size (hk _ _ (R.led _ _ m)));refine bT (fJ.adopt .fu hn no (λq=>absurd rfl q)) λbS bx=>?_;have Fe:=dG.trans bx;exact hQ _ _ tk _ bS (L.trans (Fe.up (zero_le _))) (.tup (.head _) (if_pos rfl) (hv.mono Fe (cx _)))
def dw(a b:ME):ME:=ay a λx=>ay b λy _ ms=>match x,y with
 |.int i,.int j=>some (.int (min i j),ms)
 |_,_=>none
set_option tactic.hygienic true in
theorem Q3(h1:aQ sc n μ e a)(h2:aQ sc n μ f b)(hi:gh B.K "min" (.builtin "min"))(hx:sc.names.lookup (ofString "min")=some .globalImplicit)
 (he:∀J,starEach [e,f] J=(false,eval e J)::starEach [f] J)(qK:∀J,starEach [f] J=(false,eval f J)::starEach [] J)(cH:∀J,(backTo pos (starEach [e,f] J)).any (·.1)=false):
 aQ sc n μ (.Call (.Name (ofString "min") px) [e,f] [] pos) (dw a b):=by
 intro A J g ms s l E Q p r ms' hm;apply fh hm;intro P go r ms' hm;refine bY hm λx aF q1 q2=>?_;refine bY q2 λy cf q2 q3=>?_;revert q1 q2;apply xb q3;intro i j q3 q1 q2;refine eZ q3 (go _ _ λhQ=>?_);refine wpAny_Call_NameR (jI p hx hi.miss hi.boot hi.no hi.jS ?_);refine callWith_builtin (cH J) (jY (cH J) ?_);refine args_cons (h1 p q1 λx cZ g6 gS fJ dG vr=>?_) (he J);refine args_cons (h2 (s:={s with heap:=cZ,toks:=g6}) (p.next dG fJ) q2 λy cu hO da bS bx lq=>?_) (qK J);refine args_nil ?_;apply aA.iK vr;intro SH;apply aA.iK lq;intro V0;refine jG ?_;refine min_two_ints (s:={s with heap:=cu,toks:=hO}) p.fk.hh λfi gP hk sz=>?_;refine bT (bS.ext hk sz) λdq cF=>?_;refine hQ _ fi gP _ dq ((dG.trans bx).trans (cF.up (zero_le _))) ?_;split
 .rw[show min i j=j by omega];exact .int _ _
 .rw[show min i j=i by omega];exact .int _ _
def c8(a:ME):ME:=ay a λx _ ms=>match x with
 |.int i=>some (.int (-i),ms)
 |_=>none
theorem Q4(h:aQ sc n μ e a):aQ sc n μ (.UnaryOp .USub e pos) (c8 a):=by intro A J g ms s l E Q p r ms' hm;apply fh hm;intro P go r ms' hm;refine bY hm λx aF q1 q2=>?_;revert q1;apply Bo q2;intro i q2 q1;refine eZ q2 (go _ _ λhQ=>?_);refine UnaryOp_ (h p q1 λx h' tk g' R L v=>?_);apply aA.iK v;intro _;exact PyProof.Rows.neg_int (hQ _ _ _ g' R L (.int _ _))
def BI(a b:ME):ME:=ay a λx=>ay b λy _ ms=>match x,y with
 |.int i,.int j=>if Builtin.Int.intBits j<=64 then some (.int (i*j),ms)else none
 |_,_=>none
theorem Q5(h1:aQ sc n μ e a)(h2:aQ sc n μ f b):aQ sc n μ (.BinOp e .Mult f pos) (BI a b):=by intro A J g ms s l E Q p r ms' hm hQ;refine bY hm λx aF q1 q2=>?_;refine bY q2 λy cf q2 q3=>?_;revert q1 q2;apply xb q3;intro i j q3 q1 q2;refine wpAny_BinOp (h1 p q1 λx' h' tk g' R L v=>?_);refine h2 (s:={s with heap:=h',toks:=tk}) (p.next L R) q2 λy' bN b0 bp R' L' v'=>?_;obtain⟨pK,q3⟩:=jw (vs:=[]) (ms:=ms) (ms':=ms) q3;clear hm q2;clear q2;cases q3;apply aA.iK v;intro It;apply aA.iK v';intro ux;exact PyProof.Rows.mul_int (hQ _ _ _ bp R' (L.trans L') (.int _ _)) (IntMulOk.of_right pK)
def BJ(a b:ME):ME:=ay a λx=>ay b λy _ ms=>match x,y with
 |.int i,.int j=>some (.int (Builtin.bitOr i j),ms)
 |_,_=>none
theorem Q6(h1:aQ sc n μ e a)(h2:aQ sc n μ f b):aQ sc n μ (.BinOp e .BitOr f pos) (BJ a b):=by intro A J g ms s l E Q p r ms' hm hQ;refine bY hm λx aF q1 q2=>?_;refine bY q2 λy cf q2 q3=>?_;revert q1 q2;apply xb q3;intro i j q3 q1 q2;refine wpAny_BinOp (h1 p q1 λx' h' tk g' R L v=>?_);refine h2 (s:={s with heap:=h',toks:=tk}) (p.next L R) q2 λy' bN b0 bp R' L' v'=>?_;clear hm q2;clear q2;cases q3;apply aA.iK v;intro It;apply aA.iK v';intro ux;exact PyProof.Rows.or_int (hQ _ _ _ bp R' (L.trans L') (.int _ _))
end
end
section
theorem Lk(n:Nat)(x:Value)(a:Array Value):(List.foldl (λx1 x2=>x1++x2) a (replicate n #[x]))=a++(replicate n x).toArray:=by
 induction n generalizing a with
 |zero=>exact rfl
 |succ n ih=>rw[List.replicate_succ,List.foldl_cons,ih,List.replicate_succ];apply Array.ext';simp
section
variable{sc:Scope}{n μ:Nat}
theorem Ny{E:Value->Shared->Prop}{k:Nat}{x:Int}{Q:Value->Shared->Prop}
 (hl:s.heap.get? l=some {cls:=.type "list",dict:=none,data:=.seq items k,slots:=#[]})
 (pI:-(2^63:Int)<=x)(WU:x<2^63)(fZ:items.size*x.toNat<=2^24)
 (h:Q (.ref s.heap.objs.size) {s with heap:=s.heap.push {cls:=.type "list",data:=.seq (List.foldl (λx1 x2=>x1++x2) #[] (replicate (if items.isEmpty=true then 0 else x.toNat) items))}}):
 wpAny (model prog w) A (binaryOp .Mult (.ref l) (.int x u)) Q E s:=
 wpAny_binaryOp_repeat_ref (T:="list") (U:="int") (by exact rfl) ⟨_,hl,rfl⟩ (λs'=>typeIs_int s' x u) noFill_list_mul F.fills_int_mul F.slot_int_rmul repeat_list F.slot_int_index.lookup
  (call_meets F.slot_int_rmul (typeIs_int s x u) F.entry_int_rmul (F.args_int_rmul_2 _ _) (int___rmul___int_list x u l items k)
   ⟨hl,rfl,⟨_,hl,rfl⟩,call_meets F.slot_list_mul ⟨_,hl,rfl⟩ F.entry_list_mul (F.args_list_mul_2 _ _)
    (AutoListH.list___mul___list_int_3 l items k x u (by simp[Builtin.List.listFitsIndex];omega) (by omega) (by simp[Builtin.List.listTooLong,sizeLine];omega))
    ⟨hl,h⟩⟩)
def uJ(a:ML)(b:ME):ML:=ay a λxs=>ay b λy _ ms=>match xs,y with
 |[v],.int k=>if 0<=k/\k<=1000 then some (replicate k.toNat v,ms)else none
 |_,_=>none
theorem bD.replicate(h:aA g v x):∀k,bD g (replicate k v) (replicate k x)
 |0=>.nil
 |k+1=>.cons h (bD.replicate h k)
set_option tactic.hygienic true in
theorem Q7(h1:iG sc n μ e a)(h2:aQ sc n 0 f b):iG sc n μ (.BinOp e .Mult f pos) (uJ a b):=by
 intro A J g ms s l E Q p r ms' hm hQ;refine bY hm λxs aF q1 q2=>?_;refine bY q2 λy cf q2 q3=>?_;refine wpAny_BinOp (h1 p q1 λx' h' tk g' R L lp=>?_);refine h2 (s:={s with heap:=h',toks:=tk}) (p.next L R) q2 λy' bN b0 bp R' L' v'=>?_;split at q3<;>try(exact aX q3)
 rename_i v k q2;refine bT (jw (vs:=[]) (ms:=ms) (ms':=ms) q3) λhk q3=>?_;clear hm q2;clear q2;cases q3;apply LP.K lp;intro D items cn m t hv hz tp;apply aA.iK v';intro ux;have m':=L'.keep _ _ m (by rw[t];exact id) id;have ka:=hv.mono L' (cx _);cases ka with
 |cons hx hr=>
 clear hv m;cases hr;rename_i yc x;refine Ny (s:={s with heap:=bN,toks:=b0}) (R'.led _ _ m'.1) (by omega) (by omega) (by simp;omega) ?_;have e:(List.foldl (λx1 x2=>x1++x2) #[] (replicate (if([x].toArray).isEmpty=true then 0 else k.toNat) [x].toArray))=(replicate k.toNat x).toArray:=by have:([x].toArray).isEmpty=false:=rfl;rw[this,if_neg (by exact λz4=>Bool.noConfusion z4)];have:=Lk k.toNat x #[];simpa using this
 rw[e];refine jo (R'.new (cG (replicate k.toNat x) 0) .free rfl) λbS bx m₂ jC xc=>?_;refine hQ _ _ _ _ bS ((L.trans (L'.up (zero_le _))).trans (bx.up (zero_le _))) ⟨_,_,0,rfl,m₂,jC,bD.replicate (hx.mono bx (cx _)) _,by simp;omega,le_trans (le_trans L.top L'.top) xc⟩
def jQ(a b:ML):ML:=ay a λxs=>ay b λys _ ms=>if xs.length+ys.length<=1000 then some (xs++ys,ms)else none
theorem Q8(h1:ij sc n μ e a)(h2:ij sc n 1 f b)(fY:1<=μ):iG sc n μ (.BinOp e .Add f pos) (jQ a b):=by
 intro A J g ms s l E Q p r ms' hm;apply fh hm;intro P go r ms' hm;refine bY hm λxs aF q1 q2=>?_;refine bY q2 λys cf q2 q3=>?_;refine bT (jw (vs:=[]) (ms:=ms) (ms':=ms) q3) λhz q3=>?_;refine eZ q3 (go _ _ λhQ=>?_);refine wpAny_BinOp (h1 p q1 λx' h' tk g' R L lx=>?_);refine h2 (s:={s with heap:=h',toks:=tk}) (p.next L R) q2 λy' bN b0 bp R' L' vh=>?_;apply LX.K lx;intro k1 ke c1 m1 t1 v1 z1;apply LX.K vh;intro k2 pL c2 m2 t2 v2 z2;have qM:=L'.keep _ _ m1 t1 id;have qN:=v1.mono L' (cx _);have hv:=qN.append v2;refine PySem.P.add_list (s:={s with heap:=bN,toks:=b0}) (R'.led _ _ qM.1) (R'.led _ _ m2) ?_ (by rw[size_toArray,size_toArray,v1.length,v2.length,sizeLine_eq];omega);have e:ke.toArray++pL.toArray=(ke++pL).toArray:=by simp
 rw[e];refine jo (R'.new (cG (ke++pL) 0) .free rfl) λbS bx pw BK AU=>?_;exact hQ _ _ _ _ bS ((L.trans (L'.up fY)).trans (bx.up (zero_le _))) ⟨_,_,0,rfl,pw,BK,hv.mono bx (cx _),by simp;omega,le_trans (le_trans L.top L'.top) AU⟩
theorem O5(h1:ij sc n 0 e a)(h2:ij sc n 0 f b):iG sc n 0 (.BinOp e .Add f pos) (jQ a b):=by
 intro A J g ms s l E Q p r ms' hm;apply fh hm;intro P go r ms' hm;refine bY hm λxs aF q1 q2=>?_;refine bY q2 λys cf q2 q3=>?_;refine bT (jw (vs:=[]) (ms:=ms) (ms':=ms) q3) λhz q3=>?_;refine eZ q3 (go _ _ λhQ=>?_);refine wpAny_BinOp (h1 p q1 λx' h' tk g' R L lx=>?_);refine h2 (s:={s with heap:=h',toks:=tk}) (p.next L R) q2 λy' bN b0 bp R' L' vh=>?_;apply LX.K lx;intro k1 ke c1 m1 t1 v1 z1;apply LX.K vh;intro k2 pL c2 m2 t2 v2 z2;have qM:=L'.keep _ _ m1 (λq=>t1 (q.up (zero_le _))) id;have qN:=v1.mono L' (cx _);have hv:=qN.append v2;refine PySem.P.add_list (s:={s with heap:=bN,toks:=b0}) (R'.led _ _ qM.1) (R'.led _ _ m2) ?_ (by rw[size_toArray,size_toArray,v1.length,v2.length,sizeLine_eq];omega);have e:ke.toArray++pL.toArray=(ke++pL).toArray:=by simp
 rw[e];refine jo (R'.new (cG (ke++pL) 0) .free rfl) λbS bx pw BK AU=>?_;exact hQ _ _ _ _ bS ((L.trans L').trans bx) ⟨_,_,0,rfl,pw,BK,hv.mono bx (cx _),by simp;omega,le_trans (le_trans L.top L'.top) AU⟩
def rO(a:ML)(b:ME):ML:=ay a λxs=>ay b λy _ ms=>match y with
 |.int k=>if 0<=k then some (xs.take k.toNat,ms)else none
 |_=>none
def qo(a:ML)(b:ME):ML:=ay a λxs=>ay b λy _ ms=>match y with
 |.int k=>if 0<=k then some (xs.drop k.toNat,ms)else none
 |_=>none
theorem FW{A:Around}{g mQ:G}{ms:Hp}{s:Shared}{xs:List V}{items items':List Value}{k:Addr}{c:Nat}{vl vu:Value}{Q:Value->Shared->Prop}{mY:List V}(R:aJ g ms s.heap)(hle:mQ.top<=g.top)(hv:bD g mY items')(hz:mY.length<=1000)
 (hQ:∀x h' g',aJ g' ms h'->Le 0 cC g g'->LP mQ g' mY x->Q x {s with heap:=h'}):
 Q (.ref (s.heap.objs.size+1)) {s with heap:=(s.heap.push {cls:=.type "slice",data:=.fields #[vl,vu,.none]}).push (cG items' 0)}:=by
 refine jo (R.new {cls:=.type "slice",data:=.fields #[vl,vu,.none]} .free rfl) λfJ dG m₁ Wu V1=>?_;refine jo (fJ.new (cG items' 0) .free rfl) λbS bx m₂ jC xc=>?_;have hs:(s.heap.push {cls:=.type "slice",data:=.fields #[vl,vu,.none]}).objs.size=s.heap.objs.size+1:=Heap.size_push ..;have:=hQ (.ref (s.heap.push {cls:=.type "slice",data:=.fields #[vl,vu,.none]}).objs.size) _ _ bS (dG.trans bx) ⟨_,_,0,rfl,m₂,jC,hv.mono (dG.trans bx) (cx _),hz,le_trans hle (le_trans dG.top xc)⟩;rw[hs]at this;exact this
theorem O6{ps pos:Pos}(h1:ij sc n 0 e a)(h2:aQ sc n 0 f b)(ht:∀o r,letTemporaryGo e o r=pure ()):iG sc n 0 (.Subscript e (.Slice none (some f) none ps) pos) (rO a b):=by
 intro A J g ms s l E Q p r ms' hm;apply fh hm;intro P go r ms' hm;refine bY hm λxs aF q1 q2=>?_;refine bY q2 λy cf q2 q3=>?_;cases y<;>try(exact aX q3)
 refine bT (jw (vs:=[]) (ms:=ms) (ms':=ms) q3) λhk q3=>?_;refine eZ q3 (go _ _ λhQ=>?_);refine wpAny_Subscript_list_slice (h1 p q1 λx' h' tk g' R L lx=>?_) ht;refine wpAny_evalPart_none ?_;refine wpAny_evalPart_some (h2 (s:={s with heap:=h',toks:=tk}) (p.next L R) q2 λy' bN b0 bp R' L' v'=>?_);apply LX.K lx;intro k1 ke c1 m1 t1 v1 z1;have qM:=L'.keep _ _ m1 (λq=>t1 (q.up (zero_le _))) id;have qN:=v1.mono L' (cx _);apply aA.iK v';intro ux;rename_i k yc;refine cW (Int.eq_ofNat_of_zero_le hk) λj bf=>?_;clear hk q2 q3 yc v';subst bf;refine w8 k1 ke.toArray none (some (j:Int)) rfl ⟨_,R'.led _ _ qM.1,rfl,c1,rfl⟩ (by rw[size_toArray,v1.length,sizeLine_eq];omega) .none (.int _ _) ?_;rw[slicePick_upto'];refine FW (A:=A) (xs:=xs) (items:=ke) (k:=k1) (c:=c1) (s:={s with heap:=bN,toks:=b0}) (items':=ke.take j) R' (le_trans L.top L'.top) (qN.take j) (by simp;omega) λx fi cQ dq cF lp=>?_;exact hQ x fi b0 cQ dq ((L.trans L').trans cF) lp
theorem O7{ps pos:Pos}(h1:ij sc n 0 e a)(h2:aQ sc n 0 f b)(ht:∀o r,letTemporaryGo e o r=pure ()):iG sc n 0 (.Subscript e (.Slice (some f) none none ps) pos) (qo a b):=by
 intro A J g ms s l E Q p r ms' hm;apply fh hm;intro P go r ms' hm;refine bY hm λxs aF q1 q2=>?_;refine bY q2 λy cf q2 q3=>?_;cases y<;>try(exact aX q3)
 refine bT (jw (vs:=[]) (ms:=ms) (ms':=ms) q3) λhk q3=>?_;refine eZ q3 (go _ _ λhQ=>?_);refine wpAny_Subscript_list_slice (h1 p q1 λx' h' tk g' R L lx=>?_) ht;refine wpAny_evalPart_some (h2 (s:={s with heap:=h',toks:=tk}) (p.next L R) q2 λy' bN b0 bp R' L' v'=>?_);refine wpAny_evalPart_none ?_;apply LX.K lx;intro k1 ke c1 m1 t1 v1 z1;have qM:=L'.keep _ _ m1 (λq=>t1 (q.up (zero_le _))) id;have qN:=v1.mono L' (cx _);apply aA.iK v';intro ux;rename_i k yc;refine cW (Int.eq_ofNat_of_zero_le hk) λj bf=>?_;clear hk q2 q3 yc v';subst bf;refine w8 k1 ke.toArray (some (j:Int)) none rfl ⟨_,R'.led _ _ qM.1,rfl,c1,rfl⟩ (by rw[size_toArray,v1.length,sizeLine_eq];omega) (.int _ _) .none ?_;rw[slicePick_from'];refine FW (A:=A) (xs:=xs) (items:=ke) (k:=k1) (c:=c1) (s:={s with heap:=bN,toks:=b0}) (items':=ke.drop j) R' (le_trans L.top L'.top) (qN.drop j) (by simp;omega) λx fi cQ dq cF lp=>?_;exact hQ x fi b0 cQ dq ((L.trans L').trans cF) lp
end
end
section
section
variable{sc:Scope}{n μ:Nat}
noncomputable def G.xy(g:G):G:={news:=g.news,tag:=λ_=>.fu,dm:=[],top:=g.top}
theorem aJ.xy(R:aJ g ms h):aJ g.xy [] h:=⟨R.base,R.keep,R.led,λa o _ h=>absurd rfl h,rfl,R.low,R.top,λi o e=>by simp at e⟩
open Classical in
theorem aJ.Av(R:aJ g ms h)(R':aJ g' ms' h'){μ:Nat}(L:Le μ cC g.xy g'):
 aJ {news:=g'.news,tag:=λa=>if∃o,(a,o)∈g.news then g.tag a else .fu,dm:=g.dm,top:=g'.top} ms h'/\Le 0 cC g {news:=g'.news,tag:=λa=>if∃o,(a,o)∈g.news then g.tag a else .fu,dm:=g.dm,top:=g'.top}/\
  ∀a,g.top<=a->({news:=g'.news,tag:=λa=>if∃o,(a,o)∈g.news then g.tag a else .fu,dm:=g.dm,top:=g'.top}:G).tag a=.fu:=by
 have k:∀a o,(a,o)∈g.news->(a,o)∈g'.news:=λa o m=>(L.keep a o m id id).1;have lt:∀a o,(a,o)∈g.news->a<g.top:=λa o m=>by rw[R.top];exact R.lt m
 have L':Le 0 cC g {news:=g'.news,tag:=λa=>if∃o,(a,o)∈g.news then g.tag a else .fu,dm:=g.dm,top:=g'.top}:=⟨λa o m _ _=>⟨k a o m,if_pos ⟨o,m⟩⟩,⟨[],by simp⟩,L.top⟩;refine⟨⟨R'.base,R'.keep,R'.led,λa o m ht=>?_,R.len,R'.low,R'.top,λi x e=>?_⟩,L',λa hle=>if_neg λ⟨o,m⟩=>absurd (lt a o m) (Nat.not_lt.mpr hle)⟩
 .by_cases q:∃o,(a,o)∈g.news
  .refine cW q λo' m'=>?_;exact R.fresh a o' m' (by have:=ht;simp only at this;rwa [if_pos ⟨o',m'⟩]at this)
  .exact absurd (if_neg q) ht
 .refine aY (R.objs i x e) λa h1 h2 h3=>?_;refine cW (h3.here) λo' hm=>?_;exact cA a h1 ((if_pos ⟨o',hm⟩).trans h2) (h3.mono L' (cx _) h2 λb o p m t=>⟨k b o m,if_pos ⟨o,m⟩⟩)
theorem Q9(hg:oB B.K x (.ref (eE .abs)))(hc:o6 B.K (eE .abs) f)(hf:iF n 1 f m)
 (hm:m [.ref 0] [.inst .abs []]=some (.none,[.inst .abs fs]))(hx:sc.names.lookup (ofString x)=some .globalImplicit)
 (hd:(ofString x==("__debug__":Str))=false):aQ sc (n+1) μ (.Call (.Name (ofString x) px) [] [] pos) dB:=by
 intro A J g ms s l E Q p r ms' h;apply fh h;intro P go r ms' h;refine eZ h (go _ _ λhQ=>?_);refine wpAny_Call_NameR (wg p hx hg.at_ hd ?_);refine vS (μ:=0) p hg.keep (GV) rfl rfl λxs h' tk g' R L v=>?_;apply bD.nK v;have RS:=R.xy;refine Ez (s:={s with heap:=h',toks:=tk}) (vs:=[]) (ms:=[]) p.fk RS hc hf .nil hm λcu hO gS da ad er dG bS bx e tp=>?_;have LL:=(dG.up (zero_le 1)).trans bx;refine nA (bS.inst (i:=0) (c:=.abs) (fs:=fs) rfl e) λdx es mm h1 _=>?_;refine fm (R.Av bS LL) λdq cF im=>?_;refine hQ _ _ _ _ dq ((L.trans cF).up (zero_le _)) (.absent h1 ?_);exact im _ tp
def jB(f:String)(o:MI):ME:=λl ms=>match o l ms with
 |some (i,aF)=>match dA aF i f with
  |some (c,fs,xs)=>match xs.getLast? with
   |some v=>some (v,aF.set i (.inst c (fj f (.lst xs.dropLast) fs)))
   |none=>none
  |none=>none
 |none=>none
theorem O8{pl:Env->Sem Bool}(ho:rM f sc n 2 eo o)(hm:o5 eo "pop" ap pos [] pl):aQ sc n 2 (.Call (.Attribute eo "pop" ap) [] [] pos) (jB f o):=by
 intro A J g ms s l E Q p r ms' h;apply fh h;intro P go r ms' h;unfold jB at h;refine Ax h λi aF e1 h=>?_;refine Ay h λc fs xs e3 h=>?_;refine Ql h λv e4 h=>?_;refine eZ h (go _ _ λhQ=>?_);refine MethodCall_ (ho p e1 λy h' tk g' R L fa=>?_) (hm J);have hi:=yO e3;refine ou (R.field hi.1 hi.2 fa) λk items cn gI hm gW hz kk=>?_;clear fa;subst gI;have ty:({s with heap:=h',toks:=tk}:Shared).TypeIs (.ref k) "list":=(a0 _ (R.led _ _ hm) rfl);have hlen:=gW.length;have gB:xs≠[]:=by clear e3 h hQ hi hlen gW hz kk;clear h;rintro rfl;simp at e4
 refine az (gW.get (i:=xs.length-1) (v:=v) (by show xs[xs.length-1]?=some v;rw[<-List.getLast?_eq_getElem?];exact e4)) λx hx T3=>?_;have G3:items.length=xs.length:=hlen;have pG:xs.length<=1000:=hz;refine getMethod_builtin (s:={s with heap:=h',toks:=tk}) ty F.plainAttrs_list F.slot_list_pop F.type_list_pop (λa e=>by cases e;exact(a0 _ (R.led _ _ hm) rfl)) ?_;refine PySem.P.pop_list (s:={s with heap:=h',toks:=tk}) (items:=items.toArray) (n:=cn) (y:=x) (R.led _ _ hm) (by simp[G3,hx]) ?_ (by rw[size_toArray,G3,sizeLine_eq];omega);have new:(h'.update k (Obj.mapSeq λxs=>xs.eraseIdxIfInBounds (items.toArray.size-1))).get? k=some (cG items.dropLast (cn+1)):=by
  have lt:items.length-1<items.length:=by have:xs≠[]:=gB;have:0<xs.length:=List.length_pos_iff.mpr this;omega
  have e:=mapSeq_erase items.toArray cn (items.toArray.size-1) (by simpa using lt);rw[Heap.get?_update_self _ (R.led _ _ hm) (by rw[e];rfl),e];have d:items.eraseIdx (items.length-1)=items.dropLast:=by
   apply List.ext_getElem?;intro j;rw[List.getElem?_eraseIdx,List.getElem?_dropLast];split
   .rename_i hj;rfl
   .rename_i hj;exact List.getElem?_eq_none (by omega)
  simp[d]
 refine bT (kk _ _ _ xs.dropLast (Heap.SameBut.update ..) new (gW.dropLast) (by simp;omega)) λdq cF=>?_;exact hQ _ _ _ _ dq (L.trans cF) (T3.mono cF (cx _))
end
end
section
section
variable{sc:Scope}{n μ:Nat}
noncomputable abbrev MD:=av->Hp->Option (Unit×Hp)
def DP(mQ g:G)(_:Unit)(x:Value):Prop:=∃k c,x=.ref k/\(k,dictOf [] c)∈g.news/\g.tag k=.free/\mQ.top<=k
abbrev t8(sc:Scope)(n μ:Nat)(e:Expr)(m:MD):Prop:=fE sc n μ (λJ=>eval e J) m (λmQ g=>DP mQ g)
noncomputable def qC:MD:=λ_ ms=>some ((),ms)
theorem O9:t8 sc n μ (.Dict [] [] pos) qC:=by intro A J g ms s l E Q p r ms' hm;apply fh hm;intro P go r ms' hm;refine eZ hm (go _ _ λhQ=>?_);refine wpAny_Dict_empty ?_;refine jo (p.rel.new (dictOf [] 0) .free rfl) λR' L' m' t' tp=>?_;exact hQ _ _ _ _ R' (L'.up (zero_le _)) ⟨_,0,rfl,m',t',tp⟩
theorem DN{h:Heap}{k:Addr}{c:Nat}(e:h.get? k=some (dictOf [] c)):h.DictOf (gN) k []:=⟨_,#[],c,e,⟨rfl,rfl,rfl⟩,rfl,λ_ he=>by simp at he,Pairs.nil,List.nodup_nil⟩
theorem JY{h:Heap}{k:Addr}(d:h.DictOf (gN) k []):∃c,h.get? k=some (dictOf [] c):=by
 refine lS d λo es ep h1 h2 h3 _ h5 _=>?_;obtain⟨oc,od,dt,sl⟩:=o;refine fm h2 λq1 q2 q3=>?_;dsimp only at q1 q2 q3 h3;clear h2;subst q1 q2 q3 h3;have:es.toList=[]:=by cases h:es.toList with|nil=>rfl|cons a b=>rw[h]at h5;cases h5
 have:es=#[]:=by apply Array.ext';exact this
 clear h5;subst this;exact⟨ep,h1⟩
def ph(f:String)(m:ME):MD:=ay m λv _ ms=>match v with
 |.ref i=>match ms[i]? with
  |some (.inst _ fs)=>match fs.lookup f with
   |some .js=>some ((),ms)
   |_=>none
  |_=>none
 |_=>none
def DX(g:G)(_:Unit)(x:Value):Prop:=∃k c,x=.ref k/\(k,dictOf [] c)∈g.news/\g.tag k≠.fu
theorem O'(h:aQ sc n μ e m)(hf:f∈hB)
 (he:∀J,eval (.Attribute e (ofString f) pos) J=(do let o<-eval e J;standAt pos.atName;let r<-holding [o] (getAttr o (ofString f) true);letTemporaryGo e o r;pure r)):
 fE sc n μ (λJ=>eval (.Attribute e (ofString f) pos) J) (ph f m) (λ_ g=>DX g):=by
 intro A J g ms s l E Q p r ms' hm;apply fh hm;intro P go r ms' hm;refine bY hm λv aF h1 h2=>?_;revert h1;apply uw h2;intro i h2 h1;refine lU h2 λc fs hi h2=>?_;refine Qv h2 λhy h2=>?_;refine eZ h2 (go _ _ λhQ=>?_);refine Attribute_any_ (h p h1 λx h' tk g' R L v=>?_) (he J);apply aA.rK v;intro a ha;refine vT (s:={s with heap:=h',toks:=tk}) R hi ha hf hy λx b0 fr=>?_;refine iz fr λk c q1 q2 q3 q4=>?_;exact hQ _ _ _ g' R L ⟨k,c,q1,q3,by rw[q2];exact λz4=>fB.noConfusion z4⟩
theorem Pa{px pos:Pos}(h:fE sc n μ (λJ=>eval e J) m (λ_ g=>DX g))(hi:gh B.K "dict" (.type "dict"))(hx:sc.names.lookup (ofString "dict")=some .globalImplicit)
 (he:∀J,starEach [e] J=(false,eval e J)::starEach [] J)(cH:∀J,(backTo pos (starEach [e] J)).any (·.1)=false):
 t8 sc n μ (.Call (.Name (ofString "dict") px) [e] [] pos) m:=by
 intro A J g ms s l E Q p r ms' hm hQ;refine wpAny_Call_NameR (jI p hx hi.miss hi.boot hi.no hi.jS ?_);refine PyProof.Rows.callWith_type (cH J) (jY (cH J) ?_);refine args_cons (h p hm λx h' tk g' R L d=>?_) (he J);refine args_nil ?_;refine fN d λk c bL m1 t0=>?_;clear d;subst bL;refine jG ?_;refine kt_call_dict (knd:=gN) (s:={s with heap:=h',toks:=tk}) (R.tB m1 t0) (DN (R.led _ _ m1)) (zero_le _) λcu hd hs sz=>?_;refine cW (JY hd) λc₂ t9=>?_;refine fI (ti R (h':=cu) (λb o e=>(hs.2 b (ne_of_lt (Heap.lt_size e))).trans (Heap.get?_push_of_some _ e)) sz (le_refl _) t9 .free) λda bS bx m₂ jC=>?_;exact hQ _ cu tk da bS (L.trans (bx.up (zero_le _))) ⟨_,c₂,rfl,m₂,jC,R.top▸L.top⟩
def r8(m:MD):ML:=ay m λ_ _ ms=>some ([],ms)
theorem Q'{px pos:Pos}(h:fE sc n μ (λJ=>eval e J) m (λ_ g=>DX g))(hi:gh B.K "list" (.type "list"))(hx:sc.names.lookup (ofString "list")=some .globalImplicit)
 (he:∀J,starEach [e] J=(false,eval e J)::starEach [] J)(cH:∀J,(backTo pos (starEach [e] J)).any (·.1)=false):
 iG sc n μ (.Call (.Name (ofString "list") px) [e] [] pos) (r8 m):=by
 intro A J g ms s l E Q p r ms' hm;apply fh hm;intro P go r ms' hm;refine bY hm λu aF q1 q2=>?_;refine eZ q2 (go _ _ λhQ=>?_);refine wpAny_Call_NameR (jI p hx hi.miss hi.boot hi.no hi.jS ?_);refine PyProof.Rows.callWith_type (cH J) (jY (cH J) ?_);refine args_cons (h p q1 λx h' tk g' R L d=>?_) (he J);refine args_nil ?_;refine fN d λk c bL m1 t0=>?_;clear d;subst bL;refine cW ((DN (R.led _ _ m1)).dictAt) λep Ci=>?_;refine jG ?_;refine kdl_call (s:={s with heap:=h',toks:=tk}) (kdl_dict (knd:=gN) (kvs:=[]) (ep:=ep) (R.tB m1 t0)) p.fk.hh Ci (zero_le _) λcu hO acc c' hk ho vg sz=>?_;refine fI (ti R hk sz (le_refl _) ho .free) λda bS bx m₂ jC=>?_;have:acc=#[]:=Array.eq_empty_of_size_eq_zero vg.1;clear vg ho;subst this;exact hQ _ cu hO da bS (L.trans (bx.up (zero_le _))) ⟨_,[],c',rfl,m₂,jC,.nil,zero_le _,R.top▸L.top⟩
def dk(f:String)(o:ME)(v:MD):MS:=λl ms=>match v l ms with
 |some (_,aF)=>match o l aF with
  |some (.ref i,cf)=>match cf[i]? with
   |some (.inst c fs)=>if fs.length<=500 then some (.next,l,cf.set i (.inst c (fj f .js fs)))else none
   |_=>none
  |_=>none
 |none=>none
theorem Nz(hv:t8 sc n μ ev v)(ho:aQ sc n μ eo o)(fY:1<=μ)(hf:f∈hB)
 (hs:∀J:Env,swapsWith ev (some (.Attribute eo (ofString f) ap)) pos.line J=pure false):
 hM sc n μ (.Assign [.Attribute eo (ofString f) ap] ev pos) (dk f o v):=by
 intro A J g ms s l E Q p r l' ms' hm;apply k6 hm;intro P go r l' ms' hm;unfold dk at hm;refine Qr hm λu aF e1 hm=>?_;refine oA hm λi cf e2 hm=>?_;refine lU hm λc fs e3 hm=>?_;refine kr hm λhz hm=>?_;refine kS hm (go _ _ _ λhQ=>?_);refine plainObj_wpAny_Assign_Attribute (hv p e1 λy h' tk g' R L lp=>?_) (hs J);refine iz lp λk cn bL m1 t1 f1=>?_;clear lp;subst bL;refine ho (s:={s with heap:=h',toks:=tk}) (p.next L R) e2 λz bN b0 bp R' L' lq=>?_;apply aA.rK lq;intro a ha;obtain⟨m2,t2⟩:=L'.keep _ _ m1 (by rw[t1];exact id) id;have t2:=t2.trans t1;have bS:=R'.gA m2 t2 (.obj i f);have bx:Le μ (·=k) bp (bp.gA k (.obj i f)):=Le.gA;refine sU (s:={s with heap:=bN,toks:=b0}) bS e3 ha hf hz (fv:=.js) ⟨k,cn,rfl,by exact if_pos rfl,m2,hf⟩ λfi gP cQ dq cF=>?_;exact hQ _ _ _ cQ (fC.of p dq ((Le.drop' (L.trans L') bx p.rel f1).trans (cF.up fY))) rfl
noncomputable abbrev MP:=av->Hp->Option (List (V×V)×Hp)
inductive uK(g:G):List (V×V)->List (Value×Value)->Prop where
 |nil:uK g [] []
 |cons {a b:V} {x y:Value} {vs:List (V×V)} {xs:List (Value×Value)}:aA g a x->aA g b y->uK g vs xs->uK g ((a,b)::vs) ((x,y)::xs)
abbrev ua(sc:Scope)(n μ:Nat)(ks:List (Option Expr))(vs:List Expr)(m:MP):Prop:=∀pos,fE sc n μ (λJ=>evalPairs (pairTrees ks vs J pos)) m (λ_ g ps xs=>uK g ps xs)
noncomputable def r9:MP:=λ_ ms=>some ([],ms)
def kX(a b:ME)(c:MP):MP:=ay a λx=>ay b λy=>ay c λps _ ms=>some ((x,y)::ps,ms)
theorem Ra:ua sc n μ [] [] r9:=by intro pos A J g ms s l E Q p r ms' hm;apply fh hm;intro P go r ms' hm;refine eZ hm (go _ _ λhQ=>?_);exact wpAny_pure (hQ _ _ _ g p.rel (.refl _ _ _) .nil)
theorem Pb(h1:aQ sc n μ k a)(h2:aQ sc n μ v b)(h3:ua sc n μ ks vs c):ua sc n μ (some k::ks) (v::vs) (kX a b c):=by intro pos A J g ms s l E Q p r ms' hm;apply fh hm;intro P go r ms' hm;refine bY hm λx aF q1 w2=>?_;refine bY w2 λy cf q2 w3=>?_;refine bY w3 λps mK q3 q4=>?_;refine eZ q4 (go _ _ λhQ=>?_);show wpAny _ _ (evalPairs ((eval k J,do let x<-eval v J;standAt pos;pure x)::pairTrees ks vs J pos)) _ _ _;refine wpAny_bind (h1 p q1 λx' cZ g6 gS fJ dG SQ=>?_);have xx:=p.next dG fJ;refine wpAny_bind (wpAny_holding (wpAny_bind (h2 (s:={s with heap:=cZ,toks:=g6}) xx q2 λy' cu hO da bS bx BL=>wpAny_bind (wpAny_standAt (wpAny_pure ?_)))));refine wpAny_bind (wpAny_holding (h3 pos (s:={s with heap:=cu,toks:=hO}) (xx.next bx bS) q3 λz fi gP cQ dq cF Bq=>wpAny_pure ?_));exact hQ _ _ _ cQ dq ((dG.trans bx).trans cF) (.cons ((SQ.mono bx (cx _)).mono cF (cx _)) (BL.mono cF (cx _)) Bq)
noncomputable def nI(es:List (DK×V)):List (V×V)->Option (List (DK×V))
 |[]=>some es
 |(k,v)::ps=>match jO k with
  |some d=>nI (ku es d v) ps
  |none=>none
def qp(m:MP):ME:=λl ms=>match m l (ms++[.dict []])with
 |some (ps,ms')=>match nI [] ps with
  |some es=>if es.length<=1000/\ps.length<=1000 then some (.ref ms.length,ms'.set ms.length (.dict es))else none
  |none=>none
 |none=>none
theorem Mh(r:uK g ps xs):∀{es bu:List (DK×V)} {kvs:List (KI×Value)},d6 g es kvs->nI es ps=some bu->
 ∃more,Carries (gN) xs more/\d6 g bu (merged kvs more)/\more.length=ps.length:=by
 induction r with
 |nil=>intro es bu kvs hd h;cases h;exact(cA ([]) trivial hd rfl)
 |@cons _ _ x y _ _ ha hb hr ih=>intro es bu kvs hd h;refine tU h λd hk h=>?_;refine aY (ih (hd.stored (k:=d) hb) h) λmore h1 h2 h3=>?_;exact cA ((ki d,y)::more) ⟨rA hk ha,rfl,h1⟩ h2 (congrArg (·+1) h3)
theorem Pc(hm:ua sc n 1 ks vs m)(fY:1<=μ)(BM:ks.all (·.isSome)=true)(hl:ks.length=vs.length)(h0:ks≠[])(hlen:ks.length<=15):aQ sc n μ (.Dict ks vs pos) (qp m):=by
 intro A J g ms s l E Q p r ms' h;apply fh h;intro P go r ms' h;unfold qp at h;refine Qs h λps aF e1 h=>?_;refine GR h λes e2 h=>?_;refine bT (jw (vs:=[]) (ms:=ms) (ms':=ms) h) λhz h=>?_;refine eZ h (go _ _ λhQ=>?_);refine wpAny_Dict_any BM hl h0 hlen ?_;have R1:=p.rel.push emptyDict (.obj ms.length "") rfl;have L1:Le 0 cC g (g.add s.heap.objs.size emptyDict (.obj ms.length "")):=Le.add (p.rel.next);have m1:(s.heap.objs.size,emptyDict)∈(g.add s.heap.objs.size emptyDict (.obj ms.length "")).news:=.head _;have R2:=R1.newObj (a:=s.heap.objs.size) (mo:=.dict []) (if_pos rfl) ⟨emptyDict,[],m1,⟨#[],0,⟨rfl,rfl,rfl⟩,rfl,λ_ he=>by simp at he,Pairs.nil,List.nodup_nil⟩,.nil,zero_le _⟩;have L2:Le 0 cC g ((g.add s.heap.objs.size emptyDict (.obj ms.length "")).obj s.heap.objs.size):=L1.trans Le.obj;have hr:((g.add s.heap.objs.size emptyDict (.obj ms.length "")).obj s.heap.objs.size).dm[ms.length]?=some s.heap.objs.size:=by simp[G.obj,G.add,<-p.rel.len]
 refine hm pos (s:={s with heap:=s.heap.push emptyDict}) (p.next L2 R2) e1 λxs h' tk g' R' L' pr=>?_;refine aY (Mh pr (es:=[]) .nil e2) λmore c1 c2 c3=>?_;have mD:=L'.keep _ _ m1 (by show¬Wr 1 ((g.add s.heap.objs.size emptyDict (.obj ms.length "")).tag s.heap.objs.size);simp[G.add,Wr]) id;have hd:h'.DictOf (gN) s.heap.objs.size []:=⟨_,#[],0,R'.led _ _ mD.1,⟨rfl,rfl,rfl⟩,rfl,λ_ he=>by simp at he,Pairs.nil,List.nodup_nil⟩;have ha:=L'.mG hr;have tD:g'.tag s.heap.objs.size=.obj ms.length "":=by rw[mD.2];simp[G.obj,G.add]
 refine PySem.wpAny_storeAll (knd:=gN) xs more [] {s with heap:=h',toks:=tk} _ c1 hd (by rw[List.length_nil,c3,sizeLine_eq];omega) λcu t9 xd=>?_;refine az (Heap.dictOf_iff.mp t9) λo' bP gv=>?_;have bx:Le μ (·=s.heap.objs.size) g' (g'.put s.heap.objs.size o'):=Le.put (.inr rfl);have rZ:jc (·=s.heap.objs.size) g':=λa e=>by subst e;rw[tD];exact λz4=>fB.noConfusion z4
 have bS:=R'.tx mD.1 tD xd bP ha (mo:=.dict es) ⟨o',_,gf.mpr (.inl ⟨rfl,rfl⟩),gv,c2.mono bx rZ,hz.1⟩;have LL:=Le.drop' (((L2.up (zero_le 1)).trans L').up fY) bx p.rel (Nat.le_of_eq p.rel.top);exact hQ _ _ _ _ bS LL (.ref ha)
end
end
section
theorem D9:entryFor table "dict.update.loop"=some Builtin.«dict.update.loop»:=entryFor_of_tree (by kernel_rfl)
theorem wa:plainId "dict.update.loop"=true:=by decide+kernel
section
variable{A:Around}{E:Value->Shared->Prop}{s:Shared}
inductive nJ(h:Heap):List Value->List (KI×Value)->Prop where
 |nil:nJ h [] []
 |cons {T:Addr} {key v:Value} {k:KI} {xs:List Value} {more:List (KI×Value)}:h.IsTuple T #[key,v]->(gN).is k key=true->nJ h xs more->nJ h (.ref T::xs) ((k,v)::more)
theorem nJ.length:∀{xs:List Value} {more:List (KI×Value)},nJ h xs more->more.length=xs.length
 |_,_,.nil=>rfl
 |_,_,.cons _ _ r=>by simp[nJ.length r]
set_option tactic.hygienic true in
theorem EF(hh:A.handled=none)(sx:I≠D)(yd:l≠I)(ye:l≠D)(hI:∀o,h₀.get? I≠some o)(hD:∀o,h₀.get? D≠some o)(hl:h₀.IsList l items.toArray){R:Result->Shared->Prop}:
 ∀(rest:List Value) (more:List (KI×Value)) (done:List Value) (acc:List (KI×Value)) (s:Shared) (i:Int) (u:Tok),items=done++rest->nJ h₀ rest more->acc.length+more.length<=2000->(∀b o,b≠I->b≠D->h₀.get? b=some o->s.heap.get? b=some o)->
  s.heap.IsListIter I l done.length->s.heap.DictOf (gN) D acc->
  (∀h' tk,(∀b o,b≠I->b≠D->h₀.get? b=some o->h'.get? b=some o)->h'.DictOf (gN) D (merged acc more)->R (.ok (.ret .none)) {s with heap:=h',toks:=tk})->
  codeAny (model prog w) A (.builtin "dict.update.loop" ⟨[.ref D,.ref I,.int i u,.none],[]⟩) R s
 |[],_,done,acc,s,i,u,hi,.nil,hz,hk,hit,hd,hR=>by
  have oG:s.heap.IsList l items.toArray:=by obtain⟨o,ho,r⟩:=hl;exact(a0 o (hk l o yd ye ho) r)
  refine codeAny_builtin D9 ?_;rw[Around.under_plainId wa _];refine wpAny_bind (wpAny_pyNext_list_end (A:=A.in1) hh hit oG (by rw[hi];simp) λh' he=>?_);show wpAny _ _ (Builtin.Dict.addKeywords D []>>=λ_=>ret .none) _ _ _;refine wpAny_bind (m:=Builtin.Dict.addKeywords D []) (wpAny_pure (wpAny_pure ?_));exact hR h' s.toks (λb o h1 h2 e=>he b o h1 (hk b o h1 h2 e)) (hd.extBut he sx.symm)
 |x::rest,more,done,acc,s,i,u,hi,tp,hz,hk,hit,hd,hR=>by
  cases tp with
  |cons hT xt hr=>
  rename_i T key v k more;have oG:s.heap.IsList l items.toArray:=by obtain⟨o,ho,r⟩:=hl;exact(a0 o (hk l o yd ye ho) r)
  have qO:T≠I:=by clear sx hR hit hk yd;rintro rfl;obtain⟨o,ho,_⟩:=hT;exact hI o ho
  have T4:T≠D:=by clear hd ye;clear sx hR hk;rintro rfl;obtain⟨o,ho,_⟩:=hT;exact hD o ho
  refine codeAny_builtin D9 ?_;rw[Around.under_plainId wa _];refine wpAny_bind (wpAny_pyNext_list_item (A:=A.in1) hit oG (x:=.ref T) (by rw[hi];simp) λcZ Pe AV=>?_);have Rb:cZ.IsTuple T #[key,v]:=by obtain⟨o,ho,r⟩:=hT;exact(a0 o (AV.extBut T o qO (hk T o qO T4 ho)) r)
  have Rd:cZ.DictOf (gN) D acc:=hd.sameBut AV sx.symm;obtain⟨oT,yb,Cc,nT,T5⟩:=id Rb;refine wpAny_bind (wpAny_holding (wpAny_bind (wpAny_tryCatch ?_)));refine wpAny_bind (wpAny_typeOf (T:="tuple") ⟨oT,yb,Cc⟩ ?_);rw[if_pos (by decide)];refine wpAny_bind (wpAny_seqItems yb T5 (wpAny_pure ?_));refine wpAny_holding (wpAny_dictSet_pairs xt Rd (λcu t9 xd=>?_) (by rw[sizeLine_eq];omega));refine wpAny_pure ⟨plainId_quiet wa _,?_⟩;have Rf:∀b o,b≠I->b≠D->h₀.get? b=some o->cu.get? b=some o:=λb o h1 h2 e=>xd.extBut b o h2 (AV.extBut b o h1 (hk b o h1 h2 e));have hlen:(done++[Value.ref T]).length=done.length+1:=by simp
  refine EF hh sx yd ye hI hD hl rest _ (done++[.ref T]) (stored acc k v) _ (i+1) _ (by rw[hi];simp) hr ?_ Rf (hlen▸(Pe.extBut xd.extBut sx)) t9 λh' tk fw gv=>?_
  .have:=stored_length_le acc k v;simp only[List.length_cons]at hz;omega
  .exact hR h' tk fw gv
end
end
section
section
theorem Kv{E:Value->Shared->Prop}{c:Nat}{Q:Value->Shared->Prop}(hh:A.handled=none)(hl:s.heap.get? l=some (cG items c))(ht:nJ s.heap items more)(hz:more.length<=1500)
 (h:∀h' tk D,(∀b o,s.heap.get? b=some o->h'.get? b=some o)->s.heap.objs.size<=D->h'.DictOf (gN) D (merged [] more)->Q (.ref D) {s with heap:=h',toks:=tk}):
 wpAny (model prog w) A (call (.type "dict") [.ref l]) Q E s:=by
 refine callType_codes (Q₁:=λobj gu=>obj=.ref s.heap.objs.size/\gu={s with heap:=s.heap.push {cls:=.type "dict",data:=.dict #[]}}) F.kt_called_dict (F.kt_typeCall_dict_1 _) F.entry_dict_init (kt_code_dict_new _ ⟨rfl,rfl⟩) ?_;rintro obj gu ⟨rfl,rfl⟩;have BN:(s.heap.push {cls:=.type "dict",data:=.dict #[]}).DictOf (gN) s.heap.objs.size []:=Heap.DictOf.new s.heap;have oG:=Heap.get?_push_of_some {cls:=.type "dict",data:=.dict #[]} hl;refine⟨BN.typeIs,F.args_dict_init_2 _ _,?_⟩;refine wpAny_bind ?_;refine wpAny_bind (wpAny_notOrdered_dict BN.typeIs ?_);show wpAny _ _ (pure (s.heap.objs.size,[Value.ref l])) _ _ _;refine wpAny_pure ?_;show wpAny _ _ (Builtin.Dict.updateFrom "dict.__init__" s.heap.objs.size (.ref l) [] .none) _ _ _;refine wpAny_bind (wpAny_typeOf (T:="list") ⟨_,oG,rfl⟩ ?_);rw[if_pos (by decide)];have hD:=Heap.get?_push_size s.heap (o:={cls:=.type "dict",data:=.dict #[]}) rfl;refine wpAny_bind (K7 oG hh λcZ g6 xe=>?_);have sz:s.heap.objs.size+1<=cZ.objs.size:=Heap.lt_size (xe _ _ hD);have Rg:=xe _ _ oG;have hk:∀b o,s.heap.get? b=some o->cZ.get? b=some o:=λb o e=>xe _ _ (Heap.get?_push_of_some _ e);refine wpAny_bind (wpAny_rule (wpAny_bind (wpAny_pyIter_list ⟨_,Rg,rfl,c,rfl⟩ ?_)));refine wpAny_pure ⟨plainId_quiet wa _,?_⟩;have ne:∀b o,s.heap.get? b=some o->b≠cZ.objs.size/\b≠s.heap.objs.size:=λb o e=>by have:=Heap.lt_size e;exact⟨ne_of_lt (lt_of_lt_of_le this (Nat.le_of_succ_le sz)),ne_of_lt this⟩
 show codeAny (model prog w) A.in1 (.builtin "dict.update.loop" ⟨[.ref s.heap.objs.size,.ref cZ.objs.size,.int 0 0,.none],[]⟩) _ {s with heap:=cZ.push {cls:=.type "list_iterator",data:=.fields #[.ref l,.int 0 0]},toks:=g6};refine EF (A:=A.in1) (h₀:=s.heap) (D:=s.heap.objs.size) (I:=cZ.objs.size) (l:=l) (items:=items) hh (Nat.ne_of_gt sz) (ne _ _ hl).1 (ne _ _ hl).2 (λo e=>(ne _ _ e).1 rfl) (λo e=>(ne _ _ e).2 rfl) ⟨_,hl,rfl,c,rfl⟩ items more [] [] {s with heap:=cZ.push {cls:=.type "list_iterator",data:=.fields #[.ref l,.int 0 0]},toks:=g6} 0 0 rfl ht (by simp;omega)
  ?_ ?_ ?_ λh' tk fw gv=>?_
 .exact λb o _ _ e=>Heap.get?_push_of_some _ (hk b o e)
 .exact cA _ (Heap.get?_push_size _ rfl) rfl rfl
 .refine nA BN λo es ep h1 r=>?_;exact wZ o es ep (Heap.get?_push_of_some _ (xe _ _ h1)) r
 .exact⟨rfl,h h' tk _ (λb o e=>fw b o (ne b o e).1 (ne b o e).2 e) (le_refl _) gv⟩
variable{sc:Scope}{n μ:Nat}
noncomputable def nh:List V->Option (List (V×V))
 |[]=>some []
 |.tup [k,v]::r=>(nh r).map λps=>(k,v)::ps
 |_=>none
def rF(a:ML):ME:=ay a λxs _ ms=>match nh xs with
 |some ps=>match nI [] ps with
  |some es=>if es.length<=1000 then some (.ref ms.length,ms++[.dict es])else none
  |none=>none
 |none=>none
theorem Mi(hv:aA g (.tup [k,v]) x):∃a n y z,x=.ref a/\(a,nq [y,z] n)∈g.news/\aA g k y/\aA g v z:=by
 apply aA.tK hv;intro u6 u7 u9 m t hv;cases hv with
 |cons jt hv=>
 cases hv with
 |cons Cj hv=>
 cases hv;exact Qg _ _ _ _ rfl m jt Cj
theorem JF(h:nh (v::vs)=some ps):∃k u qs,v=.tup [k,u]/\nh vs=some qs/\(k,u)::qs=ps:=by
 unfold nh at h;split at h
 .rename_i e;cases e
 .rename_i e;cases e;refine az (map_eq_some_iff.mp h) λqs h1 h2=>?_;exact qk _ _ qs rfl h1 h2
 .exact aX h
theorem Mj(R:aJ g ms h)(r:bD g xs items):∀{ps:List (V×V)} {es bu:List (DK×V)} {kvs:List (KI×Value)},nh xs=some ps->d6 g es kvs->nI es ps=some bu->
 ∃more,nJ h items more/\d6 g bu (merged kvs more):=by
 refine r.ind (P:=λxs items=>∀{ps:List (V×V)} {es bu:List (DK×V)} {kvs:List (KI×Value)},nh xs=some ps->d6 g es kvs->nI es ps=some bu->
  ∃more,nJ h items more/\d6 g bu (merged kvs more)) (λhp hd ha=>?_) λv x vs xs hv hr ih {ps es bu kvs} hp hd ha=>?_
 .cases hp;cases ha;exact(a0 ([]) .nil hd)
 .refine lR (JF hp) λk u qs ev vb ep=>?_;clear hp;subst ev ep;refine Sk (Mi hv) λa cn y z ex m jt Cj=>?_;clear hv;subst ex;refine tU ha λd hk ha=>?_;refine az (ih vb (hd.stored (k:=d) Cj) ha) λmore h1 h2=>?_;exact a0 ((ki d,z)::more) (.cons ⟨_,R.led _ _ m,rfl,cn,rfl⟩ (rA hk jt) h1) h2
theorem NA(h:iG sc n μ e a)(hi:gh B.K "dict" (.type "dict"))(hx:sc.names.lookup (ofString "dict")=some .globalImplicit)
 (he:∀J,starEach [e] J=(false,eval e J)::starEach [] J)(cH:∀J,(backTo pos (starEach [e] J)).any (·.1)=false):
 aQ sc n μ (.Call (.Name (ofString "dict") px) [e] [] pos) (rF a):=by
 intro A J g ms s l E Q p r ms' hm;apply fh hm;intro P go r ms' hm;refine bY hm λxs aF q1 q2=>?_;refine Qt q2 λps e1 q2=>?_;refine GR q2 λes e2 q2=>?_;refine bT (jw (vs:=[]) (ms:=ms) (ms':=ms) q2) λhz q2=>?_;refine eZ q2 (go _ _ λhQ=>?_);refine wpAny_Call_NameR (jI p hx hi.miss hi.boot hi.no hi.jS ?_);refine PyProof.Rows.callWith_type (cH J) (jY (cH J) ?_);refine args_cons (h p q1 λx h' tk g' R L lp=>?_) (he J);refine args_nil ?_;apply LP.K lp;intro k items c m1 t1 v1 z1 f1;refine az (Mj R v1 e1 (es:=[]) .nil e2) λmore t2 d2=>?_;refine jG ?_;refine Kv (s:={s with heap:=h',toks:=tk}) p.fk.hh (R.led _ _ m1) t2 (by rw[t2.length,v1.length];omega) λcu hO D hk hD hd sz=>?_;refine az (Heap.dictOf_iff.mp hd) λo' bP gv=>?_;refine fI (ti R hk sz hD bP (.obj aF.length "")) λda bS bx m₂ jC=>?_;have LL:Le 0 cC g' (da.obj D):=bx.trans Le.obj;have dq:=bS.newObj (a:=D) (mo:=.dict es) jC ⟨o',_,m₂,gv,d2.mono LL (cx _),hz⟩;exact hQ _ _ _ _ dq (L.trans (LL.up (zero_le _))) (.ref (by simp[G.obj,<-bS.len]))
end
end
section
mutual
noncomputable def pd:V->Option PyData
 |.none=>some .none
 |.bool b=>some (.bool b)
 |.int i=>some (.int i)
 |.str s=>some (.str (ofString s))
 |.tup vs=>(pM vs).map .tuple
 |.lst vs=>(pM vs).map .list
 |_=>none
noncomputable def pM:List V->Option (List PyData)
 |[]=>some []
 |v::vs=>match pd v,pM vs with
  |some d,some ds=>some (d::ds)
  |_,_=>none
end
section
variable{sc:Scope}{n μ:Nat}
theorem Kw(R:aJ g ms h)(r:aA g v x):∀d:PyData,pd v=some d->∃as,Reads h x d as:=by
 refine aA.rec (motive_1:=λv x _=>∀d:PyData,pd v=some d->∃as,Reads h x d as) (motive_2:=λvs xs _=>∀ds:List PyData,pM vs=some ds->∃as,ReadsAll h xs ds as) ?_ ?_ ?_ ?_ ?_ ?_ ?_ ?_ ?_ ?_ ?_ r
 .intro d e;delta pd at e;cases e;exact⟨_,.none⟩
 .intro b d e;delta pd at e;cases e;exact⟨_,.bool _⟩
 .intro b t d e;delta pd at e;cases e;exact⟨_,.int _ _⟩
 .intro b t d e;delta pd at e;cases e;exact⟨_,.str _ _⟩
 .intro i a _ d e;delta pd at e;cases e
 .intro a dx _ _ d e;delta pd at e;cases e
 .intro a pJ n vs m t _ ih d e;refine az (map_eq_some_iff.mp e) λds h1 h2=>?_;subst h2;exact(ih _ h1).elim λas q=>⟨_,reads_tuple_at (R.led _ _ m) rfl rfl (by simpa using q)⟩
 .intro a pJ n vs m t _ ih d e;refine az (map_eq_some_iff.mp e) λds h1 h2=>?_;subst h2;exact(ih _ h1).elim λas q=>⟨_,reads_list_at (R.led _ _ m) rfl rfl (by simpa using q)⟩
 .intro a n t u v _ _ _ d e;delta pd at e;cases e
 .intro d e;delta pM at e;cases e;exact⟨_,.nil⟩
 .intro v x vs xs a b T6 T7 ds e;unfold pM at e;split at e
  .rename_i d ds e1 e2;apply gg e;exact(T6 _ e1).elim λas q=>(T7 _ e2).elim λbs q'=>⟨_,.cons q q'⟩
  .exact aX e
theorem EG(R:aJ g ms h)(r:aA g v x)(e:pd v=some d):∃as,Reads h x d as:=Kw R r d e
def mS(op:CmpOp)(a b:V):Option Bool:=match pd a,pd b with
 |some d,some e=>if SeqAt.shaped d=true/\SeqAt.shaped e=true then(match op with
  |.Eq=>some (PyData.eqv d e)
  |.NotEq=>some (!PyData.eqv d e)
  |_=>none)else none
 |_,_=>none
theorem ip.wH{n:Nat}(b:ip A n):A.units+64<cLine:=by have:=b.units;show A.units+64<9900;omega
set_option tactic.hygienic true in
theorem EH{E:Value->Shared->Prop}{c:Bool}{Q:Value->Shared->Prop}(fk:ip A n)(R:aJ g ms s.heap)(ha:aA g a x)(hb:aA g b y)(h:mS op a b=some c)
 (hQ:Q (.bool c) s):wpAny (model prog w) A (compareOp op x y) Q E s:=by
 unfold mS at h;split at h<;>try(exact aX h)
 rename_i d e e1 e2;refine bT (jw (vs:=[]) (ms:=ms) (ms':=ms) h) λhs h=>?_;refine cW (EG R ha e1) λas r1=>?_;refine cW (EG R hb e2) λbs r2=>?_;split at h<;>cases h
 .exact eq_dataH r1 r2 hs.1 hs.2 fk.wH hQ
 .exact ne_dataH r1 r2 hs.1 hs.2 fk.wH hQ
def ub(op:CmpOp)(a b:ME):ME:=ay a λx=>ay b λy _ ms=>(mS op x y).map λc=>(.bool c,ms)
theorem Pf(h1:aQ sc n μ e a)(h2:aQ sc n μ f b)(iq:behindInMarks op f=false):aQ sc n μ (.Compare e [op] [f] pos) (ub op a b):=by intro A J g ms s l E Q p r ms' hm hQ;refine bY hm λx aF q1 q2=>?_;refine bY q2 λy cf q2 q3=>?_;refine wpAny_Compare1 (h1 p q1 λx' h' tk g' R L v=>?_) iq;refine h2 (s:={s with heap:=h',toks:=tk}) (p.next L R) q2 λy' bN b0 bp R' L' v'=>?_;simp only[map_eq_some_iff]at q3;obtain⟨k,hk,e⟩:=q3;clear hm q2;clear q2;cases e;exact EH p.fk R' (v.mono L' (cx _)) v' hk (hQ _ _ _ bp R' (L.trans L') (.bool _))
def qq(op:CmpOp)(a b:ME):MB:=ay a λx=>ay b λy _ ms=>(mS op x y).map λc=>(c,ms)
theorem Pg(h1:aQ sc n μ e a)(h2:aQ sc n μ f b)(iq:behindInMarks op f=false):hK sc n μ (.Compare e [op] [f] pos) (qq op a b):=by intro A J g ms s l E Q p r ms' hm hQ;refine bY hm λx aF q1 q2=>?_;refine bY q2 λy cf q2 q3=>?_;refine wpAny_isTrue_Compare1 (h1 p q1 λx' h' tk g' R L v=>?_) iq;refine h2 (s:={s with heap:=h',toks:=tk}) (p.next L R) q2 λy' bN b0 bp R' L' v'=>?_;simp only[map_eq_some_iff]at q3;obtain⟨k,hk,e⟩:=q3;clear q2;cases e;exact EH p.fk R' (v.mono L' (cx _)) v' hk (wpAny_truthy_bool (hQ _ _ _ bp R' (L.trans L') rfl))
theorem Jj(l b:Addr)(items tM:Array Value)(n n2:Nat)(dd T8:Option Addr)(sl T9:Array (Option Value))(WV:(items.size !=tM.size)=true):
 Meets (Builtin.«list.__ne__» ⟨[.ref l,.ref b],[]⟩)
  (λ_ R s=>s.heap.get? l=some {cls:=.type "list",dict:=dd,data:=.seq items n,slots:=sl}/\s.heap.get? b=some {cls:=.type "list",dict:=T8,data:=.seq tM n2,slots:=T9}/\
   R (.ok (.ret (.bool true))) s):=
 .of_wp λprog w A R s h=>by
  obtain⟨hp,g,d,tk,os⟩:=s;obtain⟨hl,hb,h⟩:=h;have f3:=AutoSeq1.sub_list_list
  wp_walk using wpAny_loadPart' hl,wpAny_loadPart' hb
  exact a0 _ rfl h
theorem DO{E:Value->Shared->Prop}{c c2:Nat}{Q:Value->Shared->Prop}(fk:ip A n)(hl:s.heap.get? k=some (cG items c))(hb:s.heap.get? b=some (cG [] c2))(hQ:Q (.bool (!items.isEmpty)) s):
 wpAny (model prog w) A (compareOp .NotEq (.ref k) (.ref b)) Q E s:=by
 cases items with
 |nil=>exact ne_dataH (reads_list_at hl rfl rfl .nil) (reads_list_at hb rfl rfl .nil) rfl rfl fk.wH hQ
 |cons x r=>
  exact richCompare_meets_room (op:=.NotEq) ⟨_,hl,rfl⟩ ⟨_,hb,rfl⟩ F.slot_list_ne F.entry_list_ne (F.args_list_ne_2 _ _) (Jj k b (x::r).toArray [].toArray c c2 none none #[] #[] rfl)
   ⟨hl,hb,show Value.bool true≠Value.notImplemented/\Q (.bool true) s from⟨(λx=>nomatch x),hQ⟩⟩ fk.GS
theorem Kx{E:Value->Shared->Prop}{c c2:Nat}{Q:Value->Shared->Prop}(fk:ip A n)(hl:s.heap.get? k=some (cG items c))(hb:s.heap.get? b=some (cG [] c2))(hQ:Q (.bool items.isEmpty) s):
 wpAny (model prog w) A (compareOp .Eq (.ref k) (.ref b)) Q E s:=by
 cases items with
 |nil=>exact eq_dataH (reads_list_at hl rfl rfl .nil) (reads_list_at hb rfl rfl .nil) rfl rfl fk.wH hQ
 |cons x r=>exact SeqAt.eq_list_lengthsAt ⟨_,hl,rfl,c,rfl⟩ ⟨_,hb,rfl,c2,rfl⟩ rfl fk.GS hQ
def qc(a:ML):MB:=ay a λxs _ ms=>some (!xs.isEmpty,ms)
def tN(a:ML):ME:=ay a λxs _ ms=>some (.bool (!xs.isEmpty),ms)
def qd(a:ML):ME:=ay a λxs _ ms=>some (.bool xs.isEmpty,ms)
theorem zA{E:Value->Shared->Prop}{Q:Value->Shared->Prop}(R:aJ g ms s.heap)(lx:LX g xs x)
 (hQ:∀k b items c c2 h' g',x=.ref k->h'.get? k=some (cG items c)->h'.get? b=some (cG [] c2)->items.isEmpty=xs.isEmpty->aJ g' ms h'->Le 0 cC g g'->Q (.ref b) {s with heap:=h'}):wpAny (model prog w) A (eval (.List [] pos) J) Q E s:=by
 obtain⟨k,items,c,rfl,m,t,v,z⟩:=lx;refine List_ (args_nil (Dx (vs:=[]) R .nil (zero_le _) λx' h' g' R' L' lp=>?_));obtain⟨b,pL,c2,e1,m2,t2,v2,_⟩:=lp;subst e1;cases v2;have q:=L'.keep _ _ m (λq=>t (q.up (zero_le _))) id;have e:items.isEmpty=xs.isEmpty:=by clear hQ m q z;cases v<;>rfl
 exact hQ k b items c c2 h' g' rfl (R'.led _ _ q.1) (R'.led _ _ m2) e R' L'
theorem NB(h1:ij sc n μ e a)(iq:behindInMarks .NotEq (.List [] p2)=false):hK sc n μ (.Compare e [.NotEq] [.List [] p2] pos) (qc a):=by intro A J g ms s l E Q p r ms' hm;apply fh hm;intro P go r ms' hm;refine bY hm λxs aF q1 q2=>?_;refine eZ q2 (go _ _ λhQ=>?_);refine wpAny_isTrue_Compare1 (h1 p q1 λx' h' tk g' R L lx=>?_) iq;refine zA (s:={s with heap:=h',toks:=tk}) R lx λk b items c c2 cu da e1 hl hb he bS bx=>?_;clear lx;subst e1;refine DO (s:={s with heap:=cu,toks:=tk}) p.fk hl hb (wpAny_truthy_bool ?_);rw[he];exact hQ _ _ _ da bS (L.trans (bx.up (zero_le _))) rfl
theorem NC(h1:ij sc n μ e a)(iq:behindInMarks .NotEq (.List [] p2)=false):aQ sc n μ (.Compare e [.NotEq] [.List [] p2] pos) (tN a):=by intro A J g ms s l E Q p r ms' hm;apply fh hm;intro P go r ms' hm;refine bY hm λxs aF q1 q2=>?_;refine eZ q2 (go _ _ λhQ=>?_);refine wpAny_Compare1 (h1 p q1 λx' h' tk g' R L lx=>?_) iq;refine zA (s:={s with heap:=h',toks:=tk}) R lx λk b items c c2 cu da e1 hl hb he bS bx=>?_;clear lx;subst e1;refine DO (s:={s with heap:=cu,toks:=tk}) p.fk hl hb ?_;rw[he];exact hQ _ _ _ da bS (L.trans (bx.up (zero_le _))) (.bool _)
theorem ND(h1:ij sc n μ e a)(iq:behindInMarks .Eq (.List [] p2)=false):aQ sc n μ (.Compare e [.Eq] [.List [] p2] pos) (qd a):=by intro A J g ms s l E Q p r ms' hm;apply fh hm;intro P go r ms' hm;refine bY hm λxs aF q1 q2=>?_;refine eZ q2 (go _ _ λhQ=>?_);refine wpAny_Compare1 (h1 p q1 λx' h' tk g' R L lx=>?_) iq;refine zA (s:={s with heap:=h',toks:=tk}) R lx λk b items c c2 cu da e1 hl hb he bS bx=>?_;clear lx;subst e1;refine Kx (s:={s with heap:=cu,toks:=tk}) p.fk hl hb ?_;rw[he];exact hQ _ _ _ da bS (L.trans (bx.up (zero_le _))) (.bool _)
end
end
section
section
variable{sc:Scope}{n μ:Nat}
noncomputable abbrev MT:=V->av->Hp->Option (av×Hp)
def j7(sc:Scope)(n μ:Nat)(t:Env->Value->Sem Unit)(f:MT):Prop:=
 ∀⦃A:Around⦄ ⦃J:Env⦄ ⦃g:G⦄ ⦃ms:Hp⦄ ⦃s:Shared⦄ ⦃l:av⦄ ⦃E:Value->Shared->Prop⦄ ⦃Q:Unit->Shared->Prop⦄ ⦃v:V⦄ ⦃x:Value⦄,fK sc n A J g ms s.heap l->aA g v x->∀{l':av} {ms':Hp},f v l ms=some (l',ms')->
  (∀h' tk g',fC sc μ J g g' ms' h' l'->Q () {s with heap:=h',toks:=tk})->wpAny (model prog w) A (t J x) Q E s
abbrev qe(sc:Scope)(n μ:Nat)(t:Expr)(f:MT):Prop:=j7 sc n μ (λJ=>assign t J) f
def cP(x:String):MT:=λv l ms=>some (l.set x v,ms)
theorem NF(hk:sc.names.lookup (ofString x)=some .local\/sc.names.lookup (ofString x)=some .cell):qe sc n μ (.Name (ofString x) px) (cP x):=by intro A J g ms s l E Q v y p hv l' ms' h hQ;cases h;exact wpAny_assign_Name (oY p hv hk hQ)
def iD(o i:ME):MT:=λv l ms=>match o l ms with
 |some (p,aF)=>match i l aF with
  |some (k,cf)=>(k9 p k v cf).map λmK=>(l,mK)
  |none=>none
 |none=>none
theorem Ph(ho:aQ sc n 2 eo o)(hi:aQ sc n 2 ei i):qe sc n 2 (.Subscript eo ei ap) (iD o i):=by intro A J g ms s l E Q v y p hv l' ms' h hQ;refine j9 h λq aF e1 h=>?_;refine j9 h λk cf e2 h=>?_;refine az (map_eq_some_iff.mp h) λmK e3 e=>?_;clear h;clear h;clear h;cases e;dsimp only;rw[assign_Subscript];refine wpAny_bind (wpAny_holding (ho p e1 λz h' tk g' R L vr=>?_));refine wpAny_bind (wpAny_holding (hi (s:={s with heap:=h',toks:=tk}) (p.next L R) e2 λz' bN b0 bp R' L' lq=>?_));refine wpAny_bind (wpAny_standAt (wpAny_bind (wpAny_holding ?_)));refine Ew (s:={s with heap:=bN,toks:=b0}) R' (vr.mono L' (cx _)) lq ((hv.mono L (cx _)).mono L' (cx _)) e3 λfi gP cQ dq cF=>?_;exact wpAny_release (hQ _ _ cQ (fC.of p dq ((L.trans L').trans cF)))
def mM(f:String)(o:ME):MT:=λv l ms=>match o l ms with
 |some (.ref i,aF)=>match aF[i]? with
  |some (.inst c fs)=>if fs.length<=500 then some (l,aF.set i (.inst c (fj f (.val v) fs)))else none
  |_=>none
 |_=>none
set_option tactic.hygienic true in
theorem NG(ho:aQ sc n μ eo o)(fY:1<=μ)(hf:f∈hB):qe sc n μ (.Attribute eo (ofString f) ap) (mM f o):=by intro A J g ms s l E Q v y p hv l' ms' h hQ;refine oA h λi aF e1 h=>?_;refine lU h λc fs e2 h=>?_;obtain⟨hz,h⟩:=jw (vs:=[]) (ms:=ms) (ms':=ms) h;cases h;dsimp only;rw[assign_Attribute];refine wpAny_bind (wpAny_holding (ho p e1 λz h' tk g' R L vr=>?_));cases vr;rename_i a ha;refine wpAny_bind (wpAny_standAt (wpAny_bind (wpAny_holding ?_)));refine sU (s:={s with heap:=h',toks:=tk}) R e2 ha hf hz (fv:=.val v) (hv.mono L (cx _)) λfi gP cQ dq cF=>?_;exact wpAny_release (hQ _ _ cQ (fC.of p dq (L.trans (cF.up fY))))
noncomputable abbrev oH:=List V->av->Hp->Option (av×Hp)
def j6(sc:Scope)(n μ:Nat)(t:Env->List (Value->Sem Unit))(f:oH):Prop:=
 ∀⦃A:Around⦄ ⦃J:Env⦄ ⦃g:G⦄ ⦃ms:Hp⦄ ⦃s:Shared⦄ ⦃l:av⦄ ⦃E:Value->Shared->Prop⦄ ⦃Q:Unit->Shared->Prop⦄ ⦃vs:List V⦄ ⦃xs:List Value⦄,fK sc n A J g ms s.heap l->bD g vs xs->∀{l':av} {ms':Hp},f vs l ms=some (l',ms')->
  (∀h' tk g',fC sc μ J g g' ms' h' l'->Q () {s with heap:=h',toks:=tk})->wpAny (model prog w) A (assignInOrder (t J) xs) Q E s
noncomputable def fo:oH:=λvs l ms=>match vs with
 |[]=>some (l,ms)
 |_=>none
noncomputable def bM(a:MT)(b:oH):oH:=λvs l ms=>match vs with
 |v::vs=>match a v l ms with
  |some (l',ms')=>b vs l' ms'
  |none=>none
 |[]=>none
theorem Ff:j6 sc n μ (λ_=>[]) fo:=by
 intro A J g ms s l E Q vs xs p hv l' ms' h hQ;unfold fo at h;cases vs with
 |cons=>exact aX h
 |nil=>
 cases h;apply bD.nK hv;exact assignInOrder_nil (hQ _ s.toks g (fC.of p p.rel (.refl _ _ _)))
set_option tactic.hygienic true in
theorem D'{t:Env->Value->Sem Unit}{ts:Env->List (Value->Sem Unit)}
 (h1:j7 sc n μ t a)
 (h2:j6 sc n μ ts b):j6 sc n μ (λJ=>t J::ts J) (bM a b):=by
 intro A J g ms s l E Q vs xs p hv l' ms' h hQ;unfold bM at h;cases vs with
 |nil=>exact aX h
 |cons v vs=>
 refine Qw h λil aF e1 h=>?_;apply bD.cK hv;intro Wv V2 hx hr;refine assignInOrder_cons (h1 p hx e1 λh' tk g' P=>?_);exact h2 (s:={s with heap:=h',toks:=tk}) (P.pre p) (hr.mono P.le p.ok.off) h λbN b0 bp P'=>hQ _ _ _ (P.trans P')
theorem Mk(h1:qe sc n μ t a)(h2:j6 sc n μ (λJ=>(assignEach ts J).map (·.2)) b)
 (he:∀J,assignEach (t::ts) J=(false,assign t J)::assignEach ts J):j6 sc n μ (λJ=>(assignEach (t::ts) J).map (·.2)) (bM a b):=by
 intro A J g ms s l E Q vs xs p hv l' ms' h hQ;dsimp only;rw[he J];exact D' (t:=λJ=>assign t J) h1 h2 p hv h hQ
noncomputable def dY(k:Nat)(m:ME)(f:oH):MS:=λl ms=>match m l ms with
 |some (.tup vs,ms')=>if vs.length=k then(f vs l ms').map λr=>(.next,r.1,r.2)else none
 |_=>none
set_option tactic.hygienic true in
theorem Ml{k:Nat}{tk:Nat}(h:aQ sc n μ e m)(hf:j6 sc n μ (λJ=>(assignEach ts J).map (·.2)) f)(hn:∀J,(assignEach ts J).length=k)(AJ:∀J,(assignEach ts J).findIdx? (·.1)=none)
 (hs:∀J:Env,swapsWithSole [.Tuple ts tk tp] e pos.line J=pure false)(hw:∀J:Env,J.scope=sc->swappedStores [.Tuple ts tk tp] e J=pure none):hM sc n μ (.Assign [.Tuple ts tk tp] e pos) (dY k m f):=by
 intro A J g ms s l E Q p r l' ms' hm hQ;unfold dY at hm;refine GN hm λvs aF e1 hm=>?_;refine bT (jw (vs:=[]) (ms:=ms) (ms':=ms) hm) λhk hm=>?_;refine az (map_eq_some_iff.mp hm) λly e2 e=>?_;obtain⟨il,cf⟩:=ly;clear hm;clear hm;clear hm;cases e;refine Assign_Tuple (h p e1 λx h' b0 g' R L v=>?_) (hs J) (hw J p.sc);apply aA.tK v;intro T items c m t v;refine yW (s:={s with heap:=h',toks:=b0}) (items:=items) p.fk.hh R ⟨_,R.led _ _ m,rfl,c,rfl⟩ (by rw[hn,v.length,hk]) (AJ J) λcu da bS bx=>?_;have LL:=L.trans (bx.up (zero_le μ));exact hf (s:={s with heap:=cu,toks:=b0}) (p.next LL bS) (v.mono bx (cx _)) e2 λfi gP cQ P=>hQ _ _ _ cQ (P.after LL) rfl
set_option tactic.hygienic true in
theorem Pj{f:oH}{names:List Str}{tk:Nat}(h:aQ sc n μ e m)(hf:j6 sc n μ (λJ=>names.reverse.map λx=>bindName J x) f)
 (hs:∀J:Env,swapsWithSole [.Tuple ts tk tp] e pos.line J=pure false)(hw:∀J:Env,J.scope=sc->swappedStores [.Tuple ts tk tp] e J=pure (some names)):hM sc n μ (.Assign [.Tuple ts tk tp] e pos) (dY names.length m λvs=>f vs.reverse):=by
 intro A J g ms s l E Q p r l' ms' hm hQ;unfold dY at hm;refine GN hm λvs aF e1 hm=>?_;refine bT (jw (vs:=[]) (ms:=ms) (ms':=ms) hm) λhk hm=>?_;refine az (map_eq_some_iff.mp hm) λly e2 e=>?_;obtain⟨il,cf⟩:=ly;clear hm;clear hm;clear hm;cases e;refine Assign_Tuple_swapped (h p e1 λx h' b0 g' R L v=>?_) (hs J) (hw J p.sc);apply aA.tK v;intro T items c m t v;have hlen:names.length=items.length:=by rw[v.length,hk]
 rw[hlen];refine jG ?_;have q:=unpackItems_tuple (prog:=prog) (w:=w) (A:=A) (E:=E) (s:={s with heap:=h',toks:=b0}) (t:=T) (items:=items.toArray) (Q:=λpJ s'=>fZ {s with heap:=h',toks:=b0}<=fZ s'->wpAny (model prog w) A (assignInOrder (names.reverse.map λn=>bindName J n) pJ.reverse) (λ_=>Q .next) E s') p.fk.hh ⟨_,R.led _ _ m,rfl,c,rfl⟩ λcu he sz=>?_
 .simpa using q
 .refine bT (R.extBut he sz) λbS bx=>?_;have LL:=L.trans (bx.up (zero_le μ));have BL:=v.mono bx (cx _);have rev:bD {g' with top:=cu.objs.size} vs.reverse items.reverse:=by
   refine bD.of_get (by simp[v.length]) λj u y e e'=>?_;have hl:=v.length;have hj:j<vs.length:=by have:=(List.getElem?_eq_some_iff.mp e).1;simpa using this
   rw[List.getElem?_reverse hj]at e;rw[List.getElem?_reverse (by rw[hl];exact hj),hl]at e';refine az (BL.get e) λy' vi hr=>?_;rw[vi]at e';clear vi;cases e';exact hr
  have:=hf (s:={s with heap:=cu,toks:=b0}) (E:=E) (Q:=λ_=>Q .next) (p.next LL bS) rev e2 λfi gP cQ P=>hQ _ _ _ cQ (P.after LL) rfl;exact this
end
end
section
section
variable{sc:Scope}{n μ:Nat}
theorem NH(hk:sc.names.lookup (ofString x)=some .local\/sc.names.lookup (ofString x)=some .cell):
 j7 sc n μ (λJ=>bindName J (ofString x)) (cP x):=by
 intro A J g ms s l E Q v y p hv l' ms' h hQ;cases h;exact bindName_ (oY p hv hk hQ)
noncomputable def o8:List V->Option (List Int)
 |[]=>some []
 |.int i::r=>(o8 r).map λis=>i::is
 |_=>none
theorem JZ(r:bD g vs xs):o8 vs=some is->IntsAre xs is:=
 r.ind (P:=λvs xs=>∀{is:List Int},o8 vs=some is->IntsAre xs is) (λe=>by cases e;exact .nil) λv x vs xs hv hr ih {is} e=>by
  cases v<;>try(exact aX e)
  refine az (map_eq_some_iff.mp e) λWW h1 h2=>?_;clear e;cases h2;exact aA.iK (C:=λx=>IntsAre (x::xs) _) hv λt=>.cons _ _ (ih h1)
def uM(a:ML):ME:=ay a λxs _ ms=>match o8 xs with
 |some is=>is.max?.map λm=>(.int m,ms)
 |none=>none
set_option tactic.hygienic true in
theorem Rh(h:ij sc n μ e a)(hi:gh B.K "max" (.builtin "max"))(hx:sc.names.lookup (ofString "max")=some .globalImplicit)
 (he:∀J,starEach [e] J=(false,eval e J)::starEach [] J)(cH:∀J,(backTo pos (starEach [e] J)).any (·.1)=false):
 aQ sc n μ (.Call (.Name (ofString "max") px) [e] [] pos) (uM a):=by
 intro A J g ms s l E Q p r ms' hm hQ;refine bY hm λxs aF q1 q2=>?_;refine Qu q2 λis e1 q2=>?_;refine az (map_eq_some_iff.mp q2) λm e2 e=>?_;clear hm q2;clear q2;cases e;refine wpAny_Call_NameR (jI p hx hi.miss hi.boot hi.no hi.jS ?_);refine callWith_builtin (cH J) (jY (cH J) ?_);refine args_cons (h p q1 λx h' tk g' R L lx=>?_) (he J);refine args_nil ?_;refine lS (lx.isList R) λk items c gI m1 hl hv hz hlen=>?_;clear lx;subst gI;have hints:=JZ hv e1;refine cW hints.allInts.items λys ey=>?_;have ll:is=ys.toList.map (·.1):=by rw[<-hints.numsOf,<-nums_intItems,<-ey]
 have BO:=List.max?_eq_some_iff.mp e2;have fZ:0<ys.size:=by
  have:=List.ne_nil_of_mem BO.1;rw[ll]at this;have:=List.length_pos_iff.mpr this
  rwa [length_map,Array.length_toList]at this
 rw[ey]at hl;refine jG ?_;refine max_intList (s:={s with heap:=h',toks:=tk}) p.fk.hh hl fZ λv cu hO G4 hk sz=>?_;refine bT (R.ext hk sz) λbS bx=>?_;refine cW (intItems_at G4) λt bf=>?_;clear G4;subst bf;refine bT (argBest_gt (numAt ys) (ys.size-1)) λh1 h2=>?_;have T':numAt ys (argBest (λi j=>decide (numAt ys i>numAt ys j)) (ys.size-1))=m:=by
  have mem:numAt ys (argBest (λi j=>decide (numAt ys i>numAt ys j)) (ys.size-1))∈is:=by rw[ll,numAt_eq];exact getD_mem (by rw[length_map,Array.length_toList];omega)
  have up:m<=numAt ys (argBest (λi j=>decide (numAt ys i>numAt ys j)) (ys.size-1)):=by have yf:=BO.1;rw[ll]at yf;refine az (mem_getD yf) λj hj e=>?_;rw[length_map,Array.length_toList]at hj;rw[<-e,<-numAt_eq];exact h2 j (by omega)
  exact Int.le_antisymm (BO.2 _ mem) up
 rw[T'];exact hQ _ _ _ _ bS (L.trans (bx.up (zero_le _))) (.int _ _)
noncomputable def AW(s:String):List V:=s.toList.map λc=>V.str (String.singleton c)
def AX(m:ME):ML:=ay m λv _ ms=>match v with
 |.str s=>if(s.toList.map Char.toNat).all (·<128)then some (AW s,ms)else none
 |_=>none
set_option tactic.hygienic true in
theorem Pk(h:aQ sc n μ e m):jL sc n μ false e (AX m):=by
 intro A J g ms s l E Q p vs ms' hm;apply fh hm;intro P go vs ms' hm;refine bY hm λv aF q1 q2=>?_;cases v<;>try(exact aX q2)
 rename_i x;refine bT (jw (vs:=[]) (ms:=ms) (ms':=ms) q2) λha q2=>?_;refine eZ q2 (go _ _ λhQ=>?_);refine h p q1 λy h' tk g' R L hv=>?_;apply aA.sK hv;intro t;have BM:(ofString x).cps.all (·<128)=true:=by rw[Str.ofString_eq_toList];simpa using ha
 refine wpAny_pyIter_ascii BM ?_;refine jo (R.new {cls:=.type "str_ascii_iterator",data:=.fields #[.str (ofString x) t,.int 0 0]} .free rfl) λR' L' m' t' tp=>?_;have kc:=p.ok.mono L;have HM:(ofString x).cps=(x.toList.map Char.toNat).toArray:=by rw[Str.ofString_eq_toList]
 refine hQ _ _ _ _ R' (L.trans (L'.up (zero_le _))) (.walks (λA hA=>Walks.strAscii hA h'.objs.size (ofString x) t) (λi h st b hb=>?_) (λq=>by exact Bool.noConfusion q) ⟨λb hb=>hb,λb hb=>?_,λb hb=>?_⟩ (i:=0) ⟨_,R'.led _ _ m',rfl,rfl⟩ (by rw[HM];simp[AW]) λj v y e q=>?_)
 .simp at hb;subst hb;refine az st λo ho _=>?_;exact kP o ho
 .simp at hb;subst hb;exact cA _ m' (by rw[t'];exact id) (oW R kc (le_refl _))
 .simp at hb;subst hb;exact⟨t',le_trans L.top tp⟩
 .refine fH q λc u hc gI=>?_;clear q;subst gI;rw[HM]at hc;simp only[Nat.zero_add,List.getElem?_toArray,getElem?_map,map_eq_some_iff]at hc;simp only[AW,getElem?_map,map_eq_some_iff]at e;refine az e λd hd bL=>?_;clear e;subst bL;refine az hc λd' gv bL=>?_;clear hc;subst bL;rw[hd]at gv;cases gv;have:(⟨#[d.toNat]⟩:Str)=ofString (String.singleton d):=by rw[Str.ofString_eq_toList];simp
  rw[this];exact .str _ _
def BP(m:ME):ME:=ay m λv _ ms=>match v with
 |.str s=>match s.toList with
  |[c]=>some (.int (c.toNat:Int),ms)
  |_=>none
 |_=>none
set_option tactic.hygienic true in
theorem Ri(h:aQ sc n μ e m)(hi:gh B.K "ord" (.builtin "ord"))(hx:sc.names.lookup (ofString "ord")=some .globalImplicit)
 (he:∀J,starEach [e] J=(false,eval e J)::starEach [] J)(cH:∀J,(backTo pos (starEach [e] J)).any (·.1)=false):
 aQ sc n μ (.Call (.Name (ofString "ord") px) [e] [] pos) (BP m):=by
 intro A J g ms s l E Q p r ms' hm hQ;refine bY hm λv aF q1 q2=>?_;cases v<;>try(exact aX q2)
 rename_i x;dsimp only at q2;split at q2<;>(clear hm;cases q2);rename_i c hc;refine wpAny_Call_NameR (jI p hx hi.miss hi.boot hi.no hi.jS ?_);refine callWith_builtin (cH J) (jY (cH J) ?_);refine args_cons (h p q1 λy h' tk g' R L vr=>?_) (he J);refine args_nil ?_;apply aA.sK vr;intro _;have:ofString x=⟨#[c.toNat]⟩:=by rw[Str.ofString_eq_toList,hc];rfl
 rw[this];exact PySem.P.ord_of_char (s:={s with heap:=h',toks:=tk}) (hQ _ _ _ g' R L (.int _ _))
end
end
section
structure xC(K:Frag)(f:Addr)(s:c9):Prop where
 lies:∃oc od l9 name qual kV doc pm an fO ct,K.lookup f=some ⟨oc,od,.func (fnOf name qual s.params s.body s.scope .none kV doc pm an fO ct),l9⟩/\codeIn K fO qual=true
structure lP(K:Frag)(f:Addr)(s:c9)(ds:List Value):Prop where
 lies:∃oc od l9 name qual T kV doc pm an fO ct,K.lookup f=some ⟨oc,od,.func (fnOf name qual s.params s.body s.scope (.ref T) kV doc pm an fO ct),l9⟩/\codeIn K fO qual=true/\
  ∃o k,K.lookup T=some o/\o.data=.seq ds.toArray k
section
variable{n μ:Nat}
theorem iF.use{k n μ ν:Nat}(h:iF k μ f m)(hk:k<=n)(fY:μ<=ν):iF n ν f m:=by intro A g ms s vs xs R fk hv rel r ms' hm hQ;exact h (fk.le hk) hv rel hm λx h' tk g' R' L v=>hQ x h' tk g' R' (L.up fY) v
theorem xC.impl{k:Nat}(h:xC B.K f s)(hn:ps.Nodup)(hp:∀p∈ps,s.scope.names.lookup (ofString p)=some .local\/s.scope.names.lookup (ofString p)=some .cell)
 (hb:∀(name qual:Str) (kV doc pm:Value) (an:Option Addr) (fO ct:Value) (xs:List Value),xs.length=k->bindArgs (fnOf name qual s.params s.body s.scope .none kV doc pm an fO ct) ⟨xs,[]⟩=pure (jK ps xs))
 (jT:s.scope.isCoroutine=false/\s.scope.isGenerator=false/\s.scope.kind=.function)(hm:jA s.scope n μ s.body m):iF (n+1) μ f (cE ps [] k m):=by
 obtain⟨oc,od,l9,name,qual,kV,doc,pm,an,fO,ct,hl,hc⟩:=h.lies;refine AI (fd:=fnOf name qual s.params s.body s.scope .none kV doc pm an fO ct) (dx:=[]) ⟨⟨oc,od,l9,hl⟩,hc,rfl,rfl,rfl,rfl,jT.1,jT.2.1,jT.2.2⟩ (λg=>.nil) hn hp (λs xs _ hx=>?_) hm;rw[List.append_nil];exact BindsTo.of_eq (hb _ _ _ _ _ _ _ _ _ hx)
theorem lP.impl{ds:List Value}{k:Nat}(h:lP B.K f s ds)(B9:∀g,bD g dvs ds)(hn:ps.Nodup)(hp:∀p∈ps,s.scope.names.lookup (ofString p)=some .local\/s.scope.names.lookup (ofString p)=some .cell)
 (hb:∀(name qual:Str) (T:Addr) (kV doc pm:Value) (an:Option Addr) (fO ct:Value) (xs:List Value),xs.length=k->∃kk:Option (Array Value)->Sem (List (Str×Value)),bindArgs (fnOf name qual s.params s.body s.scope (.ref T) kV doc pm an fO ct) ⟨xs,[]⟩=seqItems? (.ref T)>>=kk/\kk (some ds.toArray)=pure (jK ps (xs++ds)))
 (jT:s.scope.isCoroutine=false/\s.scope.isGenerator=false/\s.scope.kind=.function)(hm:jA s.scope n μ s.body m):iF (n+1) μ f (cE ps dvs k m):=by
 obtain⟨oc,od,l9,name,qual,T,kV,doc,pm,an,fO,ct,hl,hc,o,c,ho,hd⟩:=h.lies;refine AI (fd:=fnOf name qual s.params s.body s.scope (.ref T) kV doc pm an fO ct) (dx:=ds) ⟨⟨oc,od,l9,hl⟩,hc,rfl,rfl,rfl,rfl,jT.1,jT.2.1,jT.2.2⟩ B9 hn hp (λs xs X hx=>?_) hm;refine az (hb name qual T kV doc pm an fO ct xs hx) λkk h1 h2=>?_;exact BindsTo.of_defaults rfl (X _ _ ho) hd h1 h2
theorem lP.G5{k:Nat}(h:lP B.K f s ds)(hn:ps.Nodup)(hp:∀p∈ps,s.scope.names.lookup (ofString p)=some .local\/s.scope.names.lookup (ofString p)=some .cell)
 (hb:∀(name qual:Str) (T:Addr) (kV doc pm:Value) (an:Option Addr) (fO ct:Value) (xs:List Value),xs.length=k->∃kk:Option (Array Value)->Sem (List (Str×Value)),bindArgs (fnOf name qual s.params s.body s.scope (.ref T) kV doc pm an fO ct) ⟨xs,[]⟩=seqItems? (.ref T)>>=kk/\kk (some ds.toArray)=pure (jK ps xs))
 (jT:s.scope.isCoroutine=false/\s.scope.isGenerator=false/\s.scope.kind=.function)(hm:jA s.scope n μ s.body m):iF (n+1) μ f (cE ps [] k m):=by
 obtain⟨oc,od,l9,name,qual,T,kV,doc,pm,an,fO,ct,hl,hc,o,c,ho,hd⟩:=h.lies;refine AI (fd:=fnOf name qual s.params s.body s.scope (.ref T) kV doc pm an fO ct) (dx:=[]) ⟨⟨oc,od,l9,hl⟩,hc,rfl,rfl,rfl,rfl,jT.1,jT.2.1,jT.2.2⟩ (λg=>.nil) hn hp (λs xs X hx=>?_) hm;rw[List.append_nil];refine az (hb name qual T kV doc pm an fO ct xs hx) λkk h1 h2=>?_;exact BindsTo.of_defaults rfl (X _ _ ho) hd h1 h2
theorem o9{t:Bool}(h:iG sc n μ e m):jL sc n μ t e m:=by intro A J g ms s l E Q p vs ms' hm hQ;refine h p hm λx h' tk g' R L lp=>?_;obtain⟨k,items,c,rfl,m1,t1,v1,z1,f1⟩:=lp;exact v9 (s:={s with heap:=h',toks:=tk}) R (p.ok.mono L) L.top m1 (t1▸id) v1 λit bN bp R' L' S=>hQ it bN tk bp R' (L.trans (L'.up (zero_le _))) S
end
end
section
section
variable{sc:Scope}{n μ:Nat}
noncomputable def ny:MS:=λ_ _=>none
noncomputable def jj:ME:=λ_ ms=>some (.ref ms.length,ms++[.dict []])
theorem NI:aQ sc n μ (.Dict [] [] pos) jj:=by intro A J g ms s l E Q p r ms' hm hQ;cases hm;refine wpAny_Dict_empty ?_;refine jo (p.rel.new emptyDict (.obj ms.length "") rfl) λR' L' m' t' tp=>?_;have R2:=R'.newObj (a:=s.heap.objs.size) (mo:=.dict []) t' ⟨emptyDict,[],m',⟨#[],0,⟨rfl,rfl,rfl⟩,rfl,λ_ he=>by simp at he,Pairs.nil,List.nodup_nil⟩,.nil,zero_le _⟩;exact hQ _ _ _ _ R2 ((L'.trans Le.obj).up (zero_le _)) (.ref (by simp[G.obj,G.add,<-p.rel.len]))
def sa(a b:ML):ML:=ay a λxs=>ay b λys _ ms=>some (uH xs ys,ms)
theorem NJ(fY:μ<=1)(h1:ij sc n μ e a)(h2:ij sc n μ f b)(hi:gh B.K "zip" (.type "zip"))(hx:sc.names.lookup (ofString "zip")=some .globalImplicit)
 (he:∀J,starEach [e,f] J=(false,eval e J)::starEach [f] J)(qK:∀J,starEach [f] J=(false,eval f J)::starEach [] J)(cH:∀J,(backTo pos (starEach [e,f] J)).any (·.1)=false):
 jL sc n μ true (.Call (.Name (ofString "zip") px) [e,f] [] pos) (sa a b):=by
 intro A J g ms s l E Q p vs ms' hm hQ;refine bY hm λxs aF q1 q2=>?_;refine bY q2 λys cf q2 q3=>?_;clear hm;cases q3;refine wpAny_Call_NameR (jI p hx hi.miss hi.boot hi.no hi.jS ?_);refine PyProof.Rows.callWith_type (cH J) (jY (cH J) ?_);refine args_cons (h1 p q1 λx h₀ Rj mQ R₀ HN lx=>?_) (he J);refine args_cons (h2 (s:={s with heap:=h₀,toks:=Rj}) (p.next HN R₀) q2 λy h' tk g' R dG vh=>?_) (qK J);refine args_nil ?_;have L:=HN.trans dG;apply LX.K lx;intro a1 FX c1 m1 w1 hv z1;apply LX.K vh;intro a2 tM c2 m2 w2 ka z2;have k1:=dG.keep _ _ m1 (λq=>w1 (q.up fY)) id;have m1:=k1.1;have w1:¬Wr 1 (g'.tag a1):=k1.2▸w1;have hv:=hv.mono dG (cx _);have kc:=p.ok.mono L;have Ua:h'.IsList a1 FX.toArray:=⟨_,R.led _ _ m1,rfl,c1,rfl⟩;have gX:h'.IsList a2 tM.toArray:=⟨_,R.led _ _ m2,rfl,c2,rfl⟩;refine call_zip_2 (s:={s with heap:=h',toks:=tk}) Ua gX λcu hz qO yg xD xE fZ hk=>?_;have HO:(a1:Nat)<h'.objs.size:=R.lt m1;have HQ:(a2:Nat)<h'.objs.size:=R.lt m2;have sz:cu.objs.size=h'.objs.size+5:=fZ;have hz:IsZip cu (h'.objs.size+4) (h'.objs.size+2) (h'.objs.size+3) .none:=hz;have qO:IsPair cu (h'.objs.size+2) (.ref h'.objs.size) (.ref (h'.objs.size+1)):=qO;have yg:IsPair cu (h'.objs.size+3) .none .none:=yg;have xD:cu.IsListIter h'.objs.size a1 0:=xD;have xE:cu.IsListIter (h'.objs.size+1) a2 0:=xE;have e1:∃o,cu.get? h'.objs.size=some o:=let⟨o,q,_⟩:=xD;⟨o,q⟩;have e2:∃o,cu.get? (h'.objs.size+1)=some o:=let⟨o,q,_⟩:=xE;⟨o,q⟩;refine aY (R.news (h':=cu) hk (by rw[sz];omega) [h'.objs.size+4,h'.objs.size+2,h'.objs.size+3,h'.objs.size,h'.objs.size+1] (dP ⟨le_add_right _ _,_,hz⟩ (dP ⟨le_add_right _ _,_,qO⟩ (dP ⟨le_add_right _ _,_,yg⟩ (dP ⟨le_refl _,e1⟩ (dP ⟨le_add_right _ _,e2⟩ iW)))))) λda bS bx nE=>?_;have qL:=bx.keep _ _ m1 (λq=>w1 (q.up (zero_le _))) id;have Ck:=bx.keep _ _ m2 (λq=>w2 (q.up (zero_le _))) id;have tp:g.top<=h'.objs.size:=R.top▸L.top;have D:ZipApart (h'.objs.size+4) (h'.objs.size+2) (h'.objs.size+3) h'.objs.size (h'.objs.size+1) a1 a2:=by constructor<;>first|exact ne_of_lt (lt_of_lt_of_le HO (le_add_right _ _))|exact ne_of_lt (lt_of_lt_of_le HQ (le_add_right _ _))|exact ne_of_lt HO|exact ne_of_lt HQ|(first|exact λz4=>Nat.succ_ne_self _ z4.symm|exact λz4=>Nat.succ_ne_self _ z4|simp)
 refine wpAny_pyIter_zip hz ?_;refine hQ _ _ _ _ bS (L.trans (bx.up (zero_le _))) (.kK rfl (λA hA=>WalksT.zip2 hA _ _ _ _ _ a1 a2 D FX.toArray tM.toArray) (λi h st=>?_) (λi T h st=>?_)
  ⟨dP (.head _) (dP (.tail _ (.tail _ (.head _))) (dP (.tail _ (.tail _ (.tail _ (.head _)))) (dP (.tail _ (.tail _ (.tail _ (.tail _ (.head _))))) iW))),?_,?_⟩ (i:=0) ⟨hz,qO,⟨_,_,yg⟩,xD,xE,⟨_,bS.led _ _ qL.1,rfl,c1,rfl⟩,⟨_,bS.led _ _ Ck.1,rfl,c2,rfl⟩⟩ (by simp[uH,hv.length,ka.length]) λj v us e p=>?_)
 .refine Bi st λq1 q2 vj uY Cm _=>?_;obtain⟨x,y,q3⟩:=vj;obtain⟨o,q4,_⟩:=uY;obtain⟨o',q5,_⟩:=Cm;exact dP ⟨_,q1⟩ (dP ⟨_,q3⟩ (dP ⟨_,q4⟩ (dP ⟨_,q5⟩ iW)))
 .refine Bi st λq1 q2 vj uY Cm _=>?_;obtain⟨x,y,q3⟩:=vj;obtain⟨o,q4,_⟩:=uY;obtain⟨o',q5,_⟩:=Cm;exact dP ⟨_,q1⟩ (dP ⟨_,q3⟩ (dP ⟨_,q4⟩ (dP ⟨_,q5⟩ iW)))
 .have new:∀b,b∈[h'.objs.size+4,h'.objs.size+2,h'.objs.size+3,h'.objs.size,h'.objs.size+1]->h'.objs.size<=b->∃o,(b,o)∈da.news/\¬Wr μ (da.tag b)/\¬fF J b:=λb hb hle=>by refine aY (nE b hb) λo q1 q2 _=>?_;exact cA o q1 (q2▸id) (oW R kc hle)
  exact dP (new _ (.head _) (le_add_right _ _)) (dP (new _ (.tail _ (.head _)) (le_add_right _ _)) (dP (new _ (.tail _ (.tail _ (.head _))) (le_add_right _ _)) (dP (new _ (.tail _ (.tail _ (.tail _ (.head _)))) (le_refl _)) (dP (new _ (.tail _ (.tail _ (.tail _ (.tail _ (.head _))))) (le_add_right _ _)) (dP ⟨_,qL.1,by rw[qL.2];exact λq=>w1 (q.up fY),vX R kc m1⟩ (dP ⟨_,Ck.1,by rw[Ck.2];exact λq=>w2 (q.up fY),vX R kc m2⟩ iW))))))
 .have new:∀b,b∈[h'.objs.size+4,h'.objs.size+2,h'.objs.size+3,h'.objs.size,h'.objs.size+1]->h'.objs.size<=b->da.tag b=.free/\g.top<=b:=λb hb hle=>by refine aY (nE b hb) λo q1 q2 _=>?_;exact⟨q2,le_trans tp hle⟩
  exact dP (new _ (.head _) (le_add_right _ _)) (dP (new _ (.tail _ (.tail _ (.head _))) (le_add_right _ _)) (dP (new _ (.tail _ (.tail _ (.tail _ (.head _)))) (le_refl _)) (dP (new _ (.tail _ (.tail _ (.tail _ (.tail _ (.head _))))) (le_add_right _ _)) iW)))
 .refine fN p λx y hx hy lh=>?_;clear p;subst lh;simp only[Nat.zero_add,List.getElem?_toArray]at hx hy;simp only[uH,getElem?_map,map_eq_some_iff]at e;refine az e λly hu bL=>?_;obtain⟨u1,u2⟩:=ly;clear e;subst bL;refine bT (List.getElem?_zip_eq_some.mp hu) λCn yh=>?_;refine az ((hv.mono bx (cx _)).get Cn) λx' pC hr=>?_;refine az ((ka.mono bx (cx _)).get yh) λy' vi Ub=>?_;rw[pC]at hx;clear pC;cases hx;rw[vi]at hy;clear vi;cases hy;exact a0 _ rfl (.cons hr (.cons Ub .nil))
end
end
section
noncomputable def fy(e:Expr)(bad:List Nat):Bool:=bad.all λk=>e.ctorIdx !=k
theorem gC(h:fy e [22]=true):∀es J,starEach (e::es) J=(false,eval e J)::starEach es J:=by cases e<;>first|exact λ_ _=>rfl|exact Bool.noConfusion h
theorem rB(h:fy e [8,9,10]=true):∀t line (J:Env),swapsWith e t line J=pure false:=by cases e<;>first|exact λ_ _ _=>rfl|exact Bool.noConfusion h
theorem Mm(h:fy e [0,3,5,15]=true):∀J:Env,isTrue e J (eval e J)=(do let v<-eval e J;standAt e.pos;holding [v] (truthy v)):=by cases e<;>first|exact λ_=>rfl|exact Bool.noConfusion h
theorem Fg(h:fy e [16]=true):∀a (J:Env) t,attributeBase e a J t=t:=by cases e<;>first|exact λ_ _ _=>rfl|exact Bool.noConfusion h
theorem FY(h:fy e [26]=true):∀o i,subscripted e false o i=operate [o,i] (getItem o i):=by cases e<;>first|exact λ_ _=>rfl|exact Bool.noConfusion h
theorem Fh(h:fy e [7]=true):∀(J:Env) x,foldedSetIterable e J x=pure x:=by cases e<;>first|exact λ_ _=>rfl|exact Bool.noConfusion h
theorem FZ(h:fy e [0,1,2,3,4,5,6,7,8,9,10,11,12,13,14,15,16,17,18,19,20,21,22,24,25,26]=true):∀o r,letTemporaryGo e o r=pure ():=by cases e<;>first|exact λ_ _=>rfl|exact Bool.noConfusion h
theorem F0(h:fy e [22]=true):∀es (J:Env),assignEach (e::es) J=(false,assign e J)::assignEach es J:=by cases e<;>first|exact λ_ _=>rfl|exact Bool.noConfusion h
def kZ(es:List Expr):Bool:=es.all λe=>fy e [22]
theorem iQ:∀{es:List Expr},kZ es=true->∀pos J,(backTo pos (starEach es J)).any (·.1)=false
 |[],_,_,_=>rfl
 |e::es,h,pos,J=>by have q:=Bool.and_eq_true_iff.mp h;rw[gC q.1];exact iQ (es:=es) q.2 pos J
theorem zN:∀{es:List Expr} (J:Env),kZ es=true->(assignEach es J).length=es.length/\(assignEach es J).findIdx? (·.1)=none
 |[],_,_=>⟨rfl,rfl⟩
 |e::es,J,h=>by have q:=Bool.and_eq_true_iff.mp h;have r:=zN (es:=es) J q.2;rw[F0 q.1];refine⟨congrArg (·+1) r.1,?_⟩;rw[List.findIdx?_cons,r.2];rfl
theorem wq(h:fy e [16]=true)(J:Env):eval (.Attribute e (ofString f) pos) J=(do let o<-eval e J;standAt pos.atName;let r<-holding [o] (getAttr o (ofString f) true);letTemporaryGo e o r;pure r):=by show(attributeBase e (ofString f) J (eval e J)>>=_)=_;rw[Fg h]
noncomputable def HR(o:Expr)(J:Env):Sem Bool:=do return(<-importBound o J).getD true
theorem Fi(h:fy o [16]=true)(hs:kZ es=true)(hl:(ap.endLine==pos.line)=true)(hn:es.length<30):o5 o x ap pos es (HR o):=λJ=>by
 have f:methodCallForm (es.length+0) (backTo pos (starEach es J)) []=true:=by
  delta methodCallForm;have p:(backTo pos (starEach es J)).all (λx=>!x.1)=true:=by have q:=iQ hs pos J;rw[List.any_eq_not_all_not]at q;exact Bool.not_eq_eq_eq_not.mp q
  rw[p];exact decide_eq_true hn
 show(attributeBase o x J (eval o J)>>=λov=>standAt ap.atName>>=λ_=>methodCall o x ap pos J ov (es.length+0) (backTo pos (starEach es J)) [])=_;rw[Fg h];delta methodCall;rw[f];delta methodCallPos calleeOf;rw[hl];rfl
theorem NK(J:Env)(h1:J.scope=sc)(h2:J.scope.kind=.function):interactive J=false:=by unfold interactive;rw[h2];rfl
theorem Mn{line:Nat}(h:sc.names.lookup x=some .cell)(J:Env)(he:J.scope=sc):swapsWith (.ListComp elt gens scope pos) (some (.Name x px)) line J=pure false:=by
 have k:(J.kindOf x==some .local)=false:=by unfold Env.kindOf;rw[he,h];rfl
 unfold swapsWith;dsimp only;rw[k,Bool.and_false];rfl
noncomputable def HS(sc:Scope):Env:={(default:Env)with scope:=sc}
theorem F1(h:swappedStores ts e (HS sc)=.pure r)(J:Env)(he:J.scope=sc):swappedStores ts e J=pure r:=by subst he;exact h
end
section
set_option genInjectivity false
structure Ok{α:Type}(P:α->Prop) where
 m:α
 h:P m
section
variable{n μ:Nat}{sc:Scope}
theorem fE.fail{α β:Type}{t:Env->Sem α}{P:G->G->β->α->Prop}:fE sc n μ t (λ_ _=>none) P:=by intro A J g ms s l E Q p r ms' hm;exact aX hm
noncomputable def no{α β:Type}{t:Env->Sem α}{P:G->G->β->α->Prop}:Ok λm=>fE sc n μ t m P:=⟨λ_ _=>none,fE.fail⟩
def g8{t:Env->Sem Flow}:Ok λm=>lM sc n μ t m:=⟨ny,lM.fail⟩
noncomputable def name(id:Str):String:=String.ofList (id.cps.toList.map Char.ofNat)
def gQ{P:Str->Type}(id:Str)(k:∀x:String,P (ofString x))(d:P id):P id:=if h:ofString (name id)=id then h▸k (name id)else d
structure dg where
 x:String
 k:Nat
 μ:Nat
 a:Addr
 c:jr
 F:MF
structure rP(n:Nat)(x:String)(k μ:Nat)(a:Addr)(c:jr)(F:MF):Prop where
 im:iF n μ a F
 g0:k=0->oB B.K x (.ref a)
 g1:k=1->HE B.K (eE c) x a
 g2:2<=k->oB B.K x (.ref (eE c))/\o6 B.K (eE c) a
 g3:c=.abs->∃fs,F [.ref 0] [.inst .abs []]=some (.none,[.inst .abs fs])
def ck(n:Nat)(Γ:List dg):Prop:=∀e∈Γ,rP n e.x e.k e.μ e.a e.c e.F
structure SS(n:Nat)(x:String)(k:Nat) where
 μ:Nat
 a:Addr
 c:jr
 F:MF
 ok:rP n x k μ a c F
noncomputable def look(x:String)(k:Nat):∀Γ:List dg,ck n Γ->Option (SS n x k)
 |[],_=>none
 |e::r,G=>if h:e.x=x/\e.k=k then some ⟨e.μ,e.a,e.c,e.F,h.1▸h.2▸G e (.head _)⟩else look x k r λf m=>G f (.tail _ m)
structure Hn where
 ml:List Nat
 bad:List Nat
 hx:Bool
structure Rc(n:Nat) where
 e:∀sc μ e,Ok (aQ sc n μ e)
 c:∀sc μ e,Ok (hK sc n μ e)
 l:∀sc μ e,Ok (iG sc n μ e)
 x:∀sc μ e,Ok (ij sc n μ e)
 b:∀sc μ ss,Ok (jA sc n μ ss)
variable(r:Rc n)
noncomputable def uN:Expr->Bool
 |.Subscript _ s _=>s.ctorIdx==26
 |e=>e.ctorIdx==24||e.ctorIdx==8
def Uc:Expr->Bool
 |.BinOp a _ b _=>uN a||uN b
 |e=>uN e
noncomputable def tO:Expr->Str
 |.Call (.Name id _) _ _ _=>id
 |_=>""
noncomputable def F2:Expr->Str
 |.Attribute _ a _=>a
 |_=>""
def uc(e:Expr):Bool:=(["keys","vals","heads","nexts","types"]:List Str).contains (F2 e)
noncomputable def mf:∀es,Ok (nu sc n μ es)
 |[]=>⟨af,GV⟩
 |e::es=>if h:fy e [22]=true then⟨aa (r.e sc μ e).m (mf es).m,OM (r.e sc μ e).h (mf es).h (gC h es)⟩else⟨λ_ _=>none,λ_=>fE.fail⟩
noncomputable def yi:∀ks vs,Ok (ua sc n μ ks vs)
 |[],[]=>⟨r9,Ra⟩
 |some k::ks,v::vs=>⟨kX (r.e sc μ k).m (r.e sc μ v).m (yi ks vs).m,Pb (r.e sc μ k).h (r.e sc μ v).h (yi ks vs).h⟩
 |_,_=>⟨λ_ _=>none,λ_=>fE.fail⟩
def oI(o:Expr):Ok λp:String×MI=>rM p.1 sc n μ o p.2:=match o with
 |.Attribute e f pos=>gQ (P:=λf=>Ok λp:String×MI=>rM p.1 sc n μ (.Attribute e f pos) p.2) f (λf=>if h:f∈hB/\fy e [16]=true then⟨(f,bJ f (r.e sc μ e).m),OR (r.e sc μ e).h h.1 (wq h.2)⟩else⟨(f,λ_ _=>none),fE.fail⟩) ⟨("",λ_ _=>none),fE.fail⟩
 |_=>⟨("",λ_ _=>none),fE.fail⟩
def xF(o:Expr):Ok λm:MD=>fE sc n μ (λJ=>eval o J) m (λ_ g=>DX g):=match o with
 |.Attribute e f pos=>gQ (P:=λf=>Ok λm:MD=>fE sc n μ (λJ=>eval (.Attribute e f pos) J) m (λ_ g=>DX g)) f (λf=>if h:f∈hB/\fy e [16]=true then⟨ph f (r.e sc μ e).m,O' (r.e sc μ e).h h.1 (wq h.2)⟩else no) no
 |_=>no
noncomputable def AY(pos:Pos):∀es,Ok (hK sc n μ (.BoolOp .And es pos))
 |[]=>⟨aS,K'⟩
 |e::es=>⟨aK (r.c sc μ e).m (AY pos es).m,QD (r.c sc μ e).h (AY pos es).h⟩
noncomputable def BQ(pos:Pos):∀es,Ok (hK sc n μ (.BoolOp .Or es pos))
 |[]=>⟨cy,L5⟩
 |e::es=>⟨bC (r.c sc μ e).m (BQ pos es).m,Sz (r.c sc μ e).h (BQ pos es).h⟩
def Pl(l:Expr)(op:CmpOp)(f:Expr)(pos:Pos):Ok (hK sc n μ (.Compare l [op] [f] pos)):=match f with
 |.List es p2=>match es with
  |[]=>match op with
   |.NotEq=>⟨qc (r.x sc μ l).m,NB (r.x sc μ l).h rfl⟩
   |_=>no
  |_=>no
 |.ListComp a b c d=>⟨qq op (r.e sc μ l).m (r.e sc μ (.ListComp a b c d)).m,Pg (r.e sc μ l).h (r.e sc μ (.ListComp a b c d)).h rfl⟩
 |f=>if hm:behindInMarks op f=false then⟨aB op (r.e sc μ l).m (r.e sc μ f).m,QK (r.e sc μ l).h (r.e sc μ f).h hm⟩else no
def Ud:∀e,Ok (hK sc n μ e)
 |.UnaryOp .Not x pos=>⟨ba (r.c sc μ x).m,QC (r.c sc μ x).h⟩
 |.BoolOp .And es pos=>AY r pos es
 |.BoolOp .Or es pos=>BQ r pos es
 |.Compare l [op] [f] pos=>Pl r l op f pos
 |e=>if h:fy e [0,3,5,15]=true then⟨aw (r.e sc μ e).m,Nd (r.e sc μ e).h (Mm h)⟩else no
end
end
section
set_option genInjectivity false
theorem kj(h1:nsIn B.K mainGlobals (ofString x)=some none)(h2:bootBuiltins (ofString x)=some v)(h3:(!(ofString x==("__name__":Str))&&!(ofString x==("__debug__":Str)))=true):gh B.K x v:=
 have q:=Bool.and_eq_true_iff.mp h3
 ⟨h1,h2,λe=>by rw[e]at q;exact Bool.noConfusion q.1,Bool.not_eq_eq_eq_not.mp q.2⟩
theorem Dp:gh B.K "isinstance" (.builtin "isinstance"):=kj rfl rfl (by decide+kernel)
theorem Rl:gh B.K "len" (.builtin "len"):=kj rfl rfl (by decide+kernel)
theorem Rm:gh B.K "min" (.builtin "min"):=kj rfl rfl (by decide+kernel)
theorem Rn:gh B.K "max" (.builtin "max"):=kj rfl rfl (by decide+kernel)
theorem Ro:gh B.K "ord" (.builtin "ord"):=kj rfl rfl (by decide+kernel)
theorem NM:gh B.K "range" (.type "range"):=kj rfl rfl (by decide+kernel)
theorem wI:gh B.K "list" (.type "list"):=kj rfl rfl (by decide+kernel)
theorem Aa:gh B.K "dict" (.type "dict"):=kj rfl rfl (by decide+kernel)
theorem NN:gh B.K "tuple" (.type "tuple"):=kj rfl rfl (by decide+kernel)
theorem Rp:gh B.K "zip" (.type "zip"):=kj rfl rfl (by decide+kernel)
theorem J0:gh B.K "enumerate" (.type "enumerate"):=kj rfl rfl (by decide+kernel)
theorem Rq:gh B.K "int" (.type "int"):=kj rfl rfl (by decide+kernel)
theorem Rr:gh B.K "str" (.type "str"):=kj rfl rfl (by decide+kernel)
theorem Pm:gh B.K "bool" (.type "bool"):=kj rfl rfl (by decide+kernel)
noncomputable def AZ:List Ty:=[.c .arr,.c .ref,.c .abs,.obj,.none,.bool,.int,.str,.list,.dict,.tuple]
theorem HT(t:Ty):t∈AZ:=List.mem_of_elem_eq_true (by
 cases t with
 |c c=>cases c<;>rfl
 |_=>rfl)
theorem SU(t c:Ty):kitOne B.K (lu t) (lu c)=some (fx t c):=
 have h:(AZ.all λt=>AZ.all λc=>kitOne B.K (lu t) (lu c)==some (fx t c))=true:=by decide+kernel
 beq_iff_eq.mp (List.all_eq_true.mp (List.all_eq_true.mp h t (HT t)) c (HT c))
theorem SV(c:jr){m:Nat}:KitX B.K (.ref x) (.ref (eE c)) (λh=>InstAt h x (instObj (eE c) dx) (eE c) (some (dictOf es m))):=by cases c<;>exact kitx_own rfl rfl rfl rfl rfl rfl
theorem HU:t6:={fx:=SU,own:=λ{c x dx es m}=>SV c}
section
variable{n μ:Nat}{sc:Scope}
def BR:∀e,Option (Ok (o7 sc e))
 |.Name id pos=>gQ (P:=λid=>Option (Ok (o7 sc (.Name id pos)))) id (λx=>if hx:sc.names.lookup (ofString x)=some .globalImplicit/\(ofString x==("__debug__":Str))=false then match x,hx with
  |"Arr",hx=>some ⟨.c .arr,.glob rfl hx.1 hx.2⟩
  |"Ref",hx=>some ⟨.c .ref,.glob rfl hx.1 hx.2⟩
  |"Absent",hx=>some ⟨.c .abs,.glob rfl hx.1 hx.2⟩
  |"Obj",hx=>some ⟨.obj,.glob rfl hx.1 hx.2⟩
  |"int",hx=>some ⟨.int,.blt Rq hx.1⟩
  |"str",hx=>some ⟨.str,.blt Rr hx.1⟩
  |"bool",hx=>some ⟨.bool,.blt Pm hx.1⟩
  |"list",hx=>some ⟨.list,.blt wI hx.1⟩
  |"dict",hx=>some ⟨.dict,.blt Aa hx.1⟩
  |_,_=>none
  else none) none
 |_=>none
variable(r:Rc (n+1))(H:Hn){Γ:List dg}(G:ck n Γ)
noncomputable def G6(e:Expr):Str:=match e with
 |.Constant c _ _=>match c with
  |.str s=>s
  |_=>""
 |_=>""
def A0(e:Expr):Bool:=match e with
 |.Call f _ _ _=>tO e=="zip"
 |.Name id _=>id=="tree"||(H.hx&&!(id=="some"||id=="key"))
 |.Attribute ..=>true
 |.Subscript _ b _=>G6 b=="marked"||H.hx
 |_=>H.hx
def Co(t:Bool)(e:Expr):Ok (jL sc (n+1) μ t e):=
 if A0 H e=true then if fY:μ<=1 then match e,t with
  |.Call f args iO pos,true=>match f,args,iO with
   |.Name id px,[a,b],[]=>gQ (P:=λid=>Ok (jL sc (n+1) μ true (.Call (.Name id px) [a,b] [] pos))) id (λx=>match x with
    |"zip"=>if h:sc.names.lookup (ofString "zip")=some .globalImplicit/\kZ [a,b]=true/\fy a [22]=true/\fy b [22]=true then⟨sa (r.x sc μ a).m (r.x sc μ b).m,NJ fY (r.x sc μ a).h (r.x sc μ b).h Rp h.1 (gC h.2.2.1 _) (gC h.2.2.2 _) (iQ h.2.1 pos)⟩else⟨λ_ _=>none,o9 fE.fail⟩
    |_=>⟨λ_ _=>none,o9 fE.fail⟩) ⟨λ_ _=>none,o9 fE.fail⟩
   |_,_,_=>⟨λ_ _=>none,o9 fE.fail⟩
  |.Name id px,false=>if id=="tree"then⟨iT (r.e sc μ (.Name id px)).m,Nr fY (r.e sc μ (.Name id px)).h⟩else⟨(r.x sc μ (.Name id px)).m,HI fY (r.x sc μ (.Name id px)).h⟩
  |e,t=>⟨(r.x sc μ e).m,HI fY (r.x sc μ e).h⟩
  else⟨λ_ _=>none,o9 fE.fail⟩
 else match e,t with
  |.Call f args iO pos,t=>match t with
   |false=>if tO (.Call f args iO pos)=="range"then⟨iy (r.e sc μ (.Call f args iO pos)).m,Fc (r.e sc μ (.Call f args iO pos)).h⟩
    else if tO (.Call f args iO pos)=="list"then⟨(r.l sc μ (.Call f args iO pos)).m,o9 (r.l sc μ (.Call f args iO pos)).h⟩
    else⟨gG (r.e sc μ (.Call f args iO pos)).m,tH (r.e sc μ (.Call f args iO pos)).h⟩
   |true=>match f,args,iO with
    |.Name id px,[a],[]=>gQ (P:=λid=>Ok (jL sc (n+1) μ true (.Call (.Name id px) [a] [] pos))) id (λx=>match x with
     |"enumerate"=>if h:sc.names.lookup (ofString "enumerate")=some .globalImplicit/\kZ [a]=true/\fy a [22]=true then⟨lN (r.e sc μ a).m,Nt (r.e sc μ a).h J0 h.1 (gC h.2.2 _) (iQ h.2.1 pos)⟩else⟨λ_ _=>none,o9 fE.fail⟩
     |x=>⟨gG (r.e sc μ (.Call (.Name (ofString x) px) [a] [] pos)).m,tH (r.e sc μ (.Call (.Name (ofString x) px) [a] [] pos)).h⟩) ⟨λ_ _=>none,o9 fE.fail⟩
    |f,args,iO=>⟨gG (r.e sc μ (.Call f args iO pos)).m,tH (r.e sc μ (.Call f args iO pos)).h⟩
  |.Name id px,false=>if id=="some"then⟨iy (r.e sc μ (.Name id px)).m,Fc (r.e sc μ (.Name id px)).h⟩
   else if id=="key"then⟨AX (r.e sc μ (.Name id px)).m,Pk (r.e sc μ (.Name id px)).h⟩
   else⟨gG (r.e sc μ (.Name id px)).m,tH (r.e sc μ (.Name id px)).h⟩
  |e,t=>⟨gG (r.e sc μ e).m,tH (r.e sc μ e).h⟩
noncomputable def tP(e:Expr):Bool:=e.ctorIdx==25
def Rt(sc:Scope)(e:Expr):Option (Ok (l7 sc (tP e) e)):=match e with
 |.Name id pos=>gQ (P:=λid=>Option (Ok (l7 sc false (.Name id pos)))) id (λx=>if h:sc.names.lookup (ofString x)=some .local then some ⟨_,.name h⟩else none) none
 |.Tuple es k pos=>match es with
  |[x,y]=>match x with
   |.Name a pa=>match y with
    |.Name b pb=>gQ (P:=λa=>Option (Ok (l7 sc true (.Tuple [.Name a pa,.Name b pb] k pos)))) a (λx=>gQ (P:=λb=>Option (Ok (l7 sc true (.Tuple [.Name (ofString x) pa,.Name b pb] k pos)))) b (λy=>if h:sc.names.lookup (ofString x)=some .local/\sc.names.lookup (ofString y)=some .local then some ⟨_,.pair h.1 h.2⟩else none) none) none
    |_=>none
   |_=>none
  |_=>none
 |_=>none
def Ru(sc:Scope)(e:Expr):Option (Ok (nS sc (tP e) e)):=match e with
 |.Name id pos=>gQ (P:=λid=>Option (Ok (nS sc false (.Name id pos)))) id (λx=>if h:sc.names.lookup (ofString x)=some .local\/sc.names.lookup (ofString x)=some .cell then some ⟨_,.name h⟩else none) none
 |.Tuple es k pos=>match es with
  |[x,y]=>match x with
   |.Name a pa=>match y with
    |.Name b pb=>gQ (P:=λa=>Option (Ok (nS sc true (.Tuple [.Name a pa,.Name b pb] k pos)))) a (λx=>gQ (P:=λb=>Option (Ok (nS sc true (.Tuple [.Name (ofString x) pa,.Name b pb] k pos)))) b (λy=>if h:(sc.names.lookup (ofString x)=some .local\/sc.names.lookup (ofString x)=some .cell)/\(sc.names.lookup (ofString y)=some .local\/sc.names.lookup (ofString y)=some .cell)then some ⟨_,.pair h.1 h.2⟩else none) none) none
    |_=>none
   |_=>none
  |_=>none
 |_=>none
def F3(scope:Scope):List String:=scope.names.filterMap λp=>if p.2=.free then some (name p.1)else none
def Pn(scope sc:Scope):Option (PLift (tI scope sc (F3 scope))):=
 if h:scope.kind=.function/\(∀x∈scope.names,x.2=.local->scope.names.lookup x.1=some .local)/\(∀y∈scope.names,y.2≠.cell)/\(∀x∈scope.names,x.2=.free->sc.names.lookup x.1=some .cell)/\
  ∀x∈F3 scope,(ofString x,NameKind.free)∈scope.names/\sc.names.lookup (ofString x)=some .cell/\(iY scope sc).names.lookup (ofString x)=some .cell then some ⟨⟨h.1,h.2.1,h.2.2.1,h.2.2.2.1,h.2.2.2.2⟩⟩else none
def Rv:∀ifs,Ok (oZ sc (n+1) μ ifs)
 |[]=>⟨aS,Nu⟩
 |[c]=>⟨(r.c sc μ c).m,Nv (r.c sc μ c).h⟩
 |_=>no
theorem HV{c:Prop}[Decidable c]{μ:Nat}:(if c then min μ 1 else μ)<=μ:=by
 split
 .exact Nat.min_le_left _ _
 .exact le_refl _
def F5{α:Type}(scope:Scope)(tg iter elt:Expr)(ifs:List Expr)(d:α)
 (k:∀{t:Bool} {gV:List String} {u:V->av->Option av} {i:ML} {c:MB} {e:ME},tI scope sc gV->jL sc (n+1) μ t iter i->l7 (iY scope sc) t tg u->oZ (iY scope sc) (n+1) μ ifs c->aQ (iY scope sc) (n+1) μ elt e->(∀(J:Env) x,foldedSetIterable iter J x=pure x)->α):α:=
 match Pn scope sc,Rt (iY scope sc) tg with
 |some ok,some T=>if hs:fy iter [7]=true then k ok.down (Co r H (tP tg) iter).h T.h (Rv r ifs).h (r.e (iY scope sc) μ elt).h (Fh hs)else d
 |_,_=>d
def SW(elt:Expr)(gens:List Comprehension)(scope:Scope)(pos:Pos):Ok (iG sc (n+1) μ (.ListComp elt gens scope pos)):=match gens with
 |[⟨tg,iter,ifs,0⟩]=>F5 (μ:=if A0 H iter then min μ 1 else μ) r H scope tg iter elt ifs no λok hi hT hc he hs=>⟨_,fE.up (O3 ok hi hT hc he hs) HV⟩
 |_=>no
end
end
section
set_option genInjectivity false
section
variable{n μ:Nat}{sc:Scope}(r:Rc (n+1))(H:Hn){Γ:List dg}(G:ck n Γ)
def SX(e:Expr):Bool:=F2 e=="walks"
def Ue:∀e,Ok (iG sc (n+1) μ e)
 |.List es pos=>⟨bI (mf (μ:=μ) r es).m,ON (mf r es).h⟩
 |.ListComp elt gens scope pos=>SW r H elt gens scope pos
 |.BinOp a op b pos=>match op with
  |.Mult=>⟨uJ (r.l sc μ a).m (r.e sc 0 b).m,Q7 (r.l sc μ a).h (r.e sc 0 b).h⟩
  |.Add=>if h:1<=μ then⟨jQ (r.x sc μ a).m (r.x sc 1 b).m,Q8 (r.x sc μ a).h (r.x sc 1 b).h h⟩else⟨jQ (r.x sc 0 a).m (r.x sc 0 b).m,fE.up (O5 (r.x sc 0 a).h (r.x sc 0 b).h) (zero_le _)⟩
  |_=>no
 |.Subscript e s pos=>if he:fy e [0,1,2,3,4,5,6,7,8,9,10,11,12,13,14,15,16,17,18,19,20,21,22,24,25,26]=true then match s with
  |.Slice none (some f) none ps=>⟨rO (r.x sc 0 e).m (r.e sc 0 f).m,fE.up (O6 (r.x sc 0 e).h (r.e sc 0 f).h (FZ he)) (zero_le _)⟩
  |.Slice (some f) none none ps=>⟨qo (r.x sc 0 e).m (r.e sc 0 f).m,fE.up (O7 (r.x sc 0 e).h (r.e sc 0 f).h (FZ he)) (zero_le _)⟩
  |_=>no
  else no
 |.Call f args iO pos=>match f,args,iO with
  |.Name id px,[a],[]=>gQ (P:=λid=>Ok (iG sc (n+1) μ (.Call (.Name id px) [a] [] pos))) id (λx=>match x with
   |"list"=>if h:sc.names.lookup (ofString "list")=some .globalImplicit/\kZ [a]=true/\fy a [22]=true then
    if SX a then⟨r8 (xF (μ:=μ) r a).m,Q' (xF r a).h wI h.1 (gC h.2.2 _) (iQ h.2.1 pos)⟩
    else if tO a=="range"then⟨tJ (r.e sc μ a).m,Nx (r.e sc μ a).h wI h.1 (gC h.2.2 _) (iQ h.2.1 pos)⟩
    else⟨(r.x sc μ a).m,Mg (r.x sc μ a).h wI h.1 (gC h.2.2 _) (iQ h.2.1 pos)⟩
    else no
   |_=>no) no
  |_,_,_=>no
 |_=>no
def Ug:∀e,Ok (ij sc (n+1) μ e)
 |.Attribute e f pos=>if uc (.Attribute e f pos)then gQ (P:=λf=>Ok (ij sc (n+1) μ (.Attribute e f pos))) f (λf=>if h:f∈hB/\fy e [16]=true then⟨a9 f (r.e sc μ e).m,OO (r.e sc μ e).h h.1 (wq h.2)⟩else no) no
  else⟨bc (r.e sc μ (.Attribute e f pos)).m,GW (r.e sc μ (.Attribute e f pos)).h⟩
 |e=>if Uc e||tO e=="list"then⟨(r.l sc μ e).m,QM (r.l sc μ e).h⟩else⟨bc (r.e sc μ e).m,GW (r.e sc μ e).h⟩
def SY(x:String)(px:Pos)(a:Expr)(pos:Pos)(h:sc.names.lookup (ofString x)=some .globalImplicit/\kZ [a]=true/\fy a [22]=true):Option (Ok (aQ sc (n+1) μ (.Call (.Name (ofString x) px) [a] [] pos))):=match x,h with
 |"len",h=>some ⟨bj (r.x sc μ a).m,Q2 (r.x sc μ a).h Rl h.1 (gC h.2.2 _) (iQ h.2.1 pos)⟩
 |"range",h=>some ⟨gD (r.e sc μ a).m,Nq (r.e sc μ a).h NM h.1 (gC h.2.2 _) (iQ h.2.1 pos)⟩
 |"ord",h=>some ⟨BP (r.e sc μ a).m,Ri (r.e sc μ a).h Ro h.1 (gC h.2.2 _) (iQ h.2.1 pos)⟩
 |"tuple",h=>some ⟨oo (r.x sc μ a).m,O4 (r.x sc μ a).h NN h.1 (gC h.2.2 _) (iQ h.2.1 pos)⟩
 |"dict",h=>some ⟨rF (r.l sc μ a).m,NA (r.l sc μ a).h Aa h.1 (gC h.2.2 _) (iQ h.2.1 pos)⟩
 |"max",h=>some ⟨uM (r.x sc μ a).m,Rh (r.x sc μ a).h Rn h.1 (gC h.2.2 _) (iQ h.2.1 pos)⟩
 |"list",h=>some ⟨bE (r.l sc μ (.Call (.Name (ofString "list") px) [a] [] pos)).m,tX (r.l sc μ (.Call (.Name (ofString "list") px) [a] [] pos)).h⟩
 |_,_=>none
def S0(x:String)(px:Pos)(a b:Expr)(pos:Pos)(h:sc.names.lookup (ofString x)=some .globalImplicit/\kZ [a,b]=true/\fy a [22]=true/\fy b [22]=true):Option (Ok (aQ sc (n+1) μ (.Call (.Name (ofString x) px) [a,b] [] pos))):=match x,h with
 |"min",h=>some ⟨dw (r.e sc μ a).m (r.e sc μ b).m,Q3 (r.e sc μ a).h (r.e sc μ b).h Rm h.1 (gC h.2.2.1 _) (gC h.2.2.2 _) (iQ h.2.1 pos)⟩
 |"isinstance",h=>match BR (sc:=sc) b with
  |some T=>some ⟨aO (r.e sc μ a).m T.m,QT HU (r.e sc μ a).h T.h Dp h.1 (gC h.2.2.1 _) (gC h.2.2.2 _) (iQ h.2.1 pos)⟩
  |none=>match b with
   |.Tuple es k tp=>match es with
    |[c1,c2]=>match BR (sc:=sc) c1,BR (sc:=sc) c2 with
     |some T1,some T2=>if h':fy c1 [22]=true/\fy c2 [22]=true/\kZ [a,.Tuple [c1,c2] k tp]=true then some ⟨kU (r.e sc μ a).m T1.m T2.m,O0 HU (r.e sc μ a).h T1.h T2.h Dp h.1 (gC h.2.2.1 _) (gC rfl _) (gC h'.1 _) (gC h'.2.1 _) (iQ h'.2.2 pos)⟩else none
     |_,_=>none
    |_=>none
   |_=>none
 |_,_=>none
def Fj(x:String)(px:Pos)(args:List Expr)(pos:Pos):Ok (aQ sc (n+1) μ (.Call (.Name (ofString x) px) args [] pos)):=
 if h:sc.names.lookup (ofString x)=some .globalImplicit/\kZ args=true/\(ofString x==("__debug__":Str))=false then match look x 0 Γ G with
  |some E=>if fY:E.μ<=μ then⟨aq E.F (mf (μ:=μ) r args).m,OX (E.ok.g0 rfl) (E.ok.im.use (le_succ n) fY) (mf r args).h h.1 h.2.2 (iQ h.2.1 pos)⟩else no
  |none=>match look x (args.length+2) Γ G with
   |some E=>if fY:E.μ<=μ then⟨g7 E.c E.F (mf (μ:=μ) r args).m,OZ (E.ok.g2 (Nat.le_add_left _ _)).1 (E.ok.g2 (Nat.le_add_left _ _)).2 (E.ok.im.use (le_refl n) fY) (mf r args).h h.1 h.2.2 (iQ h.2.1 pos)⟩else no
   |none=>match args,h with
    |[a],h=>if hs:fy a [22]=true then(SY r x px a pos ⟨h.1,h.2.1,hs⟩).getD no else no
    |[a,b],h=>if hs:fy a [22]=true/\fy b [22]=true then(S0 r x px a b pos ⟨h.1,h.2.1,hs.1,hs.2⟩).getD no else no
    |_,_=>no
 else no
def Rw(x:String)(px:Pos)(pos:Pos):Option (Ok (aQ sc (n+1) μ (.Call (.Name (ofString x) px) [] [] pos))):=match look x 2 Γ G with
 |some E=>if h:E.c=.abs/\E.μ<=1/\sc.names.lookup (ofString x)=some .globalImplicit/\(ofString x==("__debug__":Str))=false then
  some ⟨dB,have g:=E.ok.g2 (le_refl _);have q:=E.ok.g3 h.1;Q9 (h.1▸g.1) (h.1▸g.2) (E.ok.im.use (le_refl n) h.2.1) q.choose_spec h.2.2.1 h.2.2.2⟩else none
 |none=>none
def Rx:Expr->Bool
 |.Name id _=>id=="tree"||id=="book"
 |.Subscript a _ _=>match a with
  |.Subscript _ b _=>G6 b=="trees"
  |_=>false
 |_=>false
def S1(o:Expr)(x:String)(ap:Pos)(args:List Expr)(pos:Pos)(hm:∀z:Str,o5 o z ap pos args (HR o)):Option (Ok (aQ sc (n+1) μ (.Call (.Attribute o (ofString x) ap) args [] pos))):=match x,args,hm with
 |"get",[k],hm=>if Rx o=true/\fy k [22]=true then some (if hs:fy k [22]=true then⟨iH (r.e sc μ o).m (r.e sc μ k).m,OU (r.e sc μ o).h (r.e sc μ k).h (hm _) (gC hs _)⟩else no)else none
 |"pop",[k,.Constant .none c np],hm=>if h:2<=μ/\fy k [22]=true then some ⟨pg (r.e sc 2 o).m (r.e sc 2 k).m,fE.up (OV (r.e sc 2 o).h (r.e sc 2 k).h (hm _) (gC h.2 _)) h.1⟩else none
 |"pop",[],hm=>if h:2<=μ then some ⟨jB (oI (μ:=2) r o).m.1 (oI (μ:=2) (sc:=sc) r o).m.2,fE.up (O8 (oI r o).h (hm _)) h⟩else none
 |"append",[v],hm=>if h:2<=μ/\fy v [22]=true then some (if uc o then⟨jm (oI (μ:=2) r o).m.1 (oI (μ:=2) (sc:=sc) r o).m.2 (r.e sc 0 v).m,fE.up (OT (oI r o).h (r.e sc 0 v).h (hm _) (gC h.2 _)) h.1⟩
  else⟨kx (r.e sc 2 o).m (r.e sc 2 v).m,fE.up (QO (r.e sc 2 o).h (r.e sc 2 v).h (hm _) (gC h.2 _)) h.1⟩)else none
 |_,_,_=>none
def Po(o:Expr)(x:String)(ap:Pos)(args:List Expr)(pos:Pos):Ok (aQ sc (n+1) μ (.Call (.Attribute o (ofString x) ap) args [] pos)):=
 if h:fy o [16]=true/\kZ args=true/\(ap.endLine==pos.line)=true/\args.length<30 then match S1 (μ:=μ) (sc:=sc) r o x ap args pos (λz=>Fi h.1 h.2.1 h.2.2.1 h.2.2.2)with
  |some m=>m
  |none=>match look x 1 Γ G with
   |some E=>if fY:E.μ<=μ then⟨bw E.c x E.F (r.e sc μ o).m (mf (μ:=μ) r args).m,OY (E.ok.g1 rfl) (E.ok.im.use (le_succ n) fY) (r.e sc μ o).h (mf r args).h (Fi h.1 h.2.1 h.2.2.1 h.2.2.2) (iQ h.2.1 pos)⟩else no
   |none=>no
 else no
def Pp(f:Expr)(args:List Expr)(iO:List Keyword)(pos:Pos):Ok (aQ sc (n+1) μ (.Call f args iO pos)):=match iO with
 |[]=>match f with
  |.Name id px=>gQ (P:=λid=>Ok (aQ sc (n+1) μ (.Call (.Name id px) args [] pos))) id (λx=>match args with
   |[]=>(Rw G x px pos).getD (Fj r G x px [] pos)
   |args=>Fj r G x px args pos) no
  |.Attribute o a ap=>gQ (P:=λa=>Ok (aQ sc (n+1) μ (.Call (.Attribute o a ap) args [] pos))) a (λx=>Po r G o x ap args pos) no
  |_=>no
 |_=>no
def Pq(l:Expr)(op:CmpOp)(f:Expr)(pos:Pos):Ok (aQ sc (n+1) μ (.Compare l [op] [f] pos)):=match f with
 |.List es p2=>match es with
  |[]=>match op with
   |.NotEq=>⟨tN (r.x sc μ l).m,NC (r.x sc μ l).h rfl⟩
   |.Eq=>⟨qd (r.x sc μ l).m,ND (r.x sc μ l).h rfl⟩
   |_=>no
  |_=>no
 |.ListComp a b c d=>⟨ub op (r.e sc μ l).m (r.e sc μ (.ListComp a b c d)).m,Pf (r.e sc μ l).h (r.e sc μ (.ListComp a b c d)).h rfl⟩
 |f=>if hm:behindInMarks op f=false then⟨df op (r.e sc μ l).m (r.e sc μ f).m,QJ (r.e sc μ l).h (r.e sc μ f).h hm⟩else no
def Uh:∀e,Ok (aQ sc (n+1) μ e)
 |.Name id pos=>gQ (P:=λid=>Ok (aQ sc (n+1) μ (.Name id pos))) id (λx=>if h:(ofString x==("__debug__":Str))=false/\(ofString x==("__classdict__":Str))=false then⟨nm x,OG h.1 h.2⟩else no) no
 |.Constant c k pos=>match c with
  |.none=>⟨ae .none,OH⟩
  |.bool b=>⟨ae (.bool b),OI⟩
  |.int i=>⟨ae (.int i),QA⟩
  |.str s=>gQ (P:=λs=>Ok (aQ sc (n+1) μ (.Constant (.str s) k pos))) s (λx=>⟨ae (.str x),QB⟩) no
  |_=>no
 |.UnaryOp op x pos=>match op with
  |.USub=>⟨c8 (r.e sc μ x).m,Q4 (r.e sc μ x).h⟩
  |.Not=>⟨dV (r.e sc μ x).m,QF (r.e sc μ x).h⟩
  |_=>no
 |.BoolOp op vs pos=>match op,vs with
  |.And,[a,b]=>⟨dQ (r.e sc μ a).m (r.e sc μ b).m,QG (r.e sc μ a).h (r.e sc μ b).h⟩
  |_,_=>no
 |.Compare l ops cs pos=>match ops,cs with
  |[op],[f]=>Pq r l op f pos
  |[op,qH],[f,f']=>if h:lastMarks [op,qH] [f,f']=false then⟨dF op qH (r.e sc μ l).m (r.e sc μ f).m (r.e sc μ f').m,Nf (r.e sc μ l).h (r.e sc μ f).h (r.e sc μ f').h h⟩else no
  |_,_=>no
 |.BinOp a op b pos=>if uN a||uN b then⟨bE (r.l sc μ (.BinOp a op b pos)).m,tX (r.l sc μ (.BinOp a op b pos)).h⟩else match op with
  |.Mult=>⟨BI (r.e sc μ a).m (r.e sc μ b).m,Q5 (r.e sc μ a).h (r.e sc μ b).h⟩
  |.BitOr=>⟨BJ (r.e sc μ a).m (r.e sc μ b).m,Q6 (r.e sc μ a).h (r.e sc μ b).h⟩
  |op=>⟨aE op (r.e sc μ a).m (r.e sc μ b).m,QH (r.e sc μ a).h (r.e sc μ b).h⟩
 |.IfExp t a b pos=>⟨bz (r.c sc μ t).m (r.e sc μ a).m (r.e sc μ b).m,QE (r.c sc μ t).h (r.e sc μ a).h (r.e sc μ b).h⟩
 |.Attribute e f pos=>gQ (P:=λf=>Ok (aQ sc (n+1) μ (.Attribute e f pos))) f (λf=>if h:f∈hB/\fy e [16]=true then⟨aP f (r.e sc μ e).m,OL (r.e sc μ e).h h.1 (wq h.2)⟩else no) no
 |.Subscript v s pos=>if hs:fy s [26]=true then
  if uc v then⟨b9 (r.x sc μ v).m (r.e sc 0 s).m,OP (r.x sc μ v).h (r.e sc 0 s).h (FY hs)⟩else⟨au (r.e sc μ v).m (r.e sc μ s).m,QN (r.e sc μ v).h (r.e sc μ s).h (FY hs)⟩
  else⟨bE (r.l sc μ (.Subscript v s pos)).m,tX (r.l sc μ (.Subscript v s pos)).h⟩
 |.Tuple es k pos=>⟨aU (mf (μ:=μ) r es).m,Nh (mf r es).h⟩
 |.List es pos=>if H.ml.contains pos.line then⟨kh (r.l sc μ (.List es pos)).m,Ni (r.l sc μ (.List es pos)).h⟩else⟨bE (r.l sc μ (.List es pos)).m,tX (r.l sc μ (.List es pos)).h⟩
 |.ListComp a b c d=>⟨bE (r.l sc μ (.ListComp a b c d)).m,tX (r.l sc μ (.ListComp a b c d)).h⟩
 |.Dict ks vs pos=>match ks,vs with
  |[],[]=>⟨jj,NI⟩
  |ks,vs=>if h:1<=μ/\ks.all (·.isSome)=true/\ks.length=vs.length/\ks.length<=15/\ks.length≠0 then⟨qp (yi (μ:=1) r ks vs).m,Pc (yi r ks vs).h h.1 h.2.1 h.2.2.1 (λe=>h.2.2.2.2 (by rw[e];rfl)) h.2.2.2.1⟩else no
 |.Call f args iO pos=>Pp r G f args iO pos
 |_=>no
end
end
section
set_option genInjectivity false
section
variable{n μ:Nat}{sc:Scope}
theorem fC.up{μ ν:Nat}(P:fC sc μ J g g' ms' h' l')(qF:μ<=ν):fC sc ν J g g' ms' h' l':={P with le:=P.le.up qF}
theorem lM.up{μ ν:Nat}{t:Env->Sem Flow}(h:lM sc n μ t m)(qF:μ<=ν):lM sc n ν t m:=by intro A J g ms s l E Q p r l' ms' hm hQ;exact h p hm λf h' tk g' P q=>hQ f h' tk g' (P.up qF) q
theorem j7.up{μ ν:Nat}{t:Env->Value->Sem Unit}(h:j7 sc n μ t m)(qF:μ<=ν):j7 sc n ν t m:=by intro A J g ms s l E Q v x p hv l' ms' hm hQ;exact h p hv hm λh' tk g' P=>hQ h' tk g' (P.up qF)
theorem j7.fail{t:Env->Value->Sem Unit}:j7 sc n μ t (λ_ _ _=>none):=by intro A J g ms s l E Q v x p hv l' ms' hm;exact aX hm
theorem j6.fail{t:Env->List (Value->Sem Unit)}:j6 sc n μ t (λ_ _ _=>none):=by intro A J g ms s l E Q v x p hv l' ms' hm;exact aX hm
theorem zB{line:Nat}(J:Env):swapsWith e (some (.Attribute o f ap)) line J=pure false:=by cases e<;>rfl
variable(r:Rc (n+1))(H:Hn)
def HW(t:Expr):Ok (qe sc (n+1) μ t):=match t with
 |.Name id px=>gQ (P:=λid=>Ok (qe sc (n+1) μ (.Name id px))) id (λx=>if h:sc.names.lookup (ofString x)=some .local\/sc.names.lookup (ofString x)=some .cell then⟨cP x,NF h⟩else⟨λ_ _ _=>none,j7.fail⟩) ⟨λ_ _ _=>none,j7.fail⟩
 |.Subscript o i ap=>if h:2<=μ then⟨iD (r.e sc 2 o).m (r.e sc 2 i).m,j7.up (Ph (r.e sc 2 o).h (r.e sc 2 i).h) h⟩else⟨λ_ _ _=>none,j7.fail⟩
 |.Attribute o f ap=>gQ (P:=λf=>Ok (qe sc (n+1) μ (.Attribute o f ap))) f (λf=>if h:1<=μ/\f∈hB then⟨mM f (r.e sc μ o).m,NG (r.e sc μ o).h h.1 h.2⟩else⟨λ_ _ _=>none,j7.fail⟩) ⟨λ_ _ _=>none,j7.fail⟩
 |_=>⟨λ_ _ _=>none,j7.fail⟩
noncomputable def xf:∀ts,Ok λf:oH=>j6 sc (n+1) μ (λJ=>(assignEach ts J).map (·.2)) f
 |[]=>⟨fo,Ff⟩
 |t::ts=>if h:fy t [22]=true then⟨bM (HW (μ:=μ) (sc:=sc) r t).m (xf ts).m,Mk (HW r t).h (xf ts).h (F0 h ts)⟩else⟨λ_ _ _=>none,j6.fail⟩
noncomputable def wt:∀ns:List Str,Ok λf:oH=>j6 sc n μ (λJ=>ns.map λx=>bindName J x) f
 |[]=>⟨fo,Ff⟩
 |x::ns=>gQ (P:=λx=>Ok λf:oH=>j6 sc n μ (λJ=>(x::ns).map λx=>bindName J x) f) x (λx=>if h:sc.names.lookup (ofString x)=some .local\/sc.names.lookup (ofString x)=some .cell then⟨bM (cP x) (wt ns).m,D' (NH h) (wt ns).h⟩else⟨λ_ _ _=>none,j6.fail⟩) ⟨λ_ _ _=>none,j6.fail⟩
def Iz(o:Expr):Ok (t8 sc (n+1) μ o):=match o with
 |.Dict [] [] pos=>⟨qC,O9⟩
 |.Call (.Name id px) [a] [] pos=>gQ (P:=λid=>Ok (t8 sc (n+1) μ (.Call (.Name id px) [a] [] pos))) id (λx=>match x with
  |"dict"=>if h:sc.names.lookup (ofString "dict")=some .globalImplicit/\kZ [a]=true/\fy a [22]=true then⟨(xF (μ:=μ) r a).m,Pa (xF r a).h Aa h.1 (gC h.2.2 _) (iQ h.2.1 pos)⟩else no
  |_=>no) no
 |_=>no
def Ry(t e:Expr)(pos:Pos):Ok (hM sc (n+1) μ (.Assign [t] e pos)):=match t with
 |.Name id px=>gQ (P:=λid=>Ok (hM sc (n+1) μ (.Assign [.Name id px] e pos))) id (λx=>match e with
  |.ListComp elt gens scope cp=>if hc:sc.names.lookup (ofString x)=some .cell then⟨bq x (r.e sc μ (.ListComp elt gens scope cp)).m,GU (r.e sc μ (.ListComp elt gens scope cp)).h (.inr hc) (Mn hc)⟩
   else match gens with
    |[⟨tg,iter,ifs,0⟩]=>if h:sc.names.lookup (ofString x)=some .local/\(px.line==cp.line)=true/\(scope.names.any λy=>y.1==ofString x&&(y.2==.local||y.2==.cell))=false/\sc.kind=.function then
     F5 (sc:=sc) (μ:=if A0 H iter then min μ 1 else μ) r H scope tg iter elt ifs g8 λok hi hT hc he hs=>⟨_,lM.up (Li ok hi hT hc he h.1 h.2.1 h.2.2.1 h.2.2.2 hs) HV⟩
     else g8
    |_=>g8
  |e=>if h:(sc.names.lookup (ofString x)=some .local\/sc.names.lookup (ofString x)=some .cell)/\fy e [8,9,10]=true then⟨bq x (r.e sc μ e).m,GU (r.e sc μ e).h h.1 (λJ _=>rB h.2 _ _ J)⟩else g8) g8
 |.Attribute o f ap=>gQ (P:=λf=>Ok (hM sc (n+1) μ (.Assign [.Attribute o f ap] e pos))) f (λf=>if h:1<=μ/\f∈hB then
  if uc (.Attribute o (ofString f) ap)then⟨cz f (r.e sc μ o).m (r.l sc μ e).m,Nj (r.l sc μ e).h (r.e sc μ o).h h.1 h.2 zB⟩
  else if f="walks"then⟨dk f (r.e sc μ o).m (Iz (μ:=μ) (sc:=sc) r e).m,Nz (Iz r e).h (r.e sc μ o).h h.1 h.2 zB⟩
  else⟨bR f (r.e sc μ o).m (r.e sc μ e).m,OQ (r.e sc μ e).h (r.e sc μ o).h h.1 h.2 zB⟩
  else g8) g8
 |.Subscript o i ap=>if h:2<=μ/\fy e [8,9,10]=true then
  if uc o then⟨cT (oI (μ:=2) (sc:=sc) r o).m.1 (oI (μ:=2) (sc:=sc) r o).m.2 (r.e sc 0 i).m (r.e sc 2 e).m,lM.up (Nl (r.e sc 2 e).h (oI r o).h (r.e sc 0 i).h (rB h.2 _ _)) h.1⟩
  else⟨gE (r.e sc 2 o).m (r.e sc 2 i).m (r.e sc 2 e).m,lM.up (OS (r.e sc 2 e).h (r.e sc 2 o).h (r.e sc 2 i).h (rB h.2 _ _)) h.1⟩
  else g8
 |.Tuple ts k tp=>if h:fy e [8,9,10]=true/\kZ ts=true then match hw:swappedStores [.Tuple ts k tp] e (HS sc)with
  |.pure none=>⟨dY ts.length (r.e sc μ e).m (xf (μ:=μ) (sc:=sc) r ts).m,Ml (r.e sc μ e).h (xf r ts).h (λJ=>(zN J h.2).1) (λJ=>(zN J h.2).2) (λJ=>rB h.1 (some (.Tuple ts k tp)) pos.line J) (F1 hw)⟩
  |.pure (some ns)=>⟨dY ns.length (r.e sc μ e).m (λvs=>(wt (n:=n+1) (μ:=μ) (sc:=sc) ns.reverse).m vs.reverse),Pj (r.e sc μ e).h (wt ns.reverse).h (λJ=>rB h.1 (some (.Tuple ts k tp)) pos.line J) (F1 hw)⟩
  |_=>g8
  else g8
 |_=>g8
noncomputable def Pr:List Stmt->Nat
 |s::_=>match s with
  |.Assign _ _ pos=>pos.line
  |.Return _ pos=>pos.line
  |_=>0
 |_=>0
def rQ(ss:List Stmt):Ok (jA sc (n+1) μ ss):=if H.bad.contains (Pr ss)then g8 else r.b sc μ ss
def IA:∀st,Ok (hM sc (n+1) μ st)
 |.Return none pos=>⟨aW (ae .none),Lb⟩
 |.Return (some e) pos=>⟨aW (r.e sc μ e).m,L8 (r.e sc μ e).h⟩
 |.Expr e pos=>if h:fy e [8,9,10]=true then⟨aR (r.e sc μ e).m,OW (r.e sc μ e).h NK (rB h _ _)⟩else g8
 |.If t b o pos=>⟨aG (r.c sc μ t).m (rQ r H b).m (rQ r H o).m,SE (r.c sc μ t).h (rQ r H b).h (rQ r H o).h⟩
 |.While t b o pos=>match o with
  |[]=>⟨ix 20 (r.c sc μ t).m (r.b sc μ b).m,Nn 20 (r.c sc μ t).h (r.b sc μ b).h⟩
  |_=>g8
 |.For tg iter b o pos=>match o with
  |[]=>match Ru sc tg with
   |some T=>if h:fy iter [7]=true then⟨gU (Co (sc:=sc) (μ:=μ) r H (tP tg) iter).m T.m (rQ r H b).m,QW T.h (Co r H (tP tg) iter).h (rQ r H b).h (Fh h)⟩else g8
   |none=>g8
  |_=>g8
 |.AugAssign t op e pos=>match t with
  |.Name id px=>gQ (P:=λid=>Ok (hM sc (n+1) μ (.AugAssign (.Name id px) op e pos))) id (λx=>if h:(ofString x==("__classdict__":Str))=false/\(sc.names.lookup (ofString x)=some .local\/sc.names.lookup (ofString x)=some .cell)then⟨dC x op (r.e sc μ e).m,QR (r.e sc μ e).h h.1 h.2⟩else g8) g8
  |.Attribute o f ap=>gQ (P:=λf=>Ok (hM sc (n+1) μ (.AugAssign (.Attribute o f ap) op e pos))) f (λf=>if h:1<=μ/\f∈hB then⟨dh f op (r.e sc μ o).m (r.e sc μ e).m,Lc (r.e sc μ o).h (r.e sc μ e).h h.1 h.2⟩else g8) g8
  |_=>g8
 |.Assign ts e pos=>match ts with
  |[t]=>Ry r H t e pos
  |_=>g8
 |_=>g8
noncomputable def Cp:∀ss,Ok (jA sc (n+1) μ ss)
 |[]=>⟨ao,QL⟩
 |s::ss=>⟨ag (IA (sc:=sc) (μ:=μ) r H s).m (Cp ss).m,OK (IA r H s).h (Cp ss).h⟩
end
noncomputable def tr{n:Nat}(H:Hn){Γ:List dg}(G:ck n Γ):Nat->Rc (n+1)
 |0=>⟨λ_ _ _=>no,λ_ _ _=>no,λ_ _ _=>no,λ_ _ _=>no,λ_ _ _=>g8⟩
 |k+1=>⟨λ_ _ e=>Uh (tr H G k) H G e,λ_ _ e=>Ud (tr H G k) e,λ_ _ e=>Ue (tr H G k) H e,λ_ _ e=>Ug (tr H G k) e,λ_ _ ss=>Cp (tr H G k) H ss⟩
end
section
noncomputable def xG(f:Addr):Obj:=(B.K.lookup f).getD default
noncomputable def jq(f:Addr):FuncData:=match(xG f).data with
 |.func fd=>fd
 |_=>default
noncomputable def Rz(s:c9)(f:Addr):FuncData:=fnOf (jq f).name (jq f).qualname s.params s.body s.scope .none (jq f).kwdefaults (jq f).doc (jq f).pyModule (jq f).annotations (jq f).code (jq f).closureTuple
noncomputable def ud(s:c9)(f:Addr):Obj:=⟨(xG f).cls,(xG f).dict,.func (Rz s f),(xG f).slots⟩
theorem NO(h:B.K.lookup f=some (ud s f))(h2:codeIn B.K (jq f).code (jq f).qualname=true):xC B.K f s:=⟨_,_,_,_,_,_,_,_,_,_,_,h,h2⟩
noncomputable def uO(s:c9)(ps:List String):Bool:=decide ps.Nodup&&(ps.all λp=>s.scope.names.lookup (ofString p)==some .local||s.scope.names.lookup (ofString p)==some .cell)&&(!s.scope.isCoroutine&&!s.scope.isGenerator&&s.scope.kind==.function)
theorem tE(h:uO s ps=true):ps.Nodup/\(∀p∈ps,s.scope.names.lookup (ofString p)=some .local\/s.scope.names.lookup (ofString p)=some .cell)/\s.scope.isCoroutine=false/\s.scope.isGenerator=false/\s.scope.kind=.function:=by have a:=Bool.and_eq_true_iff.mp h;have b:=Bool.and_eq_true_iff.mp a.1;have c:=Bool.and_eq_true_iff.mp a.2;have d:=Bool.and_eq_true_iff.mp c.1;exact⟨of_decide_eq_true b.1,λp m=>(Bool.or_eq_true_iff.mp (List.all_eq_true.mp b.2 p m)).imp beq_iff_eq.mp beq_iff_eq.mp,Bool.not_eq_eq_eq_not.mp d.1,Bool.not_eq_eq_eq_not.mp d.2,beq_iff_eq.mp c.2⟩
def yj(s:c9)(ps:List String)(xs:List Value):Prop:=∀(name qual:Str) (kV doc pm:Value) (an:Option Addr) (fO ct:Value),bindArgs (fnOf name qual s.params s.body s.scope .none kV doc pm an fO ct) ⟨xs,[]⟩=pure (jK ps xs)
theorem dD{P:List Value->Prop}(h:P [])(xs:List Value)(e:xs.length=0):P xs:=List.eq_nil_of_length_eq_zero e▸h
theorem bH{P:List Value->Prop}{k:Nat}(h:∀a,∀xs:List Value,xs.length=k->P (a::xs)):∀xs:List Value,xs.length=k+1->P xs
 |a::xs,e=>h a xs (Nat.succ.inj e)
theorem A4{n:Nat}(H:Hn)(G:ck n Γ){μ:Nat}(h1:B.K.lookup f=some (ud s f))(h2:(codeIn B.K (jq f).code (jq f).qualname&&uO s ps)=true)
 (h3:∀xs:List Value,xs.length=ps.length->yj s ps xs)(h4:((tr H G 30).b s.scope μ s.body).m=M):iF (n+2) μ f (cE ps [] ps.length M):=by
 have a:=Bool.and_eq_true_iff.mp h2;have c:=tE a.2;exact xC.impl (NO h1 a.1) c.1 c.2.1 (λ_ _ _ _ _ _ _ _ xs hx=>h3 xs hx _ _ _ _ _ _ _ _) c.2.2 (h4▸((tr H G 30).b s.scope μ s.body).h)
theorem ck.up{n k:Nat}(G:ck n Γ)(h:n<=k):ck k Γ:=λe m=>{G e m with im:=(G e m).im.use h (le_refl _)}
theorem ck.cons{n:Nat}{k μ:Nat}(h:rP n x k μ a c F)(G:ck n Γ):ck n (⟨x,k,μ,a,c,F⟩::Γ):=λe m=>(mem_cons.mp m).elim (λq=>q▸h) (G e)
theorem BS{n:Nat}{μ:Nat}(im:iF n μ a F)(h:nsIn B.K mainGlobals (ofString x)=some (some (.ref a)))(h':keepIn B.K (.ref a)=true):rP n x 0 μ a .arr F:=⟨im,λ_=>⟨h,h'⟩,λq=>(nomatch q),λq=>absurd q (by decide),λq=>(nomatch q)⟩
theorem S2{n:Nat}{μ:Nat}(im:iF n μ a F)(h:findIn B.K (.ref (eE .arr)) (ofString x)=some (some (.ref a)))(h1:typeIn B.K (.ref a)=some (.type "function"))(h':keepIn B.K (.ref a)=true):rP n x 1 μ a .arr F:=⟨im,λq=>(nomatch q),λ_=>⟨h,h1,h'⟩,λq=>absurd q (by exact λz4=>Nat.not_lt_of_le z4 (Nat.lt_succ_self _)),λq=>(nomatch q)⟩
theorem xH{n:Nat}{k μ:Nat}(im:iF n μ a F)(g:oB B.K x (.ref (eE c)))(m:o6 B.K (eE c) a)(z:c=.abs->∃fs,F [.ref 0] [.inst .abs []]=some (.none,[.inst .abs fs])):rP n x (k+2) μ a c F:=⟨im,λq=>(nomatch q),λq=>(nomatch q),λ_=>⟨g,m⟩,z⟩
theorem S3:ck 0 []:=λ_ m=>absurd m List.not_mem_nil
theorem fL{n:Nat}(H:Hn)(G:ck n Γ){μ:Nat}(h1:B.K.lookup a=some (ud s a))(h2:(codeIn B.K (jq a).code (jq a).qualname&&uO s ps&&keepIn B.K (.ref a))=true)
 (h3:∀xs:List Value,xs.length=ps.length->yj s ps xs)(h4:((tr H G 30).b s.scope μ s.body).m=M)(h5:nsIn B.K mainGlobals (ofString x)=some (some (.ref a))):ck (n+2) (⟨x,0,μ,a,.arr,cE ps [] ps.length M⟩::Γ):=
 have q:=Bool.and_eq_true_iff.mp h2
 .cons (BS (A4 H G h1 q.1 h3 h4) h5 q.2) (G.up (le_add_right _ _))
theorem sb{n:Nat}(H:Hn)(G:ck n Γ){μ:Nat}(h1:B.K.lookup a=some (ud s a))(h2:(codeIn B.K (jq a).code (jq a).qualname&&uO s ps&&keepIn B.K (.ref a))=true)
 (h3:∀xs:List Value,xs.length=ps.length->yj s ps xs)(h4:((tr H G 30).b s.scope μ s.body).m=M)(h5:(findIn B.K (.ref (eE .arr)) (ofString x),typeIn B.K (.ref a))=(some (some (.ref a)),some (.type "function"))):ck (n+2) (⟨x,1,μ,a,.arr,cE ps [] ps.length M⟩::Γ):=
 have q:=Bool.and_eq_true_iff.mp h2;have p:=Prod.mk.inj h5
 .cons (S2 (A4 H G h1 q.1 h3 h4) p.1 p.2 q.2) (G.up (le_add_right _ _))
theorem uP{n:Nat}(H:Hn)(G:ck n Γ){μ:Nat}{M:MF->MS}{F:Nat->MF}(h1:B.K.lookup a=some (ud s a))(h2:(codeIn B.K (jq a).code (jq a).qualname&&uO s ps&&keepIn B.K (.ref a))=true)
 (h3:∀xs:List Value,xs.length=ps.length->yj s ps xs)(h4:∀(m:Nat) (Fk:MF) (G':ck m (⟨x,0,μ,a,.arr,Fk⟩::Γ)),((tr H G' 30).b s.scope μ s.body).m=M Fk)(h5:nsIn B.K mainGlobals (ofString x)=some (some (.ref a)))
 (f0:F 0=λ_ _=>none)(fS:∀k,F (k+1)=cE ps [] ps.length (M (F k))):ck (n+20) (⟨x,0,μ,a,.arr,F 10⟩::Γ):=by
 have q:=Bool.and_eq_true_iff.mp h2;have all:∀k,iF (n+2*k) μ a (F k):=by
  intro k;induction k with
  |zero=>rw[f0];exact iF.fail
  |succ k ih=>rw[fS];exact A4 H (ck.cons (BS ih h5 q.2) (G.up (le_add_right n (2*k)))) h1 q.1 h3 (h4 _ _ _)
 exact .cons (BS (all 10) h5 q.2) (G.up (le_add_right _ _))
end
section
set_option maxHeartbeats 4000000
def NP:c9:=bU (fg 5)
def Fm:MS:=ag (aW (c8 (aE .Pow (ae (.int 2)) (ae (.int 63))))) (ao)
def wu:MF:=cE [] [] 0 Fm
def Fn:List dg:=⟨"least",0,0,81,.arr,wu⟩::[]
theorem Mo:ck 2 Fn:=fL (x:="least") (a:=81) (s:=NP) (ps:=[]) (μ:=0) (M:=Fm) ⟨[],[],false⟩ S3 (by kernel_rfl) (by kernel_rfl) (dD λ_ _ _ _ _ _ _ _=>rfl) (by kernel_rfl) (by kernel_rfl)
def Ky:c9:=bU (fg 6)
def DQ:MS:=ag (aW (aE .Sub (aE .Pow (ae (.int 2)) (ae (.int 63))) (ae (.int 1)))) (ao)
def sY:MF:=cE [] [] 0 DQ
def DR:List dg:=⟨"greatest",0,0,88,.arr,sY⟩::Fn
theorem yX:ck 4 DR:=fL (x:="greatest") (a:=88) (s:=Ky) (ps:=[]) (μ:=0) (M:=DQ) ⟨[],[],false⟩ Mo (by kernel_rfl) (by kernel_rfl) (dD λ_ _ _ _ _ _ _ _=>rfl) (by kernel_rfl) (by kernel_rfl)
def ob:c9:=bU (ow 9 0)
def Ea:MS:=ag (bR "was_unset" (nm "self") (nm "was_unset")) (ao)
def Ll:MF:=cE ["self","was_unset"] [.bool false] 1 Ea
def Eb:List dg:=⟨"Absent",2,1,125,.abs,Ll⟩::DR
theorem Lm:lP B.K 125 ob [.bool false]:=⟨_,_,_,_,_,_,_,_,_,_,_,_,rfl,rfl,_,_,rfl,rfl⟩
theorem Ln:oB B.K "Absent" (.ref (eE .abs)):=⟨(by kernel_rfl),(by kernel_rfl)⟩
theorem Lp:o6 B.K (eE .abs) 125:=⟨(by kernel_rfl),(by kernel_rfl),(by kernel_rfl)⟩
theorem Lq:((tr ⟨[],[],false⟩ yX 30).b ob.scope 1 ob.body).m=Ea:=by kernel_rfl
theorem zb:ck 6 Eb:=
 have c:=tE (s:=ob) (ps:=["self","was_unset"]) (by kernel_rfl)
 .cons (xH (k:=0) (lP.impl (dvs:=[.bool false]) Lm (λg=>.cons (.bool _) .nil) c.1 c.2.1 (λn q T kV doc pm an fO ct xs hx=>((bH λ_=>dD λ_ _ _ _ _ _ _ _ _=>⟨_,rfl,rfl⟩):∀xs:List Value,xs.length=1->∀(n q:Str) (T:Addr) (kV doc pm:Value) (an:Option Addr) (fO ct:Value),∃kk:Option (Array Value)->Sem (List (Str×Value)),bindArgs (fnOf n q ob.params ob.body ob.scope (.ref T) kV doc pm an fO ct) ⟨xs,[]⟩=seqItems? (.ref T)>>=kk/\kk (some ([.bool false]:List Value).toArray)=pure (jK ["self","was_unset"] (xs++[.bool false]))) xs hx n q T kV doc pm an fO ct) c.2.2 (Lq▸((tr ⟨[],[],false⟩ yX 30).b ob.scope 1 ob.body).h)) Ln Lp (λ_=>⟨_,rfl⟩)) (yX.up (by decide))
def ji:c9:=bU (ow 14 0)
def F6:MS:=ag (bR "is_packed" (nm "self") (ae (.bool true))) (ag (cz "keys" (nm "self") (bI (af))) (ag (cz "vals" (nm "self") (bI (af))) (ag (cz "heads" (nm "self") (bI (af))) (ag (cz "nexts" (nm "self") (bI (af))) (ag (bR "size" (nm "self") (nm "size")) (ag (bR "count" (nm "self") (ae (.int 0))) (ag (bR "next" (nm "self") (aq (wu) (af))) (ag (bR "at" (nm "self") (ae (.int 0))) (ag (bR "is_shared" (nm "self") (ae (.bool false))) (ag (dk "walks" (nm "self") (qC)) (ao)))))))))))
def jk:MF:=cE ["self","size"] [.int 8] 1 F6
def F7:List dg:=⟨"Arr",2,1,182,.arr,jk⟩::Eb
theorem Fo:∃t,lP B.K 182 ji [.int 8 t]:=⟨_,⟨_,_,_,_,_,_,_,_,_,_,_,_,rfl,rfl,_,_,rfl,rfl⟩⟩
noncomputable def xI:Tok:=Fo.choose
theorem F8:lP B.K 182 ji [.int 8 xI]:=Fo.choose_spec
theorem F9:oB B.K "Arr" (.ref (eE .arr)):=⟨(by kernel_rfl),(by kernel_rfl)⟩
theorem F':o6 B.K (eE .arr) 182:=⟨(by kernel_rfl),(by kernel_rfl),(by kernel_rfl)⟩
theorem Pu:((tr ⟨[],[],false⟩ zb 30).b ji.scope 1 ji.body).m=F6:=by kernel_rfl
theorem zO:ck 8 F7:=
 have c:=tE (s:=ji) (ps:=["self","size"]) (by kernel_rfl)
 .cons (xH (k:=0) (lP.impl (dvs:=[.int 8]) F8 (λg=>.cons (.int _ _) .nil) c.1 c.2.1 (λn q T kV doc pm an fO ct xs hx=>((bH λ_=>dD λ_ _ _ _ _ _ _ _ _=>⟨_,rfl,rfl⟩):∀xs:List Value,xs.length=1->∀(n q:Str) (T:Addr) (kV doc pm:Value) (an:Option Addr) (fO ct:Value),∃kk:Option (Array Value)->Sem (List (Str×Value)),bindArgs (fnOf n q ji.params ji.body ji.scope (.ref T) kV doc pm an fO ct) ⟨xs,[]⟩=seqItems? (.ref T)>>=kk/\kk (some ([.int 8 xI]:List Value).toArray)=pure (jK ["self","size"] (xs++[.int 8 xI]))) xs hx n q T kV doc pm an fO ct) c.2.2 (Pu▸((tr ⟨[],[],false⟩ zb 30).b ji.scope 1 ji.body).h)) F9 F' (λq=>(nomatch q))) (zb.up (by decide))
def Ga:MS:=ag (bR "is_packed" (nm "self") (ae (.bool true))) (ag (cz "keys" (nm "self") (bI (af))) (ag (cz "vals" (nm "self") (bI (af))) (ag (cz "heads" (nm "self") (bI (af))) (ag (cz "nexts" (nm "self") (bI (af))) (ag (bR "size" (nm "self") (nm "size")) (ag (bR "count" (nm "self") (ae (.int 0))) (ag (bR "next" (nm "self") (aq (wu) (af))) (ag (bR "at" (nm "self") (ae (.int 0))) (ag (bR "is_shared" (nm "self") (ae (.bool false))) (ag (dk "walks" (nm "self") (qC)) (ao)))))))))))
def Ab:MF:=cE ["self","size"] [] 2 Ga
def Gb:List dg:=⟨"Arr",3,1,182,.arr,Ab⟩::F7
theorem Pw:((tr ⟨[],[],false⟩ zO 30).b ji.scope 1 ji.body).m=Ga:=by kernel_rfl
theorem zP:ck 10 Gb:=
 have c:=tE (s:=ji) (ps:=["self","size"]) (by kernel_rfl)
 .cons (xH (k:=1) (lP.G5 F8 c.1 c.2.1 (λn q T kV doc pm an fO ct xs hx=>((bH λ_=>(bH λ_=>dD λ_ _ _ _ _ _ _ _ _=>⟨_,rfl,rfl⟩)):∀xs:List Value,xs.length=2->∀(n q:Str) (T:Addr) (kV doc pm:Value) (an:Option Addr) (fO ct:Value),∃kk:Option (Array Value)->Sem (List (Str×Value)),bindArgs (fnOf n q ji.params ji.body ji.scope (.ref T) kV doc pm an fO ct) ⟨xs,[]⟩=seqItems? (.ref T)>>=kk/\kk (some ([.int 8 xI]:List Value).toArray)=pure (jK ["self","size"] xs)) xs hx n q T kV doc pm an fO ct) c.2.2 (Pw▸((tr ⟨[],[],false⟩ zO 30).b ji.scope 1 ji.body).h)) F9 F' (λq=>(nomatch q))) (zO.up (by decide))
def og:c9:=bU (ow 8 0)
def Gd:MS:=ag (bR "value" (nm "self") (nm "value")) (ag (bR "holders" (nm "self") (ae (.int 0))) (ag (cz "types" (nm "self") (bI (af))) (ao)))
def rG:MF:=cE ["self","value"] [] 2 Gd
def Ge:List dg:=⟨"Ref",3,1,103,.ref,rG⟩::Gb
theorem Px:lP B.K 103 og [.none]:=⟨_,_,_,_,_,_,_,_,_,_,_,_,rfl,rfl,_,_,rfl,rfl⟩
theorem Py:oB B.K "Ref" (.ref (eE .ref)):=⟨(by kernel_rfl),(by kernel_rfl)⟩
theorem Pz:o6 B.K (eE .ref) 103:=⟨(by kernel_rfl),(by kernel_rfl),(by kernel_rfl)⟩
theorem PA:((tr ⟨[],[],false⟩ zP 30).b og.scope 1 og.body).m=Gd:=by kernel_rfl
theorem NQ:ck 12 Ge:=
 have c:=tE (s:=og) (ps:=["self","value"]) (by kernel_rfl)
 .cons (xH (k:=1) (lP.G5 Px c.1 c.2.1 (λn q T kV doc pm an fO ct xs hx=>((bH λ_=>(bH λ_=>dD λ_ _ _ _ _ _ _ _ _=>⟨_,rfl,rfl⟩)):∀xs:List Value,xs.length=2->∀(n q:Str) (T:Addr) (kV doc pm:Value) (an:Option Addr) (fO ct:Value),∃kk:Option (Array Value)->Sem (List (Str×Value)),bindArgs (fnOf n q og.params og.body og.scope (.ref T) kV doc pm an fO ct) ⟨xs,[]⟩=seqItems? (.ref T)>>=kk/\kk (some ([.none]:List Value).toArray)=pure (jK ["self","value"] xs)) xs hx n q T kV doc pm an fO ct) c.2.2 (PA▸((tr ⟨[],[],false⟩ zP 30).b og.scope 1 og.body).h)) Py Pz (λq=>(nomatch q))) (zP.up (by decide))
end
section
set_option maxHeartbeats 4000000
def NR:c9:=bU (fg 11)
def wx:MS:=ag (aG (aw (aO (nm "slot") (.c .ref))) (ag (bq "slot" (aP "value" (nm "slot"))) (ao)) (ao)) (ag (aG (aw (aO (nm "slot") (.c .abs))) (ag (aW (ae .none)) (ao)) (ao)) (ag (aW (nm "slot")) (ao)))
def jy:MF:=cE ["slot"] [] 1 wx
def Fp:List dg:=⟨"deref",0,0,160,.arr,jy⟩::Ge
theorem Mp:ck 14 Fp:=fL (x:="deref") (a:=160) (s:=NR) (ps:=["slot"]) (μ:=0) (M:=wx) ⟨[],[],false⟩ NQ (by kernel_rfl) (by kernel_rfl) (bH λ_=>(dD λ_ _ _ _ _ _ _ _=>rfl)) (by kernel_rfl) (by kernel_rfl)
def PB:c9:=bU (fg 12)
def Ac:MS:=ag (dh "holders" .Add (nm "ref") (ae (.int 1))) (ag (aW (nm "ref")) (ao))
def km:MF:=cE ["ref"] [] 1 Ac
def Gf:List dg:=⟨"hold",0,1,167,.arr,km⟩::Fp
theorem NS:ck 16 Gf:=fL (x:="hold") (a:=167) (s:=PB) (ps:=["ref"]) (μ:=1) (M:=Ac) ⟨[],[],false⟩ Mp (by kernel_rfl) (by kernel_rfl) (bH λ_=>(dD λ_ _ _ _ _ _ _ _=>rfl)) (by kernel_rfl) (by kernel_rfl)
def J1:c9:=bU (fg 15)
def yY:MS:=ag (aW (dQ (dF .LtE .Lt (ae (.int 0)) (nm "place") (bj (a9 "vals" (nm "arr")))) (dV (aO (b9 (a9 "vals" (nm "arr")) (nm "place")) (.c .abs))))) (ao)
def jH:MF:=cE ["arr","place"] [] 2 yY
def Dz:List dg:=⟨"is_living",0,0,252,.arr,jH⟩::Gf
theorem JG:ck 18 Dz:=fL (x:="is_living") (a:=252) (s:=J1) (ps:=["arr","place"]) (μ:=0) (M:=yY) ⟨[],[],false⟩ NS (by kernel_rfl) (by kernel_rfl) (bH λ_=>(bH λ_=>(dD λ_ _ _ _ _ _ _ _=>rfl))) (by kernel_rfl) (by kernel_rfl)
def Lr:c9:=bU (fg 16)
def Ec:MS:=ag (aG (aw (aO (nm "key") .int)) (ag (aW (aE .Mod (nm "key") (aE .Pow (ae (.int 2)) (ae (.int 64))))) (ao)) (ao)) (ag (bq "found" (ae (.int 5381))) (ag (gU (AX (nm "key")) (λv l=>some (l.set "sign" v)) (ag (bq "found" (aE .Mod (aE .Add (BI (nm "found") (ae (.int 33))) (BP (nm "sign"))) (aE .Pow (ae (.int 2)) (ae (.int 64))))) (ao))) (ag (aW (BJ (nm "found") (aE .Pow (ae (.int 2)) (ae (.int 63))))) (ao))))
def tc:MF:=cE ["key"] [] 1 Ec
def Ed:List dg:=⟨"hash_of",0,0,259,.arr,tc⟩::Dz
theorem Kz:ck 20 Ed:=fL (x:="hash_of") (a:=259) (s:=Lr) (ps:=["key"]) (μ:=0) (M:=Ec) ⟨[],[],false⟩ JG (by kernel_rfl) (by kernel_rfl) (bH λ_=>(dD λ_ _ _ _ _ _ _ _=>rfl)) (by kernel_rfl) (by kernel_rfl)
def PC:c9:=bU (ow 14 1)
def Ad:MS:=ag (aG (aw (aP "is_packed" (nm "self"))) (ag (aW (bz (aK (aw (aO (nm "key") .int)) (aK (aw (aq (jH) (aa (nm "self") (aa (nm "key") (af))))) (aS))) (nm "key") (c8 (ae (.int 1))))) (ao)) (ao)) (ag (bq "place" (b9 (a9 "heads" (nm "self")) (aE .Mod (aq (tc) (aa (nm "key") (af))) (aP "size" (nm "self"))))) (ag (ix 20 (aK (aB .GtE (nm "place") (ae (.int 0))) (aK (aB .NotEq (b9 (a9 "keys" (nm "self")) (nm "place")) (nm "key")) (aS))) (ag (bq "place" (b9 (a9 "nexts" (nm "self")) (nm "place"))) (ao))) (ag (aW (nm "place")) (ao))))
def pe:MF:=cE ["self","key"] [] 2 Ad
def Gg:List dg:=⟨"find",1,0,189,.arr,pe⟩::Ed
theorem NT:ck 22 Gg:=sb (x:="find") (a:=189) (s:=PC) (ps:=["self","key"]) (μ:=0) (M:=Ad) ⟨[],[],false⟩ Kz (by kernel_rfl) (by kernel_rfl) (bH λ_=>(bH λ_=>(dD λ_ _ _ _ _ _ _ _=>rfl))) (by kernel_rfl) (by kernel_rfl)
def PD:c9:=bU (ow 14 3)
def Ae:MS:=ag (bq "place" (bw .arr "find" (pe) (nm "self") (aa (nm "key") (af)))) (ag (aW (bz (aB .Lt (nm "place") (ae (.int 0))) (ae .none) (b9 (a9 "vals" (nm "self")) (nm "place")))) (ao))
def gz:MF:=cE ["self","key"] [] 2 Ae
def Gi:List dg:=⟨"slot",1,0,203,.arr,gz⟩::Gg
theorem NU:ck 24 Gi:=sb (x:="slot") (a:=203) (s:=PD) (ps:=["self","key"]) (μ:=0) (M:=Ae) ⟨[],[],false⟩ NT (by kernel_rfl) (by kernel_rfl) (bH λ_=>(bH λ_=>(dD λ_ _ _ _ _ _ _ _=>rfl))) (by kernel_rfl) (by kernel_rfl)
def Mq:c9:=bU (ow 14 8)
def zC:MS:=ag (aW (bz (aw (aP "is_packed" (nm "self"))) (nm "place") (b9 (a9 "keys" (nm "self")) (nm "place")))) (ao)
def tj:MF:=cE ["self","place"] [] 2 zC
def EI:List dg:=⟨"key_at",1,0,238,.arr,tj⟩::Gi
theorem Ls:ck 26 EI:=sb (x:="key_at") (a:=238) (s:=Mq) (ps:=["self","place"]) (μ:=0) (M:=zC) ⟨[],[],false⟩ NU (by kernel_rfl) (by kernel_rfl) (bH λ_=>(bH λ_=>(dD λ_ _ _ _ _ _ _ _=>rfl))) (by kernel_rfl) (by kernel_rfl)
def Mr:c9:=bU (fg 29)
def wh:MS:=ag (aG (aw (aO (nm "value") (.c .arr))) (ag (bR "is_shared" (nm "value") (ae (.bool true))) (ao)) (ao)) (ag (aW (nm "value")) (ao))
def kJ:MF:=cE ["value"] [] 1 wh
def EJ:List dg:=⟨"marked",0,1,346,.arr,kJ⟩::EI
theorem Lu:ck 28 EJ:=fL (x:="marked") (a:=346) (s:=Mr) (ps:=["value"]) (μ:=1) (M:=wh) ⟨[],[],false⟩ Ls (by kernel_rfl) (by kernel_rfl) (bH λ_=>(dD λ_ _ _ _ _ _ _ _=>rfl)) (by kernel_rfl) (by kernel_rfl)
end
section
set_option maxHeartbeats 4000000
def RA:c9:=bU (ow 14 4)
def A5:MS:=ag (aW (aq (kJ) (aa (aq (jy) (aa (bw .arr "slot" (gz) (nm "self") (aa (nm "key") (af))) (af))) (af)))) (ao)
def qr:MF:=cE ["self","key"] [] 2 A5
def G7:List dg:=⟨"get",1,1,210,.arr,qr⟩::EJ
theorem PE:ck 30 G7:=sb (x:="get") (a:=210) (s:=RA) (ps:=["self","key"]) (μ:=1) (M:=A5) ⟨[],[],false⟩ Lu (by kernel_rfl) (by kernel_rfl) (bH λ_=>(bH λ_=>(dD λ_ _ _ _ _ _ _ _=>rfl))) (by kernel_rfl) (by kernel_rfl)
def PF:c9:=bU (fg 17)
def Af:MS:=ag (bq "chain" (aE .Mod (aq (tc) (aa (b9 (a9 "keys" (nm "arr")) (nm "place")) (af))) (aP "size" (nm "arr")))) (ag (cT "nexts" (bJ "nexts" (nm "arr")) (nm "place") (b9 (a9 "heads" (nm "arr")) (nm "chain"))) (ag (cT "heads" (bJ "heads" (nm "arr")) (nm "chain") (nm "place")) (ao)))
def oi:MF:=cE ["arr","place"] [] 2 Af
def Gj:List dg:=⟨"link",0,2,266,.arr,oi⟩::G7
theorem NV:ck 32 Gj:=fL (x:="link") (a:=266) (s:=PF) (ps:=["arr","place"]) (μ:=2) (M:=Af) ⟨[],[],false⟩ PE (by kernel_rfl) (by kernel_rfl) (bH λ_=>(bH λ_=>(dD λ_ _ _ _ _ _ _ _=>rfl))) (by kernel_rfl) (by kernel_rfl)
def Ms:c9:=bU (fg 18)
def zD:MS:=ag (bq "chain" (aE .Mod (aq (tc) (aa (b9 (a9 "keys" (nm "arr")) (nm "place")) (af))) (aP "size" (nm "arr")))) (ag (bq "ahead" (c8 (ae (.int 1)))) (ag (bq "here" (b9 (a9 "heads" (nm "arr")) (nm "chain"))) (ag (ix 20 (aB .NotEq (nm "here") (nm "place")) (ag (bq "ahead" (nm "here")) (ag (bq "here" (b9 (a9 "nexts" (nm "arr")) (nm "here"))) (ao)))) (ag (aG (aB .Lt (nm "ahead") (ae (.int 0))) (ag (cT "heads" (bJ "heads" (nm "arr")) (nm "chain") (b9 (a9 "nexts" (nm "arr")) (nm "place"))) (ao)) (ag (cT "nexts" (bJ "nexts" (nm "arr")) (nm "ahead") (b9 (a9 "nexts" (nm "arr")) (nm "place"))) (ao))) (ao)))))
def tn:MF:=cE ["arr","place"] [] 2 zD
def EK:List dg:=⟨"unlink",0,2,273,.arr,tn⟩::Gj
theorem Lv:ck 34 EK:=fL (x:="unlink") (a:=273) (s:=Ms) (ps:=["arr","place"]) (μ:=2) (M:=zD) ⟨[],[],false⟩ NV (by kernel_rfl) (by kernel_rfl) (bH λ_=>(bH λ_=>(dD λ_ _ _ _ _ _ _ _=>rfl))) (by kernel_rfl) (by kernel_rfl)
def Mt:c9:=bU (fg 19)
def EL:MS:=ag (cz "heads" (nm "arr") (uJ (bI (aa (c8 (ae (.int 1))) (af))) (aP "size" (nm "arr")))) (ag (cz "nexts" (nm "arr") (uJ (bI (aa (c8 (ae (.int 1))) (af))) (bj (a9 "vals" (nm "arr"))))) (ag (gU (iy (gD (bj (a9 "vals" (nm "arr"))))) (λv l=>some (l.set "place" v)) (ag (aG (aw (aq (jH) (aa (nm "arr") (aa (nm "place") (af))))) (ag (aR (aq (oi) (aa (nm "arr") (aa (nm "place") (af))))) (ao)) (ao)) (ao))) (ao)))
def tq:MF:=cE ["arr"] [] 1 EL
def EM:List dg:=⟨"chains",0,2,280,.arr,tq⟩::EK
theorem Lw:ck 36 EM:=fL (x:="chains") (a:=280) (s:=Mt) (ps:=["arr"]) (μ:=2) (M:=EL) ⟨[],[],false⟩ Lv (by kernel_rfl) (by kernel_rfl) (bH λ_=>(dD λ_ _ _ _ _ _ _ _=>rfl)) (by kernel_rfl) (by kernel_rfl)
def JH:c9:=bU (fg 20)
def yP:MS:=ag (ix 20 (aK (aB .Lt (nm "place") (bj (a9 "vals" (nm "arr")))) (aK (ba (aw (aq (jH) (aa (nm "arr") (aa (nm "place") (af)))))) (aS))) (ag (dC "place" .Add (ae (.int 1))) (ao))) (ag (aW (dw (nm "place") (bj (a9 "vals" (nm "arr"))))) (ao))
def oS:MF:=cE ["arr","place"] [] 2 yP
def Dq:List dg:=⟨"next_place",0,0,287,.arr,oS⟩::EM
theorem Jx:ck 38 Dq:=fL (x:="next_place") (a:=287) (s:=JH) (ps:=["arr","place"]) (μ:=0) (M:=yP) ⟨[],[],false⟩ Lw (by kernel_rfl) (by kernel_rfl) (bH λ_=>(bH λ_=>(dD λ_ _ _ _ _ _ _ _=>rfl))) (by kernel_rfl) (by kernel_rfl)
def JI:c9:=bU (fg 21)
def yQ:MS:=ag (aW (bj (cM (bc (nm "living")) ["place"] (λv l=>some (l.set "other" v)) (aB .Lt (nm "other") (nm "place")) (nm "other")))) (ao)
def sQ:MF:=cE ["living","place"] [] 2 yQ
def Dr:List dg:=⟨"many_ahead",0,0,292,.arr,sQ⟩::Dq
theorem Jy:ck 40 Dr:=fL (x:="many_ahead") (a:=292) (s:=JI) (ps:=["living","place"]) (μ:=0) (M:=yQ) ⟨[],[],true⟩ Jx (by kernel_rfl) (by kernel_rfl) (bH λ_=>(bH λ_=>(dD λ_ _ _ _ _ _ _ _=>rfl))) (by kernel_rfl) (by kernel_rfl)
def Mu:c9:=bU (fg 22)
def EN:MS:=ag (bq "living" (bE (cM (iy (gD (bj (a9 "vals" (nm "arr"))))) ["arr"] (λv l=>some (l.set "place" v)) (aw (aq (jH) (aa (nm "arr") (aa (nm "place") (af))))) (nm "place")))) (ag (bR "at" (nm "arr") (aq (sQ) (aa (nm "living") (aa (aP "at" (nm "arr")) (af))))) (ag (gU (r8 (ph "walks" (nm "arr"))) (λv l=>some (l.set "number" v)) (ny)) (ag (cz "keys" (nm "arr") (cM (gG (nm "living")) ["arr"] (λv l=>some (l.set "place" v)) (aS) (b9 (a9 "keys" (nm "arr")) (nm "place")))) (ag (cz "vals" (nm "arr") (cM (gG (nm "living")) ["arr"] (λv l=>some (l.set "place" v)) (aS) (b9 (a9 "vals" (nm "arr")) (nm "place")))) (ag (aR (aq (tq) (aa (nm "arr") (af)))) (ao))))))
def ng:MF:=cE ["arr"] [] 1 EN
def EO:List dg:=⟨"rehash",0,2,297,.arr,ng⟩::Dr
theorem Ly:ck 42 EO:=fL (x:="rehash") (a:=297) (s:=Mu) (ps:=["arr"]) (μ:=2) (M:=EN) ⟨[],[157],false⟩ Jy (by kernel_rfl) (by kernel_rfl) (bH λ_=>(dD λ_ _ _ _ _ _ _ _=>rfl)) (by kernel_rfl) (by kernel_rfl)
def Lz:c9:=bU (fg 23)
def zo:MS:=ag (cz "keys" (nm "arr") (tJ (gD (bj (a9 "vals" (nm "arr")))))) (ag (bR "is_packed" (nm "arr") (ae (.bool false))) (ag (aR (aq (ng) (aa (nm "arr") (af)))) (ao)))
def wb:MF:=cE ["arr"] [] 1 zo
def Ee:List dg:=⟨"to_hash",0,2,304,.arr,wb⟩::EO
theorem KA:ck 44 Ee:=fL (x:="to_hash") (a:=304) (s:=Lz) (ps:=["arr"]) (μ:=2) (M:=zo) ⟨[],[],false⟩ Ly (by kernel_rfl) (by kernel_rfl) (bH λ_=>(dD λ_ _ _ _ _ _ _ _=>rfl)) (by kernel_rfl) (by kernel_rfl)
end
section
set_option maxHeartbeats 4000000
def Ju:c9:=bU (fg 24)
def yJ:MS:=ag (aG (bC (ba (aw (aO (nm "key") .int))) (bC (aB .Lt (nm "key") (bj (a9 "vals" (nm "arr")))) (cy))) (ag (aW (ae (.bool false))) (ao)) (ao)) (ag (aG (aK (aB .GtE (nm "key") (aP "size" (nm "arr"))) (aK (aB .Lt (aE .RShift (nm "key") (ae (.int 1))) (aP "size" (nm "arr"))) (aK (aB .Lt (aE .RShift (aP "size" (nm "arr")) (ae (.int 1))) (aP "count" (nm "arr"))) (aS)))) (ny) (ao)) (ag (aW (df .Lt (nm "key") (aP "size" (nm "arr")))) (ao)))
def oQ:MF:=cE ["arr","key"] [] 2 yJ
def Dj:List dg:=⟨"takes_packed",0,0,311,.arr,oQ⟩::Ee
theorem Jo:ck 46 Dj:=fL (x:="takes_packed") (a:=311) (s:=Ju) (ps:=["arr","key"]) (μ:=0) (M:=yJ) ⟨[],[169],false⟩ KA (by kernel_rfl) (by kernel_rfl) (bH λ_=>(bH λ_=>(dD λ_ _ _ _ _ _ _ _=>rfl))) (by kernel_rfl) (by kernel_rfl)
def JJ:c9:=bU (fg 25)
def yR:MS:=ag (ix 20 (aB .Lt (bj (a9 "vals" (nm "arr"))) (nm "key")) (ag (aR (jm "vals" (bJ "vals" (nm "arr")) (dB))) (ao))) (ag (aR (jm "vals" (bJ "vals" (nm "arr")) (nm "slot"))) (ao))
def sR:MF:=cE ["arr","key","slot"] [] 3 yR
def Ds:List dg:=⟨"add_packed",0,2,318,.arr,sR⟩::Dj
theorem Jz:ck 48 Ds:=fL (x:="add_packed") (a:=318) (s:=JJ) (ps:=["arr","key","slot"]) (μ:=2) (M:=yR) ⟨[],[],false⟩ Jo (by kernel_rfl) (by kernel_rfl) (bH λ_=>(bH λ_=>(bH λ_=>(dD λ_ _ _ _ _ _ _ _=>rfl)))) (by kernel_rfl) (by kernel_rfl)
def JK:c9:=bU (fg 26)
def yS:MS:=ag (bq "used" (bj (a9 "vals" (nm "arr")))) (ag (aG (aB .GtE (nm "used") (aP "size" (nm "arr"))) (ag (aG (aB .Gt (nm "used") (aE .Add (aP "count" (nm "arr")) (aE .RShift (aP "count" (nm "arr")) (ae (.int 5))))) (ag (aR (aq (ng) (aa (nm "arr") (af)))) (ao)) (ny)) (ao)) (ao)) (ag (aR (jm "keys" (bJ "keys" (nm "arr")) (nm "key"))) (ag (aR (jm "vals" (bJ "vals" (nm "arr")) (nm "slot"))) (ag (aR (jm "nexts" (bJ "nexts" (nm "arr")) (c8 (ae (.int 1))))) (ag (aR (aq (oi) (aa (nm "arr") (aa (aE .Sub (bj (a9 "vals" (nm "arr"))) (ae (.int 1))) (af))))) (ao))))))
def sS:MF:=cE ["arr","key","slot"] [] 3 yS
def Dt:List dg:=⟨"add_hashed",0,2,325,.arr,sS⟩::Ds
theorem JA:ck 50 Dt:=fL (x:="add_hashed") (a:=325) (s:=JK) (ps:=["arr","key","slot"]) (μ:=2) (M:=yS) ⟨[],[181],false⟩ Jz (by kernel_rfl) (by kernel_rfl) (bH λ_=>(bH λ_=>(bH λ_=>(dD λ_ _ _ _ _ _ _ _=>rfl)))) (by kernel_rfl) (by kernel_rfl)
def RB:c9:=bU (fg 27)
def A6:MS:=ag (aG (aK (aw (aP "is_packed" (nm "arr"))) (aK (ba (aw (aq (oQ) (aa (nm "arr") (aa (nm "key") (af)))))) (aS))) (ag (aG (aB .GtE (bj (a9 "vals" (nm "arr"))) (aP "size" (nm "arr"))) (ny) (ao)) (ag (aR (aq (wb) (aa (nm "arr") (af)))) (ao))) (ao)) (ag (aG (aw (aP "is_packed" (nm "arr"))) (ag (aR (aq (sR) (aa (nm "arr") (aa (nm "key") (aa (nm "slot") (af)))))) (ao)) (ag (aR (aq (sS) (aa (nm "arr") (aa (nm "key") (aa (nm "slot") (af)))))) (ao))) (ag (dh "count" .Add (nm "arr") (ae (.int 1))) (ag (aG (aK (aw (aO (nm "key") .int)) (aK (aB .GtE (nm "key") (aP "next" (nm "arr"))) (aS))) (ag (bR "next" (nm "arr") (dw (aE .Add (nm "key") (ae (.int 1))) (aq (sY) (af)))) (ao)) (ao)) (ao))))
def ue:MF:=cE ["arr","key","slot"] [] 3 A6
def G8:List dg:=⟨"add",0,2,332,.arr,ue⟩::Dt
theorem PG:ck 52 G8:=fL (x:="add") (a:=332) (s:=RB) (ps:=["arr","key","slot"]) (μ:=2) (M:=A6) ⟨[],[190],false⟩ JA (by kernel_rfl) (by kernel_rfl) (bH λ_=>(bH λ_=>(bH λ_=>(dD λ_ _ _ _ _ _ _ _=>rfl)))) (by kernel_rfl) (by kernel_rfl)
def RC:c9:=bU (ow 14 5)
def A7:MS:=ag (bq "place" (bw .arr "find" (pe) (nm "self") (aa (nm "key") (af)))) (ag (aG (aB .GtE (nm "place") (ae (.int 0))) (ag (cT "vals" (bJ "vals" (nm "self")) (nm "place") (nm "slot")) (ao)) (ag (aR (aq (ue) (aa (nm "self") (aa (nm "key") (aa (nm "slot") (af)))))) (ao))) (ao))
def jN:MF:=cE ["self","key","slot"] [] 3 A7
def G9:List dg:=⟨"put",1,2,217,.arr,jN⟩::G8
theorem PH:ck 54 G9:=sb (x:="put") (a:=217) (s:=RC) (ps:=["self","key","slot"]) (μ:=2) (M:=A7) ⟨[],[],false⟩ PG (by kernel_rfl) (by kernel_rfl) (bH λ_=>(bH λ_=>(bH λ_=>(dD λ_ _ _ _ _ _ _ _=>rfl)))) (by kernel_rfl) (by kernel_rfl)
def NW:c9:=bU (fg 28)
def zQ:MS:=ag (bq "behind" (aq (oS) (aa (nm "arr") (aa (nm "place") (af))))) (ag (bq "is_last" (df .Eq (nm "place") (aE .Sub (bj (a9 "vals" (nm "arr"))) (ae (.int 1))))) (ag (ix 20 (aK (aw (nm "is_last")) (aK (aB .Gt (bj (a9 "vals" (nm "arr"))) (ae (.int 0))) (aK (aw (aO (b9 (a9 "vals" (nm "arr")) (c8 (ae (.int 1)))) (.c .abs))) (aS)))) (ag (aR (jB "vals" (bJ "vals" (nm "arr")))) (ag (aG (ba (aw (aP "is_packed" (nm "arr")))) (ag (aR (jB "keys" (bJ "keys" (nm "arr")))) (ag (aR (jB "nexts" (bJ "nexts" (nm "arr")))) (ao))) (ao)) (ao)))) (ag (bq "used" (bj (a9 "vals" (nm "arr")))) (ag (bR "at" (nm "arr") (dw (bz (aB .Eq (aP "at" (nm "arr")) (nm "place")) (nm "behind") (aP "at" (nm "arr"))) (nm "used"))) (ag (gU (r8 (ph "walks" (nm "arr"))) (λv l=>some (l.set "number" v)) (ny)) (ao))))))
def rC:MF:=cE ["arr","place"] [] 2 zQ
def Fq:List dg:=⟨"go_on",0,2,339,.arr,rC⟩::G9
theorem Mw:ck 56 Fq:=fL (x:="go_on") (a:=339) (s:=NW) (ps:=["arr","place"]) (μ:=2) (M:=zQ) ⟨[],[210],false⟩ PH (by kernel_rfl) (by kernel_rfl) (bH λ_=>(bH λ_=>(dD λ_ _ _ _ _ _ _ _=>rfl))) (by kernel_rfl) (by kernel_rfl)
def PI:c9:=bU (ow 14 7)
def Ag:MS:=ag (bq "place" (bw .arr "find" (pe) (nm "self") (aa (nm "key") (af)))) (ag (aG (aB .Lt (nm "place") (ae (.int 0))) (ag (aW (ae .none)) (ao)) (ao)) (ag (bq "slot" (b9 (a9 "vals" (nm "self")) (nm "place"))) (ag (aG (ba (aw (aP "is_packed" (nm "self")))) (ag (aR (aq (tn) (aa (nm "self") (aa (nm "place") (af))))) (ag (cT "keys" (bJ "keys" (nm "self")) (nm "place") (ae .none)) (ao))) (ao)) (ag (cT "vals" (bJ "vals" (nm "self")) (nm "place") (dB)) (ag (dh "count" .Sub (nm "self") (ae (.int 1))) (ag (aR (aq (rC) (aa (nm "self") (aa (nm "place") (af))))) (ag (aW (nm "slot")) (ao))))))))
def rH:MF:=cE ["self","key"] [] 2 Ag
def Gk:List dg:=⟨"drop",1,2,231,.arr,rH⟩::Fq
theorem NX:ck 58 Gk:=sb (x:="drop") (a:=231) (s:=PI) (ps:=["self","key"]) (μ:=2) (M:=Ag) ⟨[],[],false⟩ Mw (by kernel_rfl) (by kernel_rfl) (bH λ_=>(bH λ_=>(dD λ_ _ _ _ _ _ _ _=>rfl))) (by kernel_rfl) (by kernel_rfl)
def KC:c9:=bU (fg 30)
def zc:MS:=ag (aW (bE (cM (iy (gD (bj (a9 "vals" (nm "arr"))))) ["arr"] (λv l=>some (l.set "place" v)) (aw (aq (jH) (aa (nm "arr") (aa (nm "place") (af))))) (aU (aa (bw .arr "key_at" (tj) (nm "arr") (aa (nm "place") (af))) (aa (b9 (a9 "vals" (nm "arr")) (nm "place")) (af))))))) (ao)
def jx:MF:=cE ["arr"] [] 1 zc
def DS:List dg:=⟨"slots_of",0,0,351,.arr,jx⟩::Gk
theorem J2:ck 60 DS:=fL (x:="slots_of") (a:=351) (s:=KC) (ps:=["arr"]) (μ:=0) (M:=zc) ⟨[],[],false⟩ NX (by kernel_rfl) (by kernel_rfl) (bH λ_=>(dD λ_ _ _ _ _ _ _ _=>rfl)) (by kernel_rfl) (by kernel_rfl)
end
section
set_option maxHeartbeats 4000000
def Mx:c9:=bU (fg 31)
def tu:MS:=ag (aG (aw (aO (nm "slot") (.c .abs))) (ag (aW (dB)) (ao)) (ao)) (ag (aG (aw (aO (nm "slot") (.c .ref))) (ag (aG (aB .Gt (aP "holders" (nm "slot")) (ae (.int 1))) (ag (aW (aq (km) (aa (nm "slot") (af)))) (ao)) (ao)) (ag (bq "slot" (aP "value" (nm "slot"))) (ao))) (ao)) (ag (aW (aq (kJ) (aa (nm "slot") (af)))) (ao)))
def j0:MF:=cE ["slot"] [] 1 tu
def EP:List dg:=⟨"copied",0,1,358,.arr,j0⟩::DS
theorem LA:ck 62 EP:=fL (x:="copied") (a:=358) (s:=Mx) (ps:=["slot"]) (μ:=1) (M:=tu) ⟨[],[],false⟩ J2 (by kernel_rfl) (by kernel_rfl) (bH λ_=>(dD λ_ _ _ _ _ _ _ _=>rfl)) (by kernel_rfl) (by kernel_rfl)
def PJ:c9:=bU (fg 32)
def Gl:MS:=ag (bq "made" (g7 .arr Ab (aa (aP "size" (nm "arr")) (af)))) (ag (bR "is_packed" (nm "made") (aP "is_packed" (nm "arr"))) (ag (cz "keys" (nm "made") (a9 "keys" (nm "arr"))) (ag (cz "vals" (nm "made") (cM (a9 "vals" (nm "arr")) [] (λv l=>some (l.set "slot" v)) (aS) (aq (j0) (aa (nm "slot") (af))))) (ag (bR "count" (nm "made") (aP "count" (nm "arr"))) (ag (bR "next" (nm "made") (aP "next" (nm "arr"))) (ag (bR "at" (nm "made") (bz (aB .Lt (aP "at" (nm "arr")) (bj (a9 "vals" (nm "arr")))) (aP "at" (nm "arr")) (aq (oS) (aa (nm "arr") (aa (ae (.int 0)) (af)))))) (ag (dk "walks" (nm "made") (ph "walks" (nm "arr"))) (ag (aG (ba (aw (aP "is_packed" (nm "made")))) (ag (aR (aq (ng) (aa (nm "made") (af)))) (ao)) (ao)) (ag (aW (nm "made")) (ao))))))))))
def qf:MF:=cE ["arr"] [] 1 Gl
def Gm:List dg:=⟨"copy",0,2,363,.arr,qf⟩::EP
theorem NY:ck 64 Gm:=fL (x:="copy") (a:=363) (s:=PJ) (ps:=["arr"]) (μ:=2) (M:=Gl) ⟨[],[],false⟩ LA (by kernel_rfl) (by kernel_rfl) (bH λ_=>(dD λ_ _ _ _ _ _ _ _=>rfl)) (by kernel_rfl) (by kernel_rfl)
def RD:c9:=bU (fg 33)
def A8:MS:=ag (aW (bz (aw (aP "is_shared" (nm "arr"))) (aq (qf) (aa (nm "arr") (af))) (nm "arr"))) (ao)
def rR:MF:=cE ["arr"] [] 1 A8
def Ha:List dg:=⟨"own",0,2,370,.arr,rR⟩::Gm
theorem PK:ck 66 Ha:=fL (x:="own") (a:=370) (s:=RD) (ps:=["arr"]) (μ:=2) (M:=A8) ⟨[],[],false⟩ NY (by kernel_rfl) (by kernel_rfl) (bH λ_=>(dD λ_ _ _ _ _ _ _ _=>rfl)) (by kernel_rfl) (by kernel_rfl)
def PL:c9:=bU (fg 35)
def Gn:MS:=ag (aG (aB .Is (nm "value") (ae .none)) (ag (aW (ae (.str "null"))) (ao)) (ao)) (ag (aG (aw (aO (nm "value") .bool)) (ag (aW (ae (.str "bool"))) (ao)) (ao)) (ag (aG (aw (aO (nm "value") .int)) (ag (aW (ae (.str "int"))) (ao)) (ao)) (ag (aG (aw (aO (nm "value") .str)) (ag (aW (ae (.str "string"))) (ao)) (ao)) (ag (aG (aw (aO (nm "value") (.c .arr))) (ag (aW (ae (.str "array"))) (ao)) (ao)) (ag (aG (aw (aO (nm "value") .obj)) (ag (aW (ae (.str "object"))) (ao)) (ao)) (ag (ny) (ao)))))))
def wJ:MF:=cE ["value"] [] 1 Gn
def Gp:List dg:=⟨"kind",0,0,377,.arr,wJ⟩::Ha
theorem NZ:ck 68 Gp:=fL (x:="kind") (a:=377) (s:=PL) (ps:=["value"]) (μ:=0) (M:=Gn) ⟨[],[],false⟩ PK (by kernel_rfl) (by kernel_rfl) (bH λ_=>(dD λ_ _ _ _ _ _ _ _=>rfl)) (by kernel_rfl) (by kernel_rfl)
def N3:c9:=bU (fg 36)
def Fs:MS:=ag (aG (aw (aO (nm "value") (.c .arr))) (ag (bR "is_shared" (nm "value") (ae (.bool true))) (ao)) (ao)) (ag (aW (nm "value")) (ao))
def o4:MF:=cE ["value"] [] 1 Fs
def Ft:List dg:=⟨"taken",0,1,384,.arr,o4⟩::Gp
theorem My:ck 70 Ft:=fL (x:="taken") (a:=384) (s:=N3) (ps:=["value"]) (μ:=1) (M:=Fs) ⟨[],[],false⟩ NZ (by kernel_rfl) (by kernel_rfl) (bH λ_=>(dD λ_ _ _ _ _ _ _ _=>rfl)) (by kernel_rfl) (by kernel_rfl)
def KD:c9:=bU (fg 38)
def sZ(Fk:MF):MS:=ag (aG (aw (aO (nm "value") .obj)) (ny) (ao)) (ag (aG (ba (aw (aO (nm "value") (.c .arr)))) (ag (aW (aU (aa (aq (wJ) (aa (nm "value") (af))) (aa (nm "value") (af))))) (ao)) (ao)) (ag (gU (iy (gD (bj (bc (nm "above"))))) (λv l=>some (l.set "up" v)) (ag (aG (aB .Is (au (nm "above") (nm "up")) (nm "value")) (ag (aW (aU (aa (ae (.str "again")) (aa (aE .Sub (bj (bc (nm "above"))) (nm "up")) (af))))) (ao)) (ao)) (ao))) (ag (bq "rows" (kh (bI (af)))) (ag (gU (gG (aq (jx) (aa (nm "value") (af)))) (λv l=>match v with|.tup [p,q]=>some ((l.set "key" p).set "slot" q)|_=>none) (ag (aR (kx (nm "rows") (aU (aa (nm "key") (aa (aq (Fk) (aa (aq (jy) (aa (nm "slot") (af))) (aa (bE (jQ (bc (nm "above")) (bI (aa (nm "value") (af))))) (af)))) (af)))))) (ao))) (ag (aW (aU (aa (ae (.str "array")) (aa (oo (bc (nm "rows"))) (af))))) (ao))))))
noncomputable def jZ:Nat->MF
 |0=>λ_ _=>none
 |k+1=>cE ["value","above"] [] 2 (sZ (jZ k))
def DT:List dg:=⟨"plain_at",0,2,398,.arr,jZ 10⟩::Ft
theorem J3:ck 90 DT:=uP (x:="plain_at") (a:=398) (s:=KD) (ps:=["value","above"]) (μ:=2) (M:=sZ) (F:=jZ) ⟨[269],[263],false⟩ My (by kernel_rfl) (by kernel_rfl) (bH λ_=>(bH λ_=>(dD λ_ _ _ _ _ _ _ _=>rfl))) (λ_ _ _=>(by kernel_rfl)) (by kernel_rfl) rfl λ_=>rfl
def N5:c9:=bU (fg 37)
def zR:MS:=ag (aW (aq (jZ 10) (aa (nm "value") (aa (bE (bI (af))) (af))))) (ao)
def qb:MF:=cE ["value"] [] 1 zR
def Fu:List dg:=⟨"plain",0,2,391,.arr,qb⟩::DT
theorem Mz:ck 92 Fu:=fL (x:="plain") (a:=391) (s:=N5) (ps:=["value"]) (μ:=2) (M:=zR) ⟨[],[],false⟩ J3 (by kernel_rfl) (by kernel_rfl) (bH λ_=>(dD λ_ _ _ _ _ _ _ _=>rfl)) (by kernel_rfl) (by kernel_rfl)
def KG:c9:=bU (fg 40)
def DU:MS:=ag (aW (bE (bI (aa (ae (.int 4)) (aa (ae (.int 13)) (aa (ae (.int 50)) (aa (ae (.int 2)) (aa (ae (.int 71)) (aa (ae (.int 106)) (aa (ae (.int 29)) (aa (ae (.int 154)) (aa (ae (.int 47)) (aa (ae (.int 80)) (aa (ae (.int 61)) (aa (ae (.int 33)) (aa (ae (.int 132)) (aa (ae (.int 95)) (aa (ae (.int 21)) (aa (ae (.int 118)) (af)))))))))))))))))))) (ao)
def oX:MF:=cE [] [] 0 DU
def DV:List dg:=⟨"_law_rows",0,0,405,.arr,oX⟩::Fu
theorem J4:ck 94 DV:=fL (x:="_law_rows") (a:=405) (s:=KG) (ps:=[]) (μ:=0) (M:=DU) ⟨[],[],false⟩ Mz (by kernel_rfl) (by kernel_rfl) (dD λ_ _ _ _ _ _ _ _=>rfl) (by kernel_rfl) (by kernel_rfl)
end
section
set_option maxHeartbeats 4000000
def KH:c9:=bU (fg 41)
def vY:MS:=ag (aW (bz (aw (aO (nm "entry") .list)) (au (nm "entry") (ae (.int 0))) (nm "entry"))) (ao)
def gj:MF:=cE ["entry"] [] 1 vY
def DW:List dg:=⟨"_law_tree",0,0,412,.arr,gj⟩::DV
theorem J5:ck 96 DW:=fL (x:="_law_tree") (a:=412) (s:=KH) (ps:=["entry"]) (μ:=0) (M:=vY) ⟨[],[],false⟩ J4 (by kernel_rfl) (by kernel_rfl) (bH λ_=>(dD λ_ _ _ _ _ _ _ _=>rfl)) (by kernel_rfl) (by kernel_rfl)
def JL:c9:=bU (fg 42)
def sT(Fk:MF):MS:=ag (aG (ba (aw (aO (nm "tree") .dict))) (ag (aW (nm "tree")) (ao)) (ao)) (ag (aW (rF (cM (iT (nm "tree")) ["tree"] (λv l=>some (l.set "key" v)) (aS) (aU (aa (nm "key") (aa (bz (aw (aO (au (nm "tree") (nm "key")) .list)) (au (nm "tree") (nm "key")) (aq (Fk) (aa (au (nm "tree") (nm "key")) (af)))) (af))))))) (ao))
noncomputable def ie:Nat->MF
 |0=>λ_ _=>none
 |k+1=>cE ["tree"] [] 1 (sT (ie k))
def Du:List dg:=⟨"_law_copied",0,0,417,.arr,ie 10⟩::DW
theorem JB:ck 116 Du:=uP (x:="_law_copied") (a:=417) (s:=JL) (ps:=["tree"]) (μ:=0) (M:=sT) (F:=ie) ⟨[],[],false⟩ J5 (by kernel_rfl) (by kernel_rfl) (bH λ_=>(dD λ_ _ _ _ _ _ _ _=>rfl)) (λ_ _ _=>(by kernel_rfl)) (by kernel_rfl) rfl λ_=>rfl
def J6:c9:=bU (fg 43)
def sV(Fk:MF):MS:=ag (aG (aw (aO (nm "tree") .dict)) (ag (aW (aU (aa (ae (.str "array")) (aa (oo (cM (iT (nm "tree")) ["tree"] (λv l=>some (l.set "key" v)) (aS) (aU (aa (nm "key") (aa (aq (Fk) (aa (aq (gj) (aa (au (nm "tree") (nm "key")) (af))) (af))) (af)))))) (af))))) (ao)) (ao)) (ag (aW (bz (aB .Is (nm "tree") (ae .none)) (aU (aa (ae (.str "null")) (aa (ae .none) (af)))) (aU (aa (ae (.str "int")) (aa (nm "tree") (af)))))) (ao))
noncomputable def i8:Nat->MF
 |0=>λ_ _=>none
 |k+1=>cE ["tree"] [] 1 (sV (i8 k))
def DA:List dg:=⟨"_law_plain",0,0,422,.arr,i8 10⟩::Du
theorem JM:ck 136 DA:=uP (x:="_law_plain") (a:=422) (s:=J6) (ps:=["tree"]) (μ:=0) (M:=sV) (F:=i8) ⟨[],[],false⟩ JB (by kernel_rfl) (by kernel_rfl) (bH λ_=>(dD λ_ _ _ _ _ _ _ _=>rfl)) (λ_ _ _=>(by kernel_rfl)) (by kernel_rfl) rfl λ_=>rfl
def KJ:c9:=bU (fg 44)
def s8(Fk:MF):MS:=ag (aG (ba (aw (aO (nm "tree") .dict))) (ag (aW (ae (.int 0))) (ao)) (ao)) (ag (aW (aE .Add (ae (.int 1)) (uM (jQ (bI (aa (ae (.int 0)) (af))) (cM (iT (nm "tree")) ["tree"] (λv l=>some (l.set "key" v)) (aS) (aq (Fk) (aa (aq (gj) (aa (au (nm "tree") (nm "key")) (af))) (af)))))))) (ao))
noncomputable def iP:Nat->MF
 |0=>λ_ _=>none
 |k+1=>cE ["tree"] [] 1 (s8 (iP k))
def DY:List dg:=⟨"_law_deep",0,0,427,.arr,iP 10⟩::DA
theorem J7:ck 156 DY:=uP (x:="_law_deep") (a:=427) (s:=KJ) (ps:=["tree"]) (μ:=0) (M:=s8) (F:=iP) ⟨[],[],false⟩ JM (by kernel_rfl) (by kernel_rfl) (bH λ_=>(dD λ_ _ _ _ _ _ _ _=>rfl)) (λ_ _ _=>(by kernel_rfl)) (by kernel_rfl) rfl λ_=>rfl
def Jv:c9:=bU (fg 45)
def sN(Fk:MF):MS:=ag (aG (ba (aw (aO (nm "tree") .dict))) (ag (aW (ae (.bool false))) (ao)) (ao)) (ag (aW (tN (cM (iT (nm "tree")) ["tree"] (λv l=>some (l.set "key" v)) (bC (aw (aO (au (nm "tree") (nm "key")) .list)) (bC (aw (aq (Fk) (aa (au (nm "tree") (nm "key")) (af)))) (cy))) (nm "key")))) (ao))
noncomputable def jX:Nat->MF
 |0=>λ_ _=>none
 |k+1=>cE ["tree"] [] 1 (sN (jX k))
def Dk:List dg:=⟨"_law_has_cell",0,0,432,.arr,jX 10⟩::DY
theorem Jp:ck 176 Dk:=uP (x:="_law_has_cell") (a:=432) (s:=Jv) (ps:=["tree"]) (μ:=0) (M:=sN) (F:=jX) ⟨[],[],false⟩ J7 (by kernel_rfl) (by kernel_rfl) (bH λ_=>(dD λ_ _ _ _ _ _ _ _=>rfl)) (λ_ _ _=>(by kernel_rfl)) (by kernel_rfl) rfl λ_=>rfl
def KL:c9:=bU (fg 46)
def zd:MS:=ag (aG (qq .NotEq (bE (cM (bc (nm "slots")) [] (λv l=>some (l.set "pair" v)) (aS) (au (nm "pair") (ae (.int 0))))) (bE (cM (bc (nm "others")) [] (λv l=>some (l.set "pair" v)) (aS) (au (nm "pair") (ae (.int 0)))))) (ag (aW (ae (.bool false))) (ao)) (ao)) (ag (gU (sa (bc (nm "slots")) (bc (nm "others"))) (λv l=>match v with|.tup [p,q]=>some ((l.set "pair" p).set "other" q)|_=>none) (ag (aG (bC (aw (kU (au (nm "pair") (ae (.int 1))) (.c .arr) (.c .ref))) (bC (aw (kU (au (nm "other") (ae (.int 1))) (.c .arr) (.c .ref))) (cy))) (ag (aG (aB .IsNot (au (nm "pair") (ae (.int 1))) (au (nm "other") (ae (.int 1)))) (ag (aW (ae (.bool false))) (ao)) (ao)) (ao)) (ag (aG (aB .NotEq (au (nm "pair") (ae (.int 1))) (au (nm "other") (ae (.int 1)))) (ag (aW (ae (.bool false))) (ao)) (ao)) (ao))) (ao))) (ag (aW (ae (.bool true))) (ao)))
def mF:MF:=cE ["slots","others"] [] 2 zd
def DZ:List dg:=⟨"_law_same",0,0,437,.arr,mF⟩::Dk
theorem J8:ck 178 DZ:=fL (x:="_law_same") (a:=437) (s:=KL) (ps:=["slots","others"]) (μ:=0) (M:=zd) ⟨[],[],true⟩ Jp (by kernel_rfl) (by kernel_rfl) (bH λ_=>(bH λ_=>(dD λ_ _ _ _ _ _ _ _=>rfl))) (by kernel_rfl) (by kernel_rfl)
def LB:c9:=bU (fg 47)
def zp:MS:=ag (bq "due" (kh (bI (af)))) (ag (gU (gG (nm "slots")) (λv l=>match v with|.tup [p,q]=>some ((l.set "key" p).set "slot" q)|_=>none) (ag (aR (kx (nm "due") (aU (aa (nm "key") (aa (bz (aK (aw (aO (nm "slot") (.c .ref))) (aK (aB .Lt (aP "holders" (nm "slot")) (ae (.int 2))) (aS))) (aP "value" (nm "slot")) (nm "slot")) (af)))))) (ao))) (ag (aW (nm "due")) (ao)))
def te:MF:=cE ["slots"] [] 1 zp
def Ef:List dg:=⟨"_law_due",0,2,444,.arr,te⟩::DZ
theorem KN:ck 180 Ef:=fL (x:="_law_due") (a:=444) (s:=LB) (ps:=["slots"]) (μ:=2) (M:=zp) ⟨[305],[],false⟩ J8 (by kernel_rfl) (by kernel_rfl) (bH λ_=>(dD λ_ _ _ _ _ _ _ _=>rfl)) (by kernel_rfl) (by kernel_rfl)
def LC:c9:=bU (fg 48)
def Eg:MS:=ag (dY 2 (aU (aa (aq (jx) (aa (nm "arr") (af))) (aa (aP "is_shared" (nm "arr")) (af)))) (λvs=>(bM (cP "is_marked") (bM (cP "slots") (fo))) vs.reverse)) (ag (bq "held" (bE (cM (gG (nm "slots")) [] (λv l=>match v with|.tup [p,q]=>some ((l.set "key" p).set "slot" q)|_=>none) (aw (aO (nm "slot") (.c .ref))) (aU (aa (nm "slot") (aa (aP "holders" (nm "slot")) (af))))))) (ag (bq "mine" (aq (rR) (aa (nm "arr") (af)))) (ag (aG (bC (aB .Eq (df .Is (nm "mine") (nm "arr")) (nm "is_marked")) (bC (aw (aP "is_shared" (nm "mine"))) (bC (ba (aw (aq (mF) (aa (aq (jx) (aa (nm "arr") (af))) (aa (nm "slots") (af)))))) (cy)))) (ag (gE (nm "book") (ae (.str "right")) (ae (.bool false))) (ao)) (ao)) (ag (aG (aB .IsNot (nm "mine") (nm "arr")) (ag (aR (kx (au (nm "book") (ae (.str "marked"))) (aU (aa (nm "arr") (aa (nm "slots") (af)))))) (ag (bq "more" (bE (cM (gG (nm "held")) [] (λv l=>match v with|.tup [p,q]=>some ((l.set "ref" p).set "many" q)|_=>none) (aS) (aE .Sub (aP "holders" (nm "ref")) (nm "many"))))) (ag (aG (bC (qq .NotEq (nm "more") (bE (cM (gG (nm "held")) [] (λv l=>match v with|.tup [p,q]=>some ((l.set "ref" p).set "many" q)|_=>none) (aS) (bz (aB .Gt (nm "many") (ae (.int 1))) (ae (.int 1)) (ae (.int 0)))))) (bC (ba (aw (aq (mF) (aa (aq (jx) (aa (nm "mine") (af))) (aa (aq (te) (aa (nm "slots") (af))) (af)))))) (cy))) (ag (gE (nm "book") (ae (.str "right")) (ae (.bool false))) (ao)) (ao)) (ag (aG (qc (cM (gG (aq (jx) (aa (nm "mine") (af)))) [] (λv l=>match v with|.tup [p,q]=>some ((l.set "key" p).set "slot" q)|_=>none) (aK (aw (aO (nm "slot") (.c .arr))) (aK (ba (aw (aP "is_shared" (nm "slot")))) (aS))) (nm "slot"))) (ag (gE (nm "book") (ae (.str "right")) (ae (.bool false))) (ao)) (ao)) (ao))))) (ao)) (ag (aW (nm "mine")) (ao))))))
def lD:MF:=cE ["book","arr"] [] 2 Eg
def Eh:List dg:=⟨"_law_own",0,2,449,.arr,lD⟩::Ef
theorem KO:ck 182 Eh:=fL (x:="_law_own") (a:=449) (s:=LC) (ps:=["book","arr"]) (μ:=2) (M:=Eg) ⟨[],[],false⟩ KN (by kernel_rfl) (by kernel_rfl) (bH λ_=>(bH λ_=>(dD λ_ _ _ _ _ _ _ _=>rfl))) (by kernel_rfl) (by kernel_rfl)
end
section
set_option maxHeartbeats 4000000
def J9:c9:=bU (fg 49)
def yZ:MS:=ag (aG (ba (aw (aO (au (au (nm "book") (ae (.str "trees"))) (nm "at")) .dict))) (ag (dY 2 (aU (aa (jj) (aa (g7 .arr jk (af)) (af)))) (bM (iD (au (nm "book") (ae (.str "trees"))) (nm "at")) (bM (iD (au (nm "book") (ae (.str "held"))) (nm "at")) (fo)))) (ao)) (ao)) (ag (gE (au (nm "book") (ae (.str "held"))) (nm "at") (aq (lD) (aa (nm "book") (aa (au (au (nm "book") (ae (.str "held"))) (nm "at")) (af))))) (ag (aW (aU (aa (au (au (nm "book") (ae (.str "held"))) (nm "at")) (aa (au (au (nm "book") (ae (.str "trees"))) (nm "at")) (af))))) (ao)))
def qa:MF:=cE ["book","at"] [] 2 yZ
def DB:List dg:=⟨"_law_array",0,2,456,.arr,qa⟩::Eh
theorem JN:ck 184 DB:=fL (x:="_law_array") (a:=456) (s:=J9) (ps:=["book","at"]) (μ:=2) (M:=yZ) ⟨[],[],false⟩ KO (by kernel_rfl) (by kernel_rfl) (bH λ_=>(bH λ_=>(dD λ_ _ _ _ _ _ _ _=>rfl))) (by kernel_rfl) (by kernel_rfl)
def LD:c9:=bU (fg 50)
def zq:MS:=ag (bq "slot" (bw .arr "slot" (gz) (nm "arr") (aa (nm "key") (af)))) (ag (aG (aw (aO (nm "slot") (.c .ref))) (ag (bR "value" (nm "slot") (nm "value")) (ao)) (ag (aR (bw .arr "put" (jN) (nm "arr") (aa (nm "key") (aa (nm "value") (af))))) (ao))) (ag (aG (aw (aO (iH (nm "tree") (nm "key")) .list)) (ag (gE (au (nm "tree") (nm "key")) (ae (.int 0)) (nm "own_value")) (ao)) (ag (gE (nm "tree") (nm "key") (nm "own_value")) (ao))) (ao)))
def ig:MF:=cE ["arr","tree","key","value","own_value"] [] 5 zq
def Ei:List dg:=⟨"_law_put",0,2,463,.arr,ig⟩::DB
theorem KP:ck 186 Ei:=fL (x:="_law_put") (a:=463) (s:=LD) (ps:=["arr","tree","key","value","own_value"]) (μ:=2) (M:=zq) ⟨[],[],false⟩ JN (by kernel_rfl) (by kernel_rfl) (bH λ_=>(bH λ_=>(bH λ_=>(bH λ_=>(bH λ_=>(dD λ_ _ _ _ _ _ _ _=>rfl)))))) (by kernel_rfl) (by kernel_rfl)
def J':c9:=bU (fg 51)
def y0:MS:=ag (dY 2 (aU (aa (bw .arr "slot" (gz) (nm "arr") (aa (nm "key") (af))) (aa (aq (gj) (aa (iH (nm "tree") (nm "key")) (af))) (af)))) (λvs=>(bM (cP "own_held") (bM (cP "held") (fo))) vs.reverse)) (ag (bq "value" (bz (aw (aO (nm "held") (.c .ref))) (aP "value" (nm "held")) (nm "held"))) (ag (aG (ba (aw (aO (nm "own_held") .dict))) (ag (dY 2 (aU (aa (g7 .arr jk (af)) (aa (jj) (af)))) (λvs=>(bM (cP "own_held") (bM (cP "value") (fo))) vs.reverse)) (ao)) (ao)) (ag (bq "value" (aq (lD) (aa (nm "book") (aa (nm "value") (af))))) (ag (aR (aq (ig) (aa (nm "arr") (aa (nm "tree") (aa (nm "key") (aa (nm "value") (aa (nm "own_held") (af)))))))) (ag (aR (aq (ig) (aa (nm "value") (aa (nm "own_held") (aa (nm "inner") (aa (nm "number") (aa (nm "number") (af)))))))) (ao))))))
def ro:MF:=cE ["book","arr","tree","key","inner","number"] [] 6 y0
def DC:List dg:=⟨"_law_inner",0,2,470,.arr,ro⟩::Ei
theorem JO:ck 188 DC:=fL (x:="_law_inner") (a:=470) (s:=J') (ps:=["book","arr","tree","key","inner","number"]) (μ:=2) (M:=y0) ⟨[],[],false⟩ KP (by kernel_rfl) (by kernel_rfl) (bH λ_=>(bH λ_=>(bH λ_=>(bH λ_=>(bH λ_=>(bH λ_=>(dD λ_ _ _ _ _ _ _ _=>rfl))))))) (by kernel_rfl) (by kernel_rfl)
def Ka:c9:=bU (fg 52)
def y5:MS:=ag (bq "entry" (iH (nm "tree") (nm "key"))) (ag (aG (bC (aw (aO (bw .arr "slot" (gz) (nm "arr") (aa (nm "key") (af))) (.c .ref))) (bC (aB .Gt (aq (iP 10) (aa (nm "entry") (af))) (ae (.int 1))) (bC (aw (aq (jX 10) (aa (nm "entry") (af)))) (cy)))) (ag (aW (ae .none)) (ao)) (ao)) (ag (bq "ref" (aq (km) (aa (g7 .ref rG (aa (bw .arr "slot" (gz) (nm "arr") (aa (nm "key") (af))) (af))) (af)))) (ag (aR (bw .arr "put" (jN) (nm "arr") (aa (nm "key") (aa (nm "ref") (af))))) (ag (gE (nm "tree") (nm "key") (nm "entry")) (ag (aG (aw (nm "is_held")) (ag (gE (nm "tree") (nm "key") (kh (bI (aa (nm "entry") (af))))) (ag (aR (kx (au (nm "book") (ae (.str "refs"))) (aU (aa (aq (km) (aa (nm "ref") (af))) (aa (au (nm "tree") (nm "key")) (af)))))) (ao))) (ao)) (ao))))))
def rp:MF:=cE ["book","arr","tree","key","is_held"] [] 5 y5
def DE:List dg:=⟨"_law_refer",0,2,477,.arr,rp⟩::DC
theorem JP:ck 190 DE:=fL (x:="_law_refer") (a:=477) (s:=Ka) (ps:=["book","arr","tree","key","is_held"]) (μ:=2) (M:=y5) ⟨[354],[],false⟩ JO (by kernel_rfl) (by kernel_rfl) (bH λ_=>(bH λ_=>(bH λ_=>(bH λ_=>(bH λ_=>(dD λ_ _ _ _ _ _ _ _=>rfl)))))) (by kernel_rfl) (by kernel_rfl)
def Jq:c9:=bU (fg 53)
def yH:MS:=ag (aG (qc (bc (au (nm "book") (ae (.str "refs"))))) (ag (dY 2 (au (au (nm "book") (ae (.str "refs"))) (aE .Mod (nm "which") (bj (bc (au (nm "book") (ae (.str "refs"))))))) (bM (cP "ref") (bM (cP "cell") (fo)))) (ag (aG (aB .Eq (aE .Mod (nm "number") (ae (.int 3))) (ae (.int 0))) (ag (dY 2 (aU (aa (g7 .arr jk (af)) (aa (jj) (af)))) (bM (mM "value" (nm "ref")) (bM (iD (nm "cell") (ae (.int 0))) (fo)))) (ao)) (ag (dY 2 (aU (aa (nm "number") (aa (nm "number") (af)))) (bM (mM "value" (nm "ref")) (bM (iD (nm "cell") (ae (.int 0))) (fo)))) (ao))) (ao))) (ao)) (ao)
def rm:MF:=cE ["book","which","number"] [] 3 yH
def Df:List dg:=⟨"_law_write_ref",0,2,484,.arr,rm⟩::DE
theorem Jm:ck 192 Df:=fL (x:="_law_write_ref") (a:=484) (s:=Jq) (ps:=["book","which","number"]) (μ:=2) (M:=yH) ⟨[],[],false⟩ JP (by kernel_rfl) (by kernel_rfl) (bH λ_=>(bH λ_=>(bH λ_=>(dD λ_ _ _ _ _ _ _ _=>rfl)))) (by kernel_rfl) (by kernel_rfl)
def KQ:c9:=bU (fg 54)
def ze:MS:=ag (dY 3 (aU (aa (aE .Mod (nm "deed") (ae (.int 8))) (aa (aE .Mod (aE .FloorDiv (nm "deed") (ae (.int 8))) (ae (.int 4))) (aa (aE .FloorDiv (nm "deed") (ae (.int 32))) (af))))) (λvs=>(bM (cP "rest") (bM (cP "at") (bM (cP "sort") (fo)))) vs.reverse)) (ag (dY 2 (aU (aa (aE .Mod (nm "rest") (ae (.int 4))) (aa (bE (bI (aa (ae (.int 0)) (aa (ae (.int 1)) (aa (ae (.int 2)) (aa (ae (.str "a")) (af))))))) (af)))) (λvs=>(bM (cP "keys") (bM (cP "other") (fo))) vs.reverse)) (ag (dY 3 (aU (aa (au (nm "keys") (aE .Mod (aE .FloorDiv (nm "rest") (ae (.int 4))) (ae (.int 4)))) (aa (au (nm "keys") (aE .Mod (aE .FloorDiv (nm "rest") (ae (.int 16))) (ae (.int 4)))) (aa (aE .Mod (nm "rest") (ae (.int 1000003))) (af))))) (λvs=>(bM (cP "number") (bM (cP "inner") (bM (cP "key") (fo)))) vs.reverse)) (ag (aG (aB .Eq (nm "sort") (ae (.int 0))) (ag (dY 2 (aU (aa (aq (o4) (aa (au (au (nm "book") (ae (.str "held"))) (nm "other")) (af))) (aa (aq (ie 10) (aa (au (au (nm "book") (ae (.str "trees"))) (nm "other")) (af))) (af)))) (bM (iD (au (nm "book") (ae (.str "held"))) (nm "at")) (bM (iD (au (nm "book") (ae (.str "trees"))) (nm "at")) (fo)))) (ao)) (ag (aG (aK (aB .Eq (nm "sort") (ae (.int 1))) (aK (aw (aO (au (au (nm "book") (ae (.str "trees"))) (nm "other")) .dict)) (aS))) (ag (gE (au (nm "book") (ae (.str "held"))) (nm "at") (bw .arr "get" (qr) (au (au (nm "book") (ae (.str "held"))) (nm "other")) (aa (nm "key") (af)))) (ag (gE (au (nm "book") (ae (.str "trees"))) (nm "at") (aq (ie 10) (aa (aq (gj) (aa (iH (au (au (nm "book") (ae (.str "trees"))) (nm "other")) (nm "key")) (af))) (af)))) (ao))) (ag (aG (aB .Eq (nm "sort") (ae (.int 7))) (ag (aR (aq (rm) (aa (nm "book") (aa (nm "at") (aa (nm "number") (af)))))) (ao)) (ag (dY 2 (aU (aa (aq (o4) (aa (au (au (nm "book") (ae (.str "held"))) (nm "other")) (af))) (aa (aq (ie 10) (aa (au (au (nm "book") (ae (.str "trees"))) (nm "other")) (af))) (af)))) (λvs=>(bM (cP "own_value") (bM (cP "value") (fo))) vs.reverse)) (ag (dY 2 (aq (qa) (aa (nm "book") (aa (nm "at") (af)))) (bM (cP "arr") (bM (cP "tree") (fo)))) (ag (aG (aK (aB .Eq (nm "sort") (ae (.int 3))) (aK (aB .Lt (aq (iP 10) (aa (nm "own_value") (af))) (ae (.int 2))) (aK (ba (aw (aO (bw .arr "slot" (gz) (nm "arr") (aa (nm "key") (af))) (.c .ref)))) (aS)))) (ag (aR (aq (ig) (aa (nm "arr") (aa (nm "tree") (aa (nm "key") (aa (nm "value") (aa (nm "own_value") (af)))))))) (ao)) (ag (aG (aB .Eq (nm "sort") (ae (.int 4))) (ag (aR (aq (ro) (aa (nm "book") (aa (nm "arr") (aa (nm "tree") (aa (nm "key") (aa (nm "inner") (aa (nm "number") (af))))))))) (ao)) (ag (aG (aB .Eq (nm "sort") (ae (.int 5))) (ag (aR (aq (rp) (aa (nm "book") (aa (nm "arr") (aa (nm "tree") (aa (nm "key") (aa (df .Eq (aE .Mod (aE .FloorDiv (nm "rest") (ae (.int 64))) (ae (.int 2))) (ae (.int 0))) (af)))))))) (ao)) (ag (aG (aK (aB .Eq (nm "sort") (ae (.int 6))) (aK (ba (aw (aO (bw .arr "slot" (gz) (nm "arr") (aa (nm "key") (af))) (.c .ref)))) (aS))) (ag (aR (bw .arr "drop" (rH) (nm "arr") (aa (nm "key") (af)))) (ag (aR (pg (nm "tree") (nm "key"))) (ao))) (ag (aR (aq (ig) (aa (nm "arr") (aa (nm "tree") (aa (nm "key") (aa (nm "number") (aa (nm "number") (af)))))))) (ao))) (ao))) (ao))) (ao))) (ao))))) (ao))) (ao))) (ao))))
def rq:MF:=cE ["book","deed"] [] 2 ze
def D0:List dg:=⟨"_law_deed",0,2,491,.arr,rq⟩::Df
theorem Kb:ck 194 D0:=fL (x:="_law_deed") (a:=491) (s:=KQ) (ps:=["book","deed"]) (μ:=2) (M:=ze) ⟨[],[],false⟩ Jm (by kernel_rfl) (by kernel_rfl) (bH λ_=>(bH λ_=>(dD λ_ _ _ _ _ _ _ _=>rfl))) (by kernel_rfl) (by kernel_rfl)
def Jn:c9:=bU (fg 55)
def yG:MS:=ag (aW (ub .Eq (bE (cM (iy (nm "some")) ["book"] (λv l=>some (l.set "at" v)) (aS) (aq (qb) (aa (au (au (nm "book") (ae (.str "held"))) (nm "at")) (af))))) (bE (cM (iy (nm "some")) ["book"] (λv l=>some (l.set "at" v)) (aS) (aq (i8 10) (aa (au (au (nm "book") (ae (.str "trees"))) (nm "at")) (af))))))) (ao)
def kg:MF:=cE ["book","some"] [] 2 yG
def De:List dg:=⟨"_law_read_right",0,2,496,.arr,kg⟩::D0
theorem Jk:ck 196 De:=fL (x:="_law_read_right") (a:=496) (s:=Jn) (ps:=["book","some"]) (μ:=2) (M:=yG) ⟨[],[],false⟩ Kb (by kernel_rfl) (by kernel_rfl) (bH λ_=>(bH λ_=>(dD λ_ _ _ _ _ _ _ _=>rfl))) (by kernel_rfl) (by kernel_rfl)
def Kc:c9:=bU (fg 56)
def DF:MS:=ag (dY 4 (aU (aa (g7 .ref rG (aa (ae (.int 5)) (af))) (aa (g7 .ref rG (aa (ae (.int 6)) (af))) (aa (g7 .arr jk (af)) (aa (g7 .arr jk (af)) (af)))))) (bM (cP "ref") (bM (cP "lone") (bM (cP "inner") (bM (cP "outer") (fo)))))) (ag (bq "cell" (kh (bI (aa (ae (.int 5)) (af))))) (ag (aR (bw .arr "put" (jN) (nm "inner") (aa (ae (.int 1)) (aa (ae (.int 7)) (af))))) (ag (aR (bw .arr "put" (jN) (nm "outer") (aa (ae (.str "a")) (aa (nm "inner") (af))))) (ag (aR (bw .arr "put" (jN) (nm "outer") (aa (ae (.int 0)) (aa (aq (km) (aa (nm "lone") (af))) (af))))) (ag (aR (bw .arr "put" (jN) (nm "outer") (aa (ae (.int 2)) (aa (aq (km) (aa (nm "ref") (af))) (af))))) (ag (bq "flat" (g7 .arr jk (af))) (ag (aR (bw .arr "put" (jN) (nm "flat") (aa (ae (.int 0)) (aa (ae (.int 3)) (af))))) (ag (aR (bw .arr "put" (jN) (nm "flat") (aa (ae (.int 1)) (aa (ae (.int 4)) (af))))) (ag (bq "trees" (kh (bI (aa (qp (kX (ae (.str "a")) (qp (kX (ae (.int 1)) (ae (.int 7)) (r9))) (kX (ae (.int 0)) (ae (.int 6)) (kX (ae (.int 2)) (nm "cell") (r9))))) (aa (qp (kX (ae (.int 0)) (ae (.int 3)) (kX (ae (.int 1)) (ae (.int 4)) (r9)))) (aa (jj) (aa (ae (.int 9)) (af)))))))) (ag (aW (qp (kX (ae (.str "held")) (kh (bI (aa (nm "outer") (aa (nm "flat") (aa (g7 .arr jk (af)) (aa (ae (.int 9)) (af))))))) (kX (ae (.str "trees")) (nm "trees") (kX (ae (.str "refs")) (kh (bI (aa (aU (aa (aq (km) (aa (nm "ref") (af))) (aa (nm "cell") (af)))) (af)))) (kX (ae (.str "marked")) (kh (bI (af))) (kX (ae (.str "right")) (ae (.bool true)) (r9)))))))) (ao)))))))))))
def oV:MF:=cE [] [] 0 DF
def Kd:List dg:=⟨"_law_begin",0,2,503,.arr,oV⟩::De
theorem Dv:ck 198 Kd:=fL (x:="_law_begin") (a:=503) (s:=Kc) (ps:=[]) (μ:=2) (M:=DF) ⟨[392,400,401],[],false⟩ Jk (by kernel_rfl) (by kernel_rfl) (dD λ_ _ _ _ _ _ _ _=>rfl) (by kernel_rfl) (by kernel_rfl)
end
section
set_option maxHeartbeats 4000000
def uf:MS:=ag (bq "script" (bE (rO (bc (nm "script")) (ae (.int 30))))) (ag (dY 2 (aU (aa (aq (oX) (af)) (aa (aq (oV) (af)) (af)))) (λvs=>(bM (cP "book") (bM (cP "rows") (fo))) vs.reverse)) (ag (bq "deeds" (bE (jQ (cM (lN (nm "rows")) ["script"] (λv l=>match v with|.tup [p,q]=>some ((l.set "k" p).set "row" q)|_=>none) (aS) (aE .Add (nm "row") (bz (aB .Lt (nm "k") (bj (bc (nm "script")))) (au (nm "script") (nm "k")) (ae (.int 0))))) (qo (bc (nm "script")) (bj (bc (nm "rows"))))))) (ag (gU (lN (nm "deeds")) (λv l=>match v with|.tup [p,q]=>some ((l.set "turn" p).set "deed" q)|_=>none) (ag (aR (aq (rq) (aa (nm "book") (aa (nm "deed") (af))))) (ag (aG (bC (ba (aw (au (nm "book") (ae (.str "right"))))) (bC (ba (aw (aq (kg) (aa (nm "book") (aa (bz (aB .Eq (aE .Mod (nm "turn") (ae (.int 4))) (ae (.int 3))) (gD (ae (.int 4))) (bE (bI (aa (aE .Mod (aE .FloorDiv (nm "deed") (ae (.int 8))) (ae (.int 4))) (af))))) (af)))))) (cy))) (ag (aW (ae (.bool false))) (ao)) (ao)) (ao)))) (ag (aG (ba (aw (aq (kg) (aa (nm "book") (aa (gD (ae (.int 4))) (af)))))) (ag (aW (ae (.bool false))) (ao)) (ao)) (ag (aW (qd (cM (bc (au (nm "book") (ae (.str "marked")))) [] (λv l=>match v with|.tup [p,q]=>some ((l.set "arr" p).set "slots" q)|_=>none) (ba (aw (aq (mF) (aa (aq (jx) (aa (nm "arr") (af))) (aa (nm "slots") (af)))))) (nm "arr")))) (ao))))))
theorem RE:((tr ⟨[],[],false⟩ Dv 30).b lL.scope 2 lL.body).m=uf:=by kernel_rfl
theorem RF:jA lL.scope 199 2 lL.body uf:=RE▸((tr ⟨[],[],false⟩ Dv 30).b lL.scope 2 lL.body).h
end
section
set_option maxHeartbeats 400000
section
theorem ER:∀{vs:List Value} {ns:List Int},IntsAre vs ns->bD g (ns.map V.int) vs
 |_,_,.nil=>.nil
 |_,_,.cons n t r=>.cons (.int n t) (ER r)
def Hb:Prop:=∀ns:List Int,ns.length<=63->∃l' ms',uf (ax ["script"] [.lst (ns.map V.int)]) []=some (.ret (.bool true),l',ms')
theorem PM(Ui:Hb):uW cc:=by
 intro X T A J s l vs ns oc mL E Q fk jT hg Cq pN hl hi Uj keep above ll hc hd hQ;refine xo (Ui ns Uj) λl' ms' hm=>?_;show wpAny (model prog w) A (execs lL.body J) Q E s;replace hl:B.h₀.get? l=some (cG vs 0):=hl;replace keep:∀b o,B.h₀.get? b=some o->s.heap.get? b=some o:=keep;replace above:B.h₀.objs.size<=J.locals:=above;have lt:l<B.h₀.objs.size:=Heap.lt_size hl;have ne1:l≠J.locals:=ne_of_lt (lt_of_lt_of_le lt above);have ne2:l≠J.locals+1:=ne_of_lt (Nat.lt_succ_of_lt (lt_of_lt_of_le lt above));refine hU ll λoL es ep hL Uk Ul WX=>?_;have R₀:aJ {news:=[(l,cG vs 0)],tag:=λ_=>.fu,dm:=[],top:=s.heap.objs.size} [] s.heap:=⟨⟨X,T⟩,keep,λa o m=>by simp at m;clear hd lt ne1 ne2;obtain⟨rfl,rfl⟩:=m;exact keep _ _ hl,λa o m h=>absurd rfl h,rfl,le_trans above (Nat.le_of_lt (Heap.lt_size hL)),rfl,λi o e=>by simp at e⟩;refine bT (R₀.adopt .free hL (λo m=>by simp at m;exact ne1 m.1.symm) (λ_=>above)) λfJ dG=>?_;refine bT (fJ.adopt .free hc (λo m=>by
  rcases mem_cons.mp m with e|m
  .have:=congrArg Prod.fst e;exact Nat.succ_ne_self _ this
  .simp at m;exact ne2 m.1.symm) (λ_=>Nat.le_succ_of_le above)) λbS bx=>?_
 generalize A9:((({news:=[(l,cG vs 0)],tag:=λ_=>fB.fu,dm:=[],top:=s.heap.objs.size}:G).adopt J.locals oL .free).adopt (J.locals+1) oc .free)=da at bS bx;have IB:(J.locals,oL)∈da.news/\da.tag J.locals=.free:=by rw[<-A9];exact⟨.tail _ (.head _),by simp[G.adopt]⟩
 have mC:(J.locals+1,oc)∈da.news/\da.tag (J.locals+1)=.free:=by rw[<-A9];exact⟨.head _,by exact if_pos rfl⟩
 have ml:(l,cG vs 0)∈da.news/\da.tag l=.fu:=by rw[<-A9];exact⟨.tail _ (.tail _ (.head _)),by exact(if_neg ne2).trans (if_neg ne1)⟩
 have zE:∀x c,J.cells.lookup x=some c->x=ofString "script"/\c=J.locals+1:=by
  intro x c h;rw[pN]at h;simp only[lookup_cons,List.lookup_nil]at h;split at h
  .rename_i e;cases h;exact⟨beq_iff_eq.mp e,rfl⟩
  .cases h
 have hk:lL.scope.names.lookup (ofString "script")=some .cell:=by decide+kernel
 have pre:fK lL.scope 199 A J da [] s.heap (ax ["script"] [.lst (ns.map V.int)]):=by
  refine⟨fk.le (by exact le_refl _),jT,⟨by rw[jT];rfl,hg,Cq,⟨oL,es,ep,IB.1,IB.2,Uk,Ul⟩,?_,?_,?_⟩,?_,bS⟩
  .intro x y c hx hy;rw[(zE x c hx).1,(zE y c hy).1]
  .intro x c hx;refine bT (zE x c hx) λ_ bf=>?_;clear hx;subst bf;exact hG oc _ mC.1 mC.2 hd
  .intro x hx;unfold Env.kindOf at hx;rw[jT]at hx;have:x=ofString "script":=by
    have m:=mem_of_lookup hx;have all:∀p∈lL.scope.names,p.2=.cell->p.1=ofString "script":=by decide+kernel
    exact all _ m rfl
   rw[this,pN];exact rfl
  .intro x v hx;unfold ax at hx;by_cases e:x="script"
   .subst e;rw[av.jJ]at hx;cases hx;refine a0 (.ref l) (.lst ml.1 ml.2 (ER hi)) (.inr ⟨.inl (by unfold Env.kindOf;rw[jT];exact hk),J.locals+1,oc,by rw[pN];exact rfl,mC.1,hd⟩)
   .rw[av.tG _ _ e]at hx;simp[ax]at hx
 refine RF pre hm λf h' tk g' P fr=>?_;refine az fr λx bf hx=>?_;clear fr;subst bf;cases hx;exact hQ h' tk P.rel.keep
end
end
end
section
open PySem
open List (getElem?_set_ne getElem?_set_self mem_map replicate getElem?_append_left mem_filterMap length_set lookup_cons mem_append_right mem_append_left mem_cons size_toArray getElem?_concat_length getElem?_map map_map mem_cons_self length_map filterMap_append filterMap_map mem_of_getElem? filterMap_cons map_cons)
open Nat (zero_le le_refl le_trans lt_of_lt_of_le le_add_right ne_of_lt le_succ le_of_ble_eq_true)
open Option (map_eq_some_iff)
open PySem.Str (ofString)
section
section
variable{a b m o v:ME}{al bl:ML}{c d:MB}{l:av}{ms m1 m2 m3:Hp}{vs ws:List V}{x y:V}{i j:Nat}{f:String}{k:jr}{fs:List (String×FV)}{n p:Int}{t:Bool}{op:Operator}{cp:CmpOp}{s1 s2:MS}
theorem mb{β γ:Type}{m:av->Hp->Option (β×Hp)}{k:β->av->Hp->Option (γ×Hp)}{r:β}(h:m l ms=some (r,m1)):ay m k l ms=k r l m1:=by simp only[ay,h]
theorem bo(h:l z=some x):nm z l ms=some (x,ms):=by rw[nm,h];rfl
theorem ia:ae x l ms=some (x,ms):=rfl
theorem fM:af l ms=some ([],ms):=rfl
theorem dN(h:a l ms=some (x,m1))(q:al l m1=some (vs,m2)):aa a al l ms=some (x::vs,m2):=(mb h).trans (mb q)
theorem gY{F:MF}{r:V×Hp}(h:al l ms=some (vs,m1))(q:F vs m1=some r):aq F al l ms=some r:=(mb h).trans q
theorem Gq(h:o l ms=some (.ref i,m1))(e:m1[i]?=some (.inst k fs))(z0:fs.lookup z=none)(q:al l m1=some (vs,m2))(w:F (.ref i::vs) m2=some r):bw k z F o al l ms=some r:=by simp only[bw,h,e,z0,and_self,if_true,q,w]
theorem Hc(h:a l ms=some (x,m1))(q:b l m1=some (y,m2)){r:V}(w:gm x y m2=some r):au a b l ms=some (r,m2):=(mb h).trans ((mb q).trans (congrArg (Option.map _) w))
theorem jl(h:m l ms=some (.ref i,m1))(e:m1[i]?=some (.inst k fs))(q:fs.lookup f=some (.val x)):aP f m l ms=some (x,m1):=by simp only[aP,ay,h,e,q]
theorem tQ(h:m l ms=some (.ref i,m1))(e:m1[i]?=some (.inst k fs))(q:fs.lookup f=some (.lst vs)):a9 f m l ms=some (vs,m1):=by simp only[a9,ay,h,e,q]
theorem Gr(h:m l ms=some (.ref i,m1))(e:m1[i]?=some (.inst k fs))(q:fs.lookup f=some .js):ph f m l ms=some ((),m1):=by simp only[ph,ay,h,e,q]
theorem kz(h:m l ms=some (.bool t,m1)):aw m l ms=some (t,m1):=mb h
theorem A'(h:c l ms=some (t,m1)):ba c l ms=some (!t,m1):=mb h
theorem xg{ty:Ty}(h:m l ms=some (x,m1))(q:cg x m1 ty=some t):aO m ty l ms=some (.bool t,m1):=(mb h).trans (congrArg (Option.map _) q)
theorem pj(h:a l ms=some (x,m1))(q:b l m1=some (y,m2))(w:hZ cp x y=some t):aB cp a b l ms=some (t,m2):=(mb h).trans ((mb q).trans (congrArg (Option.map _) w))
theorem Hd(h:a l ms=some (x,m1))(q:b l m1=some (y,m2))(w:hZ cp x y=some t):df cp a b l ms=some (.bool t,m2):=(mb h).trans ((mb q).trans (congrArg (Option.map _) w))
theorem RG{r:Int}(h:a l ms=some (.int n,m1))(q:b l m1=some (.int p,m2))(w:cB op n p=some r):aE op a b l ms=some (.int r,m2):=(mb h).trans ((mb q).trans (congrArg (Option.map _) w))
theorem ug(h:al l ms=some (vs,m1))(q:Nat.ble vs.length 1000=true):aU al l ms=some (.tup vs,m1):=(mb h).trans (if_pos (le_of_ble_eq_true q))
theorem wK(h:al l ms=some (vs,m1))(q:Nat.ble vs.length 1000=true):bI al l ms=some (vs,m1):=(mb h).trans (if_pos (le_of_ble_eq_true q))
theorem uh(h:al l ms=some (vs,m1)):bE al l ms=some (.lst vs,m1):=mb h
theorem VD(h:al l ms=some (vs,m1)):oo al l ms=some (.tup vs,m1):=mb h
theorem Ba(h:al l ms=some (vs,m1)):bj al l ms=some (.int vs.length,m1):=mb h
theorem RH(h:c l ms=some (true,m1)):bz c a b l ms=a l m1:=mb h
theorem RI(h:c l ms=some (false,m1)):bz c a b l ms=b l m1:=mb h
theorem PN(h:c l ms=some (true,m1)):aK c d l ms=d l m1:=mb h
theorem Ah(h:c l ms=some (false,m1)):aK c d l ms=some (false,m1):=mb h
theorem RJ(h:c l ms=some (true,m1)):bC c d l ms=some (true,m1):=mb h
theorem RL(h:c l ms=some (false,m1)):bC c d l ms=d l m1:=mb h
theorem V3(h:m l ms=some (.lst vs,m1))(q:vs.length<=1000):bc m l ms=some (vs,m1):=(mb h).trans (if_pos q)
theorem V4(h:m l ms=some (.ref i,m1))(q:m1[i]?=some (.list vs)):bc m l ms=some (vs,m1):=by simp only[bc,ay,h,q]
theorem sd(h:m l ms=some (.lst vs,m1)):gG m l ms=some (vs,m1):=mb h
theorem N6(h:al l ms=some (vs,m1)):kh al l ms=some (.ref m1.length,m1++[.list vs]):=mb h
theorem Ai(h:v l ms=some (x,m1))(q:o l m1=some (.ref i,m2))(e:m2[i]?=some (.inst k fs))(z:Nat.ble fs.length 500=true):bR f o v l ms=some (.next,l,m2.set i (.inst k (fj f (.val x) fs))):=by simp only[bR,h,q,e,le_of_ble_eq_true z,if_true]
theorem wy(h:al l ms=some (vs,m1))(q:o l m1=some (.ref i,m2))(e:m2[i]?=some (.inst k fs))(z:Nat.ble fs.length 500=true):cz f o al l ms=some (.next,l,m2.set i (.inst k (fj f (.lst vs) fs))):=by simp only[cz,h,q,e,le_of_ble_eq_true z,if_true]
theorem N7{d:MD}(h:d l ms=some ((),m1))(q:o l m1=some (.ref i,m2))(e:m2[i]?=some (.inst k fs))(z:Nat.ble fs.length 500=true):dk f o d l ms=some (.next,l,m2.set i (.inst k (fj f .js fs))):=by simp only[dk,h,q,e,le_of_ble_eq_true z,if_true]
theorem Gs(h:v l ms=some (x,m1))(q:a l m1=some (y,m2))(e:b l m2=some (z,m3))(w:k9 y z x m3=some r):gE a b v l ms=some (.next,l,r):=by simp only[gE,h,q,e,w]
theorem VE(h:al l ms=some (vs,m1))(q:b l m1=some (.int n,m2))(w:at_ vs n=some x):b9 al b l ms=some (x,m2):=(mb h).trans ((mb q).trans (congrArg (Option.map _) w))
theorem VF(h:a l ms=some (.ref i,m1))(e:m1[i]?=some (.dict es))(q:b l m1=some (x,m2))(e2:m2[i]?=some (.dict es))(w:jO x=some kk):iH a b l ms=some ((es.lookup kk).getD .none,m2):=by simp only[iH,h,e,q,e2,w];rfl
theorem qt(h:m l ms=some (x,m1)):bq z m l ms=some (.next,l.set z x,m1):=by simp only[bq,h]
theorem Gu(h:m l ms=some (x,m1)):aR m l ms=some (.next,l,m1):=by simp only[aR,h]
theorem wL{u:Bool}(h:c l ms=some (t,m1))(q:(!t)=u):ba c l ms=some (u,m1):=q▸A' h
theorem xh{q:Option (Fl×av×Hp)}{l2:av}(h:q=some (.ret x,l2,m1)):(match(generalizing:=false) q with|some (.ret v,_,ms')=>some (v,ms')|some (.next,_,ms')=>some (V.none,ms')|none=>none)=some (x,m1):=by subst h;rfl
theorem ui{q:Option (Fl×av×Hp)}{l2:av}(h:q=some (.next,l2,m1)):(match(generalizing:=false) q with|some (.ret v,_,ms')=>some (v,ms')|some (.next,_,ms')=>some (V.none,ms')|none=>none)=some (.none,m1):=by subst h;rfl
theorem gk(h:s1 l ms=some (.next,l2,m1))(q:s2 l2 m1=r):ag s1 s2 l ms=r:=by simp only[ag,h,q]
theorem uj(h:s1 l ms=some (.ret x,l2,m1)):ag s1 s2 l ms=some (.ret x,l2,m1):=by simp only[ag,h]
theorem xk(h:m l ms=some (x,m1)):aW m l ms=some (.ret x,l,m1):=by simp only[aW,h]
theorem Bb(h:c l ms=some (true,m1))(q:s1 l m1=r):aG c s1 s2 l ms=r:=by simp only[aG,h,q]
theorem qu(h:c l ms=some (false,m1))(q:s2 l m1=r):aG c s1 s2 l ms=r:=by simp only[aG,h,q]
theorem mI:ao l ms=some (.next,l,ms):=rfl
theorem oj(h:c l ms=some (false,m1))(q:d l m1=r):bC c d l ms=r:=(RL h).trans q
theorem Fv(h:c l ms=some (true,m1))(q:d l m1=r):aK c d l ms=r:=(PN h).trans q
theorem PO(h:c l ms=some (true,m1))(q:a l m1=r):bz c a b l ms=r:=(RH h).trans q
theorem Gv(h:c l ms=some (false,m1))(q:b l m1=r):bz c a b l ms=r:=(RI h).trans q
theorem He(h:m l ms=some (.int n,m1)):c8 m l ms=some (.int (-n),m1):=mb h
theorem j8{p:Nat}:at_ xs (p:Int)=xs[p]?:=by
 delta at_ mX;by_cases h:p<xs.length
 .simp[h]
 .have h':¬((p:Int)<xs.length):=by omega
  simp[h',List.getElem?_eq_none (Nat.le_of_not_lt h)]
theorem Ww{o z:MO}(h:ms[i]?=some z):(ms.set i o)[i]?=some o:=getElem?_set_self (List.getElem?_eq_some_iff.mp h).1
theorem WY{p:Nat}(h:xs[p]?=some x):at_ xs (p:Int)=some x:=j8.trans h
theorem WZ{t u:Bool}(h:t=u):some (FV.val (V.bool t))=some (FV.val (V.bool u)):=h▸rfl
theorem W0{n p:Int}{α:Type}(h:n=p):some (V.int n,q)=some (V.int p,q):=by rw[h]
theorem W2{n p:Int}{α:Type}(h:p=n):some (V.int n,q)=some (V.int p,q):=by rw[<-h]
theorem W3{t u:Bool}{α:Type}(h:t=u):some (V.bool t,q)=some (V.bool u,q):=by rw[h]
theorem W4{α:Type}{p r:Option α}{a:α}(h:p=some a)(e:some a=r):p=r:=h.trans e
noncomputable def Um:Fl->V|.ret v=>v|.next=>.none
theorem Wx{q:Option (Fl×av×Hp)}{fl:Fl}{l2:av}(h:q=some (fl,l2,m1)):(match(generalizing:=false) q with|some (.ret v,_,ms')=>some (v,ms')|some (.next,_,ms')=>some (V.none,ms')|none=>none)=some (Um fl,m1):=by subst h;cases fl<;>rfl
theorem V5(h:c l ms=some (t,m1))(ht:t=true)(q:s1 l m1=r):aG c s1 s2 l ms=r:=Bb (ht▸h) q
theorem V6(h:c l ms=some (t,m1))(ht:t=false)(q:s2 l m1=r):aG c s1 s2 l ms=r:=qu (ht▸h) q
theorem V7(h:c l ms=some (t,m1))(ht:t=true):bC c d l ms=some (true,m1):=RJ (ht▸h)
theorem V8(h:c l ms=some (t,m1))(ht:t=false)(q:d l m1=r):bC c d l ms=r:=oj (ht▸h) q
theorem VG(h:c l ms=some (t,m1))(ht:t=false):aK c d l ms=some (false,m1):=Ah (ht▸h)
theorem VH(h:c l ms=some (t,m1))(ht:t=true)(q:d l m1=r):aK c d l ms=r:=Fv (ht▸h) q
theorem Hf(h:c l ms=some (t,m1))(ht:t=true)(q:a l m1=r):bz c a b l ms=r:=PO (ht▸h) q
theorem Hg(h:c l ms=some (t,m1))(ht:t=false)(q:b l m1=r):bz c a b l ms=r:=Gv (ht▸h) q
theorem V9(h:m l ms=some (.bool t,m1)):dV m l ms=some (.bool (!t),m1):=mb h
theorem VI{r:Option (V×Hp)}(h:a l ms=some (.bool t,m1))(ht:t=true)(q:b l m1=r):dQ a b l ms=r:=by subst ht;exact(mb h).trans q
theorem VJ(h:a l ms=some (.bool t,m1))(ht:t=false):dQ a b l ms=some (.bool false,m1):=by subst ht;exact mb h
theorem V'{u:Bool}(h:a l ms=some (x,m1))(q:b l m1=some (y,m2))(w:hZ cp x y=some t)(ht:t=true)(e1:e l m2=some (z,m3))(w2:hZ cq y z=some u):dF cp cq a b e l ms=some (.bool u,m3):=by subst ht;simp only[dF,ay,h,q,w,e1,w2,Option.map_some]
theorem Wa(h:a l ms=some (x,m1))(q:b l m1=some (y,m2))(w:hZ cp x y=some t)(ht:t=false):dF cp cq a b e l ms=some (.bool false,m2):=by subst ht;simp only[dF,ay,h,q,w]
theorem RM(h:m l ms=some (.int n,m1))(q:0<=n/\n<=1000):gD m l ms=some (.iM n.toNat,m1):=(mb h).trans (if_pos q)
theorem S4{kk:Nat}(h:m l ms=some (.iM kk,m1)):iy m l ms=some (gF kk,m1):=mb h
theorem Wy(h:m l ms=some (.lst vs,m1)):iy m l ms=some (vs,m1):=mb h
theorem Wb(h:a l ms=some (.int n,m1))(q:b l m1=some (.int p,m2)):dw a b l ms=some (.int (min n p),m2):=(mb h).trans (mb q)
theorem Wc{bl:ML}(h:al l ms=some (vs,m1))(q:bl l m1=some (ws,m2))(z:vs.length+ws.length<=1000):jQ al bl l ms=some (vs++ws,m2):=(mb h).trans ((mb q).trans (if_pos z))
theorem Hh{kk:Nat}(h:m l ms=some (.tup vs,m1))(z:vs.length=kk)(q:g vs l m1=some (l2,m2)):dY kk m g l ms=some (.next,l2,m2):=by simp only[dY,h,if_pos z,q,Option.map_some]
theorem wM(h:g x l ms=some (l2,m1))(q:gs vs l2 m1=r):bM g gs (x::vs) l ms=r:=by simp only[bM,h,q]
theorem wN:cP z x l ms=some (l.set z x,ms):=rfl
theorem Hi:fo [] l ms=some (l,ms):=rfl
theorem Wd(h:a l ms=some (x,m1))(q:b l m1=some (y,m2))(w:k9 x y z m2=some m3):iD a b z l ms=some (l,m3):=by simp only[iD,h,q,w,Option.map_some]
theorem PQ(h:al l ms=some (vs,m1))(q:F (.ref m1.length::vs) (m1++[.inst k []])=some (.none,m2)):g7 k F al l ms=some (.ref m1.length,m2):=by simp only[g7,ay,h,q]
theorem VL:jj l ms=some (.ref ms.length,ms++[.dict []]):=rfl
theorem RN(h:o l ms=some (.ref i,m1))(e:m1[i]?=some (.list ws))(q:v l m1=some (x,m2))(e2:m2[i]?=some (.list vs))(z:vs.length<=900):kx o v l ms=some (.none,m2.set i (.list (vs++[x]))):=by simp only[kx,h,e,q,e2,if_pos z]
theorem VM(h:m l ms=some (.ref i,m1))(e0:m1[i]?=some (.inst k fs))(w0:fs.lookup z=some (.lst ws))(q:v l m1=some (x,m2))(e:m2[i]?=some (.inst kk gs))(w:gs.lookup f=some (.lst vs))(g:vs.length<=900):jm f (bJ z m) v l ms=some (.none,m2.set i (.inst kk (fj f (.lst (vs++[x])) gs))):=by simp only[jm,bJ,ay,h,e0,w0,q,dA,e,w,if_pos g]
theorem VN(h:m l ms=some (.ref i,m1))(e:m1[i]?=some (.inst k fs))(w0:fs.lookup z=some (.lst ws))(w:fs.lookup f=some (.lst vs))(g:vs.getLast?=some x):jB f (bJ z m) l ms=some (x,m1.set i (.inst k (fj f (.lst vs.dropLast) fs))):=by simp only[jB,bJ,ay,h,w0,dA,e,w,g]
theorem Vy(hv:v l ms=some (x,m1))(h:m l m1=some (.ref i,m2))(e0:m2[i]?=some (.inst k fs))(w0:fs.lookup z=some (.lst ws))(q:b l m2=some (.int n,m3))(e:m3[i]?=some (.inst kk gs))(w:gs.lookup f=some (.lst vs))(g:0<=n/\n<vs.length):cT f (bJ z m) b v l ms=some (.next,l,m3.set i (.inst kk (fj f (.lst (vs.set n.toNat x)) gs))):=by simp only[cT,bJ,ay,hv,h,e0,w0,q,dA,e,w,if_pos g]
theorem VO(h:o l ms=some (.ref i,m1))(e:m1[i]?=some (.inst k fs))(w:fs.lookup f=some (.val (.int n)))(q:v l m1=some (.int p,m2)){r:Int}(z:dI op n p=some r)(e2:m2[i]?=some (.inst kk gs))(g:Nat.ble gs.length 500=true):dh f op o v l ms=some (.next,l,m2.set i (.inst kk (fj f (.val (.int r)) gs))):=by simp only[dh,h,e,w,q,z,e2,le_of_ble_eq_true g,if_true]
theorem S5(h:al l ms=some (vs,m1)):qc al l ms=some (!vs.isEmpty,m1):=mb h
theorem Wz{kk:Nat}(h:c l ms=some (t,m1))(ht:t=false):ix (kk+1) c s1 l ms=some (.next,l,m1):=by subst ht;simp only[ix,h]
theorem WA{kk:Nat}(h:c l ms=some (t,m1))(ht:t=true)(q:s1 l m1=some (.next,l2,m2))(w:ix kk c s1 l2 m2=r):ix (kk+1) c s1 l ms=r:=by subst ht;simp only[ix,h,q,w]
theorem PR(h:a l ms=some (x,m1))(q:b l m1=some (y,m2))(w:mS cp x y=some t):qq cp a b l ms=some (t,m2):=(mb h).trans ((mb q).trans (congrArg (Option.map _) w))
theorem VP(h:a l ms=some (x,m1))(q:b l m1=some (y,m2))(w:mS cp x y=some t):ub cp a b l ms=some (.bool t,m2):=(mb h).trans ((mb q).trans (congrArg (Option.map _) w))
theorem Vz{ps:List (V×V)}{es:List (DK×V)}(h:al l ms=some (vs,m1))(e1:nh vs=some ps)(e2:nI [] ps=some es)(z:es.length<=1000):rF al l ms=some (.ref m1.length,m1++[.dict es]):=(mb h).trans (by simp only[e1,e2,if_pos z])
theorem VQ{es:List (DK×V)}(h:m l ms=some (.ref i,m1))(e:m1[i]?=some (.dict es)):iT m l ms=some (es.map λe=>e.1.val,m1):=(mb h).trans (by simp only[e])
theorem RO{d:MD}(h:d l ms=some ((),m1)):r8 d l ms=some ([],m1):=mb h
theorem We(h:al l ms=some (vs,m1)):tN al l ms=some (.bool (!vs.isEmpty),m1):=mb h
theorem Wf(h:al l ms=some (vs,m1)):qd al l ms=some (.bool vs.isEmpty,m1):=mb h
theorem VS{ty t1 t2:Ty}(h:m l ms=some (x,m1))(q:bG x m1=some ty)(hn:x≠.absent):kU m t1 t2 l ms=some (.bool (fx ty t1||fx ty t2),m1):=(mb h).trans (by clear h;cases x<;>first|exact congrArg (Option.map _) q|exact absurd rfl hn)
theorem Hj{upd:V->av->Option av}(h:al l ms=some (vs,m1))(q:kW upd s1 vs l m1=r):gU al upd s1 l ms=r:=by simp only[gU,h,q]
theorem Wg{r:Int}(h:l z=some (.int n))(q:m l ms=some (.int p,m1))(w:dI op n p=some r):dC z op m l ms=some (.next,l.set z (.int r),m1):=by simp only[dC,h,q,w]
theorem VA{kk:Nat}(h:m l ms=some (.iM kk,m1)):tJ m l ms=some (gF kk,m1):=mb h
theorem Wh(h:m l ms=some (.lst vs,m1)):lN m l ms=some (rN vs,m1):=mb h
theorem Wi(h:al l ms=some (vs,m1))(q:bl l m1=some (ws,m2)):sa al bl l ms=some (uH vs ws,m2):=(mb h).trans (mb q)
theorem Hk(h:al l ms=some ([x],m1))(q:b l m1=some (.int n,m2))(z:0<=n/\n<=1000):uJ al b l ms=some (replicate n.toNat x,m2):=(mb h).trans ((mb q).trans (if_pos z))
theorem tR{upd:V->av->Option av}(h:al l ms=some (vs,m1))(q:ja upd c a vs (iL gV l) m1 []=some r):cM al gV upd c a l ms=some r:=by simp only[cM,h,q]
theorem sg{o:MO}(hi:i<ms.length):(ms.set i o)[i]?=some o:=getElem?_set_self hi
theorem uA(hi:i<ms.length)(h:o l (ms.set i (.inst k fs))=some (.ref i,ms.set i (.inst k fs)))(q:v l (ms.set i (.inst k fs))=some (x,ms.set i (.inst k fs)))(z:Nat.ble fs.length 500=true)(w:s1 l (ms.set i (.inst k (fj f (.val x) fs)))=r):ag (bR f o v) s1 l (ms.set i (.inst k fs))=r:=gk (Ai q h (sg hi) z) (by rw[List.set_set];exact w)
theorem uL(hi:i<ms.length)(h:o l (ms.set i (.inst k fs))=some (.ref i,ms.set i (.inst k fs)))(q:al l (ms.set i (.inst k fs))=some (vs,ms.set i (.inst k fs)))(z:Nat.ble fs.length 500=true)(w:s1 l (ms.set i (.inst k (fj f (.lst vs) fs)))=r):ag (cz f o al) s1 l (ms.set i (.inst k fs))=r:=gk (wy q h (sg hi) z) (by rw[List.set_set];exact w)
theorem uD{r:Option (Fl×av×Hp)}{d:MD}(hi:i<ms.length)(h:o l (ms.set i (.inst k fs))=some (.ref i,ms.set i (.inst k fs)))(q:d l (ms.set i (.inst k fs))=some ((),ms.set i (.inst k fs)))(z:Nat.ble fs.length 500=true)(w:s1 l (ms.set i (.inst k (fj f .js fs)))=r):ag (dk f o d) s1 l (ms.set i (.inst k fs))=r:=gk (N7 q h (sg hi) z) (by rw[List.set_set];exact w)
end
end
local macro_rules (kind:=Lean.Parser.Tactic.simpArith)|x=>let k:="(simpArith 'simp_arith (optConfig = ) ) = ) = ) = '[ = * ) '] ) = ) )";pure (xB [x[4][1].getArgs.toList] ("F "++xL "bo ia fM mI"++xA "xh" "gk xk Bb dN gY jl kz pj qt Gu xg Hc Gq A' oj Fv PO Hd RG ug wK uh VD Ba tQ Gr He sd V3 N6 Ai wy Gs VF" k++xA "ui" "uj qu wL RJ Ah Gv V4 VE" k++"| (assumption 'assumption ) / "++xL "WZ W0"++"| (withReducible 'with_reducible { (tacticRfl 'rfl ) } ) / | (exact 'exact rfl ) / "++xM ""++"f")) local macro_rules (kind:=Lean.Parser.Tactic.simpAllArith)|x=>let k:="(simpAllArith 'simp_all_arith (optConfig = ) ) = ) = ) = '[ = * ) '] ) )";pure (xB [x[4][1].getArgs.toList,x[4][1].getSepArgs.toList.foldl (λa s=>a++[xB [[s[2]]] "| (paren '( { (tactic_<;>_ (apply 'apply * ) '<;> F | (assumption 'assumption ) / | (exact 'exact rfl ) / f ) } ') ) /"]) []] ("F | (assumption 'assumption ) / ** "++xL "bo ia fM mI"++xA "wM" "Wx gk xk V5 dN gY jl kz pj qt Gu xg Hc Gq A' V8 VH Hf Hd RG ug wK uh VD Ba tQ Gr He sd V3 N6 Ai wy Gs VF V9 VI V' RM S4 Wb Wc Hh wN Hi Wd PQ VL RN VM VN Vy VO S5 WA VE WY Ww PR VP VQ RO We Wf VS Hj Wg VA Wh Wi Vz tR N7 Hk" k++xA "" "uj V6 V7 VG Hg V4 VJ Wa Wy Wz" k++"| (withReducible 'with_reducible { (tacticRfl 'rfl ) } ) / | (exact 'exact rfl ) / "++xL "decide_eq_true decide_eq_false"++xT "| (paren '( { (tactic_<;>_ (apply 'apply " " ) '<;> (omega 'omega (optConfig = ) ) ) ) } ') ) / " "decide_eq_true decide_eq_false"++"| (omega 'omega (optConfig = ) ) ) / "++xM ""++"f")) local macro_rules (kind:=Lean.Parser.Tactic.simpArithBang)|x=>let k:="(simpAllArith 'simp_all_arith (optConfig = ) ) = ) = ) = '[ = * ) '] ) )";let f:="(simpLemma = ) = ) Um ) ', ";pure (xB [x[4][1].getArgs.toList] ("(paren '( { (apply 'apply W4 ) '; F | "++k++" / | (paren '( { (apply 'apply Wx ) '; "++k++" } ') ) / f '; F | (exact 'exact rfl ) / | (assumption 'assumption ) / "++xL "W2 W3"++"| (paren '( { (simp 'simp (optConfig = ) ) = ) = 'only ) = '[ = (simpLemma = ) = ) List.set_set ) ) '] ) = ) ) '; (exact 'exact rfl ) } ') ) / "++xM f++"| (paren '( { (simp 'simp (optConfig = ) ) = ) = ) = '[ = "++f++"* ) '] ) = ) ) '; (exact 'exact rfl ) } ') ) / f } ') )"))
section
structure Ar where
 pk:Bool
 es:List (Option (DK×V))
 nx:Int
 at_:Int
 sh:Bool
def dz:Option (DK×V)->V
 |some (k,_)=>k.val
 |none=>.none
noncomputable def bB:Option (DK×V)->V
 |some (_,v)=>v
 |none=>.absent
noncomputable def mh(k:DK):Option (DK×V)->Bool
 |some (k',_)=>k'=k
 |none=>false
noncomputable def hd(es:List (Option (DK×V)))(k:DK):Int:=match es.findIdx? (mh k)with
 |some p=>(p:Int)
 |none=>-1
noncomputable def eh(es:List (Option (DK×V))):List V:=[.int (hd es (.int 0)),.int (hd es (.int 1)),.int (hd es (.int 2)),.int (-1),.int (-1),.int (-1),.int (hd es (.str "a")),.int (-1)]
def Ar.ks(a:Ar):List V:=if a.pk then[]else a.es.map dz
def Ar.vs(a:Ar):List V:=a.es.map bB
noncomputable def Ar.hs(a:Ar):List V:=if a.pk then[]else eh a.es
noncomputable def Ar.ns(a:Ar):List V:=if a.pk then[]else replicate a.es.length (.int (-1))
noncomputable def Ar.ah(a:Ar):List (DK×V):=a.es.filterMap id
noncomputable def aM(pk:Bool)(ks vs hs ns:List V)(c nx at_:Int)(sh:Bool):List (String×FV):=[("is_packed",.val (.bool pk)),("keys",.lst ks),("vals",.lst vs),("heads",.lst hs),("nexts",.lst ns),("size",.val (.int 8)),("count",.val (.int c)),
 ("next",.val (.int nx)),("at",.val (.int at_)),("is_shared",.val (.bool sh)),("walks",.js)]
def Ar.mo(a:Ar):MO:=.inst .arr (aM a.pk a.ks a.vs a.hs a.ns a.ah.length a.nx a.at_ a.sh)
theorem cV{ds:List V}{k:Nat}{vs:List V}(h:vs.length=k):cE ps ds k m vs ms=match m (ax ps (vs++ds)) ms with
 |some (.ret v,_,ms')=>some (v,ms')
 |some (.next,_,ms')=>some (.none,ms')
 |none=>none:=by unfold cE;rw[if_pos h]<;>rfl
theorem nr(a:Ar):a.vs.length=a.es.length:=by simp[Ar.vs]
theorem dM{pk ks vs hs ns c nx at_ sh}:(aM pk ks vs hs ns c nx at_ sh).lookup "vals"=some (.lst vs):=rfl
theorem dZ{pk ks vs hs ns c nx at_ sh}:(aM pk ks vs hs ns c nx at_ sh).lookup "is_packed"=some (.val (.bool pk)):=rfl
theorem eu{pk ks vs hs ns c nx at_ sh}:(aM pk ks vs hs ns c nx at_ sh).lookup "keys"=some (.lst ks):=rfl
theorem eH{pk ks vs hs ns c nx at_ sh}:(aM pk ks vs hs ns c nx at_ sh).lookup "heads"=some (.lst hs):=rfl
theorem eI{pk ks vs hs ns c nx at_ sh}:(aM pk ks vs hs ns c nx at_ sh).lookup "nexts"=some (.lst ns):=rfl
theorem d9{pk ks vs hs ns c nx at_ sh}:(aM pk ks vs hs ns c nx at_ sh).lookup "size"=some (.val (.int 8)):=rfl
theorem eg{pk ks vs hs ns c nx at_ sh}:(aM pk ks vs hs ns c nx at_ sh).lookup "count"=some (.val (.int c)):=rfl
theorem eA{pk ks vs hs ns c nx at_ sh}:(aM pk ks vs hs ns c nx at_ sh).lookup "next"=some (.val (.int nx)):=rfl
theorem d0{pk ks vs hs ns c nx at_ sh}:(aM pk ks vs hs ns c nx at_ sh).lookup "at"=some (.val (.int at_)):=rfl
theorem dJ{pk ks vs hs ns c nx at_ sh}:(aM pk ks vs hs ns c nx at_ sh).lookup "is_shared"=some (.val (.bool sh)):=rfl
theorem d8{pk ks vs hs ns c nx at_ sh}:(aM pk ks vs hs ns c nx at_ sh).lookup "walks"=some .js:=rfl
theorem eQ{pk ks vs hs ns c nx at_ sh}:(aM pk ks vs hs ns c nx at_ sh).lookup "find"=none:=rfl
theorem eB{pk ks vs hs ns c nx at_ sh}:(aM pk ks vs hs ns c nx at_ sh).lookup "slot"=none:=rfl
theorem ee{pk ks vs hs ns c nx at_ sh}:(aM pk ks vs hs ns c nx at_ sh).lookup "put"=none:=rfl
theorem eD{pk ks vs hs ns c nx at_ sh}:(aM pk ks vs hs ns c nx at_ sh).lookup "get"=none:=rfl
theorem eC{pk ks vs hs ns c nx at_ sh}:(aM pk ks vs hs ns c nx at_ sh).lookup "drop"=none:=rfl
theorem eG{pk ks vs hs ns c nx at_ sh}:(aM pk ks vs hs ns c nx at_ sh).lookup "key_at"=none:=rfl
theorem eU{pk ks vs hs ns c nx at_ sh x}:fj "vals" (.lst x) (aM pk ks vs hs ns c nx at_ sh)=aM pk ks x hs ns c nx at_ sh:=rfl
theorem eW{pk ks vs hs ns c nx at_ sh x}:fj "keys" (.lst x) (aM pk ks vs hs ns c nx at_ sh)=aM pk x vs hs ns c nx at_ sh:=rfl
theorem eJ{pk ks vs hs ns c nx at_ sh x}:fj "heads" (.lst x) (aM pk ks vs hs ns c nx at_ sh)=aM pk ks vs x ns c nx at_ sh:=rfl
theorem eM{pk ks vs hs ns c nx at_ sh x}:fj "nexts" (.lst x) (aM pk ks vs hs ns c nx at_ sh)=aM pk ks vs hs x c nx at_ sh:=rfl
theorem eN{pk ks vs hs ns c nx at_ sh x}:fj "count" (.val (.int x)) (aM pk ks vs hs ns c nx at_ sh)=aM pk ks vs hs ns x nx at_ sh:=rfl
theorem eX{pk ks vs hs ns c nx at_ sh x}:fj "next" (.val (.int x)) (aM pk ks vs hs ns c nx at_ sh)=aM pk ks vs hs ns c x at_ sh:=rfl
theorem e8{pk ks vs hs ns c nx at_ sh x}:fj "at" (.val (.int x)) (aM pk ks vs hs ns c nx at_ sh)=aM pk ks vs hs ns c nx x sh:=rfl
theorem e9{pk ks vs hs ns c nx at_ sh x}:fj "is_packed" (.val (.bool x)) (aM pk ks vs hs ns c nx at_ sh)=aM x ks vs hs ns c nx at_ sh:=rfl
theorem fb{pk ks vs hs ns c nx at_ sh x}:fj "is_shared" (.val (.bool x)) (aM pk ks vs hs ns c nx at_ sh)=aM pk ks vs hs ns c nx at_ x:=rfl
theorem eO{pk ks vs hs ns c nx at_ sh}:fj "walks" .js (aM pk ks vs hs ns c nx at_ sh)=aM pk ks vs hs ns c nx at_ sh:=rfl
theorem eY{pk ks vs hs ns c nx at_ sh}:(aM pk ks vs hs ns c nx at_ sh).length=11:=rfl
theorem dS{i j:Int}:hZ .Lt (.int i) (.int j)=some (decide (i<j)):=rfl
theorem fc{i j:Int}:hZ .LtE (.int i) (.int j)=some (decide (i<=j)):=rfl
theorem d3{i j:Int}:hZ .Gt (.int i) (.int j)=some (decide (j<i)):=rfl
theorem fe{i j:Int}:hZ .GtE (.int i) (.int j)=some (decide (j<=i)):=rfl
theorem dK{i j:Int}:hZ .Eq (.int i) (.int j)=some (i==j):=rfl
theorem ff{i j:Int}:hZ .NotEq (.int i) (.int j)=some (i !=j):=rfl
def gp(ms:Hp)(v:V):Prop:=cg v ms (.c .abs)=some false
theorem gp.ne(h:gp ms v):v≠.absent:=by intro e;subst e;simp[gp,cg]at h
noncomputable def rS:Option V->Bool
 |none=>false
 |some .absent=>false
 |some _=>true
theorem vZ(n:v≠.absent):rS (some v)=true:=by cases v<;>first|rfl|exact absurd rfl n
theorem yK{i:Nat}{p:Nat}{pk ks vs hs ns c nx at_ sh}(h:ms[i]?=some (.inst .arr (aM pk ks vs hs ns c nx at_ sh)))(hv:∀v∈vs,v=.absent\/gp ms v):
 jH [.ref i,.int p] ms=some (.bool (rS vs[p]?),ms):=by
 delta jH yY;refine(cV rfl).trans ?_;by_cases hl:p<vs.length
 .have hm:vs[p]∈vs:=List.getElem_mem hl;obtain⟨v,e⟩:∃v,vs[p]=v:=⟨_,rfl⟩;rw[e]at hm;have e0:vs[p]?=some v:=by simp[hl,e]
  clear e;rcases hv v hm with rfl|q
  .rw[e0];simp_arith! [h,hl,j8,e,rS]
  .have n:=q.ne;delta gp at q;rw[e0,vZ n];simp_arith! [h,hl,j8,e,q]
 .have oG:¬((p:Int)<vs.length):=by omega
  have e:vs[p]?=none:=List.getElem?_eq_none (Nat.le_of_not_lt hl);simp_arith! [h,hl,oG,j8,e,rS]
end
section
noncomputable def Bc:DK->Int
 |.int i=>i
 |.str _=>9223372036854953478
noncomputable def lA:DK->Nat
 |.int i=>i.toNat
 |.str _=>6
def de(k:DK):Prop:=k=.int 0\/k=.int 1\/k=.int 2\/k=.str "a"
theorem zt(h:de k):tc [k.val] ms=some (.int (Bc k),ms):=by
 rcases h with rfl|rfl|rfl|rfl
 .rfl
 .rfl
 .rfl
 .rfl
theorem LG(h:de k):(Bc k).fmod 8=(lA k:Int):=by rcases h with rfl|rfl|rfl|rfl<;>rfl
theorem wA(h:de k):cB .Mod (Bc k) 8=some (lA k:Int):=congrArg some (LG h)
theorem wc(es:List (Option (DK×V)))(h:de k):(eh es)[lA k]?=some (.int (hd es k)):=by rcases h with rfl|rfl|rfl|rfl<;>rfl
structure dW(ms:Hp)(a:Ar):Prop where
 len:a.es.length<=8
 keys:∀k v,some (k,v)∈a.es->de k
 vals:∀k v,some (k,v)∈a.es->gp ms v
 nodup:(a.ah.map (·.1)).Nodup
 pz:a.pk=true->a.es.length<=3
 pack:a.pk=true->∀(p:Nat) (k:DK) (v:V),a.es[p]?=some (some (k,v))->k=DK.int p
theorem yL{i:Nat}{p:Nat}(h:ms[i]?=some a.mo)(ok:dW ms a):jH [.ref i,.int p] ms=some (.bool ((a.es[p]?).join.isSome),ms):=by
 rewrite[yK h ?_]
 .congr 3;unfold Ar.vs;rw[getElem?_map];cases e:a.es[p]? with
  |none=>rfl
  |some o=>
   cases o with
   |none=>rfl
   |some q=>obtain⟨k,v⟩:=q;exact vZ (ok.vals k v (mem_of_getElem? e)).ne
 .intro v hv;refine az (mem_map.mp hv) λo m e=>?_;cases o with
  |none=>exact .inl e.symm
  |some q=>obtain⟨k,w⟩:=q;clear hv;cases e;exact .inr (ok.vals k w m)
theorem lF:(∃(p:Nat) (v:V),es[p]?=some (some (k,v))/\hd es k=p)\/((∀(p:Nat) (v:V),es[p]?≠some (some (k,v)))/\hd es k=-1):=by
 unfold hd;cases e:es.findIdx? (mh k)with
 |none=>refine .inr ⟨λp v q=>?_,rfl⟩;have:=List.findIdx?_eq_none_iff.mp e _ (mem_of_getElem? q);simp[mh]at this
 |some p=>
  refine .inl ?_;refine az (List.findIdx?_eq_some_iff_getElem.mp e) λhp h1 _=>?_;cases q:es[p]with
  |none=>simp[q,mh]at h1
  |some r=>obtain⟨k',v⟩:=r;simp[q,mh]at h1;clear e;subst h1;exact gZ p v (by simp[hp,q]) rfl
theorem Ar.Uo{a:Ar}(h:a.pk=false):a.hs=eh a.es:=by simp[Ar.hs,h]
theorem Ar.Up{a:Ar}(h:a.pk=false):a.ks=a.es.map dz:=by simp[Ar.ks,h]
theorem Ar.W5{a:Ar}(h:a.pk=false):a.ns=replicate a.es.length (.int (-1)):=by simp[Ar.ns,h]
theorem Ar.PS{a:Ar}{p:Nat}{k:DK}{v:V}(h:a.pk=false)(q:a.es[p]?=some (some (k,v))):a.ks[p]?=some k.val:=by simp[Ar.Up h,q,dz]
theorem Ar.IC{a:Ar}(h:a.pk=false):a.mo=.inst .arr (aM false (a.es.map dz) (a.es.map bB) (eh a.es) (replicate a.es.length (.int (-1))) (a.es.filterMap id).length a.nx a.at_ a.sh):=by cases a;cases h;rfl
theorem Ar.Uq{a:Ar}(h:a.pk=true):a.mo=.inst .arr (aM true [] (a.es.map bB) [] [] (a.es.filterMap id).length a.nx a.at_ a.sh):=by cases a;cases h;rfl
theorem de.nn{n:Int}(h:de (.int n)):0<=n:=by rcases h with e|e|e|e<;>cases e<;>exact of_decide_eq_true rfl
theorem de.Ur{n:Nat}(h:de (.int n)):n<=2:=by rcases h with e|e|e|e<;>first|(have:=DK.int.inj e;omega)|(exact DK.noConfusion e)
theorem N8(k:DK):hZ .NotEq k.val k.val=some false:=by cases k<;>simp[DK.val,hZ,qG]
theorem zv{i:Nat}(h:ms[i]?=some a.mo)(ok:dW ms a)(hk:de k):pe [.ref i,k.val] ms=some (.int (hd a.es k),ms):=by
 delta pe Ad;refine(cV rfl).trans ?_;cases hp:a.pk with
 |true=>
  cases k with
  |str s=>
   have e:hd a.es (.str s)=-1:=by
    rcases lF (es:=a.es) (k:=.str s)with⟨p,v,q,_⟩|q
    .have:=ok.pack hp _ _ _ q;exact DK.noConfusion this
    .exact q.2
   simp_arith! [h,hp,e,DK.val]
  |int j=>
   obtain⟨n,rfl⟩:∃n:Nat,j=n:=by rcases hk with e|e|e|e<;>cases e<;>first|exact⟨0,rfl⟩|exact⟨1,rfl⟩|exact⟨2,rfl⟩
   have hl:=yL (p:=n) h ok;rcases lF (es:=a.es) (k:=.int n)with⟨p,v,q,e⟩|⟨q,e⟩
   .have:=ok.pack hp _ _ _ q;injection this with this;have this:n=p:=by omega
    subst this;simp_arith! [h,hp,e,DK.val,hl,q]
   .have e2:(a.es[n]?).join=none:=by
     cases r:a.es[n]? with
     |none=>rfl
     |some o=>
      cases o with
      |none=>rfl
      |some w=>obtain⟨k',v⟩:=w;have:=ok.pack hp _ _ _ r;subst this;exact absurd r (q _ _)
    simp_arith! [h,hp,e,DK.val,hl,e2]
 |false=>
  have hh:=zt (ms:=ms) hk;have hb:=wc a.es hk;rw[<-Ar.Uo hp]at hb;rcases lF (es:=a.es) (k:=k)with⟨p,v,q,e⟩|⟨q,e⟩
  .rw[e]at hb⊢;have q2:a.ks[p]?=some k.val:=Ar.PS hp q;have q3:=N8 k;simp_arith! [wA hk]
  .rw[e]at hb⊢;simp_arith! [wA hk]
end
section
theorem N9{es:List (Option (DK×V))}(nd:((es.filterMap id).map (·.1)).Nodup){p:Nat}{k:DK}{v:V}(h:es[p]?=some (some (k,v))):(es.filterMap id).lookup k=some v:=by
 have m:(k,v)∈es.filterMap id:=mem_filterMap.mpr ⟨_,mem_of_getElem? h,rfl⟩;generalize es.filterMap id=xs at nd m;clear h;induction xs with
 |nil=>cases m
 |cons x xs ih=>
  obtain⟨k',v'⟩:=x;simp only[map_cons,List.nodup_cons]at nd;rcases mem_cons.mp m with e|m
  .clear m nd;cases e;simp
  .have:k≠k':=by intro e;exact nd.1 (mem_map.mpr ⟨(k,v),m,e⟩)
   have e:(k==k')=false:=beq_eq_false_iff_ne.mpr this;refine lookup_cons.trans ?_;rw[e];exact ih nd.2 m
theorem MA{es:List (Option (DK×V))}{k:DK}(h:∀(p:Nat) (v:V),es[p]?≠some (some (k,v))):(es.filterMap id).lookup k=none:=by
 rw[List.lookup_eq_none_iff];intro x m;refine az (mem_filterMap.mp m) λo m e=>?_;refine cW (List.getElem?_of_mem m) λp q=>?_;obtain⟨k',v⟩:=x;simp only[id]at e;subst e;simp only[beq_eq_false_iff_ne,ne_eq,Bool.not_eq_true,bne_iff_ne];first
 |(intro e;clear m;clear m;subst e;exact h p v q)
 |(simp;intro e;subst e;exact h p v q)
def Ar.slot(a:Ar)(k:DK):V:=(a.ah.lookup k).getD .none
theorem tf{i:Nat}{k:DK}(h:ms[i]?=some a.mo)(ok:dW ms a)(hk:de k):gz [.ref i,k.val] ms=some (a.slot k,ms):=by
 delta gz Ae;refine(cV rfl).trans ?_;have hf:=zv h ok hk;delta Ar.slot Ar.ah;rcases lF (es:=a.es) (k:=k)with⟨p,v,q,e⟩|⟨q,e⟩
 .rw[e]at hf;have q2:a.vs[p]?=some v:=by simp[Ar.vs,q,bB]
  rw[N9 ok.nodup q];have np:¬((p:Int)<0):=by omega
  simp_arith[ag,aW,ao,bq,aG,aR,bR,cz,dk,aw,ba,aK,bC,aS,cy,bz,dV,dQ,df,aB,dF,aP,a9,b9,bj,dw,c8,aq,bw,dB,aa,af,bI,bE,aU,aO,ay,nm,ae,ax,av.set,bJ,dA,dI,aE,cB,bc,dC,dh,cT,dS,fc,d3,fe,dK,ff,dM,dZ,eu,eH,eI,d9,eg,eA,d0,dJ,d8,eQ,eB,ee,eD,eC,eG,eU,eW,eJ,eM,eN,eX,e8,e9,fb,eO,eY,np,hf,h,Ar.mo,j8,q2]
 .rw[e]at hf;rw[MA q];simp_arith[ag,aW,ao,bq,aG,aR,bR,cz,dk,aw,ba,aK,bC,aS,cy,bz,dV,dQ,df,aB,dF,aP,a9,b9,bj,dw,c8,aq,bw,dB,aa,af,bI,bE,aU,aO,ay,nm,ae,ax,av.set,bJ,dA,dI,aE,cB,bc,dC,dh,cT,dS,fc,d3,fe,dK,ff,dM,dZ,eu,eH,eI,d9,eg,eA,d0,dJ,d8,eQ,eB,ee,eD,eC,eG,eU,eW,eJ,eM,eN,eX,e8,e9,fb,eO,eY,hf,h,Ar.mo]
theorem Ke{i:Nat}{p:Nat}(h:ms[i]?=some a.mo)(ok:dW ms a)(q:a.es[p]?=some (some (k,v))):tj [.ref i,.int p] ms=some (k.val,ms):=by
 delta tj zC;refine(cV rfl).trans ?_;cases hp:a.pk with
 |true=>have:=ok.pack hp _ _ _ q;clear q;subst this;simp_arith[ag,aW,ao,bq,aG,aR,bR,cz,dk,aw,ba,aK,bC,aS,cy,bz,dV,dQ,df,aB,dF,aP,a9,b9,bj,dw,c8,aq,bw,dB,aa,af,bI,bE,aU,aO,ay,nm,ae,ax,av.set,bJ,dA,dI,aE,cB,bc,dC,dh,cT,dS,fc,d3,fe,dK,ff,dM,dZ,eu,eH,eI,d9,eg,eA,d0,dJ,d8,eQ,eB,ee,eD,eC,eG,eU,eW,eJ,eM,eN,eX,e8,e9,fb,eO,eY,h,Ar.mo,hp,DK.val]
 |false=>
  have q2:(a.es.map dz)[p]?=some k.val:=by simp[q,dz]
  simp_arith[ag,aW,ao,bq,aG,aR,bR,cz,dk,aw,ba,aK,bC,aS,cy,bz,dV,dQ,df,aB,dF,aP,a9,b9,bj,dw,c8,aq,bw,dB,aa,af,bI,bE,aU,aO,ay,nm,ae,ax,av.set,bJ,dA,dI,aE,cB,bc,dC,dh,cT,dS,fc,d3,fe,dK,ff,dM,dZ,eu,eH,eI,d9,eg,eA,d0,dJ,d8,eQ,eB,ee,eD,eC,eG,eU,eW,eJ,eM,eN,eX,e8,e9,fb,eO,eY,h,Ar.mo,hp,j8,Ar.ks,q2]
theorem pZ{upd:V->av->Option av}(I:av->Prop)(f:V->Option V):∀(vs acc:List V) (l:av),I l->(∀v∈vs,∀l,I l->∃l',upd v l=some l'/\I l'/\((∃x,f v=some x/\c l' ms=some (true,ms)/\e l' ms=some (x,ms))\/(f v=none/\c l' ms=some (false,ms))))->
 acc.length+vs.length<=1000->ja upd c e vs l ms acc=some (acc++vs.filterMap f,ms)
 |[],acc,l,_,_,hz=>by simp[ja];simpa using hz
 |v::vs,acc,l,hI,H,hz=>by
  refine aY (H v (.head _) l hI) λl' h1 ID h2=>?_;simp only[List.length_cons]at hz;rcases h2 with hr|hr
  .refine aY hr λx h3 h4 h5=>?_;have:=pZ (c:=c) (e:=e) I f vs (acc++[x]) l' ID (λu m=>H u (.tail _ m)) (by simp;omega);have z:acc.length<=1000:=by omega
   simp[ja,h1,h4,h5,this,h3,z]
  .refine bT hr λh3 h4=>?_;have:=pZ (c:=c) (e:=e) I f vs acc l' ID (λu m=>H u (.tail _ m)) (by omega);simp[ja,h1,h4,this,h3]
theorem D1{α:Type}(es:List (Option α))(g:α->V)(f:V->Option V)(hf:∀p:Nat,p<es.length->f (.int p)=(es[p]?).join.map g):(gF es.length).filterMap f=(es.filterMap id).map g:=by
 unfold gF;refine filterMap_map.trans ?_;have e1:(List.range es.length).map (λp=>es[p]?)=es.map some:=by apply List.ext_getElem (by simp);intro n h1 h2;simp at h1;simp[h1]
 have e2:(List.range es.length).filterMap (f∘λi=>V.int (Int.ofNat i))=(List.range es.length).filterMap (λp=>(es[p]?).join.map g):=by
  generalize hn:es.length=n at hf;have:∀xs:List Nat,(∀x∈xs,x<n)->xs.filterMap (f∘λi=>V.int (Int.ofNat i))=xs.filterMap λp=>(es[p]?).join.map g:=by
   intro xs;induction xs with
   |nil=>intro _;rfl
   |cons x xs ih=>intro hx;have e:=hf x (hx x (.head _));have e':=ih λy m=>hx y (.tail _ m);simp only[filterMap_cons,Function.comp,e'];rw[show f (V.int (Int.ofNat x))=_ from e]
  exact this _ λx m=>List.mem_range.mp m
 refine e2.trans ?_;have e3:(List.range es.length).filterMap (λp=>(es[p]?).join.map g)=((List.range es.length).map (λp=>es[p]?)).filterMap λo=>o.join.map g:=by rw[filterMap_map];rfl
 refine e3.trans ?_;rw[e1,filterMap_map,List.map_filterMap];rfl
def Aj(xs:List (DK×V)):V:=.lst (xs.map λe=>.tup [e.1.val,e.2])
theorem pY{i:Nat}(h:ms[i]?=some a.mo)(ok:dW ms a):jx [.ref i] ms=some (Aj a.ah,ms):=by
 delta jx zc;refine(cV rfl).trans ?_;have key:=pZ (upd:=λv l=>some (l.set "place" v)) (c:=aw (aq (jH) (aa (nm "arr") (aa (nm "place") (af))))) (e:=aU (aa (bw .arr "key_at" (tj) (nm "arr") (aa (nm "place") (af))) (aa (b9 (a9 "vals" (nm "arr")) (nm "place")) (af))))
  (λl=>l "arr"=some (.ref i)) (ms:=ms) (λv=>match v with|.int p=>(a.es[p.toNat]?).join.map λe=>.tup [e.1.val,e.2]|_=>none) (gF a.es.length) [] (iL ["arr"] (ax ["arr"] [.ref i])) rfl ?_ (by simp[gF];have:=ok.len;omega)
 .rw[D1 a.es (λe=>.tup [e.1.val,e.2])]at key
  .have hz:a.es.length<=1000:=by have:=ok.len;omega
   have hs:iy (gD (bj (a9 "vals" (nm "arr")))) (ax ["arr"] ([V.ref i]++[])) ms=some (gF a.es.length,ms):=by
    have e2:(a.es.length:Int)<=1000:=by omega
    simp_arith! [h,nr,e2]
   simp only[ag,aW,bE,ay,cM,hs];rw[show(ax ["arr"] ([V.ref i]++[]))=ax ["arr"] [.ref i]from rfl,key];rfl
  .intro p hp;simp
 .intro v hv l hI;refine az (mem_map.mp hv) λp hp bL=>?_;clear hv;subst bL;have hp:=List.mem_range.mp hp;refine cA _ rfl hI ?_;have hl:=yL (p:=p) h ok;cases q:a.es[p]? with
  |none=>simp at q;omega
  |some o=>
   cases o with
   |none=>refine .inr ⟨by simp[q],?_⟩;simp_arith! [hI,hl,q]
   |some e=>
    obtain⟨k,v⟩:=e;have q2:a.vs[p]?=some v:=by simp[Ar.vs,q,bB]
    have hk:=Ke h ok q;refine .inl ⟨.tup [k.val,v],by simp[q],?_,?_⟩
    .simp_arith! [hI,hl,q]
    .have h':ms[i]?=some (.inst .arr (aM a.pk a.ks a.vs a.hs a.ns a.ah.length a.nx a.at_ a.sh)):=h;simp_arith[ag,aW,ao,bq,aG,aR,bR,cz,dk,aw,ba,aK,bC,aS,cy,bz,dV,dQ,df,aB,dF,aP,a9,b9,bj,dw,c8,aq,bw,dB,aa,af,bI,bE,aU,aO,ay,nm,ae,ax,av.set,bJ,dA,dI,aE,cB,bc,dC,dh,cT,dS,fc,d3,fe,dK,ff,dM,dZ,eu,eH,eI,d9,eg,eA,d0,dJ,d8,eQ,eB,ee,eD,eC,eG,eU,eW,eJ,eM,eN,eX,e8,e9,fb,eO,eY,hI,hk,h',j8,q2]
end
section
theorem DG{upd:V->av->Option av}{n:Nat}(I:Nat->av->Hp->Prop)(step:∀p,p<n->∀l ms,I p l ms->∃l1 l2 iZ,upd (.int (p:Int)) l=some l1/\b l1 ms=some (.next,l2,iZ)/\I (p+1) l2 iZ):∀(m s:Nat),s+m=n->∀l ms,I s l ms->
 ∃l' ms',kW upd b ((List.range' s m).map λi=>V.int (Int.ofNat i)) l ms=some (.next,l',ms')/\I n l' ms'
 |0,s,e,l,ms,h=>by simp at e;clear step;subst e;exact gZ l ms rfl h
 |m+1,s,e,l,ms,h=>by refine lR (step s (by omega) l ms h) λl1 l2 iZ h1 h2 h3=>?_;refine fH (DG I step m (s+1) (by omega) l2 iZ h3) λl' ms' h4 h5=>?_;refine gZ l' ms' ?_ h5;rw[List.range'_succ,map_cons];have Us:upd (V.int (Int.ofNat s)) l=some l1:=h1;simp only[kW,Us,h2];exact h4
theorem Ej{upd:V->av->Option av}{n:Nat}(I:Nat->av->Hp->Prop)(step:∀p,p<n->∀l ms,I p l ms->∃l1 l2 iZ,upd (.int (p:Int)) l=some l1/\b l1 ms=some (.next,l2,iZ)/\I (p+1) l2 iZ)(h:I 0 l ms):
 ∃l' ms',kW upd b (gF n) l ms=some (.next,l',ms')/\I n l' ms':=by
 have:=DG I step n 0 (by omega) l ms h
 rwa [<-List.range_eq_range']at this
theorem Fw(es:List (Option (DK×V)))(o:Option (DK×V))(k:DK):hd (es++[o]) k=if hd es k=-1 then(if mh k o then(es.length:Int)else-1)else hd es k:=by
 unfold hd;rw[List.findIdx?_append];cases e:es.findIdx? (mh k)with
 |none=>by_cases h:mh k o<;>simp[h,List.findIdx?_cons]
 |some p=>exact rfl
theorem Gw{k:DK}(h:de k):lA k<8:=by rcases h with rfl|rfl|rfl|rfl<;>decide
theorem zw(es:List (Option (DK×V))):(eh es).length=8:=rfl
theorem D2{es:List (Option (DK×V))}(hk:de k)(hn:hd es k=-1):eh (es++[some (k,v)])=(eh es).set (lA k) (.int es.length):=by unfold eh;rcases hk with rfl|rfl|rfl|rfl<;>simp[Fw,mh,lA,hn]<;>omega
theorem Dg{es:List (Option (DK×V))}:eh (es++[none])=eh es:=by unfold eh;simp[Fw,mh];refine⟨?_,?_,?_,?_⟩<;>intro e<;>exact e.symm
theorem Ek{i p:Nat}{pk ks vs hs ns c nx at_ sh}(h:ms[i]?=some (.inst .arr (aM pk ks vs hs ns c nx at_ sh)))(hk:de k)(q:ks[p]?=some k.val)(hh:hs[lA k]?=some x)(hl:p<ns.length)(h8:hs.length=8):
 oi [.ref i,.int p] ms=some (.none,ms.set i (.inst .arr (aM pk ks vs (hs.set (lA k) (.int p)) (ns.set p x) c nx at_ sh))):=by
 delta oi Af;refine(cV rfl).trans ?_;have hi:i<ms.length:=(List.getElem?_eq_some_iff.mp h).1;have hb:=Gw hk;have dH:∀o,(ms.set i o)[i]?=some o:=λo=>by exact getElem?_set_self hi
 clear hi;have gX:(p:Int)<ns.length:=by omega
 have Ut:(lA k:Int)<8:=by omega
 obtain⟨Uu,hx⟩:=List.getElem?_eq_some_iff.mp hh;simp_arith! [zt hk,wA hk,dH]
def bg(ms ms':Hp):Prop:=∀j t,bG (.ref j) ms=some t->bG (.ref j) ms'=some t
theorem bg.refl:bg ms ms:=λ_ _ h=>h
theorem bg.trans(h1:bg a b)(h2:bg b c):bg a c:=λj t h=>h2 j t (h1 j t h)
theorem Fx(h:bg ms ms')(e:bG v ms=some t):bG v ms'=some t:=by cases v<;>first|exact e|exact h _ _ e
theorem gp.mono(h:bg ms ms')(q:gp ms v):gp ms' v:=by
 have n:=q.ne;delta gp cg at q⊢;cases v<;>first|exact absurd rfl n|exact q|skip
 simp only[map_eq_some_iff]at q⊢;refine az q λt h1 h2=>?_;exact a0 t (Fx h h1) h2
theorem bg.set{i:Nat}(h:ms[i]?=some (.inst c fs)):bg ms (ms.set i (.inst c fs')):=by
 intro j t e;by_cases hj:i=j
 .subst hj;have hi:i<ms.length:=(List.getElem?_eq_some_iff.mp h).1;simp only[bG,h]at e;simp[bG,hi];exact Option.some.inj e
 .simp only[bG,getElem?_set_ne hj]at e⊢;exact e
theorem Kf{ms m':Hp}{i n:Nat}{c nx at_:Int}{sh:Bool}(hi:i<ms.length)(h:ms[i]?=some (.inst .arr (aM false ks vs hs ns c nx at_ sh)))(hn:vs.length=n)(hz:n<=1000)
 (hf:kW (λv l=>some (l.set "place" v)) (ag (aG (aw (aq (jH) (aa (nm "arr") (aa (nm "place") (af))))) (ag (aR (aq (oi) (aa (nm "arr") (aa (nm "place") (af))))) (ao)) (ao)) (ao)) (gF n) (ax ["arr"] [.ref i]) (ms.set i (.inst .arr (aM false ks vs (eh []) (replicate n (.int (-1))) c nx at_ sh)))=some (.next,l',m')):tq [.ref i] ms=some (.none,m'):=by
 subst hn;have z:0<=(vs.length:Int)/\(vs.length:Int)<=1000:=⟨Int.natCast_nonneg _,Int.ofNat_le.mpr hz⟩;exact(cV rfl).trans (ui (gk (m1:=ms.set i (.inst .arr (aM false ks vs (eh []) ns c nx at_ sh))) (wy (Hk (wK (dN (He ia) fM) rfl) (jl (bo rfl) h d9) (by decide)) (bo rfl) h rfl) (uL hi (bo rfl) (Hk (wK (dN (He ia) fM) rfl) (Ba (tQ (bo rfl) (sg hi) dM)) z) rfl (gk (Hj (S4 (RM (Ba (tQ (bo rfl) (sg hi) dM)) z)) hf) mI))))
theorem Kg{i:Nat}{hs ns c nx at_ sh}(h:ms[i]?=some (.inst .arr (aM false (es.map dz) (es.map bB) hs ns c nx at_ sh)))(hz:es.length<=8)(kk:∀k v,some (k,v)∈es->de k)(vv:∀k v,some (k,v)∈es->gp ms v)(nd:((es.filterMap id).map (·.1)).Nodup):
 tq [.ref i] ms=some (.none,ms.set i (.inst .arr (aM false (es.map dz) (es.map bB) (eh es) (replicate es.length (.int (-1))) c nx at_ sh))):=by
 have hi:i<ms.length:=(List.getElem?_eq_some_iff.mp h).1;have dH:∀o,(ms.set i o)[i]?=some o:=λo=>by exact getElem?_set_self hi
 have key:=Ej (upd:=λv l=>some (l.set "place" v)) (b:=ag (aG (aw (aq (jH) (aa (nm "arr") (aa (nm "place") (af))))) (ag (aR (aq (oi) (aa (nm "arr") (aa (nm "place") (af))))) (ao)) (ao)) (ao)) (n:=es.length)
  (λp l m=>l "arr"=some (.ref i)/\m=ms.set i (.inst .arr (aM false (es.map dz) (es.map bB) (eh (es.take p)) (replicate es.length (.int (-1))) c nx at_ sh))) ?_
  (l:=ax ["arr"] [.ref i]) (ms:=ms.set i (.inst .arr (aM false (es.map dz) (es.map bB) (eh []) (replicate es.length (.int (-1))) c nx at_ sh))) ⟨rfl,rfl⟩
 .refine fN key λl' ms' h1 h2 h3=>?_;rw[List.take_length]at h3;subst h3;exact Kf hi h (length_map _) (by omega) h1
 .rintro p hp l m ⟨h1,rfl⟩;have K1:bg ms (ms.set i (.inst .arr (aM false (es.map dz) (es.map bB) (eh (es.take p)) (replicate es.length (.int (-1))) c nx at_ sh))):=bg.set h;have hl:=yK (p:=p) (dH (.inst .arr (aM false (es.map dz) (es.map bB) (eh (es.take p)) (replicate es.length (.int (-1))) c nx at_ sh))) (by
   intro v hv;refine az (mem_map.mp hv) λo m e=>?_;cases o with
   |none=>exact .inl e.symm
   |some q=>obtain⟨k,w⟩:=q;clear hv;cases e;exact .inr ((vv k w m).mono K1))
  have et:es.take (p+1)=es.take p++[es[p]]:=List.take_succ_eq_append_getElem hp;cases q:es[p]with
  |none=>
   have q2:(es.map bB)[p]?=some .absent:=by simp[hp,q,bB]
   rw[q2]at hl;simp only[rS]at hl;refine kn (l.set "place" (.int p)) (l.set "place" (.int p)) _ rfl ?_ h1 rfl;rw[et,q,Dg];simp_arith! [h1,hl]
  |some e=>
   obtain⟨k,v⟩:=e;have q1:es[p]?=some (some (k,v)):=by simp[hp,q]
   have m1:=mem_of_getElem? q1;have q2:(es.map bB)[p]?=some v:=by simp[q1,bB]
   have q3:(es.map dz)[p]?=some k.val:=by simp[q1,dz]
   have n:=(vv k v m1).ne;rw[q2,vZ n]at hl;have hk:=kk k v m1;have hn:hd (es.take p) k=-1:=by
    rcases lF (es:=es.take p) (k:=k)with⟨r,w,z,_⟩|z
    .exfalso;have mz:(k,w)∈(es.take p).filterMap id:=mem_filterMap.mpr ⟨_,mem_of_getElem? z,rfl⟩;have e4:es=es.take p++es[p]::es.drop (p+1):=by rw[<-List.drop_eq_getElem_cons hp,List.take_append_drop]
     rw[e4,q,filterMap_append,List.map_append,List.nodup_append]at nd;exact nd.2.2 k (mem_map.mpr ⟨_,mz,rfl⟩) k (by simp) rfl
    .exact z.2
   have hb:=wc (es.take p) hk;rw[hn]at hb;have lk:=Ek (p:=p) (dH (.inst .arr (aM false (es.map dz) (es.map bB) (eh (es.take p)) (replicate es.length (.int (-1))) c nx at_ sh))) hk q3 hb (by simpa using hp) (zw _);rw[List.set_set]at lk;refine kn (l.set "place" (.int p)) (l.set "place" (.int p)) _ rfl ?_ h1 rfl;rw[et,q,D2 hk hn];have hm:min p es.length=p:=Nat.min_eq_left (Nat.le_of_lt hp);simp_arith! [h1,hl,lk,hm]
end
section
noncomputable def se(es:List (Option (DK×V))):V->Option V
 |.int p=>(es[p.toNat]?).join.map λ_=>.int p
 |_=>none
def jR(es:List (Option (DK×V))):List V:=(gF es.length).filterMap (se es)
theorem zF(h:v∈jR es):∃(p:Nat) (e:DK×V),v=.int p/\es[p]?=some (some e):=by
 refine B4 λCC vm=>?_;refine az (mem_filterMap.mp h) λu m e=>?_;refine az (mem_map.mp m) λp hp bL=>?_;clear m;subst bL;simp only[se,Int.toNat_natCast,Int.ofNat_eq_natCast,map_eq_some_iff]at e;refine az e λx q r=>?_;refine vm ?_;refine gZ p x r.symm ?_;cases z:es[p]? with
 |none=>rw[z]at q;cases q
 |some o=>rw[z]at q;simp at q;rw[q]
theorem ES(es:List (Option (DK×V))):(jR es).length<=es.length:=by refine le_trans (List.length_filterMap_le _ _) ?_;simp[gF]
theorem ET(es:List (Option (DK×V)))(g:V->Option V)(f:DK×V->V)(h:∀(p:Nat) (e:DK×V),es[p]?=some (some e)->g (.int p)=some (f e)):(jR es).filterMap g=(es.filterMap id).map f:=by
 unfold jR;refine List.filterMap_filterMap.trans ?_;apply D1;intro p hp;simp only[se,Int.toNat_natCast];cases z:es[p]? with
 |none=>rfl
 |some o=>
  cases o with
  |none=>rfl
  |some e=>simpa using h p e z
theorem Jr{at_:Int}(hz:es.length<=8):∃n:Int,sQ [.lst (jR es),.int at_] ms=some (.int n,ms):=by
 delta sQ yQ;rw[cV (by rfl)];have hl:=ES es;have key:=pZ (upd:=λv l=>some (l.set "other" v)) (c:=aB .Lt (nm "other") (nm "place")) (e:=nm "other")
  (λl=>l "place"=some (.int at_)) (ms:=ms) (λv=>match v with|.int p=>if p<at_ then some (.int p)else none|_=>none) (jR es) [] (iL ["place"] (ax ["living","place"] [.lst (jR es),.int at_])) rfl ?_ (by simp;omega)
 .have hs:bc (nm "living") (ax ["living","place"] ([.lst (jR es),.int at_]++[])) ms=some (jR es,ms):=by
   have:(jR es).length<=1000:=by omega
   simp_arith[bc,ay,nm,ax,av.set,this]
  simp only[ag,aW,bj,ay,cM,hs];rw[show(ax ["living","place"] ([.lst (jR es),.int at_]++[]))=ax ["living","place"] [.lst (jR es),.int at_]from rfl,key];exact kP _ rfl
 .intro v hv l hI;refine fH (zF hv) λp e bL q=>?_;clear hv;subst bL;refine cA _ rfl hI ?_;by_cases h:(p:Int)<at_
  .exact .inl ⟨.int p,by exact if_pos h,by simp_arith[ag,aW,ao,bq,aG,aR,bR,cz,dk,aw,ba,aK,bC,aS,cy,bz,dV,dQ,df,aB,dF,aP,a9,b9,bj,dw,c8,aq,bw,dB,aa,af,bI,bE,aU,aO,ay,nm,ae,ax,av.set,bJ,dA,dI,aE,cB,bc,dC,dh,cT,dS,fc,d3,fe,dK,ff,dM,dZ,eu,eH,eI,d9,eg,eA,d0,dJ,d8,eQ,eB,ee,eD,eC,eG,eU,eW,eJ,eM,eN,eX,e8,e9,fb,eO,eY,hI,h],by simp_arith[ag,aW,ao,bq,aG,aR,bR,cz,dk,aw,ba,aK,bC,aS,cy,bz,dV,dQ,df,aB,dF,aP,a9,b9,bj,dw,c8,aq,bw,dB,aa,af,bI,bE,aU,aO,ay,nm,ae,ax,av.set,bJ,dA,dI,aE,cB,bc,dC,dh,cT,dS,fc,d3,fe,dK,ff,dM,dZ,eu,eH,eI,d9,eg,eA,d0,dJ,d8,eQ,eB,ee,eD,eC,eG,eU,eW,eJ,eM,eN,eX,e8,e9,fb,eO,eY]⟩
  .exact .inr ⟨by exact if_neg h,by simp_arith[ag,aW,ao,bq,aG,aR,bR,cz,dk,aw,ba,aK,bC,aS,cy,bz,dV,dQ,df,aB,dF,aP,a9,b9,bj,dw,c8,aq,bw,dB,aa,af,bI,bE,aU,aO,ay,nm,ae,ax,av.set,bJ,dA,dI,aE,cB,bc,dC,dh,cT,dS,fc,d3,fe,dK,ff,dM,dZ,eu,eH,eI,d9,eg,eA,d0,dJ,d8,eQ,eB,ee,eD,eC,eG,eU,eW,eJ,eM,eN,eX,e8,e9,fb,eO,eY,hI,h]⟩
theorem Kh{ms m':Hp}{i:Nat}{c nx at_ at2:Int}{sh:Bool}(hi:i<ms.length)(h:ms[i]?=some (.inst .arr (aM false ks vs hs ns c nx at_ sh)))
 (k1:cM (iy (gD (bj (a9 "vals" (nm "arr"))))) ["arr"] (λv l=>some (l.set "place" v)) (aw (aq (jH) (aa (nm "arr") (aa (nm "place") (af))))) (nm "place") (ax ["arr"] [.ref i]) ms=some (lv,ms))
 (k2:sQ [.lst lv,.int at_] ms=some (.int at2,ms))
 (k3:cM (gG (nm "living")) ["arr"] (λv l=>some (l.set "place" v)) (aS) (b9 (a9 "keys" (nm "arr")) (nm "place")) ((ax ["arr"] [.ref i]).set "living" (.lst lv)) (ms.set i (.inst .arr (aM false ks vs hs ns c nx at2 sh)))=some (Cr,ms.set i (.inst .arr (aM false ks vs hs ns c nx at2 sh))))
 (k4:cM (gG (nm "living")) ["arr"] (λv l=>some (l.set "place" v)) (aS) (b9 (a9 "vals" (nm "arr")) (nm "place")) ((ax ["arr"] [.ref i]).set "living" (.lst lv)) (ms.set i (.inst .arr (aM false Cr vs hs ns c nx at2 sh)))=some (mZ,ms.set i (.inst .arr (aM false Cr vs hs ns c nx at2 sh))))
 (k5:tq [.ref i] (ms.set i (.inst .arr (aM false Cr mZ hs ns c nx at2 sh)))=some (.none,m')):ng [.ref i] ms=some (.none,m'):=
 (cV rfl).trans (ui (gk (qt (uh k1)) (gk (m1:=ms.set i (.inst .arr (aM false ks vs hs ns c nx at2 sh))) (Ai (gY (dN (bo rfl) (dN (jl (bo rfl) h d0) fM)) k2) (bo rfl) h rfl) (gk (Hj (RO (Gr (bo rfl) (sg hi) d8)) rfl) (uL hi (bo rfl) k3 rfl (uL hi (bo rfl) k4 rfl (gk (Gu (gY (dN (bo rfl) fM) k5)) mI)))))))
theorem y6{ms:Hp}{i:Nat}{es:List (Option (DK×V))}{ks hs ns:List V}{c nx at_ sh}(h:ms[i]?=some (.inst .arr (aM false ks (es.map bB) hs ns c nx at_ sh)))(hk:∀(p:Nat) (e:DK×V),es[p]?=some (some e)->ks[p]?=some e.1.val)(hz:es.length<=8)(kk:∀k v,some (k,v)∈es->de k)(vv:∀k v,some (k,v)∈es->gp ms v)(nd:((es.filterMap id).map (·.1)).Nodup):
 ∃at2:Int,ng [.ref i] ms=some (.none,ms.set i (.inst .arr (aM false (((es.filterMap id).map some).map dz) (((es.filterMap id).map some).map bB) (eh ((es.filterMap id).map some)) (replicate (es.filterMap id).length (.int (-1))) c nx at2 sh))):=by
 have hi:i<ms.length:=(List.getElem?_eq_some_iff.mp h).1;have dH:∀o,(ms.set i o)[i]?=some o:=λo=>by exact getElem?_set_self hi
 refine cW (Jr (ms:=ms) (at_:=at_) hz) λn ha=>?_;refine kP n ?_;have hl:=ES es;have sy:(es.length:Int)<=1000:=by omega
 have key:=pZ (upd:=λv l=>some (l.set "place" v)) (c:=aw (aq (jH) (aa (nm "arr") (aa (nm "place") (af))))) (e:=nm "place")
  (λl=>l "arr"=some (.ref i)) (ms:=ms) (se es) (gF es.length) [] (iL ["arr"] (ax ["arr"] [.ref i])) rfl ?_ (by simp[gF];omega)
 rw[List.nil_append]at key;have BU:iy (gD (bj (a9 "vals" (nm "arr")))) (ax ["arr"] [V.ref i]) ms=some (gF es.length,ms):=by simp_arith! [h,sy]
 have k2:=pZ (upd:=λv l=>some (l.set "place" v)) (c:=aS) (e:=b9 (a9 "keys" (nm "arr")) (nm "place"))
  (λl=>l "arr"=some (.ref i)) (ms:=ms.set i (.inst .arr (aM false ks (es.map bB) hs ns c nx n sh))) (λv=>match v with|.int p=>ks[p.toNat]?|_=>none) (jR es) [] (iL ["arr"] ((ax ["arr"] [.ref i]).set "living" (.lst (jR es)))) rfl ?_ (by simp;omega)
 rw[List.nil_append,ET es _ (λe=>e.1.val) (λp e q=>by simpa using hk p e q)]at k2;have k3:=pZ (upd:=λv l=>some (l.set "place" v)) (c:=aS) (e:=b9 (a9 "vals" (nm "arr")) (nm "place"))
  (λl=>l "arr"=some (.ref i)) (ms:=ms.set i (.inst .arr (aM false ((es.filterMap id).map λe=>e.1.val) (es.map bB) hs ns c nx n sh))) (λv=>match v with|.int p=>(es.map bB)[p.toNat]?|_=>none) (jR es) [] (iL ["arr"] ((ax ["arr"] [.ref i]).set "living" (.lst (jR es)))) rfl ?_ (by simp;omega)
 rw[List.nil_append,ET es _ (λe=>e.2) (λp e q=>by simp[q,bB])]at k3;have eK:((es.filterMap id).map λe=>e.1.val)=((es.filterMap id).map some).map dz:=by rw[map_map];rfl
 have eV:((es.filterMap id).map λe=>e.2)=((es.filterMap id).map some).map bB:=by rw[map_map];rfl
 have eF:((es.filterMap id).map some).filterMap id=es.filterMap id:=by rw[filterMap_map];simp
 rw[eK]at k2 k3;rw[eV]at k3;have hc:=Kg (dH (.inst .arr (aM false (((es.filterMap id).map some).map dz) (((es.filterMap id).map some).map bB) hs ns c nx n sh))) (by have:=List.length_filterMap_le id es;simp;omega)
  (by intro k v m;refine az (mem_map.mp m) λx m e=>?_;cases e;refine az (mem_filterMap.mp m) λo m e=>?_;simp at e;subst e;exact kk k v m)
  (by intro k v m;refine az (mem_map.mp m) λx m e=>?_;cases e;refine az (mem_filterMap.mp m) λo m e=>?_;simp at e;subst e;exact(vv k v m).mono (bg.set h)) (by rw[eF];exact nd)
 rw[length_map,List.set_set]at hc;exact Kh hi h (tR BU key) ha (tR (sd (bo rfl)) k2) (tR (sd (bo rfl)) k3) hc
 .intro v hv l hI;refine fH (zF hv) λp e bL q=>?_;clear hv;subst bL;refine cA _ rfl hI (.inl ⟨e.2,by simp[q,bB],rfl,?_⟩);have q2:(es.map bB)[p]?=some e.2:=by simp[q,bB]
  simp_arith! [hI,dH,j8,q2]
 .intro v hv l hI;refine fH (zF hv) λp e bL q=>?_;clear hv;subst bL;refine cA _ rfl hI (.inl ⟨e.1.val,by simpa using hk p e q,rfl,?_⟩);simp_arith! [hI,dH,j8,hk p e q]
 .intro v hv l hI;refine az (mem_map.mp hv) λp hp bL=>?_;clear hv;subst bL;have hp:=List.mem_range.mp hp;refine cA _ rfl hI ?_;have hl:=yK (p:=p) h (by
   intro v hv;refine az (mem_map.mp hv) λo m e=>?_;cases o with
   |none=>exact .inl e.symm
   |some q=>obtain⟨k,w⟩:=q;clear hv;cases e;exact .inr (vv k w m))
  cases q:es[p]? with
  |none=>simp at q;omega
  |some o=>
   have q2:(es.map bB)[p]?=some (bB o):=by simp[q]
   rw[q2]at hl;cases o with
   |none=>refine .inr ⟨by simp[se,q],?_⟩;simp_arith! [hI,hl,bB,rS]
   |some e=>clear q2;obtain⟨k,v⟩:=e;have n:=(vv k v (mem_of_getElem? q)).ne;simp only[bB,vZ n]at hl;exact .inl ⟨.int p,by simp[se,q],by simp_arith! [hI,hl],by simp_arith! [ia]⟩
end
section
theorem aZ(h:a l ms=some (.next,l',ms')):ag a b l ms=b l' ms':=gk h rfl
theorem oh(h:a l ms=some (.ret v,l',ms')):ag a b l ms=some (.ret v,l',ms'):=uj h
theorem iU(h:c l ms=some (true,ms')):aG c a b l ms=a l ms':=Bb h rfl
theorem fG(h:c l ms=some (false,ms')):aG c a b l ms=b l ms':=qu h rfl
theorem bZ:ao l ms=some (.next,l,ms):=rfl
theorem i9(h:m l ms=some (v,ms')):aR m l ms=some (.next,l,ms'):=by simp only[aR,h]
theorem wd(h:m l ms=some (v,ms')):bq x m l ms=some (.next,l.set x v,ms'):=by simp_arith! [h]
theorem rD(h:m l ms=some (v,ms')):aW m l ms=some (.ret v,l,ms'):=by simp only[aW,h]
theorem zG{α:Type}[BEq α][LawfulBEq α]:∀(xs ys:List α),xs.Nodup->(∀x∈xs,x∈ys)->xs.length<=ys.length
 |[],_,_,_=>zero_le _
 |x::xs,ys,h,s=>by have h:=List.nodup_cons.mp h;have m:=s x (.head _);have:=zG xs (ys.erase x) h.2 λy hy=>(List.mem_erase_of_ne (by clear m s;rintro rfl;exact h.1 hy)).mpr (s y (.tail _ hy));rw[List.length_erase_of_mem m]at this;have:0<ys.length:=List.length_pos_of_mem m;simp only[List.length_cons];omega
theorem Fy{xs:List (DK×V)}(h:(xs.map (·.1)).Nodup)(k:∀e∈xs,de e.1):xs.length<=4:=by
 have:=zG (xs.map (·.1)) [.int 0,.int 1,.int 2,.str "a"] h (by intro x m;refine az (mem_map.mp m) λe m' bL=>?_;clear m;subst bL;rcases k e m' with q|q|q|q<;>rw[q]<;>simp);simpa using this
theorem nk{a:Ar}{e:DK×V}(m:e∈a.ah):some e∈a.es:=by refine az (mem_filterMap.mp m) λo m e=>?_;simp at e;subst e;exact m
theorem dW.sA{ms:Hp}{a:Ar}(ok:dW ms a):a.ah.length<=4:=Fy ok.nodup λe m=>ok.keys e.1 e.2 (nk m)
theorem EU{i:Nat}{es:List (Option (DK×V))}{c nx at_ sh}(h:ms[i]?=some (.inst .arr (aM false (es.map dz) (es.map bB) (eh es) (replicate es.length (.int (-1))) c nx at_ sh)))(hz:es.length<=7)(hk:de k)(hn:hd es k=-1)(l1:l "arr"=some (.ref i))(l2:l "key"=some k.val)(l3:l "slot"=some v):
 (ag (aR (jm "keys" (bJ "keys" (nm "arr")) (nm "key"))) (ag (aR (jm "vals" (bJ "vals" (nm "arr")) (nm "slot"))) (ag (aR (jm "nexts" (bJ "nexts" (nm "arr")) (c8 (ae (.int 1))))) (ag (aR (aq (oi) (aa (nm "arr") (aa (aE .Sub (bj (a9 "vals" (nm "arr"))) (ae (.int 1))) (af))))) (ao))))) l ms=some (.next,l,ms.set i (.inst .arr (aM false ((es++[some (k,v)]).map dz) ((es++[some (k,v)]).map bB) (eh (es++[some (k,v)])) (replicate (es.length+1) (.int (-1))) c nx at_ sh))):=by
 have hi:i<ms.length:=(List.getElem?_eq_some_iff.mp h).1;have dH:∀o,(ms.set i o)[i]?=some o:=λo=>by exact getElem?_set_self hi
 clear hi;have z:es.length<=900:=by omega
 have s1:aR (jm "keys" (bJ "keys" (nm "arr")) (nm "key")) l ms=some (.next,l,ms.set i (.inst .arr (aM false ((es++[some (k,v)]).map dz) (es.map bB) (eh es) (replicate es.length (.int (-1))) c nx at_ sh))):=by simp_arith! [l1,l2,h,z,dz]
 have s2:aR (jm "vals" (bJ "vals" (nm "arr")) (nm "slot")) l (ms.set i (.inst .arr (aM false ((es++[some (k,v)]).map dz) (es.map bB) (eh es) (replicate es.length (.int (-1))) c nx at_ sh)))=some (.next,l,ms.set i (.inst .arr (aM false ((es++[some (k,v)]).map dz) ((es++[some (k,v)]).map bB) (eh es) (replicate es.length (.int (-1))) c nx at_ sh))):=by simp_arith! [l1,l3,dH,z,bB]
 have s3:aR (jm "nexts" (bJ "nexts" (nm "arr")) (c8 (ae (.int 1)))) l (ms.set i (.inst .arr (aM false ((es++[some (k,v)]).map dz) ((es++[some (k,v)]).map bB) (eh es) (replicate es.length (.int (-1))) c nx at_ sh)))=some (.next,l,ms.set i (.inst .arr (aM false ((es++[some (k,v)]).map dz) ((es++[some (k,v)]).map bB) (eh es) (replicate (es.length+1) (.int (-1))) c nx at_ sh))):=by rw[List.replicate_succ'];simp_arith! [l1,dH,z]
 have hb:=wc es hk;rw[hn]at hb;have lk:=Ek (p:=es.length) (dH (.inst .arr (aM false ((es++[some (k,v)]).map dz) ((es++[some (k,v)]).map bB) (eh es) (replicate (es.length+1) (.int (-1))) c nx at_ sh))) hk (by simp[dz]) hb (by simp) (zw _);rw[List.set_set,<-D2 (v:=v) hk hn,show(replicate (es.length+1) (V.int (-1))).set es.length (.int (-1))=replicate (es.length+1) (V.int (-1)) by simp]at lk;have s4:aR (aq (oi) (aa (nm "arr") (aa (aE .Sub (bj (a9 "vals" (nm "arr"))) (ae (.int 1))) (af)))) l (ms.set i (.inst .arr (aM false ((es++[some (k,v)]).map dz) ((es++[some (k,v)]).map bB) (eh es) (replicate (es.length+1) (.int (-1))) c nx at_ sh)))=some (.next,l,ms.set i (.inst .arr (aM false ((es++[some (k,v)]).map dz) ((es++[some (k,v)]).map bB) (eh (es++[some (k,v)])) (replicate (es.length+1) (.int (-1))) c nx at_ sh))):=by
  have e:(((es++[some (k,v)]).map bB).length:Int) -1=es.length:=by simp
  have hx:=dH (.inst .arr (aM false ((es++[some (k,v)]).map dz) ((es++[some (k,v)]).map bB) (eh es) (replicate (es.length+1) (.int (-1))) c nx at_ sh));simp only[aR,aq,ay,aa,af,nm,l1,Option.map_some,aE,bj,a9,hx,dM,ae,cB,e,lk]
 simp_arith! [s1,s2,s3,s4]
theorem JQ{i:Nat}(h:ms[i]?=some a.mo)(ok:dW ms a)(hp:a.pk=true):
 ∃at2:Int,wb [.ref i] ms=some (.none,ms.set i (.inst .arr (aM false ((a.ah.map some).map dz) ((a.ah.map some).map bB) (eh (a.ah.map some)) (replicate a.ah.length (.int (-1))) a.ah.length a.nx at2 a.sh))):=by
 have hi:i<ms.length:=(List.getElem?_eq_some_iff.mp h).1;have dH:∀o,(ms.set i o)[i]?=some o:=λo=>by exact getElem?_set_self hi
 clear hi;have h':ms[i]?=some (.inst .arr (aM true [] (a.es.map bB) [] [] a.ah.length a.nx a.at_ a.sh)):=by rw[h];simp[Ar.mo,Ar.ks,Ar.hs,Ar.ns,hp,Ar.vs]
 have hz:=ok.len;have sy:(a.es.length:Int)<=1000:=by omega
 obtain⟨at2,hr⟩:=y6 (ks:=gF a.es.length) (dH (.inst .arr (aM false (gF a.es.length) (a.es.map bB) [] [] a.ah.length a.nx a.at_ a.sh))) (by intro p e q;have:=ok.pack hp p e.1 e.2 q;obtain⟨m5,_⟩:=List.getElem?_eq_some_iff.mp q;rw[this];simp[gF,DK.val,m5]) hz ok.keys (λk v m=>(ok.vals k v m).mono (bg.set h')) ok.nodup;refine⟨at2,?_⟩;rw[List.set_set]at hr;delta wb zo;refine(cV rfl).trans ?_;simp[ag,aW,ao,bq,aG,aR,bR,cz,dk,aw,ba,aK,bC,aS,cy,bz,dV,dQ,df,aB,dF,aP,a9,b9,bj,dw,c8,aq,bw,dB,aa,af,bI,bE,aU,aO,ay,nm,ae,ax,av.set,bJ,dA,dI,aE,cB,bc,dC,dh,cT,dS,fc,d3,fe,dK,ff,dM,dZ,eu,eH,eI,d9,eg,eA,d0,dJ,d8,eQ,eB,ee,eD,eC,eG,eU,eW,eJ,eM,eN,eX,e8,e9,fb,eO,eY,tJ,gD,h',dH,sy,hr];rfl
theorem DH{xs:List (DK×V)}{k:DK}(h:k∉xs.map (·.1)):hd (xs.map some) k=-1:=by
 rcases lF (es:=xs.map some) (k:=k)with⟨p,v,q,_⟩|q
 .exfalso;have:=mem_of_getElem? q;refine az (mem_map.mp this) λe m e1=>?_;cases e1;exact h (mem_map.mpr ⟨_,m,rfl⟩)
 .exact q.2
theorem rk{α:Type}(xs:List α):(xs.map some).filterMap id=xs:=by rw[filterMap_map];simp
theorem Js{i:Nat}{v:V}{nx at_ sh}(h:ms[i]?=some (.inst .arr (aM false (es.map dz) (es.map bB) (eh es) (replicate es.length (.int (-1))) (es.filterMap id).length nx at_ sh)))(hz:es.length<=8)(kk:∀k v,some (k,v)∈es->de k)(vv:∀k v,some (k,v)∈es->gp ms v)(nd:((es.filterMap id).map (·.1)).Nodup)(hk:de k)(hn:k∉(es.filterMap id).map (·.1))(hh:hd es k=-1):
 ∃je at2,sS [.ref i,k.val,v] ms=some (.none,ms.set i (.inst .arr (aM false ((je++[some (k,v)]).map dz) ((je++[some (k,v)]).map bB) (eh (je++[some (k,v)])) (replicate (je.length+1) (.int (-1))) (es.filterMap id).length nx at2 sh)))/\je.filterMap id=es.filterMap id/\je.length<=7:=by
 have hi:i<ms.length:=(List.getElem?_eq_some_iff.mp h).1;have dH:∀o,(ms.set i o)[i]?=some o:=λo=>by exact getElem?_set_self hi
 clear hi;have h4:(es.filterMap id).length<=4:=Fy nd λe m=>by refine az (mem_filterMap.mp m) λo m e1=>?_;simp at e1;subst e1;exact kk e.1 e.2 m
 delta sS yS;rw[cV (by rfl)];by_cases h8:es.length=8
 .refine cW (y6 h (by intro p e q;simp[q,dz]) hz kk vv nd) λat2 hr=>?_;refine hG ((es.filterMap id).map some) at2 ?_ (rk _) (by simp;omega);have t:=EU (v:=v) (l:=(ax ["arr","key","slot"] [.ref i,k.val,v]).set "used" (.int 8)) (dH (.inst .arr (aM false (((es.filterMap id).map some).map dz) (((es.filterMap id).map some).map bB) (eh ((es.filterMap id).map some)) (replicate ((es.filterMap id).map some).length (.int (-1))) (es.filterMap id).length nx at2 sh))) (by simp;omega) hk (DH hn) rfl rfl rfl;rw[List.set_set]at t;simp only[length_map]at t;have s1:bq "used" (bj (a9 "vals" (nm "arr"))) (ax ["arr","key","slot"] [.ref i,k.val,v]) ms=some (.next,(ax ["arr","key","slot"] [.ref i,k.val,v]).set "used" (.int 8),ms):=by simp_arith! [h,h8]
  have s2:(aG (aB .GtE (nm "used") (aP "size" (nm "arr"))) (ag (aG (aB .Gt (nm "used") (aE .Add (aP "count" (nm "arr")) (aE .RShift (aP "count" (nm "arr")) (ae (.int 5))))) (ag (aR (aq (ng) (aa (nm "arr") (af)))) (ao)) (ny)) (ao)) (ao)) ((ax ["arr","key","slot"] [.ref i,k.val,v]).set "used" (.int 8)) ms=some (.next,(ax ["arr","key","slot"] [.ref i,k.val,v]).set "used" (.int 8),ms.set i (.inst .arr (aM false (((es.filterMap id).map some).map dz) (((es.filterMap id).map some).map bB) (eh ((es.filterMap id).map some)) (replicate (es.filterMap id).length (.int (-1))) (es.filterMap id).length nx at2 sh))):=by
   have c1:aB .Gt (nm "used") (aE .Add (aP "count" (nm "arr")) (aE .RShift (aP "count" (nm "arr")) (ae (.int 5)))) ((ax ["arr","key","slot"] [.ref i,k.val,v]).set "used" (.int 8)) ms=some (true,ms):=by
    generalize hq:(es.filterMap id).length=c at h h4;have hc:c=0\/c=1\/c=2\/c=3\/c=4:=by omega
    clear h4 hq;rcases hc with rfl|rfl|rfl|rfl|rfl<;>simp_arith! [h]
   have c2:aB .GtE (nm "used") (aP "size" (nm "arr")) ((ax ["arr","key","slot"] [.ref i,k.val,v]).set "used" (.int 8)) ms=some (true,ms):=by simp_arith! [h]
   have c3:aR (aq (ng) (aa (nm "arr") (af))) ((ax ["arr","key","slot"] [.ref i,k.val,v]).set "used" (.int 8)) ms=some (.next,(ax ["arr","key","slot"] [.ref i,k.val,v]).set "used" (.int 8),ms.set i (.inst .arr (aM false (((es.filterMap id).map some).map dz) (((es.filterMap id).map some).map bB) (eh ((es.filterMap id).map some)) (replicate (es.filterMap id).length (.int (-1))) (es.filterMap id).length nx at2 sh))):=by have e:(ax ["arr","key","slot"] [.ref i,k.val,v]).set "used" (.int 8) "arr"=some (.ref i):=rfl;simp_arith! [e,Option.map_some,hr]
   simp_arith! [c1,c2,c3]
  rw[show(ax ["arr","key","slot"] ([.ref i,k.val,v]++[]))=ax ["arr","key","slot"] [.ref i,k.val,v]from rfl];rw[ag,s1];simp only;rw[ag,s2];simp only;rw[t];simp only[length_map]
 .refine hG es at_ ?_ rfl (by omega);have h7:(es.length:Int)<8:=by omega
  have t:=EU (v:=v) (l:=(ax ["arr","key","slot"] [.ref i,k.val,v]).set "used" (.int es.length)) h (by omega) hk hh rfl rfl rfl;have s1:bq "used" (bj (a9 "vals" (nm "arr"))) (ax ["arr","key","slot"] [.ref i,k.val,v]) ms=some (.next,(ax ["arr","key","slot"] [.ref i,k.val,v]).set "used" (.int es.length),ms):=by simp_arith! [h]
  have c2:aB .GtE (nm "used") (aP "size" (nm "arr")) ((ax ["arr","key","slot"] [.ref i,k.val,v]).set "used" (.int es.length)) ms=some (false,ms):=by simp[ag,aW,ao,bq,aG,aR,bR,cz,dk,aw,ba,aK,bC,aS,cy,bz,dV,dQ,df,aB,dF,aP,a9,b9,bj,dw,c8,aq,bw,dB,aa,af,bI,bE,aU,aO,ay,nm,ae,ax,av.set,bJ,dA,dI,aE,cB,bc,dC,dh,cT,dS,fc,d3,fe,dK,ff,dM,dZ,eu,eH,eI,d9,eg,eA,d0,dJ,d8,eQ,eB,ee,eD,eC,eG,eU,eW,eJ,eM,eN,eX,e8,e9,fb,eO,eY,h];omega
  rw[show(ax ["arr","key","slot"] ([.ref i,k.val,v]++[]))=ax ["arr","key","slot"] [.ref i,k.val,v]from rfl];rw[aZ s1,aZ ((fG c2).trans bZ),t]
end
section
theorem jJ{α:Type}{xs:List α}{i:Nat}{x:α}(h:xs[i]?=some x):xs.set i x=xs:=by
 apply List.ext_getElem?;intro j;by_cases e:i=j
 .subst e;have hi:i<xs.length:=(List.getElem?_eq_some_iff.mp h).1;simp[hi];exact((List.getElem?_eq_some_iff.mp h).2).symm
 .exact getElem?_set_ne e
theorem HX{i:Nat}{n:Nat}{l:av}{c nx at_ sh}(hn:n<=8)(l1:l "arr"=some (.ref i))(l2:l "key"=some (.int n)):∀(m fuel:Nat) (es:List (Option (DK×V))) (ms:Hp),es.length+m=n->m<fuel->ms[i]?=some (.inst .arr (aM true [] (es.map bB) [] [] c nx at_ sh))->
 ix fuel (aB .Lt (bj (a9 "vals" (nm "arr"))) (nm "key")) (ag (aR (jm "vals" (bJ "vals" (nm "arr")) (dB))) (ao)) l ms=some (.next,l,ms.set i (.inst .arr (aM true [] ((es++replicate m none).map bB) [] [] c nx at_ sh)))
 |0,fuel+1,es,ms,e,_,h=>by
  have e:es.length=n:=by omega
  have h2:=jJ h;simp_arith! [l1,l2,h,e,h2]
 |m+1,fuel+1,es,ms,e,hf,h=>by
  have hi:i<ms.length:=(List.getElem?_eq_some_iff.mp h).1;have dH:∀o,(ms.set i o)[i]?=some o:=λo=>by exact getElem?_set_self hi
  have r:=HX (c:=c) (nx:=nx) (at_:=at_) (sh:=sh) hn l1 l2 m fuel (es++[none]) _ (by simp;omega) (by omega) (dH (.inst .arr (aM true [] ((es++[none]).map bB) [] [] c nx at_ sh)));clear hi;have m5:(es.length:Int)<n:=by omega
  have z:es.length<=900:=by omega
  rw[List.set_set,show es++[none]++replicate m none=es++replicate (m+1) none by simp[List.replicate_succ]]at r;have c1:aB .Lt (bj (a9 "vals" (nm "arr"))) (nm "key") l ms=some (true,ms):=by simp_arith! [l1,l2,h,m5]
  have c2:(ag (aR (jm "vals" (bJ "vals" (nm "arr")) (dB))) (ao)) l ms=some (.next,l,ms.set i (.inst .arr (aM true [] ((es++[none]).map bB) [] [] c nx at_ sh))):=by simp_arith! [l1,h,z,bB]
  simp only[ix,c1,c2];exact r
theorem Jt{i:Nat}{es:List (Option (DK×V))}{n:Nat}{c nx at_ sh}(h:ms[i]?=some (.inst .arr (aM true [] (es.map bB) [] [] c nx at_ sh)))(hn:n<=8)(hl:es.length<=n):
 sR [.ref i,.int n,v] ms=some (.none,ms.set i (.inst .arr (aM true [] ((es++replicate (n-es.length) none++[some (DK.int n,v)]).map bB) [] [] c nx at_ sh))):=by
 have hi:i<ms.length:=(List.getElem?_eq_some_iff.mp h).1;have dH:∀o,(ms.set i o)[i]?=some o:=λo=>by exact getElem?_set_self hi
 clear hi;delta sR yR;refine(cV (by rfl)).trans ?_;rw[aZ (HX (es:=es) hn rfl rfl (n-es.length) 20 ms (by omega) (by omega) h)];have z:es.length+(n-es.length)<=900:=by omega
 simp_arith! [dH,z,bB]
theorem Jl{ms:Hp}{i:Nat}{a:Ar}{k:DK}(h:ms[i]?=some a.mo)(hk:de k):oQ [.ref i,k.val] ms=some (.bool (match k with|.int n=>decide ((a.es.length:Int)<=n)|.str _=>false),ms):=by
 delta oQ yJ;refine(cV rfl).trans ?_;cases k with
 |str s=>simp_arith[ag,aW,ao,bq,aG,aR,bR,cz,dk,aw,ba,aK,bC,aS,cy,bz,dV,dQ,df,aB,dF,aP,a9,b9,bj,dw,c8,aq,bw,dB,aa,af,bI,bE,aU,aO,ay,nm,ae,ax,av.set,bJ,dA,dI,aE,cB,bc,dC,dh,cT,dS,fc,d3,fe,dK,ff,dM,dZ,eu,eH,eI,d9,eg,eA,d0,dJ,d8,eQ,eB,ee,eD,eC,eG,eU,eW,eJ,eM,eN,eX,e8,e9,fb,eO,eY,h,Ar.mo,DK.val,cg,bG,fx]
 |int n=>
  have hn:0<=n/\n<8:=by rcases hk with e|e|e|e<;>cases e<;>omega
  obtain⟨h1,h2⟩:=hn;by_cases q:n<(a.es.length:Int)
  .have q2:¬((a.es.length:Int)<=n):=by omega
   simp_arith[ag,aW,ao,bq,aG,aR,bR,cz,dk,aw,ba,aK,bC,aS,cy,bz,dV,dQ,df,aB,dF,aP,a9,b9,bj,dw,c8,aq,bw,dB,aa,af,bI,bE,aU,aO,ay,nm,ae,ax,av.set,bJ,dA,dI,aE,cB,bc,dC,dh,cT,dS,fc,d3,fe,dK,ff,dM,dZ,eu,eH,eI,d9,eg,eA,d0,dJ,d8,eQ,eB,ee,eD,eC,eG,eU,eW,eJ,eM,eN,eX,e8,e9,fb,eO,eY,h,Ar.mo,DK.val,cg,bG,fx,nr,q,q2]
  .have q2:((a.es.length:Int)<=n):=by omega
   have q3:¬(8<=n):=by omega
   simp_arith[ag,aW,ao,bq,aG,aR,bR,cz,dk,aw,ba,aK,bC,aS,cy,bz,dV,dQ,df,aB,dF,aP,a9,b9,bj,dw,c8,aq,bw,dB,aa,af,bI,bE,aU,aO,ay,nm,ae,ax,av.set,bJ,dA,dI,aE,cB,bc,dC,dh,cT,dS,fc,d3,fe,dK,ff,dM,dZ,eu,eH,eI,d9,eg,eA,d0,dJ,d8,eQ,eB,ee,eD,eC,eG,eU,eW,eJ,eM,eN,eX,e8,e9,fb,eO,eY,h,Ar.mo,DK.val,cg,bG,fx,nr,q,q2,h2,q3]
theorem Fz{ms:Hp}{i:Nat}{k:DK}{l:av}{pk ks vs hs ns c nx at_ sh}(h:ms[i]?=some (.inst .arr (aM pk ks vs hs ns c nx at_ sh)))(l1:l "arr"=some (.ref i))(l2:l "key"=some k.val):
 ∃mn,(ag (dh "count" .Add (nm "arr") (ae (.int 1))) (ag (aG (aK (aw (aO (nm "key") .int)) (aK (aB .GtE (nm "key") (aP "next" (nm "arr"))) (aS))) (ag (bR "next" (nm "arr") (dw (aE .Add (nm "key") (ae (.int 1))) (aq (sY) (af)))) (ao)) (ao)) (ao))) l ms=some (.next,l,ms.set i (.inst .arr (aM pk ks vs hs ns (c+1) mn at_ sh))):=by
 have hi:i<ms.length:=(List.getElem?_eq_some_iff.mp h).1;have dH:∀o,(ms.set i o)[i]?=some o:=λo=>by exact getElem?_set_self hi
 clear hi;have s1:dh "count" .Add (nm "arr") (ae (.int 1)) l ms=some (.next,l,ms.set i (.inst .arr (aM pk ks vs hs ns (c+1) nx at_ sh))):=by simp_arith! [l1,h]
 have hg:∀ms,sY [] ms=some (.int 9223372036854775807,ms):=λ_=>rfl;cases k with
 |str s=>exact⟨nx,by rw[aZ s1];simp_arith! [l1,l2,dH,DK.val]⟩
 |int n=>
  by_cases q:nx<=n
  .exact⟨min (n+1) 9223372036854775807,by rw[aZ s1];simp_arith! [l1,l2,dH,DK.val,q,hg]⟩
  .exact⟨nx,by rw[aZ s1];simp_arith! [l1,l2,dH,DK.val,q]⟩
end
section
theorem rt:∀{es:List (Option (DK×V))} {p q:Nat} {k:DK} {v w:V},((es.filterMap id).map (·.1)).Nodup->es[p]?=some (some (k,v))->es[q]?=some (some (k,w))->p=q
 |[],p,_,_,_,_,_,h,_=>by simp at h
 |o::es,p,q,k,v,w,nd,h1,h2=>by
  have tl:∀{p:Nat} {v:V},es[p]?=some (some (k,v))->k∈(es.filterMap id).map (·.1):=λh=>mem_map.mpr ⟨_,mem_filterMap.mpr ⟨_,mem_of_getElem? h,rfl⟩,rfl⟩;cases o with
  |none=>
   cases p with
   |zero=>simp at h1
   |succ p=>
    cases q with
    |zero=>simp at h2
    |succ q=>simp only[List.getElem?_cons_succ]at h1 h2;rw[rt (es:=es) (by simpa using nd) h1 h2]
  |some e=>
   obtain⟨k',u⟩:=e;simp only[filterMap_cons,id,map_cons,List.nodup_cons]at nd;cases p with
   |zero=>
    simp at h1;obtain⟨rfl,rfl⟩:=h1;cases q with
    |zero=>rfl
    |succ q=>simp only[List.getElem?_cons_succ]at h2;exact absurd (tl h2) nd.1
   |succ p=>
    simp only[List.getElem?_cons_succ]at h1;cases q with
    |zero=>simp at h2;obtain⟨rfl,rfl⟩:=h2;exact absurd (tl h1) nd.1
    |succ q=>simp only[List.getElem?_cons_succ]at h2;rw[rt nd.2 h1 h2]
theorem N'{es:List (Option (DK×V))}{p:Nat}{k:DK}{v w:V}(nd:((es.filterMap id).map (·.1)).Nodup)(h:es[p]?=some (some (k,w))):es.set p (some (k,v))=es.map (Option.map λe=>if e.1=k then(k,v)else e):=by
 apply List.ext_getElem?;intro q;by_cases e:p=q
 .subst e;have hi:p<es.length:=(List.getElem?_eq_some_iff.mp h).1;rw[getElem?_set_self hi,getElem?_map,h];simp
 .rw[getElem?_set_ne e,getElem?_map];cases z:es[q]? with
  |none=>rfl
  |some o=>
   cases o with
   |none=>rfl
   |some x=>
    obtain⟨k',u⟩:=x;have:k'≠k:=by rintro rfl;exact e (rt nd h z)
    simp[this]
theorem Oa{es:List (Option (DK×V))}{p:Nat}{k:DK}{v w:V}(nd:((es.filterMap id).map (·.1)).Nodup)(h:es[p]?=some (some (k,w))):(es.set p (some (k,v))).filterMap id=ku (es.filterMap id) k v:=by have m:(k,w)∈es.filterMap id:=mem_filterMap.mpr ⟨_,mem_of_getElem? h,rfl⟩;have a:(es.filterMap id).any (λe=>e.1=k)=true:=List.any_eq_true.mpr ⟨_,m,by simp⟩;rw[N' nd h,ku,if_pos a,filterMap_map,List.map_filterMap];congr 1
theorem wO(h:es.map (Option.map (·.1))=bu.map (Option.map (·.1)))(k:DK):hd es k=hd bu k:=by
 have e:∀es:List (Option (DK×V)),es.findIdx? (mh k)=(es.map (Option.map (·.1))).findIdx? (λo=>o=some k):=by
  intro es;rw[List.findIdx?_map];congr 1;funext o;cases o with
  |none=>exact rfl
  |some x=>simp[mh]
 unfold hd;rw[e,e,h]
theorem Ob{es:List (Option (DK×V))}{p:Nat}{k:DK}{v w:V}(h:es[p]?=some (some (k,w))):(es.set p (some (k,v))).map (Option.map (·.1))=es.map (Option.map (·.1)):=by refine List.map_set.trans ?_;exact jJ (by simp[h])
theorem LH(h:es.map (Option.map (·.1))=bu.map (Option.map (·.1))):eh es=eh bu:=by unfold eh;rw[wO h,wO h,wO h,wO h]
theorem PT{es bu:List (Option (DK×V))}(h:es.map (Option.map (·.1))=bu.map (Option.map (·.1))):es.map dz=bu.map dz:=by
 have e:∀es:List (Option (DK×V)),es.map dz=(es.map (Option.map (·.1))).map λo=>match o with|some k=>k.val|none=>.none:=by intro es;rw[map_map];congr 1;funext o;cases o<;>rfl
 rw[e,e,h]
theorem dW.mono(ok:dW ms a)(h:bg ms ms'):dW ms' a:=⟨ok.len,ok.keys,λk v m=>(ok.vals k v m).mono h,ok.nodup,ok.pz,ok.pack⟩
theorem MC{i:Nat}(h:ms[i]?=some a.mo)(ok:dW ms a)(hk:de k)(hv:gp ms v)(hn:k∉a.ah.map (·.1)):
 ∃a':Ar,ue [.ref i,k.val,v] ms=some (.none,ms.set i a'.mo)/\dW (ms.set i a'.mo) a'/\a'.ah=a.ah++[(k,v)]/\a'.sh=a.sh:=by
 have hi:i<ms.length:=(List.getElem?_eq_some_iff.mp h).1;have dH:∀o,(ms.set i o)[i]?=some o:=λo=>by exact getElem?_set_self hi
 clear hi;have hh:hd a.es k=-1:=by
  rcases lF (es:=a.es) (k:=k)with⟨p,w,q,_⟩|q
  .exact absurd (mem_map.mpr ⟨(k,w),mem_filterMap.mpr ⟨_,mem_of_getElem? q,rfl⟩,rfl⟩) hn
  .exact q.2
 have nU:((a.ah++[(k,v)]).map (·.1)).Nodup:=by rw[List.map_append,List.nodup_append];refine⟨ok.nodup,by simp,?_⟩;intro x m y m2;simp at m2;clear hh hk;subst m2;rintro rfl;exact hn m
 have done:∀(es:List (Option (DK×V))) (pk:Bool) (nx at_:Int),es.filterMap id=a.ah++[(k,v)]->es.length<=8->(pk=true->es.length<=3)->(pk=true->∀(p:Nat) (k:DK) (v:V),es[p]?=some (some (k,v))->k=DK.int p)->
  dW (ms.set i (Ar.mo ⟨pk,es,nx,at_,a.sh⟩)) ⟨pk,es,nx,at_,a.sh⟩:=by
  intro es pk nx at_ hl h8 h3 hp;have hm:∀k' v',some (k',v')∈es->(k',v')∈a.ah\/(k',v')=(k,v):=by intro k' v' m;have:(k',v')∈es.filterMap id:=mem_filterMap.mpr ⟨_,m,rfl⟩;rw[hl]at this;simpa using this
  refine⟨h8,?_,?_,by rw[show(Ar.mk pk es nx at_ a.sh).ah=es.filterMap id from rfl,hl];exact nU,h3,hp⟩
  .intro k' v' m;rcases hm k' v' m with q|q
   .exact ok.keys _ _ (nk q)
   .clear m;cases q;exact hk
  .intro k' v' m;have kl:bg ms (ms.set i (Ar.mo ⟨pk,es,nx,at_,a.sh⟩)):=bg.set h;rcases hm k' v' m with q|q
   .exact(ok.vals _ _ (nk q)).mono kl
   .clear m;cases q;exact hv.mono kl
 have Ak:∀(aF:Hp) (es:List (Option (DK×V))) (nx at_:Int),(∀o,aF.set i o=ms.set i o)->bg ms aF->aF[i]?=some (.inst .arr (aM false (es.map dz) (es.map bB) (eh es) (replicate es.length (.int (-1))) (es.filterMap id).length nx at_ a.sh))->es.filterMap id=a.ah->es.length<=8->hd es k=-1->
  ∃a':Ar,(ag (aG (aw (aP "is_packed" (nm "arr"))) (ag (aR (aq (sR) (aa (nm "arr") (aa (nm "key") (aa (nm "slot") (af)))))) (ao)) (ag (aR (aq (sS) (aa (nm "arr") (aa (nm "key") (aa (nm "slot") (af)))))) (ao))) (ag (dh "count" .Add (nm "arr") (ae (.int 1))) (ag (aG (aK (aw (aO (nm "key") .int)) (aK (aB .GtE (nm "key") (aP "next" (nm "arr"))) (aS))) (ag (bR "next" (nm "arr") (dw (aE .Add (nm "key") (ae (.int 1))) (aq (sY) (af)))) (ao)) (ao)) (ao)))) (ax ["arr","key","slot"] [.ref i,k.val,v]) aF=some (.next,ax ["arr","key","slot"] [.ref i,k.val,v],ms.set i a'.mo)/\dW (ms.set i a'.mo) a'/\a'.ah=a.ah++[(k,v)]/\a'.sh=a.sh:=by
  intro aF es nx at_ hs kl h1 hl h8 he;have RP:∀o,(aF.set i o)[i]?=some o:=λo=>by rw[hs];exact dH o
  have hm:∀k' v',some (k',v')∈es->some (k',v')∈a.es:=by intro k' v' m;have:(k',v')∈es.filterMap id:=mem_filterMap.mpr ⟨_,m,rfl⟩;rw[hl]at this;exact nk this
  refine fN (Js (v:=v) h1 h8 (λk' v' m=>ok.keys _ _ (hm _ _ m)) (λk' v' m=>(ok.vals _ _ (hm _ _ m)).mono kl) (hl▸ok.nodup) hk (hl▸hn) he) λje at2 e1 e2 e3=>?_;refine cW (Fz (k:=k) (l:=ax ["arr","key","slot"] [.ref i,k.val,v]) (RP (.inst .arr (aM false ((je++[some (k,v)]).map dz) ((je++[some (k,v)]).map bB) (eh (je++[some (k,v)])) (replicate (je.length+1) (.int (-1))) (es.filterMap id).length nx at2 a.sh))) rfl rfl) λmn e4=>?_;have c1:aw (aP "is_packed" (nm "arr")) (ax ["arr","key","slot"] [.ref i,k.val,v]) aF=some (false,aF):=by simp_arith! [h1]
  have gX:(je++[some (k,v)]).filterMap id=a.ah++[(k,v)]:=by rw[filterMap_append,e2,hl];rfl
  refine gO ⟨false,je++[some (k,v)],mn,at2,a.sh⟩ ?_ (done _ false _ _ gX (by simp;omega) (λz4=>Bool.noConfusion z4) (λz4=>Bool.noConfusion z4)) gX rfl;refine(aZ ((fG c1).trans ((aZ (i9 (gY (dN (bo rfl) (dN (bo rfl) (dN (bo rfl) fM))) e1))).trans bZ))).trans ?_;rw[e4,List.set_set,hs];have hc:((es.filterMap id).length:Int)+1=((a.ah++[(k,v)]).length:Int):=by rw[hl];simp
  rw[hc,<-gX];simp[Ar.IC]
 have z8:=ok.len;delta ue A6;rw[cV (by rfl)];rw[show(ax ["arr","key","slot"] ([.ref i,k.val,v]++[]))=ax ["arr","key","slot"] [.ref i,k.val,v]from rfl];cases hp:a.pk with
 |false=>
  have h1:ms[i]?=some (.inst .arr (aM false (a.es.map dz) (a.es.map bB) (eh a.es) (replicate a.es.length (.int (-1))) (a.es.filterMap id).length a.nx a.at_ a.sh)):=by exact h.trans (congrArg some (Ar.IC hp))
  refine az (Ak ms a.es a.nx a.at_ (λ_=>rfl) bg.refl h1 rfl ok.len hh) λa' r1 r2=>?_;refine a0 a' ?_ r2;have c1:aK (aw (aP "is_packed" (nm "arr"))) (aK (ba (aw (aq (oQ) (aa (nm "arr") (aa (nm "key") (af)))))) (aS)) (ax ["arr","key","slot"] [.ref i,k.val,v]) ms=some (false,ms):=by simp_arith! [h1]
  rw[aZ ((fG c1).trans bZ),r1]
 |true=>
  have h3:=ok.pz hp;have ht:=Jl h hk;have h1:ms[i]?=some (.inst .arr (aM true [] (a.es.map bB) [] [] (a.es.filterMap id).length a.nx a.at_ a.sh)):=by exact h.trans (congrArg some (Ar.Uq hp))
  have c0:∀b:Bool,oQ [.ref i,k.val] ms=some (.bool b,ms)->aK (aw (aP "is_packed" (nm "arr"))) (aK (ba (aw (aq (oQ) (aa (nm "arr") (aa (nm "key") (af)))))) (aS)) (ax ["arr","key","slot"] [.ref i,k.val,v]) ms=some (!b,ms):=by intro b hb;cases b<;>simp_arith! [h1,hb]
  by_cases q:∃n:Nat,k=.int n/\a.es.length<=n
  .clear Ak hn nU;clear hh;obtain⟨n,rfl,q⟩:=q;have q2:((a.es.length:Int)<=n):=by omega
   have n3:=hk.Ur;simp only[q2,decide_true]at ht;have c1:=c0 true ht;rw[aZ ((fG c1).trans bZ)];have c2:aw (aP "is_packed" (nm "arr")) (ax ["arr","key","slot"] [.ref i,DK.val (.int n),v]) ms=some (true,ms):=by simp_arith! [h1]
   have e1:=Jt (v:=v) h1 (n:=n) (by omega) q;refine cW (Fz (k:=.int n) (l:=ax ["arr","key","slot"] [.ref i,DK.val (.int n),v]) (dH (.inst .arr (aM true [] ((a.es++replicate (n-a.es.length) none++[some (DK.int n,v)]).map bB) [] [] (a.es.filterMap id).length a.nx a.at_ a.sh))) rfl rfl) λmn e4=>?_;have gX:(a.es++replicate (n-a.es.length) none++[some (DK.int n,v)]).filterMap id=a.ah++[(.int n,v)]:=by
    refine filterMap_append.trans ?_;rw[filterMap_append];have:(replicate (n-a.es.length) (none:Option (DK×V))).filterMap id=[]:=by rw[List.filterMap_eq_nil_iff];intro x m;rw[(List.mem_replicate.mp m).2];rfl
    rw[this];simp[Ar.ah]
   refine gO ⟨true,a.es++replicate (n-a.es.length) none++[some (DK.int n,v)],mn,a.at_,a.sh⟩ ?_ (done _ true _ _ gX (by simp;omega) (by simp;omega) ?_) gX rfl
   .rw[aZ ((iU c2).trans ((aZ (i9 (gY (dN (bo rfl) (dN (bo rfl) (dN (bo rfl) fM))) e1))).trans bZ)),e4,List.set_set];have hc:((a.es.filterMap id).length:Int)+1=((a.ah++[(DK.int n,v)]).length:Int):=by simp[Ar.ah]
    rw[hc,<-gX];exact rfl
   .intro _ p k' v' e;by_cases p1:p<a.es.length
    .rw[List.append_assoc,getElem?_append_left p1]at e;exact ok.pack hp p k' v' e
    .by_cases p2:p<n
     .rw[getElem?_append_left (by simp;omega),List.getElem?_append_right (by omega),List.getElem?_replicate]at e;split at e<;>simp at e
     .rw[List.getElem?_append_right (by simp;omega)]at e;refine cW (List.getElem?_eq_some_iff.mp e) λhz e=>?_;simp at hz e;have:p=n:=by omega
      rw[this];exact e.1.symm
  .have hb:oQ [.ref i,k.val] ms=some (.bool false,ms):=by
    refine ht.trans ?_;cases k with
    |str s=>rfl
    |int n=>
     have Uv:=hk.nn;have:¬((a.es.length:Int)<=n):=by intro z;exact q ⟨n.toNat,by rw[Int.toNat_of_nonneg Uv],by omega⟩
     simp[this]
   have c1:=c0 false hb;refine cW (JQ h ok hp) λat2 e1=>?_;have c2:aB .GtE (bj (a9 "vals" (nm "arr"))) (aP "size" (nm "arr")) (ax ["arr","key","slot"] [.ref i,k.val,v]) ms=some (false,ms):=by simp[ag,aW,ao,bq,aG,aR,bR,cz,dk,aw,ba,aK,bC,aS,cy,bz,dV,dQ,df,aB,dF,aP,a9,b9,bj,dw,c8,aq,bw,dB,aa,af,bI,bE,aU,aO,ay,nm,ae,ax,av.set,bJ,dA,dI,aE,cB,bc,dC,dh,cT,dS,fc,d3,fe,dK,ff,dM,dZ,eu,eH,eI,d9,eg,eA,d0,dJ,d8,eQ,eB,ee,eD,eC,eG,eU,eW,eJ,eM,eN,eX,e8,e9,fb,eO,eY,h1];omega
   refine az (Ak _ (a.ah.map some) a.nx at2 (λo=>by rw[List.set_set]) (bg.set h) (by rw[dH,rk,length_map]) (rk _) (by have:=ok.sA;simp;omega) (DH hn)) λa' r1 r2=>?_;refine a0 a' ?_ r2;rw[aZ ((iU c1).trans ((aZ ((fG c2).trans bZ)).trans ((aZ (i9 (gY (dN (bo rfl) fM) e1))).trans bZ))),r1]
end
section
theorem MG(h:k∈s.map (·.1)):(ku s k v).map (·.1)=s.map (·.1):=by refine az (mem_map.mp h) λx m e=>?_;rw[ku,if_pos (List.any_eq_true.mpr ⟨_,m,by simpa using e⟩),map_map];congr 1;funext x;by_cases z:x.1=k<;>simp[z]
theorem EV{s:List (DK×V)}(h:k∉s.map (·.1)):ku s k v=s++[(k,v)]:=by rw[ku,if_neg];rw[List.any_eq_true];rintro⟨x,m,z⟩;exact h (mem_map.mpr ⟨x,m,by simpa using z⟩)
theorem zH{i:Nat}(h:ms[i]?=some a.mo)(ok:dW ms a)(hk:de k)(hv:gp ms v):
 ∃a':Ar,jN [.ref i,k.val,v] ms=some (.none,ms.set i a'.mo)/\dW (ms.set i a'.mo) a'/\a'.ah=ku a.ah k v/\a'.sh=a.sh:=by
 have hi:i<ms.length:=(List.getElem?_eq_some_iff.mp h).1;have dH:∀o,(ms.set i o)[i]?=some o:=λo=>by exact getElem?_set_self hi
 clear hi;have hf:=zv h ok hk;delta jN A7;rw[cV (by rfl)];rw[show(ax ["self","key","slot"] ([.ref i,k.val,v]++[]))=ax ["self","key","slot"] [.ref i,k.val,v]from rfl];have s1:bq "place" (bw .arr "find" (pe) (nm "self") (aa (nm "key") (af))) (ax ["self","key","slot"] [.ref i,k.val,v]) ms=some (.next,(ax ["self","key","slot"] [.ref i,k.val,v]).set "place" (.int (hd a.es k)),ms):=by simp_arith! [h,hf]
 rw[aZ s1];rcases lF (es:=a.es) (k:=k)with⟨p,w,q,e⟩|⟨q,e⟩
 .rw[e];have np:0<=(p:Int):=by omega
  have hp:p<a.es.length:=(List.getElem?_eq_some_iff.mp q).1;have sC:(p:Int)<a.vs.length:=by rw[nr];omega
  have hs:a.vs.set p v=(a.es.set p (some (k,v))).map bB:=by rw[List.map_set];rfl
  have e2:(aG (aB .GtE (nm "place") (ae (.int 0))) (ag (cT "vals" (bJ "vals" (nm "self")) (nm "place") (nm "slot")) (ao)) (ag (aR (aq (ue) (aa (nm "self") (aa (nm "key") (aa (nm "slot") (af)))))) (ao))) ((ax ["self","key","slot"] [.ref i,k.val,v]).set "place" (.int p)) ms=some (.next,(ax ["self","key","slot"] [.ref i,k.val,v]).set "place" (.int p),ms.set i (.inst .arr (aM a.pk a.ks ((a.es.set p (some (k,v))).map bB) a.hs a.ns a.ah.length a.nx a.at_ a.sh))):=by rw[<-hs];simp_arith! [h,np,sC]
  rw[aZ e2];have HY:=Ob (v:=v) q;have hl:=Oa (v:=v) ok.nodup q;have hm:((a.es.set p (some (k,v))).filterMap id).map (·.1)=a.ah.map (·.1):=by have m:(k,w)∈a.ah:=mem_filterMap.mpr ⟨_,mem_of_getElem? q,rfl⟩;rw[hl];exact MG (mem_map.mpr ⟨_,m,rfl⟩)
  have hlen:(Ar.mk a.pk (a.es.set p (some (k,v))) a.nx a.at_ a.sh).ah.length=a.ah.length:=by have:=congrArg List.length hm;simpa[Ar.ah]using this
  have Uw:(MO.inst .arr (aM a.pk a.ks ((a.es.set p (some (k,v))).map bB) a.hs a.ns a.ah.length a.nx a.at_ a.sh))=Ar.mo ⟨a.pk,a.es.set p (some (k,v)),a.nx,a.at_,a.sh⟩:=by delta Ar.mo;rw[hlen];simp[Ar.ks,Ar.hs,Ar.ns,Ar.vs,PT HY,LH HY]
  have mem:∀k' v',some (k',v')∈a.es.set p (some (k,v))->some (k',v')∈a.es\/(k',v')=(k,v):=by
   intro k' v' m;rcases List.mem_or_eq_of_mem_set m with m|m
   .exact .inl m
   .exact .inr (Option.some.inj m)
  refine gO ⟨a.pk,a.es.set p (some (k,v)),a.nx,a.at_,a.sh⟩ (by rw[Uw,bZ]) ⟨by simpa using ok.len,?_,?_,?_,by simpa using ok.pz,?_⟩ hl rfl
  .intro k' v' m;rcases mem _ _ m with m|m
   .exact ok.keys _ _ m
   .cases m;exact hk
  .intro k' v' m;have kl:bg ms (ms.set i (Ar.mo ⟨a.pk,a.es.set p (some (k,v)),a.nx,a.at_,a.sh⟩)):=bg.set h;rcases mem _ _ m with m|m
   .exact(ok.vals _ _ m).mono kl
   .cases m;exact hv.mono kl
  .exact(show((a.es.set p (some (k,v))).filterMap id).map (·.1)=_ from hm)▸ok.nodup
  .intro pO p' k' v' e';by_cases vn:p=p'
   .subst vn;rw[getElem?_set_self hp]at e';cases e';exact ok.pack pO _ _ _ q
   .rw[getElem?_set_ne vn]at e';exact ok.pack pO _ _ _ e'
 .rw[e];have hn:k∉a.ah.map (·.1):=by intro m;refine az (mem_map.mp m) λx m' bL=>?_;clear e hf hk m s1;subst bL;refine cW (List.getElem?_of_mem (nk m')) λp z=>?_;exact q p x.2 z
  refine fI (MC h ok hk hv hn) λa' r1 r2 r3 r4=>?_;have c1:aB .GtE (nm "place") (ae (.int 0)) ((ax ["self","key","slot"] [.ref i,k.val,v]).set "place" (.int (-1))) ms=some (false,ms):=by simp_arith! [ia]
  refine gO a' ?_ r2 ?_ r4
  .rw[aZ ((fG c1).trans ((aZ (i9 (gY (dN (bo rfl) (dN (bo rfl) (dN (bo rfl) fM))) r1))).trans bZ)),bZ]
  .refine r3.trans ?_;rw[EV hn]
theorem El{i:Nat}{a:Ar}(h:ms[i]?=some a.mo)(ok:dW ms a):∀(m fuel p:Nat) (l:av),a.es.length<=p+m->m<fuel->l "arr"=some (.ref i)->l "place"=some (.int p)->
 ∃(q:Nat) (l':av),ix fuel (aK (aB .Lt (nm "place") (bj (a9 "vals" (nm "arr")))) (aK (ba (aw (aq (jH) (aa (nm "arr") (aa (nm "place") (af)))))) (aS))) (ag (dC "place" .Add (ae (.int 1))) (ao)) l ms=some (.next,l',ms)/\l' "arr"=some (.ref i)/\l' "place"=some (.int q)
 |0,fuel+1,p,l,h1,_,l1,l2=>by
  have hp:¬((p:Int)<a.es.length):=by omega
  exact hG p l (by simp_arith! [l1,l2,h,nr,hp]) l1 l2
 |m+1,fuel+1,p,l,h1,h2,l1,l2=>by
  by_cases hp:(p:Int)<a.es.length
  .have hl:=yL (p:=p) h ok;cases q:a.es[p]?.join.isSome with
   |true=>rw[q]at hl;exact hG p l (by simp_arith! [l1,l2,h,nr,hp,hl]) l1 l2
   |false=>
    rw[q]at hl;refine fN (El h ok m fuel (p+1) (l.set "place" (.int ((p:Int)+1))) (by omega) (by omega) (l1) rfl) λr l' e e1 e2=>?_;refine hG r l' ?_ e1 e2;have c1:aK (aB .Lt (nm "place") (bj (a9 "vals" (nm "arr")))) (aK (ba (aw (aq (jH) (aa (nm "arr") (aa (nm "place") (af)))))) (aS)) l ms=some (true,ms):=by simp_arith! [l1,l2,h,nr,hp,hl]
    have c2:(ag (dC "place" .Add (ae (.int 1))) (ao)) l ms=some (.next,l.set "place" (.int ((p:Int)+1)),ms):=by simp_arith! [l2];try rfl
    simp only[ix,c1,c2];exact e
  .exact hG p l (by simp_arith! [l1,l2,h,nr,hp]) l1 l2
theorem Dh{i:Nat}(h:ms[i]?=some a.mo)(ok:dW ms a)(p:Nat):∃n:Int,oS [.ref i,.int p] ms=some (.int n,ms):=by delta oS yP;rw[cV (by rfl)];have z:=ok.len;refine fN (El h ok 8 20 p (ax ["arr","place"] ([.ref i,.int p]++[])) (by omega) (by omega) rfl rfl) λq l' e e1 e2=>?_;rw[aZ e];exact⟨_,by simp[ag,aW,ao,bq,aG,aR,bR,cz,dk,aw,ba,aK,bC,aS,cy,bz,dV,dQ,df,aB,dF,aP,a9,b9,bj,dw,c8,aq,bw,dB,aa,af,bI,bE,aU,aO,ay,nm,ae,ax,av.set,bJ,dA,dI,aE,cB,bc,dC,dh,cT,dS,fc,d3,fe,dK,ff,dM,dZ,eu,eH,eI,d9,eg,eA,d0,dJ,d8,eQ,eB,ee,eD,eC,eG,eU,eW,eJ,eM,eN,eX,e8,e9,fb,eO,eY,e1,e2,h,Ar.mo];rfl⟩
theorem FA{xs:List V}:at_ (xs++[x]) (-1)=some x:=by
 have e:(-1:Int)+((xs.length:Int)+1)=xs.length:=by omega
 have e2:(1:Int)<=(xs.length:Int)+1:=by omega
 delta at_ mX;simp[e,e2]
theorem dW.pop{pk:Bool}{es:List (Option (DK×V))}{nx at_:Int}{sh:Bool}(ok:dW ms ⟨pk,es++[none],nx,at_,sh⟩):dW ms ⟨pk,es,nx,at_,sh⟩:=by
 refine⟨?_,?_,?_,?_,?_,?_⟩
 .have:=ok.len;simp at this⊢;omega
 .exact λk v m=>ok.keys k v (List.mem_append.mpr (.inl m))
 .exact λk v m=>ok.vals k v (List.mem_append.mpr (.inl m))
 .have:=ok.nodup;simpa[Ar.ah]using this
 .intro hp;have:=ok.pz hp;simp at this⊢;omega
 .intro hp p k v e;refine ok.pack hp p k v ?_;have hl:p<es.length:=(List.getElem?_eq_some_iff.mp e).1;simp only;rw[getElem?_append_left hl];exact e
theorem EW{i:Nat}{pk:Bool}{nx at_:Int}{sh:Bool}(l1:l "arr"=some (.ref i))(l2:l "is_last"=some (.bool true)):∀(m fuel:Nat) (es:List (Option (DK×V))) (ms:Hp),es.length=m->m<fuel->ms[i]?=some (Ar.mo ⟨pk,es,nx,at_,sh⟩)->dW ms ⟨pk,es,nx,at_,sh⟩->
 ∃bu:List (Option (DK×V)),ix fuel (aK (aw (nm "is_last")) (aK (aB .Gt (bj (a9 "vals" (nm "arr"))) (ae (.int 0))) (aK (aw (aO (b9 (a9 "vals" (nm "arr")) (c8 (ae (.int 1)))) (.c .abs))) (aS)))) (ag (aR (jB "vals" (bJ "vals" (nm "arr")))) (ag (aG (ba (aw (aP "is_packed" (nm "arr")))) (ag (aR (jB "keys" (bJ "keys" (nm "arr")))) (ag (aR (jB "nexts" (bJ "nexts" (nm "arr")))) (ao))) (ao)) (ao))) l ms=some (.next,l,ms.set i (Ar.mo ⟨pk,bu,nx,at_,sh⟩))/\bu.filterMap id=es.filterMap id/\dW ms ⟨pk,bu,nx,at_,sh⟩/\bu.length<=es.length
 |0,fuel+1,es,ms,h1,_,h,ok=>by have:es=[]:=List.length_eq_zero_iff.mp h1;clear h1;subst this;refine gO ([]) ?_ rfl ok (le_refl _);rw[jJ h];simp_arith! [l1,l2,h,Ar.vs]
 |m+1,fuel+1,es,ms,h1,h2,h,ok=>by
  have hi:i<ms.length:=(List.getElem?_eq_some_iff.mp h).1;have dH:∀o,(ms.set i o)[i]?=some o:=λo=>by exact getElem?_set_self hi
  clear hi;obtain⟨iE,o,rfl⟩:∃iE o,es=iE++[o]:=by
   rcases List.eq_nil_or_concat es with e|hr
   .clear h ok;subst e;exact Nat.noConfusion h1
   .obtain⟨a,b,e⟩:=hr;exact GJ a b (by simpa using e)
  have h':ms[i]?=some (.inst .arr (aM pk (Ar.ks ⟨pk,iE++[o],nx,at_,sh⟩) (iE.map bB++[bB o]) (Ar.hs ⟨pk,iE++[o],nx,at_,sh⟩) (Ar.ns ⟨pk,iE++[o],nx,at_,sh⟩) (Ar.ah ⟨pk,iE++[o],nx,at_,sh⟩).length nx at_ sh)):=by rw[h];simp[Ar.mo,Ar.vs]
  cases o with
  |some e=>
   obtain⟨k,v⟩:=e;have q:=ok.vals k v (mem_append_right _ mem_cons_self);unfold gp at q;refine gO (iE++[some (k,v)]) ?_ rfl ok (le_refl _);rw[jJ h];have np:(0:Int)<(iE.length:Int)+1:=by omega
   simp_arith! [l1,l2,h',FA,bB,q,np]
  |none=>
   have np:(0:Int)<(iE.length:Int)+1:=by omega
   have c1:aK (aw (nm "is_last")) (aK (aB .Gt (bj (a9 "vals" (nm "arr"))) (ae (.int 0))) (aK (aw (aO (b9 (a9 "vals" (nm "arr")) (c8 (ae (.int 1)))) (.c .abs))) (aS))) l ms=some (true,ms):=by simp_arith! [l1,l2,h',FA,bB,np]
   have c2:(ag (aR (jB "vals" (bJ "vals" (nm "arr")))) (ag (aG (ba (aw (aP "is_packed" (nm "arr")))) (ag (aR (jB "keys" (bJ "keys" (nm "arr")))) (ag (aR (jB "nexts" (bJ "nexts" (nm "arr")))) (ao))) (ao)) (ao))) l ms=some (.next,l,ms.set i (Ar.mo ⟨pk,iE,nx,at_,sh⟩)):=by
    cases pk with
    |true=>simp_arith! [List.getLast?_concat,Ar.ks,Ar.hs,Ar.ns,Ar.mo,Ar.vs,Ar.ah,dH]
    |false=>
     have hk:(Ar.ks ⟨false,iE++[none],nx,at_,sh⟩).getLast?=some .none:=by simp[Ar.ks,dz]
     have hn:(Ar.ns ⟨false,iE++[none],nx,at_,sh⟩).getLast?=some (.int (-1)):=by simp[Ar.ns,List.getLast?_replicate]
     simp_arith! [List.getLast?_concat,dH,Ar.ks,Ar.hs,Ar.ns,Ar.mo,Ar.vs,Ar.ah,Dg]
   refine fI (EW (pk:=pk) (nx:=nx) (at_:=at_) (sh:=sh) l1 l2 m fuel iE (ms.set i (Ar.mo ⟨pk,iE,nx,at_,sh⟩)) (by simpa using h1) (by omega) (dH _) (ok.pop.mono (bg.set h))) λbu r1 r2 r3 r4=>?_;refine gO bu ?_ (by rw[r2];simp) ?_ (by simp;omega)
   .simp only[ix,c1,c2];refine r1.trans ?_;rw[List.set_set]
   .have kl:bg (ms.set i (Ar.mo ⟨pk,iE,nx,at_,sh⟩)) ms:=by have:=bg.set (fs':=aM pk (Ar.ks ⟨pk,iE++[none],nx,at_,sh⟩) (iE.map bB++[bB none]) (Ar.hs ⟨pk,iE++[none],nx,at_,sh⟩) (Ar.ns ⟨pk,iE++[none],nx,at_,sh⟩) (Ar.ah ⟨pk,iE++[none],nx,at_,sh⟩).length nx at_ sh) (dH (Ar.mo ⟨pk,iE,nx,at_,sh⟩));rw[List.set_set,jJ h']at this;exact this
    exact r3.mono kl
end
section
theorem JR{es:List (Option (DK×V))}{p:Nat}{k:DK}{w:V}(nd:((es.filterMap id).map (·.1)).Nodup)(h:es[p]?=some (some (k,w))):es.set p none=es.map (Option.filter λe=>decide (e.1≠k)):=by
 apply List.ext_getElem?;intro q;by_cases e:p=q
 .subst e;have hi:p<es.length:=(List.getElem?_eq_some_iff.mp h).1;rw[getElem?_set_self hi,getElem?_map,h];simp[Option.filter]
 .rw[getElem?_set_ne e,getElem?_map];cases z:es[q]? with
  |none=>rfl
  |some o=>
   cases o with
   |none=>rfl
   |some x=>
    obtain⟨k',u⟩:=x;have:k'≠k:=by rintro rfl;exact e (rt nd h z)
    simp[Option.filter,this]
theorem Oc{es:List (Option (DK×V))}{p:Nat}{k:DK}{w:V}(nd:((es.filterMap id).map (·.1)).Nodup)(h:es[p]?=some (some (k,w))):(es.set p none).filterMap id=lW (es.filterMap id) k:=by rw[JR nd h,lW,filterMap_map,List.filter_filterMap];congr 1
theorem EX:(lW s k).map (·.1)=(s.map (·.1)).filter (λx=>decide (x≠k)):=by rw[lW,List.filter_map];rfl
theorem wQ{es:List (Option (DK×V))}{p:Nat}{k:DK}{w:V}(nd:((es.filterMap id).map (·.1)).Nodup)(h:es[p]?=some (some (k,w)))(k':DK):hd (es.set p none) k'=if k'=k then-1 else hd es k':=by
 have hi:p<es.length:=(List.getElem?_eq_some_iff.mp h).1;rcases lF (es:=es.set p none) (k:=k')with⟨q,v,e1,e2⟩|⟨e1,e2⟩
 .have gB:p≠q:=by clear e2;rintro rfl;rw[getElem?_set_self hi]at e1;cases e1
  rw[getElem?_set_ne gB]at e1;have hk:k'≠k:=by rintro rfl;exact gB (rt nd h e1)
  rw[if_neg hk,e2];rcases lF (es:=es) (k:=k')with⟨r,u,z1,z2⟩|⟨z1,z2⟩
  .rw[z2,rt nd e1 z1]
  .exact absurd e1 (z1 _ _)
 .refine e2.trans ?_;by_cases hk:k'=k
  .rw[if_pos hk]
  .rw[if_neg hk];rcases lF (es:=es) (k:=k')with⟨r,u,z1,z2⟩|⟨z1,z2⟩
   .have gB:p≠r:=by clear z2;rintro rfl;rw[h]at z1;clear e1;clear e2;cases z1;exact hk rfl
    exact absurd (by rw[getElem?_set_ne gB];exact z1) (e1 r u)
   .rw[z2]
theorem LI{es:List (Option (DK×V))}{p:Nat}{k:DK}{w:V}(nd:((es.filterMap id).map (·.1)).Nodup)(h:es[p]?=some (some (k,w)))(hk:de k):eh (es.set p none)=(eh es).set (lA k) (.int (-1)):=by unfold eh;rw[wQ nd h,wQ nd h,wQ nd h,wQ nd h];clear h;rcases hk with rfl|rfl|rfl|rfl<;>exact rfl
theorem Ki{i p:Nat}{pk ks vs hs ns c nx at_ sh}(h:ms[i]?=some (.inst .arr (aM pk ks vs hs ns c nx at_ sh)))(hk:de k)(q:ks[p]?=some k.val)(hh:hs[lA k]?=some (.int p))(hl:ns[p]?=some (.int (-1)))(h8:hs.length=8):
 tn [.ref i,.int p] ms=some (.none,ms.set i (.inst .arr (aM pk ks vs (hs.set (lA k) (.int (-1))) ns c nx at_ sh))):=by
 delta tn zD;refine(cV rfl).trans ?_;have hb:=Gw hk;have Ut:(lA k:Int)<8:=by omega
 obtain⟨Uu,hx⟩:=List.getElem?_eq_some_iff.mp hh;simp_arith! [zt hk,wA hk]
theorem KR{i:Nat}{p:Nat}(h:ms[i]?=some a.mo)(ok:dW ms a):∃a':Ar,rC [.ref i,.int p] ms=some (.none,ms.set i a'.mo)/\dW (ms.set i a'.mo) a'/\a'.ah=a.ah/\a'.sh=a.sh:=by
 have hi:i<ms.length:=(List.getElem?_eq_some_iff.mp h).1;have dH:∀o,(ms.set i o)[i]?=some o:=λo=>by exact getElem?_set_self hi
 clear hi;refine cW (Dh h ok p) λn hn=>?_;delta rC zQ;rw[cV (by rfl)];rw[show(ax ["arr","place"] ([.ref i,.int p]++[]))=ax ["arr","place"] [.ref i,.int p]from rfl];have s1:bq "behind" (aq (oS) (aa (nm "arr") (aa (nm "place") (af)))) (ax ["arr","place"] [.ref i,.int p]) ms=some (.next,(ax ["arr","place"] [.ref i,.int p]).set "behind" (.int n),ms):=by simp_arith! [hn]
 rw[aZ s1];have iX:∃b:Bool,bq "is_last" (df .Eq (nm "place") (aE .Sub (bj (a9 "vals" (nm "arr"))) (ae (.int 1)))) ((ax ["arr","place"] [.ref i,.int p]).set "behind" (.int n)) ms=some (.next,((ax ["arr","place"] [.ref i,.int p]).set "behind" (.int n)).set "is_last" (.bool b),ms):=⟨_,by simp[ag,aW,ao,bq,aG,aR,bR,cz,dk,aw,ba,aK,bC,aS,cy,bz,dV,dQ,df,aB,dF,aP,a9,b9,bj,dw,c8,aq,bw,dB,aa,af,bI,bE,aU,aO,ay,nm,ae,ax,av.set,bJ,dA,dI,aE,cB,bc,dC,dh,cT,dS,fc,d3,fe,dK,ff,dM,dZ,eu,eH,eI,d9,eg,eA,d0,dJ,d8,eQ,eB,ee,eD,eC,eG,eU,eW,eJ,eM,eN,eX,e8,e9,fb,eO,eY,h,Ar.mo];rfl⟩;refine cW iX λb s2=>?_;rw[aZ s2];obtain⟨pk,es,nx,at_,sh⟩:=a;have iX:∃bu:List (Option (DK×V)),ix 20 (aK (aw (nm "is_last")) (aK (aB .Gt (bj (a9 "vals" (nm "arr"))) (ae (.int 0))) (aK (aw (aO (b9 (a9 "vals" (nm "arr")) (c8 (ae (.int 1)))) (.c .abs))) (aS)))) (ag (aR (jB "vals" (bJ "vals" (nm "arr")))) (ag (aG (ba (aw (aP "is_packed" (nm "arr")))) (ag (aR (jB "keys" (bJ "keys" (nm "arr")))) (ag (aR (jB "nexts" (bJ "nexts" (nm "arr")))) (ao))) (ao)) (ao))) (((ax ["arr","place"] [.ref i,.int p]).set "behind" (.int n)).set "is_last" (.bool b)) ms=some (.next,((ax ["arr","place"] [.ref i,.int p]).set "behind" (.int n)).set "is_last" (.bool b),ms.set i (Ar.mo ⟨pk,bu,nx,at_,sh⟩))/\bu.filterMap id=es.filterMap id/\dW ms ⟨pk,bu,nx,at_,sh⟩/\bu.length<=es.length:=by
  have z:=ok.len;simp only at z;cases b with
  |true=>exact EW rfl rfl es.length 20 es ms rfl (by omega) h ok
  |false=>refine gO es ?_ rfl ok (le_refl _);rw[jJ h];simp_arith! [ia]
 refine fI iX λbu s3 r2 r3 r4=>?_;rw[aZ s3];have s4:bq "used" (bj (a9 "vals" (nm "arr"))) (((ax ["arr","place"] [.ref i,.int p]).set "behind" (.int n)).set "is_last" (.bool b)) (ms.set i (Ar.mo ⟨pk,bu,nx,at_,sh⟩))=some (.next,(((ax ["arr","place"] [.ref i,.int p]).set "behind" (.int n)).set "is_last" (.bool b)).set "used" (.int bu.length),ms.set i (Ar.mo ⟨pk,bu,nx,at_,sh⟩)):=by simp_arith! [dH,nr]
 rw[aZ s4];have iX:∃at2:Int,bR "at" (nm "arr") (dw (bz (aB .Eq (aP "at" (nm "arr")) (nm "place")) (nm "behind") (aP "at" (nm "arr"))) (nm "used")) ((((ax ["arr","place"] [.ref i,.int p]).set "behind" (.int n)).set "is_last" (.bool b)).set "used" (.int bu.length)) (ms.set i (Ar.mo ⟨pk,bu,nx,at_,sh⟩))=some (.next,(((ax ["arr","place"] [.ref i,.int p]).set "behind" (.int n)).set "is_last" (.bool b)).set "used" (.int bu.length),ms.set i (Ar.mo ⟨pk,bu,nx,at2,sh⟩)):=by
  by_cases z:at_=p
  .exact kP (min n bu.length) (by simp_arith! [dH,z,Ar.ah,Ar.ks,Ar.hs,Ar.ns,Ar.vs])
  .exact kP (min at_ bu.length) (by simp_arith! [dH,z,Ar.ah,Ar.ks,Ar.hs,Ar.ns,Ar.vs])
 refine cW iX λat2 s5=>?_;rw[aZ s5];have s6:gU (r8 (ph "walks" (nm "arr"))) (λv l=>some (l.set "number" v)) (ny) ((((ax ["arr","place"] [.ref i,.int p]).set "behind" (.int n)).set "is_last" (.bool b)).set "used" (.int bu.length)) (ms.set i (Ar.mo ⟨pk,bu,nx,at2,sh⟩))=some (.next,(((ax ["arr","place"] [.ref i,.int p]).set "behind" (.int n)).set "is_last" (.bool b)).set "used" (.int bu.length),ms.set i (Ar.mo ⟨pk,bu,nx,at2,sh⟩)):=by simp_arith! [dH,kW]
 rw[aZ s6,bZ];refine gO ⟨pk,bu,nx,at2,sh⟩ rfl ?_ r2 rfl;have kc:dW ms ⟨pk,bu,nx,at2,sh⟩:=⟨r3.len,r3.keys,r3.vals,r3.nodup,r3.pz,r3.pack⟩;exact kc.mono (bg.set h)
theorem Kj(h:k∉s.map (·.1)):lW s k=s:=by
 rw[lW,List.filter_eq_self];intro e m;have:e.1≠k:=by rintro rfl;exact h (mem_map.mpr ⟨e,m,rfl⟩)
 simpa using this
theorem LJ{i:Nat}{k:DK}(h:ms[i]?=some a.mo)(ok:dW ms a)(hk:de k):
 ∃(a':Ar) (x:V),rH [.ref i,k.val] ms=some (x,ms.set i a'.mo)/\dW (ms.set i a'.mo) a'/\a'.ah=lW a.ah k/\a'.sh=a.sh:=by
 have hi:i<ms.length:=(List.getElem?_eq_some_iff.mp h).1;have dH:∀o,(ms.set i o)[i]?=some o:=λo=>by exact getElem?_set_self hi
 clear hi;have hf:=zv h ok hk;delta rH Ag;rw[cV (by rfl)];rw[show(ax ["self","key"] ([.ref i,k.val]++[]))=ax ["self","key"] [.ref i,k.val]from rfl];have s1:bq "place" (bw .arr "find" (pe) (nm "self") (aa (nm "key") (af))) (ax ["self","key"] [.ref i,k.val]) ms=some (.next,(ax ["self","key"] [.ref i,k.val]).set "place" (.int (hd a.es k)),ms):=by simp_arith[ag,aW,ao,bq,aG,aR,bR,cz,dk,aw,ba,aK,bC,aS,cy,bz,dV,dQ,df,aB,dF,aP,a9,b9,bj,dw,c8,aq,bw,dB,aa,af,bI,bE,aU,aO,ay,nm,ae,ax,av.set,bJ,dA,dI,aE,cB,bc,dC,dh,cT,dS,fc,d3,fe,dK,ff,dM,dZ,eu,eH,eI,d9,eg,eA,d0,dJ,d8,eQ,eB,ee,eD,eC,eG,eU,eW,eJ,eM,eN,eX,e8,e9,fb,eO,eY,h,Ar.mo,hf]
 rw[aZ s1];rcases lF (es:=a.es) (k:=k)with⟨p,w,q,e⟩|⟨q,e⟩
 .rw[e];have np:¬((p:Int)<0):=by omega
  have IE:0<=(p:Int):=by omega
  have hp:p<a.es.length:=(List.getElem?_eq_some_iff.mp q).1;have sC:(p:Int)<a.es.length:=by omega
  have q2:a.vs[p]?=some w:=by simp[Ar.vs,q,bB]
  have c1:aB .Lt (nm "place") (ae (.int 0)) ((ax ["self","key"] [.ref i,k.val]).set "place" (.int p)) ms=some (false,ms):=by exact rfl
  rw[aZ ((fG c1).trans bZ)];have s3:bq "slot" (b9 (a9 "vals" (nm "self")) (nm "place")) ((ax ["self","key"] [.ref i,k.val]).set "place" (.int p)) ms=some (.next,((ax ["self","key"] [.ref i,k.val]).set "place" (.int p)).set "slot" w,ms):=by simp_arith! [h,j8,q2]
  rw[aZ s3];generalize hL:((ax ["self","key"] [.ref i,k.val]).set "place" (.int p)).set "slot" w=L;have l1:L "self"=some (.ref i):=by rw[<-hL];exact rfl
  have l2:L "place"=some (.int p):=by rw[<-hL];exact rfl
  have l3:L "slot"=some w:=by rw[<-hL];exact rfl
  have Cs:=Oc ok.nodup q;have e1:(a.es.set p none).map dz=(a.es.map dz).set p .none:=by rw[List.map_set];rfl
  have e2:(a.es.set p none).map bB=(a.es.map bB).set p .absent:=by rw[List.map_set];rfl
  have s4:(aG (ba (aw (aP "is_packed" (nm "self")))) (ag (aR (aq (tn) (aa (nm "self") (aa (nm "place") (af))))) (ag (cT "keys" (bJ "keys" (nm "self")) (nm "place") (ae .none)) (ao))) (ao)) L ms=some (.next,L,ms.set i (.inst .arr (aM a.pk (Ar.ks ⟨a.pk,a.es.set p none,a.nx,a.at_,a.sh⟩) a.vs (Ar.hs ⟨a.pk,a.es.set p none,a.nx,a.at_,a.sh⟩) a.ns a.ah.length a.nx a.at_ a.sh))):=by
   cases pO:a.pk with
   |true=>
    have h1:ms[i]?=some (.inst .arr (aM true (Ar.ks ⟨true,a.es.set p none,a.nx,a.at_,a.sh⟩) a.vs (Ar.hs ⟨true,a.es.set p none,a.nx,a.at_,a.sh⟩) a.ns a.ah.length a.nx a.at_ a.sh)):=by rw[h];simp[Ar.mo,Ar.ks,Ar.hs,pO]
    rw[jJ h1];simp_arith[ag,aW,ao,bq,aG,aR,bR,cz,dk,aw,ba,aK,bC,aS,cy,bz,dV,dQ,df,aB,dF,aP,a9,b9,bj,dw,c8,aq,bw,dB,aa,af,bI,bE,aU,aO,ay,nm,ae,ax,av.set,bJ,dA,dI,aE,cB,bc,dC,dh,cT,dS,fc,d3,fe,dK,ff,dM,dZ,eu,eH,eI,d9,eg,eA,d0,dJ,d8,eQ,eB,ee,eD,eC,eG,eU,eW,eJ,eM,eN,eX,e8,e9,fb,eO,eY,l1,h1]
   |false=>
    have h1:ms[i]?=some (.inst .arr (aM false (a.es.map dz) a.vs (eh a.es) a.ns a.ah.length a.nx a.at_ a.sh)):=by rw[h];simp[Ar.mo,Ar.ks,Ar.hs,pO]
    have hb:=wc a.es hk;rw[e]at hb;have u:=Ki (p:=p) h1 hk (by simp[q,dz]) hb (by simp[Ar.ns,pO,hp]) (zw _);rw[<-LI ok.nodup q hk]at u;simp_arith! [l1,l2,h1,u,dH,IE,hp,sC,Ar.ks,Ar.hs,e1]
  rw[aZ s4];have s5:cT "vals" (bJ "vals" (nm "self")) (nm "place") (dB) L (ms.set i (.inst .arr (aM a.pk (Ar.ks ⟨a.pk,a.es.set p none,a.nx,a.at_,a.sh⟩) a.vs (Ar.hs ⟨a.pk,a.es.set p none,a.nx,a.at_,a.sh⟩) a.ns a.ah.length a.nx a.at_ a.sh)))=some (.next,L,ms.set i (.inst .arr (aM a.pk (Ar.ks ⟨a.pk,a.es.set p none,a.nx,a.at_,a.sh⟩) (a.vs.set p .absent) (Ar.hs ⟨a.pk,a.es.set p none,a.nx,a.at_,a.sh⟩) a.ns a.ah.length a.nx a.at_ a.sh))):=by simp_arith! [l1,l2,dH,IE,nr,sC]
  rw[aZ s5];have hc:((Ar.ah ⟨a.pk,a.es.set p none,a.nx,a.at_,a.sh⟩).length:Int)=(a.ah.length:Int) -1:=by
   have hm:(k,w)∈a.ah:=mem_filterMap.mpr ⟨_,mem_of_getElem? q,rfl⟩;have h1:(Ar.ah ⟨a.pk,a.es.set p none,a.nx,a.at_,a.sh⟩).length=((a.ah.map (·.1)).filter (λx=>decide (x≠k))).length:=by rw[<-EX,length_map];exact congrArg List.length Cs
   have h2:(a.ah.map (·.1)).filter (λx=>decide (x≠k))=(a.ah.map (·.1)).erase k:=by rw[List.Nodup.erase_eq_filter ok.nodup];congr 1;funext x;by_cases z:x=k<;>simp[z]
   have h3:k∈a.ah.map (·.1):=mem_map.mpr ⟨_,hm,rfl⟩;have h4:0<(a.ah.map (·.1)).length:=List.length_pos_of_mem h3;rw[h1,h2,List.length_erase_of_mem h3];rw[length_map]at h4⊢;omega
  have s6:dh "count" .Sub (nm "self") (ae (.int 1)) L (ms.set i (.inst .arr (aM a.pk (Ar.ks ⟨a.pk,a.es.set p none,a.nx,a.at_,a.sh⟩) (a.vs.set p .absent) (Ar.hs ⟨a.pk,a.es.set p none,a.nx,a.at_,a.sh⟩) a.ns a.ah.length a.nx a.at_ a.sh)))=some (.next,L,ms.set i (Ar.mo ⟨a.pk,a.es.set p none,a.nx,a.at_,a.sh⟩)):=by
   have hv:a.vs.set p .absent=Ar.vs ⟨a.pk,a.es.set p none,a.nx,a.at_,a.sh⟩:=by delta Ar.vs;exact e2.symm
   have ll:a.ns=Ar.ns ⟨a.pk,a.es.set p none,a.nx,a.at_,a.sh⟩:=by delta Ar.ns;simp
   simp only[Ar.mo];rw[hc,<-hv,<-ll];simp_arith! [l1,dH]
  rw[aZ s6];have Ux:dW ms ⟨a.pk,a.es.set p none,a.nx,a.at_,a.sh⟩:=by
   have mem:∀k' v',some (k',v')∈a.es.set p none->some (k',v')∈a.es:=by
    intro k' v' m;rcases List.mem_or_eq_of_mem_set m with m|m
    .exact m
    .cases m
   refine⟨by simpa using ok.len,λk' v' m=>ok.keys _ _ (mem _ _ m),λk' v' m=>ok.vals _ _ (mem _ _ m),?_,by simpa using ok.pz,?_⟩
   .show((a.es.set p none).filterMap id|>.map (·.1)).Nodup;rw[Cs,EX];exact ok.nodup.filter _
   .intro pO p' k' v' e';by_cases vn:p=p'
    .subst vn;rw[getElem?_set_self hp]at e';cases e'
    .rw[getElem?_set_ne vn]at e';exact ok.pack pO _ _ _ e'
  refine fI (KR (p:=p) (dH (Ar.mo ⟨a.pk,a.es.set p none,a.nx,a.at_,a.sh⟩)) (Ux.mono (bg.set h))) λa' g1 g2 g3 g4=>?_;rw[List.set_set]at g1 g2;have c7:aq (rC) (aa (nm "self") (aa (nm "place") (af))) L (ms.set i (Ar.mo ⟨a.pk,a.es.set p none,a.nx,a.at_,a.sh⟩))=rC [.ref i,.int p] (ms.set i (Ar.mo ⟨a.pk,a.es.set p none,a.nx,a.at_,a.sh⟩)):=by simp_arith[ag,aW,ao,bq,aG,aR,bR,cz,dk,aw,ba,aK,bC,aS,cy,bz,dV,dQ,df,aB,dF,aP,a9,b9,bj,dw,c8,aq,bw,dB,aa,af,bI,bE,aU,aO,ay,nm,ae,ax,av.set,bJ,dA,dI,aE,cB,bc,dC,dh,cT,dS,fc,d3,fe,dK,ff,dM,dZ,eu,eH,eI,d9,eg,eA,d0,dJ,d8,eQ,eB,ee,eD,eC,eG,eU,eW,eJ,eM,eN,eX,e8,e9,fb,eO,eY,l1,l2]
  rw[aZ (i9 (c7.trans g1))];refine kQ a' w ?_ g2 (by rw[g3];exact Cs) g4;simp_arith[ag,aW,ao,bq,aG,aR,bR,cz,dk,aw,ba,aK,bC,aS,cy,bz,dV,dQ,df,aB,dF,aP,a9,b9,bj,dw,c8,aq,bw,dB,aa,af,bI,bE,aU,aO,ay,nm,ae,ax,av.set,bJ,dA,dI,aE,cB,bc,dC,dh,cT,dS,fc,d3,fe,dK,ff,dM,dZ,eu,eH,eI,d9,eg,eA,d0,dJ,d8,eQ,eB,ee,eD,eC,eG,eU,eW,eJ,eM,eN,eX,e8,e9,fb,eO,eY,l3]
 .rw[e];have hn:k∉a.ah.map (·.1):=by intro m;refine az (mem_map.mp m) λx m' bL=>?_;clear e hf hk m s1;subst bL;refine cW (List.getElem?_of_mem (nk m')) λp z=>?_;exact q p x.2 z
  refine kQ a .none ?_ (by rw[jJ h];exact ok) ((Kj hn).symm) rfl;rw[jJ h];simp_arith[ag,aW,ao,bq,aG,aR,bR,cz,dk,aw,ba,aK,bC,aS,cy,bz,dV,dQ,df,aB,dF,aP,a9,b9,bj,dw,c8,aq,bw,dB,aa,af,bI,bE,aU,aO,ay,nm,ae,ax,av.set,bJ,dA,dI,aE,cB,bc,dC,dh,cT,dS,fc,d3,fe,dK,ff,dM,dZ,eu,eH,eI,d9,eg,eA,d0,dJ,d8,eQ,eB,ee,eD,eC,eG,eU,eW,eJ,eM,eN,eX,e8,e9,fb,eO,eY]
end
section
inductive T where
 |none|int(i:Int)|arr(es:List (DK×T))|cell(c:Nat)
noncomputable def T.ctorIdx(x:T):Nat:=@T.casesOn (λ_=>Nat) x 0 (λ_=>1) (λ_=>2) (λ_=>3)
def fW:T->Prop
 |.none=>True
 |.int _=>True
 |_=>False
noncomputable def dp(es:List (DK×T)):List Nat:=es.filterMap λe=>match e.2 with
 |.cell c=>some c
 |_=>none
structure dR(P:T->Prop)(es:List (DK×T)):Prop where
 ok:∀e∈es,de e.1/\P e.2
 nd:(es.map (·.1)).Nodup
 cn:(dp es).Nodup
def LF:T->Prop
 |.arr es=>dR fW es
 |.cell _=>False
 |_=>True
def L1:T->Prop
 |.arr _=>False
 |_=>True
def L2:T->Prop
 |.arr es=>dR L1 es
 |_=>True
def L3:T->Prop
 |.arr es=>dR L2 es
 |.cell _=>False
 |_=>True
inductive ak where
 |zm|zu|zr|A(a:Nat)|B(a:Nat)(k:DK)|R(a:Nat)(k:DK)|C(c:Nat)|rc(c:Nat)|TA(a:Nat)|TB(a:Nat)(k:DK)|TC(c:Nat)|tl(c:Nat)|no
noncomputable def ak.ctorIdx(x:ak):Nat:=@ak.casesOn (λ_=>Nat) x 0 1 2 (λ_=>3) (λ_ _=>4) (λ_ _=>5) (λ_=>6) (λ_=>7) (λ_=>8) (λ_ _=>9) (λ_=>10) (λ_=>11) 12
structure Gh where
 cat:Nat->ak
 ah:Nat->List (DK×V)
 den:Nat->List (DK×T)
 rv:Nat->V
 fq:Nat->T
 ho:Nat->Int
 cs:Nat->T
def AK(x:ak)(k:DK)(c:ak):Prop:=@ak.casesOn (λ_=>Prop) x (c=.zm\/c=.zu) (c=.zm\/c=.zu) False (λa=>c=.zm\/c=.B a k) (λ_ _=>c=.zm) (λ_ _=>False) (λ_=>c=.zm) (λ_=>False) (λa=>c=.TB a k) (λ_ _=>False) (λ_=>False) (λ_=>False) False
def RK(x:ak)(k:DK)(c:ak):Prop:=@ak.casesOn (λ_=>Prop) x (c=.zr) (c=.zr) False (λa=>c=.R a k) (λ_ _=>False) (λ_ _=>False) (λ_=>False) (λ_=>False) (λ_=>False) (λ_ _=>False) (λ_=>False) (λ_=>False) False
noncomputable def CK(c:ak)(x:Nat):ak:=@ak.casesOn (λ_=>ak) c (.rc x) (.rc x) (.rc x) (λ_=>.rc x) (λ_ _=>.rc x) (λ_ _=>.rc x) (λ_=>.rc x) (λ_=>.rc x) (λ_=>.tl x) (λ_ _=>.tl x) (λ_=>.tl x) (λ_=>.rc x) (.rc x)
def VK(r c:ak):Prop:=@ak.casesOn (λ_=>Prop) r False False (c=.zm\/c=.zu) (λ_=>False) (λ_ _=>False) (λa k=>c=.zm\/c=.B a k) (λ_=>False) (λx=>c=.zm\/c=.C x) (λ_=>False) (λ_ _=>False) (λ_=>False) (λx=>c=.TC x) False
def VR(g:Gh)(P:ak->Prop)(v:V)(t:T):Prop:=match t with
 |.none=>v=.none
 |.int i=>v=.int i
 |.arr es=>∃i,v=.ref i/\P (g.cat i)/\g.den i=es
 |.cell _=>False
def SR(g:Gh)(c:ak)(k:DK)(v:V)(t:T):Prop:=match t with
 |.cell x=>∃r,v=.ref r/\g.cat r=CK c x
 |t=>VR g (AK c k) v t\/∃r,v=.ref r/\RK c k (g.cat r)/\g.fq r=t
noncomputable def bX(g:Gh)(c:ak):List (DK×V)->List (DK×T)->Prop
 |[],[]=>True
 |x::xs,e::es=>x.1=e.1/\SR g c x.1 x.2 e.2/\bX g c xs es
 |_,_=>False
@[reducible] def fQ(c:ak):ak:=@ak.casesOn (λ_=>ak) c .zm .zm .zr (λ_=>.zm) (λ_ _=>.zm) (λ_ _=>.zr) (λ_=>.zm) (λx=>.rc x) (λ_=>.zm) (λ_ _=>.zm) (λ_=>.zm) (λx=>.tl x) .no
inductive Sh where
 |no|ar(b:Bool)|rf|ls|dc
noncomputable def Sh.ctorIdx(x:Sh):Nat:=@Sh.casesOn (λ_=>Nat) x 0 (λ_=>1) 2 3 4
@[reducible] def gw(c:ak):Sh:=@ak.casesOn (λ_=>Sh) c (.ar true) (.ar false) .rf (λ_=>.ar false) (λ_ _=>.ar false) (λ_ _=>.rf) (λ_=>.ar false) (λ_=>.rf) (λ_=>.dc) (λ_ _=>.dc) (λ_=>.dc) (λ_=>.ls) .no
def dy(g:Gh)(j:Nat):Prop:=match fQ (g.cat j)with
 |.no=>True
 |.zr=>VR g (VK (g.cat j)) (g.rv j) (g.fq j)/\g.ho j=1
 |.rc x=>VR g (VK (g.cat j)) (g.rv j) (g.cs x)/\2<=g.ho j
 |.tl x=>VR g (VK (g.cat j)) (g.rv j) (g.cs x)
 |_=>bX g (g.cat j) (g.ah j) (g.den j)
def oJ(ms:Hp)(i:Nat)(sh:Bool)(s:List (DK×V)):Prop:=∃a:Ar,ms[i]?=some a.mo/\dW ms a/\a.sh=sh/\a.ah=s
noncomputable def bt(v:V)(h:Int):MO:=.inst .ref [("value",.val v),("holders",.val (.int h)),("types",.lst [])]
def bQ(g:Gh)(ms:Hp)(j:Nat):Prop:=match gw (g.cat j)with
 |.no=>True
 |.ar b=>oJ ms j b (g.ah j)
 |.rf=>ms[j]?=some (bt (g.rv j) (g.ho j))
 |.ls=>ms[j]?=some (.list [g.rv j])
 |.dc=>ms[j]?=some (.dict (g.ah j))
noncomputable def fU(c:ak):Option Nat:=@ak.casesOn (λ_=>Option Nat) c none none none (λ_=>none) (λ_ _=>none) (λ_ _=>none) (λc=>some c) (λc=>some c) (λ_=>none) (λ_ _=>none) (λc=>some c) (λc=>some c) none
structure St(g:Gh)(ms:Hp):Prop where
 rep:∀j,bQ g ms j
 link:∀j,dy g j
 fresh:∀j,ms.length<=j->g.cat j=.no
 uC:∀i j c,g.cat i=.rc c->g.cat j=.rc c->i=j
 uL:∀i j c,g.cat i=.tl c->g.cat j=.tl c->i=j
 cb:∀j c,fU (g.cat j)=some c->c<ms.length
theorem VR.map{P P':ak->Prop}(h:VR g P v t)(m:∀i,P (g.cat i)->P' (g'.cat i)/\g'.den i=g.den i):VR g' P' v t:=by
 cases t with
 |none=>exact h
 |int=>exact h
 |cell=>exact h
 |arr es=>refine aY h λi h1 h2 h3=>?_;exact cA i h1 ((m i h2).1) ((m i h2).2.trans h3)
theorem SR.map(h:SR g c k v t)(ha:∀i,AK c k (g.cat i)->AK c' k (g'.cat i)/\g'.den i=g.den i)(hr:∀i,RK c k (g.cat i)->RK c' k (g'.cat i)/\g'.fq i=g.fq i)(hc:∀i x,g.cat i=CK c x->g'.cat i=CK c' x):SR g' c' k v t:=by
 cases t with
 |cell x=>refine az h λr h1 h2=>?_;exact a0 r h1 (hc r x h2)
 |none=>
  rcases h with h|hr
  .exact .inl (h.map ha)
  .obtain⟨r,h1,h2,h3⟩:=hr;exact .inr ⟨r,h1,(hr r h2).1,(hr r h2).2.trans h3⟩
 |int i=>
  rcases h with h|hr
  .exact .inl (h.map ha)
  .obtain⟨r,h1,h2,h3⟩:=hr;exact .inr ⟨r,h1,(hr r h2).1,(hr r h2).2.trans h3⟩
 |arr es=>
  rcases h with h|hr
  .exact .inl (h.map ha)
  .obtain⟨r,h1,h2,h3⟩:=hr;exact .inr ⟨r,h1,(hr r h2).1,(hr r h2).2.trans h3⟩
theorem bX.l8:∀{xs:List (DK×V)} {es:List (DK×T)},bX g c xs es->(∀k v t,(k,v)∈xs->(k,t)∈es->SR g c k v t->SR g' c' k v t)->bX g' c' xs es
 |[],[],_,_=>trivial
 |x::xs,e::es,h,m=>⟨h.1,m x.1 x.2 e.2 (.head _) (h.1▸(.head _)) h.2.1,bX.l8 h.2.2 λk v t a b=>m k v t (.tail _ a) (.tail _ b)⟩
 |[],_::_,h,_=>h.elim
 |_::_,[],h,_=>h.elim
def jU(c c':ak):Prop:=(∃k,AK c k c'\/RK c k c')\/(∃x,c'=CK c x)\/VK c c'
structure Ct(g g':Gh)(ms ms':Hp)(j:Nat):Prop where
 cat:g'.cat j=g.cat j
 ah:g'.ah j=g.ah j
 den:g'.den j=g.den j
 rv:g'.rv j=g.rv j
 fq:g'.fq j=g.fq j
 ho:g'.ho j=g.ho j
 hp:ms'[j]?=ms[j]?
 cs:∀c,(g.cat j=.rc c\/g.cat j=.tl c)->g'.cs c=g.cs c
 oK:∀i,jU (g.cat j) (g.cat i)->g'.cat i=g.cat i/\g'.den i=g.den i/\g'.fq i=g.fq i
theorem oJ.mono{j:Nat}{sh:Bool}(h:oJ ms j sh s)(e:ms'[j]?=ms[j]?)(kl:bg ms ms'):oJ ms' j sh s:=by refine aY h λa h1 h2 h3=>?_;exact cA a (e.trans h1) (h2.mono kl) h3
theorem bQ.of{j:Nat}(h:bQ g ms j)(e:gw (g.cat j)=gw (g'.cat j))(hl:g'.ah j=g.ah j)(hr:g'.rv j=g.rv j)(hh:g'.ho j=g.ho j)(hp:ms'[j]?=ms[j]?)(kl:bg ms ms'):bQ g' ms' j:=by
 unfold bQ at*;rw[<-e,hl,hr,hh,hp];revert h;cases gw (g.cat j)with
 |ar b=>exact λh=>h.mono hp kl
 |_=>exact id
theorem bQ.nV{j:Nat}(h:bQ g ms j)(hc:g'.cat j=g.cat j)(hl:g'.ah j=g.ah j)(hr:g'.rv j=g.rv j)(hh:g'.ho j=g.ho j)(hp:ms'[j]?=ms[j]?)(kl:bg ms ms'):bQ g' ms' j:=h.of (by rw[hc]) hl hr hh hp kl
theorem Al{x:Nat}(e:fQ c=.rc x):c=.rc x:=by cases c<;>first|exact e|exact ak.noConfusion e
theorem Am{x:Nat}(e:fQ c=.tl x):c=.tl x:=by cases c<;>first|exact e|exact ak.noConfusion e
theorem dy.of{j:Nat}(h:dy g j)(e:fQ (g.cat j)=fQ (g'.cat j))(hE:bX g (g.cat j) (g.ah j) (g.den j)->bX g' (g'.cat j) (g'.ah j) (g'.den j))(hV:∀t,VR g (VK (g.cat j)) (g.rv j) t->VR g' (VK (g'.cat j)) (g'.rv j) t)(hd:g'.fq j=g.fq j)(hh:g'.ho j=g.ho j)
 (hc:∀x,g.cat j=.rc x\/g.cat j=.tl x->g'.cs x=g.cs x):dy g' j:=by
 unfold dy at*;rw[<-e,hd,hh];cases q:fQ (g.cat j)with
 |no=>trivial
 |zr=>rw[q]at h;exact⟨hV _ h.1,h.2⟩
 |rc x=>rw[q]at h;exact⟨(hc x (.inl (Al q))).symm▸hV _ h.1,h.2⟩
 |tl x=>rw[q]at h;show VR g' _ _ (g'.cs x);rw[hc x (.inr (Am q))];exact hV _ h
 |_=>rw[q]at h;exact hE h
theorem dy.nV{j:Nat}(h:dy g j)(u:Ct g g' ms ms' j):dy g' j:=by
 have oK:=u.oK;refine h.of (by rw[u.cat]) (λh=>?_) (λt h=>?_) u.fq u.ho u.cs
 .rw[u.cat,u.ah,u.den];refine h.l8 λk v t _ _ s=>s.map ?_ ?_ ?_
  .intro i q;refine fm (oK i (.inl ⟨k,.inl q⟩)) λe1 e2 e3=>?_;exact⟨by rw[e1];exact q,e2⟩
  .intro i q;refine fm (oK i (.inl ⟨k,.inr q⟩)) λe1 e2 e3=>?_;exact⟨by rw[e1];exact q,e3⟩
  .intro i x q;refine fm (oK i (.inr (.inl ⟨x,q⟩))) λe1 e2 e3=>?_;exact e1.trans q
 .rw[u.cat,u.rv];refine h.map ?_;intro i q;refine fm (oK i (.inr (.inr q))) λe1 e2 e3=>?_;exact⟨by rw[e1];exact q,e2⟩
theorem St.step{ms ms':Hp}(S:Nat->Prop)(st:St g ms)(kl:bg ms ms')(h:∀j,S j\/g'.cat j=.no\/Ct g g' ms ms' j)(hS:∀j,S j->bQ g' ms' j/\dy g' j)(hf:∀j,ms'.length<=j->g'.cat j=.no)
 (hC:∀i c,g'.cat i=.rc c->g.cat i=.rc c\/∀j,g'.cat j=.rc c->j=i)(hL:∀i c,g'.cat i=.tl c->g.cat i=.tl c\/∀j,g'.cat j=.tl c->j=i)
 (hl:ms.length<=ms'.length)(hb:∀j c,fU (g'.cat j)=some c->fU (g.cat j)=some c\/c<ms'.length):St g' ms':=by
 refine⟨?_,?_,hf,?_,?_,λj c e=>(hb j c e).elim (λe=>lt_of_lt_of_le (st.cb j c e) hl) id⟩
 .intro j;rcases h j with h|h|h
  .exact(hS j h).1
  .unfold bQ;rw[h];trivial
  .exact(st.rep j).nV h.cat h.ah h.rv h.ho h.hp kl
 .intro j;rcases h j with h|h|h
  .exact(hS j h).2
  .unfold dy;rw[h];trivial
  .exact(st.link j).nV h
 .intro i j c h1 h2;rcases hC i c h1 with q|q
  .rcases hC j c h2 with r|r
   .exact st.uC i j c q r
   .exact r i h1
  .exact(q j h2).symm
 .intro i j c h1 h2;rcases hL i c h1 with q|q
  .rcases hL j c h2 with r|r
   .exact st.uL i j c q r
   .exact r i h1
  .exact(q j h2).symm
theorem St.mN{ms ms':Hp}(S:Nat->Prop)(st:St g ms)(kl:bg ms ms')(hl:ms.length<=ms'.length)(HZ:∀j,g'.cat j=g.cat j\/g'.cat j=.no\/(fU (g'.cat j)=none/\j<ms'.length))(h:∀j,S j\/g'.cat j=.no\/Ct g g' ms ms' j)(hS:∀j,S j->bQ g' ms' j/\dy g' j):St g' ms':=by
 have ne:∀i c,fU (g'.cat i)=some c->g'.cat i=g.cat i:=by
  intro i c e;rcases HZ i with q|q|q
  .exact q
  .rw[q]at e;cases e
  .rw[q.1]at e;cases e
 refine st.step S kl h hS ?_ ?_ ?_ hl ?_
 .intro j hj;rcases HZ j with q|q|q
  .rw[q];exact st.fresh j (le_trans hl hj)
  .exact q
  .exact absurd q.2 (Nat.not_lt.mpr hj)
 .intro i c e;exact .inl (by rw[<-ne i c (by rw[e];rfl)];exact e)
 .intro i c e;exact .inl (by rw[<-ne i c (by rw[e];rfl)];exact e)
 .intro j c e;exact .inl (by rw[<-ne j c e];exact e)
structure Mv(F:ak->Prop)(g g':Gh)(ms ms':Hp):Prop where
 len:ms.length<=ms'.length
 kl:bg ms ms'
 no:∀j,j<ms.length->g.cat j=.no->g'.cat j=.no/\ms'[j]?=ms[j]?
 zu:∀j,g.cat j=.zu->(g'.cat j=.zm\/g'.cat j=.zu)/\g'.den j=g.den j/\g'.ah j=g.ah j
 gi:∀j,g.cat j≠.zu->g.cat j≠.no->¬F (g.cat j)->g'.cat j=g.cat j/\g'.den j=g.den j/\g'.ah j=g.ah j
 cs:(∀c,LF (g.cs c))->∀c,LF (g'.cs c)
theorem Mv.refl{F:ak->Prop}:Mv F g g ms ms:=⟨le_refl _,bg.refl,λ_ _ h=>⟨h,rfl⟩,λ_ h=>⟨.inr h,rfl,rfl⟩,λ_ _ _ _=>⟨rfl,rfl,rfl⟩,λh=>h⟩
theorem Mv.trans{F:ak->Prop}(hz:¬F .zm)(a:Mv F g1 g2 m1 m2)(b:Mv F g2 g3 m2 m3):Mv F g1 g3 m1 m3:=by
 refine⟨le_trans a.len b.len,a.kl.trans b.kl,?_,?_,?_,λh=>b.cs (a.cs h)⟩
 .intro j hj h;refine bT (a.no j hj h) λh1 h2=>?_;refine bT (b.no j (lt_of_lt_of_le hj a.len) h1) λh3 h4=>?_;exact⟨h3,h4.trans h2⟩
 .intro j h;refine fm (a.zu j h) λh1 h2 h3=>?_;rcases h1 with h1|h1
  .refine fm (b.gi j (by rw[h1];intro e;exact ak.noConfusion e) (by rw[h1];intro e;exact ak.noConfusion e) (h1▸hz)) λe1 e2 e3=>?_;exact⟨.inl (e1.trans h1),e2.trans h2,e3.trans h3⟩
  .refine fm (b.zu j h1) λe1 e2 e3=>?_;exact⟨e1,e2.trans h2,e3.trans h3⟩
 .intro j h1 h2 h3;refine fm (a.gi j h1 h2 h3) λe1 e2 e3=>?_;refine fm (b.gi j (e1▸h1) (e1▸h2) (e1▸h3)) λf1 f2 f3=>?_;exact⟨f1.trans e1,f2.trans e2,f3.trans e3⟩
theorem VR.le{F:ak->Prop}(a:Mv F g g' ms ms'){P:ak->Prop}(hP:∀c,P c->c≠.zu/\c≠.no/\¬F c)(h:VR g P v t):VR g' P v t:=h.map λi q=>by refine fm (hP _ q) λh1 h2 h3=>?_;refine fm (a.gi i h1 h2 h3) λe1 e2 _=>?_;exact⟨by rw[e1];exact q,e2⟩
end
section
noncomputable def Gh.re(g:Gh)(aI:Nat->ak):Gh:={g with cat:=aI}
theorem bQ.shape{aI:Nat->ak}{j:Nat}(h:bQ g ms j)(e:gw (g.cat j)=gw (aI j))(hp:ms'[j]?=ms[j]?)(kl:bg ms ms'):bQ (g.re aI) ms' j:=h.of e rfl rfl rfl hp kl
theorem St.Hl{aI:Nat->ak}{ms ms':Hp}(st:St g ms)(hl:ms.length<=ms'.length)(pP:∀j,aI j=.no\/fQ (g.cat j)=fQ (aI j))(hb:∀j c,fU (aI j)=some c->fU (g.cat j)=some c\/c<ms'.length)(hr:∀j,bQ (g.re aI) ms' j)
 (hk:∀j,aI j≠.no->(∀i k,AK (g.cat j) k (g.cat i)->AK (aI j) k (aI i))/\(∀i k,RK (g.cat j) k (g.cat i)->RK (aI j) k (aI i))/\(∀i x,g.cat i=CK (g.cat j) x->aI i=CK (aI j) x)/\(∀i,VK (g.cat j) (g.cat i)->VK (aI j) (aI i))):St (g.re aI) ms':=by
 have back:∀j c,fQ (aI j)=c->c≠.no->c≠.zm->c≠.zr->fQ (g.cat j)=c:=by
  intro j c e h1 h2 h3;rcases pP j with q|q
  .rw[q]at e;exact absurd e.symm h1
  .rw[q];exact e
 refine⟨hr,?_,?_,?_,?_,λj c e=>(hb j c e).elim (λe=>lt_of_lt_of_le (st.cb j c e) hl) id⟩
 .intro j;by_cases hn:aI j=.no
  .unfold dy;rw[show(g.re aI).cat j=aI j from rfl,hn];trivial
  refine Hw (hk j hn) λhA hR hC hV=>?_;have lk:=(pP j).resolve_left hn;have h:=st.link j;exact h.of lk (λh=>h.l8 λk v t _ _ s=>s.map (λi q=>⟨hA i k q,rfl⟩) (λi q=>⟨hR i k q,rfl⟩) (λi x q=>hC i x q)) (λt h=>h.map λi q=>⟨hV i q,rfl⟩) rfl rfl λ_ _=>rfl
 .intro j hj;have:=st.fresh j (le_trans hl hj);rcases pP j with q|q
  .exact q
  .rw[this]at q;show aI j=_;revert q;cases aI j<;>(first|exact λz4=>ak.noConfusion z4|exact λz4=>z4)
 .intro i j c h1 h2;refine st.uC i j c (Al (back i _ ?_ (λz4=>ak.noConfusion z4) (λz4=>ak.noConfusion z4) (λz4=>ak.noConfusion z4))) (Al (back j _ ?_ (λz4=>ak.noConfusion z4) (λz4=>ak.noConfusion z4) (λz4=>ak.noConfusion z4)))
  .rw[show aI i=_ from h1]
  .rw[show aI j=_ from h2]
 .intro i j c h1 h2;refine st.uL i j c (Am (back i _ ?_ (λz4=>ak.noConfusion z4) (λz4=>ak.noConfusion z4) (λz4=>ak.noConfusion z4))) (Am (back j _ ?_ (λz4=>ak.noConfusion z4) (λz4=>ak.noConfusion z4) (λz4=>ak.noConfusion z4)))
  .rw[show aI i=_ from h1]
  .rw[show aI j=_ from h2]
theorem bQ.no{j:Nat}(h:g.cat j=.no):bQ g ms j:=by unfold bQ;rw[h];trivial
theorem St.uQ(f:ak->ak)(st:St g ms)(h:∀c,f c=.no\/(fQ c=fQ (f c)/\gw c=gw (f c)/\(∀k c1,AK c k c1->AK (f c) k (f c1))/\(∀k c1,RK c k c1->RK (f c) k (f c1))/\(∀x,f (CK c x)=CK (f c) x)/\(∀c1,VK c c1->VK (f c) (f c1))))
 (hb:∀c x,fU (f c)=some x->fU c=some x):St (g.re λj=>f (g.cat j)) ms:=by
 refine st.Hl (le_refl _) ?_ (λj c e=>.inl (hb _ _ e)) ?_ ?_
 .intro j;rcases h (g.cat j)with q|q
  .exact .inl q
  .exact .inr q.1
 .intro j;rcases h (g.cat j)with q|q
  .exact bQ.no q
  .exact(st.rep j).shape q.2.1 rfl bg.refl
 .intro j hj;rcases h (g.cat j)with q|hr
  .exact absurd q hj
  .refine Bi hr λ_ _ q1 q2 q3 q4=>?_;exact⟨λi k e=>q1 _ _ e,λi k e=>q2 _ _ e,λi x e=>by rw[e];exact q3 x,λi e=>q4 _ e⟩
noncomputable def m6(a:Nat)(c:ak):ak:=@ak.casesOn (λ_=>ak) c .zm .zu .zr (λb=>if b=a then .zu else .A b) (λb k=>if b=a then .zu else .B b k) (λb k=>if b=a then .zr else .R b k) (λa=>.C a) (λa=>.rc a) (λa=>.TA a) (λa k=>.TB a k) (λa=>.TC a) (λa=>.tl a) .no
noncomputable def pQ(a:Nat)(c:ak):ak:=@ak.casesOn (λ_=>ak) c .zm .zu .zr (λb=>.A b) (λb k=>.B b k) (λb k=>.R b k) (λb=>.C b) (λb=>.rc b) (λb=>if b=4 then .TA a else if b=a then .no else .TA b) (λb k=>if b=4 then .TB a k else if b=a then .no else .TB b k) (λb=>.TC b) (λb=>.tl b) .no
theorem ik{f:ak->ak}{c:ak}(e:f c=c)(hA:∀k c1,AK c k c1->f c1=c1)(hR:∀k c1,RK c k c1->f c1=c1)(hC:∀x,f (CK c x)=CK c x)(hV:∀c1,VK c c1->f c1=c1):f c=.no\/(fQ c=fQ (f c)/\gw c=gw (f c)/\(∀k c1,AK c k c1->AK (f c) k (f c1))/\(∀k c1,RK c k c1->RK (f c) k (f c1))/\(∀x,f (CK c x)=CK (f c) x)/\(∀c1,VK c c1->VK (f c) (f c1))):=by
 rw[e];refine .inr ⟨rfl,rfl,λk c1 h=>?_,λk c1 h=>?_,hC,λc1 h=>?_⟩
 .rw[hA k c1 h];exact h
 .rw[hR k c1 h];exact h
 .rw[hV c1 h];exact h
theorem uk{f:ak->ak}{c d:ak}(e:f c=d)(h1:fQ c=fQ d)(h2:gw c=gw d)(hA:∀k c1,AK c k c1->AK d k (f c1))(hR:∀k c1,RK c k c1->RK d k (f c1))(hC:∀x,f (CK c x)=CK d x)(hV:∀c1,VK c c1->VK d (f c1)):f c=.no\/(fQ c=fQ (f c)/\gw c=gw (f c)/\(∀k c1,AK c k c1->AK (f c) k (f c1))/\(∀k c1,RK c k c1->RK (f c) k (f c1))/\(∀x,f (CK c x)=CK (f c) x)/\(∀c1,VK c c1->VK (f c) (f c1))):=by rw[e];exact .inr ⟨h1,h2,hA,hR,hC,hV⟩
theorem mq{f:ak->ak}{c1 x y:ak}(h:c1=x\/c1=y)(h1:f x=x)(h2:f y=y):f c1=c1:=h.elim (λe=>e▸h1) λe=>e▸h2
theorem kD{f:ak->ak}{c1 x:ak}(h:c1=x)(h1:f x=x):f c1=c1:=h▸h1
theorem IF{f:ak->ak}{c1 x y u v:ak}(h:c1=x\/c1=y)(h1:f x=u)(h2:f y=v):f c1=u\/f c1=v:=h.imp (λe=>(congrArg f e).trans h1) λe=>(congrArg f e).trans h2
theorem Cu{f:ak->ak}{c1 x u:ak}(h:c1=x)(h1:f x=u):f c1=u:=h▸h1
theorem St.freeze(a:Nat)(st:St g ms):St (g.re λj=>m6 a (g.cat j)) ms:=by
 refine st.uQ (m6 a) (λc=>?_) (λc x e=>?_)
 .cases c with
  |zm=>exact ik rfl (λ_ _ h=>mq h rfl rfl) (λ_ _ h=>kD h rfl) (λ_=>rfl) λ_ h=>h.elim
  |zu=>exact ik rfl (λ_ _ h=>mq h rfl rfl) (λ_ _ h=>kD h rfl) (λ_=>rfl) λ_ h=>h.elim
  |zr=>exact ik rfl (λ_ _ h=>h.elim) (λ_ _ h=>h.elim) (λ_=>rfl) λ_ h=>mq h rfl rfl
  |A b=>
   by_cases q:b=a
   .exact uk (d:=.zu) (if_pos q) rfl rfl (λ_ _ h=>IF h rfl (if_pos q)) (λ_ _ h=>Cu h (if_pos q)) (λ_=>rfl) λ_ h=>h.elim
   .exact ik (if_neg q) (λ_ _ h=>mq h rfl (if_neg q)) (λ_ _ h=>kD h (if_neg q)) (λ_=>rfl) λ_ h=>h.elim
  |B b k=>
   by_cases q:b=a
   .exact uk (d:=.zu) (if_pos q) rfl rfl (λ_ _ h=>.inl (Cu h rfl)) (λ_ _ h=>h.elim) (λ_=>rfl) λ_ h=>h.elim
   .exact ik (if_neg q) (λ_ _ h=>kD h rfl) (λ_ _ h=>h.elim) (λ_=>rfl) λ_ h=>h.elim
  |R b k=>
   by_cases q:b=a
   .exact uk (d:=.zr) (if_pos q) rfl rfl (λ_ _ h=>h.elim) (λ_ _ h=>h.elim) (λ_=>rfl) λ_ h=>IF h rfl (if_pos q)
   .exact ik (if_neg q) (λ_ _ h=>h.elim) (λ_ _ h=>h.elim) (λ_=>rfl) λ_ h=>mq h rfl (if_neg q)
  |C b=>exact ik rfl (λ_ _ h=>kD h rfl) (λ_ _ h=>h.elim) (λ_=>rfl) λ_ h=>h.elim
  |rc b=>exact ik rfl (λ_ _ h=>h.elim) (λ_ _ h=>h.elim) (λ_=>rfl) λ_ h=>mq h rfl rfl
  |TA b=>exact ik rfl (λ_ _ h=>kD h rfl) (λ_ _ h=>h.elim) (λ_=>rfl) λ_ h=>h.elim
  |tl b=>exact ik rfl (λ_ _ h=>h.elim) (λ_ _ h=>h.elim) (λ_=>rfl) λ_ h=>kD h rfl
  |_=>exact ik rfl (λ_ _ h=>h.elim) (λ_ _ h=>h.elim) (λ_=>rfl) λ_ h=>h.elim
 .cases c with
  |A b=>
   have:fU (m6 a (.A b))=none:=by
    by_cases q:b=a
    .exact(congrArg fU (if_pos q)).trans rfl
    .exact(congrArg fU (if_neg q)).trans rfl
   exact this.symm.trans e
  |B b k=>
   have:fU (m6 a (.B b k))=none:=by
    by_cases q:b=a
    .exact(congrArg fU (if_pos q)).trans rfl
    .exact(congrArg fU (if_neg q)).trans rfl
   exact this.symm.trans e
  |R b k=>
   have:fU (m6 a (.R b k))=none:=by
    by_cases q:b=a
    .exact(congrArg fU (if_pos q)).trans rfl
    .exact(congrArg fU (if_neg q)).trans rfl
   exact this.symm.trans e
  |_=>exact e
theorem St.S6(a:Nat)(st:St g ms):St (g.re λj=>pQ a (g.cat j)) ms:=by
 refine st.uQ (pQ a) (λc=>?_) (λc x e=>?_)
 .cases c with
  |zm=>exact ik rfl (λ_ _ h=>mq h rfl rfl) (λ_ _ h=>kD h rfl) (λ_=>rfl) λ_ h=>h.elim
  |zu=>exact ik rfl (λ_ _ h=>mq h rfl rfl) (λ_ _ h=>kD h rfl) (λ_=>rfl) λ_ h=>h.elim
  |zr=>exact ik rfl (λ_ _ h=>h.elim) (λ_ _ h=>h.elim) (λ_=>rfl) λ_ h=>mq h rfl rfl
  |A b=>exact ik rfl (λ_ _ h=>mq h rfl rfl) (λ_ _ h=>kD h rfl) (λ_=>rfl) λ_ h=>h.elim
  |B b k=>exact ik rfl (λ_ _ h=>kD h rfl) (λ_ _ h=>h.elim) (λ_=>rfl) λ_ h=>h.elim
  |R b k=>exact ik rfl (λ_ _ h=>h.elim) (λ_ _ h=>h.elim) (λ_=>rfl) λ_ h=>mq h rfl rfl
  |C b=>exact ik rfl (λ_ _ h=>kD h rfl) (λ_ _ h=>h.elim) (λ_=>rfl) λ_ h=>h.elim
  |rc b=>exact ik rfl (λ_ _ h=>h.elim) (λ_ _ h=>h.elim) (λ_=>rfl) λ_ h=>mq h rfl rfl
  |tl b=>exact ik rfl (λ_ _ h=>h.elim) (λ_ _ h=>h.elim) (λ_=>rfl) λ_ h=>kD h rfl
  |TA b=>
   by_cases q:b=4
   .exact uk (d:=.TA a) (if_pos q) rfl rfl (λ_ _ h=>Cu h (if_pos q)) (λ_ _ h=>h.elim) (λ_=>rfl) λ_ h=>h.elim
   by_cases p:b=a
   .exact .inl ((if_neg q).trans (if_pos p))
   .exact ik ((if_neg q).trans (if_neg p)) (λ_ _ h=>kD h ((if_neg q).trans (if_neg p))) (λ_ _ h=>h.elim) (λ_=>rfl) λ_ h=>h.elim
  |TB b k=>
   by_cases q:b=4
   .exact uk (d:=.TB a k) (if_pos q) rfl rfl (λ_ _ h=>h.elim) (λ_ _ h=>h.elim) (λ_=>rfl) λ_ h=>h.elim
   by_cases p:b=a
   .exact .inl ((if_neg q).trans (if_pos p))
   .exact ik ((if_neg q).trans (if_neg p)) (λ_ _ h=>h.elim) (λ_ _ h=>h.elim) (λ_=>rfl) λ_ h=>h.elim
  |_=>exact ik rfl (λ_ _ h=>h.elim) (λ_ _ h=>h.elim) (λ_=>rfl) λ_ h=>h.elim
 .cases c with
  |TA b=>
   have:fU (pQ a (.TA b))=none:=by
    by_cases q:b=4
    .exact(congrArg fU (if_pos q)).trans rfl
    by_cases p:b=a
    .exact(congrArg fU ((if_neg q).trans (if_pos p))).trans rfl
    .exact(congrArg fU ((if_neg q).trans (if_neg p))).trans rfl
   exact this.symm.trans e
  |TB b k=>
   have:fU (pQ a (.TB b k))=none:=by
    by_cases q:b=4
    .exact(congrArg fU (if_pos q)).trans rfl
    by_cases p:b=a
    .exact(congrArg fU ((if_neg q).trans (if_pos p))).trans rfl
    .exact(congrArg fU ((if_neg q).trans (if_neg p))).trans rfl
   exact this.symm.trans e
  |_=>exact e
end
section
noncomputable def ds{α:Type}(es:List (DK×α))(k:DK)(v:α):List (DK×α):=if es.any (λe=>e.1=k)then es.map (λe=>if e.1=k then(k,v)else e)else es++[(k,v)]
noncomputable def dd{α:Type}(es:List (DK×α))(k:DK):List (DK×α):=es.filter λe=>e.1≠k
theorem zS:ku es k v=ds es k v:=rfl
theorem Od:lW es k=dd es k:=rfl
theorem bX.keys:∀{xs:List (DK×V)} {es:List (DK×T)},bX g c xs es->xs.map (·.1)=es.map (·.1)
 |[],[],_=>rfl
 |x::xs,e::es,h=>by simp[h.1,bX.keys h.2.2]
 |[],_::_,h=>h.elim
 |_::_,[],h=>h.elim
theorem bX.snoc(s:SR g c k v t):∀{xs:List (DK×V)} {es:List (DK×T)},bX g c xs es->bX g c (xs++[(k,v)]) (es++[(k,t)])
 |[],[],_=>⟨rfl,s,trivial⟩
 |x::xs,e::es,h=>⟨h.1,h.2.1,bX.snoc s h.2.2⟩
 |[],_::_,h=>h.elim
 |_::_,[],h=>h.elim
theorem bX.H0(s:SR g' c' k v t):∀{xs:List (DK×V)} {es:List (DK×T)},bX g c xs es->(∀k' v' t',(k',v')∈xs->(k',t')∈es->k'≠k->SR g c k' v' t'->SR g' c' k' v' t')->
 bX g' c' (xs.map λe=>if e.1=k then(k,v)else e) (es.map λe=>if e.1=k then(k,t)else e)
 |[],[],_,_=>trivial
 |x::xs,e::es,h,m=>by
  obtain⟨k1,v1⟩:=x;obtain⟨k2,t2⟩:=e;refine fm h λjF h2 h3=>?_;clear h;subst jF;have r:=bX.H0 s h3 λk' v' t' a b=>m k' v' t' (.tail _ a) (.tail _ b);by_cases q:k1=k
  .simp only[map_cons,if_pos q];exact⟨rfl,s,r⟩
  .simp only[map_cons,if_neg q];exact⟨rfl,m k1 v1 t2 (.head _) (.head _) q h2,r⟩
 |[],_::_,h,_=>h.elim
 |_::_,[],h,_=>h.elim
theorem EY{α:Type}{es:List (DK×α)}{k:DK}:es.any (λe=>e.1=k)=(es.map (·.1)).any (λx=>x=k):=by rw[List.any_map];rfl
theorem bX.mr{g g':Gh}{c c':ak}{k:DK}{v:V}{t:T}{xs:List (DK×V)}{es:List (DK×T)}(h:bX g c xs es)(s:SR g' c' k v t)(m:∀k' v' t',(k',v')∈xs->(k',t')∈es->k'≠k->SR g c k' v' t'->SR g' c' k' v' t'):bX g' c' (ds xs k v) (ds es k t):=by
 unfold ds;rw[EY,EY,h.keys];by_cases q:(es.map (·.1)).any (λx=>x=k)=true
 .rw[if_pos q,if_pos q];exact bX.H0 s h m
 .rw[if_neg q,if_neg q];refine(h.l8 λk' v' t' a b z=>m k' v' t' a b ?_ z).snoc s;intro e;exact q (List.any_eq_true.mpr ⟨k',mem_map.mpr ⟨(k',t'),b,rfl⟩,by simpa using e⟩)
theorem bX.del:∀{xs:List (DK×V)} {es:List (DK×T)},bX g c xs es->bX g c (dd xs k) (dd es k)
 |[],[],_=>trivial
 |x::xs,e::es,h=>by
  obtain⟨k1,v1⟩:=x;obtain⟨k2,t2⟩:=e;refine fm h λjF h2 h3=>?_;clear h;subst jF;have r:=bX.del (k:=k) h3;unfold dd at r⊢;by_cases q:k1=k
  .simp only[List.filter_cons,q,ne_eq,not_true_eq_false,decide_false];exact r
  .simp only[List.filter_cons,q,ne_eq,not_false_eq_true,decide_true];exact⟨rfl,h2,r⟩
 |[],_::_,h=>h.elim
 |_::_,[],h=>h.elim
theorem bX.look:∀{xs:List (DK×V)} {es:List (DK×T)},bX g c xs es->(xs.lookup k=none/\es.lookup k=none)\/∃v t,xs.lookup k=some v/\es.lookup k=some t/\SR g c k v t/\(k,v)∈xs/\(k,t)∈es
 |[],[],_=>.inl ⟨rfl,rfl⟩
 |x::xs,e::es,h=>by
  obtain⟨k1,v1⟩:=x;obtain⟨k2,t2⟩:=e;refine fm h λjF h2 h3=>?_;clear h;subst jF;simp only[lookup_cons];by_cases q:k=k1
  .subst q;simp only[beq_self_eq_true];exact .inr ⟨v1,t2,rfl,rfl,h2,.head _,.head _⟩
  .rw[beq_eq_false_iff_ne.mpr q];rcases bX.look (k:=k) h3 with r|hr
   .exact .inl r
   .refine mO hr λv t a b s m1 m2=>?_;exact .inr ⟨v,t,a,b,s,.tail _ m1,.tail _ m2⟩
 |[],_::_,h=>h.elim
 |_::_,[],h=>h.elim
theorem y7{α:Type}:∀{xs:List (DK×α)} {v w:α},(xs.map (·.1)).Nodup->(k,v)∈xs->xs.lookup k=some w->v=w
 |[],_,_,_,m,_=>by cases m
 |(k1,u)::xs,v,w,nd,m,h=>by
  simp only[map_cons,List.nodup_cons]at nd;rw[lookup_cons]at h;rcases mem_cons.mp m with e|m
  .clear m nd;cases e;simp at h;exact h
  .have:k≠k1:=by intro e;exact nd.1 (mem_map.mpr ⟨(k,v),m,e⟩)
   rw[beq_eq_false_iff_ne.mpr this]at h;exact y7 nd.2 m h
theorem oe:¬jU c .no:=by
 rintro(⟨k,h|h⟩|⟨x,h⟩|h)
 .cases c<;>simp[AK]at h
 .cases c<;>simp[RK]at h
 .cases c<;>exact ak.noConfusion h
 .cases c<;>simp[VK]at h
theorem bg.append{ms:Hp}{xs:List MO}:bg ms (ms++xs):=by
 intro j t e;cases q:ms[j]? with
 |none=>simp[bG,q]at e
 |some o=>have hj:j<ms.length:=(List.getElem?_eq_some_iff.mp q).1;simp only[bG]at e⊢;rw[getElem?_append_left hj];exact e
noncomputable def Gh.add(g:Gh)(n:Nat)(c:ak)(s:List (DK×V))(d:List (DK×T))(v:V)(t:T)(h:Int):Gh:={cat:=λj=>if j=n then c else g.cat j,ah:=λj=>if j=n then s else g.ah j,den:=λj=>if j=n then d else g.den j,rv:=λj=>if j=n then v else g.rv j,fq:=λj=>if j=n then t else g.fq j,ho:=λj=>if j=n then h else g.ho j,cs:=g.cs}
section
variable{g:Gh}{ms:Hp}{n:Nat}{c:ak}{s:List (DK×V)}{d:List (DK×T)}{v:V}{t:T}{h:Int}
theorem Gh.aC:(g.add n c s d v t h).cat n=c:=if_pos rfl
theorem Gh.aL:(g.add n c s d v t h).ah n=s:=if_pos rfl
theorem Gh.aD:(g.add n c s d v t h).den n=d:=if_pos rfl
theorem Gh.aV:(g.add n c s d v t h).rv n=v:=if_pos rfl
theorem Gh.aT:(g.add n c s d v t h).fq n=t:=if_pos rfl
theorem Gh.aH:(g.add n c s d v t h).ho n=h:=if_pos rfl
theorem bQ.xJ(hs:gw c=.dc)(hm:ms[n]?=some (.dict s)):bQ (g.add n c s d v t h) ms n:=by unfold bQ;rw[Gh.aC,hs];exact hm.trans (congrArg (λz=>some (MO.dict z)) Gh.aL.symm)
theorem bQ.BV(hs:gw c=.ar false)(hm:oJ ms n false s):bQ (g.add n c s d v t h) ms n:=by unfold bQ;rw[Gh.aC,hs];exact(Gh.aL (g:=g) (n:=n) (c:=c) (s:=s) (d:=d) (v:=v) (t:=t) (h:=h)).symm▸hm
theorem bQ.S7(hs:gw c=.rf)(hm:ms[n]?=some (bt v h)):bQ (g.add n c s d v t h) ms n:=by unfold bQ;rw[Gh.aC,hs];show ms[n]?=some (bt ((g.add n c s d v t h).rv n) ((g.add n c s d v t h).ho n));rw[Gh.aV,Gh.aH];exact hm
end
theorem St.new{ms:Hp}(st:St g ms){h:Int}(hc:fU c=none)(hr:bQ (g.add ms.length c s d v t h) (ms++[o]) ms.length)(hl:dy (g.add ms.length c s d v t h) ms.length):St (g.add ms.length c s d v t h) (ms++[o]):=by
 refine st.mN (·=ms.length) bg.append Io ?_ ?_ ?_
 .intro j;by_cases q:j=ms.length
  .subst q;exact .inr (.inr ⟨by simpa[Gh.add]using hc,by exact Ip⟩)
  .exact .inl (if_neg q)
 .intro j;by_cases q:j=ms.length
  .exact .inl q
  .by_cases q2:j<ms.length
   .refine .inr (.inr ⟨if_neg q,if_neg q,if_neg q,if_neg q,if_neg q,if_neg q,getElem?_append_left q2,λ_ _=>rfl,?_⟩);intro i k;have:i≠ms.length:=by rintro rfl;rw[st.fresh _ (le_refl _)]at k;exact oe k
    exact And.intro (if_neg this) (And.intro (if_neg this) (if_neg this))
   .exact .inr (.inl (by simp[Gh.add,q];exact st.fresh j (by omega)))
 .rintro j rfl;exact⟨hr,hl⟩
theorem Mv.new{F:ak->Prop}{ms:Hp}(st:St g ms){h:Int}:Mv F g (g.add ms.length c s d v t h) ms (ms++[o]):=by
 have ne:∀j,g.cat j≠.no->j≠ms.length:=by rintro j h rfl;exact h (st.fresh _ (le_refl _))
 refine⟨by exact Io,bg.append,?_,?_,?_,λh=>h⟩
 .intro j hj e;have:j≠ms.length:=by omega
  exact⟨by exact(if_neg this).trans e,getElem?_append_left hj⟩
 .intro j e;have:=ne j (by rw[e];exact λz4=>ak.noConfusion z4);exact And.intro (Or.inr ((if_neg this).trans e)) (And.intro (if_neg this) (if_neg this))
 .intro j _ e _;have:=ne j e;exact And.intro (if_neg this) (And.intro (if_neg this) (if_neg this))
def wR(X:ak):Prop:=∀c,¬jU c X
theorem vo{a:Nat}:wR (.A a):=by
 rintro c (⟨k,h|h⟩|⟨x,h⟩|h)
 .cases c<;>simp[AK]at h
 .cases c<;>simp[RK]at h
 .cases c<;>exact ak.noConfusion h
 .cases c<;>simp[VK]at h
theorem qD{a:Nat}:wR (.TA a):=by
 rintro c (⟨k,h|h⟩|⟨x,h⟩|h)
 .cases c<;>simp[AK]at h
 .cases c<;>simp[RK]at h
 .cases c<;>exact ak.noConfusion h
 .cases c<;>simp[VK]at h
noncomputable def Gh.upd(g:Gh)(i:Nat)(s:List (DK×V))(d:List (DK×T)):Gh:={g with ah:=λj=>if j=i then s else g.ah j,den:=λj=>if j=i then d else g.den j}
theorem St.put{i:Nat}(st:St g ms)(nc:wR (g.cat i))(pP:fQ (g.cat i)=.zm)(he:bX g (g.cat i) s d)(kl:bg ms ms')(hl:ms'.length=ms.length)(hp:∀j,j≠i->ms'[j]?=ms[j]?)(hr:bQ (g.upd i s d) ms' i):St (g.upd i s d) ms':=by
 have oK:∀j i',jU (g.cat j) (g.cat i')->i'≠i:=by clear he pP hp hr;rintro j i' k rfl;exact nc _ k
 refine st.mN (·=i) kl (by omega) (λj=>.inl rfl) ?_ ?_
 .intro j;by_cases q:j=i
  .exact .inl q
  .refine .inr (.inr ⟨rfl,by exact if_neg q,by exact if_neg q,rfl,rfl,rfl,hp j q,λ_ _=>rfl,?_⟩);intro i' k;have:=oK _ _ k;exact⟨rfl,by exact if_neg this,rfl⟩
 .clear nc;clear hp;rintro j rfl;refine⟨hr,?_⟩;have e:bX (g.upd j s d) (g.cat j) s d:=he.l8 λk v t _ _ z=>z.map
   (λi' q=>⟨q,by have:=oK j i' (.inl ⟨k,.inl q⟩);exact if_neg this⟩) (λi' q=>⟨q,rfl⟩) (λi' x q=>q)
  unfold dy;rw[show(g.upd j s d).cat j=g.cat j from rfl,show(g.upd j s d).ah j=s by exact if_pos rfl,show(g.upd j s d).den j=d by exact if_pos rfl];revert pP e;cases g.cat j<;>intro pP e<;>first|exact e|(exfalso;exact ak.noConfusion pP;done)
theorem Mv.put{F:ak->Prop}{i:Nat}(kl:bg ms ms')(hl:ms'.length=ms.length)(hp:∀j,j≠i->ms'[j]?=ms[j]?)(hz:g.cat i≠.zu)(hn:g.cat i≠.no)(hF:F (g.cat i)):Mv F g (g.upd i s d) ms ms':=by
 refine⟨by omega,kl,?_,?_,?_,λh=>h⟩
 .intro j _ e;have:j≠i:=by intro er;rw[er]at e;exact hn e
  exact⟨e,hp j this⟩
 .intro j e;have:j≠i:=by intro er;rw[er]at e;exact hz e
  simp[Gh.upd,this,e]
 .intro j _ _ e;have:j≠i:=by intro er;rw[<-er]at hF;exact e hF
  exact And.intro rfl (And.intro (if_neg this) (if_neg this))
noncomputable def Gh.cw(g:Gh)(x r li:Nat)(v w:V)(t:T):Gh:={g with rv:=λj=>if j=r then v else if j=li then w else g.rv j,cs:=λc=>if c=x then t else g.cs c}
theorem St.um{g:Gh}{ms ms':Hp}{x r li:Nat}{v w:V}{t:T}(st:St g ms)(hr:g.cat r=.rc x)(kE:g.cat li=.tl x)(hv:VR g (VK (.rc x)) v t)(hw:VR g (VK (.tl x)) w t)(kl:bg ms ms')(hl:ms'.length=ms.length)(hp:∀j,j≠r->j≠li->ms'[j]?=ms[j]?)(h1:ms'[r]?=some (bt v (g.ho r)))(h2:ms'[li]?=some (.list [w])):St (g.cw x r li v w t) ms':=by
 have gB:r≠li:=by exact dU hr kE nofun
 refine st.mN (λj=>j=r\/j=li) kl (by omega) (λj=>.inl rfl) ?_ ?_
 .intro j;by_cases q:j=r
  .exact .inl (.inl q)
  by_cases q2:j=li
  .exact .inl (.inr q2)
  refine .inr (.inr ⟨rfl,rfl,rfl,by exact(if_neg q).trans (if_neg q2),rfl,rfl,hp j q q2,?_,λ_ _=>⟨rfl,rfl,rfl⟩⟩);intro c hc;have:c≠x:=by
   clear hv hw;rintro rfl;rcases hc with hc|hc
   .exact q (st.uC _ _ _ hc hr)
   .exact q2 (st.uL _ _ _ hc kE)
  exact if_neg this
 .clear hp;rintro j (rfl|rfl)
  .have ho:=st.link j;unfold dy at ho;rw[hr]at ho;refine⟨?_,?_⟩
   .unfold bQ;rw[show(g.cw x j li v w t).cat j=g.cat j from rfl,hr,h1];simp[Gh.cw]
   .unfold dy;rw[show(g.cw x j li v w t).cat j=g.cat j from rfl,hr];refine⟨?_,ho.2⟩;simp only[Gh.cw,if_true];exact hv.map λi q=>⟨q,rfl⟩
  .refine⟨?_,?_⟩
   .unfold bQ;rw[show(g.cw x r j v w t).cat j=g.cat j from rfl,kE,h2];simp[Gh.cw,gB.symm]
   .unfold dy;rw[show(g.cw x r j v w t).cat j=g.cat j from rfl,kE];simp only[Gh.cw,if_true,gB.symm,if_false];exact hw.map λi q=>⟨q,rfl⟩
theorem Mv.um{F:ak->Prop}{g:Gh}{ms ms':Hp}{x r li:Nat}{v w:V}{t:T}(hr:g.cat r=.rc x)(kE:g.cat li=.tl x)(kl:bg ms ms')(hl:ms'.length=ms.length)(hp:∀j,j≠r->j≠li->ms'[j]?=ms[j]?)(ht:LF t):Mv F g (g.cw x r li v w t) ms ms':=by
 refine⟨by omega,kl,?_,?_,?_,?_⟩
 .intro j _ e;exact⟨e,hp j (dU e hr nofun) (dU e kE nofun)⟩
 .exact λj e=>⟨.inr e,rfl,rfl⟩
 .exact λj _ _ _=>⟨rfl,rfl,rfl⟩
 .intro h c;by_cases q:c=x
  .simp[Gh.cw,q,ht]
  .simp[Gh.cw,q,h c]
end
section
def ju(c:ak):Prop:=@ak.casesOn (λ_=>Prop) c True True False (λ_=>False) (λb _=>True) (λ_ _=>False) (λb=>True) (λ_=>False) (λ_=>False) (λ_ _=>False) (λ_=>False) (λ_=>False) False
@[elab_as_elim] theorem nL{C:ak->Prop}(h:ju c)(k1:C .zm)(k2:C .zu)(k3:∀a k,C (.B a k))(k4:∀x,C (.C x)):C c:=by cases c<;>first|exact h.elim|assumption|exact k3 _ _|exact k4 _
theorem PU(h:ju c1)(e:AK c k c1):AK c k .zm:=by revert e;refine nL h ?_ ?_ (λa k'=>?_) (λx=>?_)<;>intro e<;>cases c<;>(first|exact e|exact Or.inl rfl|exact rfl|exact ak.noConfusion e)
theorem RQ(h:ju c1)(e:VK c c1):VK c .zm:=by revert e;refine nL h ?_ ?_ (λa k'=>?_) (λx=>?_)<;>intro e<;>cases c<;>(first|exact e|exact Or.inl rfl|exact ak.noConfusion e)
theorem RR(h:ju c)(e:AK c k c1):AK .zm k c1:=by revert e;refine nL h ?_ ?_ (λa k'=>?_) (λx=>?_)<;>intro e<;>simp[AK]at e⊢<;>(first|exact Or.inl e|simp[e])
theorem RT(h:ju c)(e:RK c k c1):RK .zm k c1:=by revert e;refine nL h ?_ ?_ (λa k'=>?_) (λx=>?_)<;>intro e<;>simp[RK]at e⊢<;>exact e
theorem RU{x:Nat}(h:ju c):CK c x=.rc x:=by exact nL h rfl rfl (λ_ _=>rfl) (λ_=>rfl)
theorem PV(h:ju c)(e:VK c c1):False:=by revert e;exact nL h id id (λ_ _=>id) (λ_=>id)
theorem PW(h:ju c1)(e:RK c k c1):False:=by revert e;refine nL h ?_ ?_ (λa k'=>?_) (λx=>?_)<;>cases c<;>first|exact id|exact λz4=>ak.noConfusion z4|simp[RK]
theorem PX{x:Nat}(h:ju c1)(e:c1=CK c x):False:=by revert e;refine nL h ?_ ?_ (λa k'=>?_) (λx=>?_)<;>cases c<;>exact λz4=>ak.noConfusion z4
theorem Hm{j:Nat}(h:ju (g.cat j))(r:bQ g ms j):∃a:Ar,ms[j]?=some a.mo/\dW ms a/\a.ah=g.ah j:=by
 unfold bQ at r;revert h r;cases g.cat j<;>intro h r<;>first
  |(obtain⟨a,h1,h2,h3,h4⟩:=r;exact(cA a h1 h2 h4))
  |exact h.elim
def Gh.mark(g:Gh)(j:Nat):Gh:=g.re λi=>if i=j then .zm else g.cat i
noncomputable def Ar.marked(a:Ar):Ar:={a with sh:=true}
theorem dW.marked(ok:dW ms a):dW ms a.marked:=⟨ok.len,ok.keys,ok.vals,ok.nodup,ok.pz,ok.pack⟩
theorem St.mark{j:Nat}(st:St g ms)(hc:ju (g.cat j))(ha:ms[j]?=some a.mo)(ok:dW ms a)(hl:a.ah=g.ah j):St (g.mark j) (ms.set j a.marked.mo):=by
 have hi:j<ms.length:=(List.getElem?_eq_some_iff.mp ha).1;have kl:bg ms (ms.set j a.marked.mo):=bg.set ha;have sE:fQ (g.cat j)=.zm:=nL hc rfl rfl (λ_ _=>rfl) (λ_=>rfl);refine st.Hl qE ?_ ?_ ?_ ?_
 .intro i;by_cases q:i=j
  .clear ha hc hi hl kl;subst q;exact .inr (by rw[sE];simp[fQ])
  .exact .inr (by simp[q])
 .intro i c e;by_cases q:i=j
  .simp[q,fU]at e
  .exact .inl (by simpa[q]using e)
 .intro i;by_cases q:i=j
  .clear sE;clear ha hc;subst q;unfold bQ;simp only[Gh.re,if_true];exact gO a.marked (getElem?_set_self hi) (ok.marked.mono kl) rfl hl
  .exact(st.rep i).shape (by simp[q]) (getElem?_set_ne (λe=>q e.symm)) kl
 .intro i hn;have main:∀c',(c'=g.cat i\/(c'=.zm/\ju (g.cat i)))->(∀i' k,AK (g.cat i) k (g.cat i')->AK c' k (if i'=j then ak.zm else g.cat i'))/\(∀i' k,RK (g.cat i) k (g.cat i')->RK c' k (if i'=j then ak.zm else g.cat i'))/\(∀i' x,g.cat i'=CK (g.cat i) x->(if i'=j then ak.zm else g.cat i')=CK c' x)/\(∀i',VK (g.cat i) (g.cat i')->VK c' (if i'=j then ak.zm else g.cat i')):=by
   intro c' yk;have a1:∀k c1,AK (g.cat i) k c1->AK c' k c1:=by
    intro k c1 e;rcases yk with rfl|hr
    .exact e
    .obtain⟨rfl,m⟩:=hr;exact RR m e
   have a2:∀k c1,RK (g.cat i) k c1->RK c' k c1:=by
    intro k c1 e;clear a1;rcases yk with rfl|hr
    .exact e
    .obtain⟨rfl,m⟩:=hr;exact RT m e
   have a3:∀x,CK (g.cat i) x=CK c' x:=by
    intro x;clear a2;clear a1;rcases yk with rfl|hr
    .rfl
    .obtain⟨rfl,m⟩:=hr;rw[RU m];rfl
   have a4:∀c1,VK (g.cat i) c1->VK c' c1:=by
    intro c1 e;clear a3;clear a2;clear a1;rcases yk with rfl|hr
    .exact e
    .obtain⟨rfl,m⟩:=hr;exact(PV m e).elim
   refine⟨?_,?_,?_,?_⟩
   .intro i' k e;by_cases q:i'=j
    .clear hn;clear hi hl kl sE;clear ha;subst q;rw[if_pos rfl];exact a1 _ _ (PU hc e)
    .rw[if_neg q];exact a1 _ _ e
   .intro i' k e;by_cases q:i'=j
    .clear hn;clear hi hl kl sE;clear ha;subst q;exact(PW hc e).elim
    .rw[if_neg q];exact a2 _ _ e
   .intro i' x e;by_cases q:i'=j
    .clear hn;clear hi hl kl sE;clear ha;subst q;exact(PX hc e).elim
    .rw[if_neg q,e];exact a3 x
   .intro i' e;by_cases q:i'=j
    .clear hn;clear hi hl kl sE;subst q;rw[if_pos rfl];exact a4 _ (RQ hc e)
    .rw[if_neg q];exact a4 _ e
  by_cases q:i=j
  .clear hn;subst q;have:=main .zm (.inr ⟨rfl,hc⟩);simpa using this
  .have:=main (g.cat i) (.inl rfl);simpa[q]using this
theorem Mv.mark{F:ak->Prop}{g:Gh}{ms:Hp}{j:Nat}{a:Ar}(hc:ju (g.cat j))(ha:ms[j]?=some a.mo)(hF:g.cat j≠.zm->g.cat j≠.zu->F (g.cat j)):Mv F g (g.mark j) ms (ms.set j a.marked.mo):=by
 have hn:g.cat j≠.no:=by intro e;rw[e]at hc;exact hc
 refine⟨by exact qE,bg.set ha,?_,?_,?_,λh=>h⟩
 .intro i _ e;have:i≠j:=by intro er;rw[er]at e;exact hn e
  exact⟨by exact(if_neg this).trans e,getElem?_set_ne (λe=>this e.symm)⟩
 .intro i e;by_cases q:i=j<;>(first|exact And.intro (Or.inl (if_pos q)) (And.intro rfl rfl)|exact And.intro (Or.inr ((if_neg q).trans e)) (And.intro rfl rfl))
 .intro i h1 h2 h3;by_cases q:i=j
  .clear ha hc hn;subst q;have:g.cat i=.zm:=by
    by_cases z:g.cat i=.zm
    .exact z
    .exact absurd (hF z h1) h3
   exact And.intro ((if_pos rfl).trans this.symm) (And.intro rfl rfl)
  .exact And.intro (if_neg q) (And.intro rfl rfl)
theorem SR.H2(h:SR g c k v t)(ha:∀i,v=.ref i->AK c k (g.cat i)->AK c' k (g'.cat i)/\g'.den i=g.den i)(hr:∀i,v=.ref i->RK c k (g.cat i)->RK c' k (g'.cat i)/\g'.fq i=g.fq i)(hc:∀i x,v=.ref i->g.cat i=CK c x->g'.cat i=CK c' x):SR g' c' k v t:=by
 have main:VR g (AK c k) v t\/(∃r,v=.ref r/\RK c k (g.cat r)/\g.fq r=t)->VR g' (AK c' k) v t\/(∃r,v=.ref r/\RK c' k (g'.cat r)/\g'.fq r=t):=by
  rintro(h|⟨r,h1,h2,h3⟩)
  .refine .inl ?_;unfold VR at*;cases t with
   |none=>exact h
   |int=>exact h
   |cell=>exact h
   |arr es=>refine aY h λi h1 h2 h3=>?_;exact cA i h1 ((ha i h1 h2).1) ((ha i h1 h2).2.trans h3)
  .exact .inr ⟨r,h1,(hr r h1 h2).1,(hr r h1 h2).2.trans h3⟩
 cases t with
 |cell x=>refine az h λr h1 h2=>?_;exact a0 r h1 (hc r x h1 h2)
 |none=>exact main h
 |int i=>exact main h
 |arr es=>exact main h
theorem dy.ent{j:Nat}(h:dy g j)(hz:fQ (g.cat j)=.zm):bX g (g.cat j) (g.ah j) (g.den j):=by unfold dy at h;revert h hz;cases g.cat j<;>intro h hz<;>first|exact h|(exfalso;exact ak.noConfusion hz;done)
theorem bX.link{j:Nat}(h:bX g (g.cat j) (g.ah j) (g.den j))(hz:fQ (g.cat j)=.zm):dy g j:=by unfold dy;revert h hz;cases g.cat j<;>intro h hz<;>first|exact h|(exfalso;exact ak.noConfusion hz;done)
theorem dy.xK{g:Gh}{n:Nat}{c:ak}{v:V}{t:T}{h:Int}(hz:fQ c=.zm):dy (g.add n c [] [] v t h) n:=bX.link (by rw[Gh.aC,Gh.aL,Gh.aD];exact trivial) (by rw[Gh.aC];exact hz)
theorem BW{a:Nat}:¬jU c (.A a):=vo c
theorem xO{a:Nat}(h:jU c (.R a k)):c=.A a:=by
 rcases h with⟨k,h|h⟩|⟨x,h⟩|h
 .cases c<;>simp[AK]at h
 .cases c<;>simp[RK]at h;simp[h]
 .cases c<;>exact ak.noConfusion h
 .cases c<;>simp[VK]at h
open Classical in
theorem St.gc{i a:Nat}(st:St g ms)(hi:g.cat i=.A a):∃aI:Nat->ak,St (g.re aI) ms/\(∀j,aI j=.A a->j=i)/\(∀r k,aI r=.R a k->(k,.ref r)∈g.ah i)/\(∀j,aI j=g.cat j\/(aI j=.no/\((g.cat j=.A a/\j≠i)\/∃k,g.cat j=.R a k/\(k,.ref j)∉g.ah i))):=by
 refine gO (λj=>if(g.cat j=.A a/\j≠i)\/(∃k,g.cat j=.R a k/\(k,.ref j)∉g.ah i)then .no else g.cat j) ?_ ?_ ?_ ?_
 .have ki:¬((g.cat i=.A a/\i≠i)\/(∃k,g.cat i=.R a k/\(k,.ref i)∉g.ah i)):=by
   rintro(h|⟨k,h,_⟩)
   .exact h.2 rfl
   .rw[hi]at h;exact ak.noConfusion h
  refine st.mN (·=i) bg.refl (le_refl _) ?_ ?_ ?_
  .intro j;by_cases q:(g.cat j=.A a/\j≠i)\/(∃k,g.cat j=.R a k/\(k,.ref j)∉g.ah i)
   .exact .inr (.inl (by simp only[Gh.re];rw[if_pos q]))
   .exact .inl (by simp only[Gh.re];rw[if_neg q])
  .intro j;by_cases z:j=i
   .exact .inl z
   by_cases q:(g.cat j=.A a/\j≠i)\/(∃k,g.cat j=.R a k/\(k,.ref j)∉g.ah i)
   .exact .inr (.inl (by simp only[Gh.re];rw[if_pos q]))
   .refine .inr (.inr ⟨by simp only[Gh.re];rw[if_neg q],rfl,rfl,rfl,rfl,rfl,rfl,λ_ _=>rfl,?_⟩);intro i' k;refine⟨?_,rfl,rfl⟩;simp only[Gh.re];rw[if_neg];rintro(h|⟨k',h,_⟩)
    .rw[h.1]at k;exact BW k
    .rw[h]at k;exact q (.inl ⟨xO k,z⟩)
  .rintro j rfl;refine⟨(st.rep j).nV (by simp only[Gh.re];rw[if_neg ki]) rfl rfl rfl rfl bg.refl,?_⟩;have e:=(st.link j).ent (by rw[hi]);refine bX.link ?_ (by simp only[Gh.re];rw[if_neg ki,hi]);simp only[Gh.re];rw[if_neg ki];refine e.l8 λk v t m _ s=>s.H2 ?_ ?_ ?_
   .intro i' _ q;refine⟨?_,rfl⟩;simp only;rw[if_neg]
    .exact q
    .rintro(h|⟨k',h,_⟩)
     .rw[h.1,hi]at q;simp[AK]at q
     .rw[h,hi]at q;simp[AK]at q
   .intro i' hv q;refine⟨?_,rfl⟩;simp only;rw[if_neg]
    .exact q
    .rintro(h|⟨k',h,hm⟩)
     .rw[h.1,hi]at q;exact ak.noConfusion q
     .rw[h,hi]at q;simp[RK]at q;clear s;subst q;rw[hv]at m;exact hm m
   .intro i' x _ q;simp only;rw[if_neg]
    .exact q
    .rintro(h|⟨k',h,_⟩)
     .rw[h.1,hi]at q;exact ak.noConfusion q
     .rw[h,hi]at q;exact ak.noConfusion q
 .intro j e;simp only at e;split at e
  .exact ak.noConfusion e
  .rename_i q;by_cases z:j=i
   .exact z
   .exact absurd (.inl ⟨e,z⟩) q
 .intro r k e;simp only at e;split at e
  .exact ak.noConfusion e
  .rename_i q;by_cases z:(k,V.ref r)∈g.ah i
   .exact z
   .exact absurd (.inr ⟨k,e,z⟩) q
 .intro j;by_cases q:(g.cat j=.A a/\j≠i)\/(∃k,g.cat j=.R a k/\(k,.ref j)∉g.ah i)
  .exact .inr ⟨if_pos q,q⟩
  .exact .inl (if_neg q)
end
section
theorem zT{α:Type}{xs:List (DK×α)}{k:DK}{v:α}(nd:(xs.map (·.1)).Nodup)(m:(k,v)∈xs):ds xs k v=xs:=by
 unfold ds;refine(if_pos (List.any_eq_true.mpr ⟨_,m,by simp⟩)).trans ?_;have:∀e∈xs,(if e.1=k then(k,v)else e)=e:=by
  intro e he;by_cases q:e.1=k
  .refine(if_pos q).trans ?_;obtain⟨k',w⟩:=e;simp only at q;subst q;have l:∀{ys:List (DK×α)} {u:α},(ys.map (·.1)).Nodup->(k',u)∈ys->ys.lookup k'=some u:=by
    intro ys u nd m;induction ys with
    |nil=>cases m
    |cons y ys ih=>
     obtain⟨k2,u2⟩:=y;simp only[map_cons,List.nodup_cons]at nd;refine lookup_cons.trans ?_;rcases mem_cons.mp m with e|m
     .clear m nd;cases e;simp
     .have:k'≠k2:=by intro e;exact nd.1 (mem_map.mpr ⟨(k',u),m,e⟩)
      rw[beq_eq_false_iff_ne.mpr this];exact ih nd.2 m
   rw[y7 nd m (l nd he)]
  .rw[if_neg q]
 refine(List.map_congr_left this).trans ?_;rw[List.map_id']
noncomputable def Gh.lw(g:Gh)(i r:Nat)(k:DK)(v:V)(t:T):Gh:={g with rv:=λj=>if j=r then v else g.rv j,fq:=λj=>if j=r then t else g.fq j,den:=λj=>if j=i then ds (g.den i) k t else g.den j}
theorem St.Bd{i r a:Nat}{t:T}(st:St g ms)(hi:g.cat i=.A a)(hr:g.cat r=.R a k)(uA:∀j,g.cat j=.A a->j=i)(nd:((g.ah i).map (·.1)).Nodup)(hm:(k,.ref r)∈g.ah i)(hv:VR g (VK (.R a k)) v t)(ht:∀x,t≠.cell x)(kl:bg ms ms')(hl:ms'.length=ms.length)(hp:∀j,j≠r->ms'[j]?=ms[j]?)(h1:ms'[r]?=some (bt v (g.ho r))):St (g.lw i r k v t) ms':=by
 have gB:r≠i:=by exact dU hr hi nofun
 refine st.mN (λj=>j=r\/j=i) kl (by omega) (λj=>.inl rfl) ?_ ?_
 .intro j;by_cases q:j=r
  .exact .inl (.inl q)
  by_cases q2:j=i
  .exact .inl (.inr q2)
  refine .inr (.inr ⟨rfl,rfl,by exact if_neg q2,by exact if_neg q,by exact if_neg q,rfl,hp j q,λ_ _=>rfl,?_⟩);intro i' kd;have e1:i'≠i:=by intro er;rw[er,hi]at kd;exact BW kd
  have e2:i'≠r:=by clear h1 hm gB hp q;rintro rfl;rw[hr]at kd;exact q2 (uA _ (xO kd))
  exact And.intro rfl (And.intro (if_neg e1) (if_neg e2))
 .clear uA;rintro j (rfl|rfl)
  .have ho:=st.link j;unfold dy at ho;rw[hr]at ho;refine⟨?_,?_⟩
   .unfold bQ;rw[show(g.lw i j k v t).cat j=g.cat j from rfl,hr,h1];simp[Gh.lw]
   .unfold dy;rw[show(g.lw i j k v t).cat j=g.cat j from rfl,hr];refine⟨?_,ho.2⟩;simp only[Gh.lw,if_true];refine hv.map λi' q=>⟨q,?_⟩;have:i'≠i:=by intro er;rw[er,hi]at q;simp[VK]at q
    exact if_neg this
  .refine⟨(st.rep j).nV rfl rfl (if_neg (λz2=>gB z2.symm)) rfl (hp j gB.symm) kl,?_⟩;have e:=(st.link j).ent (by rw[hi]);refine bX.link ?_ (by rw[show(g.lw j r k v t).cat j=g.cat j from rfl,hi]);rw[show(g.lw j r k v t).cat j=g.cat j from rfl,show(g.lw j r k v t).ah j=g.ah j from rfl,show(g.lw j r k v t).den j=ds (g.den j) k t by exact if_pos rfl];have s:SR (g.lw j r k v t) (g.cat j) k (.ref r) t:=by
    have z:∃r',V.ref r=.ref r'/\RK (g.cat j) k ((g.lw j r k v t).cat r')/\(g.lw j r k v t).fq r'=t:=⟨r,rfl,by rw[show(g.lw j r k v t).cat r=g.cat r from rfl,hr,hi];rfl,by exact if_pos rfl⟩;cases t with
    |cell x=>exact absurd rfl (ht x)
    |none=>exact .inr z
    |int _=>exact .inr z
    |arr _=>exact .inr z
   have:=e.mr s (g':=g.lw j r k v t) ?_
   .rwa [zT nd hm]at this
   .intro k' v' t' m _ hk z;refine z.H2 ?_ ?_ (λ_ _ _ q=>q)
    .intro i' _ q;refine⟨q,?_⟩;have:i'≠j:=by intro er;rw[er,hi]at q;simp[AK]at q
     exact if_neg this
    .intro i' _ q;refine⟨q,?_⟩;have:i'≠r:=by clear s;clear h1 hm gB hp;rintro rfl;rw[hi,hr]at q;simp[RK]at q;exact hk q.symm
     exact if_neg this
theorem Mv.Bd{F:ak->Prop}{i r a:Nat}(hi:g.cat i=.A a)(hr:g.cat r=.R a k)(kl:bg ms ms')(hl:ms'.length=ms.length)(hp:∀j,j≠r->ms'[j]?=ms[j]?)(hF:F (.A a)):Mv F g (g.lw i r k v t) ms ms':=by
 refine⟨by omega,kl,?_,?_,?_,λh=>h⟩
 .intro j _ e;exact⟨e,hp j (by clear hp;rintro rfl;rw[hr]at e;exact ak.noConfusion e)⟩
 .intro j e;have:j≠i:=by rintro rfl;rw[hi]at e;exact ak.noConfusion e
  simp[Gh.lw,this,e]
 .intro j _ _ e;have:j≠i:=by rintro rfl;rw[hi]at e;exact e hF
  exact And.intro rfl (And.intro (if_neg this) rfl)
open Classical in
noncomputable def Gh.iw(g:Gh)(i j:Nat)(Rk:ak)(k:DK)(s:List (DK×V))(d:List (DK×T)):Gh:={g with ah:=λx=>if x=j then s else g.ah x,den:=λx=>if x=j then d else if x=i then ds (g.den i) k (.arr d)else g.den x,fq:=λx=>if g.cat x=Rk then .arr d else g.fq x}
theorem St.inner{i j:Nat}{d:List (DK×T)}(st:St g ms)(hX:g.cat i=X)(hY:g.cat j=Y)(uX:∀x,g.cat x=X->x=i)(yl:Rk=.no\/∃a,Rk=.R a k/\Y=.B a k)
 (pR:Rk≠.no->∀r,g.cat r=Rk->g.rv r=.ref j)(cX:wR X)(lX:fQ X=.zm)(lY:fQ Y=.zm)(cY:∀c,jU c Y->c=X\/(c=Rk/\Rk≠.no))(IG:∀k',AK X k' Y->k'=k)(cR:∀c,jU c Rk->c=X)(Cv:∀k',RK X k' Rk->k'=k)(kY:∀c,jU Y c->c≠X/\c≠Y/\c≠Rk)
 (he:bX g Y s d)(nd:((g.ah i).map (·.1)).Nodup)(hm:(k,v0)∈g.ah i)(hv:(v0=.ref j/\AK X k Y)\/∃r,v0=.ref r/\g.cat r=Rk/\RK X k Rk)
 (kl:bg ms ms')(hl:ms'.length=ms.length)(hp:∀x,x≠j->ms'[x]?=ms[x]?)(hr:bQ (g.iw i j Rk k s d) ms' j):St (g.iw i j Rk k s d) ms':=by
 have Uy:X≠Y:=by
  clear cY IG hY he kY lY;rintro rfl;rcases hv with hr|hr
  .refine bT hr λ_ h=>?_;exact cX _ (.inl ⟨_,.inl h⟩)
  .refine aY hr λr _ _ h=>?_;rcases yl with q|hr
   .rw[q]at h;exact oe (.inl ⟨_,.inr h⟩)
   .refine az hr λa _ q=>?_;rw[q]at h;exact h
 have pK:i≠j:=by clear pR hp hr hv;rintro rfl;exact Uy (hX.symm.trans hY)
 have Uz:X≠Rk:=by
  clear cR Cv;clear cY pR hr hv kY;rintro rfl;rcases yl with q|hr
  .rw[q]at lX;exact ak.noConfusion lX
  .refine az hr λa q _=>?_;rw[q]at lX;exact ak.noConfusion lX
 have UA:Y≠Rk:=by
  clear Uz;clear cR Cv;clear cY pR hr hv kY;rintro rfl;rcases yl with q|hr
  .rw[q]at lY;exact ak.noConfusion lY
  .refine az hr λa q _=>?_;rw[q]at lY;exact ak.noConfusion lY
 refine st.mN (λx=>x=j\/x=i\/(g.cat x=Rk/\Rk≠.no)) kl (by omega) (λj=>.inl rfl) ?_ ?_
 .intro x;by_cases q:x=j
  .exact .inl (.inl q)
  by_cases q2:x=i
  .exact .inl (.inr (.inl q2))
  by_cases q3:g.cat x=Rk
  .by_cases q4:Rk=.no
   .exact .inr (.inl (q3.trans q4))
   .exact .inl (.inr (.inr ⟨q3,q4⟩))
  refine .inr (.inr ⟨rfl,by exact if_neg q,by exact(if_neg q).trans (if_neg q2),rfl,by exact if_neg q3,rfl,hp x q,λ_ _=>rfl,?_⟩);intro i' kd;have e1:i'≠i:=by intro er;rw[er,hX]at kd;exact cX _ kd
  have e2:i'≠j:=by
   clear pK q;clear hp;clear pR hr hv;rintro rfl;rw[hY]at kd;rcases cY _ kd with h|h
   .exact q2 (uX _ h)
   .exact q3 h.1
  have e3:g.cat i'≠Rk:=by intro h;rw[h]at kd;exact q2 (uX _ (cR _ kd))
  exact And.intro rfl (And.intro ((if_neg e2).trans (if_neg e1)) (if_neg e3))
 .clear uX;rintro x (rfl|rfl|⟨hx,hn⟩)
  .refine⟨hr,bX.link ?_ (by rw[show(g.iw i x Rk k s d).cat x=g.cat x from rfl,hY];exact lY)⟩;rw[show(g.iw i x Rk k s d).cat x=g.cat x from rfl,hY,show(g.iw i x Rk k s d).ah x=s by exact if_pos rfl,show(g.iw i x Rk k s d).den x=d by exact if_pos rfl];refine he.l8 λk' v' t' _ _ z=>z.map ?_ ?_ (λ_ _ q=>q)
   .intro i' q;refine fm (kY _ (.inl ⟨k',.inl q⟩)) λn1 n2 n3=>?_;refine⟨q,?_⟩;have e1:i'≠i:=by intro er;rw[<-er]at hX;exact n1 hX
    have e2:i'≠x:=by intro er;rw[<-er]at hY;exact n2 hY
    exact(if_neg e2).trans (if_neg e1)
   .intro i' q;refine fm (kY _ (.inl ⟨k',.inr q⟩)) λn1 n2 n3=>?_;exact⟨q,by exact if_neg n3⟩
  .refine⟨(st.rep x).nV rfl (if_neg pK) rfl rfl (hp x pK) kl,bX.link ?_ (by rw[show(g.iw x j Rk k s d).cat x=g.cat x from rfl,hX];exact lX)⟩;have e:=(st.link x).ent (by rw[hX];exact lX);rw[show(g.iw x j Rk k s d).cat x=g.cat x from rfl,show(g.iw x j Rk k s d).ah x=g.ah x by exact if_neg pK,show(g.iw x j Rk k s d).den x=ds (g.den x) k (.arr d) by exact(if_neg pK).trans (if_pos rfl)];have z:SR (g.iw x j Rk k s d) (g.cat x) k v0 (.arr d):=by
    rcases hv with hr|hr
    .refine bT hr λh1 h2=>?_;exact .inl ⟨j,h1,by rw[show(g.iw x j Rk k s d).cat j=g.cat j from rfl,hX,hY];exact h2,by exact if_pos rfl⟩
    .refine aY hr λr h1 h2 h3=>?_;exact .inr ⟨r,h1,by rw[show(g.iw x j Rk k s d).cat r=g.cat r from rfl,hX,h2];exact h3,by exact if_pos h2⟩
   have:=e.mr z (g':=g.iw x j Rk k s d) ?_
   .rwa [zT nd hm]at this
   .intro k' v' t' _ _ hk z;rw[hX]at z⊢;refine z.map ?_ ?_ (λ_ _ q=>q)
    .intro i' q;refine⟨q,?_⟩;have e1:i'≠x:=by intro er;rw[er,hX]at q;exact cX _ (.inl ⟨_,.inl q⟩)
     have e2:i'≠j:=by intro er;rw[er,hY]at q;exact hk (IG _ q)
     exact(if_neg e2).trans (if_neg e1)
    .intro i' q;refine⟨q,?_⟩;have e1:g.cat i'≠Rk:=by intro h;rw[h]at q;exact hk (Cv _ q)
     exact if_neg e1
  .have e2:x≠j:=by clear pK;clear hp;clear pR hr hv;rintro rfl;exact UA (hY.symm.trans hx)
   refine⟨(st.rep x).nV rfl (if_neg e2) rfl rfl (hp x e2) kl,?_⟩;rcases yl with q|hr
   .exact absurd q hn
   .refine az hr λa q q2=>?_;have ho:=st.link x;have UB:g.cat x=.R a k:=hx.trans q;unfold dy at ho⊢;rw[show(g.iw i j Rk k s d).cat x=g.cat x from rfl];rw[UB]at ho⊢;refine⟨?_,ho.2⟩;rw[show(g.iw i j Rk k s d).rv x=g.rv x from rfl,pR hn x hx,show(g.iw i j Rk k s d).fq x=.arr d by exact if_pos hx];exact cA j rfl (by rw[show(g.iw i j Rk k s d).cat j=g.cat j from rfl,hY,q2];exact .inr rfl) (if_pos rfl)
theorem Mv.inner{F:ak->Prop}{i j:Nat}(hX:g.cat i=X)(hY:g.cat j=Y)(zX:X≠.zu)(zY:Y≠.zu)(nY:Y≠.no)(kl:bg ms ms')(hl:ms'.length=ms.length)(hp:∀x,x≠j->ms'[x]?=ms[x]?)(h1:F X)(h2:F Y):Mv F g (g.iw i j Rk k s d) ms ms':=by
 refine⟨by omega,kl,?_,?_,?_,λh=>h⟩
 .intro x _ e;exact⟨e,hp x (by rintro rfl;exact nY (hY.symm.trans e))⟩
 .intro x e;have e1:x≠i:=by rintro rfl;exact zX (hX.symm.trans e)
  have e2:x≠j:=by rintro rfl;exact zY (hY.symm.trans e)
  simp[Gh.iw,e1,e2,e]
 .intro x _ _ e;have e1:x≠i:=by intro er;rw[er,hX]at e;exact e h1
  have e2:x≠j:=by intro er;rw[er,hY]at e;exact e h2
  exact And.intro rfl (And.intro ((if_neg e2).trans (if_neg e1)) (if_neg e2))
noncomputable def Gh.gx(g:Gh)(x j j':Nat)(s s':List (DK×V))(d:List (DK×T)):Gh:={g with ah:=λy=>if y=j then s else if y=j' then s' else g.ah y,den:=λy=>if y=j then d else if y=j' then d else g.den y,cs:=λc=>if c=x then .arr d else g.cs c}
theorem S8{x:Nat}(h:jU c (.C x)):c=.rc x:=by
 rcases h with⟨k,h|h⟩|⟨x,h⟩|h
 .cases c<;>simp[AK]at h
 .cases c<;>simp[RK]at h
 .cases c<;>exact ak.noConfusion h
 .cases c<;>simp[VK]at h;simp[h]
theorem RV{x:Nat}(h:jU c (.TC x)):c=.tl x:=by
 rcases h with⟨k,h|h⟩|⟨x,h⟩|h
 .cases c<;>simp[AK]at h
 .cases c<;>simp[RK]at h
 .cases c<;>exact ak.noConfusion h
 .cases c<;>simp[VK]at h;simp[h]
theorem St.An{x j j' r li:Nat}(st:St g ms)(hj:g.cat j=.C x)(jV:g.cat j'=.TC x)(hr:g.cat r=.rc x)(kE:g.cat li=.tl x)(vr:g.rv r=.ref j)(vl:g.rv li=.ref j')(he:bX g (.C x) s d)(u5:bX g (.TC x) s' d)
 (kl:bg ms ms')(hl:ms'.length=ms.length)(hp:∀y,y≠j->y≠j'->ms'[y]?=ms[y]?)(h1:bQ (g.gx x j j' s s' d) ms' j)(h2:bQ (g.gx x j j' s s' d) ms' j'):St (g.gx x j j' s s' d) ms':=by
 have n1:j≠j':=by exact dU hj jV nofun
 have n2:r≠j:=by exact dU hr hj nofun
 have n3:r≠j':=by exact dU hr jV nofun
 have n4:li≠j:=by exact dU kE hj nofun
 have n5:li≠j':=by exact dU kE jV nofun
 refine st.mN (λy=>y=j\/y=j'\/y=r\/y=li) kl (by omega) (λj=>.inl rfl) ?_ ?_
 .intro y;by_cases q:y=j
  .exact .inl (.inl q)
  by_cases q2:y=j'
  .exact .inl (.inr (.inl q2))
  by_cases q3:y=r
  .exact .inl (.inr (.inr (.inl q3)))
  by_cases q4:y=li
  .exact .inl (.inr (.inr (.inr q4)))
  refine .inr (.inr ⟨rfl,by exact(if_neg q).trans (if_neg q2),by exact(if_neg q).trans (if_neg q2),rfl,rfl,rfl,hp y q q2,?_,?_⟩)
  .intro c hc;have:c≠x:=by
    clear h1 h2 he u5 hj jV;rintro rfl;rcases hc with hc|hc
    .exact q3 (st.uC _ _ _ hc hr)
    .exact q4 (st.uL _ _ _ hc kE)
   exact if_neg this
  .intro i' kd;have e1:i'≠j:=by clear hp n1 n2 n4 q vr;clear h1 h2;rintro rfl;rw[hj]at kd;exact q3 (st.uC _ _ _ (S8 kd) hr)
   have e2:i'≠j':=by clear n3 n5 q2 vl;clear hp n1;clear h1 h2;rintro rfl;rw[jV]at kd;exact q4 (st.uL _ _ _ (RV kd) kE)
   exact And.intro rfl (And.intro ((if_neg e1).trans (if_neg e2)) rfl)
 .rintro y (rfl|rfl|rfl|rfl)
  .refine⟨h1,bX.link ?_ (by rw[show(g.gx x y j' s s' d).cat y=g.cat y from rfl,hj])⟩;rw[show(g.gx x y j' s s' d).cat y=g.cat y from rfl,hj,show(g.gx x y j' s s' d).ah y=s by exact if_pos rfl,show(g.gx x y j' s s' d).den y=d by exact if_pos rfl];refine he.l8 λk' v' t' _ _ z=>z.map ?_ (λ_ q=>⟨q,rfl⟩) (λ_ _ q=>q);intro i' q;refine⟨q,?_⟩;have e1:i'≠y:=by intro er;rw[er,hj]at q;exact ak.noConfusion q
   have e2:i'≠j':=by intro er;rw[er,jV]at q;exact ak.noConfusion q
   exact(if_neg e1).trans (if_neg e2)
  .refine⟨h2,bX.link ?_ (by rw[show(g.gx x j y s s' d).cat y=g.cat y from rfl,jV])⟩;rw[show(g.gx x j y s s' d).cat y=g.cat y from rfl,jV,show(g.gx x j y s s' d).ah y=s' by exact(if_neg (λz2=>n1 z2.symm)).trans (if_pos rfl),show(g.gx x j y s s' d).den y=d by exact(if_neg (λz2=>n1 z2.symm)).trans (if_pos rfl)];refine u5.l8 λk' v' t' _ _ z=>z.map ?_ (λ_ q=>⟨q,rfl⟩) (λ_ _ q=>q);intro i' q;simp[AK]at q
  .refine⟨(st.rep y).nV rfl ((if_neg n2).trans (if_neg n3)) rfl rfl (hp y n2 n3) kl,?_⟩;have ho:=st.link y;unfold dy at ho⊢;rw[show(g.gx x j j' s s' d).cat y=g.cat y from rfl];rw[hr]at ho⊢;refine⟨?_,ho.2⟩;rw[show(g.gx x j j' s s' d).rv y=g.rv y from rfl,vr,show(g.gx x j j' s s' d).cs x=.arr d by exact if_pos rfl];exact cA j rfl (.inr hj) (if_pos rfl)
  .refine⟨(st.rep y).nV rfl ((if_neg n4).trans (if_neg n5)) rfl rfl (hp y n4 n5) kl,?_⟩;unfold dy;rw[show(g.gx x j j' s s' d).cat y=g.cat y from rfl,kE];simp only;rw[show(g.gx x j j' s s' d).rv y=g.rv y from rfl,vl,show(g.gx x j j' s s' d).cs x=.arr d by exact if_pos rfl];exact cA j' rfl jV ((if_neg (λz2=>n1 z2.symm)).trans (if_pos rfl))
theorem Mv.An{F:ak->Prop}{x j j':Nat}(hj:g.cat j=.C x)(jV:g.cat j'=.TC x)(kl:bg ms ms')(hl:ms'.length=ms.length)(hp:∀y,y≠j->y≠j'->ms'[y]?=ms[y]?)(hd:dR fW d)(h1:F (.C x))(h2:F (.TC x)):Mv F g (g.gx x j j' s s' d) ms ms':=by
 refine⟨by omega,kl,?_,?_,?_,?_⟩
 .intro y _ e;exact⟨e,hp y (by clear hp;rintro rfl;rw[hj]at e;exact ak.noConfusion e) (by rintro rfl;rw[jV]at e;exact ak.noConfusion e)⟩
 .intro y e;have e1:y≠j:=by rintro rfl;rw[hj]at e;exact ak.noConfusion e
  have e2:y≠j':=by rintro rfl;rw[jV]at e;exact ak.noConfusion e
  simp[Gh.gx,e1,e2,e]
 .intro y _ _ e;have e1:y≠j:=by rintro rfl;rw[hj]at e;exact e h1
  have e2:y≠j':=by rintro rfl;rw[jV]at e;exact e h2
  exact And.intro rfl (And.intro ((if_neg e1).trans (if_neg e2)) ((if_neg e1).trans (if_neg e2)))
 .intro h c;by_cases q:c=x
  .simp only[Gh.gx,q,if_true];exact hd
  .simp[Gh.gx,q,h c]
end
section
def ft(c:ak):Prop:=@ak.casesOn (λ_=>Prop) c True True False (λ_=>True) (λ_ _=>True) (λ_ _=>False) (λ_=>True) (λ_=>False) (λ_=>False) (λ_ _=>False) (λ_=>False) (λ_=>False) False
def du(c:ak):Prop:=@ak.casesOn (λ_=>Prop) c False False False (λ_=>False) (λ_ _=>False) (λ_ _=>False) (λ_=>False) (λ_=>False) (λ_=>True) (λ_ _=>True) (λ_=>True) (λ_=>False) False
def kA(c:ak):Prop:=@ak.casesOn (λ_=>Prop) c False False True (λ_=>False) (λ_ _=>False) (λ_ _=>True) (λ_=>False) (λ_=>True) (λ_=>False) (λ_ _=>False) (λ_=>False) (λ_=>False) False
noncomputable def Cw(c:ak):Bool:=@ak.casesOn (λ_=>Bool) c true false false (λ_=>false) (λ_ _=>false) (λ_ _=>false) (λ_=>false) (λ_=>false) (λ_=>false) (λ_ _=>false) (λ_=>false) (λ_=>false) false
theorem Gx{c:ak}(h:c≠.zm):Cw c=false:=by cases c<;>first|rfl|exact absurd rfl h
theorem bQ.arr{i:Nat}(r:bQ g ms i)(h:ft (g.cat i)):∃a:Ar,ms[i]?=some a.mo/\dW ms a/\a.ah=g.ah i/\a.sh=Cw (g.cat i):=by
 unfold bQ at r;revert h r;cases g.cat i<;>intro r h<;>first
  |(obtain⟨a,h1,h2,h3,h4⟩:=r;exact(gO a h1 h2 h4 h3))
  |exact h.elim
theorem bQ.jf{i:Nat}(r:bQ g ms i)(h:du (g.cat i)):ms[i]?=some (.dict (g.ah i)):=by unfold bQ at r;revert h r;cases g.cat i<;>intro r h<;>first|exact r|exact h.elim
theorem bQ.ref{i:Nat}(r:bQ g ms i)(h:kA (g.cat i)):ms[i]?=some (bt (g.rv i) (g.ho i)):=by unfold bQ at r;revert h r;cases g.cat i<;>intro r h<;>first|exact r|exact h.elim
theorem bQ.tl{i x:Nat}(r:bQ g ms i)(h:g.cat i=.tl x):ms[i]?=some (.list [g.rv i]):=by unfold bQ at r;rw[h]at r;exact r
noncomputable def f9:T->Ty
 |.none=>.none
 |.int _=>.int
 |_=>.c .arr
noncomputable def i6:T->Ty
 |.none=>.none
 |.int _=>.int
 |_=>.dict
theorem VR.f9{P:ak->Prop}(st:St g ms)(h:VR g P v t)(hP:∀c,P c->ft c):bG v ms=some (f9 t):=by
 unfold VR at h;cases t with
 |none=>subst h;rfl
 |int=>subst h;rfl
 |cell=>exact h.elim
 |arr es=>refine aY h λi bf h1 h2=>?_;clear h;subst bf;refine az ((st.rep i).arr (hP _ h1)) λa h3 _=>?_;simp[bG,h3,Ar.mo,Mine.Internal.f9]
theorem VR.i6{P:ak->Prop}(st:St g ms)(h:VR g P v t)(hP:∀c,P c->du c):bG v ms=some (i6 t):=by
 unfold VR at h;cases t with
 |none=>subst h;rfl
 |int=>subst h;rfl
 |cell=>exact h.elim
 |arr es=>obtain⟨i,rfl,h1,h2⟩:=h;have h3:=(st.rep i).jf (hP _ h1);simp[bG,h3,Mine.Internal.i6]
theorem dE(h:bG v ms=some t)(n:t≠.c .abs)(c:Ty):cg v ms c=some (fx t c):=by unfold cg;cases v<;>simp_all[bG]
theorem kL:f9 t≠.c .abs:=by cases t<;>simp[f9]
theorem mJ:i6 t≠.c .abs:=by cases t<;>exact λz4=>Ty.noConfusion z4
noncomputable def ko:T->Bool
 |.arr _=>true
 |_=>false
theorem qg(n:t≠c)(h:c≠.int):fx t c=false:=by simp[fx,n,h]
theorem gp.ty(h:bG v ms=some t)(n:t≠.c .abs):gp ms v:=by unfold gp;exact(dE h n _).trans (congrArg some (qg n nofun))
theorem kM(hc:ft c)(h:AK c k c1):ft c1:=by cases c<;>simp[AK,ft]at h hc<;>(try rcases h with rfl|rfl)<;>(try subst h)<;>simp[ft]
theorem Ao(hc:kA c)(h:VK c c1):ft c1:=by cases c<;>simp[VK,kA]at h hc<;>(try rcases h with rfl|rfl)<;>simp[ft]
theorem rI(h:RK c k c1):kA c1:=by cases c<;>simp[RK]at h<;>subst h<;>simp[kA]
theorem Ap{x:Nat}(hc:ft c):CK c x=.rc x:=by cases c<;>simp[ft]at hc<;>rfl
theorem pf{x:Nat}(hc:du c):CK c x=.tl x:=by cases c<;>simp[du]at hc<;>rfl
theorem lG(hc:du c)(h:AK c k c1):du c1:=by cases c<;>simp[AK,du]at h hc<;>(try subst h)<;>simp[du]
theorem lH(hc:du c)(h:RK c k c1):False:=by cases c<;>simp[RK,du]at h hc
theorem kN{r:Nat}(st:St g ms)(h:kA (g.cat r)):bG (.ref r) ms=some (.c .ref):=by have:=(st.rep r).ref h;simp[bG,this,bt]
theorem Be{r x:Nat}(st:St g ms)(h:g.cat r=.tl x):bG (.ref r) ms=some .list:=by have:=(st.rep r).tl h;simp[bG,this]
theorem pS(h:ft c):fQ c=.zm:=by cases c<;>first|rfl|exact h.elim
theorem nW(h:du c):fQ c=.zm:=by cases c<;>first|rfl|exact h.elim
inductive RW(g:Gh)(i:Nat)(k:DK):Prop
 |vp (h1:(g.ah i).lookup k=none) (h2:(g.den i).lookup k=none)
 |val (v:V) (t:T) (h1:(g.ah i).lookup k=some v) (h2:(g.den i).lookup k=some t) (h3:VR g (AK (g.cat i) k) v t) (h4:(k,v)∈g.ah i) (h5:(k,t)∈g.den i)
 |mT (r:Nat) (t:T) (h1:(g.ah i).lookup k=some (.ref r)) (h2:(g.den i).lookup k=some t) (h3:RK (g.cat i) k (g.cat r)) (h4:g.fq r=t) (h5:∀x,t≠.cell x) (h6:(k,.ref r)∈g.ah i) (h7:(k,t)∈g.den i)
 |cell (r x:Nat) (h1:(g.ah i).lookup k=some (.ref r)) (h2:(g.den i).lookup k=some (.cell x)) (h3:g.cat r=.rc x) (h4:(k,.ref r)∈g.ah i) (h5:(k,.cell x)∈g.den i)
theorem qw{i:Nat}(st:St g ms)(h:ft (g.cat i))(k:DK):RW g i k:=by
 rcases((st.link i).ent (pS h)).look (k:=k)with q|hr
 .exact .vp q.1 q.2
 .refine mO hr λv t q1 q2 q3 q4 q5=>?_;by_cases hc:∃x,t=.cell x
  .refine cW hc λx bf=>?_;clear hc;subst bf;refine az q3 λr bf e=>?_;clear q3;subst bf;rw[Ap h]at e;exact .cell r x q1 q2 e q4 q5
  .have q3:VR g (AK (g.cat i) k) v t\/∃r,v=.ref r/\RK (g.cat i) k (g.cat r)/\g.fq r=t:=by
    cases t with
    |cell x=>exact absurd ⟨x,rfl⟩ hc
    |_=>exact q3
   rcases q3 with q3|hr
   .exact .val v t q1 q2 q3 q4 q5
   .refine aY hr λr bf e1 e2=>?_;clear hr;clear q3;subst bf;exact .mT r t q1 q2 e1 e2 (λx e=>hc ⟨x,e⟩) q4 q5
inductive RX(g:Gh)(i:Nat)(k:DK):Prop
 |vp (h1:(g.ah i).lookup k=none) (h2:(g.den i).lookup k=none)
 |val (v:V) (t:T) (h1:(g.ah i).lookup k=some v) (h2:(g.den i).lookup k=some t) (h3:VR g (AK (g.cat i) k) v t) (h4:(k,v)∈g.ah i) (h5:(k,t)∈g.den i)
 |cell (r x:Nat) (h1:(g.ah i).lookup k=some (.ref r)) (h2:(g.den i).lookup k=some (.cell x)) (h3:g.cat r=.tl x) (h4:(k,.ref r)∈g.ah i) (h5:(k,.cell x)∈g.den i)
theorem qx{i:Nat}(st:St g ms)(h:du (g.cat i))(k:DK):RX g i k:=by
 rcases((st.link i).ent (nW h)).look (k:=k)with q|hr
 .exact .vp q.1 q.2
 .refine mO hr λv t q1 q2 q3 q4 q5=>?_;by_cases hc:∃x,t=.cell x
  .refine cW hc λx bf=>?_;clear hc;subst bf;refine az q3 λr bf e=>?_;clear q3;subst bf;rw[pf h]at e;exact .cell r x q1 q2 e q4 q5
  .have q3:VR g (AK (g.cat i) k) v t\/∃r,v=.ref r/\RK (g.cat i) k (g.cat r)/\g.fq r=t:=by
    cases t with
    |cell x=>exact absurd ⟨x,rfl⟩ hc
    |_=>exact q3
   rcases q3 with q3|hr
   .exact .val v t q1 q2 q3 q4 q5
   .refine aY hr λr _ e1 _=>?_;exact(lH h e1).elim
theorem KS{i x:Nat}(st:St g ms)(h:ft (g.cat i))(hx:(g.den i).lookup k=some (.cell x)):∃r,(g.ah i).lookup k=some (.ref r)/\g.cat r=.rc x:=by
 rcases qw st h k with⟨_,q2⟩|⟨_,_,_,q2,q3,_,_⟩|⟨_,_,_,q2,_,_,q5,_,_⟩|⟨r,y,q1,q2,q3,_,_⟩
 .exact aX (q2.symm.trans hx)
 .rw[Option.some.inj (q2.symm.trans hx)]at q3;exact q3.elim
 .exact absurd (Option.some.inj (q2.symm.trans hx)) (q5 x)
 .exact a0 r q1 (T.cell.inj (Option.some.inj (q2.symm.trans hx))▸q3)
theorem D3{i x:Nat}(st:St g ms)(h:du (g.cat i))(hx:(g.den i).lookup k=some (.cell x)):∃r,(g.ah i).lookup k=some (.ref r)/\g.cat r=.tl x:=by
 rcases qx st h k with⟨_,q2⟩|⟨_,_,_,q2,q3,_,_⟩|⟨r,y,q1,q2,q3,_,_⟩
 .exact aX (q2.symm.trans hx)
 .rw[Option.some.inj (q2.symm.trans hx)]at q3;exact q3.elim
 .exact a0 r q1 (T.cell.inj (Option.some.inj (q2.symm.trans hx))▸q3)
inductive RY(g:Gh)(i j:Nat)(k:DK)(o:Option T):Prop
 |vp (h1:(g.ah i).lookup k=none) (h2:(g.ah j).lookup k=none) (h3:o=none)
 |val (v u:V) (t:T) (h1:(g.ah i).lookup k=some v) (h2:(g.ah j).lookup k=some u) (h3:o=some t) (h4:∀x,t≠.cell x) (h5:VR g (AK (g.cat i) k) v t) (h6:VR g (AK (g.cat j) k) u t)
 |mT (r:Nat) (u:V) (t:T) (h1:(g.ah i).lookup k=some (.ref r)) (h2:(g.ah j).lookup k=some u) (h3:o=some t) (h4:∀x,t≠.cell x) (h5:RK (g.cat i) k (g.cat r)) (h6:g.fq r=t) (h7:VR g (AK (g.cat j) k) u t)
 |cell (r r' x:Nat) (h1:(g.ah i).lookup k=some (.ref r)) (h2:(g.ah j).lookup k=some (.ref r')) (h3:o=some (.cell x)) (h4:g.cat r=.rc x) (h5:g.cat r'=.tl x)
theorem RZ{i j:Nat}(st:St g ms)(ai:ft (g.cat i))(dj:du (g.cat j))(e:g.den i=g.den j)(k:DK):RY g i j k ((g.den i).lookup k):=by
 have dv:∀t,(g.den i).lookup k=some t->(∀x,t≠.cell x)->∃u,(g.ah j).lookup k=some u/\VR g (AK (g.cat j) k) u t:=λt h hc=>by
  rcases qx st dj k with⟨_,q2⟩|⟨u,_,q1,q2,q3,_,_⟩|⟨_,y,_,q2,_,_,_⟩
  .exact aX (q2.symm.trans (e▸h))
  .exact⟨u,q1,Option.some.inj (q2.symm.trans (e▸h))▸q3⟩
  .exact absurd (Option.some.inj (q2.symm.trans (e▸h))).symm (hc y)
 rcases qw st ai k with⟨q1,q2⟩|⟨v,t,q1,q2,q3,_,_⟩|⟨r,t,q1,q2,q3,q4,q5,_,_⟩|⟨r,x,q1,q2,q3,_,_⟩
 .rcases qx st dj k with⟨w1,_⟩|⟨_,_,_,w2,_,_,_⟩|⟨_,_,_,w2,_,_,_⟩
  .exact .vp q1 w1 q2
  .exact aX (q2.symm.trans (e▸w2))
  .exact aX (q2.symm.trans (e▸w2))
 .have hc:∀x,t≠.cell x:=λx e=>by rw[e]at q3;exact q3.elim
  exact az (dv t q2 hc) λu w1 w2=>.val v u t q1 w1 q2 hc q3 w2
 .exact az (dv t q2 q5) λu w1 w2=>.mT r u t q1 w1 q2 q5 q3 q4 w2
 .exact az (D3 st dj (e▸q2)) λr' w1 w2=>.cell r r' x q1 w1 q2 q3 w2
theorem dy.BX{g:Gh}{r:Nat}(h:dy g r)(hc:kA (g.cat r)):VR g (VK (g.cat r)) (g.rv r) (match g.cat r with|.rc x=>g.cs x|_=>g.fq r):=by unfold dy at h;revert h hc;cases g.cat r<;>intro h hc<;>first|exact h.1|exact hc.elim
theorem dy.Cx{r x:Nat}(h:dy g r)(hc:g.cat r=.tl x):VR g (VK (.tl x)) (g.rv r) (g.cs x):=by unfold dy at h;rw[hc]at h;exact h
theorem R0{h:Int}:List.lookup "value" [("value",FV.val v),("holders",.val (.int h)),("types",.lst x)]=some (.val v):=rfl
theorem Ho{h:Int}:List.lookup "holders" [("value",FV.val v),("holders",.val (.int h)),("types",.lst x)]=some (.val (.int h)):=rfl
theorem zf(h:bG v ms=some t)(n:t≠.c .abs)(n2:t≠.c .ref):jy [v] ms=some (v,ms):=by have e1:=dE h n (.c .ref);have e2:=dE h n (.c .abs);have e3:=qg n2 nofun;have e4:=qg n nofun;delta jy wx;refine(cV rfl).trans ?_;simp_arith! [e1,e2,e3,e4]
theorem y8{r:Nat}{h:Int}(e:ms[r]?=some (bt v h))(q:bG v ms=some t)(n:t≠.c .abs):jy [.ref r] ms=some (v,ms):=by
 have e1:cg (.ref r) ms (.c .ref)=some true:=by rw[dE (t:=.c .ref) (by simp[bG,e,bt]) (by simp)];rfl
 have e2:=dE q n (.c .abs);have e4:=qg n nofun;delta jy wx;refine(cV rfl).trans ?_;simp_arith! [e1,e2,e4,e,bt]
def FB(c:ak):Prop:=@ak.casesOn (λ_=>Prop) c False False False (λ_=>False) (λb _=>True) (λ_ _=>False) (λb=>True) (λ_=>False) (λ_=>False) (λ_ _=>False) (λ_=>False) (λ_=>False) False
theorem Oe(h:ju c):ft c:=nL h trivial trivial (λ_ _=>trivial) λ_=>trivial
theorem VT{pk ks vs hs ns c nx at_ sh}:fj "is_shared" (.val (.bool true)) (aM pk ks vs hs ns c nx at_ sh)=aM pk ks vs hs ns c nx at_ true:=rfl
theorem sW{F:ak->Prop}{P:ak->Prop}(st:St g ms)(hP:∀c,P c->ju c)(hF:∀c,P c->c≠.zm->c≠.zu->F c)(h:VR g P v t):∃(aI:Nat->ak) (ms':Hp),kJ [v] ms=some (v,ms')/\St (g.re aI) ms'/\VR (g.re aI) (·=.zm) v t/\ms'.length=ms.length/\Mv F g (g.re aI) ms ms':=by
 have nX:=h.f9 st λc q=>Oe (hP c q);have e1:=dE nX kL (.c .arr);delta kJ wh;rw[cV (by rfl)];cases t with
 |cell x=>exact h.elim
 |none=>have e2:cg v ms (.c .arr)=some false:=e1;exact wY g.cat ms (by simp_arith[ag,aW,ao,bq,aG,aR,bR,cz,dk,aw,ba,aK,bC,aS,cy,bz,dV,dQ,df,aB,dF,aP,a9,b9,bj,dw,c8,aq,bw,dB,aa,af,bI,bE,aU,aO,ay,nm,ae,ax,av.set,bJ,dA,dI,aE,cB,bc,dC,dh,cT,dS,fc,d3,fe,dK,ff,dM,dZ,eu,eH,eI,d9,eg,eA,d0,dJ,d8,eQ,eB,ee,eD,eC,eG,eU,eW,eJ,eM,eN,eX,e8,e9,fb,eO,eY,e2]) st h rfl Mv.refl
 |int i=>have e2:cg v ms (.c .arr)=some false:=e1;exact wY g.cat ms (by simp_arith[ag,aW,ao,bq,aG,aR,bR,cz,dk,aw,ba,aK,bC,aS,cy,bz,dV,dQ,df,aB,dF,aP,a9,b9,bj,dw,c8,aq,bw,dB,aa,af,bI,bE,aU,aO,ay,nm,ae,ax,av.set,bJ,dA,dI,aE,cB,bc,dC,dh,cT,dS,fc,d3,fe,dK,ff,dM,dZ,eu,eH,eI,d9,eg,eA,d0,dJ,d8,eQ,eB,ee,eD,eC,eG,eU,eW,eJ,eM,eN,eX,e8,e9,fb,eO,eY,e2]) st h rfl Mv.refl
 |arr es=>
  have e2:cg v ms (.c .arr)=some true:=e1;refine aY h λi bf h1 h2=>?_;clear e1 h nX;subst bf;refine aY (Hm (hP _ h1) (st.rep i)) λa h3 h4 h5=>?_;refine wY _ _ ?_ (st.mark (hP _ h1) h3 h4 h5) ⟨i,rfl,by exact if_pos rfl,h2⟩ length_set (Mv.mark (hP _ h1) h3 (hF _ h1))
  .have hm:a.marked.mo=.inst .arr (aM a.pk a.ks a.vs a.hs a.ns a.ah.length a.nx a.at_ true):=rfl;have Cy:ms[i]?=some (.inst .arr (aM a.pk a.ks a.vs a.hs a.ns a.ah.length a.nx a.at_ a.sh)):=h3;rw[hm];simp_arith[ag,aW,ao,bq,aG,aR,bR,cz,dk,aw,ba,aK,bC,aS,cy,bz,dV,dQ,df,aB,dF,aP,a9,b9,bj,dw,c8,aq,bw,dB,aa,af,bI,bE,aU,aO,ay,nm,ae,ax,av.set,bJ,dA,dI,aE,cB,bc,dC,dh,cT,dS,fc,d3,fe,dK,ff,dM,dZ,eu,eH,eI,d9,eg,eA,d0,dJ,d8,eQ,eB,ee,eD,eC,eG,eU,eW,eJ,eM,eN,eX,e8,e9,fb,eO,eY,e2,Cy]
end
section
def Pd(n:Nat)(v:V):Prop:=∃d,pd v=some d/\d.canLay0=true/\d.depth<=n
theorem zU{n:Nat}:∀{vs:List V},(∀v∈vs,Pd n v)->∃ds,pM vs=some ds/\PyData.canLayAll0 ds=true/\PyData.depthAll ds<=n
 |[],_=>(cA ([]) rfl rfl (zero_le _))
 |v::vs,h=>by refine aY (h v (.head _)) λd h1 h2 h3=>?_;refine aY (zU λu m=>h u (.tail _ m)) λds h4 h5 h6=>?_;exact⟨d::ds,by simp[pM,h1,h4],by simp[PyData.canLayAll0,h2,h5],by simp[PyData.depthAll];omega⟩
theorem Pd.tup{n:Nat}(h:∀v∈vs,Pd n v):Pd (n+1) (.tup vs):=by refine aY (zU h) λds h4 h5 h6=>?_;exact cA (.tuple ds) (by simp[pd,h4]) (by simp[PyData.canLay0,h5]) (by simp[PyData.depth];omega)
theorem Pd.lst{n:Nat}(h:∀v∈vs,Pd n v):Pd (n+1) (.lst vs):=by refine aY (zU h) λds h4 h5 h6=>?_;exact cA (.list ds) (by simp[pd,h4]) (by simp[PyData.canLay0,h5]) (by simp[PyData.depth];omega)
theorem Pd.mono{n m:Nat}(h:Pd n v)(q:n<=m):Pd m v:=by refine aY h λd h1 h2 h3=>?_;exact cA d h1 h2 (by omega)
theorem Pd.int{n:Nat}{i:Int}:Pd n (.int i):=(cA (.int i) rfl rfl (zero_le _))
theorem Pd.none{n:Nat}:Pd n .none:=(cA .none rfl rfl (zero_le _))
theorem Pd.str{n:Nat}(h:(PyData.str (ofString s)).canLay0=true):Pd n (.str s):=(cA (.str (ofString s)) rfl h (zero_le _))
theorem Pd.eq(h:Pd 64 v):mS .Eq v v=some true:=by refine aY h λd h1 h2 h3=>?_;have e:=SeqAt.eqv_refl d h2;unfold mS;rw[h1];simp[SeqAt.shaped,h2,h3,e]
theorem Pd.ne(h:Pd 64 v):mS .NotEq v v=some false:=by refine aY h λd h1 h2 h3=>?_;have e:=SeqAt.eqv_refl d h2;unfold mS;rw[h1];simp[SeqAt.shaped,h2,h3,e]
theorem Pd.key{n:Nat}(h:de k):Pd n k.val:=by
 rcases h with rfl|rfl|rfl|rfl
 .exact Pd.int
 .exact Pd.int
 .exact Pd.int
 .exact Pd.str (by decide+kernel)
def lB(f:T->V)(es:List (DK×T)):V:=.tup [.str "array",.tup (es.map λe=>.tup [e.1.val,f e.2])]
noncomputable def iu:T->V
 |.int i=>.tup [.str "int",.int i]
 |_=>.tup [.str "null",.none]
def qP:T->V
 |.arr es=>lB iu es
 |t=>iu t
def oM(cs:Nat->T):T->V
 |.cell c=>qP (cs c)
 |t=>iu t
def pU(cs:Nat->T):T->V
 |.arr es=>lB (oM cs) es
 |t=>oM cs t
def lC(cs:Nat->T):T->V
 |.arr es=>lB (pU cs) es
 |t=>iu t
theorem Pd.iu:Pd 1 (iu t):=by cases t<;>refine Pd.tup λv m=>?_<;>simp at m<;>rcases m with rfl|rfl<;>first|exact Pd.int|exact Pd.none|exact Pd.str (by decide+kernel)
theorem Pd.lB{n:Nat}{f:T->V}{P:T->Prop}(h:dR P es)(hf:∀t,P t->Pd n (f t)):Pd (n+3) (lB f es):=by
 refine Pd.tup λv m=>?_;simp at m;rcases m with rfl|rfl
 .exact Pd.str (by decide+kernel)
 .refine Pd.tup λv m=>?_;refine az (mem_map.mp m) λe me bL=>?_;clear m;subst bL;refine Pd.tup λv m'=>?_;simp at m';rcases m' with rfl|rfl
  .exact Pd.key (h.ok e me).1
  .exact hf _ (h.ok e me).2
theorem Pd.qP(h:LF t):Pd 4 (qP t):=by
 cases t with
 |arr es=>exact Pd.lB (P:=fW) h λt _=>Pd.iu
 |none=>exact Pd.mono (n:=1) (Pd.iu (t:=.none)) (by decide)
 |int i=>exact Pd.mono (n:=1) (Pd.iu (t:=.int i)) (by decide)
 |cell _=>exact h.elim
theorem Pd.oM{cs:Nat->T}(hc:∀c,LF (cs c))(h:L1 t):Pd 4 (oM cs t):=by
 cases t with
 |arr es=>exact h.elim
 |none=>exact Pd.mono (n:=1) (Pd.iu (t:=.none)) (by decide)
 |int i=>exact Pd.mono (n:=1) (Pd.iu (t:=.int i)) (by decide)
 |cell c=>exact Pd.qP (hc c)
theorem Pd.pU{cs:Nat->T}(hc:∀c,LF (cs c))(h:L2 t):Pd 7 (pU cs t):=by
 cases t with
 |arr es=>exact Pd.lB (P:=L1) h λt q=>Pd.oM hc q
 |none=>exact Pd.mono (n:=1) (Pd.iu (t:=.none)) (by decide)
 |int i=>exact Pd.mono (n:=1) (Pd.iu (t:=.int i)) (by decide)
 |cell c=>exact Pd.mono (n:=4) (Pd.qP (hc c)) (by decide)
theorem Pd.lC{cs:Nat->T}(hc:∀c,LF (cs c))(h:L3 t):Pd 10 (lC cs t):=by
 cases t with
 |arr es=>exact Pd.lB (P:=L2) h λt q=>Pd.pU hc q
 |none=>exact Pd.mono (n:=1) (Pd.iu (t:=.none)) (by decide)
 |int i=>exact Pd.mono (n:=1) (Pd.iu (t:=.int i)) (by decide)
 |cell c=>exact h.elim
theorem v3{upd:V->av->Option av}{α:Type}(zs:List α)(enc:α->V)(I:List α->av->Hp->Prop)(step:∀pre z post,zs=pre++z::post->∀l ms,I pre l ms->∃l1 l2 iZ,upd (enc z) l=some l1/\b l1 ms=some (.next,l2,iZ)/\I (pre++[z]) l2 iZ)(h:I [] l ms):
 ∃l' ms',kW upd b (zs.map enc) l ms=some (.next,l',ms')/\I zs l' ms':=by
 have:∀(post pre:List α) (l:av) (ms:Hp),zs=pre++post->I pre l ms->∃l' ms',kW upd b (post.map enc) l ms=some (.next,l',ms')/\I zs l' ms':=by
  intro post;induction post with
  |nil=>intro pre l ms e h;rw[List.append_nil]at e;subst e;exact⟨l,ms,rfl,h⟩
  |cons z post ih=>intro pre l ms e h;refine lR (step pre z post e l ms h) λl1 l2 iZ h1 h2 h3=>?_;refine fH (ih (pre++[z]) l2 iZ (by simp[e]) h3) λl' ms' h4 h5=>?_;exact gZ l' ms' (by simp only[map_cons,kW,h1,h2,h4]) h5
 exact this zs [] l ms rfl h
theorem mE{upd:V->av->Option av}{α:Type}(zs:List α)(enc:α->V)(hz:zs.length<=1000)(I:List α->List V->av->Hp->Prop)(step:∀pre z post,zs=pre++z::post->∀acc l ms,I pre acc l ms->∃l',upd (enc z) l=some l'/\
 ((∃kG x iZ,c l' ms=some (true,kG)/\e l' kG=some (x,iZ)/\I (pre++[z]) (acc++[x]) l' iZ)\/(∃kG,c l' ms=some (false,kG)/\I (pre++[z]) acc l' kG)))(h:I [] [] l ms):
 ∃acc l' ms',ja upd c e (zs.map enc) l ms []=some (acc,ms')/\I zs acc l' ms':=by
 have:∀(post pre:List α) (acc:List V) (l:av) (ms:Hp),zs=pre++post->acc.length<=pre.length->I pre acc l ms->∃sf l' ms',ja upd c e (post.map enc) l ms acc=some (sf,ms')/\I zs sf l' ms':=by
  intro post;induction post with
  |nil=>intro pre acc l ms e ha h;rw[List.append_nil]at e;subst e;exact wZ acc l ms (by simp[ja];omega) h
  |cons z post ih=>
   intro pre acc l ms e ha h;have hl:pre.length<zs.length:=by rw[e];simp
   refine az (step pre z post e acc l ms h) λl' h1 h2=>?_;rcases h2 with hr|hr
   .refine lR hr λkG x iZ h2 h3 h4=>?_;refine nA (ih (pre++[z]) (acc++[x]) l' iZ (by simp[e]) (by simp;omega) h4) λsf l2 ms' h5 h6=>?_;have S9:acc.length<=1000:=by omega
    exact wZ sf l2 ms' (by simp only[map_cons,ja,h1,h2,h3,S9,if_true,h5]) h6
   .refine az hr λkG h2 h3=>?_;refine nA (ih (pre++[z]) acc l' kG (by simp[e]) (by simp;omega) h3) λsf l2 ms' h5 h6=>?_;exact wZ sf l2 ms' (by simp only[map_cons,ja,h1,h2,h5]) h6
 exact this zs [] [] l ms rfl (by simp) h
inductive Bf(upd:V->av->Option av)(c:MB)(e:ME)(ms:Hp)(v:V)(l:av):Option V->Prop
 |t {l':av} {x:V} (h:upd v l=some l') (hc:c l' ms=some (true,ms)) (he:e l' ms=some (x,ms)):Bf upd c e ms v l (some x)
 |f {l':av} (h:upd v l=some l') (hc:c l' ms=some (false,ms)):Bf upd c e ms v l none
theorem v5{upd:V->av->Option av}{c:MB}{e:ME}{bU:ML}{gV:List String}{l:av}{ms:Hp}{α:Type}(zs:List α)(enc:α->V)(f:α->Option V)(hs:bU l ms=some (zs.map enc,ms))(hz:zs.length<=1000)(H:∀z∈zs,∀l,Bf upd c e ms (enc z) l (f z)):cM bU gV upd c e l ms=some (zs.filterMap f,ms):=by
 refine nA (mE (upd:=upd) (c:=c) (e:=e) zs enc hz (λpre acc l m=>m=ms/\acc=pre.filterMap f) (λpre z post eq acc l m h=>?_) (l:=iL gV l) ⟨rfl,rfl⟩) λacc l' m' h1 h2=>?_
 .clear hs;obtain⟨rfl,rfl⟩:=h;have hH:=H z (eq▸mem_append_right _ (.head _)) l;generalize hf:f z=o at hH;cases hH with
  |t h hc he=>exact(a0 _ h (.inl ⟨m,_,m,hc,he,rfl,by rw[filterMap_append];simp[hf]⟩))
  |f h hc=>exact(a0 _ h (.inr ⟨m,hc,rfl,by rw[filterMap_append];simp[hf]⟩))
 .clear H;obtain⟨rfl,rfl⟩:=h2;exact tR hs h1
theorem bX.zip:∀{xs:List (DK×V)} {es:List (DK×T)},bX g c xs es->∃zs:List (DK×V×T),xs=zs.map (λz=>(z.1,z.2.1))/\es=zs.map (λz=>(z.1,z.2.2))/\∀z∈zs,SR g c z.1 z.2.1 z.2.2
 |[],[],_=>(cA ([]) rfl rfl (by simp))
 |(k,v)::xs,(k',t)::es,h=>by
  refine fm h λjF h2 h3=>?_;clear h;subst jF;refine aY (bX.zip h3) λzs e1 e2 e3=>?_;refine cA ((k,v,t)::zs) (by simp[e1]) (by simp[e2]) ?_;intro z m;rcases mem_cons.mp m with rfl|m
  .exact h2
  .exact e3 z m
 |[],_::_,h=>h.elim
 |_::_,[],h=>h.elim
theorem bQ.grow{ms:Hp}{xs:List MO}(st:St g ms)(j:Nat):bQ g (ms++xs) j:=by
 by_cases q:j<ms.length
 .exact(st.rep j).nV rfl rfl rfl rfl (getElem?_append_left q) bg.append
 .exact bQ.no (st.fresh j (by omega))
theorem St.grow{ms:Hp}{xs:List MO}(st:St g ms):St g (ms++xs):=⟨λj=>bQ.grow st j,st.link,λj h=>st.fresh j (by simp at h;omega),st.uC,st.uL,λj c e=>by have:=st.cb j c e;simp;omega⟩
theorem FC:(v=.none->wJ [v] ms=some (.str "null",ms))/\(∀i,v=.int i->wJ [v] ms=some (.str "int",ms)):=by
 refine⟨?_,?_⟩
 .rintro rfl;rfl
 .rintro i rfl;refine(cV (by rfl)).trans ?_;simp_arith[ag,aW,ao,bq,aG,aR,bR,cz,dk,aw,ba,aK,bC,aS,cy,bz,dV,dQ,df,aB,dF,aP,a9,b9,bj,dw,c8,aq,bw,dB,aa,af,bI,bE,aU,aO,ay,nm,ae,ax,av.set,bJ,dA,dI,aE,cB,bc,dC,dh,cT,dS,fc,d3,fe,dK,ff,dM,dZ,eu,eH,eI,d9,eg,eA,d0,dJ,d8,eQ,eB,ee,eD,eC,eG,eU,eW,eJ,eM,eN,eX,e8,e9,fb,eO,eY,hZ,mP,qG,rX,cg,bG,fx]
theorem v7{n:Nat}(h:(t=.none/\v=.none)\/∃i,t=.int i/\v=.int i):jZ (n+1) [v,.lst ab] ms=some (iu t,ms):=by
 rw[jZ];refine(cV rfl).trans ?_;rcases h with hr|hr
 .obtain⟨rfl,rfl⟩:=hr;have:=(FC (v:=.none) (ms:=ms)).1 rfl;simp_arith[sZ,ag,aW,ao,bq,aG,aR,bR,cz,dk,aw,ba,aK,bC,aS,cy,bz,dV,dQ,df,aB,dF,aP,a9,b9,bj,dw,c8,aq,bw,dB,aa,af,bI,bE,aU,aO,ay,nm,ae,ax,av.set,bJ,dA,dI,aE,cB,bc,dC,dh,cT,dS,fc,d3,fe,dK,ff,dM,dZ,eu,eH,eI,d9,eg,eA,d0,dJ,d8,eQ,eB,ee,eD,eC,eG,eU,eW,eJ,eM,eN,eX,e8,e9,fb,eO,eY,cg,bG,fx,this,iu]
 .obtain⟨i,rfl,rfl⟩:=hr;have:=(FC (v:=.int i) (ms:=ms)).2 i rfl;simp_arith[sZ,ag,aW,ao,bq,aG,aR,bR,cz,dk,aw,ba,aK,bC,aS,cy,bz,dV,dQ,df,aB,dF,aP,a9,b9,bj,dw,c8,aq,bw,dB,aa,af,bI,bE,aU,aO,ay,nm,ae,ax,av.set,bJ,dA,dI,aE,cB,bc,dC,dh,cT,dS,fc,d3,fe,dK,ff,dM,dZ,eu,eH,eI,d9,eg,eA,d0,dJ,d8,eQ,eB,ee,eD,eC,eG,eU,eW,eJ,eM,eN,eX,e8,e9,fb,eO,eY,cg,bG,fx,this,iu]
end
section
theorem Of{α:Type}{xs ys:List α}{x y:α}:(xs++x::ys).set xs.length y=xs++y::ys:=by simp
theorem Og{α:Type}{xs ys:List α}{x:α}:(xs++x::ys)[xs.length]?=some x:=by simp
theorem zg{ms:Hp}{i n:Nat}{above:List V}{f:T->V}(st:St g ms)(hi:ft (g.cat i))(Cz:∀v∈above,∃a,v=.ref a/\a≠i)(qQ:above.length<=8)
 (H:∀k v t,(k,v)∈g.ah i->(k,t)∈g.den i->SR g (g.cat i) k v t->∀xs,∃w ys,jy [v] (ms++xs)=some (w,ms++xs)/\jZ n [w,.lst (above++[.ref i])] (ms++xs)=some (f t,ms++xs++ys)):
 ∃ys,jZ (n+1) [.ref i,.lst above] ms=some (lB f (g.den i),ms++ys):=by
 refine fI ((st.rep i).arr hi) λa ha ok hl _=>?_;refine aY (((st.link i).ent (pS hi)).zip) λzs ez ed hz=>?_;have nX:bG (.ref i) ms=some (.c .arr):=by simp[bG,ha,Ar.mo]
 have z4:zs.length<=4:=by have:=ok.sA;rw[hl,ez]at this;simpa using this
 have t1:=dE nX (by simp) .obj;have t2:=dE nX (by simp) (.c .arr);have CA:cg (.ref i) ms .obj=some false:=t1;have CB:cg (.ref i) ms (.c .arr)=some true:=t2;rw[jZ,cV (by rfl)];unfold sZ;rw[show(ax ["value","above"] ([V.ref i,V.lst above]++[]))=ax ["value","above"] [V.ref i,V.lst above]from rfl];have l1:ax ["value","above"] [V.ref i,V.lst above] "value"=some (.ref i):=rfl;have l2:ax ["value","above"] [V.ref i,V.lst above] "above"=some (.lst above):=rfl;generalize ax ["value","above"] [V.ref i,V.lst above]=L at l1 l2;have c1:aw (aO (nm "value") .obj) L ms=some (false,ms):=by simp_arith! [l1,CA]
 have c2:ba (aw (aO (nm "value") (.c .arr))) L ms=some (false,ms):=by simp_arith! [l1,CB]
 rw[aZ ((fG c1).trans bZ),aZ ((fG c2).trans bZ)];have iX:∃L1 m1,gU (iy (gD (bj (bc (nm "above"))))) (λv l=>some (l.set "up" v)) (ag (aG (aB .Is (au (nm "above") (nm "up")) (nm "value")) (ag (aW (aU (aa (ae (.str "again")) (aa (aE .Sub (bj (bc (nm "above"))) (nm "up")) (af))))) (ao)) (ao)) (ao)) L ms=some (.next,L1,m1)/\L1 "value"=some (.ref i)/\L1 "above"=some (.lst above)/\m1=ms:=by
  have hs:iy (gD (bj (bc (nm "above")))) L ms=some (gF above.length,ms):=by
   have z1:above.length<=1000:=by omega
   have z2:(above.length:Int)<=1000:=by omega
   simp_arith! [l2,z1,z2]
  have key:=Ej (upd:=λv l=>some (l.set "up" v)) (b:=(ag (aG (aB .Is (au (nm "above") (nm "up")) (nm "value")) (ag (aW (aU (aa (ae (.str "again")) (aa (aE .Sub (bj (bc (nm "above"))) (nm "up")) (af))))) (ao)) (ao)) (ao))) (n:=above.length)
   (λp l m=>l "value"=some (.ref i)/\l "above"=some (.lst above)/\m=ms) ?_ (l:=L) (ms:=ms) ⟨l1,l2,rfl⟩
  .refine iz key λL1 m1 e i1 i2 i3=>?_;exact kQ L1 m1 (by simp only[gU,hs,e]) i1 i2 i3
  .clear H c1 c2 ha hs nX ok st t1 CA t2 CB;rintro p hp l m ⟨h1,h2,rfl⟩;refine az (Cz _ (List.getElem_mem hp)) λb hb gB=>?_;have z1:above.length<=1000:=by omega
   refine tT (l.set "up" (.int p)) (l.set "up" (.int p)) m rfl ?_ h1 h2 rfl;have e3:above[p]?=some (.ref b):=by simp[hp,hb]
   have c3:aB .Is (au (nm "above") (nm "up")) (nm "value") (l.set "up" (.int p)) m=some (false,m):=by have q:=j8 (xs:=above) (p:=p);rw[e3]at q;simp_arith[aB,au,ay,nm,av.set,h1,h2,gm,z1,q,hZ,mP,qG,rX,gB]
   rw[aZ ((fG c3).trans bZ),bZ]
 refine iz iX λL1 m1 e1 i1 i2 jE=>?_;clear iX;clear c1 c2 nX st t1 CA t2 CB;subst jE;rw[aZ e1];have e2:bq "rows" (kh (bI (af))) L1 m1=some (.next,L1.set "rows" (.ref m1.length),m1++[.list []]):=by simp_arith! [ia]
 rw[aZ e2];have m7:=pY (ms:=m1++[.list []]) (a:=a) (i:=i) (by rw[getElem?_append_left (List.getElem?_eq_some_iff.mp ha).1];exact ha) (ok.mono bg.append);rw[hl]at m7;have hs:gG (aq (jx) (aa (nm "value") (af))) (L1.set "rows" (.ref m1.length)) (m1++[.list []])=some (zs.map (λz=>.tup [z.1.val,z.2.1]),m1++[.list []]):=by have e:L1.set "rows" (.ref m1.length) "value"=some (.ref i):=i1;simp only[gG,ay,aq,aa,af,nm,e,Option.map_some,m7,Aj,ez,map_map];rfl
 have key:=v3 (upd:=λv l=>match v with|.tup [p,q]=>some ((l.set "key" p).set "slot" q)|_=>none) (b:=(ag (aR (kx (nm "rows") (aU (aa (nm "key") (aa (aq (jZ n) (aa (aq (jy) (aa (nm "slot") (af))) (aa (bE (jQ (bc (nm "above")) (bI (aa (nm "value") (af))))) (af)))) (af)))))) (ao))) zs (λz=>V.tup [z.1.val,z.2.1])
  (λpre l m=>l "value"=some (.ref i)/\l "above"=some (.lst above)/\l "rows"=some (.ref m1.length)/\∃xs,m=m1++.list (pre.map λz=>.tup [z.1.val,f z.2.2])::xs) ?_
  (l:=L1.set "rows" (.ref m1.length)) (ms:=m1++[.list []]) ⟨i1,i2,rfl,[],rfl⟩
 .obtain⟨L2,m2,e3,j1,j2,j3,xs,rfl⟩:=key;rw[aZ (show gU _ _ _ _ _=some (.next,L2,_) by simp only[gU,hs];exact e3)];refine kP (.list (zs.map λz=>.tup [z.1.val,f z.2.2])::xs) ?_;simp_arith[ag,aW,aU,aa,af,ae,oo,bc,ay,nm,j3,lB,ed]
 .rintro pre z post e l m ⟨h1,h2,h3,xs,rfl⟩;obtain⟨k,v,t⟩:=z;have mz:(k,v,t)∈zs:=by rw[e];exact mem_append_right _ mem_cons_self
  refine fH (H k v t (by rw[ez];exact mem_map.mpr ⟨_,mz,rfl⟩) (by rw[ed];exact mem_map.mpr ⟨_,mz,rfl⟩) (hz _ mz) (.list (pre.map λz=>.tup [z.1.val,f z.2.2])::xs)) λw ys q1 q2=>?_;refine⟨(l.set "key" k.val).set "slot" v,(l.set "key" k.val).set "slot" v,m1++.list ((pre++[(k,v,t)]).map λz=>.tup [z.1.val,f z.2.2])::(xs++ys),rfl,?_,h1,h2,h3,_,rfl⟩;have z1:above.length<=1000:=by omega
  have z2:above.length+1<=1000:=by omega
  have z3:pre.length<=900:=by have:=congrArg List.length e;simp at this;omega
  have ev:aU (aa (nm "key") (aa (aq (jZ n) (aa (aq (jy) (aa (nm "slot") (af))) (aa (bE (jQ (bc (nm "above")) (bI (aa (nm "value") (af))))) (af)))) (af))) ((l.set "key" k.val).set "slot" v) (m1++.list (pre.map λz=>.tup [z.1.val,f z.2.2])::xs)=some (.tup [k.val,f t],m1++.list (pre.map λz=>.tup [z.1.val,f z.2.2])::(xs++ys)):=by have g1:((l.set "key" k.val).set "slot" v) "key"=some k.val:=rfl;have g2:((l.set "key" k.val).set "slot" v) "slot"=some v:=rfl;have g3:((l.set "key" k.val).set "slot" v) "above"=some (.lst above):=h2;have g4:((l.set "key" k.val).set "slot" v) "value"=some (.ref i):=h1;rw[List.append_assoc,List.cons_append]at q2;simp_arith! [jQ,g1,g2,g3,g4,q1,q2,z1,z2]
  have g5:((l.set "key" k.val).set "slot" v) "rows"=some (.ref m1.length):=h3;simp_arith! [g5,Option.map_some,Og,ev,length_map,z3,if_true,Of,List.map_append,map_cons,List.map_nil]
end
section
noncomputable def dT(cs:Nat->T):T->T
 |.cell x=>cs x
 |t=>t
theorem zI(st:St g m)(hc:ft c)(s:SR g c k v t):∃w,jy [v] m=some (w,m)/\VR g ft w (dT g.cs t):=by
 have ne1:∀t,f9 t≠.c .abs:=λt=>kL;have ne2:∀t,f9 t≠.c .ref:=λt=>by cases t<;>simp[f9]
 have mT:∀r,kA (g.cat r)->jy [.ref r] m=some (g.rv r,m)/\VR g ft (g.rv r) (match g.cat r with|.rc x=>g.cs x|_=>g.fq r):=by intro r hr;have e:=(st.rep r).ref hr;have q:=((st.link r).BX hr).map (g':=g) (P':=ft) λi z=>⟨Ao hr z,rfl⟩;exact⟨y8 e (q.f9 st λ_ z=>z) (ne1 _),q⟩
 have main:(∀x,t≠.cell x)->(VR g (AK c k) v t\/∃r,v=.ref r/\RK c k (g.cat r)/\g.fq r=t)->∃w,jy [v] m=some (w,m)/\VR g ft w t:=by
  intro hx h;rcases h with h|hr
  .have q:=h.map (g':=g) (P':=ft) λi z=>⟨kM hc z,rfl⟩;exact a0 v (zf (q.f9 st λ_ z=>z) (ne1 _) (ne2 _)) q
  .clear s;obtain⟨r,rfl,h1,h2⟩:=hr;refine bT (mT r (rI h1)) λq1 q2=>?_;refine a0 _ q1 ?_;have:(match g.cat r with|.rc x=>g.cs x|_=>g.fq r)=g.fq r:=by cases hr:g.cat r<;>first|rfl|(exfalso;rw[hr]at h1;clear hc;cases c<;>simp[RK]at h1;done)
   rw[this,h2]at q2;exact q2
 cases t with
 |cell x=>refine az s λr bf h=>?_;clear main;clear s;subst bf;rw[Ap hc]at h;obtain⟨q1,q2⟩:=mT r (by rw[h];trivial);rw[h]at q2;exact a0 _ q1 q2
 |none=>exact main (by intro x e;exact T.noConfusion e) s
 |int i=>exact main (by intro x e;exact T.noConfusion e) s
 |arr es=>exact main (by intro x e;exact T.noConfusion e) s
def NL(g:Gh)(v:V):Prop:=∃a,v=.ref a/\∃e∈g.den a,¬fW e.2
def HA(g:Gh)(v:V):Prop:=∃a,v=.ref a/\∃e∈g.den a,ko e.2=true
theorem HA.nl(h:HA g v):NL g v:=by obtain⟨a,h1,e,h2,h3⟩:=h;refine⟨a,h1,e,h2,?_⟩;cases q:e.2<;>simp[q,ko,fW]at h3⊢
theorem mH{g:Gh}{P:ak->Prop}{w:V}{t:T}(h:VR g P w t)(l:fW t):(t=.none/\w=.none)\/∃i,t=.int i/\w=.int i:=by
 cases t with
 |none=>exact .inl ⟨rfl,h⟩
 |int i=>exact .inr ⟨i,rfl,h⟩
 |arr es=>exact l.elim
 |cell x=>exact l.elim
theorem zV{g:Gh}{m:Hp}{n:Nat}{w:V}{t:T}{above:List V}(st:St g m)(h:VR g ft w t)(l:LF t)(ha:¬fW t->∀v∈above,NL g v)(qQ:above.length<=8):∃ys,jZ (n+2) [w,.lst above] m=some (qP t,m++ys):=by
 by_cases lt:fW t
 .refine kP ([]) ?_;rw[List.append_nil,v7 (n:=n+1) (mH h lt)];clear h ha l;cases t<;>first|rfl|exact lt.elim
 .cases t with
  |none=>exact absurd trivial lt
  |int i=>exact absurd trivial lt
  |cell x=>exact l.elim
  |arr es=>
   refine aY h λi bf h1 h2=>?_;clear h;subst bf;have l:dR fW es:=l;have:=zg (n:=n+1) (above:=above) (f:=iu) st h1 ?_ qQ ?_
   .rw[h2]at this;exact this
   .intro v hv;obtain⟨a,e1,e,e2,e3⟩:=ha lt v hv;refine a0 a e1 ?_;clear h1;rintro rfl;rw[h2]at e2;exact e3 (l.ok e e2).2
   .intro k v t m1 m2 s xs;rw[h2]at m2;have lt:=(l.ok _ m2).2;have s':SR g (g.cat i) k v t:=s;refine az (zI (m:=m++xs) st.grow h1 s') λw q1 q2=>?_;have:dT g.cs t=t:=by clear m2 q2 s s';cases t<;>first|rfl|exact lt.elim
    rw[this]at q2;exact gZ w ([]) q1 (by rw[List.append_nil];exact v7 (mH q2 lt))
theorem wB{m:Hp}{n:Nat}{above:List V}(st:St g m)(hf:∀c,LF (g.cs c))(hc:ft c)(s:SR g c k v t)(l:L1 t)(ha:¬fW t->∀v∈above,NL g v)(qQ:above.length<=8):∃w ys,jy [v] m=some (w,m)/\jZ (n+2) [w,.lst above] m=some (oM g.cs t,m++ys):=by
 refine az (zI st hc s) λw q1 q2=>?_;cases t with
 |arr es=>exact l.elim
 |none=>refine cW (zV (n:=n) (above:=above) st q2 trivial (λz=>absurd trivial z) qQ) λys e=>?_;exact gZ w ys q1 e
 |int i=>refine cW (zV (n:=n) (above:=above) st q2 trivial (λz=>absurd trivial z) qQ) λys e=>?_;exact gZ w ys q1 e
 |cell x=>refine cW (zV (n:=n) (above:=above) st q2 (hf x) (λ_=>ha (by simp[fW])) qQ) λys e=>?_;exact gZ w ys q1 e
theorem Oh{m:Hp}{n:Nat}(st:St g m)(hf:∀c,LF (g.cs c))(hc:ft c)(s:SR g c k v t)(l:L2 t)(ha:ko t=true->∀v∈above,HA g v)(CD:¬fW t->∀v∈above,NL g v)(qQ:above.length<=7):∃w ys,jy [v] m=some (w,m)/\jZ (n+3) [w,.lst above] m=some (pU g.cs t,m++ys):=by
 cases t with
 |none=>exact wB (n:=n+1) st hf hc s trivial CD (by omega)
 |int i=>exact wB (n:=n+1) st hf hc s trivial CD (by omega)
 |cell x=>exact wB (n:=n+1) st hf hc s trivial CD (by omega)
 |arr es=>
  refine az (zI st hc s) λw q1 q2=>?_;refine aY q2 λi bf h1 h2=>?_;clear q2;subst bf;have l:dR L1 es:=l;have:=zg (n:=n+2) (above:=above) (f:=oM g.cs) st h1 ?_ (by omega) ?_
  .refine cW this λys e=>?_;rw[h2]at e;exact gZ _ ys q1 e
  .intro v hv;obtain⟨a,e1,e,e2,e3⟩:=ha rfl v hv;refine a0 a e1 ?_;clear h1 q1;rintro rfl;rw[h2]at e2;have:=(l.ok e e2).2;cases q:e.2<;>simp[q,ko,L1]at e3 this
  .intro k v t m1 m2 s xs;rw[h2]at m2;refine wB (n:=n) st.grow hf h1 s (l.ok _ m2).2 ?_ (by simp;omega);intro nl u hu;rcases List.mem_append.mp hu with hu|hu
   .exact(ha rfl u hu).nl
   .simp at hu;subst hu;exact⟨i,rfl,(k,t),by rw[h2];exact m2,nl⟩
theorem Oi{g:Gh}{m:Hp}{w:V}{t:T}(st:St g m)(hf:∀c,LF (g.cs c))(h:VR g ft w t)(l:L3 t):∃ys,qb [w] m=some (lC g.cs t,m++ys):=by
 have main:∃ys,jZ 10 [w,.lst []] m=some (lC g.cs t,m++ys):=by
  cases t with
  |none=>exact⟨[],by rw[List.append_nil];exact v7 (.inl ⟨rfl,h⟩)⟩
  |int i=>exact⟨[],by rw[List.append_nil];exact v7 (.inr ⟨i,rfl,h⟩)⟩
  |cell x=>exact l.elim
  |arr es=>
   refine aY h λi bf h1 h2=>?_;clear h;subst bf;have l:dR L2 es:=l;have:=zg (n:=9) (above:=[]) (f:=pU g.cs) st h1 (by simp) (by simp) ?_
   .refine cW this λys e=>?_;rw[h2]at e;exact⟨ys,e⟩
   .intro k v t m1 m2 s xs;rw[h2]at m2;refine Oh (n:=6) st.grow hf h1 s (l.ok _ m2).2 ?_ ?_ (by simp)
    .intro nl u hu;simp at hu;subst hu;exact⟨i,rfl,(k,t),by rw[h2];exact m2,nl⟩
    .intro nl u hu;simp at hu;subst hu;exact⟨i,rfl,(k,t),by rw[h2];exact m2,nl⟩
 refine cW main λys e=>?_;refine⟨ys,?_⟩;delta qb zR;refine(cV rfl).trans ?_;simp_arith[ag,aW,ao,bq,aG,aR,bR,cz,dk,aw,ba,aK,bC,aS,cy,bz,dV,dQ,df,aB,dF,aP,a9,b9,bj,dw,c8,aq,bw,dB,aa,af,bI,bE,aU,aO,ay,nm,ae,ax,av.set,bJ,dA,dI,aE,cB,bc,dC,dh,cT,dS,fc,d3,fe,dK,ff,dM,dZ,eu,eH,eI,d9,eg,eA,d0,dJ,d8,eQ,eB,ee,eD,eC,eG,eU,eW,eJ,eM,eN,eX,e8,e9,fb,eO,eY,e]
end
section
theorem ru{α:Type}:∀{ys:List (DK×α)} {u:α},(ys.map (·.1)).Nodup->(k,u)∈ys->ys.lookup k=some u
 |[],_,_,m=>by cases m
 |(k2,u2)::ys,u,nd,m=>by
  simp only[map_cons,List.nodup_cons]at nd;refine lookup_cons.trans ?_;rcases mem_cons.mp m with e|m
  .clear m nd;cases e;simp
  .have:k≠k2:=by intro e;exact nd.1 (mem_map.mpr ⟨(k,u),m,e⟩)
   rw[beq_eq_false_iff_ne.mpr this];exact ru nd.2 m
theorem lE:jO k.val=some k:=by cases k<;>rfl
theorem sP{m:Hp}{w:V}{t:Ty}(h:bG w m=some t)(n:t≠.c .abs)(n2:t≠.list):gj [w] m=some (w,m):=by have e1:=dE h n .list;have e2:=qg n2 nofun;delta gj vY;refine(cV rfl).trans ?_;simp_arith! [e1,e2]
theorem yM{m:Hp}{r:Nat}{w:V}(h:m[r]?=some (.list [w])):gj [.ref r] m=some (w,m):=by
 have e1:cg (.ref r) m .list=some true:=by rw[dE (t:=.list) (by simp[bG,h]) (λz4=>Ty.noConfusion z4)];rfl
 have e2:gm (.ref r) (.int 0) m=some w:=by simp[gm,h,at_,mX]
 delta gj vY;refine(cV rfl).trans ?_;simp_arith[ag,aW,ao,bq,aG,aR,bR,cz,dk,aw,ba,aK,bC,aS,cy,bz,dV,dQ,df,aB,dF,aP,a9,b9,bj,dw,c8,aq,bw,dB,aa,af,bI,bE,aU,aO,ay,nm,ae,ax,av.set,bJ,dA,dI,aE,cB,bc,dC,dh,cT,dS,fc,d3,fe,dK,ff,dM,dZ,eu,eH,eI,d9,eg,eA,d0,dJ,d8,eQ,eB,ee,eD,eC,eG,eU,eW,eJ,eM,eN,eX,e8,e9,fb,eO,eY,e1,au,e2]
theorem rE{g:Gh}{m:Hp}{c:ak}{k:DK}{w:V}{t:T}(st:St g m)(hc:du c)(s:SR g c k w t):∃u,gj [w] m=some (u,m)/\VR g du u (dT g.cs t):=by
 have main:(∀x,t≠.cell x)->(VR g (AK c k) w t\/∃r,w=.ref r/\RK c k (g.cat r)/\g.fq r=t)->∃u,gj [w] m=some (u,m)/\VR g du u t:=by
  intro hx h;rcases h with h|hr
  .have q:=h.map (g':=g) (P':=du) λi z=>⟨lG hc z,rfl⟩;exact a0 w (sP (q.i6 st λ_ z=>z) mJ (by clear h hx q s;cases t<;>exact λz4=>Ty.noConfusion z4)) q
  .refine aY hr λr bf h1 h2=>?_;clear hr;clear s;subst bf;exact(lH hc h1).elim
 cases t with
 |cell x=>refine az s λr bf h=>?_;clear main;clear s;subst bf;rw[pf hc]at h;have e:=(st.rep r).tl h;exact a0 _ (yM e) (((st.link r).Cx h).map λi z=>⟨by rw[show g.cat i=.TC x from z];trivial,rfl⟩)
 |none=>exact main (by intro x e;exact T.noConfusion e) s
 |int i=>exact main (by intro x e;exact T.noConfusion e) s
 |arr es=>exact main (by intro x e;exact T.noConfusion e) s
theorem wk{j:Nat}(st:St g m)(hj:du (g.cat j))(nd:((g.den j).map (·.1)).Nodup):∃zs:List (DK×V×T),g.ah j=zs.map (λz=>(z.1,z.2.1))/\g.den j=zs.map (λz=>(z.1,z.2.2))/\(∀z∈zs,SR g (g.cat j) z.1 z.2.1 z.2.2)/\m[j]?=some (.dict (g.ah j))/\(∀z∈zs,gm (.ref j) z.1.val m=some z.2.1)/\(zs.map (·.1)).Nodup:=by
 have e:=(st.link j).ent (nW hj);refine aY e.zip λzs e1 e2 e3=>?_;have r:=(st.rep j).jf hj;refine Qc zs e1 e2 e3 r ?_ ?_
 .intro z mz;have nU:((g.ah j).map (·.1)).Nodup:=by rw[e.keys];exact nd
  have:=ru nU (by rw[e1];exact mem_map.mpr ⟨z,mz,rfl⟩);simp[gm,r,lE,iA,this]
 .rw[e2,map_map]at nd;exact nd
theorem mU{P:T->Prop}(h:dR P es):es.length<=4:=by
 have:=zG (es.map (·.1)) [.int 0,.int 1,.int 2,.str "a"] h.nd (by intro x m;refine az (mem_map.mp m) λe m' bL=>?_;clear m;subst bL;rcases(h.ok e m').1 with q|q|q|q<;>rw[q]<;>simp);simpa using this
theorem Oj(h:cl l m=some (xs,m')):aU (aa (ae (.str "array")) (aa (oo cl) (af))) l m=some (.tup [.str "array",.tup xs],m'):=by simp_arith[aU,aa,af,ae,oo,ay,h]
theorem vU{n:Nat}(h:(t=.none/\v=.none)\/∃i,t=.int i/\v=.int i):i8 (n+1) [v] ms=some (iu t,ms):=by
 rw[i8];refine(cV rfl).trans ?_;rcases h with hr|hr
 .obtain⟨rfl,rfl⟩:=hr;simp_arith[sV,ag,aW,ao,bq,aG,aR,bR,cz,dk,aw,ba,aK,bC,aS,cy,bz,dV,dQ,df,aB,dF,aP,a9,b9,bj,dw,c8,aq,bw,dB,aa,af,bI,bE,aU,aO,ay,nm,ae,ax,av.set,bJ,dA,dI,aE,cB,bc,dC,dh,cT,dS,fc,d3,fe,dK,ff,dM,dZ,eu,eH,eI,d9,eg,eA,d0,dJ,d8,eQ,eB,ee,eD,eC,eG,eU,eW,eJ,eM,eN,eX,e8,e9,fb,eO,eY,cg,bG,fx,iu,hZ,mP,qG,rX]
 .obtain⟨i,rfl,rfl⟩:=hr;simp_arith[sV,ag,aW,ao,bq,aG,aR,bR,cz,dk,aw,ba,aK,bC,aS,cy,bz,dV,dQ,df,aB,dF,aP,a9,b9,bj,dw,c8,aq,bw,dB,aa,af,bI,bE,aU,aO,ay,nm,ae,ax,av.set,bJ,dA,dI,aE,cB,bc,dC,dh,cT,dS,fc,d3,fe,dK,ff,dM,dZ,eu,eH,eI,d9,eg,eA,d0,dJ,d8,eQ,eB,ee,eD,eC,eG,eU,eW,eJ,eM,eN,eX,e8,e9,fb,eO,eY,cg,bG,fx,iu,hZ,mP,qG,rX]
theorem y9{j n:Nat}{f:T->V}{P:T->Prop}(st:St g ms)(hj:du (g.cat j))(hd:dR P (g.den j))
 (H:∀k v t,(k,v)∈g.ah j->(k,t)∈g.den j->SR g (g.cat j) k v t->∃u,gj [v] ms=some (u,ms)/\i8 n [u] ms=some (f t,ms)):i8 (n+1) [.ref j] ms=some (lB f (g.den j),ms):=by
 refine xp (wk st hj hd.nd) λzs e1 e2 e3 r e4 _=>?_;have z4:zs.length<=4:=by have:=mU hd;rw[e2]at this;simpa using this
 have t1:cg (.ref j) ms .dict=some true:=by rw[dE (t:=.dict) (by simp[bG,r]) (λz4=>Ty.noConfusion z4)];rfl
 have key:=mE (upd:=λv l=>some (l.set "key" v)) (c:=aS) (e:=aU (aa (nm "key") (aa (aq (i8 n) (aa (aq (gj) (aa (au (nm "tree") (nm "key")) (af))) (af))) (af)))) zs (λz=>z.1.val) (by omega)
  (λpre acc l m=>l "tree"=some (.ref j)/\m=ms/\acc=pre.map λz=>.tup [z.1.val,f z.2.2]) ?_ (l:=iL ["tree"] (ax ["tree"] [.ref j])) (ms:=ms) ⟨rfl,rfl,rfl⟩
 .refine hU key λacc l' m' h1 _ jE B8=>?_;clear H e4 key st;subst jE;subst B8;have hs:iT (nm "tree") (ax ["tree"] [.ref j]) m'=some (zs.map (λz=>z.1.val),m'):=by
   have:(g.ah j).map (λe=>e.1.val)=zs.map (λz=>z.1.val):=by rw[e1,map_map];rfl
   simp_arith! [iT,r,this]
  have hc:cM (iT (nm "tree")) ["tree"] (λv l=>some (l.set "key" v)) (aS) (aU (aa (nm "key") (aa (aq (i8 n) (aa (aq (gj) (aa (au (nm "tree") (nm "key")) (af))) (af))) (af)))) (ax ["tree"] [.ref j]) m'=some (zs.map λz=>.tup [z.1.val,f z.2.2],m'):=by simp only[cM,hs,h1]
  rw[i8,cV (by rfl)];unfold sV;rw[show(ax ["tree"] ([V.ref j]++[]))=ax ["tree"] [V.ref j]from rfl];have c1:aw (aO (nm "tree") .dict) (ax ["tree"] [.ref j]) m'=some (true,m'):=by simp_arith! [t1]
  have s1:aW (aU (aa (ae (.str "array")) (aa (oo (cM (iT (nm "tree")) ["tree"] (λv l=>some (l.set "key" v)) (aS) (aU (aa (nm "key") (aa (aq (i8 n) (aa (aq (gj) (aa (au (nm "tree") (nm "key")) (af))) (af))) (af)))))) (af)))) (ax ["tree"] [.ref j]) m'=some (.ret (lB f (g.den j)),ax ["tree"] [.ref j],m'):=by refine rD ((Oj hc).trans ?_);simp[lB,e2]
  rw[oh ((iU c1).trans (oh s1))]
 .clear r t1;clear st;rintro pre z post e acc l m ⟨h1,rfl,rfl⟩;have mz:z∈zs:=by rw[e];exact mem_append_right _ mem_cons_self
  refine az (H z.1 z.2.1 z.2.2 (by rw[e1];exact mem_map.mpr ⟨_,mz,rfl⟩) (by rw[e2];exact mem_map.mpr ⟨_,mz,rfl⟩) (e3 z mz)) λu q1 q2=>?_;refine a0 _ rfl (.inl ⟨m,.tup [z.1.val,f z.2.2],m,rfl,?_,h1,rfl,by simp⟩);have g1:(l.set "key" z.1.val) "key"=some z.1.val:=rfl;have g2:(l.set "key" z.1.val) "tree"=some (.ref j):=h1;simp_arith! [au,g1,g2,e4 z mz,q1,q2]
theorem zJ{n:Nat}(st:St g m)(h:VR g du u t)(l:LF t):i8 (n+2) [u] m=some (qP t,m):=by
 by_cases lt:fW t
 .refine(vU (n:=n+1) (mH h lt)).trans ?_;clear h l;cases t<;>first|rfl|exact lt.elim
 .cases t with
  |none=>exact absurd trivial lt
  |int i=>exact absurd trivial lt
  |cell x=>exact l.elim
  |arr es=>
   refine aY h λi bf h1 h2=>?_;clear h;subst bf;have l:dR fW es:=l;have:=y9 (n:=n+1) (f:=iu) (P:=fW) st h1 (by rw[h2];exact l) ?_
   .rw[h2]at this;exact this
   .intro k v t m1 m2 s;rw[h2]at m2;have lt:=(l.ok _ m2).2;refine az (rE st h1 s) λw q1 q2=>?_;have:dT g.cs t=t:=by clear m2 q2 s;cases t<;>first|rfl|exact lt.elim
    rw[this]at q2;exact a0 w q1 (vU (mH q2 lt))
theorem wm{n:Nat}(st:St g m)(hf:∀c,LF (g.cs c))(hc:du c)(s:SR g c k v t)(l:L1 t):∃u,gj [v] m=some (u,m)/\i8 (n+2) [u] m=some (oM g.cs t,m):=by
 refine az (rE st hc s) λu q1 q2=>?_;cases t with
 |arr es=>exact l.elim
 |none=>exact(a0 u q1 (zJ st q2 trivial))
 |int i=>exact(a0 u q1 (zJ st q2 trivial))
 |cell x=>exact(a0 u q1 (zJ st q2 (hf x)))
theorem MH{n:Nat}(st:St g m)(hf:∀c,LF (g.cs c))(hc:du c)(s:SR g c k v t)(l:L2 t):∃u,gj [v] m=some (u,m)/\i8 (n+3) [u] m=some (pU g.cs t,m):=by
 cases t with
 |none=>exact wm (n:=n+1) st hf hc s trivial
 |int i=>exact wm (n:=n+1) st hf hc s trivial
 |cell x=>exact wm (n:=n+1) st hf hc s trivial
 |arr es=>
  refine az (rE st hc s) λu q1 q2=>?_;refine aY q2 λi bf h1 h2=>?_;clear q2;subst bf;have l:dR L1 es:=l;have:=y9 (n:=n+2) (f:=oM g.cs) (P:=L1) st h1 (by rw[h2];exact l) ?_
  .rw[h2]at this;exact a0 _ q1 this
  .intro k v t m1 m2 s;rw[h2]at m2;exact wm (n:=n) st hf h1 s (l.ok _ m2).2
theorem MJ(st:St g m)(hf:∀c,LF (g.cs c))(h:VR g du u t)(l:L3 t):i8 10 [u] m=some (lC g.cs t,m):=by
 cases t with
 |none=>exact vU (.inl ⟨rfl,h⟩)
 |int i=>exact vU (.inr ⟨i,rfl,h⟩)
 |cell x=>exact l.elim
 |arr es=>
  refine aY h λi bf h1 h2=>?_;clear h;subst bf;have l:dR L2 es:=l;have:=y9 (n:=9) (f:=pU g.cs) (P:=L2) st h1 (by rw[h2];exact l) ?_
  .rw[h2]at this;exact this
  .intro k v t m1 m2 s;rw[h2]at m2;exact MH (n:=6) st hf h1 s (l.ok _ m2).2
end
section
theorem KU{α:Type}(zs:List α)(f:α->Int):o8 (zs.map λz=>.int (f z))=some (zs.map f):=by
 induction zs with
 |nil=>rfl
 |cons z zs ih=>simp[o8,ih]
theorem rx{n:Nat}{ms:Hp}{t:T}{v:V}(h:(t=.none/\v=.none)\/∃i,t=.int i/\v=.int i):iP (n+1) [v] ms=some (.int 0,ms):=by
 rw[iP,cV (by rfl)];rcases h with hr|hr
 .obtain⟨rfl,rfl⟩:=hr;simp_arith[s8,ag,aW,ao,bq,aG,aR,bR,cz,dk,aw,ba,aK,bC,aS,cy,bz,dV,dQ,df,aB,dF,aP,a9,b9,bj,dw,c8,aq,bw,dB,aa,af,bI,bE,aU,aO,ay,nm,ae,ax,av.set,bJ,dA,dI,aE,cB,bc,dC,dh,cT,dS,fc,d3,fe,dK,ff,dM,dZ,eu,eH,eI,d9,eg,eA,d0,dJ,d8,eQ,eB,ee,eD,eC,eG,eU,eW,eJ,eM,eN,eX,e8,e9,fb,eO,eY,cg,bG,fx]
 .obtain⟨i,rfl,rfl⟩:=hr;simp_arith[s8,ag,aW,ao,bq,aG,aR,bR,cz,dk,aw,ba,aK,bC,aS,cy,bz,dV,dQ,df,aB,dF,aP,a9,b9,bj,dw,c8,aq,bw,dB,aa,af,bI,bE,aU,aO,ay,nm,ae,ax,av.set,bJ,dA,dI,aE,cB,bc,dC,dh,cT,dS,fc,d3,fe,dK,ff,dM,dZ,eu,eH,eI,d9,eg,eA,d0,dJ,d8,eQ,eB,ee,eD,eC,eG,eU,eW,eJ,eM,eN,eX,e8,e9,fb,eO,eY,cg,bG,fx]
theorem PY{cl:ML}{l:av}{m m':Hp}{is:List Int}(h:cl l m=some (is.map V.int,m'))(hz:is.length<=900):∃D:Int,(aE .Add (ae (.int 1)) (uM (jQ (bI (aa (ae (.int 0)) (af))) cl))) l m=some (.int (1+D),m')/\0<=D/\∀i∈is,i<=D:=by
 have e1:o8 (.int 0::is.map V.int)=some (0::is):=by have:=KU is id;simp only[id]at this;simp[o8,this]
 obtain⟨D,hD⟩:∃D,(0::is).max?=some D:=by exact Exists.intro _ rfl
 have hm:=List.max?_eq_some_iff.mp hD;refine cA D ?_ (hm.2 0 (.head _)) (λi mi=>hm.2 i (.tail _ mi));have z:1+is.length<=1000:=by omega
 have z2:is.length+1<=1000:=by omega
 simp[aE,ae,uM,jQ,bI,aa,af,ay,h,e1,hD,z,z2,cB]
theorem zx{ms:Hp}{j n:Nat}{P:T->Prop}(st:St g ms)(hj:du (g.cat j))(hd:dR P (g.den j))
 (H:∀k v t,(k,v)∈g.ah j->(k,t)∈g.den j->SR g (g.cat j) k v t->∃(u:V) (d:Int),gj [v] ms=some (u,ms)/\iP n [u] ms=some (.int d,ms)/\0<=d/\(ko t=true->1<=d)):∃D:Int,iP (n+1) [.ref j] ms=some (.int D,ms)/\1<=D/\∀e∈g.den j,ko e.2=true->2<=D:=by
 refine xp (wk st hj hd.nd) λzs e1 e2 e3 r e4 _=>?_;have z4:zs.length<=4:=by have:=mU hd;rw[e2]at this;simpa using this
 have t1:cg (.ref j) ms .dict=some true:=by rw[dE (t:=.dict) (by simp[bG,r]) (λz4=>Ty.noConfusion z4)];rfl
 have key:=mE (upd:=λv l=>some (l.set "key" v)) (c:=aS) (e:=aq (iP n) (aa (aq (gj) (aa (au (nm "tree") (nm "key")) (af))) (af))) zs (λz=>z.1.val) (by omega)
  (λpre acc l m=>l "tree"=some (.ref j)/\m=ms/\∃is:List Int,acc=is.map V.int/\is.length=pre.length/\∀z∈pre,ko z.2.2=true->∃i∈is,1<=i) ?_ (l:=iL ["tree"] (ax ["tree"] [.ref j])) (ms:=ms) ⟨rfl,rfl,[],rfl,rfl,by simp⟩
 .clear H e4 st;obtain⟨acc,l',m',h1,_,rfl,is,rfl,hl,hi⟩:=key;have hs:iT (nm "tree") (ax ["tree"] [.ref j]) m'=some (zs.map (λz=>z.1.val),m'):=by
   have:(g.ah j).map (λe=>e.1.val)=zs.map (λz=>z.1.val):=by rw[e1,map_map];rfl
   simp_arith! [iT,r,this]
  have hc:cM (iT (nm "tree")) ["tree"] (λv l=>some (l.set "key" v)) (aS) (aq (iP n) (aa (aq (gj) (aa (au (nm "tree") (nm "key")) (af))) (af))) (ax ["tree"] [.ref j]) m'=some (is.map V.int,m'):=by simp only[cM,hs,h1]
  refine aY (PY hc (by omega)) λD h2 h3 h4=>?_;refine cA (1+D) ?_ (by omega) ?_
  .rw[iP,cV (by rfl)];unfold s8;rw[show(ax ["tree"] ([V.ref j]++[]))=ax ["tree"] [V.ref j]from rfl];have c1:ba (aw (aO (nm "tree") .dict)) (ax ["tree"] [.ref j]) m'=some (false,m'):=by simp_arith! [t1]
   rw[aZ ((fG c1).trans bZ),oh (rD h2)]
  .intro e me ha;rw[e2]at me;refine az (mem_map.mp me) λz mz bL=>?_;clear me;subst bL;refine az (hi z mz ha) λi mi h5=>?_;have:=h4 i mi;omega
 .clear r t1;clear st;rintro pre z post e acc l m ⟨h1,rfl,is,rfl,hl,hi⟩;have mz:z∈zs:=by rw[e];exact mem_append_right _ mem_cons_self
  refine iz (H z.1 z.2.1 z.2.2 (by rw[e1];exact mem_map.mpr ⟨_,mz,rfl⟩) (by rw[e2];exact mem_map.mpr ⟨_,mz,rfl⟩) (e3 z mz)) λu d q1 q2 q3 q4=>?_;refine a0 _ rfl (.inl ⟨m,.int d,m,rfl,?_,h1,rfl,is++[d],by simp,by simp[hl],?_⟩)
  .have g1:(l.set "key" z.1.val) "key"=some z.1.val:=rfl;have g2:(l.set "key" z.1.val) "tree"=some (.ref j):=h1;simp_arith! [au,g1,g2,e4 z mz,q1,q2]
  .intro y my ha;rcases List.mem_append.mp my with my|my
   .refine az (hi y my ha) λi mi h5=>?_;exact a0 i (List.mem_append.mpr (.inl mi)) h5
   .simp at my;clear e mz q1;subst my;exact a0 d (mem_append_right _ mem_cons_self) (q4 ha)
theorem wU{n:Nat}{t:T}(st:St g m)(h:VR g du u t)(l:LF t):∃d:Int,iP (n+2) [u] m=some (.int d,m)/\0<=d/\(ko t=true->1<=d):=by
 by_cases lt:fW t
 .exact cA 0 (rx (n:=n+1) (mH h lt)) (by omega) (λa=>by clear h l;cases t<;>simp[ko,fW]at a lt)
 .cases t with
  |none=>exact absurd trivial lt
  |int i=>exact absurd trivial lt
  |cell x=>exact l.elim
  |arr es=>
   refine aY h λi bf h1 h2=>?_;clear h;subst bf;have l:dR fW es:=l;obtain⟨D,e1,e2,_⟩:=zx (n:=n+1) (P:=fW) st h1 (by rw[h2];exact l) (by
    intro k v t m1 m2 s;rw[h2]at m2;have lt:=(l.ok _ m2).2;refine az (rE st h1 s) λw q1 q2=>?_;have:dT g.cs t=t:=by clear m2 q2 s;cases t<;>first|rfl|exact lt.elim
    rw[this]at q2;exact⟨w,0,q1,rx (mH q2 lt),by omega,λa=>by clear this;clear m2 q2 s;cases t<;>simp[ko,fW]at a lt⟩)
   exact cA D e1 (by omega) (λ_=>e2)
theorem PZ{n:Nat}(st:St g m)(hf:∀c,LF (g.cs c))(hc:du c)(s:SR g c k v t)(l:L1 t):∃(u:V) (d:Int),gj [v] m=some (u,m)/\iP (n+2) [u] m=some (.int d,m)/\0<=d/\(ko t=true->1<=d):=by
 refine az (rE st hc s) λu q1 q2=>?_;cases t with
 |arr es=>exact l.elim
 |none=>refine aY (wU (n:=n) st q2 trivial) λd e1 e2 e3=>?_;exact⟨u,d,q1,e1,e2,e3⟩
 |int i=>refine aY (wU (n:=n) st q2 trivial) λd e1 e2 e3=>?_;exact⟨u,d,q1,e1,e2,e3⟩
 |cell x=>refine aY (wU (n:=n) st q2 (hf x)) λd e1 e2 e3=>?_;exact⟨u,d,q1,e1,e2,by exact λz4=>Bool.noConfusion z4⟩
theorem wV{n:Nat}{t:T}(st:St g m)(hf:∀c,LF (g.cs c))(h:VR g du u t)(l:L2 t):∃d:Int,iP (n+3) [u] m=some (.int d,m)/\0<=d/\(ko t=true->1<=d):=by
 cases t with
 |none=>exact(cA 0 (rx (.inl ⟨rfl,h⟩)) (by omega) (λz4=>Bool.noConfusion z4))
 |int i=>exact(cA 0 (rx (.inr ⟨i,rfl,h⟩)) (by omega) (λz4=>Bool.noConfusion z4))
 |cell x=>exact h.elim
 |arr es=>
  refine aY h λi bf h1 h2=>?_;clear h;subst bf;have l:dR L1 es:=l;obtain⟨D,e1,e2,_⟩:=zx (n:=n+2) (P:=L1) st h1 (by rw[h2];exact l) (by intro k v t m1 m2 s;rw[h2]at m2;exact PZ (n:=n) st hf h1 s (l.ok _ m2).2);exact cA D e1 (by omega) (λ_=>e2)
theorem P0{t:T}(st:St g m)(hf:∀c,LF (g.cs c))(h:VR g du u t)(l:L3 t):∃d:Int,iP 10 [u] m=some (.int d,m)/\(d<2->L2 t):=by
 cases t with
 |none=>exact(a0 0 (rx (.inl ⟨rfl,h⟩)) (λ_=>trivial))
 |int i=>exact(a0 0 (rx (.inr ⟨i,rfl,h⟩)) (λ_=>trivial))
 |cell x=>exact h.elim
 |arr es=>
  refine aY h λi bf h1 h2=>?_;clear h;subst bf;have l:dR L2 es:=l;obtain⟨D,e1,e2,e3⟩:=zx (n:=9) (P:=L2) st h1 (by rw[h2];exact l) (by
   intro k v t m1 m2 s;rw[h2]at m2;refine az (rE st h1 s) λw q1 q2=>?_;have l2:=(l.ok _ m2).2;cases t with
   |cell x=>refine aY (wU (n:=7) st q2 (hf x)) λd e1 e2 e3=>?_;exact kQ w d q1 e1 e2 (λz4=>Bool.noConfusion z4)
   |none=>refine aY (wV (n:=6) st hf q2 trivial) λd e1 e2 e3=>?_;exact kQ w d q1 e1 e2 e3
   |int i=>refine aY (wV (n:=6) st hf q2 trivial) λd e1 e2 e3=>?_;exact kQ w d q1 e1 e2 e3
   |arr bu=>refine aY (wV (n:=6) st hf q2 l2) λd e1 e2 e3=>?_;exact⟨w,d,q1,e1,e2,e3⟩)
  refine a0 D e1 (λhD=>?_);rw[h2]at e3;refine⟨λe me=>⟨(l.ok e me).1,?_⟩,l.nd,l.cn⟩;by_cases q:ko e.2=true
  .have:=e3 e me q;omega
  .cases z:e.2<;>simp[z,ko,L1]at q⊢
theorem zh{n:Nat}{ms:Hp}{t:T}{v:V}(h:(t=.none/\v=.none)\/∃i,t=.int i/\v=.int i):jX (n+1) [v] ms=some (.bool false,ms):=by
 rw[jX,cV (by rfl)];rcases h with hr|hr
 .obtain⟨rfl,rfl⟩:=hr;simp_arith[sN,ag,aW,ao,bq,aG,aR,bR,cz,dk,aw,ba,aK,bC,aS,cy,bz,dV,dQ,df,aB,dF,aP,a9,b9,bj,dw,c8,aq,bw,dB,aa,af,bI,bE,aU,aO,ay,nm,ae,ax,av.set,bJ,dA,dI,aE,cB,bc,dC,dh,cT,dS,fc,d3,fe,dK,ff,dM,dZ,eu,eH,eI,d9,eg,eA,d0,dJ,d8,eQ,eB,ee,eD,eC,eG,eU,eW,eJ,eM,eN,eX,e8,e9,fb,eO,eY,cg,bG,fx]
 .obtain⟨i,rfl,rfl⟩:=hr;simp_arith[sN,ag,aW,ao,bq,aG,aR,bR,cz,dk,aw,ba,aK,bC,aS,cy,bz,dV,dQ,df,aB,dF,aP,a9,b9,bj,dw,c8,aq,bw,dB,aa,af,bI,bE,aU,aO,ay,nm,ae,ax,av.set,bJ,dA,dI,aE,cB,bc,dC,dh,cT,dS,fc,d3,fe,dK,ff,dM,dZ,eu,eH,eI,d9,eg,eA,d0,dJ,d8,eQ,eB,ee,eD,eC,eG,eU,eW,eJ,eM,eN,eX,e8,e9,fb,eO,eY,cg,bG,fx]
theorem MK(h:cl l m=some (xs,m')):tN cl l m=some (.bool (!xs.isEmpty),m'):=by simp_arith! [h]
theorem Ol{n:Nat}{t:T}(st:St g ms)(h:VR g du u t)(l:L2 t):∃b:Bool,jX (n+2) [u] ms=some (.bool b,ms)/\(b=false->LF t):=by
 cases t with
 |none=>exact(a0 false (zh (.inl ⟨rfl,h⟩)) (λ_=>trivial))
 |int i=>exact(a0 false (zh (.inr ⟨i,rfl,h⟩)) (λ_=>trivial))
 |cell x=>exact h.elim
 |arr es=>
  refine aY h λj bf hj h2=>?_;clear h;subst bf;have l:dR L1 es:=l;refine xp (wk st hj (by rw[h2];exact l.nd)) λzs e1 e2 e3 r e4 _=>?_;rw[h2]at e2;have z4:zs.length<=4:=by have:=mU l;rw[e2]at this;simpa using this
  have t1:cg (.ref j) ms .dict=some true:=by rw[dE (t:=.dict) (by simp[bG,r]) (λz4=>Ty.noConfusion z4)];rfl
  have key:=mE (upd:=λv l=>some (l.set "key" v)) (c:=bC (aw (aO (au (nm "tree") (nm "key")) .list)) (bC (aw (aq (jX (n+1)) (aa (au (nm "tree") (nm "key")) (af)))) (cy))) (e:=nm "key") zs (λz=>z.1.val) (by omega)
   (λpre acc l m=>l "tree"=some (.ref j)/\m=ms/\(acc=[]->∀z∈pre,fW z.2.2)) ?_ (l:=iL ["tree"] (ax ["tree"] [.ref j])) (ms:=ms) ⟨rfl,rfl,by simp⟩
  .refine hU key λacc l' m' h1 _ jE hi=>?_;clear e4 key st;subst jE;have hs:iT (nm "tree") (ax ["tree"] [.ref j]) m'=some (zs.map (λz=>z.1.val),m'):=by
    have:(g.ah j).map (λe=>e.1.val)=zs.map (λz=>z.1.val):=by rw[e1,map_map];rfl
    simp_arith! [iT,r,this]
   have hc:cM (iT (nm "tree")) ["tree"] (λv l=>some (l.set "key" v)) (bC (aw (aO (au (nm "tree") (nm "key")) .list)) (bC (aw (aq (jX (n+1)) (aa (au (nm "tree") (nm "key")) (af)))) (cy))) (nm "key") (ax ["tree"] [.ref j]) m'=some (acc,m'):=by simp only[cM,hs,h1]
   refine a0 (!acc.isEmpty) ?_ ?_
   .rw[jX,cV (by rfl)];unfold sN;rw[show(ax ["tree"] ([V.ref j]++[]))=ax ["tree"] [V.ref j]from rfl];have c1:ba (aw (aO (nm "tree") .dict)) (ax ["tree"] [.ref j]) m'=some (false,m'):=by simp_arith[ag,aW,ao,bq,aG,aR,bR,cz,dk,aw,ba,aK,bC,aS,cy,bz,dV,dQ,df,aB,dF,aP,a9,b9,bj,dw,c8,aq,bw,dB,aa,af,bI,bE,aU,aO,ay,nm,ae,ax,av.set,bJ,dA,dI,aE,cB,bc,dC,dh,cT,dS,fc,d3,fe,dK,ff,dM,dZ,eu,eH,eI,d9,eg,eA,d0,dJ,d8,eQ,eB,ee,eD,eC,eG,eU,eW,eJ,eM,eN,eX,e8,e9,fb,eO,eY,t1]
    rw[aZ ((fG c1).trans bZ),oh (rD (MK hc))]
   .intro hb;have hn:acc=[]:=by clear h1 hc hi;cases acc<;>simp at hb⊢
    refine⟨λe me=>⟨(l.ok e me).1,?_⟩,l.nd,l.cn⟩;rw[e2]at me;refine az (mem_map.mp me) λz mz bL=>?_;clear me;subst bL;exact hi hn z mz
  .clear r t1;rintro pre z post e acc l0 m ⟨h1,rfl,hi⟩;obtain⟨k,v,t⟩:=z;have mz:(k,v,t)∈zs:=by rw[e];exact mem_append_right _ mem_cons_self
   have g1:(l0.set "key" k.val) "key"=some k.val:=rfl;have g2:(l0.set "key" k.val) "tree"=some (.ref j):=h1;have e5:=e4 _ mz;simp only at e5;have lt:=(l.ok (k,t) (by rw[e2];exact mem_map.mpr ⟨_,mz,rfl⟩)).2;have s:=e3 _ mz;have lQ:fW t->VR g du v t->∃l',some (l0.set "key" k.val)=some l'/\((∃kG x iZ,(bC (aw (aO (au (nm "tree") (nm "key")) .list)) (bC (aw (aq (jX (n+1)) (aa (au (nm "tree") (nm "key")) (af)))) (cy))) l' m=some (true,kG)/\nm "key" l' kG=some (x,iZ)/\l' "tree"=some (.ref j)/\iZ=m/\(acc++[x]=[]->∀z∈pre++[(k,v,t)],fW z.2.2))\/(∃kG,(bC (aw (aO (au (nm "tree") (nm "key")) .list)) (bC (aw (aq (jX (n+1)) (aa (au (nm "tree") (nm "key")) (af)))) (cy))) l' m=some (false,kG)/\l' "tree"=some (.ref j)/\kG=m/\(acc=[]->∀z∈pre++[(k,v,t)],fW z.2.2))):=by
    intro lt vr;refine a0 _ rfl (.inr ⟨m,?_,h1,rfl,?_⟩)
    .have t3:cg v m .list=some false:=by rw[dE (vr.i6 st λ_ z=>z) mJ];clear e lt mz s vr;clear lt;cases t<;>rfl
     have t4:=zh (n:=n) (ms:=m) (mH vr lt);simp_arith[bC,aw,aO,au,aq,aa,af,cy,ay,nm,g1,g2,e5,t3,t4]
    .intro hn y my;rcases List.mem_append.mp my with my|my
     .exact hi hn y my
     .simp at my;subst my;exact lt
   cases t with
   |arr es=>exact lt.elim
   |none=>
    rcases s with s|hr
    .exact lQ trivial (s.map λi z=>⟨lG hj z,rfl⟩)
    .refine aY hr λr _ q _=>?_;exact(lH hj q).elim
   |int i=>
    rcases s with s|hr
    .exact lQ trivial (s.map λi z=>⟨lG hj z,rfl⟩)
    .refine aY hr λr _ q _=>?_;exact(lH hj q).elim
   |cell x=>
    refine az s λr' bf q=>?_;clear lQ;clear e mz s;subst bf;rw[pf hj]at q;refine a0 _ rfl (.inl ⟨m,k.val,m,?_,by simp_arith! [g1],h1,rfl,by simp⟩);have t3:cg (.ref r') m .list=some true:=by rw[dE (Be st q) (λz4=>Ty.noConfusion z4)];rfl
    simp_arith[bC,aw,aO,au,aq,aa,af,cy,ay,nm,g1,g2,e5,t3]
end
section
theorem Kk{d:List (DK×V)}:nh (d.map λe=>.tup [e.1.val,e.2])=some (d.map λe=>(e.1.val,e.2)):=by
 induction d with
 |nil=>rfl
 |cons e d ih=>simp[nh,ih]
theorem D4:∀(d es:List (DK×V)),((es++d).map (·.1)).Nodup->nI es (d.map λe=>(e.1.val,e.2))=some (es++d)
 |[],es,_=>by simp[nI]
 |(k,v)::d,es,h=>by
  have hn:k∉es.map (·.1):=by intro m;rw[List.map_append,List.nodup_append]at h;exact h.2.2 k m k (by simp) rfl
  have:=D4 d (es++[(k,v)]) (by simpa using h);simp only[map_cons,nI,lE];rw[EV hn,this];simp
theorem vV{n:Nat}{ms:Hp}{t:T}{v:V}(h:(t=.none/\v=.none)\/∃i,t=.int i/\v=.int i):ie (n+1) [v] ms=some (v,ms):=by
 rw[ie,cV (by rfl)];rcases h with hr|hr
 .obtain⟨rfl,rfl⟩:=hr;simp_arith[sT,ag,aW,ao,bq,aG,aR,bR,cz,dk,aw,ba,aK,bC,aS,cy,bz,dV,dQ,df,aB,dF,aP,a9,b9,bj,dw,c8,aq,bw,dB,aa,af,bI,bE,aU,aO,ay,nm,ae,ax,av.set,bJ,dA,dI,aE,cB,bc,dC,dh,cT,dS,fc,d3,fe,dK,ff,dM,dZ,eu,eH,eI,d9,eg,eA,d0,dJ,d8,eQ,eB,ee,eD,eC,eG,eU,eW,eJ,eM,eN,eX,e8,e9,fb,eO,eY,cg,bG,fx]
 .obtain⟨i,rfl,rfl⟩:=hr;simp_arith[sT,ag,aW,ao,bq,aG,aR,bR,cz,dk,aw,ba,aK,bC,aS,cy,bz,dV,dQ,df,aB,dF,aP,a9,b9,bj,dw,c8,aq,bw,dB,aa,af,bI,bE,aU,aO,ay,nm,ae,ax,av.set,bJ,dA,dI,aE,cB,bc,dC,dh,cT,dS,fc,d3,fe,dK,ff,dM,dZ,eu,eH,eI,d9,eg,eA,d0,dJ,d8,eQ,eB,ee,eD,eC,eG,eU,eW,eJ,eM,eN,eX,e8,e9,fb,eO,eY,cg,bG,fx]
theorem MM{m m':Hp}{d:List (DK×V)}(h:cl l m=some (d.map (λe=>.tup [e.1.val,e.2]),m'))(nd:(d.map (·.1)).Nodup)(hz:d.length<=1000):rF cl l m=some (.ref m'.length,m'++[.dict d]):=by have e:=D4 d [] (by simpa using nd);simp only[List.nil_append]at e;simp_arith! [rF,h,Kk,e,hz]
theorem DI{j n:Nat}{P:T->Prop}(st:St g ms)(hj:du (g.cat j))(hd:dR P (g.den j))(I:List (DK×V×T)->List (DK×V)->Hp->Prop)(h0:I [] [] ms)
 (hI:∀pre d m,I pre d m->(∀k v,(k,v)∈g.ah j->gm (.ref j) k.val m=some v)/\d.map (·.1)=pre.map (·.1))
 (H:∀pre k v t d m,(k,v)∈g.ah j->(k,t)∈g.den j->SR g (g.cat j) k v t->I pre d m->∃(b:Bool) (u:V) (m':Hp),cg v m .list=some b/\(b=true->u=v/\m'=m)/\(b=false->ie n [v] m=some (u,m'))/\I (pre++[(k,v,t)]) (d++[(k,u)]) m'):
 ∃(zs:List (DK×V×T)) (d:List (DK×V)) (m':Hp),ie (n+1) [.ref j] ms=some (.ref m'.length,m'++[.dict d])/\I zs d m'/\g.den j=zs.map (λz=>(z.1,z.2.2))/\g.ah j=zs.map (λz=>(z.1,z.2.1)):=by
 refine xp (wk st hj hd.nd) λzs e1 e2 e3 r _ nd=>?_;have z4:zs.length<=4:=by have:=mU hd;rw[e2]at this;simpa using this
 have t1:cg (.ref j) ms .dict=some true:=by rw[dE (t:=.dict) (by simp[bG,r]) (λz4=>Ty.noConfusion z4)];rfl
 have key:=mE (upd:=λv l=>some (l.set "key" v)) (c:=aS) (e:=aU (aa (nm "key") (aa (bz (aw (aO (au (nm "tree") (nm "key")) .list)) (au (nm "tree") (nm "key")) (aq (ie n) (aa (au (nm "tree") (nm "key")) (af)))) (af)))) zs (λz=>z.1.val) (by omega)
  (λpre acc l m=>l "tree"=some (.ref j)/\∃d,acc=d.map (λe=>.tup [e.1.val,e.2])/\I pre d m) ?_ (l:=iL ["tree"] (ax ["tree"] [.ref j])) (ms:=ms) ⟨rfl,[],rfl,h0⟩
 .obtain⟨acc,l',m',h1,_,d,rfl,h2⟩:=key;have hs:iT (nm "tree") (ax ["tree"] [.ref j]) ms=some (zs.map (λz=>z.1.val),ms):=by
   have:(g.ah j).map (λe=>e.1.val)=zs.map (λz=>z.1.val):=by rw[e1,map_map];rfl
   simp_arith! [iT,r,this]
  have hc:cM (iT (nm "tree")) ["tree"] (λv l=>some (l.set "key" v)) (aS) (aU (aa (nm "key") (aa (bz (aw (aO (au (nm "tree") (nm "key")) .list)) (au (nm "tree") (nm "key")) (aq (ie n) (aa (au (nm "tree") (nm "key")) (af)))) (af)))) (ax ["tree"] [.ref j]) ms=some (d.map (λe=>.tup [e.1.val,e.2]),m'):=by simp only[cM,hs,h1]
  have hk:=(hI _ _ _ h2).2;refine kn zs d m' ?_ h2 e2 e1;rw[ie,cV (by rfl)];unfold sT;rw[show(ax ["tree"] ([V.ref j]++[]))=ax ["tree"] [V.ref j]from rfl];have c1:ba (aw (aO (nm "tree") .dict)) (ax ["tree"] [.ref j]) ms=some (false,ms):=by simp_arith[ag,aW,ao,bq,aG,aR,bR,cz,dk,aw,ba,aK,bC,aS,cy,bz,dV,dQ,df,aB,dF,aP,a9,b9,bj,dw,c8,aq,bw,dB,aa,af,bI,bE,aU,aO,ay,nm,ae,ax,av.set,bJ,dA,dI,aE,cB,bc,dC,dh,cT,dS,fc,d3,fe,dK,ff,dM,dZ,eu,eH,eI,d9,eg,eA,d0,dJ,d8,eQ,eB,ee,eD,eC,eG,eU,eW,eJ,eM,eN,eX,e8,e9,fb,eO,eY,t1]
  rw[aZ ((fG c1).trans bZ),oh (rD (MM hc (by rw[hk];exact nd) (by have:=congrArg List.length hk;simp at this;omega)))]
 .rintro pre z post e acc l0 m ⟨h1,d,rfl,h2⟩;obtain⟨k,v,t⟩:=z;have mz:(k,v,t)∈zs:=by rw[e];exact mem_append_right _ mem_cons_self
  have m1:(k,v)∈g.ah j:=by rw[e1];exact mem_map.mpr ⟨_,mz,rfl⟩
  have m2:(k,t)∈g.den j:=by rw[e2];exact mem_map.mpr ⟨_,mz,rfl⟩
  refine hU (H pre k v t d m m1 m2 (e3 _ mz) h2) λb u m' q1 q2 q3 q4=>?_;have e5:=(hI _ _ _ h2).1 k v m1;have g1:(l0.set "key" k.val) "key"=some k.val:=rfl;have g2:(l0.set "key" k.val) "tree"=some (.ref j):=h1;refine a0 _ rfl (.inl ⟨m,.tup [k.val,u],m',rfl,?_,h1,d++[(k,u)],by simp,q4⟩);cases b with
  |true=>refine bT (q2 rfl) λjF bf=>?_;clear e m1 mz q2 q3 q4;subst jF;clear h2;subst bf;simp_arith[aU,aa,af,bz,aw,aO,au,ay,nm,g1,g2,e5,q1]
  |false=>have:=q3 rfl;simp_arith[aU,aa,af,bz,aw,aO,au,aq,ay,nm,g1,g2,e5,q1,this]
theorem MN{g:Gh}{ms:Hp}{j n:Nat}(st:St g ms)(hj:du (g.cat j))(hd:dR L1 (g.den j)):ie (n+2) [.ref j] ms=some (.ref ms.length,ms++[.dict (g.ah j)]):=by
 have r:=(st.rep j).jf hj;have nU:((g.ah j).map (·.1)).Nodup:=by rw[((st.link j).ent (nW hj)).keys];exact hd.nd
 obtain⟨zs,d,m',e1,⟨rfl,rfl⟩,e2,e3⟩:=DI (n:=n+1) st hj hd (λpre d m=>m=ms/\d=pre.map λz=>(z.1,z.2.1)) ⟨rfl,rfl⟩ (by
  clear st;rintro pre d m ⟨rfl,rfl⟩;refine⟨λk v mm=>?_,by simp⟩;simp[gm,r,lE,iA,ru nU mm]) (by
  clear r;rintro pre k v t d m m1 m2 s ⟨rfl,rfl⟩;have lt:=(hd.ok _ m2).2;have lQ:fW t->VR g du v t->∃(b:Bool) (u:V) (m':Hp),cg v m .list=some b/\(b=true->u=v/\m'=m)/\(b=false->ie (n+1) [v] m=some (u,m'))/\m'=m/\pre.map (λz=>(z.1,z.2.1))++[(k,u)]=(pre++[(k,v,t)]).map λz=>(z.1,z.2.1):=by intro lt vr;refine tT false v m ?_ (λz4=>Bool.noConfusion z4) (λ_=>vV (mH vr lt)) rfl (by simp);rw[dE (vr.i6 st λ_ z=>z) mJ];clear lt m2 s vr;clear lt;cases t<;>rfl
  cases t with
  |arr es=>exact lt.elim
  |none=>
   rcases s with s|hr
   .exact lQ trivial (s.map λi z=>⟨lG hj z,rfl⟩)
   .obtain⟨r,_,q,_⟩:=hr;exact(lH hj q).elim
  |int i=>
   rcases s with s|hr
   .exact lQ trivial (s.map λi z=>⟨lG hj z,rfl⟩)
   .obtain⟨r,_,q,_⟩:=hr;exact(lH hj q).elim
  |cell x=>clear lQ m1;obtain⟨r',rfl,q⟩:=s;rw[pf hj]at q;exact⟨true,.ref r',m,by rw[dE (Be st q) (λz4=>Ty.noConfusion z4)];rfl,by exact λz4=>And.intro rfl rfl,by exact λz4=>Bool.noConfusion z4,rfl,by simp⟩)
 refine e1.trans ?_;rw[e3]
def F4(c:ak):Prop:=@ak.casesOn (λ_=>Prop) c False False False (λ_=>False) (λ_ _=>False) (λ_ _=>False) (λ_=>False) (λ_=>False) (λb=>b=4) (λb _=>b=4) (λ_=>False) (λ_=>False) False
theorem bX.L1(hc:du c)(oD:du c')(tk:∀i x,g.cat i=.tl x->g'.cat i=.tl x)(h:bX g c xs es)(l:∀e∈es,L1 e.2):bX g' c' xs es:=by
 refine h.l8 λk v t _ m s=>?_;have lt:=l _ m;cases t with
 |arr _=>exact lt.elim
 |none=>
  rcases s with s|hr
  .exact .inl s
  .refine aY hr λr _ q _=>?_;exact(lH hc q).elim
 |int i=>
  rcases s with s|hr
  .exact .inl s
  .refine aY hr λr _ q _=>?_;exact(lH hc q).elim
 |cell x=>refine az s λr e q=>?_;rw[pf hc]at q;exact a0 r e (by rw[pf oD];exact tk _ _ q)
theorem bX.add{n:Nat}{s d v t h}(hn:g.cat n=.no)(e:bX g c xs es):bX (g.add n c0 s d v t h) c xs es:=by
 refine e.l8 λk v t _ _ s=>s.map ?_ ?_ ?_
 .intro i q;have:i≠n:=by intro er;rw[er,hn]at q;exact oe (.inl ⟨k,.inl q⟩)
  simp[Gh.add,this,q]
 .intro i q;have:i≠n:=by intro er;rw[er,hn]at q;exact oe (.inl ⟨k,.inr q⟩)
  simp[Gh.add,this,q]
 .intro i x q;have:i≠n:=by intro er;rw[er,hn]at q;exact oe (.inr (.inl ⟨x,q⟩))
  exact(if_neg this).trans q
theorem MQ{g:Gh}{ms:Hp}{P:ak->Prop}{w:V}{t:T}{n:Nat}(st:St g ms)(hP:∀c,P c->du c/\¬F4 c)(h:VR g P w t)(l:L3 t):∃(g':Gh) (ms':Hp) (u:V),ie (n+3) [w] ms=some (u,ms')/\St g' ms'/\VR g' (·=.TA 4) u t/\Mv (λ_=>False) g g' ms ms':=by
 cases t with
 |none=>exact⟨g,ms,w,vV (n:=n+2) (.inl ⟨rfl,h⟩),st,h,Mv.refl⟩
 |int i=>exact⟨g,ms,w,vV (n:=n+2) (.inr ⟨i,rfl,h⟩),st,h,Mv.refl⟩
 |cell x=>exact h.elim
 |arr es=>
  refine aY h λj bf UC xP=>?_;clear h;subst bf;refine bT (hP _ UC) λhj W6=>?_;have l:dR L2 es:=l;have nU:((g.ah j).map (·.1)).Nodup:=by rw[((st.link j).ent (nW hj)).keys,xP];exact l.nd
  have jn:g.cat j≠.no:=by intro e;rw[e]at hj;exact hj
  have jz:g.cat j≠.zu:=by intro e;rw[e]at hj;exact hj
  have r:=(st.rep j).jf hj;have qR:j<ms.length:=(List.getElem?_eq_some_iff.mp r).1;obtain⟨zs,d,m',e1,⟨g',gb,mv,ent⟩,e2,e3⟩:=DI (n:=n+2) (P:=L2) st hj (by rw[xP];exact l) (λpre d m=>∃g',St g' m/\Mv (λ_=>False) g g' ms m/\bX g' (.TA 4) d (pre.map λz=>(z.1,z.2.2))) ⟨g,st,Mv.refl,trivial⟩ (by
   rintro pre d m ⟨g',gb,mv,ent⟩;refine fm (mv.gi j jz jn id) λc1 c2 c3=>?_;have r':=(gb.rep j).jf (by rw[c1];exact hj);rw[c3]at r';refine⟨λk v mm=>?_,by rw[ent.keys,map_map];rfl⟩;simp[gm,r',lE,iA,ru nU mm]) (by
   rintro pre k v t d m m1 m2 s ⟨g',gb,mv,ent⟩;rw[xP]at m2;have lt:=(l.ok _ m2).2;have keep:∀i,jU (g.cat j) (g.cat i)->g'.cat i=g.cat i/\g'.den i=g.den i/\g'.ah i=g.ah i:=by
    intro i kd;refine mv.gi i ?_ ?_ id
    .intro e;rw[e]at kd;rcases kd with⟨k,q|q⟩|⟨x,q⟩|q
     .have:=lG hj q;exact this
     .exact(lH hj q).elim
     .rw[pf hj]at q;exact ak.noConfusion q
     .revert q hj;cases g.cat j<;>(first|exact λz4=>False.elim z4|exact λz4=>λz3=>False.elim z3)
    .intro e;rw[e]at kd;exact oe kd
   have lQ:fW t->VR g (AK (g.cat j) k) v t->∃(b:Bool) (u:V) (m':Hp),cg v m .list=some b/\(b=true->u=v/\m'=m)/\(b=false->ie (n+2) [v] m=some (u,m'))/\∃g',St g' m'/\Mv (λ_=>False) g g' ms m'/\bX g' (.TA 4) (d++[(k,u)]) ((pre++[(k,v,t)]).map λz=>(z.1,z.2.2)):=by
    intro lt vr;refine⟨false,v,m,?_,by exact λz4=>Bool.noConfusion z4,λ_=>vV (mH vr lt),g',gb,mv,?_⟩
    .clear m1 m2 s;rcases mH vr lt with⟨rfl,rfl⟩|⟨i,rfl,rfl⟩<;>exact rfl
    .rw[List.map_append];refine ent.snoc ?_;clear m1 m2 s;rcases mH vr lt with⟨rfl,rfl⟩|⟨i,rfl,rfl⟩<;>exact .inl rfl
   cases t with
   |none=>
    rcases s with s|hr
    .exact lQ trivial s
    .obtain⟨r,_,q,_⟩:=hr;exact(lH hj q).elim
   |int i=>
    rcases s with s|hr
    .exact lQ trivial s
    .obtain⟨r,_,q,_⟩:=hr;exact(lH hj q).elim
   |cell x=>refine az s λr' bf q=>?_;clear lQ;clear m1 s;subst bf;have kk:=keep r' (.inr (.inl ⟨x,q⟩));rw[pf hj]at q;have q':g'.cat r'=.tl x:=kk.1.trans q;refine⟨true,.ref r',m,by rw[dE (Be gb q') (λz4=>Ty.noConfusion z4)];rfl,by exact λz4=>And.intro rfl rfl,by exact λz4=>Bool.noConfusion z4,g',gb,mv,?_⟩;rw[List.map_append];exact bX.snoc (k:=k) (v:=.ref r') (t:=.cell x) ⟨r',rfl,q'⟩ ent
   |arr bu=>
    rcases s with s|hr
    .refine aY s λi bf q1 q2=>?_;clear lQ;clear m1 s;subst bf;refine fm (keep i (.inl ⟨k,.inl q1⟩)) λk1 k2 k3=>?_;have di:du (g'.cat i):=by rw[k1];exact lG hj q1
     have H3:g'.den i=bu:=k2.trans q2;have gv:dR L1 (g'.den i):=by rw[H3];exact lt
     have cp:=MN (n:=n) gb di gv;have r':=(gb.rep i).jf di;have ei:=(gb.link i).ent (nW di);have hn:g'.cat m.length=.no:=gb.fresh _ (le_refl _);have ne:∀y,g'.cat y≠.no->y≠m.length:=by rintro y h rfl;exact h hn
     have fP:St (g'.add m.length (.TB 4 k) (g'.ah i) (g'.den i) .none .none 0) (m++[.dict (g'.ah i)]):=by
      refine gb.new rfl ?_ ?_
      .exact bQ.xJ rfl (getElem?_concat_length)
      .refine bX.link ?_ (by simp[Gh.add,fQ]);have:=ei.L1 (g':=g'.add m.length (.TB 4 k) (g'.ah i) (g'.den i) .none .none 0) (c':=.TB 4 k) di trivial (λy x e=>by have:=ne y (by rw[e];exact λz4=>ak.noConfusion z4);exact(if_neg this).trans e) (λe me=>(gv.ok e me).2);simpa[Gh.add]using this
     have gq:Mv (λ_=>False) g' (g'.add m.length (.TB 4 k) (g'.ah i) (g'.den i) .none .none 0) m (m++[.dict (g'.ah i)]):=Mv.new gb;refine⟨false,.ref m.length,_,?_,by exact λz4=>Bool.noConfusion z4,λ_=>cp,_,fP,mv.trans id gq,?_⟩
     .rw[dE (t:=.dict) (by simp[bG,r']) (λz4=>Ty.noConfusion z4)];rfl
     .rw[List.map_append];refine(ent.add hn).snoc ?_;exact .inl ⟨m.length,rfl,by exact if_pos rfl,by exact(if_pos rfl).trans H3⟩
    .obtain⟨r,_,q,_⟩:=hr;exact(lH hj q).elim)
  have hn:g'.cat m'.length=.no:=gb.fresh _ (le_refl _);rw[xP]at e2;rw[<-e2]at ent;have fP:St (g'.add m'.length (.TA 4) d es .none .none 0) (m'++[.dict d]):=by
   refine gb.new rfl ?_ ?_
   .exact bQ.xJ rfl (getElem?_concat_length)
   .refine bX.link ?_ (by simp[Gh.add,fQ]);have:=ent.add (c0:=.TA 4) (s:=d) (d:=es) (v:=.none) (t:=.none) (h:=0) hn;simpa[Gh.add]using this
  exact kn _ _ _ e1 fP ⟨m'.length,rfl,if_pos rfl,if_pos rfl⟩ (mv.trans id (Mv.new gb))
end
section
theorem Mv.adopt{F:ak->Prop}{n:Nat}(hz:¬F .zm)(mv:Mv F g0 g m0 ms)(hn:g.cat n=.no)(h0:m0.length<=n){h:Int}:Mv F g0 (g.add n c s d v t h) m0 ms:=by
 have ne:∀j,g.cat j≠.no->j≠n:=by clear h0;rintro j h rfl;exact h hn
 refine⟨mv.len,mv.kl,?_,?_,?_,mv.cs⟩
 .intro j hj e;have:j≠n:=by omega
  refine bT (mv.no j hj e) λh1 h2=>?_;exact⟨by exact(if_neg this).trans h1,h2⟩
 .intro j e;refine fm (mv.zu j e) λh1 h2 h3=>?_;have:j≠n:=by clear ne;clear h0;rintro rfl;rw[hn]at h1;rcases h1 with h1|h1<;>exact ak.noConfusion h1
  simpa[Gh.add,this]using⟨h1,h2,h3⟩
 .intro j h1 h2 h3;refine fm (mv.gi j h1 h2 h3) λe1 e2 e3=>?_;have:j≠n:=by clear ne;clear h0;rintro rfl;rw[hn]at e1;exact h2 e1.symm
  exact And.intro ((if_neg this).trans e1) (And.intro ((if_neg this).trans e2) ((if_neg this).trans e3))
theorem St.rT{n:Nat}(st:St g ms)(hn:g.cat n=.no)(kl:bg ms (ms.set n o)):St g (ms.set n o):=by
 refine st.mN (λ_=>False) kl qE (λj=>.inl rfl) ?_ (λ_ h=>h.elim);intro j;by_cases q:j=n
 .exact .inr (.inl (q▸hn))
 .exact .inr (.inr ⟨rfl,rfl,rfl,rfl,rfl,rfl,getElem?_set_ne (λe=>q e.symm),λ_ _=>rfl,λ_ _=>⟨rfl,rfl,rfl⟩⟩)
noncomputable def dX:Ar:=⟨true,[],-9223372036854775808,0,false⟩
theorem Gy{n:Nat}(h:ms[n]?=some dX.mo):oJ ms n false []:=⟨dX,h,⟨by decide,by simp[dX],by simp[dX],by simp[dX,Ar.ah],by simp[dX],by simp[dX]⟩,rfl,rfl⟩
theorem D5:wu [] ms=some (.int (-9223372036854775808),ms):=rfl
theorem Gz{ms:Hp}:(ms++[o])[ms.length]?=some o:=by exact getElem?_concat_length
theorem kq{ms:Hp}(h:l "self"=some (.ref ms.length))(q:v l (ms++[.inst k fs])=some (x,ms++[.inst k fs]))(z:Nat.ble fs.length 500=true)(w:s l (ms++[.inst k (fj f (.val x) fs)])=r):ag (bR f (nm "self") v) s l (ms++[.inst k fs])=r:=gk (Ai q (bo h) Gz z) (by rw[List.set_append_right _ _ (le_refl _),Nat.sub_self];exact w)
theorem oq{ms:Hp}(h:l "self"=some (.ref ms.length))(z:Nat.ble fs.length 500=true)(w:s l (ms++[.inst k (fj f (.lst []) fs)])=r):ag (cz f (nm "self") (bI af)) s l (ms++[.inst k fs])=r:=gk (wy (wK fM rfl) (bo h) Gz z) (by rw[List.set_append_right _ _ (le_refl _),Nat.sub_self];exact w)
theorem Hq{ms:Hp}(h:l "self"=some (.ref ms.length))(z:fs.length<=500)(w:s l (ms++[.inst k (fj f .js fs)])=r):ag (dk f (nm "self") qC) s l (ms++[.inst k fs])=r:=by
 have e:dk f (nm "self") qC l (ms++[.inst k fs])=some (.next,l,ms++[.inst k (fj f .js fs)]):=by simp[dk,qC,nm,h,z]
 exact gk e w
theorem LK{ms:Hp}:Ab [.ref ms.length,.int 8] (ms++[.inst .arr []])=some (.none,ms++[dX.mo]):=(cV rfl).trans (ui (kq rfl ia rfl (oq rfl rfl (oq rfl rfl (oq rfl rfl (oq rfl rfl (kq rfl (bo rfl) rfl (kq rfl ia rfl (kq rfl (gY fM D5) rfl (kq rfl ia rfl (kq rfl ia rfl (Hq rfl (le_of_ble_eq_true rfl) mI))))))))))))
theorem LM{ms:Hp}:jk [.ref ms.length] (ms++[.inst .arr []])=some (.none,ms++[dX.mo]):=(cV rfl).trans (ui (kq rfl ia rfl (oq rfl rfl (oq rfl rfl (oq rfl rfl (oq rfl rfl (kq rfl (bo rfl) rfl (kq rfl ia rfl (kq rfl (gY fM D5) rfl (kq rfl ia rfl (kq rfl ia rfl (Hq rfl (le_of_ble_eq_true rfl) mI))))))))))))
theorem Bg{ms:Hp}:g7 .arr jk af l ms=some (.ref ms.length,ms++[dX.mo]):=by simp_arith! [LM]
theorem LN{ms:Hp}:rG [.ref ms.length,v] (ms++[.inst .ref []])=some (.none,ms++[bt v 0]):=(cV rfl).trans (ui (kq rfl (bo rfl) rfl (kq rfl ia rfl (oq rfl rfl mI))))
theorem zy{r:Nat}{h:Int}(e:ms[r]?=some (bt v h)):km [.ref r] ms=some (.ref r,ms.set r (bt v (h+1))):=by delta km Ac;refine(cV rfl).trans ?_;simp_arith! [e,bt]
noncomputable def Gh.rh(g:Gh)(aI:Nat->ak)(bP:Nat->Int):Gh:={g with cat:=aI,ho:=bP}
theorem St.hold{r x:Nat}(st:St g ms)(hr:g.cat r=.rc x):St {g with ho:=λj=>if j=r then g.ho j+1 else g.ho j} (ms.set r (bt (g.rv r) (g.ho r+1))):=by
 have e:=(st.rep r).ref (by rw[hr];trivial);have hi:r<ms.length:=(List.getElem?_eq_some_iff.mp e).1;refine st.mN (·=r) (bg.set e) qE (λj=>.inl rfl) ?_ ?_
 .intro j;by_cases q:j=r
  .exact .inl q
  .exact .inr (.inr ⟨rfl,rfl,rfl,rfl,rfl,by exact if_neg q,getElem?_set_ne (λe=>q e.symm),λ_ _=>rfl,λ_ _=>⟨rfl,rfl,rfl⟩⟩)
 .clear e;rintro j rfl;have ho:=st.link j;unfold dy at ho;rw[hr]at ho;refine⟨?_,?_⟩
  .unfold bQ;simp only[hr];simp[hi]
  .unfold dy;simp only[hr];exact⟨ho.1.map λi q=>⟨q,rfl⟩,by simp;omega⟩
theorem Mv.hold{F:ak->Prop}{r x:Nat}{h h':Int}(hr:g.cat r=.rc x)(e:ms[r]?=some (bt v h)):Mv F g {g with ho:=λj=>if j=r then g.ho j+1 else g.ho j} ms (ms.set r (bt v h')):=⟨by exact qE,bg.set e,λj _ q=>⟨q,getElem?_set_ne (dU hr q nofun)⟩,λj q=>⟨.inr q,rfl,rfl⟩,λj _ _ _=>⟨rfl,rfl,rfl⟩,λh=>h⟩
def SZ(g:Gh)(v:V)(t:T):Prop:=match t with
 |.cell x=>∃r,v=.ref r/\g.cat r=.rc x
 |t=>VR g (·=.zm) v t
theorem SZ.mv{F:ak->Prop}(mv:Mv F g g' ms ms')(hz:¬F .zm)(hr:∀x,¬F (.rc x))(h:SZ g v t):SZ g' v t:=by
 cases t with
 |cell x=>refine az h λr e q=>?_;exact a0 r e ((mv.gi r (by rw[q];exact λz4=>ak.noConfusion z4) (by rw[q];exact λz4=>ak.noConfusion z4) (by rw[q];exact hr x)).1.trans q)
 |none=>exact VR.le mv (v:=v) (t:=.none) (P:=(·=.zm)) (by rintro c rfl;exact⟨by exact λz4=>ak.noConfusion z4,by exact λz4=>ak.noConfusion z4,hz⟩) h
 |int i=>exact VR.le mv (v:=v) (t:=.int i) (P:=(·=.zm)) (by rintro c rfl;exact⟨by exact λz4=>ak.noConfusion z4,by exact λz4=>ak.noConfusion z4,hz⟩) h
 |arr es=>exact VR.le mv (v:=v) (t:=.arr es) (P:=(·=.zm)) (by rintro c rfl;exact⟨by exact λz4=>ak.noConfusion z4,by exact λz4=>ak.noConfusion z4,hz⟩) h
open Classical in
noncomputable def cv(g:Gh):V->V
 |.ref r=>if g.cat r=.zr then g.rv r else .ref r
 |v=>v
theorem KV:j0 [.absent] ms=some (.absent,ms):=by refine(cV (by rfl)).trans ?_;simp_arith[ag,aW,ao,bq,aG,aR,bR,cz,dk,aw,ba,aK,bC,aS,cy,bz,dV,dQ,df,aB,dF,aP,a9,b9,bj,dw,c8,aq,bw,dB,aa,af,bI,bE,aU,aO,ay,nm,ae,ax,av.set,bJ,dA,dI,aE,cB,bc,dC,dh,cT,dS,fc,d3,fe,dK,ff,dM,dZ,eu,eH,eI,d9,eg,eA,d0,dJ,d8,eQ,eB,ee,eD,eC,eG,eU,eW,eJ,eM,eN,eX,e8,e9,fb,eO,eY,cg]
theorem Kl{r:Nat}{h:Int}(e:ms[r]?=some (bt v h))(h2:2<=h):j0 [.ref r] ms=some (.ref r,ms.set r (bt v (h+1))):=by
 have ty:bG (.ref r) ms=some (.c .ref):=by simp[bG,e,bt]
 have e1:cg (.ref r) ms (.c .ref)=some true:=by rw[dE ty (by simp)];rfl
 have e2:cg (.ref r) ms (.c .abs)=some false:=by rw[dE ty (by simp)];rfl
 have e3:1<h:=by omega
 have hh:=zy e;delta j0 tu;refine(cV rfl).trans ?_;have e':=e;unfold bt at e';simp_arith[ag,aW,ao,bq,aG,aR,bR,cz,dk,aw,ba,aK,bC,aS,cy,bz,dV,dQ,df,aB,dF,aP,a9,b9,bj,dw,c8,aq,bw,dB,aa,af,bI,bE,aU,aO,ay,nm,ae,ax,av.set,bJ,dA,dI,aE,cB,bc,dC,dh,cT,dS,fc,d3,fe,dK,ff,dM,dZ,eu,eH,eI,d9,eg,eA,d0,dJ,d8,eQ,eB,ee,eD,eC,eG,eU,eW,eJ,eM,eN,eX,e8,e9,fb,eO,eY,e1,e2,e',Ho,e3,hh]
theorem Km{r:Nat}(e:ms[r]?=some (bt v 1))(hm:kJ [v] ms=some (v,ms')):j0 [.ref r] ms=some (v,ms'):=by
 have ty:bG (.ref r) ms=some (.c .ref):=by simp[bG,e,bt]
 have e1:cg (.ref r) ms (.c .ref)=some true:=by rw[dE ty (by simp)];rfl
 have e2:cg (.ref r) ms (.c .abs)=some false:=by rw[dE ty (by simp)];rfl
 delta j0 tu;refine(cV rfl).trans ?_;have e':=e;unfold bt at e';simp_arith[ag,aW,ao,bq,aG,aR,bR,cz,dk,aw,ba,aK,bC,aS,cy,bz,dV,dQ,df,aB,dF,aP,a9,b9,bj,dw,c8,aq,bw,dB,aa,af,bI,bE,aU,aO,ay,nm,ae,ax,av.set,bJ,dA,dI,aE,cB,bc,dC,dh,cT,dS,fc,d3,fe,dK,ff,dM,dZ,eu,eH,eI,d9,eg,eA,d0,dJ,d8,eQ,eB,ee,eD,eC,eG,eU,eW,eJ,eM,eN,eX,e8,e9,fb,eO,eY,e1,e2,e',Ho,R0,hm]
theorem KW(ty:bG v ms=some t)(n1:t≠.c .abs)(n2:t≠.c .ref)(hm:kJ [v] ms=some (v,ms')):j0 [v] ms=some (v,ms'):=by have e1:=(dE ty n1 (.c .ref)).trans (congrArg some (qg n2 nofun));have e2:=(dE ty n1 (.c .abs)).trans (congrArg some (qg n1 nofun));delta j0 tu;refine(cV rfl).trans ?_;simp_arith[ag,aW,ao,bq,aG,aR,bR,cz,dk,aw,ba,aK,bC,aS,cy,bz,dV,dQ,df,aB,dF,aP,a9,b9,bj,dw,c8,aq,bw,dB,aa,af,bI,bE,aU,aO,ay,nm,ae,ax,av.set,bJ,dA,dI,aE,cB,bc,dC,dh,cT,dS,fc,d3,fe,dK,ff,dM,dZ,eu,eH,eI,d9,eg,eA,d0,dJ,d8,eQ,eB,ee,eD,eC,eG,eU,eW,eJ,eM,eN,eX,e8,e9,fb,eO,eY,e1,e2,hm]
noncomputable def m8(v:V)(t:T)(j:Nat):Int:=match t,v with
 |.cell _,.ref r=>if j=r then 1 else 0
 |_,_=>0
theorem LO(st:St g ms)(s:SR g .zm k v t):∃(aI:Nat->ak) (bP:Nat->Int) (ms':Hp),j0 [v] ms=some (cv g v,ms')/\St (g.rh aI bP) ms'/\Mv (λ_=>False) g (g.rh aI bP) ms ms'/\SZ (g.rh aI bP) (cv g v) t/\ms'.length=ms.length/\(∀j,aI j=.zr↔g.cat j=.zr)/\
 (∀j,bP j=g.ho j+m8 v t j):=by
 have main:(∀x,t≠.cell x)->(VR g (AK .zm k) v t\/∃r,v=.ref r/\RK .zm k (g.cat r)/\g.fq r=t)->∃(aI:Nat->ak) (bP:Nat->Int) (ms':Hp),j0 [v] ms=some (cv g v,ms')/\St (g.rh aI bP) ms'/\Mv (λ_=>False) g (g.rh aI bP) ms ms'/\VR (g.rh aI bP) (·=.zm) (cv g v) t/\ms'.length=ms.length/\(∀j,aI j=.zr↔g.cat j=.zr)/\(∀j,bP j=g.ho j):=by
  intro hx h;have qS:∀c,AK .zm k c->ju c:=by rintro c (rfl|rfl)<;>exact trivial
  have IH:∀c,AK .zm k c->c≠.zm->c≠.zu->False:=by rintro c (rfl|rfl) n1 n2<;>(first|exact n1 rfl|exact n2 rfl)
  have CE:∀w,VR g (AK .zm k) w t->∃(aI:Nat->ak) (ms':Hp),kJ [w] ms=some (w,ms')/\St (g.re aI) ms'/\VR (g.re aI) (·=.zm) w t/\ms'.length=ms.length/\Mv (λ_=>False) g (g.re aI) ms ms'/\(∀j,aI j=.zr↔g.cat j=.zr):=by
   intro w vr;cases t with
   |none=>exact⟨g.cat,ms,by rw[show w=.none from vr];rfl,st,vr,rfl,Mv.refl,λ_=>Iff.rfl⟩
   |int i=>exact⟨g.cat,ms,by
    refine fH (sW (F:=λ_=>False) st qS IH vr) λc' m' q _=>?_;rw[show w=.int i from vr]at q⊢;have:kJ [.int i] ms=some (.int i,ms):=by refine(cV (by rfl)).trans ?_;simp_arith[ag,aW,ao,bq,aG,aR,bR,cz,dk,aw,ba,aK,bC,aS,cy,bz,dV,dQ,df,aB,dF,aP,a9,b9,bj,dw,c8,aq,bw,dB,aa,af,bI,bE,aU,aO,ay,nm,ae,ax,av.set,bJ,dA,dI,aE,cB,bc,dC,dh,cT,dS,fc,d3,fe,dK,ff,dM,dZ,eu,eH,eI,d9,eg,eA,d0,dJ,d8,eQ,eB,ee,eD,eC,eG,eU,eW,eJ,eM,eN,eX,e8,e9,fb,eO,eY,cg,bG,fx]
    exact this,st,vr,rfl,Mv.refl,λ_=>Iff.rfl⟩
   |cell x=>exact vr.elim
   |arr es=>
    refine aY vr λi bf h1 h2=>?_;clear vr;subst bf;refine aY (Hm (qS _ h1) (st.rep i)) λa h3 h4 h5=>?_;have ty:bG (.ref i) ms=some (.c .arr):=by simp[bG,h3,Ar.mo]
    have e2:cg (.ref i) ms (.c .arr)=some true:=by rw[dE ty (by simp)];rfl
    refine GK _ _ ?_ (st.mark (qS _ h1) h3 h4 h5) ⟨i,rfl,by exact if_pos rfl,h2⟩ length_set (Mv.mark (qS _ h1) h3 (IH _ h1)) ?_
    .have hm:a.marked.mo=.inst .arr (aM a.pk a.ks a.vs a.hs a.ns a.ah.length a.nx a.at_ true):=rfl;have Cy:ms[i]?=some (.inst .arr (aM a.pk a.ks a.vs a.hs a.ns a.ah.length a.nx a.at_ a.sh)):=h3;delta kJ wh;refine(cV (by rfl)).trans ?_;rw[hm];simp_arith[ag,aW,ao,bq,aG,aR,bR,cz,dk,aw,ba,aK,bC,aS,cy,bz,dV,dQ,df,aB,dF,aP,a9,b9,bj,dw,c8,aq,bw,dB,aa,af,bI,bE,aU,aO,ay,nm,ae,ax,av.set,bJ,dA,dI,aE,cB,bc,dC,dh,cT,dS,fc,d3,fe,dK,ff,dM,dZ,eu,eH,eI,d9,eg,eA,d0,dJ,d8,eQ,eB,ee,eD,eC,eG,eU,eW,eJ,eM,eN,eX,e8,e9,fb,eO,eY,e2,Cy]
    .intro j;by_cases q:j=i
     .clear e2 h2 h3 h5 ty;subst q;rcases h1 with h1|h1<;>simp[h1]
     .simp[q]
  rcases h with h|hr
  .have vr:=h;have ty:=(h.map (g':=g) (P':=ft) λi z=>⟨kM (c:=.zm) trivial z,rfl⟩).f9 st λ_ z=>z;refine qz (CE v vr) λaI ms' e1 e2 e3 e4 e5 e6=>?_;have oN:cv g v=v:=by
    cases t with
    |none=>rw[show v=.none from h];rfl
    |int i=>rw[show v=.int i from h];rfl
    |cell x=>exact h.elim
    |arr es=>
     refine aY h λi bf h1 _=>?_;clear e1 e3 h s;clear ty vr;subst bf;have:g.cat i≠.zr:=by rintro e;rw[e]at h1;rcases h1 with h1|h1<;>exact ak.noConfusion h1
     exact if_neg this
   rw[oN];exact ql aI g.ho ms' (KW ty kL (by clear hx CE;clear h s;clear ty vr;cases t<;>(first|exact λz4=>Ty.noConfusion z4|exact λz4=>False.elim e3|simp[f9])) e1) e2 e5 e3 e4 e6 (λ_=>rfl)
  .refine aY hr λr bf h1 h2=>?_;clear hr;clear s;subst bf;have h1:g.cat r=.zr:=h1;have e:=(st.rep r).ref (by rw[h1];trivial);have lk:=st.link r;unfold dy at lk;rw[h1]at lk;rw[lk.2]at e;rw[h2]at lk;refine qz (CE (g.rv r) lk.1) λaI ms' e1 e2 e3 e4 e5 e6=>?_;rw[show cv g (.ref r)=g.rv r by exact if_pos h1];exact ql aI g.ho ms' (Km e e1) e2 e5 e3 e4 e6 (λ_=>rfl)
 cases t with
 |cell x=>
  refine az s λr bf h=>?_;clear main;clear s;subst bf;have h:g.cat r=.rc x:=h;have e:=(st.rep r).ref (by rw[h];trivial);have lk:=st.link r;unfold dy at lk;rw[h]at lk;have oN:cv g (.ref r)=.ref r:=by simp[cv,h]
  rw[oN];refine ql g.cat (λj=>if j=r then g.ho j+1 else g.ho j) _ (Kl e lk.2) (st.hold h) (Mv.hold h e) ⟨r,rfl,h⟩ length_set (λ_=>Iff.rfl) ?_;intro j;by_cases q:j=r
  .clear e oN lk;clear h;clear h;subst q;simp[m8]
  .simp[m8,q]
 |none=>refine uu (main (by intro x e;exact T.noConfusion e) s) λaI bP ms' e1 e2 e3 e4 e5 e6 e7=>?_;exact ql aI bP ms' e1 e2 e3 e4 e5 e6 (λj=>by rw[e7];simp[m8])
 |int i=>refine uu (main (by intro x e;exact T.noConfusion e) s) λaI bP ms' e1 e2 e3 e4 e5 e6 e7=>?_;exact ql aI bP ms' e1 e2 e3 e4 e5 e6 (λj=>by rw[e7];simp[m8])
 |arr es=>refine uu (main (by intro x e;exact T.noConfusion e) s) λaI bP ms' e1 e2 e3 e4 e5 e6 e7=>?_;exact ql aI bP ms' e1 e2 e3 e4 e5 e6 (λj=>by rw[e7];simp[m8])
end
section
theorem BY:∀{es:List (Option (DK×V))} {ds:List (DK×T)},bX g c (es.filterMap id) ds->∃oz:List (Option (DK×V×T)),es=oz.map (Option.map λz=>(z.1,z.2.1))/\ds=(oz.filterMap id).map (λz=>(z.1,z.2.2))/\∀z,some z∈oz->SR g c z.1 z.2.1 z.2.2
 |[],[],_=>(cA ([]) rfl rfl (by simp))
 |[],_::_,h=>h.elim
 |none::es,ds,h=>by refine aY (BY (es:=es) (ds:=ds) (by simpa using h)) λoz e1 e2 e3=>?_;exact cA (none::oz) (by simp[e1]) e2 (λz m=>e3 z (by simpa using m))
 |some (k,v)::es,[],h=>by exact False.elim h
 |some (k,v)::es,(k',t)::ds,h=>by
  have h:bX g c ((k,v)::es.filterMap id) ((k',t)::ds):=by simpa using h
  refine fm h λjF h2 h3=>?_;clear h;clear h;subst jF;refine aY (BY h3) λoz e1 e2 e3=>?_;refine cA (some (k,v,t)::oz) (by simp[e1]) (by simp[e2]) (λz m=>?_);rcases mem_cons.mp m with e|m
  .clear m;cases e;exact h2
  .exact e3 z m
theorem Em{f:DK×V×T->V}:∀{zs:List (DK×V×T)},(∀z∈zs,SR g c z.1 (f z) z.2.2)->bX g c (zs.map λz=>(z.1,f z)) (zs.map λz=>(z.1,z.2.2))
 |[],_=>trivial
 |z::zs,h=>⟨rfl,h z (.head _),Em λy m=>h y (.tail _ m)⟩
theorem SZ.sr(h:SZ g v t)(hc:(∃a,c=.A a)\/(∃a k,c=.B a k)\/∃x,c=.C x):SR g c k v t:=by
 have h1:AK c k .zm:=by rcases hc with⟨a,rfl⟩|⟨a,k',rfl⟩|⟨x,rfl⟩<;>simp[AK]
 have h2:∀x,CK c x=.rc x:=by clear h1;rcases hc with⟨a,rfl⟩|⟨a,k',rfl⟩|⟨x,rfl⟩<;>intro y<;>rfl
 cases t with
 |cell x=>refine az h λr e q=>?_;exact(a0 r e (by rw[h2];exact q))
 |none=>exact .inl h
 |int i=>exact .inl h
 |arr es=>exact .inl (VR.map (P:=(·=.zm)) h λi q=>⟨by rw[show g.cat i=.zm from q];exact h1,rfl⟩)
theorem SZ.ty(st:St g ms)(h:SZ g v t):∃ty,bG v ms=some ty/\(ty=.none\/ty=.int\/ty=.c .arr\/ty=.c .ref):=by
 have main:VR g (·=.zm) v t->∃ty,bG v ms=some ty/\(ty=.none\/ty=.int\/ty=.c .arr\/ty=.c .ref):=by intro h;refine a0 _ (h.f9 st (by rintro c rfl;exact trivial)) ?_;clear h;clear h;cases t<;>(first|exact Or.inl rfl|exact Or.inr (Or.inl rfl)|exact Or.inr (Or.inr (Or.inl rfl)))
 cases t with
 |cell x=>refine az h λr bf q=>?_;clear main;clear h;subst bf;exact(a0 _ (kN st (by rw[q];trivial)) (Or.inr (Or.inr (Or.inr rfl))))
 |none=>exact main h
 |int i=>exact main h
 |arr es=>exact main h
theorem SZ.vq(st:St g ms)(h:SZ g v t):gp ms v:=by refine az (h.ty st) λty h1 h2=>?_;exact gp.ty h1 (by clear h1;rcases h2 with rfl|rfl|rfl|rfl<;>simp)
theorem SR.zm(mv:Mv (λ_=>False) g g' ms ms')(hr:g'.fq=g.fq)(s:SR g .zm k v t):SR g' .zm k v t:=by
 refine s.map ?_ ?_ ?_
 .intro i q;rcases q with q|q
  .refine fm (mv.gi i (by rw[q];exact λz4=>ak.noConfusion z4) (by rw[q];exact λz4=>ak.noConfusion z4) id) λe1 e2 _=>?_;exact⟨.inl (e1.trans q),e2⟩
  .refine fm (mv.zu i q) λe1 e2 _=>?_;exact⟨e1,e2⟩
 .intro i q;have q:g.cat i=.zr:=q;refine fm (mv.gi i (by rw[q];exact λz4=>ak.noConfusion z4) (by rw[q];exact λz4=>ak.noConfusion z4) id) λe1 e2 _=>?_;exact⟨e1.trans q,by rw[hr]⟩
 .intro i x q;have q:g.cat i=.rc x:=q;refine fm (mv.gi i (by rw[q];exact λz4=>ak.noConfusion z4) (by rw[q];exact λz4=>ak.noConfusion z4) id) λe1 e2 _=>?_;exact e1.trans q
theorem EZ(h1:∀j,g'.cat j=.zr↔g.cat j=.zr)(h2:g'.rv=g.rv)(v:V):cv g' v=cv g v:=by
 cases v with
 |ref r=>
  by_cases q:g.cat r=.zr
  .simp[cv,q,(h1 r).mpr q,h2]
  .have:g'.cat r≠.zr:=λe=>q ((h1 r).mp e);simp[cv,q,this]
 |_=>rfl
def kC(zs:List (DK×V×T))(i:Nat):Int:=(zs.map λz=>m8 z.2.1 z.2.2 i).sum
def vt(g:Gh):Option (DK×V×T)->V
 |none=>.absent
 |some z=>cv g z.2.1
theorem LQ{g:Gh}{ms:Hp}{oz:List (Option (DK×V×T))}(st:St g ms)(hz:oz.length<=1000)(hs:∀z,some z∈oz->SR g .zm z.1 z.2.1 z.2.2)(l:av):
 ∃(aI:Nat->ak) (bP:Nat->Int) (m:Hp),ja (λv l=>some (l.set "slot" v)) (aS) (aq (j0) (aa (nm "slot") (af))) ((oz.map (Option.map λz=>(z.1,z.2.1))).map bB) l ms []=some (oz.map (vt g),m)/\St (g.rh aI bP) m/\Mv (λ_=>False) g (g.rh aI bP) ms m/\m.length=ms.length/\(∀j,aI j=.zr↔g.cat j=.zr)/\(∀i,bP i=g.ho i+kC (oz.filterMap id) i)/\∀z,some z∈oz->SZ (g.rh aI bP) (cv g z.2.1) z.2.2:=by
 have key:=mE (upd:=λv l=>some (l.set "slot" v)) (c:=aS) (e:=aq (j0) (aa (nm "slot") (af))) oz (λo=>bB (o.map λz=>(z.1,z.2.1))) hz
  (λpre acc l m=>∃(aI:Nat->ak) (bP:Nat->Int),St (g.rh aI bP) m/\Mv (λ_=>False) g (g.rh aI bP) ms m/\m.length=ms.length/\(∀j,aI j=.zr↔g.cat j=.zr)/\(∀i,bP i=g.ho i+kC (pre.filterMap id) i)/\acc=pre.map (vt g)/\∀z,some z∈pre->SZ (g.rh aI bP) (cv g z.2.1) z.2.2) ?_ (l:=l) (ms:=ms)
  ⟨g.cat,g.ho,st,Mv.refl,rfl,λ_=>Iff.rfl,λi=>by simp[kC],rfl,by simp⟩
 .obtain⟨acc,l',m,e,aI,bP,h1,h2,h3,h4,h5,rfl,h7⟩:=key;refine ql aI bP m ?_ h1 h2 h3 h4 h5 h7;rw[map_map];exact e
 .rintro pre o post e acc l0 m ⟨BZ,ym,s1,gJ,H4,CF,II,rfl,IJ⟩;cases o with
  |none=>refine a0 _ rfl (.inl ⟨m,.absent,m,rfl,?_,BZ,ym,s1,gJ,H4,CF,by simpa using II,by simp[vt],λz mz=>IJ z (by simpa using mz)⟩);simp_arith! [bB,KV]
  |some z=>
   have mz:some z∈oz:=by rw[e];exact mem_append_right _ mem_cons_self
   have s:=(hs z mz).zm gJ rfl;refine uu (LO s1 s) λTa UD m2 q1 q2 q3 q4 q5 q6 q7=>?_;have oN:cv (g.rh BZ ym) z.2.1=cv g z.2.1:=EZ (g:=g) (g':=g.rh BZ ym) CF rfl _;rw[oN]at q1 q4;refine a0 _ rfl (.inl ⟨m,cv g z.2.1,m2,rfl,?_,Ta,UD,q2,gJ.trans id q3,by omega,λj=>(q6 j).trans (CF j),?_,by simp[vt],?_⟩)
   .simp_arith! [bB,q1]
   .intro i;refine(q7 i).trans ?_;show ym i+_=_;rw[II i];simp[kC,filterMap_append];omega
   .intro y my;rcases List.mem_append.mp my with my|my
    .exact(IJ y my).mv q3 id λ_=>id
    .simp at my;clear e oN mz q1 q7 s;subst my;exact q4
theorem LR{ms m m':Hp}{j:Nat}{pk sh CG UE:Bool}{c nx IK c2 mn at2 yn:Int}(ha:ms[j]?=some (.inst .arr (aM pk ks vs hs ns c nx IK sh)))(g1:∀o,((ms++[dX.mo]).set ms.length o)[j]?=some (.inst .arr (aM pk ks vs hs ns c nx IK sh)))(N1:ms.length<(ms++[dX.mo]).length)
 (hc:cM (a9 "vals" (nm "arr")) [] (λv l=>some (l.set "slot" v)) (aS) (aq (j0) (aa (nm "slot") (af))) ((ax ["arr"] [.ref j]).set "made" (.ref ms.length)) ((ms++[dX.mo]).set ms.length (.inst .arr (aM pk ks [] [] [] 0 (-9223372036854775808) 0 false)))=some (mZ,m))(hm:m[ms.length]?=some (.inst .arr (aM pk ks [] [] [] 0 (-9223372036854775808) 0 false)))(N2:ms.length<m.length)
 (g2:∀o,(m.set ms.length o)[j]?=some (.inst .arr (aM CG UG UH sF UI c2 mn at2 UE)))
 (Ci:bz (aB .Lt (aP "at" (nm "arr")) (bj (a9 "vals" (nm "arr")))) (aP "at" (nm "arr")) (aq (oS) (aa (nm "arr") (aa (ae (.int 0)) (af)))) ((ax ["arr"] [.ref j]).set "made" (.ref ms.length)) (m.set ms.length (.inst .arr (aM pk ks mZ [] [] c2 mn 0 false)))=some (.int yn,m.set ms.length (.inst .arr (aM pk ks mZ [] [] c2 mn 0 false))))
 (hw:aG (ba (aw (aP "is_packed" (nm "made")))) (ag (aR (aq (ng) (aa (nm "made") (af)))) (ao)) (ao) ((ax ["arr"] [.ref j]).set "made" (.ref ms.length)) (m.set ms.length (.inst .arr (aM pk ks mZ [] [] c2 mn yn false)))=some (.next,(ax ["arr"] [.ref j]).set "made" (.ref ms.length),m')):qf [.ref j] ms=some (.ref ms.length,m'):=
 (cV rfl).trans (xh (gk (m1:=(ms++[dX.mo]).set ms.length dX.mo) (qt (PQ (dN (jl (bo rfl) ha d9) fM) (LK.trans (congrArg (λz=>some (V.none,z)) (by rw[List.set_append_right _ _ (le_refl _),Nat.sub_self];rfl))))) (uA N1 (bo rfl) (jl (bo rfl) (g1 _) dZ) rfl (uL N1 (bo rfl) (tQ (bo rfl) (g1 _) eu) rfl (gk (wy hc (bo rfl) hm rfl) (uA N2 (bo rfl) (jl (bo rfl) (g2 _) eg) rfl (uA N2 (bo rfl) (jl (bo rfl) (g2 _) eA) rfl (uA N2 (bo rfl) Ci rfl (uD N2 (bo rfl) (Gr (bo rfl) (g2 _) d8) rfl (gk hw (uj (xk (bo rfl)))))))))))))
theorem LS{ms:Hp}{j:Nat}(st:St g ms)(hj:g.cat j=.zm):
 ∃(aI:Nat->ak) (bP:Nat->Int) (m:Hp) (b:Ar) (zs:List (DK×V×T)),qf [.ref j] ms=some (.ref ms.length,m)/\m.length=ms.length+1/\m[ms.length]?=some b.mo/\St (g.rh aI bP) m/\Mv (λ_=>False) g (g.rh aI bP) ms m/\dW m b/\b.sh=false/\
  g.ah j=zs.map (λz=>(z.1,z.2.1))/\g.den j=zs.map (λz=>(z.1,z.2.2))/\b.ah=zs.map (λz=>(z.1,cv g z.2.1))/\(∀z∈zs,SR g .zm z.1 z.2.1 z.2.2)/\(∀z∈zs,SZ (g.rh aI bP) (cv g z.2.1) z.2.2)/\(∀i,aI i=.zr↔g.cat i=.zr)/\aI ms.length=.no/\∀i,bP i=g.ho i+kC zs i:=by
 refine fI ((st.rep j).arr (by rw[hj];trivial)) λa ha ok hl _=>?_;have qR:j<ms.length:=(List.getElem?_eq_some_iff.mp ha).1;have en:=(st.link j).ent (by rw[hj]);rw[hj,<-hl]at en;refine aY (BY en) λoz o1 o2 o3=>?_;have jt:ms[j]?=some (.inst .arr (aM a.pk a.ks a.vs a.hs a.ns a.ah.length a.nx a.at_ a.sh)):=ha;have UJ:oz.length=a.es.length:=by rw[o1];simp
 have z8:=ok.len;have N1:ms.length<(ms++[dX.mo]).length:=by exact Ip
 have UK:(ms++[dX.mo]).set ms.length (.inst .arr (aM a.pk a.ks [] [] [] 0 (-9223372036854775808) 0 false))=ms++[.inst .arr (aM a.pk a.ks [] [] [] 0 (-9223372036854775808) 0 false)]:=by rw[List.set_append_right _ _ (le_refl _),Nat.sub_self];rfl
 let m1:Hp:=ms++[.inst .arr (aM a.pk a.ks [] [] [] 0 (-9223372036854775808) 0 false)];have fD:St g m1:=st.grow;refine uu (LQ fD (by omega) o3 (iL [] ((ax ["arr"] [.ref j]).set "made" (.ref ms.length)))) λaI bP m c1 c2 c3 c4 c5 c6 c7=>?_;have H4:m1.length=ms.length+1:=by simp[m1]
 have hN:g.cat ms.length=.no:=st.fresh _ (le_refl _);refine bT (c3.no ms.length (by omega) hN) λIL qT=>?_;have sG:m[ms.length]?=some (.inst .arr (aM a.pk a.ks [] [] [] 0 (-9223372036854775808) 0 false)):=by rw[qT];exact qT.symm.trans (qT.trans getElem?_concat_length)
 have qU:Mv (λ_=>False) g (g.rh aI bP) ms m:=Mv.trans (g2:=g) (m2:=m1) id ⟨by omega,bg.append,λi hi q=>⟨q,getElem?_append_left hi⟩,λi q=>⟨.inr q,rfl,rfl⟩,λ_ _ _ _=>⟨rfl,rfl,rfl⟩,λh=>h⟩ c3;have UL:(g.rh aI bP).cat j=.zm:=(qU.gi j (by rw[hj];exact λz4=>ak.noConfusion z4) (by rw[hj];exact λz4=>ak.noConfusion z4) id).1.trans hj;refine fI ((c2.rep j).arr (by rw[UL];trivial)) λa2 yo CH gX _=>?_;have xQ:m[j]?=some (.inst .arr (aM a2.pk a2.ks a2.vs a2.hs a2.ns a2.ah.length a2.nx a2.at_ a2.sh)):=yo;have Tb:a2.ah.length=a.ah.length:=by rw[gX,hl];rfl
 have gB:j≠ms.length:=by omega
 have R3:m.length=ms.length+1:=by omega
 have dH:∀o,(m.set ms.length o)[ms.length]?=some o:=λo=>by exact Tu sG
 have uo:∀o,(m.set ms.length o)[j]?=m[j]?:=λo=>getElem?_set_ne (λe=>gB e.symm);have R5:∀fs,St (g.rh aI bP) (m.set ms.length (.inst .arr fs)):=λfs=>c2.rT IL (bg.set sG);have R6:∀fs,Mv (λ_=>False) g (g.rh aI bP) ms (m.set ms.length (.inst .arr fs)):=λfs=>⟨by simp;omega,qU.kl.trans (bg.set sG),λi hi q=>⟨(qU.no i hi q).1,by rw[getElem?_set_ne (by omega)];exact(qU.no i hi q).2⟩,qU.zu,qU.gi,qU.cs⟩;let bu:List (Option (DK×V)):=oz.map (Option.map λz=>(z.1,cv g z.2.1));have eK:bu.map dz=a.es.map dz:=by rw[o1,map_map,map_map];apply List.map_congr_left;intro o _;clear a_1;cases o<;>rfl
 have eV:oz.map (vt g)=bu.map bB:=by rw[map_map];apply List.map_congr_left;intro o _;clear a_1;cases o<;>rfl
 have eL:bu.filterMap id=(oz.filterMap id).map λz=>(z.1,cv g z.2.1):=by simp only[bu];refine filterMap_map.trans ?_;rw[List.map_filterMap];rfl
 have IM:(bu.filterMap id).map (·.1)=a.ah.map (·.1):=by rw[eL,map_map,show a.ah=a.es.filterMap id from rfl,o1,filterMap_map,List.map_filterMap,List.map_filterMap];congr 1;funext o;cases o<;>rfl
 have IP:(bu.filterMap id).length=a.ah.length:=by have:=congrArg List.length IM;simpa using this
 have H5:∀k v,some (k,v)∈bu->∃z,some z∈oz/\k=z.1/\v=cv g z.2.1:=by
  intro k v m;refine az (mem_map.mp m) λo mo e=>?_;cases o with
  |none=>cases e
  |some z=>clear m;cases e;exact(cA z mo rfl rfl)
 have fw:∀k v,some (k,v)∈bu->de k:=by intro k v m;refine aY (H5 k v m) λz mz bL _=>?_;clear m;subst bL;exact ok.keys z.1 z.2.1 (by rw[o1];exact mem_map.mpr ⟨_,mz,rfl⟩)
 have ka:∀fs k v,some (k,v)∈bu->gp (m.set ms.length (.inst .arr fs)) v:=by intro fs k v mm;refine aY (H5 k v mm) λz mz _ gI=>?_;clear mm;subst gI;exact((c7 z mz).vq c2).mono (bg.set sG)
 have vw:((bu.filterMap id).map (·.1)).Nodup:=by rw[IM];exact ok.nodup
 have gW:a.vs=(oz.map (Option.map λz=>(z.1,z.2.1))).map bB:=by rw[<-o1];rfl
 have pN:cM (a9 "vals" (nm "arr")) [] (λv l=>some (l.set "slot" v)) (aS) (aq (j0) (aa (nm "slot") (af))) ((ax ["arr"] [.ref j]).set "made" (.ref ms.length)) ((ms++[dX.mo]).set ms.length (.inst .arr (aM a.pk a.ks [] [] [] 0 (-9223372036854775808) 0 false)))=some (bu.map bB,m):=by rw[UK,<-eV];exact tR (tQ (bo rfl) ((getElem?_append_left qR).trans jt) dM) (gW▸c1)
 have iX:∃at2:Int,bz (aB .Lt (aP "at" (nm "arr")) (bj (a9 "vals" (nm "arr")))) (aP "at" (nm "arr")) (aq (oS) (aa (nm "arr") (aa (ae (.int 0)) (af)))) ((ax ["arr"] [.ref j]).set "made" (.ref ms.length)) (m.set ms.length (.inst .arr (aM a.pk a.ks (bu.map bB) [] [] a.ah.length a2.nx 0 false)))=some (.int at2,m.set ms.length (.inst .arr (aM a.pk a.ks (bu.map bB) [] [] a.ah.length a2.nx 0 false))):=by
  have hc:aB .Lt (aP "at" (nm "arr")) (bj (a9 "vals" (nm "arr"))) ((ax ["arr"] [.ref j]).set "made" (.ref ms.length)) (m.set ms.length (.inst .arr (aM a.pk a.ks (bu.map bB) [] [] a.ah.length a2.nx 0 false)))=some (decide (a2.at_<a2.vs.length),m.set ms.length (.inst .arr (aM a.pk a.ks (bu.map bB) [] [] a.ah.length a2.nx 0 false))):=pj (jl (bo rfl) ((uo _).trans xQ) d0) (Ba (tQ (bo rfl) ((uo _).trans xQ) dM)) dS;by_cases q:a2.at_<a2.vs.length
  .exact⟨a2.at_,Hf hc (decide_eq_true q) (jl (bo rfl) ((uo _).trans xQ) d0)⟩
  .refine cW (Dh (ms:=m.set ms.length (.inst .arr (aM a.pk a.ks (bu.map bB) [] [] a.ah.length a2.nx 0 false))) (a:=a2) (i:=j) (by rw[uo];exact yo) (CH.mono (bg.set sG)) 0) λn hn=>?_;exact⟨n,Hg hc (decide_eq_false q) (gY (dN (bo rfl) (dN ia fM)) hn)⟩
 refine cW iX λat2 s7=>?_;have head:∀m',aG (ba (aw (aP "is_packed" (nm "made")))) (ag (aR (aq (ng) (aa (nm "made") (af)))) (ao)) (ao) ((ax ["arr"] [.ref j]).set "made" (.ref ms.length)) (m.set ms.length (.inst .arr (aM a.pk a.ks (bu.map bB) [] [] a.ah.length a2.nx at2 false)))=some (.next,(ax ["arr"] [.ref j]).set "made" (.ref ms.length),m')->qf [.ref j] ms=some (.ref ms.length,m'):=λm' h=>LR jt (λo=>(getElem?_set_ne (λe=>gB e.symm)).trans ((getElem?_append_left qR).trans jt)) N1 pN sG (by omega) (λo=>(uo o).trans (Tb▸xQ)) s7 h;have fin:∀b:Ar,b.sh=false->b.ah=bu.filterMap id->dW (m.set ms.length b.mo) b->qf [.ref j] ms=some (.ref ms.length,m.set ms.length b.mo)->∃(aI:Nat->ak) (bP:Nat->Int) (m:Hp) (b:Ar) (zs:List (DK×V×T)),qf [.ref j] ms=some (.ref ms.length,m)/\m.length=ms.length+1/\m[ms.length]?=some b.mo/\St (g.rh aI bP) m/\Mv (λ_=>False) g (g.rh aI bP) ms m/\dW m b/\b.sh=false/\
  g.ah j=zs.map (λz=>(z.1,z.2.1))/\g.den j=zs.map (λz=>(z.1,z.2.2))/\b.ah=zs.map (λz=>(z.1,cv g z.2.1))/\(∀z∈zs,SR g .zm z.1 z.2.1 z.2.2)/\(∀z∈zs,SZ (g.rh aI bP) (cv g z.2.1) z.2.2)/\(∀i,aI i=.zr↔g.cat i=.zr)/\aI ms.length=.no/\∀i,bP i=g.ho i+kC zs i:=by
  intro b b1 b2 b3 b4;refine⟨aI,bP,_,b,oz.filterMap id,b4,by simp[R3],dH _,R5 _,R6 _,b3,b1,?_,o2,b2.trans eL,?_,?_,c5,IL,c6⟩
  .rw[<-hl,show a.ah=a.es.filterMap id from rfl,o1,filterMap_map,List.map_filterMap];rfl
  .intro z mz;refine az (mem_filterMap.mp mz) λo mo e=>?_;simp at e;subst e;exact o3 z mo
  .intro z mz;refine az (mem_filterMap.mp mz) λo mo e=>?_;simp at e;subst e;exact c7 z mo
 have UM:bu.length=a.es.length:=by simp[bu,UJ]
 cases hp:a.pk with
 |true=>
  have CI:a.ks=[]:=by exact if_pos hp
  have e1:(MO.inst .arr (aM a.pk a.ks (bu.map bB) [] [] a.ah.length a2.nx at2 false))=Ar.mo ⟨true,bu,a2.nx,at2,false⟩:=by rw[CI,hp,<-IP];rfl
  refine fin ⟨true,bu,a2.nx,at2,false⟩ rfl rfl ⟨by show bu.length<=8;omega,fw,ka _,vw,λ_=>by show bu.length<=3;rw[UM];exact ok.pz hp,?_⟩ (head _ ?_)
  .intro _ p k v e;have h1:(bu.map dz)[p]?=some k.val:=by simp[e,dz]
   rw[eK]at h1;refine az (getElem?_map ..▸h1|>map_eq_some_iff.mp) λo e2 e3=>?_;have e4:∃z,oz[p]?=some (some z)/\k=z.1:=by
    simp only[bu,getElem?_map]at e;cases q:oz[p]? with
    |none=>rw[q]at e;cases e
    |some o=>
     rw[q]at e;cases o with
     |none=>cases e
     |some z=>clear e3 h1;cases e;exact(a0 z rfl rfl)
   refine az e4 λz e5 bL=>?_;clear e e4;clear e3 h1;subst bL;exact ok.pack hp p z.1 z.2.1 (by rw[o1];simp[e5])
  .have c:ba (aw (aP "is_packed" (nm "made"))) ((ax ["arr"] [.ref j]).set "made" (.ref ms.length)) (m.set ms.length (.inst .arr (aM a.pk a.ks (bu.map bB) [] [] a.ah.length a2.nx at2 false)))=some (false,m.set ms.length (.inst .arr (aM a.pk a.ks (bu.map bB) [] [] a.ah.length a2.nx at2 false))):=by exact hp▸A' (kz (jl (bo rfl) (dH _) dZ))
   refine(fG c).trans ?_;refine bZ.trans ?_;rw[e1]
 |false=>
  have CI:a.ks=a.es.map dz:=by simp[Ar.ks,hp]
  obtain⟨yn,hr⟩:=y6 (ms:=m.set ms.length (.inst .arr (aM false a.ks (bu.map bB) [] [] a.ah.length a2.nx at2 false))) (es:=bu) (dH _) (by intro p e q;rw[CI,<-eK];simp[q,dz]) (by omega) fw (ka _) vw;rw[List.set_set]at hr;refine fin ⟨false,(bu.filterMap id).map some,a2.nx,yn,false⟩ rfl (rk _) ⟨?_,?_,?_,?_,by exact λz4=>Bool.noConfusion z4,by exact λz4=>Bool.noConfusion z4⟩ (head _ ?_)
  .have:=ok.sA;simp only[length_map];omega
  .intro k v mm;refine az (mem_map.mp mm) λx mx e=>?_;cases e;refine az (mem_filterMap.mp mx) λo mo e=>?_;simp at e;subst e;exact fw k v mo
  .intro k v mm;refine az (mem_map.mp mm) λx mx e=>?_;cases e;refine az (mem_filterMap.mp mx) λo mo e=>?_;simp at e;subst e;exact ka _ k v mo
  .show(((bu.filterMap id).map some).filterMap id|>.map (·.1)).Nodup;rw[rk];exact vw
  .rw[hp];have c:ba (aw (aP "is_packed" (nm "made"))) ((ax ["arr"] [.ref j]).set "made" (.ref ms.length)) (m.set ms.length (.inst .arr (aM false a.ks (bu.map bB) [] [] a.ah.length a2.nx at2 false)))=some (true,m.set ms.length (.inst .arr (aM false a.ks (bu.map bB) [] [] a.ah.length a2.nx at2 false))):=by exact A' (kz (jl (bo rfl) (dH _) dZ))
   refine(iU c).trans ?_;refine(aZ (i9 (gY (dN (bo rfl) fM) hr))).trans ?_;refine bZ.trans ?_;have e0:(a.ah.length:Int)=((bu.filterMap id).length:Int):=by rw[IP]
   rw[e0];simp[Ar.mo,Ar.ks,Ar.vs,Ar.hs,Ar.ns,Ar.ah,rk]
end
section
def vx(ms:Hp)(v:V)(ys:List V):Prop:=(v=.lst ys/\ys.length<=1000)\/∃i,v=.ref i/\ms[i]?=some (.list ys)
theorem vx.bc(h:vx ms v ys)(e:l x=some v):bc (nm x) l ms=some (ys,ms):=by
 rcases h with hr|hr
 .obtain⟨rfl,h⟩:=hr;simp_arith[Mine.Internal.bc,ay,nm,e,h]
 .obtain⟨i,rfl,h⟩:=hr;simp_arith[Mine.Internal.bc,ay,nm,e,h]
def b'(xs:List (DK×V)):List V:=xs.map λe=>.tup [e.1.val,e.2]
theorem ry:Aj xs=.lst (b' xs):=rfl
def oO(ms:Hp)(v:V):Prop:=∃ty,bG v ms=some ty/\(ty=.none\/ty=.int\/ty=.c .arr\/ty=.c .ref)
theorem oO.or(h:oO ms v):v=.none\/(∃i,v=.int i)\/∃i c,v=.ref i/\bG v ms=some (.c c)/\(c=.arr\/c=.ref):=by
 refine az h λty h1 h2=>?_;cases v with
 |none=>exact .inl rfl
 |int i=>exact .inr (.inl ⟨i,rfl⟩)
 |ref i=>
  refine .inr (.inr ⟨i,?_⟩);rcases h2 with rfl|rfl|rfl|rfl
  .exfalso;simp[bG]at h1;split at h1<;>simp at h1
  .exfalso;simp[bG]at h1;split at h1<;>simp at h1
  .exact cA .arr rfl h1 (.inl rfl)
  .exact cA .ref rfl h1 (.inr rfl)
 |bool b=>simp[bG]at h1;subst h1;simp at h2
 |str s=>simp[bG]at h1;subst h1;simp at h2
 |absent=>simp[bG]at h1;subst h1;simp at h2
 |tup s=>simp[bG]at h1;subst h1;simp at h2
 |lst s=>simp[bG]at h1;subst h1;simp at h2
 |iM s=>simp[bG]at h1
theorem FD(h:vx ms v (b' xs))(e:l x=some v)(hz:xs.length<=8):bE (cM (bc (nm x)) [] (λv l=>some (l.set "pair" v)) (aS) (au (nm "pair") (ae (.int 0)))) l ms=some (.lst (xs.map λe=>e.1.val),ms):=by
 have key:=mE (upd:=λv l=>some (l.set "pair" v)) (c:=aS) (e:=au (nm "pair") (ae (.int 0))) xs (λe=>V.tup [e.1.val,e.2]) (by omega)
  (λpre acc l m=>m=ms/\acc=pre.map λe=>e.1.val) ?_ (l:=iL [] l) (ms:=ms) ⟨rfl,rfl⟩
 .refine lR key λacc l' m' h1 lh jE=>?_;clear key;subst lh;subst jE;simp_arith! [h.bc e,b',h1]
 .clear h;rintro pre z post e acc l0 m ⟨rfl,rfl⟩;refine a0 _ rfl (.inl ⟨m,z.1.val,m,rfl,?_,rfl,by simp⟩);simp_arith[au,ay,nm,av.set,ae,gm,at_,mX]
theorem vW(h1:vx ms v1 (b' xs))(h2:vx ms v2 (b' xs))(hk:∀e∈xs,de e.1/\oO ms e.2)(hz:xs.length<=8):mF [v1,v2] ms=some (.bool true,ms):=by
 delta mF zd;refine(cV rfl).trans ?_;rw[show(ax ["slots","others"] ([v1,v2]++[]))=ax ["slots","others"] [v1,v2]from rfl];have l1:ax ["slots","others"] [v1,v2] "slots"=some v1:=rfl;have l2:ax ["slots","others"] [v1,v2] "others"=some v2:=rfl;generalize ax ["slots","others"] [v1,v2]=L at l1 l2;have k1:=FD h1 l1 hz;have k2:=FD h2 l2 hz;have hp:Pd 64 (.lst (xs.map λe=>e.1.val)):=by refine Pd.mono (n:=1) (Pd.lst λv m=>?_) (by decide);refine az (mem_map.mp m) λe me bL=>?_;clear m;subst bL;exact Pd.key (hk e me).1
 have c1:qq .NotEq (bE (cM (bc (nm "slots")) [] (λv l=>some (l.set "pair" v)) (aS) (au (nm "pair") (ae (.int 0))))) (bE (cM (bc (nm "others")) [] (λv l=>some (l.set "pair" v)) (aS) (au (nm "pair") (ae (.int 0))))) L ms=some (false,ms):=by rw[qq,ay,k1];simp only[ay,k2,hp.ne,Option.map_some]
 rw[aZ ((fG c1).trans bZ)];have hs:sa (bc (nm "slots")) (bc (nm "others")) L ms=some (xs.map (λe=>V.tup [V.tup [e.1.val,e.2],V.tup [e.1.val,e.2]]),ms):=by simp only[sa,ay,h1.bc l1,h2.bc l2,uH,b'];congr 2;rw[List.zip_map',map_map];rfl
 have key:=v3 (upd:=λv l=>match v with|.tup [p,q]=>some ((l.set "pair" p).set "other" q)|_=>none) (b:=(ag (aG (bC (aw (kU (au (nm "pair") (ae (.int 1))) (.c .arr) (.c .ref))) (bC (aw (kU (au (nm "other") (ae (.int 1))) (.c .arr) (.c .ref))) (cy))) (ag (aG (aB .IsNot (au (nm "pair") (ae (.int 1))) (au (nm "other") (ae (.int 1)))) (ag (aW (ae (.bool false))) (ao)) (ao)) (ao)) (ag (aG (aB .NotEq (au (nm "pair") (ae (.int 1))) (au (nm "other") (ae (.int 1)))) (ag (aW (ae (.bool false))) (ao)) (ao)) (ao))) (ao))) xs (λe=>V.tup [V.tup [e.1.val,e.2],V.tup [e.1.val,e.2]])
  (λpre l m=>m=ms) ?_ (l:=L) (ms:=ms) rfl
 .refine fH key λL2 m2 e3 gI=>?_;clear c1 h1 h2 hk k1 k2 key;subst gI;rw[aZ (show gU _ _ _ _ _=some (.next,L2,_) by simp only[gU,hs];exact e3)];simp_arith! [ia]
 .clear hs;clear c1 h1 h2 k1 k2;rintro pre z post e l m rfl;have sy:=(hk z (by rw[e];exact mem_append_right _ mem_cons_self)).2;have ht:=sy;refine az ht λty nX _=>?_;refine qk ((l.set "pair" (V.tup [z.1.val,z.2])).set "other" (V.tup [z.1.val,z.2])) ((l.set "pair" (V.tup [z.1.val,z.2])).set "other" (V.tup [z.1.val,z.2])) m rfl ?_ rfl;generalize hL:(l.set "pair" (V.tup [z.1.val,z.2])).set "other" (V.tup [z.1.val,z.2])=L3;have g1:L3 "pair"=some (V.tup [z.1.val,z.2]):=by rw[<-hL];exact rfl
  have g2:L3 "other"=some (V.tup [z.1.val,z.2]):=by rw[<-hL];exact rfl
  have s1:au (nm "pair") (ae (.int 1)) L3 m=some (z.2,m):=by simp_arith! [au,g1,at_,mX]
  have s2:au (nm "other") (ae (.int 1)) L3 m=some (z.2,m):=by simp_arith! [au,g2,at_,mX]
  rcases sy.or with q|hr|hr
  .rw[q]at s1 s2;have c2:bC (aw (kU (au (nm "pair") (ae (.int 1))) (.c .arr) (.c .ref))) (bC (aw (kU (au (nm "other") (ae (.int 1))) (.c .arr) (.c .ref))) (cy)) L3 m=some (false,m):=by simp_arith! [s1,s2]
   have c3:aB .NotEq (au (nm "pair") (ae (.int 1))) (au (nm "other") (ae (.int 1))) L3 m=some (false,m):=by simp_arith! [s1,s2]
   rw[aZ ((fG c2).trans ((aZ ((fG c3).trans bZ)).trans bZ)),bZ]
  .refine cW hr λi q=>?_;rw[q]at s1 s2;have c2:bC (aw (kU (au (nm "pair") (ae (.int 1))) (.c .arr) (.c .ref))) (bC (aw (kU (au (nm "other") (ae (.int 1))) (.c .arr) (.c .ref))) (cy)) L3 m=some (false,m):=by simp_arith! [s1,s2]
   have c3:aB .NotEq (au (nm "pair") (ae (.int 1))) (au (nm "other") (ae (.int 1))) L3 m=some (false,m):=by simp_arith! [s1,s2]
   rw[aZ ((fG c2).trans ((aZ ((fG c3).trans bZ)).trans bZ)),bZ]
  .refine fN hr λi c q H6 hc=>?_;rw[q]at s1 s2 H6;have c2:bC (aw (kU (au (nm "pair") (ae (.int 1))) (.c .arr) (.c .ref))) (bC (aw (kU (au (nm "other") (ae (.int 1))) (.c .arr) (.c .ref))) (cy)) L3 m=some (true,m):=by rcases hc with rfl|rfl<;>simp_arith! [s1,s2,H6]
   have c3:aB .IsNot (au (nm "pair") (ae (.int 1))) (au (nm "other") (ae (.int 1))) L3 m=some (false,m):=by simp_arith! [s1,s2]
   rw[aZ ((iU c2).trans ((aZ ((fG c3).trans bZ)).trans bZ)),bZ]
theorem E0{α:Type}{xs:List α}{x y:α}:(xs++[x]).set xs.length y=xs++[y]:=by simp
theorem SR.IQ(st:St g ms)(s:SR g .zm k v t):oO ms v:=by
 have main:(VR g (AK .zm k) v t\/∃r,v=.ref r/\RK .zm k (g.cat r)/\g.fq r=t)->oO ms v:=by
  clear s;rintro(h|⟨r,rfl,h1,_⟩)
  .refine a0 _ (h.f9 st (λc q=>kM (c:=.zm) trivial q)) ?_;clear h;cases t<;>(first|exact Or.inl rfl|exact Or.inr (Or.inl rfl)|exact Or.inr (Or.inr (Or.inl rfl)))
  .exact a0 _ (kN st (rI h1)) (Or.inr (Or.inr (Or.inr rfl)))
 cases t with
 |cell x=>clear main;obtain⟨r,rfl,q⟩:=s;exact(a0 _ (kN st (by rw[show g.cat r=.rc x from q];trivial)) (Or.inr (Or.inr (Or.inr rfl))))
 |none=>exact main s
 |int i=>exact main s
 |arr es=>exact main s
theorem KY{ms:Hp}{xs:List (DK×V)}(st:St g ms)(hs:∀e∈xs,∃t,SR g .zm e.1 e.2 t)(hz:xs.length<=8):te [.lst (b' xs)] ms=some (.ref ms.length,ms++[.list (b' (xs.map λe=>(e.1,cv g e.2)))]):=by
 delta te zp;refine(cV rfl).trans ?_;rw[show(ax ["slots"] ([V.lst (b' xs)]++[]))=ax ["slots"] [V.lst (b' xs)]from rfl];have s1:bq "due" (kh (bI (af))) (ax ["slots"] [V.lst (b' xs)]) ms=some (.next,(ax ["slots"] [V.lst (b' xs)]).set "due" (.ref ms.length),ms++[.list []]):=by simp_arith! [ia]
 rw[aZ s1];have l1:((ax ["slots"] [V.lst (b' xs)]).set "due" (.ref ms.length)) "slots"=some (.lst (b' xs)):=rfl;have l2:((ax ["slots"] [V.lst (b' xs)]).set "due" (.ref ms.length)) "due"=some (.ref ms.length):=rfl;generalize (ax ["slots"] [V.lst (b' xs)]).set "due" (.ref ms.length)=L at l1 l2;have BU:gG (nm "slots") L (ms++[.list []])=some (xs.map (λe=>V.tup [e.1.val,e.2]),ms++[.list []]):=by simp_arith! [l1,b']
 have key:=v3 (upd:=λv l=>match v with|.tup [p,q]=>some ((l.set "key" p).set "slot" q)|_=>none) (b:=(ag (aR (kx (nm "due") (aU (aa (nm "key") (aa (bz (aK (aw (aO (nm "slot") (.c .ref))) (aK (aB .Lt (aP "holders" (nm "slot")) (ae (.int 2))) (aS))) (aP "value" (nm "slot")) (nm "slot")) (af)))))) (ao))) xs (λe=>V.tup [e.1.val,e.2])
  (λpre l m=>l "due"=some (.ref ms.length)/\m=ms++[.list (b' (pre.map λe=>(e.1,cv g e.2)))]) ?_ (l:=L) (ms:=ms++[.list []]) ⟨l2,rfl⟩
 .refine fN key λL2 m2 e3 j1 lh=>?_;subst lh;rw[aZ (show gU _ _ _ _ _=some (.next,L2,_) by simp only[gU,BU];exact e3)];simp_arith! [j1]
 .rintro pre z post e l m ⟨h1,rfl⟩;refine cW (hs z (by rw[e];exact mem_append_right _ mem_cons_self)) λt s=>?_;have zl:pre.length<=900:=by have:=congrArg List.length e;simp at this;omega
  refine kn ((l.set "key" z.1.val).set "slot" z.2) ((l.set "key" z.1.val).set "slot" z.2) (ms++[.list (b' ((pre++[z]).map λe=>(e.1,cv g e.2)))]) rfl ?_ h1 rfl;generalize hL:(l.set "key" z.1.val).set "slot" z.2=L3;have g1:L3 "key"=some z.1.val:=by rw[<-hL];exact rfl
  have g2:L3 "slot"=some z.2:=by rw[<-hL];exact rfl
  have g3:L3 "due"=some (.ref ms.length):=by rw[<-hL];simp[av.set,h1]
  have fP:St g (ms++[.list (b' (pre.map λe=>(e.1,cv g e.2)))]):=st.grow;have ev:bz (aK (aw (aO (nm "slot") (.c .ref))) (aK (aB .Lt (aP "holders" (nm "slot")) (ae (.int 2))) (aS))) (aP "value" (nm "slot")) (nm "slot") L3 (ms++[.list (b' (pre.map λe=>(e.1,cv g e.2)))])=some (cv g z.2,ms++[.list (b' (pre.map λe=>(e.1,cv g e.2)))]):=by
   generalize ms++[.list (b' (pre.map λe=>(e.1,cv g e.2)))]=m2 at fP;generalize z.2=v at g2 s;have val:VR g (AK .zm z.1) v t->bz (aK (aw (aO (nm "slot") (.c .ref))) (aK (aB .Lt (aP "holders" (nm "slot")) (ae (.int 2))) (aS))) (aP "value" (nm "slot")) (nm "slot") L3 m2=some (cv g v,m2):=by
    intro h;have ty:=h.f9 fP (λc q=>kM (c:=.zm) trivial q);have e1:cg v m2 (.c .ref)=some false:=by rw[dE ty kL];clear h s ty;cases t<;>rfl
    have oN:cv g v=v:=by
     cases t with
     |none=>rw[show v=.none from h];rfl
     |int i=>rw[show v=.int i from h];rfl
     |cell x=>exact h.elim
     |arr es=>
      refine aY h λi bf h1 _=>?_;clear e1 g2;clear h s ty;subst bf;have:g.cat i≠.zr:=by rintro e;rw[e]at h1;rcases h1 with h1|h1<;>exact ak.noConfusion h1
      exact if_neg this
    rw[oN];simp_arith! [g2,e1]
   have mT:∀r,v=.ref r->g.cat r=.zr->bz (aK (aw (aO (nm "slot") (.c .ref))) (aK (aB .Lt (aP "holders" (nm "slot")) (ae (.int 2))) (aS))) (aP "value" (nm "slot")) (nm "slot") L3 m2=some (cv g v,m2):=by
    clear val;clear s;rintro r rfl hr;have e:=(fP.rep r).ref (by rw[hr];trivial);have lk:=fP.link r;unfold dy at lk;rw[hr]at lk;rw[lk.2]at e;have e1:cg (.ref r) m2 (.c .ref)=some true:=by rw[dE (kN fP (by rw[hr];trivial)) (by simp)];rfl
    delta bt at e;simp_arith! [g2,e1,e,cv,hr]
   cases t with
   |cell x=>
    refine az s λr bf hr=>?_;clear mT;clear val;clear s;subst bf;have hr:g.cat r=.rc x:=hr;have e:=(fP.rep r).ref (by rw[hr];trivial);have lk:=fP.link r;unfold dy at lk;rw[hr]at lk;have e1:cg (.ref r) m2 (.c .ref)=some true:=by rw[dE (kN fP (by rw[hr];trivial)) (by simp)];rfl
    have e2:¬g.ho r<2:=by have:=lk.2;omega
    unfold bt at e;simp_arith! [g2,e1,e,cv,hr,e2]
   |none=>
    rcases s with s|hr
    .exact val s
    .refine aY hr λr e q _=>?_;exact mT r e q
   |int i=>
    rcases s with s|hr
    .exact val s
    .refine aY hr λr e q _=>?_;exact mT r e q
   |arr es=>
    rcases s with s|hr
    .exact val s
    .refine aY hr λr e q _=>?_;exact mT r e q
  have UN:aU (aa (nm "key") (aa (bz (aK (aw (aO (nm "slot") (.c .ref))) (aK (aB .Lt (aP "holders" (nm "slot")) (ae (.int 2))) (aS))) (aP "value" (nm "slot")) (nm "slot")) (af))) L3 (ms++[.list (b' (pre.map λe=>(e.1,cv g e.2)))])=some (.tup [z.1.val,cv g z.2],ms++[.list (b' (pre.map λe=>(e.1,cv g e.2)))]):=by revert ev;generalize bz (aK (aw (aO (nm "slot") (.c .ref))) (aK (aB .Lt (aP "holders" (nm "slot")) (ae (.int 2))) (aS))) (aP "value" (nm "slot")) (nm "slot")=f;intro ev;simp_arith! [g1,ev]
  have gl:(ms++[MO.list (b' (pre.map λe=>(e.1,cv g e.2)))])[ms.length]?=some (.list (b' (pre.map λe=>(e.1,cv g e.2)))):=by exact getElem?_concat_length
  have UO:(b' (pre.map λe=>(e.1,cv g e.2))).length<=900:=by simpa[b']using zl
  simp only[ag,aR,kx,nm,g3,Option.map_some,gl,UN,UO,if_true,E0,ao];simp[b']
end
section
theorem St.Aq{ms:Hp}{n:Nat}(st:St g ms)(hn:g.cat n=.no)(m5:n<ms.length){h:Int}(qV:∀x,c≠.rc x)(UP:∀x,c≠.tl x)(qW:∀x,fU c=some x->x<ms.length)(hr:bQ (g.add n c s d v t h) ms n)(hl:dy (g.add n c s d v t h) n):St (g.add n c s d v t h) ms:=by
 refine st.step (·=n) bg.refl ?_ ?_ ?_ ?_ ?_ (le_refl _) ?_
 .intro j;by_cases q:j=n
  .exact .inl q
  .refine .inr (.inr ⟨if_neg q,if_neg q,if_neg q,if_neg q,if_neg q,if_neg q,rfl,λ_ _=>rfl,?_⟩);intro i k;have:i≠n:=by clear hl m5 hr q;rintro rfl;rw[hn]at k;exact oe k
   exact And.intro (if_neg this) (And.intro (if_neg this) (if_neg this))
 .clear hn;clear m5;rintro j rfl;exact⟨hr,hl⟩
 .intro j hj;have:j≠n:=by omega
  simp[Gh.add,this,st.fresh j hj]
 .intro i x e;by_cases q:i=n
  .simp[Gh.add,q]at e;exact absurd e (qV x)
  .simp[Gh.add,q]at e;exact .inl e
 .intro i x e;by_cases q:i=n
  .simp[Gh.add,q]at e;exact absurd e (UP x)
  .simp[Gh.add,q]at e;exact .inl e
 .intro j x e;by_cases q:j=n
  .simp[Gh.add,q]at e;exact .inr (qW x e)
  .simp[Gh.add,q]at e;exact .inl e
theorem R7{n:Nat}(hX:(∃a,X=.A a)\/(∃a k,X=.B a k)\/∃x,X=.C x/\x<n):gw X=.ar false/\fQ X=.zm/\∀x,fU X=some x->x<n:=by
 rcases hX with hr|hr|hr
 .refine cW hr λ_ bf=>?_;subst bf;exact⟨rfl,rfl,λ_ h=>aX h⟩
 .refine xo hr λ_ _ bL=>?_;subst bL;exact⟨rfl,rfl,λ_ h=>aX h⟩
 .refine az hr λy bf hy=>?_;subst bf;exact⟨rfl,rfl,λ_ h=>Option.some.inj h▸hy⟩
theorem St.UQ{ms:Hp}{n:Nat}(st:St g ms)(hn:g.cat n=.no)(m5:n<ms.length)(hs:gw c=.ar false)(hl:fQ c=.zm)(qW:∀x,fU c=some x->x<ms.length)(ha:oJ ms n false s)(e:bX (g.add n c s d .none .none 0) c s d):St (g.add n c s d .none .none 0) ms:=st.Aq hn m5 (λ_ e=>Sh.noConfusion ((congrArg gw e).symm.trans hs)) (λ_ e=>Sh.noConfusion ((congrArg gw e).symm.trans hs)) qW (bQ.BV hs ha) (bX.link (by rw[Gh.aC,Gh.aL,Gh.aD];exact e) (by rw[Gh.aC];exact hl))
theorem St.IS{ms:Hp}{n:Nat}(st:St g ms)(hn:g.cat n=.no)(hs:gw c=.ar false)(hl:fQ c=.zm)(qW:∀x,fU c=some x->x<ms.length)(hm:ms[n]?=some dX.mo):St (g.add n c [] [] .none .none 0) ms:=st.Aq hn (List.getElem?_eq_some_iff.mp hm).1 (λ_ e=>Sh.noConfusion ((congrArg gw e).symm.trans hs)) (λ_ e=>Sh.noConfusion ((congrArg gw e).symm.trans hs)) qW (bQ.BV hs (Gy hm)) (dy.xK hl)
theorem St.IT{ms:Hp}{n:Nat}(st:St g ms)(hn:g.cat n=.no)(hs:gw c=.dc)(hl:fQ c=.zm)(qW:∀x,fU c=some x->x<ms.length)(hm:ms[n]?=some (.dict [])):St (g.add n c [] [] .none .none 0) ms:=st.Aq hn (List.getElem?_eq_some_iff.mp hm).1 (λ_ e=>Sh.noConfusion ((congrArg gw e).symm.trans hs)) (λ_ e=>Sh.noConfusion ((congrArg gw e).symm.trans hs)) qW (bQ.xJ hs hm) (dy.xK hl)
def vy(ms:Hp)(v:V)(p:Nat×Int):Prop:=∃w,v=.ref p.1/\ms[p.1]?=some (bt w p.2)/\cg v ms (.c .ref)=some true
theorem FE{α:Type}{zs:List α}{kk vv:α->V}{f:α->Option (Nat×Int)}(hl:l "slots"=some (.lst (zs.map λz=>.tup [kk z,vv z])))(hz:zs.length<=1000)(H:∀z∈zs,(∃p,f z=some p/\vy ms (vv z) p)\/(f z=none/\cg (vv z) ms (.c .ref)=some false)):
 cM (gG (nm "slots")) [] (λv l=>match v with|.tup [p,q]=>some ((l.set "key" p).set "slot" q)|_=>none) (aw (aO (nm "slot") (.c .ref))) (aU (aa (nm "slot") (aa (aP "holders" (nm "slot")) (af)))) l ms=some ((zs.filterMap f).map λp=>.tup [.ref p.1,.int p.2],ms):=by
 rw[List.map_filterMap];refine v5 zs _ _ (sd (bo hl)) hz λz mz l=>?_;rcases H z mz with hr|hr
 .obtain⟨p,h1,w,h2,h3,h4⟩:=hr;rw[h1];exact .t rfl (kz (xg (bo rfl) h4)) (ug (dN (bo (congrArg some h2)) (dN (jl (bo (congrArg some h2)) h3 rfl) fM)) rfl)
 .obtain⟨h1,h2⟩:=hr;rw[h1];exact .f rfl (kz (xg (bo rfl) h2))
theorem GA{α:Type}{zs:List α}{vv:α->V}{P:Nat×Int->Prop}(H:∀z∈zs,(∃p,vy ms (vv z) p/\P p)\/cg (vv z) ms (.c .ref)=some false):
 ∃hh:α->Option (Nat×Int),(∀z∈zs,(∃p,hh z=some p/\vy ms (vv z) p)\/(hh z=none/\cg (vv z) ms (.c .ref)=some false))/\∀p∈zs.filterMap hh,P p:=by
 have main:∀z∈zs,∃o:Option (Nat×Int),((∃p,o=some p/\vy ms (vv z) p)\/(o=none/\cg (vv z) ms (.c .ref)=some false))/\∀p,o=some p->P p:=λz mz=>(H z mz).elim (λ⟨p,h1,h2⟩=>(a0 (some p) (.inl ⟨p,rfl,h1⟩) (λq e=>Option.some.inj e▸h2))) λh=>(a0 none (.inr ⟨rfl,h⟩) (λq e=>aX e));let hh:α->Option (Nat×Int):=λz=>open Classical in if h:z∈zs then(main z h).choose else none
 have hs:∀z (h:z∈zs),hh z=(main z h).choose:=λz h=>dif_pos h;refine a0 hh (λz mz=>hs z mz▸(main z mz).choose_spec.1) (λp mp=>?_);exact az (mem_filterMap.mp mp) λz mz e=>(main z mz).choose_spec.2 p (hs z mz▸e)
theorem LU{i b:Nat}{pk:Bool}{c nx at_:Int}(ha:ms[i]?=some (.inst .arr (aM pk ks vs hs ns c nx at_ false)))(h1:jx [.ref i] ms=some (.lst sl,ms))
 (h2:∀l:av,l "slots"=some (.lst sl)->cM (gG (nm "slots")) [] (λv l=>match v with|.tup [p,q]=>some ((l.set "key" p).set "slot" q)|_=>none) (aw (aO (nm "slot") (.c .ref))) (aU (aa (nm "slot") (aa (aP "holders" (nm "slot")) (af)))) l ms=some (hv,ms))
 (h6:mF [.lst sl,.lst sl] ms=some (.bool true,ms)):lD [.ref b,.ref i] ms=some (.ref i,ms):=
 have h3:rR [.ref i] ms=some (.ref i,ms):=(cV rfl).trans (xh (uj (xk (Gv (kz (jl (bo rfl) ha dJ)) (bo rfl)))))
 (cV rfl).trans (xh (gk (Hh (ug (dN (gY (dN (bo rfl) fM) h1) (dN (jl (bo rfl) ha dJ) fM)) rfl) rfl (wM wN (wM wN Hi))) (gk (qt (uh (h2 _ rfl))) (gk (qt (gY (dN (bo rfl) fM) h3)) (gk (qu (oj (pj (Hd (bo rfl) (bo rfl) (congrArg some (beq_self_eq_true i))) (bo rfl) rfl) (oj (kz (jl (bo rfl) ha dJ)) (oj (wL (kz (gY (dN (gY (dN (bo rfl) fM) h1) (dN (bo rfl) fM)) h6)) rfl) rfl))) mI)
  (gk (qu (pj (bo rfl) (bo rfl) (congrArg some (bne_self_eq_false i))) mI) (uj (xk (bo rfl)))))))))
theorem SR.cls(st:St g ms)(hi:ft c)(s:SR g c k v t):(∃r,v=.ref r/\kA (g.cat r))\/∃ty,bG v ms=some ty/\(ty=.none\/ty=.int\/ty=.c .arr):=by
 have main:(f9 t=.none\/f9 t=.int\/f9 t=.c .arr)->(VR g (AK c k) v t\/∃r,v=.ref r/\RK c k (g.cat r)/\g.fq r=t)->(∃r,v=.ref r/\kA (g.cat r))\/∃ty,bG v ms=some ty/\(ty=.none\/ty=.int\/ty=.c .arr):=by
  rintro z (h|⟨r,e,h1,_⟩)
  .exact .inr ⟨_,h.f9 st (λc q=>kM hi q),z⟩
  .exact .inl ⟨r,e,rI h1⟩
 cases t with
 |cell x=>refine az s λr e q=>?_;rw[Ap hi]at q;exact .inl ⟨r,e,by rw[q];trivial⟩
 |none=>exact main (.inl rfl) s
 |int i=>exact main (.inr (.inl rfl)) s
 |arr es=>exact main (.inr (.inr rfl)) s
theorem JS{i b:Nat}(st:St g ms)(hi:ft (g.cat i))(h1:g.cat i≠.zm):lD [.ref b,.ref i] ms=some (.ref i,ms):=by
 refine fI ((st.rep i).arr hi) λa ha ok hl gL=>?_;have gL:a.sh=false:=gL.trans (Gx h1);have jt:ms[i]?=some (.inst .arr (aM a.pk a.ks a.vs a.hs a.ns a.ah.length a.nx a.at_ false)):=gL▸ha;have m7:=pY ha ok;rw[ry]at m7;refine aY (((st.link i).ent (pS hi)).zip) λzs ez ed hz=>?_;have z4:=ok.sA;have zl:zs.length<=4:=by rw[hl,ez]at z4;simpa using z4
 have cls:=λz mz=>(hz z mz).cls st hi;have CJ:∀e∈a.ah,de e.1/\oO ms e.2:=by intro e me;refine⟨ok.keys e.1 e.2 (nk me),?_⟩;rw[hl,ez]at me;refine az (mem_map.mp me) λz mz bL=>?_;clear me;subst bL;exact(cls z mz).elim (λ⟨r,e,h⟩=>(a0 _ (e▸kN st h) (.inr (.inr (.inr rfl))))) λ⟨ty,h1,h2⟩=>(a0 ty h1 (h2.imp_right (.imp_right .inl)))
 have sl:(b' a.ah).length<=1000:=by rw[b',length_map];omega
 have uq:=vW (v1:=.lst (b' a.ah)) (v2:=.lst (b' a.ah)) (ms:=ms) (.inl ⟨rfl,sl⟩) (.inl ⟨rfl,sl⟩) CJ (by omega);have es:b' a.ah=zs.map (λz=>V.tup [z.1.val,z.2.1]):=by rw[hl,ez,b',map_map];rfl
 refine az (GA (ms:=ms) (zs:=zs) (vv:=λz=>z.2.1) (P:=λ_=>True) λz mz=>?_) λhh k1 _=>?_
 .exact(cls z mz).imp (λ⟨r,e,h⟩=>(a0 (r,g.ho r) ⟨g.rv r,e,(st.rep r).ref h,e▸(dE (kN st h) (by simp) (.c .ref)).trans rfl⟩ trivial)) λ⟨ty,h1,h2⟩=>(dE h1 (by clear h1;rcases h2 with rfl|rfl|rfl<;>simp) (.c .ref)).trans (by clear h1;rcases h2 with rfl|rfl|rfl<;>rfl)
 .exact LU jt m7 (λl h=>FE (zs:=zs) (kk:=λz=>z.1.val) (es▸h) (by omega) k1) uq
end
section
theorem bg.list{i:Nat}(h:ms[i]?=some (.list xs)):bg ms (ms.set i (.list ys)):=by
 intro j t e;have hi:i<ms.length:=(List.getElem?_eq_some_iff.mp h).1;by_cases hj:i=j
 .subst hj;simp only[bG,h]at e;simp[bG,hi];exact Option.some.inj e
 .simp only[bG,getElem?_set_ne hj]at e⊢;exact e
theorem Mv.Tc{F:ak->Prop}{ml:Nat}(mv:Mv F g g' ms m)(hn:g.cat ml=.no)(h:ms[ml]?=some (.list xs)):Mv F g g' (ms.set ml (.list ys)) (m.set ml (.list ys)):=by
 have hl:ml<ms.length:=(List.getElem?_eq_some_iff.mp h).1;have hm:m[ml]?=some (.list xs):=(mv.no ml hl hn).2.trans h;have gX:ml<m.length:=(List.getElem?_eq_some_iff.mp hm).1;refine⟨by simpa using mv.len,?_,?_,mv.zu,mv.gi,mv.cs⟩
 .intro j t e;by_cases hj:ml=j
  .subst hj;simp[bG,hl,gX]at e⊢;exact e
  .have:=mv.kl j t (by simpa only[bG,getElem?_set_ne hj]using e);simpa only[bG,getElem?_set_ne hj]using this
 .intro j hj e;have jV:j<ms.length:=by simpa using hj
  obtain⟨h1,h2⟩:=mv.no j jV e;refine⟨h1,?_⟩;by_cases q:ml=j
  .clear e h1 h2 hj jV;subst q;simp[hl,gX]
  .rw[getElem?_set_ne q,getElem?_set_ne q,h2]
theorem Mv.grow{F:ak->Prop}{ms m:Hp}{xs:List MO}(mv:Mv F g g' ms m):Mv F g g' ms (m++xs):=⟨by have:=mv.len;simp;omega,mv.kl.trans bg.append,λj hj e=>⟨(mv.no j hj e).1,by rw[getElem?_append_left (lt_of_lt_of_le hj mv.len)];exact(mv.no j hj e).2⟩,mv.zu,mv.gi,mv.cs⟩
theorem FG{r:Nat}(hr:g.cat r=.zr):∀{zs:List (DK×V×T)},(∀z∈zs,SR g .zm z.1 z.2.1 z.2.2)->kC zs r=0
 |[],_=>rfl
 |(k,v,t)::zs,h=>by
  have ih:=FG hr (zs:=zs) λz m=>h z (.tail _ m);have s:=h _ (.head _);have:m8 v t r=0:=by
   cases t with
   |cell x=>
    refine az s λr' e q=>?_;have e:v=.ref r':=e;clear h s;subst e;have q:g.cat r'=.rc x:=q;have:r≠r':=by exact dU hr q nofun
    exact if_neg this
   |none=>rfl
   |int i=>rfl
   |arr es=>rfl
  unfold kC at ih⊢;simp[this,ih]
theorem FH{r x:Nat}(hr:g.cat r=.rc x):∀{zs:List (DK×V×T)},(∀z∈zs,SR g .zm z.1 z.2.1 z.2.2)->x∉dp (zs.map λz=>(z.1,z.2.2))->kC zs r=0
 |[],_,_=>rfl
 |(k,v,t)::zs,h,hx=>by
  have ih:=FH hr (zs:=zs) (λz m=>h z (.tail _ m)) (by intro m;obtain⟨e,me,h⟩:=mem_filterMap.mp m;exact hx (mem_filterMap.mpr ⟨e,List.mem_cons_of_mem _ me,h⟩));have s:=h _ (.head _);have:m8 v t r=0:=by
   cases t with
   |cell y=>
    obtain⟨r',e,q⟩:=s;have e:v=.ref r':=e;clear h;subst e;have q:g.cat r'=.rc y:=q;have:r≠r':=by clear e;rintro rfl;rw[hr]at q;injection q with q;subst q;apply hx;simp[dp]
    exact if_neg this
   |none=>rfl
   |int i=>rfl
   |arr es=>rfl
  unfold kC at ih⊢;simp[this,ih]
theorem FI{r x:Nat}(hr:g.cat r=.rc x):∀{zs:List (DK×V×T)},(∀z∈zs,SR g .zm z.1 z.2.1 z.2.2)->(dp (zs.map λz=>(z.1,z.2.2))).Nodup->(k,.ref r,.cell x)∈zs->kC zs r=1
 |[],_,_,m=>by cases m
 |(k',v,t)::zs,h,nd,m=>by
  have s:=h _ (.head _);rcases mem_cons.mp m with e|m
  .injection e with e1 e2;injection e2 with e2 e3;clear m s;subst e2 e3;have vw:x∉dp (zs.map λz=>(z.1,z.2.2)):=by simp only[dp,map_cons,filterMap_cons]at nd;exact(List.nodup_cons.mp nd).1
   have:=FH hr (zs:=zs) (λz m=>h z (.tail _ m)) vw;have h1:m8 (.ref r) (.cell x) r=1:=by exact if_pos rfl
   unfold kC at this⊢;simp only[map_cons,List.sum_cons,h1,this];rfl
  .have mx:x∈dp (zs.map λz=>(z.1,z.2.2)):=mem_filterMap.mpr ⟨(k,.cell x),mem_map.mpr ⟨_,m,rfl⟩,rfl⟩;have nU:(dp (zs.map λz=>(z.1,z.2.2))).Nodup:=by
    simp only[dp,map_cons,filterMap_cons]at nd⊢;split at nd
    .exact nd
    .exact(List.nodup_cons.mp nd).2
   have ih:=FI hr (zs:=zs) (λz m=>h z (.tail _ m)) nU m;have:m8 v t r=0:=by
    cases t with
    |cell y=>
     obtain⟨r',e,q⟩:=s;have e:v=.ref r':=e;clear h;clear m;subst e;have q:g.cat r'=.rc y:=q;have:r≠r':=by clear e;rintro rfl;rw[hr]at q;injection q with q;subst q;simp only[dp,map_cons,filterMap_cons]at nd mx;exact(List.nodup_cons.mp nd).1 mx
     exact if_neg this
    |none=>rfl
    |int i=>rfl
    |arr es=>rfl
   unfold kC at ih⊢;simp[this,ih]
theorem MR{g:Gh}(st:St g ms)(s:SR g .zm k v t):(∃r,v=.ref r/\((g.cat r=.zr/\g.ho r=1)\/∃x,g.cat r=.rc x/\t=.cell x/\2<=g.ho r))\/∃ty,bG v ms=some ty/\(ty=.none\/ty=.int\/ty=.c .arr):=by
 have main:(VR g (AK .zm k) v t\/∃r,v=.ref r/\RK .zm k (g.cat r)/\g.fq r=t)->(∃r,v=.ref r/\((g.cat r=.zr/\g.ho r=1)\/∃x,g.cat r=.rc x/\t=.cell x/\2<=g.ho r))\/∃ty,bG v ms=some ty/\(ty=.none\/ty=.int\/ty=.c .arr):=by
  clear s;rintro(h|⟨r,rfl,h1,_⟩)
  .refine .inr ⟨_,h.f9 st (λc q=>kM (c:=.zm) trivial q),?_⟩;clear h;cases t<;>(first|exact Or.inl rfl|exact Or.inr (Or.inl rfl)|exact Or.inr (Or.inr rfl))
  .have h1:g.cat r=.zr:=h1;have lk:=st.link r;unfold dy at lk;rw[h1]at lk;exact .inl ⟨r,rfl,.inl ⟨h1,lk.2⟩⟩
 cases t with
 |cell x=>refine az s λr bf h1=>?_;clear main;clear s;subst bf;have h1:g.cat r=.rc x:=h1;have lk:=st.link r;unfold dy at lk;rw[h1]at lk;exact .inl ⟨r,rfl,.inr ⟨x,h1,rfl,lk.2⟩⟩
 |none=>exact main s
 |int i=>exact main s
 |arr es=>exact main s
theorem Om{ms:Hp}{l:av}{rs:List (Nat×Int)}{q:Nat×Int->Int}(hl:l "held"=some (.lst (rs.map λp=>.tup [.ref p.1,.int p.2])))(hz:rs.length<=1000)(H:∀p∈rs,∃w h,ms[p.1]?=some (bt w h)/\h-p.2=q p):
 cM (gG (nm "held")) [] (λv l=>match v with|.tup [p,q]=>some ((l.set "ref" p).set "many" q)|_=>none) (aS) (aE .Sub (aP "holders" (nm "ref")) (nm "many")) l ms=some (rs.map λp=>.int (q p),ms):=by
 rw[<-List.filterMap_eq_map'];refine v5 rs _ _ (sd (bo hl)) hz λp mp l=>.t rfl rfl ?_;exact fH (H p mp) λw h h1 h2=>RG (jl (bo rfl) h1 rfl) (bo rfl) (show cB .Sub h p.2=some (q p)from congrArg some h2)
theorem P1{ms:Hp}{l:av}{rs:List (Nat×Int)}(hl:l "held"=some (.lst (rs.map λp=>.tup [.ref p.1,.int p.2])))(hz:rs.length<=1000):
 cM (gG (nm "held")) [] (λv l=>match v with|.tup [p,q]=>some ((l.set "ref" p).set "many" q)|_=>none) (aS) (bz (aB .Gt (nm "many") (ae (.int 1))) (ae (.int 1)) (ae (.int 0))) l ms=some (rs.map λp=>.int (if 1<p.2 then 1 else 0),ms):=by
 rw[<-List.filterMap_eq_map'];refine v5 rs _ _ (sd (bo hl)) hz λp mp l=>.t rfl rfl ?_;by_cases h:1<p.2
 .exact if_pos h▸Hf (pj (bo rfl) ia d3) (decide_eq_true h) ia
 .exact if_neg h▸Hg (pj (bo rfl) ia d3) (decide_eq_false h) ia
theorem LV{bU:ML}{ms:Hp}{l:av}{α:Type}{zs:List α}{kk vv:α->V}(hs:bU l ms=some (zs.map (λz=>.tup [kk z,vv z]),ms))(hz:zs.length<=1000)(H:∀z∈zs,cg (vv z) ms (.c .arr)=some false\/∃y fs,vv z=.ref y/\cg (vv z) ms (.c .arr)=some true/\ms[y]?=some (.inst .arr fs)/\fs.lookup "is_shared"=some (.val (.bool true))):
 cM bU [] (λv l=>match v with|.tup [p,q]=>some ((l.set "key" p).set "slot" q)|_=>none) (aK (aw (aO (nm "slot") (.c .arr))) (aK (ba (aw (aP "is_shared" (nm "slot")))) (aS))) (nm "slot") l ms=some ([],ms):=by
 have e:=v5 (upd:=λv l=>match v with|.tup [p,q]=>some ((l.set "key" p).set "slot" q)|_=>none) (c:=aK (aw (aO (nm "slot") (.c .arr))) (aK (ba (aw (aP "is_shared" (nm "slot")))) (aS))) (e:=nm "slot") (gV:=[]) zs _ (λ_=>none) hs hz λz mz l=>by
  rcases H z mz with h|hr
  .exact .f rfl (Ah (kz (xg (bo rfl) h)))
  .refine iz hr λy fs h1 h2 h3 h4=>?_;exact .f rfl (Fv (kz (xg (bo rfl) h2)) (Ah (wL (kz (jl (bo (congrArg some h1)) h3 h4)) rfl)))
 rw[e];exact congrArg (λz=>some (z,ms)) (List.filterMap_eq_nil_iff.mpr λ_ _=>rfl)
theorem MU{i b n ml:Nat}{pk CG:Bool}{c nx at_ c2 mn at2:Int}{sl yp hv mo xs:List V}(ha:ms[i]?=some (.inst .arr (aM pk ks vs hs ns c nx at_ true)))(h1:jx [.ref i] ms=some (.lst sl,ms))
 (h2:∀l:av,l "slots"=some (.lst sl)->cM (gG (nm "slots")) [] (λv l=>match v with|.tup [p,q]=>some ((l.set "key" p).set "slot" q)|_=>none) (aw (aO (nm "slot") (.c .ref))) (aU (aa (nm "slot") (aa (aP "holders" (nm "slot")) (af)))) l ms=some (hv,ms))
 (h3:rR [.ref i] ms=some (.ref n,m))(hn:n≠i)(h4:m[n]?=some (.inst .arr (aM CG UG UH sF UI c2 mn at2 false)))(h5:jx [.ref i] m=some (.lst sl,m))(h6:mF [.lst sl,.lst sl] m=some (.bool true,m))
 (hb:gm (.ref b) (.str "marked") m=some (.ref ml))(oP:m[ml]?=some (.list xs))(CL:xs.length<=900)(yf:m.set ml (.list (xs++[.tup [.ref i,.lst sl]]))=mm)
 (h7:∀l:av,l "held"=some (.lst hv)->cM (gG (nm "held")) [] (λv l=>match v with|.tup [p,q]=>some ((l.set "ref" p).set "many" q)|_=>none) (aS) (aE .Sub (aP "holders" (nm "ref")) (nm "many")) l mm=some (mo,mm))
 (h8:∀l:av,l "held"=some (.lst hv)->cM (gG (nm "held")) [] (λv l=>match v with|.tup [p,q]=>some ((l.set "ref" p).set "many" q)|_=>none) (aS) (bz (aB .Gt (nm "many") (ae (.int 1))) (ae (.int 1)) (ae (.int 0))) l mm=some (mo,mm))(CM:mS .NotEq (.lst mo) (.lst mo)=some false)
 (h9:jx [.ref n] mm=some (.lst yp,mm))(UR:te [.lst sl] mm=some (d,m9))(US:mF [.lst yp,d] m9=some (.bool true,m9))(UT:jx [.ref n] m9=some (.lst yp,m9))
 (UU:∀(bU:ML) (l:av),bU l m9=some (yp,m9)->cM bU [] (λv l=>match v with|.tup [p,q]=>some ((l.set "key" p).set "slot" q)|_=>none) (aK (aw (aO (nm "slot") (.c .arr))) (aK (ba (aw (aP "is_shared" (nm "slot")))) (aS))) (nm "slot") l m9=some ([],m9)):
 lD [.ref b,.ref i] ms=some (.ref n,m9):=by
 subst yf;exact(cV rfl).trans (xh (gk (Hh (ug (dN (gY (dN (bo rfl) fM) h1) (dN (jl (bo rfl) ha dJ) fM)) rfl) rfl (wM wN (wM wN Hi))) (gk (qt (uh (h2 _ rfl))) (gk (qt (gY (dN (bo rfl) fM) h3)) (gk (qu (oj (pj (Hd (bo rfl) (bo rfl) (congrArg some (beq_eq_false_iff_ne.mpr hn))) (bo rfl) rfl) (oj (kz (jl (bo rfl) h4 dJ)) (oj (wL (kz (gY (dN (gY (dN (bo rfl) fM) h5) (dN (bo rfl) fM)) h6)) rfl) rfl))) mI)
  (gk (Bb (pj (bo rfl) (bo rfl) (congrArg some (bne_iff_ne.mpr hn))) (gk (Gu (RN (Hc (bo rfl) ia hb) oP (ug (dN (bo rfl) (dN (bo rfl) fM)) rfl) oP CL)) (gk (qt (uh (h7 _ rfl))) (gk (qu (oj (PR (bo rfl) (uh (h8 _ rfl)) CM) (oj (wL (kz (gY (dN (gY (dN (bo rfl) fM) h9) (dN (gY (dN (bo rfl) fM) UR) fM)) US)) rfl) rfl)) mI) (gk (qu (S5 (UU _ _ (sd (gY (dN (bo rfl) fM) UT)))) mI) mI))))) (uj (xk (bo rfl)))))))))
theorem SZ.marked(st:St g ms)(sz:SZ g v t):cg v ms (.c .arr)=some false\/∃y fs,v=.ref y/\cg v ms (.c .arr)=some true/\ms[y]?=some (.inst .arr fs)/\fs.lookup "is_shared"=some (.val (.bool true)):=by
 have no:∀{ty},bG v ms=some ty->fx ty (.c .arr)=false->(ty=.none\/ty=.int\/ty=.c .arr\/ty=.c .ref)->cg v ms (.c .arr)=some false:=λh q z=>(dE h (by clear h;rcases z with rfl|rfl|rfl|rfl<;>(first|exact λz4=>Ty.noConfusion z4|exact λz4=>Bool.noConfusion q|simp)) (.c .arr)).trans (congrArg some q);cases t with
 |none=>exact .inl (no (by rw[show v=.none from sz];rfl) rfl (.inl rfl))
 |int n=>exact .inl (no (ty:=.int) (by rw[show v=.int n from sz];rfl) rfl (.inr (.inl rfl)))
 |cell x=>exact az sz λy e hy=>.inl (e▸no (e▸kN st (r:=y) (by rw[hy];trivial)) rfl (.inr (.inr (.inr rfl))))
 |arr es=>have nX:=(show VR g (·=.zm) v (.arr es)from sz).f9 st (by rintro c rfl;exact trivial);refine aY sz λy e hy _=>.inr ?_;clear no sz;subst e;refine fI ((st.rep y).arr (by rw[hy];trivial)) λa h5 _ _ h6=>?_;exact kQ y _ rfl ((dE nX (by simp[f9]) (.c .arr)).trans rfl) h5 (h6.trans (congrArg Cw hy)▸dJ)
theorem Oo{bP:Nat->Int}(st:St g ms)(sH:∀z∈zs,SR g .zm z.1 z.2.1 z.2.2)(qX:(dp (zs.map λz=>(z.1,z.2.2))).Nodup)(CN:∀i,bP i=g.ho i+kC zs i):
 ∃hh:DK×V×T->Option (Nat×Int),(∀z∈zs,(∃p,hh z=some p/\vy ms z.2.1 p)\/(hh z=none/\cg z.2.1 ms (.c .ref)=some false))/\∀p∈zs.filterMap hh,kA (g.cat p.1)/\bP p.1-p.2=if 1<p.2 then 1 else 0:=by
 refine GA λz mz=>?_
 .rcases MR st (sH z mz)with⟨r,er,hr⟩|⟨ty,t1,t2⟩
  .have CO:kA (g.cat r):=by rcases hr with⟨e,_⟩|⟨x,e,_⟩<;>rw[e]<;>trivial
   refine .inl ⟨(r,g.ho r),⟨g.rv r,er,(st.rep r).ref CO,er▸(dE (kN st CO) (by simp) (.c .ref)).trans rfl⟩,CO,?_⟩;simp only;rw[CN r];rcases hr with hr|hr
   .refine bT hr λex h1=>?_;rw[FG ex sH,h1];rfl
   .refine aY hr λx ex et h1=>?_;rw[FI ex sH qX (k:=z.1) (by rw[<-er,<-et];exact mz),if_pos (by omega)];omega
  .exact .inr ((dE t1 (by clear t1;rcases t2 with rfl|rfl|rfl<;>simp) (.c .ref)).trans (by clear t1;rcases t2 with rfl|rfl|rfl<;>rfl))
theorem LW{b:Nat}(h:m[b]?=some (.dict bd))(h2:bd.lookup (.str s)=some v):gm (.ref b) (.str s) m=some v:=by simp[gm,h,jO,iA,h2]
theorem JT{ms:Hp}{i b ml:Nat}{xs:List V}{X:ak}(st:St g ms)(hi:g.cat i=.zm)(hX:(∃a,X=.A a)\/(∃a k,X=.B a k)\/∃x,X=.C x/\x<ms.length)(qX:(dp (g.den i)).Nodup)(hb:ms[b]?=some (.dict bd))(UW:bd.lookup (.str "marked")=some (.ref ml))(oP:ms[ml]?=some (.list xs))(nb:g.cat b=.no)(CP:g.cat ml=.no)(CL:xs.length<=900):
 ∃g' m',lD [.ref b,.ref i] ms=some (.ref ms.length,m')/\St g' m'/\Mv (λ_=>False) g g' (ms.set ml (.list (xs++[.tup [.ref i,.lst (b' (g.ah i))]]))) m'/\g'.cat ms.length=X/\g'.den ms.length=g.den i:=by
 refine fI ((st.rep i).arr (by rw[hi];trivial)) λa ha ok hl gL=>?_;have gL:a.sh=true:=by rw[gL,hi];rfl
 have jt:ms[i]?=some (.inst .arr (aM a.pk a.ks a.vs a.hs a.ns a.ah.length a.nx a.at_ true)):=gL▸ha;have W7:i<ms.length:=(List.getElem?_eq_some_iff.mp ha).1;have Cq:b<ms.length:=(List.getElem?_eq_some_iff.mp hb).1;have H7:ml<ms.length:=(List.getElem?_eq_some_iff.mp oP).1;have m7:=pY ha ok;rw[hl,ry]at m7;refine Tt (LS st hi) λaI bP m ab zs q1 q2 q3 q4 q5 q6 q7 q8 q9 yq sH CQ UX UY CN=>?_;have ho:rR [.ref i] ms=some (.ref ms.length,m):=by delta rR A8;refine(cV rfl).trans ?_;simp_arith[ag,aW,ao,bq,aG,aR,bR,cz,dk,aw,ba,aK,bC,aS,cy,bz,dV,dQ,df,aB,dF,aP,a9,b9,bj,dw,c8,aq,bw,dB,aa,af,bI,bE,aU,aO,ay,nm,ae,ax,av.set,bJ,dA,dI,aE,cB,bc,dC,dh,cT,dS,fc,d3,fe,dK,ff,dM,dZ,eu,eH,eI,d9,eg,eA,d0,dJ,d8,eQ,eB,ee,eD,eC,eG,eU,eW,eJ,eM,eN,eX,e8,e9,fb,eO,eY,jt,q1]
 have z4:=ok.sA;have zl:zs.length<=4:=by rw[hl,q8]at z4;simpa using z4
 refine fm (q5.gi i (by rw[hi];exact λz4=>ak.noConfusion z4) (by rw[hi];exact λz4=>ak.noConfusion z4) id) λci cd cl=>?_;have ci:(g.rh aI bP).cat i=.zm:=ci.trans hi;refine fI ((q4.rep i).arr (by rw[ci];trivial)) λa2 yo CH gX WB=>?_;have gX:a2.ah=g.ah i:=gX;have H8:=pY yo CH;rw[gX,ry]at H8;have H9:∀z∈zs,SR (g.rh aI bP) .zm z.1 z.2.1 z.2.2:=λz mz=>(sH z mz).zm q5 rfl;have Td:∀e∈g.ah i,de e.1/\oO m e.2:=by intro e me;refine⟨ok.keys e.1 e.2 (nk (hl▸me)),?_⟩;rw[q8]at me;refine az (mem_map.mp me) λz mz bL=>?_;clear me;subst bL;exact(H9 z mz).IQ q4
 have W8:(g.ah i).length<=4:=hl▸z4;have uq:=vW (v1:=.lst (b' (g.ah i))) (v2:=.lst (b' (g.ah i))) (ms:=m) (.inl ⟨rfl,by simp[b'];omega⟩) (.inl ⟨rfl,by simp[b'];omega⟩) Td (by omega);have Cz:m[ms.length]?=some (.inst .arr (aM ab.pk ab.ks ab.vs ab.hs ab.ns ab.ah.length ab.nx ab.at_ false)):=q7▸q3;have Te:m[b]?=some (.dict bd):=(q5.no b Cq nb).2.trans hb;have B0:m[ml]?=some (.list xs):=(q5.no ml H7 CP).2.trans oP;have yr:St (g.rh aI bP) (m.set ml (.list (xs++[.tup [.ref i,.lst (b' (g.ah i))]]))):=q4.rT ((q5.no ml H7 CP).1) (bg.list B0);have kf:bg m (m.set ml (.list (xs++[.tup [.ref i,.lst (b' (g.ah i))]]))):=bg.list B0;have UZ:ml≠ms.length:=by omega
 have qY:(m.set ml (.list (xs++[.tup [.ref i,.lst (b' (g.ah i))]])))[ms.length]?=some ab.mo:=(getElem?_set_ne UZ).symm▸q3;have yt:dW (m.set ml (.list (xs++[.tup [.ref i,.lst (b' (g.ah i))]]))) ab:=q6.mono kf;have gq:Mv (λ_=>False) g (g.rh aI bP) (ms.set ml (.list (xs++[.tup [.ref i,.lst (b' (g.ah i))]]))) (m.set ml (.list (xs++[.tup [.ref i,.lst (b' (g.ah i))]]))):=q5.Tc CP oP;have Tf:(m.set ml (.list (xs++[.tup [.ref i,.lst (b' (g.ah i))]]))).length=ms.length+1:=by simp[q2]
 generalize U0:m.set ml (.list (xs++[.tup [.ref i,.lst (b' (g.ah i))]]))=mm at yr qY yt gq Tf;have Tg:∀v,cv (g.rh aI bP) v=cv g v:=EZ UX rfl;have H':=pY qY yt;rw[yq,ry]at H';have Ia:=KY (xs:=g.ah i) yr (by intro e me;rw[q8]at me;refine az (mem_map.mp me) λz mz bL=>?_;clear me;subst bL;exact⟨_,H9 z mz⟩) (by omega);have U2:(g.ah i).map (λe=>(e.1,cv (g.rh aI bP) e.2))=zs.map (λz=>(z.1,cv g z.2.1)):=by rw[q8,map_map];apply List.map_congr_left;intro z _;simp[Tg]
 rw[U2]at Ia;have B1:St (g.rh aI bP) (mm++[.list (b' (zs.map (λz=>(z.1,cv g z.2.1))))]):=yr.grow;have Th:∀e∈zs.map (λz=>(z.1,cv g z.2.1)),de e.1/\oO (mm++[.list (b' (zs.map (λz=>(z.1,cv g z.2.1))))]) e.2:=by intro e me;have U4:=me;refine az (mem_map.mp me) λz mz bL=>?_;clear me;subst bL;refine⟨q6.keys _ _ (nk (yq▸U4)),?_⟩;exact(CQ z mz).ty B1
 have P2:=vW (v1:=.lst (b' (zs.map (λz=>(z.1,cv g z.2.1))))) (v2:=.ref mm.length) (ms:=mm++[.list (b' (zs.map (λz=>(z.1,cv g z.2.1))))]) (.inl ⟨rfl,by simp[b'];omega⟩) (.inr ⟨_,rfl,by exact getElem?_concat_length⟩) Th (by simp;omega);have Hr:=pY (ms:=mm++[.list (b' (zs.map (λz=>(z.1,cv g z.2.1))))]) (i:=ms.length) (a:=ab) (by rw[getElem?_append_left (by omega)];exact qY) (yt.mono bg.append);rw[yq,ry]at Hr;have CR:(g.rh aI bP).cat ms.length=.no:=UY;have U6:St ((g.rh aI bP).add ms.length X (zs.map λz=>(z.1,cv g z.2.1)) (g.den i) .none .none 0) (mm++[.list (b' (zs.map (λz=>(z.1,cv g z.2.1))))]):=by
  have U7:(∃a,X=.A a)\/(∃a k,X=.B a k)\/∃x,X=.C x:=by
   rcases hX with h|h|hr
   .exact .inl h
   .exact .inr (.inl h)
   .refine az hr λx h _=>?_;exact .inr (.inr ⟨x,h⟩)
  have sX:=R7 hX;refine B1.UQ CR (by simp;omega) sX.1 sX.2.1 (λx hx=>by have:=sX.2.2 x hx;simp;omega) ⟨ab,by rw[getElem?_append_left (by omega)];exact qY,yt.mono bg.append,q7,yq⟩ ?_;have e:bX (g.rh aI bP) X (zs.map λz=>(z.1,cv g z.2.1)) (g.den i):=by rw[q9];exact Em (f:=λz=>cv g z.2.1) λz mz=>(CQ z mz).sr U7
  exact e.add (c0:=X) (s:=zs.map λz=>(z.1,cv g z.2.1)) (d:=g.den i) (v:=.none) (t:=.none) (h:=0) CR
 have je:b' (g.ah i)=zs.map (λz=>V.tup [z.1.val,z.2.1]):=by rw[q8,b',map_map];rfl
 have yu:b' (zs.map (λz=>(z.1,cv g z.2.1)))=zs.map (λz=>V.tup [z.1.val,cv g z.2.1]):=by rw[b',map_map];rfl
 refine az (Oo st sH (q9▸qX) CN) λhh k1 k2=>?_;have rl:(zs.filterMap hh).length<=1000:=le_trans (List.length_filterMap_le ..) (by omega);have CM:Pd 64 (.lst ((zs.filterMap hh).map λp=>.int (if 1<p.2 then 1 else 0))):=by refine Pd.mono (n:=1) (Pd.lst λv mv=>?_) (by decide);exact az (mem_map.mp mv) λp _ e=>e▸Pd.int
 refine wY _ _ (MU jt m7 (λl h=>FE (zs:=zs) (kk:=λz=>z.1.val) (je▸h) (by omega) k1) ho (by omega) Cz H8 uq (LW Te UW) B0 CL U0 (λl h=>Om h rl λp mp=>?_) (λl h=>P1 h rl) CM.ne H' Ia P2 Hr (λbU l hs=>LV (zs:=zs) (kk:=λz=>z.1.val) (vv:=λz=>cv g z.2.1) (yu▸hs) (by omega) λz mz=>(CQ z mz).marked B1)) U6 (Mv.adopt id gq.grow CR (by simp)) (if_pos rfl) (if_pos rfl);refine bT (k2 p mp) λvz sC=>?_;refine bT (gq.gi p.1 (by intro e;rw[e]at vz;exact vz) (by intro e;rw[e]at vz;exact vz) id) λe1 _=>?_;exact gZ _ _ ((yr.rep p.1).ref (by rw[e1];exact vz)) sC
end
section
def FF(a:Nat)(c:ak):Prop:=@ak.casesOn (λ_=>Prop) c False False False (λb=>b=a) (λb _=>b=a) (λb _=>b=a) (λb=>True) (λ_=>False) (λb=>b=a\/b=4) (λb _=>b=a\/b=4) (λb=>True) (λ_=>False) False
theorem FF.zm{a:Nat}:¬FF a .zm:=id
theorem FF.rc{a x:Nat}:¬FF a (.rc x):=id
theorem FF.tl{a x:Nat}:¬FF a (.tl x):=id
theorem FF.A{a b:Nat}(h:b≠a):¬FF a (.A b):=h
theorem FF.TA{a b:Nat}(h:b≠a)(h4:b<4):¬FF a (.TA b):=λe=>e.elim h (ne_of_lt h4)
def HP(a:Nat)(c:ak):Prop:=c=.zm\/c=.A a
def vA(g:Gh)(a:Nat)(h t:V):Prop:=∃T,VR g (HP a) h T/\VR g (·=.TA a) t T/\L3 T
structure Ix where
 b:Nat
 h:Nat
 t:Nat
 r:Nat
 m:Nat
structure Bk(K:Ix)(g:Gh)(ms:Hp)(hs ts:List V)(rs:List (Nat×Nat))(mk:List Nat):Prop where
 st:St g ms
 lf:∀c,LF (g.cs c)
 b:ms[K.b]?=some (.dict [(.str "held",.ref K.h),(.str "trees",.ref K.t),(.str "refs",.ref K.r),(.str "marked",.ref K.m),(.str "right",.bool true)])
 h:ms[K.h]?=some (.list hs)
 t:ms[K.t]?=some (.list ts)
 r:ms[K.r]?=some (.list (rs.map λp=>.tup [.ref p.1,.ref p.2]))
 m:ms[K.m]?=some (.list (mk.map λi=>.tup [.ref i,.lst (b' (g.ah i))]))
 nB:g.cat K.b=.no
 nH:g.cat K.h=.no
 nT:g.cat K.t=.no
 nR:g.cat K.r=.no
 nM:g.cat K.m=.no
 ne:K.b≠K.h/\K.b≠K.t/\K.b≠K.r/\K.b≠K.m/\K.h≠K.t/\K.h≠K.r/\K.h≠K.m/\K.t≠K.r/\K.t≠K.m/\K.r≠K.m
 sI:∀p∈rs,∃x,g.cat p.1=.rc x/\g.cat p.2=.tl x
 qZ:∀i∈mk,g.cat i=.zm
 hl:hs.length=4
 tl:ts.length=4
structure bV(K:Ix)(P:Nat->Prop)(g:Gh)(ms:Hp)(hs ts:List V)(rs:List (Nat×Nat))(mk:List Nat):Prop where
 bk:Bk K g ms hs ts rs mk
 H:∀a,a<4->P a->∃h t,hs[a]?=some h/\ts[a]?=some t/\vA g a h t
theorem fT{α:Type}{xs:List α}{i:Nat}{x:α}(h:xs[i]?=some x):i<xs.length:=(List.getElem?_eq_some_iff.mp h).1
theorem Bk.mv{K:Ix}{F:ak->Prop}{g g':Gh}{ms ms':Hp}{hs ts:List V}{rs:List (Nat×Nat)}{mk:List Nat}(k:Bk K g ms hs ts rs mk)(gb:St g' ms')(mv:Mv F g g' ms ms')(h1:¬F .zm)(h2:∀x,¬F (.rc x))(h3:∀x,¬F (.tl x)):Bk K g' ms' hs ts rs mk:=by
 have no:∀{i:Nat} {o:MO},ms[i]?=some o->g.cat i=.no->g'.cat i=.no/\ms'[i]?=some o:=λ{i o} h n=>⟨(mv.no i (fT h) n).1,(mv.no i (fT h) n).2.trans h⟩;have zm:∀i,g.cat i=.zm->g'.cat i=.zm/\g'.ah i=g.ah i:=λi e=>by refine fm (mv.gi i (by rw[e];exact λz4=>ak.noConfusion z4) (by rw[e];exact λz4=>ak.noConfusion z4) (e▸h1)) λe1 _ e3=>?_;exact⟨e1.trans e,e3⟩
 refine⟨gb,mv.cs k.lf,(no k.b k.nB).2,(no k.h k.nH).2,(no k.t k.nT).2,(no k.r k.nR).2,?_,(no k.b k.nB).1,(no k.h k.nH).1,(no k.t k.nT).1,(no k.r k.nR).1,(no k.m k.nM).1,k.ne,?_,λi m=>(zm i (k.qZ i m)).1,k.hl,k.tl⟩
 .refine((no k.m k.nM).2).trans ?_;congr 2;apply List.map_congr_left;intro i mi;rw[(zm i (k.qZ i mi)).2]
 .intro p mp;refine az (k.sI p mp) λx e1 e2=>?_;exact⟨x,(mv.gi p.1 (by rw[e1];exact λz4=>ak.noConfusion z4) (by rw[e1];exact λz4=>ak.noConfusion z4) (e1▸(h2 x))).1.trans e1,(mv.gi p.2 (by rw[e2];exact λz4=>ak.noConfusion z4) (by rw[e2];exact λz4=>ak.noConfusion z4) (e2▸(h3 x))).1.trans e2⟩
theorem vA.mv{F:ak->Prop}{a:Nat}(k:vA g a h t)(mv:Mv F g g' ms ms')(h1:¬F .zm)(h2:¬F (.A a))(h3:¬F (.TA a)):vA g' a h t:=by refine aY k λT e1 e2 e3=>?_;exact cA T (e1.le mv (by rintro c (rfl|rfl)<;>(first|exact And.intro (λz4=>ak.noConfusion z4) (And.intro (λz4=>ak.noConfusion z4) h1)|exact And.intro (λz4=>ak.noConfusion z4) (And.intro (λz4=>ak.noConfusion z4) h2)))) (e2.le mv (by rintro c rfl;exact And.intro (λz4=>ak.noConfusion z4) (And.intro (λz4=>ak.noConfusion z4) h3))) e3
theorem bV.mv{K:Ix}{P:Nat->Prop}{F:ak->Prop}{g g':Gh}{ms ms':Hp}{hs ts:List V}{rs:List (Nat×Nat)}{mk:List Nat}(I:bV K P g ms hs ts rs mk)(at_:Nat)(gb:St g' ms')(mv:Mv F g g' ms ms')(hF:∀c,F c->FF at_ c):bV K (λa=>P a/\a≠at_) g' ms' hs ts rs mk:=by refine⟨I.bk.mv gb mv (λe=>FF.zm (hF _ e)) (λx e=>FF.rc (hF _ e)) (λx e=>FF.tl (hF _ e)),?_⟩;intro a ha ⟨pa,na⟩;refine fN (I.H a ha pa) λh t e1 e2 e3=>?_;exact hG h t e1 e2 (e3.mv mv (λe=>FF.zm (hF _ e)) (λe=>FF.A na (hF _ e)) (λe=>FF.TA na ha (hF _ e)))
theorem bV.jg{K:Ix}{P:Nat->Prop}{g g':Gh}{ms ms':Hp}{hs ts:List V}{rs:List (Nat×Nat)}{mk:List Nat}(I:bV K P g ms hs ts rs mk)(gb:St g' ms')(mv:Mv (λ_=>False) g g' ms ms'):bV K P g' ms' hs ts rs mk:=by refine⟨I.bk.mv gb mv id (λ_=>id) (λ_=>id),?_⟩;intro a ha pa;refine fN (I.H a ha pa) λh t e1 e2 e3=>?_;exact hG h t e1 e2 (e3.mv mv id id id)
theorem bV.weak{K:Ix}{P P':Nat->Prop}{g:Gh}{ms:Hp}{hs ts:List V}{rs:List (Nat×Nat)}{mk:List Nat}(I:bV K P g ms hs ts rs mk)(h:∀a,P' a->P a):bV K P' g ms hs ts rs mk:=⟨I.bk,λa ha pa=>I.H a ha (h a pa)⟩
theorem bV.fix{K:Ix}{P:Nat->Prop}{g:Gh}{ms:Hp}{hs ts:List V}{rs:List (Nat×Nat)}{mk:List Nat}{at_:Nat}{h t:V}(I:bV K P g ms hs ts rs mk)(hP:∀a,a≠at_->P a)(e1:hs[at_]?=some h)(e2:ts[at_]?=some t)(k:vA g at_ h t):bV K (λ_=>True) g ms hs ts rs mk:=by
 refine⟨I.bk,λa ha _=>?_⟩;by_cases q:a=at_
 .clear hP;subst q;exact⟨h,t,e1,e2,k⟩
 .exact I.H a ha (hP a q)
theorem Bk.sj{K:Ix}{g:Gh}{ms:Hp}{hs ts:List V}{rs:List (Nat×Nat)}{mk:List Nat}(k:Bk K g ms hs ts rs mk){jd:List V}(hl:jd.length=4):Bk K g (ms.set K.h (.list jd)) jd ts rs mk:=by refine xq k.ne λn1 n2 n3 n4 n5 n6 n7 n8 n9 vB=>?_;exact⟨k.st.rT k.nH (bg.list k.h),k.lf,(getElem?_set_ne (λe=>n1 e.symm)).symm▸k.b,by simp[fT k.h],(getElem?_set_ne n5).symm▸k.t,(getElem?_set_ne n6).symm▸k.r,(getElem?_set_ne n7).symm▸k.m,k.nB,k.nH,k.nT,k.nR,k.nM,k.ne,k.sI,k.qZ,hl,k.tl⟩
theorem Bk.uS{K:Ix}{g:Gh}{ms:Hp}{hs ts:List V}{rs:List (Nat×Nat)}{mk:List Nat}(k:Bk K g ms hs ts rs mk){nf:List V}(hl:nf.length=4):Bk K g (ms.set K.t (.list nf)) hs nf rs mk:=by refine xq k.ne λn1 n2 n3 n4 n5 n6 n7 n8 n9 vB=>?_;exact⟨k.st.rT k.nT (bg.list k.t),k.lf,(getElem?_set_ne (λe=>n2 e.symm)).symm▸k.b,(getElem?_set_ne (λe=>n5 e.symm)).symm▸k.h,by simp[fT k.t],(getElem?_set_ne n8).symm▸k.r,(getElem?_set_ne n9).symm▸k.m,k.nB,k.nH,k.nT,k.nR,k.nM,k.ne,k.sI,k.qZ,k.hl,hl⟩
theorem Bk.Ti{K:Ix}{g:Gh}{ms:Hp}{hs ts:List V}{rs:List (Nat×Nat)}{mk:List Nat}(k:Bk K g ms hs ts rs mk){r li x:Nat}(hr:g.cat r=.rc x)(kE:g.cat li=.tl x):Bk K g (ms.set K.r (.list (rs.map (λp=>.tup [.ref p.1,.ref p.2])++[.tup [.ref r,.ref li]]))) hs ts (rs++[(r,li)]) mk:=by
 refine xq k.ne λn1 n2 n3 n4 n5 n6 n7 n8 n9 vB=>?_;refine⟨k.st.rT k.nR (bg.list k.r),k.lf,(getElem?_set_ne (λe=>n3 e.symm)).symm▸k.b,(getElem?_set_ne (λe=>n6 e.symm)).symm▸k.h,(getElem?_set_ne (λe=>n8 e.symm)).symm▸k.t,by simp[fT k.r],(getElem?_set_ne vB).symm▸k.m,k.nB,k.nH,k.nT,k.nR,k.nM,k.ne,?_,k.qZ,k.hl,k.tl⟩;intro p mp;rcases List.mem_append.mp mp with mp|mp
 .exact k.sI p mp
 .simp at mp;subst mp;exact(a0 x hr kE)
theorem Bk.setM{rs:List (Nat×Nat)}{mk:List Nat}(k:Bk K g ms hs ts rs mk){i:Nat}(hi:g.cat i=.zm):Bk K g (ms.set K.m (.list (mk.map (λi=>.tup [.ref i,.lst (b' (g.ah i))])++[.tup [.ref i,.lst (b' (g.ah i))]]))) hs ts rs (mk++[i]):=by
 refine xq k.ne λn1 n2 n3 n4 n5 n6 n7 n8 n9 vB=>?_;refine⟨k.st.rT k.nM (bg.list k.m),k.lf,(getElem?_set_ne (λe=>n4 e.symm)).symm▸k.b,(getElem?_set_ne (λe=>n7 e.symm)).symm▸k.h,(getElem?_set_ne (λe=>n9 e.symm)).symm▸k.t,(getElem?_set_ne (λe=>vB e.symm)).symm▸k.r,by simp[fT k.m],k.nB,k.nH,k.nT,k.nR,k.nM,k.ne,k.sI,?_,k.hl,k.tl⟩;intro j mj;rcases List.mem_append.mp mj with mj|mj
 .exact k.qZ j mj
 .simp at mj;subst mj;exact hi
theorem Mv.uQ{F:ak->Prop}(f:ak->ak)(h0:f .no=.no)(hz:f .zu=.zm\/f .zu=.zu)(h:∀c,c≠.zu->c≠.no->¬F c->f c=c):Mv F g (g.re λj=>f (g.cat j)) ms ms:=⟨le_refl _,bg.refl,λj _ e=>⟨by simp[Gh.re,e,h0],rfl⟩,λj e=>⟨by simpa[Gh.re,e]using hz,rfl,rfl⟩,λj h1 h2 h3=>⟨h _ h1 h2 h3,rfl,rfl⟩,λh=>h⟩
theorem KZ:o4=kJ:=rfl
theorem Mv.fz{a:Nat}:Mv (FF a) g (g.re λj=>m6 a (g.cat j)) ms ms:=by refine Mv.uQ (m6 a) rfl (.inr rfl) ?_;intro c h1 h2 h3;clear h1 h2;cases c<;>first|rfl|exact if_neg h3
theorem MV{P:Nat->Prop}{o:Nat}(I:bV K P g ms hs ts rs mk)(ho:o<4)(po:P o)(hP:∀a,P a):
 ∃(h t:V) (T:T) (g':Gh) (ms':Hp),hs[o]?=some h/\ts[o]?=some t/\o4 [h] ms=some (h,ms')/\bV K (λ_=>True) g' ms' hs ts rs mk/\VR g' (·=.zm) h T/\VR g' (·=.TA o) t T/\L3 T:=by
 obtain⟨h,t,e1,e2,T,v1,v2,l⟩:=I.H o ho po;have fD:=I.bk.st.freeze o;have w1:VR (g.re λj=>m6 o (g.cat j)) (λc=>c=.zm\/c=.zu) h T:=v1.map λi q=>by refine⟨?_,rfl⟩;rcases q with q|q<;>simp[Gh.re,q,m6]
 have w2:VR (g.re λj=>m6 o (g.cat j)) (·=.TA o) t T:=v2.map λi q=>by refine⟨?_,rfl⟩;simp[Gh.re,q,m6]
 refine mO (sW (F:=λ_=>False) fD (by rintro c (rfl|rfl)<;>(first|exact trivial|exact Or.inl rfl|exact Or.inr (Or.inl rfl))) (by rintro c (rfl|rfl) n1 n2<;>(first|exact n1 rfl|exact n2 rfl)) w1) λaI ms' q1 q2 q3 q4 q5=>?_;have I1:=I.mv o fD (Mv.fz (ms:=ms)) λc e=>e;have I2:=I1.jg q2 q5;have w3:=w2.le q5 (by rintro c rfl;exact And.intro (λz4=>ak.noConfusion z4) (And.intro (λz4=>ak.noConfusion z4) (λz4=>z4)));refine Qj h t T _ ms' e1 e2 (KZ▸q1) (I2.fix (λa na=>⟨hP a,na⟩) e1 e2 ⟨T,q3.map λi q=>⟨.inl q,rfl⟩,w3,l⟩) q3 w3 l
end
section
theorem Bk.gH{K:Ix}{g:Gh}{ms:Hp}{hs ts:List V}{rs:List (Nat×Nat)}{mk:List Nat}(k:Bk K g ms hs ts rs mk){l:av}(lb:l "book"=some (.ref K.b)):au (nm "book") (ae (.str "held")) l ms=some (.ref K.h,ms):=by simp_arith[au,ay,nm,lb,ae,gm,k.b,jO,iA,List.lookup]<;>rfl
theorem Bk.gT{K:Ix}{g:Gh}{ms:Hp}{hs ts:List V}{rs:List (Nat×Nat)}{mk:List Nat}(k:Bk K g ms hs ts rs mk){l:av}(lb:l "book"=some (.ref K.b)):au (nm "book") (ae (.str "trees")) l ms=some (.ref K.t,ms):=by simp[au,ay,nm,lb,ae,gm,k.b,jO,iA,List.lookup]<;>rfl
theorem Bk.gR{K:Ix}{g:Gh}{ms:Hp}{hs ts:List V}{rs:List (Nat×Nat)}{mk:List Nat}(k:Bk K g ms hs ts rs mk){l:av}(lb:l "book"=some (.ref K.b)):au (nm "book") (ae (.str "refs")) l ms=some (.ref K.r,ms):=by simp[au,ay,nm,lb,ae,gm,k.b,jO,iA,List.lookup]<;>rfl
theorem Bk.gM{K:Ix}{g:Gh}{ms:Hp}{hs ts:List V}{rs:List (Nat×Nat)}{mk:List Nat}(k:Bk K g ms hs ts rs mk){l:av}(lb:l "book"=some (.ref K.b)):au (nm "book") (ae (.str "marked")) l ms=some (.ref K.m,ms):=by simp[au,ay,nm,lb,ae,gm,k.b,jO,iA,List.lookup]<;>rfl
theorem Bk.U8{K:Ix}{g:Gh}{ms:Hp}{hs ts:List V}{rs:List (Nat×Nat)}{mk:List Nat}(k:Bk K g ms hs ts rs mk){l:av}(lb:l "book"=some (.ref K.b)):au (nm "book") (ae (.str "right")) l ms=some (.bool true,ms):=by simp[au,ay,nm,lb,ae,gm,k.b,jO,iA,List.lookup]<;>rfl
theorem FJ{i n:Nat}(h:m l ms=some (.ref i,ms))(e:ms[i]?=some (.list xs))(lx:l x=some (.int n))(hv:xs[n]?=some v):au m (nm x) l ms=some (v,ms):=by simp_arith[au,ay,h,nm,lx,gm,e,j8,hv]
theorem Bk.vC{K:Ix}{g:Gh}{ms:Hp}{hs ts:List V}{rs:List (Nat×Nat)}{mk:List Nat}(k:Bk K g ms hs ts rs mk){l:av}(lb:l "book"=some (.ref K.b)){x:String}{n:Nat}{v:V}(lx:l x=some (.int n))(hv:hs[n]?=some v):au (au (nm "book") (ae (.str "held"))) (nm x) l ms=some (v,ms):=FJ (k.gH lb) k.h lx hv
theorem Bk.sJ{K:Ix}{g:Gh}{ms:Hp}{hs ts:List V}{rs:List (Nat×Nat)}{mk:List Nat}(k:Bk K g ms hs ts rs mk){l:av}(lb:l "book"=some (.ref K.b)){x:String}{n:Nat}{v:V}(lx:l x=some (.int n))(hv:ts[n]?=some v):au (au (nm "book") (ae (.str "trees"))) (nm x) l ms=some (v,ms):=FJ (k.gT lb) k.t lx hv
theorem GB{i n:Nat}{xs:List V}(e:ms[i]?=some (.list xs))(hn:n<xs.length):k9 (.ref i) (.int n) v ms=some (ms.set i (.list (xs.set n v))):=by
 have:(n:Int)<xs.length:=by omega
 simp[k9,e,this]
theorem wC{i n:Nat}{xs:List V}(h:m l ms=some (.ref i,ms))(e:ms[i]?=some (.list xs))(lx:l x=some (.int n))(hn:n<xs.length):iD m (nm x) v l ms=some (l,ms.set i (.list (xs.set n v))):=by simp_arith! [h,lx,GB e hn]
theorem zK{i n:Nat}{xs:List V}(hv:e' l gy=some (v,ms))(h:m l ms=some (.ref i,ms))(e:ms[i]?=some (.list xs))(lx:l x=some (.int n))(hn:n<xs.length):gE m (nm x) e' l gy=some (.next,l,ms.set i (.list (xs.set n v))):=by simp_arith! [hv,h,lx,GB e hn]
theorem bV.sj{K:Ix}{P P':Nat->Prop}{g:Gh}{ms:Hp}{hs ts:List V}{rs:List (Nat×Nat)}{mk:List Nat}{a:Nat}{v:V}(I:bV K P g ms hs ts rs mk)(hP:∀b,P' b->P b/\b≠a):bV K P' g (ms.set K.h (.list (hs.set a v))) (hs.set a v) ts rs mk:=by refine⟨I.bk.sj (by simp[I.bk.hl]),?_⟩;intro b hb pb;refine bT (hP b pb) λp1 p2=>?_;refine fN (I.H b hb p1) λh t e1 e2 e3=>?_;exact hG h t (by rw[getElem?_set_ne (λe=>p2 e.symm)];exact e1) e2 e3
theorem bV.uS{K:Ix}{P P':Nat->Prop}{g:Gh}{ms:Hp}{hs ts:List V}{rs:List (Nat×Nat)}{mk:List Nat}{a:Nat}{v:V}(I:bV K P g ms hs ts rs mk)(hP:∀b,P' b->P b/\b≠a):bV K P' g (ms.set K.t (.list (ts.set a v))) hs (ts.set a v) rs mk:=by refine⟨I.bk.uS (by simp[I.bk.tl]),?_⟩;intro b hb pb;refine bT (hP b pb) λp1 p2=>?_;refine fN (I.H b hb p1) λh t e1 e2 e3=>?_;exact hG h t e1 (by rw[getElem?_set_ne (λe=>p2 e.symm)];exact e2) e3
theorem bV.U9{K:Ix}{P:Nat->Prop}{F:ak->Prop}{g g':Gh}{ms ms':Hp}{hs ts:List V}{rs:List (Nat×Nat)}{mk:List Nat}(I:bV K P g ms hs ts rs mk)(gb:St g' ms')(mv:Mv F g g' ms ms')(h1:¬F .zm)(h2:∀x,¬F (.rc x))(h3:∀x,¬F (.tl x))(h4:∀a,a<4->¬F (.A a))(h5:∀a,a<4->¬F (.TA a)):bV K P g' ms' hs ts rs mk:=by refine⟨I.bk.mv gb mv h1 h2 h3,?_⟩;intro a ha pa;refine fN (I.H a ha pa) λh t e1 e2 e3=>?_;exact hG h t e1 e2 (e3.mv mv h1 (h4 a ha) (h5 a ha))
theorem Mv.rn{a:Nat}:Mv (FF a) g (g.re λj=>pQ a (g.cat j)) ms ms:=by
 refine Mv.uQ (pQ a) rfl (.inr rfl) ?_;intro c h1 h2 h3;cases c with
 |TA b=>exact(if_neg λe=>h3 (.inr e)).trans (if_neg λe=>h3 (.inl e))
 |TB b k=>exact(if_neg λe=>h3 (.inr e)).trans (if_neg λe=>h3 (.inl e))
 |_=>rfl
theorem bV.IU{K:Ix}{g:Gh}{ms:Hp}{hs ts:List V}{rs:List (Nat×Nat)}{mk:List Nat}{a:Nat}{h u:V}{T:T}(I:bV K (·≠a) g ms hs ts rs mk)(ha:a<4)(e1:hs[a]?=some h)(e2:ts[a]?=some u)(v1:VR g (·=.zm) h T)(v2:VR g (·=.TA 4) u T)(l:L3 T):∃g',bV K (λ_=>True) g' ms hs ts rs mk:=by
 have I1:=I.mv a (I.bk.st.S6 a) (Mv.rn (ms:=ms)) λc e=>e;refine⟨_,I1.fix (λb nb=>⟨nb,nb⟩) e1 e2 ⟨T,?_,?_,l⟩⟩
 .exact v1.map λi q=>⟨.inl (by simp[Gh.re,q,pQ]),rfl⟩
 .exact v2.map λi q=>⟨by simp[Gh.re,q,pQ],rfl⟩
theorem En{g:Gh}{ms:Hp}{P:ak->Prop}{w:V}{t:T}(st:St g ms)(hP:∀c,P c->du c/\¬F4 c)(h:VR g P w t)(l:L3 t):∃(g':Gh) (ms':Hp) (u:V),ie 10 [w] ms=some (u,ms')/\St g' ms'/\VR g' (·=.TA 4) u t/\Mv (λ_=>False) g g' ms ms':=MQ (n:=7) st hP h l
def pB(K:Ix)(ms':Hp)(rs:List (Nat×Nat))(mk:List Nat):Prop:=∃g' jd nf i7 mk',bV K (λ_=>True) g' ms' jd nf i7 mk'/\i7.length<=rs.length+1/\mk'.length<=mk.length+2
def yv:MS:=ag (dY 2 (aU (aa (aq (o4) (aa (au (au (nm "book") (ae (.str "held"))) (nm "other")) (af))) (aa (aq (ie 10) (aa (au (au (nm "book") (ae (.str "trees"))) (nm "other")) (af))) (af)))) (bM (iD (au (nm "book") (ae (.str "held"))) (nm "at")) (bM (iD (au (nm "book") (ae (.str "trees"))) (nm "at")) (fo)))) (ao)
theorem FK{o:Nat}(I:bV K (λ_=>True) g ms hs ts rs mk)(ho:o<4)(lb:l "book"=some (.ref K.b))(lo:l "other"=some (.int o)):
 ∃(h u:V) (T:T) (g':Gh) (ms':Hp),aU (aa (aq (o4) (aa (au (au (nm "book") (ae (.str "held"))) (nm "other")) (af))) (aa (aq (ie 10) (aa (au (au (nm "book") (ae (.str "trees"))) (nm "other")) (af))) (af))) l ms=some (.tup [h,u],ms')/\bV K (λ_=>True) g' ms' hs ts rs mk/\VR g' (·=.zm) h T/\VR g' (·=.TA 4) u T/\L3 T:=by
 refine Sm (MV I ho trivial (λ_=>trivial)) λh t T g1 m1 e1 e2 q1 I1 v1 v2 l3=>?_;refine hU (En I1.bk.st (P:=(·=.TA o)) (by rintro c rfl;exact⟨trivial,ne_of_lt ho⟩) v2 l3) λg2 m2 u q2 fP w2 gq=>?_;refine Qi h u T g2 m2 ?_ (I1.jg fP gq) (v1.le gq (by rintro c rfl;exact And.intro (λz4=>ak.noConfusion z4) (And.intro (λz4=>ak.noConfusion z4) (λz4=>z4)))) w2 l3;have r1:=I.bk.vC lb lo e1;have r2:=I1.bk.sJ lb lo e2;simp_arith[aU,aa,af,aq,ay,r1,q1,r2,q2]
theorem P4{o a:Nat}(I:bV K (λ_=>True) g ms hs ts rs mk)(ho:o<4)(ha:a<4)(lb:l "book"=some (.ref K.b))(lo:l "other"=some (.int o))(la:l "at"=some (.int a)):
 ∃l' ms',yv l ms=some (.next,l',ms')/\pB K ms' rs mk:=by
 refine HB (FK I ho lb lo) λh u T g1 m1 q1 I1 v1 v2 l3=>?_;have hl:=I1.bk.hl;have tl:=I1.bk.tl;have I2:bV K (·≠a) g1 (m1.set K.h (.list (hs.set a h))) (hs.set a h) ts rs mk:=I1.sj λb nb=>⟨trivial,nb⟩;have I3:bV K (·≠a) g1 ((m1.set K.h (.list (hs.set a h))).set K.t (.list (ts.set a u))) (hs.set a h) (ts.set a u) rs mk:=I2.uS λb nb=>⟨nb,nb⟩;refine cW (I3.IU ha (by simp[hl,ha]) (by simp[tl,ha]) v1 v2 l3) λg' I4=>?_;refine⟨l,_,?_,g',_,_,_,_,I4,by omega,by omega⟩;have t1:=wC (v:=h) (I1.bk.gH lb) I1.bk.h la (by omega);have t2:=wC (v:=u) (I2.bk.gT lb) I2.bk.t la (by omega);unfold yv;rw[aZ (show dY _ _ _ _ _=some (.next,l,(m1.set K.h (.list (hs.set a h))).set K.t (.list (ts.set a u))) by simp_arith! [q1,t1,t2]),bZ]
end
section
def jb(cs:Nat->T)(d:List (DK×T))(k:DK):T:=match d.lookup k with
 |some t=>dT cs t
 |none=>.none
theorem Tj(h:L1 t):L2 t:=by cases t<;>first|exact h.elim|trivial
theorem P5(h:fW t):L1 t:=by cases t<;>first|exact h.elim|trivial
theorem dR.map{P Q:T->Prop}(h:dR P es)(m:∀t,P t->Q t):dR Q es:=⟨λe me=>⟨(h.ok e me).1,m _ (h.ok e me).2⟩,h.nd,h.cn⟩
theorem Ib(h:L2 t)(n:∀x,t≠.cell x):L3 t:=by
 cases t with
 |cell x=>exact absurd rfl (n x)
 |none=>trivial
 |int _=>trivial
 |arr es=>exact dR.map (P:=L1) h λt=>Tj
theorem Ic(h:LF t):L2 t:=by
 cases t with
 |cell x=>trivial
 |none=>trivial
 |int _=>trivial
 |arr es=>exact dR.map (P:=fW) h λt=>P5
theorem Tn(h:LF t):L3 t:=Ib (Ic h) (by rintro x rfl;exact h)
theorem ur{cs:Nat->T}(hc:∀c,LF (cs c))(hd:dR L2 d):L3 (jb cs d k):=by
 unfold jb;cases e:d.lookup k with
 |none=>trivial
 |some t=>
  have lt:L2 t:=(hd.ok _ (rz e)).2;cases t with
  |cell x=>exact Tn (hc x)
  |none=>trivial
  |int _=>trivial
  |arr es=>exact Ib lt (by rintro x ⟨⟩)
where
 rz {α:Type} {k:DK}:∀{xs:List (DK×α)} {v:α},xs.lookup k=some v->(k,v)∈xs
 |(k',w)::xs,v,h=>by
  rw[lookup_cons]at h;split at h
  .rename_i q;have q:=eq_of_beq q;subst q;cases h;exact .head _
  .exact .tail _ (rz h)
 |[],_,h=>by cases h
theorem we{i:Nat}{a:Ar}{k:DK}{w v:V}{ms ms':Hp}(h:ms[i]?=some a.mo)(ok:dW ms a)(hk:de k)(h1:jy [a.slot k] ms=some (w,ms))(h2:kJ [w] ms=some (v,ms')):qr [.ref i,k.val] ms=some (v,ms'):=by delta qr A5;refine(cV rfl).trans ?_;simp_arith! [h,tf h ok hk,h1,h2]
theorem Oq{i:Nat}(st:St g ms)(hi:g.cat i=.zm\/∃o,g.cat i=.A o)(hk:de k):∃(v:V) (aI:Nat->ak) (ms':Hp),qr [.ref i,k.val] ms=some (v,ms')/\St (g.re aI) ms'/\VR (g.re aI) (·=.zm) v (jb g.cs (g.den i) k)/\Mv FB g (g.re aI) ms ms':=by
 have ai:ft (g.cat i):=by rcases hi with e|⟨o,e⟩<;>rw[e]<;>trivial
 refine fI ((st.rep i).arr ai) λa h ok hl _=>?_;have mA:∀c,AK (g.cat i) k c->ju c:=by rcases hi with e|⟨o,e⟩<;>rw[e]<;>rintro c (rfl|rfl)<;>exact trivial
 have fA:∀c,AK (g.cat i) k c->c≠.zm->c≠.zu->FB c:=by rcases hi with e|⟨o,e⟩<;>rw[e]<;>rintro c (rfl|rfl) n1 n2<;>first|exact absurd rfl n1|exact absurd rfl n2|exact trivial
 have sl:a.slot k=((g.ah i).lookup k).getD .none:=by unfold Ar.slot;rw[hl]
 rcases qw st ai k with⟨q1,q2⟩|⟨v,t,q1,q2,q3,_,_⟩|⟨r,t,q1,q2,q3,q4,q5,_,_⟩|⟨r,x,q1,q2,q3,_,_⟩
 .have e0:a.slot k=.none:=by rw[sl,q1];rfl
  have e1:jy [.none] ms=some (.none,ms):=zf (t:=.none) rfl (λz4=>Ty.noConfusion z4) (λz4=>Ty.noConfusion z4);have e2:kJ [.none] ms=some (.none,ms):=rfl;exact kn .none g.cat ms (we h ok hk (by rw[e0];exact e1) e2) st (by unfold jb;rw[q2];rfl) Mv.refl
 .have e0:a.slot k=v:=by rw[sl,q1];rfl
  have ty:=q3.f9 st λc q=>kM ai q;refine mO (sW (F:=FB) st mA fA q3) λaI ms' r1 r2 r3 r4 r5=>?_;refine kn v aI ms' (we h ok hk (by rw[e0];exact zf ty kL (by clear h5 q2 q3 ty;cases t<;>(first|exact λz4=>Ty.noConfusion z4|exact λz4=>False.elim r3|simp[f9]))) r1) r2 ?_ r5;have:jb g.cs (g.den i) k=t:=by
   unfold jb;rw[q2];cases t with
   |cell x=>exact q3.elim
   |_=>rfl
  rw[this];exact r3
 .have e0:a.slot k=.ref r:=by rw[sl,q1];rfl
  have rr:=rI q3;have er:=(st.rep r).ref rr;have lv:=(st.link r).BX rr;have CS:∀x,g.cat r≠.rc x:=by intro x e;rw[e]at q3;rcases hi with e'|⟨o,e'⟩<;>rw[e']at q3<;>exact ak.noConfusion q3
  have lv:VR g (VK (g.cat r)) (g.rv r) t:=by rw[<-q4];revert lv CS;cases g.cat r<;>intro lv CS<;>first|exact lv|exact absurd rfl (CS _)
  have ty:=lv.f9 st λc q=>Ao rr q;have mV:∀c,VK (g.cat r) c->ju c:=by intro c;cases hr:g.cat r<;>simp only[VK]<;>intro e<;>first|exact e.elim|(rcases e with rfl|rfl<;>exact trivial)|(rw[hr]at rr;exact rr.elim)
  have fV:∀c,VK (g.cat r) c->c≠.zm->c≠.zu->FB c:=by intro c;cases hr:g.cat r<;>simp only[VK]<;>intro e n1 n2<;>first|exact e.elim|(rcases e with rfl|rfl<;>first|exact absurd rfl n1|exact absurd rfl n2|exact trivial)|(rw[hr]at rr;exact rr.elim)
  refine mO (sW (F:=FB) st mV fV lv) λaI ms' r1 r2 r3 r4 r5=>?_;refine kn (g.rv r) aI ms' (we h ok hk (by rw[e0];exact y8 er ty kL) r1) r2 ?_ r5;have:jb g.cs (g.den i) k=t:=by
   unfold jb;rw[q2];cases t with
   |cell x=>exact absurd rfl (q5 x)
   |_=>rfl
  rw[this];exact r3
 .have e0:a.slot k=.ref r:=by rw[sl,q1];rfl
  have rr:kA (g.cat r):=by rw[q3];trivial
  have er:=(st.rep r).ref rr;have lv:=(st.link r).BX rr;rw[q3]at lv;have lv:VR g (VK (.rc x)) (g.rv r) (g.cs x):=lv;have ty:=lv.f9 st λc q=>Ao (c:=.rc x) trivial q;refine mO (sW (F:=FB) st (by rintro c (rfl|rfl)<;>exact trivial) (by rintro c (rfl|rfl) n1 n2<;>first|exact absurd rfl n1|exact trivial) lv) λaI ms' r1 r2 r3 r4 r5=>?_;refine kn (g.rv r) aI ms' (we h ok hk (by rw[e0];exact y8 er ty kL) r1) r2 ?_ r5;have:jb g.cs (g.den i) k=g.cs x:=by unfold jb;rw[q2];rfl
  rw[this];exact r3
def N4(c:ak):Prop:=du c/\¬F4 c
theorem MW{j o:Nat}(st:St g ms)(hj:g.cat j=.TA o)(ho:o<4)(k:DK):∃u,gj [((g.ah j).lookup k).getD .none] ms=some (u,ms)/\VR g N4 u (jb g.cs (g.den j) k):=by
 have dj:du (g.cat j):=by rw[hj];trivial
 rcases qx st dj k with⟨q1,q2⟩|⟨v,t,q1,q2,q3,_,_⟩|⟨r,x,q1,q2,q3,_,_⟩
 .refine a0 .none ?_ (by unfold jb;rw[q2];rfl);rw[q1];exact sP (t:=.none) rfl (λz4=>Ty.noConfusion z4) (λz4=>Ty.noConfusion z4)
 .have ty:=q3.i6 st λc q=>lG dj q;refine a0 v (by rw[q1];exact sP ty mJ (by clear h5 q2 q3 ty;cases t<;>exact λz4=>Ty.noConfusion z4)) ?_;have:jb g.cs (g.den j) k=t:=by
   unfold jb;rw[q2];cases t with
   |cell x=>exact q3.elim
   |_=>rfl
  rw[this];refine q3.map λi q=>⟨?_,rfl⟩;rw[hj]at q;have q:g.cat i=.TB o k:=q;rw[q];exact⟨trivial,ne_of_lt ho⟩
 .refine a0 (g.rv r) (by rw[q1];exact yM ((st.rep r).tl q3)) ?_;have:jb g.cs (g.den j) k=g.cs x:=by unfold jb;rw[q2];rfl
  rw[this];refine((st.link r).Cx q3).map λi q=>⟨?_,rfl⟩;have q:g.cat i=.TC x:=q;rw[q];exact⟨trivial,id⟩
def yw:MS:=(ag (gE (au (nm "book") (ae (.str "held"))) (nm "at") (bw .arr "get" (qr) (au (au (nm "book") (ae (.str "held"))) (nm "other")) (aa (nm "key") (af)))) (ag (gE (au (nm "book") (ae (.str "trees"))) (nm "at") (aq (ie 10) (aa (aq (gj) (aa (iH (au (au (nm "book") (ae (.str "trees"))) (nm "other")) (nm "key")) (af))) (af)))) (ao)))
theorem wo{j:Nat}(h:m l ms=some (.ref j,ms))(e:ms[j]?=some (.dict es))(lx:l x=some k.val):iH m (nm x) l ms=some ((es.lookup k).getD .none,ms):=by simp_arith! [iH,h,e,lx,lE]
theorem P6{o a:Nat}(I:bV K (λ_=>True) g ms hs ts rs mk)(ho:o<4)(ha:a<4)(lb:l "book"=some (.ref K.b))(lo:l "other"=some (.int o))(la:l "at"=some (.int a))(lk:l "key"=some k.val)(hk:de k)
 (e1:hs[o]?=some h)(e2:ts[o]?=some t)(v1:VR g (HP o) h (.arr d))(v2:VR g (·=.TA o) t (.arr d))(l3:L3 (.arr d)):∃l' ms',yw l ms=some (.next,l',ms')/\pB K ms' rs mk:=by
 have hl:=I.bk.hl;have tl:=I.bk.tl;refine aY v1 λi bf c1 d1=>?_;clear v1;subst bf;refine aY v2 λj bf c2 d2=>?_;clear v2;subst bf;have ci:g.cat i=.zm\/∃o,g.cat i=.A o:=by
  rcases c1 with c|c
  .exact .inl c
  .exact .inr ⟨_,c⟩
 refine hU (Oq (k:=k) I.bk.st ci hk) λv aI m1 q1 fD w1 gJ=>?_;have I1:bV K (λ_=>True) (g.re aI) m1 hs ts rs mk:=I.U9 fD gJ id (λ_=>id) (λ_=>id) (λ_ _=>id) (λ_ _=>id);have I2:bV K (·≠a) (g.re aI) (m1.set K.h (.list (hs.set a v))) (hs.set a v) ts rs mk:=I1.sj λb nb=>⟨trivial,nb⟩;have cj:(g.re aI).cat j=.TA o:=(gJ.gi j (by rw[c2];exact λz4=>ak.noConfusion z4) (by rw[c2];exact λz4=>ak.noConfusion z4) (by rw[c2];exact id)).1.trans c2;refine az (MW I2.bk.st cj ho k) λw q2 w2=>?_;have eT:jb (g.re aI).cs ((g.re aI).den j) k=jb g.cs (g.den i) k:=by rw[d1,show(g.re aI).den j=g.den j from rfl,d2];rfl
 rw[eT]at w2;have lT:L3 (jb g.cs (g.den i) k):=by rw[d1];exact ur I.bk.lf l3
 refine hU (En I2.bk.st (P:=N4) (λc h=>h) w2 lT) λg2 m2 u q3 fP w3 gq=>?_;have I3:bV K (·≠a) g2 m2 (hs.set a v) ts rs mk:=I2.jg fP gq;have I4:bV K (·≠a) g2 (m2.set K.t (.list (ts.set a u))) (hs.set a v) (ts.set a u) rs mk:=I3.uS λb nb=>⟨nb,nb⟩;refine cW (I4.IU ha (by simp[hl,ha]) (by simp[tl,ha]) (w1.le gq (by rintro c rfl;exact And.intro (λz4=>ak.noConfusion z4) (And.intro (λz4=>ak.noConfusion z4) (λz4=>z4)))) w3 lT) λg' I5=>?_;refine az ((I.bk.st.rep i).arr (by rcases c1 with c|c<;>rw[c]<;>trivial)) λar fX _=>?_;have s1:=zK (e':=bw .arr "get" (qr) (au (au (nm "book") (ae (.str "held"))) (nm "other")) (aa (nm "key") (af))) (l:=l) (gy:=ms) (ms:=m1) (v:=v) (by have r1:=I.bk.vC lb lo e1;simp_arith[bw,r1,fX,Ar.mo,eD,aa,af,ay,nm,lk,q1]) (I1.bk.gH lb) I1.bk.h la (by omega);have rj:=(I2.bk.st.rep j).jf (by rw[cj];trivial);have s2:=zK (e':=aq (ie 10) (aa (aq (gj) (aa (iH (au (au (nm "book") (ae (.str "trees"))) (nm "other")) (nm "key")) (af))) (af))) (l:=l) (gy:=m1.set K.h (.list (hs.set a v))) (ms:=m2) (v:=u) (by have r2:=wo (I2.bk.sJ lb lo e2) rj lk;simp_arith[aq,aa,af,ay,r2,q2,q3]) (I3.bk.gT lb) I3.bk.t la (by omega);refine⟨l,_,?_,g',_,_,_,_,I5,by omega,by omega⟩;unfold yw;rw[aZ s1,aZ s2,bZ]
end
section
def Kp(g g':Gh):Prop:=∀c,(g.cat c=.zm\/g.cat c=.TA 4)->g'.cat c=g.cat c/\g'.den c=g.den c
theorem Kp.refl:Kp g g:=λ_ _=>⟨rfl,rfl⟩
theorem Kp.trans(h:Kp g g')(h':Kp g' bp):Kp g bp:=by intro c e;refine bT (h c e) λe1 e2=>?_;refine bT (h' c (e1▸e)) λe3 e4=>?_;exact⟨e3.trans e1,e4.trans e2⟩
theorem Kp.zm(h:Kp g g')(q:VR g (·=.zm) v t):VR g' (·=.zm) v t:=q.map λi e=>⟨(h i (.inl e)).1.trans e,(h i (.inl e)).2⟩
theorem Kp.t4(h:Kp g g')(q:VR g (·=.TA 4) v t):VR g' (·=.TA 4) v t:=q.map λi e=>⟨(h i (.inr e)).1.trans e,(h i (.inr e)).2⟩
theorem Kp.mv(mv:Mv (λ_=>False) g g' ms ms'):Kp g g':=by
 rintro c (e|e)
 .refine fm (mv.gi c (by rw[e];exact λz4=>ak.noConfusion z4) (by rw[e];exact λz4=>ak.noConfusion z4) id) λe1 e2 _=>?_;exact⟨e1,e2⟩
 .refine fm (mv.gi c (by rw[e];exact λz4=>ak.noConfusion z4) (by rw[e];exact λz4=>ak.noConfusion z4) id) λe1 e2 _=>?_;exact⟨e1,e2⟩
open Classical in
theorem St.U'{j a:Nat}(st:St g ms):∃aI:Nat->ak,St (g.re aI) ms/\(∀x,aI x=.TA a->x=j)/\(∀x,aI x=g.cat x\/(aI x=.no/\g.cat x=.TA a/\x≠j)):=by
 refine cA (λx=>if g.cat x=.TA a/\x≠j then .no else g.cat x) ?_ ?_ ?_
 .refine st.mN (λ_=>False) bg.refl (le_refl _) ?_ ?_ (λ_ h=>h.elim)
  .intro x;by_cases q:g.cat x=.TA a/\x≠j
   .exact .inr (.inl (by simp only[Gh.re];rw[if_pos q]))
   .exact .inl (by simp only[Gh.re];rw[if_neg q])
  .intro x;by_cases q:g.cat x=.TA a/\x≠j
   .exact .inr (.inl (by simp only[Gh.re];rw[if_pos q]))
   .refine .inr (.inr ⟨by simp only[Gh.re];rw[if_neg q],rfl,rfl,rfl,rfl,rfl,rfl,λ_ _=>rfl,?_⟩);intro i kd;refine⟨?_,rfl,rfl⟩;simp only[Gh.re];rw[if_neg];rintro⟨h,_⟩;rw[h]at kd;exact qD _ kd
 .intro x e;simp only at e;split at e
  .exact ak.noConfusion e
  .rename_i q;by_cases z:x=j
   .exact z
   .exact absurd ⟨e,z⟩ q
 .intro x;by_cases q:g.cat x=.TA a/\x≠j
  .exact .inr ⟨if_pos q,q⟩
  .exact .inl (if_neg q)
structure fR(K:Ix)(a:Nat)(g:Gh)(ms:Hp)(hs ts:List V)(rs:List (Nat×Nat))(mk:List Nat)(i j:Nat)(d:List (DK×T)):Prop where
 I:bV K (·≠a) g ms hs ts rs mk
 ha:a<4
 ei:hs[a]?=some (.ref i)
 ej:ts[a]?=some (.ref j)
 ci:g.cat i=.A a
 cj:g.cat j=.TA a
 di:g.den i=d
 dj:g.den j=d
 ok:dR L2 d
theorem fR.all{K:Ix}{a:Nat}{g:Gh}{ms:Hp}{hs ts:List V}{rs:List (Nat×Nat)}{mk:List Nat}{i j:Nat}{d:List (DK×T)}(C:fR K a g ms hs ts rs mk i j d):bV K (λ_=>True) g ms hs ts rs mk:=C.I.fix (λ_ n=>n) C.ei C.ej ⟨.arr d,⟨i,rfl,.inr C.ci,C.di⟩,⟨j,rfl,C.cj,C.dj⟩,C.ok⟩
structure Un(a:Nat)(g:Gh)(i j:Nat):Prop where
 uA:∀x,g.cat x=.A a->x=i
 uR:∀r k,g.cat r=.R a k->(k,.ref r)∈g.ah i
 uT:∀x,g.cat x=.TA a->x=j
theorem Mv.kill{a:Nat}{aI:Nat->ak}(h:∀x,aI x=g.cat x\/(aI x=.no/\FF a (g.cat x))):Mv (FF a) g (g.re aI) ms ms:=by
 refine⟨le_refl _,bg.refl,?_,?_,?_,λh=>h⟩
 .intro j _ e;rcases h j with q|hr
  .exact⟨q.trans e,rfl⟩
  .refine bT hr λq _=>?_;exact⟨q,rfl⟩
 .intro j e;rcases h j with q|hr
  .exact⟨.inr (q.trans e),rfl,rfl⟩
  .refine bT hr λ_ q=>?_;rw[e]at q;exact q.elim
 .intro j _ _ n;rcases h j with q|hr
  .exact⟨q,rfl,rfl⟩
  .refine bT hr λ_ q=>?_;exact absurd q n
theorem vD{a:Nat}{g:Gh}{i x:Nat}{c c':ak}(w:c'=g.cat x\/(c'=.no/\(g.cat x=.A a\/g.cat x=.TA a\/∃k,g.cat x=.R a k/\(k,.ref x)∉g.ah i)))(e:g.cat x=c)(h1:c≠.A a)(h2:c≠.TA a)(h3:∀k,c=.R a k->(k,.ref x)∈g.ah i):c'=c:=by
 rcases w with q|⟨_,q|q|⟨k,q,n⟩⟩
 .exact q.trans e
 .exact absurd (e.symm.trans q) h1
 .exact absurd (e.symm.trans q) h2
 .exact absurd (h3 k (e.symm.trans q)) n
theorem fR.gc{K:Ix}{a:Nat}{g:Gh}{ms:Hp}{hs ts:List V}{rs:List (Nat×Nat)}{mk:List Nat}{i j:Nat}{d:List (DK×T)}(C:fR K a g ms hs ts rs mk i j d):
 ∃aI:Nat->ak,fR K a (g.re aI) ms hs ts rs mk i j d/\Un a (g.re aI) i j/\(∀x,aI x=g.cat x\/(aI x=.no/\(g.cat x=.A a\/g.cat x=.TA a\/∃k,g.cat x=.R a k/\(k,.ref x)∉g.ah i)))/\Kp g (g.re aI):=by
 refine fI (C.I.bk.st.gc C.ci) λc1 s1 u1 u2 w1=>?_;refine aY (s1.U' (a:=a) (j:=j)) λc2 s2 u3 w2=>?_;have s2:St (g.re c2) ms:=s2;have w:∀x,c2 x=g.cat x\/(c2 x=.no/\((g.cat x=.A a/\x≠i)\/(g.cat x=.TA a/\x≠j)\/∃k,g.cat x=.R a k/\(k,.ref x)∉g.ah i)):=by
  intro x;have w2:c2 x=c1 x\/(c2 x=.no/\c1 x=.TA a/\x≠j):=w2 x;rcases w2 with e|hr
  .rcases w1 x with e3|hr
   .exact .inl (e.trans e3)
   .refine bT hr λe3 e4=>?_;refine .inr ⟨e.trans e3,?_⟩;rcases e4 with e4|hr
    .exact .inl e4
    .refine az hr λk e4 e5=>?_;exact .inr (.inr ⟨k,e4,e5⟩)
  .refine fm hr λe e1 e2=>?_;refine .inr ⟨e,?_⟩;rcases w1 x with e3|hr
   .exact .inr (.inl ⟨e3.symm.trans e1,e2⟩)
   .refine bT hr λe3 _=>?_;rw[e3]at e1;exact ak.noConfusion e1
 have wi:c2 i=.A a:=by
  rcases w i with e|⟨_,e|e|⟨k,e,_⟩⟩
  .exact e.trans C.ci
  .exact absurd rfl e.2
  .rw[C.ci]at e;exact ak.noConfusion e.1
  .rw[C.ci]at e;exact ak.noConfusion e
 have wj:c2 j=.TA a:=by
  rcases w j with e|⟨_,e|e|⟨k,e,_⟩⟩
  .exact e.trans C.cj
  .rw[C.cj]at e;exact ak.noConfusion e.1
  .exact absurd rfl e.2
  .rw[C.cj]at e;exact ak.noConfusion e
 have w':∀x,c2 x=g.cat x\/(c2 x=.no/\(g.cat x=.A a\/g.cat x=.TA a\/∃k,g.cat x=.R a k/\(k,.ref x)∉g.ah i)):=by
  intro x;rcases w x with e|⟨e,e1|e1|e1⟩
  .exact .inl e
  .exact .inr ⟨e,.inl e1.1⟩
  .exact .inr ⟨e,.inr (.inl e1.1)⟩
  .exact .inr ⟨e,.inr (.inr e1)⟩
 have I2:=C.I.mv a s2 (Mv.kill λx=>(w' x).imp id λ⟨q,r⟩=>⟨q,by
  rcases r with r|r|hr
  .rw[r];exact rfl
  .rw[r];exact .inl rfl
  .refine az hr λk r _=>?_;rw[r];exact rfl⟩) λc e=>e
 refine gO c2 ⟨I2.weak λb nb=>⟨nb,nb⟩,C.ha,C.ei,C.ej,wi,wj,C.di,C.dj,C.ok⟩ ⟨?_,?_,u3⟩ w' ?_
 .intro x e;have e:c2 x=.A a:=e;have w2:c2 x=c1 x\/(c2 x=.no/\c1 x=.TA a/\x≠j):=w2 x;rcases w2 with q|hr
  .exact u1 x (q.symm.trans e)
  .refine bT hr λq _=>?_;rw[q]at e;exact ak.noConfusion e
 .intro r k e;have e:c2 r=.R a k:=e;have w2:c2 r=c1 r\/(c2 r=.no/\c1 r=.TA a/\r≠j):=w2 r;rcases w2 with q|hr
  .exact u2 r k (q.symm.trans e)
  .refine bT hr λq _=>?_;rw[q]at e;exact ak.noConfusion e
 .rintro c e;refine⟨?_,rfl⟩;rcases w' c with q|hr
  .exact q
  .refine bT hr λ_ q=>?_;have h4:=C.ha;rcases e with e|e<;>rw[e]at q<;>simp at q;omega
def wW:MS:=(ag (gE (au (nm "book") (ae (.str "held"))) (nm "at") (aq (lD) (aa (nm "book") (aa (au (au (nm "book") (ae (.str "held"))) (nm "at")) (af))))) (ag (aW (aU (aa (au (au (nm "book") (ae (.str "held"))) (nm "at")) (aa (au (au (nm "book") (ae (.str "trees"))) (nm "at")) (af))))) (ao)))
theorem LY{K:Ix}:List.lookup (DK.str "marked") [(DK.str "held",V.ref K.h),(DK.str "trees",V.ref K.t),(DK.str "refs",V.ref K.r),(DK.str "marked",V.ref K.m),(DK.str "right",V.bool true)]=some (V.ref K.m):=rfl
theorem GC{P:Nat->Prop}{ms:Hp}{mk:List Nat}{i:Nat}(I:bV K P g ms hs ts rs mk)(hi:g.cat i=.zm\/g.cat i=X)(hX:(∃a,X=.A a)\/(∃a k,X=.B a k)\/∃x,X=.C x/\x<ms.length)(hd:g.den i=d)(qX:(dp d).Nodup)(hm:mk.length<=900):
 ∃g' ms' mk' i',lD [.ref K.b,.ref i] ms=some (.ref i',ms')/\bV K P g' ms' hs ts rs mk'/\g'.cat i'=X/\g'.den i'=d/\mk'.length<=mk.length+1/\(∀c,g.cat c≠.zu->g.cat c≠.no->g'.cat c=g.cat c/\g'.den c=g.den c/\g'.ah c=g.ah c):=by
 subst hd;by_cases q:g.cat i=.zm
 .refine mO (JT (b:=K.b) (ml:=K.m) (bd:=[(.str "held",.ref K.h),(.str "trees",.ref K.t),(.str "refs",.ref K.r),(.str "marked",.ref K.m),(.str "right",.bool true)]) I.bk.st q hX qX I.bk.b LY I.bk.m I.bk.nB I.bk.nM (by simpa using hm)) λg' m' e1 e2 e3 e4 e5=>?_;have I1:bV K P g (ms.set K.m (.list (mk.map (λi=>.tup [.ref i,.lst (b' (g.ah i))])++[.tup [.ref i,.lst (b' (g.ah i))]]))) hs ts rs (mk++[i]):=⟨I.bk.setM q,I.H⟩;exact w8 g' m' (mk++[i]) ms.length e1 (I1.jg e2 e3) e4 e5 (by simp) (λc h1 h2=>e3.gi c h1 h2 id)
 .have q2:=hi.resolve_left q;have e:=JS (b:=K.b) I.bk.st (i:=i) (by clear hi;rcases hX with⟨_,rfl⟩|⟨_,_,rfl⟩|⟨_,rfl,_⟩<;>rw[q2]<;>trivial) q;exact w8 g ms mk i e I q2 rfl (by omega) (λ_ _ _=>⟨rfl,rfl,rfl⟩)
theorem FL{a:Nat}{mk:List Nat}{i0 j:Nat}(I:bV K (·≠a) g ms hs ts rs mk)(ha:a<4)(lb:l "book"=some (.ref K.b))(la:l "at"=some (.int a))(ei:hs[a]?=some (.ref i0))(ej:ts[a]?=some (.ref j))(ci:HP a (g.cat i0))(cj:g.cat j=.TA a)(di:g.den i0=d)(dj:g.den j=d)(ok:dR L2 d)(hm:mk.length<=900):
 ∃g' ms' jd mk' i,wW l ms=some (.ret (.tup [.ref i,.ref j]),l,ms')/\fR K a g' ms' jd ts rs mk' i j d/\mk'.length<=mk.length+1/\Kp g g':=by
 refine Hz (GC (X:=.A a) I ci (.inl ⟨_,rfl⟩) di ok.cn hm) λg' m' mk' i q1 I1 c1 d1 z1 k1=>?_;have hl:=I.bk.hl;have I2:bV K (·≠a) g' (m'.set K.h (.list (hs.set a (.ref i)))) (hs.set a (.ref i)) ts rs mk':=I1.sj λb nb=>⟨nb,nb⟩;refine fm (k1 j (by rw[cj];exact λz4=>ak.noConfusion z4) (by rw[cj];exact λz4=>ak.noConfusion z4)) λk2 k3 _=>?_;have kp:Kp g g':=by
  rintro c (e|e)
  .refine fm (k1 c (by rw[e];exact λz4=>ak.noConfusion z4) (by rw[e];exact λz4=>ak.noConfusion z4)) λe1 e2 _=>?_;exact⟨e1,e2⟩
  .refine fm (k1 c (by rw[e];exact λz4=>ak.noConfusion z4) (by rw[e];exact λz4=>ak.noConfusion z4)) λe1 e2 _=>?_;exact⟨e1,e2⟩
 have e1:(hs.set a (.ref i))[a]?=some (.ref i):=by exact getElem?_set_self (fT ei)
 refine qm g' _ _ mk' i ?_ ⟨I2,ha,e1,ej,c1,k2.trans cj,d1,k3.trans dj,ok⟩ z1 kp;have s1:=zK (e':=aq (lD) (aa (nm "book") (aa (au (au (nm "book") (ae (.str "held"))) (nm "at")) (af)))) (l:=l) (gy:=ms) (ms:=m') (v:=.ref i) (by
  have r1:=I.bk.vC lb la ei;have hb:nm "book" l ms=some (.ref K.b,ms):=by simp_arith! [lb]
  simp_arith[aq,aa,af,ay,hb,r1,q1]) (I1.bk.gH lb) I1.bk.h la (by omega)
 unfold wW;rw[aZ s1];have r3:=I2.bk.vC lb la e1;have r4:=I2.bk.sJ lb la ej;have s2:aW (aU (aa (au (au (nm "book") (ae (.str "held"))) (nm "at")) (aa (au (au (nm "book") (ae (.str "trees"))) (nm "at")) (af)))) l (m'.set K.h (.list (hs.set a (.ref i))))=some (.ret (.tup [.ref i,.ref j]),l,m'.set K.h (.list (hs.set a (.ref i)))):=by simp_arith[aW,aU,aa,af,ay,r3,r4]
 rw[oh s2]
theorem MX{a:Nat}{mk:List Nat}(I:bV K (λ_=>True) g ms hs ts rs mk)(ha:a<4)(hm:mk.length<=900):
 ∃g' ms' jd nf mk' i j d,qa [.ref K.b,.int a] ms=some (.tup [.ref i,.ref j],ms')/\fR K a g' ms' jd nf rs mk' i j d/\mk'.length<=mk.length+1/\Kp g g':=by
 delta qa yZ;rw[cV (by rfl)];have lb:ax ["book","at"] ([.ref K.b,.int a]++[]) "book"=some (.ref K.b):=rfl;have la:ax ["book","at"] ([.ref K.b,.int a]++[]) "at"=some (.int a):=rfl;generalize ax ["book","at"] ([.ref K.b,.int a]++[])=l at lb la;obtain⟨h,t,e1,e2,T,v1,v2,l3⟩:=I.H a ha trivial;have hl:=I.bk.hl;have tl:=I.bk.tl;have r1:=I.bk.sJ lb la e2;have ty:=v2.i6 I.bk.st (by rintro c rfl;trivial);have e3:=dE ty mJ .dict;by_cases hA:∃d,T=.arr d
 .refine cW hA λd bf=>?_;clear hA ty;subst bf;refine aY v1 λi0 bf c1 d1=>?_;clear v1;subst bf;refine aY v2 λj bf c2 d2=>?_;clear v2;subst bf;refine Bl (FL (I.weak λ_ _=>trivial) ha lb la e1 e2 c1 c2 d1 d2 l3 hm) λg' ms' jd mk' i q1 C q3 q4=>?_;refine⟨g',ms',jd,ts,mk',i,j,d,?_,C,q3,q4⟩;have c:ba (aw (aO (au (au (nm "book") (ae (.str "trees"))) (nm "at")) .dict)) l ms=some (false,ms):=by simp_arith[ba,aw,aO,ay,r1,e3,i6,fx]
  unfold wW at q1;rw[aZ ((fG c).trans bZ),q1]
 .have e4:fx (i6 T) .dict=false:=by
   cases T with
   |arr d=>exact absurd ⟨d,rfl⟩ hA
   |cell x=>exact v1.elim
   |_=>rfl
  have c:ba (aw (aO (au (au (nm "book") (ae (.str "trees"))) (nm "at")) .dict)) l ms=some (true,ms):=by simp_arith[ba,aw,aO,ay,r1,e3,e4]
  have fD:St (g.add ms.length (.TA a) [] [] .none .none 0) (ms++[.dict []]):=I.bk.st.new rfl (bQ.xJ rfl (getElem?_concat_length)) (dy.xK rfl);have I1:=(I.weak (P':=(·≠a)) λ_ _=>trivial).jg fD (Mv.new I.bk.st);have hlen:(ms++[MO.dict []]).length=ms.length+1:=by simp
  have fP:St ((g.add ms.length (.TA a) [] [] .none .none 0).add (ms++[MO.dict []]).length (.A a) [] [] .none .none 0) ((ms++[.dict []])++[dX.mo]):=fD.new rfl (bQ.BV rfl (Gy (getElem?_concat_length))) (dy.xK rfl);have I2:=I1.jg fP (Mv.new fD);have I3:=I2.uS (P':=(·≠a)) (a:=a) (v:=.ref ms.length) λb nb=>⟨nb,nb⟩;have I4:=I3.sj (P':=(·≠a)) (a:=a) (v:=.ref (ms.length+1)) λb nb=>⟨nb,nb⟩;have s1:dY 2 (aU (aa (jj) (aa (g7 .arr jk (af)) (af)))) (bM (iD (au (nm "book") (ae (.str "trees"))) (nm "at")) (bM (iD (au (nm "book") (ae (.str "held"))) (nm "at")) (fo))) l ms=some (.next,l,(List.set (ms++[MO.dict []]++[dX.mo]) K.t (MO.list (ts.set a (V.ref ms.length)))).set K.h (MO.list (hs.set a (V.ref (ms.length+1))))):=by
   have t1:=wC (v:=.ref ms.length) (I2.bk.gT lb) I2.bk.t la (by omega);have t2:=wC (v:=.ref (ms.length+1)) (I3.bk.gH lb) I3.bk.h la (by omega);have iq:aU (aa (jj) (aa (g7 .arr jk (af)) (af))) l ms=some (.tup [.ref ms.length,.ref (ms.length+1)],ms++[.dict []]++[dX.mo]):=by simp only[aU,aa,jj,Bg,ay];simp[af]
   simp only[dY,iq,bM,t1,t2,fo];rfl
  refine Bl (FL I4 ha lb la (getElem?_set_self (fT e1)) (getElem?_set_self (fT e2)) (i0:=ms.length+1) (j:=ms.length) (d:=[]) (.inr (if_pos hlen.symm)) (by simp[Gh.add]) (if_pos hlen.symm) (by simp[Gh.add]) ⟨by simp,by simp,by simp[dp]⟩ hm) λg' ms' jd mk' i q1 C q3 q4=>?_;refine⟨g',ms',jd,_,mk',i,ms.length,[],?_,C,q3,?_⟩
  .unfold wW at q1;rw[aZ ((iU c).trans ((aZ s1).trans bZ)),q1]
  .have m1:Mv (λ_=>False) g (g.add ms.length (.TA a) [] [] .none .none 0) ms (ms++[MO.dict []]):=Mv.new I.bk.st;have m2:Mv (λ_=>False) (g.add ms.length (.TA a) [] [] .none .none 0) ((g.add ms.length (.TA a) [] [] .none .none 0).add (ms++[MO.dict []]).length (.A a) [] [] .none .none 0) (ms++[MO.dict []]) (ms++[MO.dict []]++[dX.mo]):=Mv.new fD;exact((Kp.mv m1).trans (Kp.mv m2)).trans q4
end
section
theorem v8{ms m1 m2:Hp}{i j:Nat}{k:DK}{v u:V}{a:Ar}(ha:ms[i]?=some a.mo)(ok:dW ms a)(hk:de k)
 (p1:(cg (a.slot k) ms (.c .ref)=some false/\jN [.ref i,k.val,v] ms=some (.none,m1))\/∃r w h,a.slot k=.ref r/\ms[r]?=some (bt w h)/\m1=ms.set r (bt v h))
 (p2:∃es,m1[j]?=some (.dict es)/\((cg ((es.lookup k).getD .none) m1 .list=some false/\es.length<=900/\m2=m1.set j (.dict (ds es k u)))\/∃li w,es.lookup k=some (.ref li)/\m1[li]?=some (.list [w])/\m2=m1.set li (.list [u]))):
 ig [.ref i,.ref j,k.val,v,u] ms=some (.none,m2):=by
 delta ig zq;refine(cV rfl).trans ?_;rw[show(ax ["arr","tree","key","value","own_value"] ([.ref i,.ref j,k.val,v,u]++[]))=ax ["arr","tree","key","value","own_value"] [.ref i,.ref j,k.val,v,u]from rfl];have s1:bq "slot" (bw .arr "slot" (gz) (nm "arr") (aa (nm "key") (af))) (ax ["arr","tree","key","value","own_value"] [.ref i,.ref j,k.val,v,u]) ms=some (.next,(ax ["arr","tree","key","value","own_value"] [.ref i,.ref j,k.val,v,u]).set "slot" (a.slot k),ms):=by simp_arith! [ha,tf ha ok hk]
 rw[aZ s1];have l1:((ax ["arr","tree","key","value","own_value"] [.ref i,.ref j,k.val,v,u]).set "slot" (a.slot k)) "arr"=some (.ref i):=rfl;have l2:((ax ["arr","tree","key","value","own_value"] [.ref i,.ref j,k.val,v,u]).set "slot" (a.slot k)) "tree"=some (.ref j):=rfl;have l3:((ax ["arr","tree","key","value","own_value"] [.ref i,.ref j,k.val,v,u]).set "slot" (a.slot k)) "key"=some k.val:=rfl;have l4:((ax ["arr","tree","key","value","own_value"] [.ref i,.ref j,k.val,v,u]).set "slot" (a.slot k)) "value"=some v:=rfl;have l5:((ax ["arr","tree","key","value","own_value"] [.ref i,.ref j,k.val,v,u]).set "slot" (a.slot k)) "own_value"=some u:=rfl;have l6:((ax ["arr","tree","key","value","own_value"] [.ref i,.ref j,k.val,v,u]).set "slot" (a.slot k)) "slot"=some (a.slot k):=rfl;generalize (ax ["arr","tree","key","value","own_value"] [.ref i,.ref j,k.val,v,u]).set "slot" (a.slot k)=L at l1 l2 l3 l4 l5 l6;have s2:aG (aw (aO (nm "slot") (.c .ref))) (ag (bR "value" (nm "slot") (nm "value")) (ao)) (ag (aR (bw .arr "put" (jN) (nm "arr") (aa (nm "key") (aa (nm "value") (af))))) (ao)) L ms=some (.next,L,m1):=by
  rcases p1 with hr|hr
  .refine bT hr λh1 h2=>?_;have c:aw (aO (nm "slot") (.c .ref)) L ms=some (false,ms):=by simp_arith[aw,aO,ay,nm,l6,h1]
   have q:bw .arr "put" (jN) (nm "arr") (aa (nm "key") (aa (nm "value") (af))) L ms=some (.none,m1):=by simp_arith[bw,aa,af,ay,nm,l1,l3,l4,ha,Ar.mo,ee,h2]
   rw[fG c,aZ (i9 q),bZ]
  .refine lR hr λr w h e1 e2 jE=>?_;clear hr p2;subst jE;have e3:cg (.ref r) ms (.c .ref)=some true:=by rw[dE (t:=.c .ref) (by simp[bG,e2,bt]) (by simp)];rfl
   have c:aw (aO (nm "slot") (.c .ref)) L ms=some (true,ms):=by simp_arith[aw,aO,ay,nm,l6,e1,e3]
   have q:bR "value" (nm "slot") (nm "value") L ms=some (.next,L,ms.set r (bt v h)):=by simp[bR,nm,l4,l6,e1,e2,bt,fj]
   rw[iU c,aZ q,bZ]
 rw[aZ s2];refine az p2 λes e1 p2=>?_;have g1:=wo (m:=nm "tree") (x:="key") (l:=L) (ms:=m1) (by simp_arith! [l2]) e1 l3;have s3:aG (aw (aO (iH (nm "tree") (nm "key")) .list)) (ag (gE (au (nm "tree") (nm "key")) (ae (.int 0)) (nm "own_value")) (ao)) (ag (gE (nm "tree") (nm "key") (nm "own_value")) (ao)) L m1=some (.next,L,m2):=by
  rcases p2 with hr|hr
  .refine fm hr λh1 h2 bL=>?_;clear hr p2;subst bL;have c:aw (aO (iH (nm "tree") (nm "key")) .list) L m1=some (false,m1):=by simp_arith[aw,aO,ay,g1,h1]
   have q:gE (nm "tree") (nm "key") (nm "own_value") L m1=some (.next,L,m1.set j (.dict (ds es k u))):=by simp[gE,nm,l2,l3,l5,k9,e1,lE,h2,zS]
   rw[fG c,aZ q,bZ]
  .refine fN hr λli w h1 h2 lh=>?_;clear hr p2;subst lh;rw[h1]at g1;have g1:iH (nm "tree") (nm "key") L m1=some (.ref li,m1):=g1;have e3:cg (.ref li) m1 .list=some true:=by rw[dE (t:=.list) (by simp[bG,h2]) (λz4=>Ty.noConfusion z4)];rfl
   have c:aw (aO (iH (nm "tree") (nm "key")) .list) L m1=some (true,m1):=by simp_arith[aw,aO,ay,g1,e3]
   have q:gE (au (nm "tree") (nm "key")) (ae (.int 0)) (nm "own_value") L m1=some (.next,L,m1.set li (.list [u])):=by simp_arith[gE,au,ay,nm,l2,l3,l5,gm,e1,lE,iA,h1,ae,k9,h2]
   rw[iU c,aZ q,bZ]
 rw[aZ s3,bZ]
theorem DJ{k:DK}{t:T}(ht:∀x,t≠.cell x):∀{es:List (DK×T)},(dp (es.map λe=>if e.1=k then(k,t)else e)).Sublist (dp es)
 |[]=>.slnil
 |e::es=>by
  have ih:=DJ (k:=k) ht (es:=es);obtain⟨k',t'⟩:=e;unfold dp at ih⊢;by_cases q:k'=k
  .simp only[map_cons,q,if_true,filterMap_cons];cases t with
   |cell x=>exact absurd rfl (ht x)
   |none=>cases t'<;>simp only<;>first|exact ih|exact .cons _ ih
   |int _=>cases t'<;>simp only<;>first|exact ih|exact .cons _ ih
   |arr _=>cases t'<;>simp only<;>first|exact ih|exact .cons _ ih
  .simp only[map_cons,q,if_false,filterMap_cons];cases t'<;>simp only<;>first|exact ih|exact .cons_cons _ ih
theorem FN{es:List (DK×T)}{k:DK}{t:T}(nd:(es.map (·.1)).Nodup):((ds es k t).map (·.1)).Nodup:=by
 unfold ds;split
 .rw[map_map];have:((λx:DK×T=>x.1)∘λe:DK×T=>if e.1=k then(k,t)else e)=λx=>x.1:=by funext x;by_cases q:x.1=k<;>simp[q]
  rw[this];exact nd
 .rename_i h;rw[List.map_append,List.nodup_append];refine⟨nd,by simp,?_⟩;intro x m y m2;simp at m2;subst m2;rintro rfl;refine az (mem_map.mp m) λe me bL=>?_;clear m;subst bL;exact h (List.any_eq_true.mpr ⟨e,me,by simp⟩)
theorem GD{es:List (DK×T)}{k:DK}{t:T}{e:DK×T}(m:e∈ds es k t):e=(k,t)\/(e∈es/\e.1≠k):=by
 unfold ds at m;split at m
 .refine az (mem_map.mp m) λx mx h=>?_;by_cases q:x.1=k
  .rw[if_pos q]at h;exact .inl h.symm
  .rw[if_neg q]at h;clear m;subst h;exact .inr ⟨mx,q⟩
 .rename_i h;rcases List.mem_append.mp m with m|m
  .refine .inr ⟨m,λq=>h (List.any_eq_true.mpr ⟨e,m,by simpa using q⟩)⟩
  .simp at m;exact .inl m
theorem dR.ds{P:T->Prop}{es:List (DK×T)}{k:DK}{t:T}(h:dR P es)(hk:de k)(ht:P t)(hc:∀x,t≠.cell x):dR P (ds es k t):=by
 refine⟨?_,FN h.nd,?_⟩
 .intro e m;rcases GD m with rfl|hr
  .exact⟨hk,ht⟩
  .refine bT hr λm _=>?_;exact h.ok e m
 .unfold Mine.Internal.ds;split
  .exact h.cn.sublist (DJ hc)
  .have:dp (es++[(k,t)])=dp es:=by
    unfold dp;refine filterMap_append.trans ?_;cases t with
    |cell x=>exact absurd rfl (hc x)
    |_=>simp
   rw[this];exact h.cn
theorem xm{α:Type}{es:List (DK×α)}{k:DK}{v:α}:(k,v)∈ds es k v:=by
 unfold ds;split
 .rename_i h;refine az (List.any_eq_true.mp h) λe me he=>?_;exact mem_map.mpr ⟨e,me,by simp at he;exact if_pos he⟩
 .exact mem_append_right _ mem_cons_self
theorem bQ.put{g:Gh}{ms:Hp}{i:Nat}{a:Nat}{ar:Ar}{s:List (DK×V)}{d:List (DK×T)}(ci:g.cat i=.A a)(h:ms[i]?=some ar.mo)(ok:dW ms ar)(hl:ar.ah=s)(hs:ar.sh=false):bQ (g.upd i s d) ms i:=by unfold bQ;rw[show(g.upd i s d).cat i=g.cat i from rfl,ci];simp only[Gh.upd,if_true];exact gO ar h ok hs hl
theorem wX{g:Gh}{i:Nat}{s:List (DK×V)}{d:List (DK×T)}{P:ak->Prop}{v:V}{t:T}(h:VR g P v t)(n:¬P (g.cat i)):VR (g.upd i s d) P v t:=h.map λx q=>⟨q,by
 have:x≠i:=by rintro rfl;exact n q
 exact if_neg this⟩
theorem SR.q0{g:Gh}{c:ak}{k:DK}{v:V}{t:T}(h:VR g (AK c k) v t):SR g c k v t:=by
 cases t with
 |cell x=>exact h.elim
 |_=>exact .inl h
theorem VR.FO{g:Gh}{P:ak->Prop}{v:V}{t:T}(h:VR g P v t):∀x,t≠.cell x:=by rintro x rfl;exact h
structure B2(a:Nat)(k:DK)(v u:V)(g g':Gh)(i j:Nat):Prop where
 cat:g'.cat=g.cat
 cs:g'.cs=g.cs
 slot:(k,v)∈g'.ah i\/∃r,(k,.ref r)∈g'.ah i/\g.cat r=.R a k/\g'.rv r=v
 tree:(k,u)∈g'.ah j
 gi:∀x,x≠i->x≠j->g'.ah x=g.ah x/\g'.den x=g.den x
theorem zW{K:Ix}{a:Nat}{g:Gh}{ms:Hp}{hs ts:List V}{rs:List (Nat×Nat)}{mk:List Nat}{i j:Nat}{d:List (DK×T)}{k:DK}{v u:V}{t:T}(C:fR K a g ms hs ts rs mk i j d)(U:Un a g i j)(hk:de k)(hv:VR g (AK (.A a) k) v t)(hu:VR g (AK (.TA a) k) u t)(lt:L2 t)(hc:∀x,d.lookup k≠some (.cell x)):
 ∃g' ms',ig [.ref i,.ref j,k.val,v,u] ms=some (.none,ms')/\fR K a g' ms' hs ts rs mk i j (ds d k t)/\B2 a k v u g g' i j:=by
 have st:=C.I.bk.st;have ai:ft (g.cat i):=by rw[C.ci];trivial
 have dj:du (g.cat j):=by rw[C.cj];trivial
 refine fI ((st.rep i).arr ai) λar fX jh hl gL=>?_;have gL:ar.sh=false:=by rw[gL,C.ci];rfl
 have rj:=(st.rep j).jf dj;have gr:i≠j:=by intro er;rw[er,C.cj]at ai;exact ai
 have vE:((g.ah i).map (·.1)).Nodup:=hl▸jh.nodup;have jW:=(st.link i).ent (pS ai);have kH:=(st.link j).ent (nW dj);rw[C.ci]at jW;rw[C.cj]at kH;have Va:=hv.f9 st λc q=>kM (c:=.A a) trivial q;have vq:gp ms v:=gp.ty Va kL;have mU:(g.ah j).length<=900:=by have e1:=congrArg List.length kH.keys;have:=mU C.ok;rw[C.dj]at e1;simp at e1;omega
 have sl:ar.slot k=((g.ah i).lookup k).getD .none:=by unfold Ar.slot;rw[hl]
 have vF:=hv.FO;have second:∀(g1:Gh) (m1:Hp),St g1 m1->Mv (FF a) g g1 ms m1->g1.cat=g.cat->g1.cs=g.cs->g1.ah j=g.ah j->m1[j]?=ms[j]?->(∀x,x≠i->g1.den x=g.den x)->(∀x,x≠i->g1.ah x=g.ah x)->g1.den i=ds d k t->((k,v)∈g1.ah i\/∃r,(k,.ref r)∈g1.ah i/\g.cat r=.R a k/\g1.rv r=v)->
  ∃g' m2,(∃es,m1[j]?=some (.dict es)/\((cg ((es.lookup k).getD .none) m1 .list=some false/\es.length<=900/\m2=m1.set j (.dict (ds es k u)))\/∃li w,es.lookup k=some (.ref li)/\m1[li]?=some (.list [w])/\m2=m1.set li (.list [u])))/\fR K a g' m2 hs ts rs mk i j (ds d k t)/\B2 a k v u g g' i j:=by
  intro g1 m1 fD gJ ec Vb el ep ed Vc ei je;have kI:g1.cat j=.TA a:=ec▸C.cj;have Vd:g1.den j=d:=(ed j gr.symm)▸C.dj;have yx:m1[j]?=some (.dict (g.ah j)):=ep.trans rj;have Cn:VR g1 (AK (.TA a) k) u t:=hu.map λx q=>⟨ec▸q,ed x (by intro er;rw[er,C.ci]at q;exact ak.noConfusion q)⟩;have yy:bX g1 (.TA a) (g.ah j) d:=by
   have:=(fD.link j).ent (by rw[kI])
   rwa [kI,el,Vd]at this
  have rb:bX g1 (.TA a) (ds (g.ah j) k u) (ds d k t):=yy.mr (SR.q0 Cn) λ_ _ _ _ _ _ z=>z;have dH:(m1.set j (.dict (ds (g.ah j) k u)))[j]?=some (.dict (ds (g.ah j) k u)):=by exact getElem?_set_self (fT yx)
  have kl:bg m1 (m1.set j (.dict (ds (g.ah j) k u))):=by
   intro x ty e;by_cases q:j=x
   .subst q;simp[bG,yx]at e;simp[bG,fT yx,e]
   .simpa only[bG,getElem?_set_ne q]using e
  have fP:St (g1.upd j (ds (g.ah j) k u) (ds d k t)) (m1.set j (.dict (ds (g.ah j) k u))):=by refine fD.put (kI▸qD) (by rw[kI]) (kI▸rb) kl length_set (λx hx=>getElem?_set_ne (λe=>hx e.symm)) ?_;unfold bQ;rw[show(g1.upd j (ds (g.ah j) k u) (ds d k t)).cat j=g1.cat j from rfl,kI];simp only[Gh.upd,if_true];exact dH
  have gq:Mv (FF a) g1 (g1.upd j (ds (g.ah j) k u) (ds d k t)) m1 (m1.set j (.dict (ds (g.ah j) k u))):=Mv.put kl length_set (λx hx=>getElem?_set_ne (λe=>hx e.symm)) (by rw[kI];exact λz4=>ak.noConfusion z4) (by rw[kI];exact λz4=>ak.noConfusion z4) (by rw[kI];(first|exact rfl|exact Or.inl rfl|exact trivial));have I2:=C.I.mv a fP (gJ.trans FF.zm gq) λc e=>e;refine hG _ _ ⟨g.ah j,yx,.inl ⟨?_,mU,rfl⟩⟩ ⟨I2.weak λb nb=>⟨nb,nb⟩,C.ha,C.ei,C.ej,?_,?_,?_,?_,C.ok.ds hk lt vF⟩ ⟨?_,?_,?_,?_,?_⟩
  .rcases qx st dj k with⟨q1,q2⟩|⟨v0,t0,q1,q2,q3,_,_⟩|⟨r,x,q1,q2,q3,_,_⟩
   .rw[q1];rfl
   .rw[q1];have qY:VR g1 (AK (g.cat j) k) v0 t0:=q3.map λx q=>⟨ec▸q,ed x (by intro er;rw[er,C.ci,C.cj]at q;exact ak.noConfusion q)⟩;have:=dE (qY.i6 fD λc q=>lG dj q) mJ .list;rw[show((some v0).getD V.none)=v0 from rfl,this];clear h5 q2 q3 qY this;cases t0<;>rfl
   .rw[C.dj]at q2;exact absurd q2 (hc x)
  .show g1.cat i=_;rw[ec];exact C.ci
  .show g1.cat j=_;exact kI
  .exact(if_neg gr).trans ei
  .exact if_pos rfl
  .exact ec
  .exact Vb
  .rcases je with je|hr
   .exact .inl (by simpa[Gh.upd,gr]using je)
   .refine aY hr λr e1 e2 e3=>?_;exact .inr ⟨r,by simpa[Gh.upd,gr]using e1,e2,e3⟩
  .simp only[Gh.upd,if_true];exact xm
  .intro x n1 n2;simp[Gh.upd,n2,ed x n1,Vc x n1]
 have plain:cg (ar.slot k) ms (.c .ref)=some false->∃g' ms',ig [.ref i,.ref j,k.val,v,u] ms=some (.none,ms')/\fR K a g' ms' hs ts rs mk i j (ds d k t)/\B2 a k v u g g' i j:=by
  intro hn;refine B4 λCC vm=>?_;refine fI (zH fX jh hk vq) λa' p1 p2 p3 p4=>?_;have kl:bg ms (ms.set i a'.mo):=bg.set fX;have fD:St (g.upd i (ds (g.ah i) k v) (ds d k t)) (ms.set i a'.mo):=by refine st.put (C.ci▸vo) (by rw[C.ci]) ?_ kl length_set (λx hx=>getElem?_set_ne (λe=>hx e.symm)) (bQ.put C.ci (getElem?_set_self (fT fX)) p2 (by rw[p3,hl];rfl) (p4.trans gL));rw[C.ci];rw[C.di]at jW;exact jW.mr (SR.q0 hv) λ_ _ _ _ _ _ z=>z
  have gJ:Mv (FF a) g (g.upd i (ds (g.ah i) k v) (ds d k t)) ms (ms.set i a'.mo):=Mv.put kl length_set (λx hx=>getElem?_set_ne (λe=>hx e.symm)) (by rw[C.ci];exact λz4=>ak.noConfusion z4) (by rw[C.ci];exact λz4=>ak.noConfusion z4) (by rw[C.ci];first|exact rfl|exact trivial|exact Or.inl rfl);refine fN (second _ _ fD gJ rfl rfl (if_neg (λz2=>gr z2.symm)) (getElem?_set_ne gr) (λx hx=>by exact if_neg hx) (λx hx=>by exact if_neg hx) (if_pos rfl) (.inl (by simp only[Gh.upd,if_true];exact xm))) λg' m2 w1 w2 w3=>?_;refine vm ?_;exact hG g' m2 (v8 fX jh hk (.inl ⟨hn,p1⟩) w1) w2 w3
 rcases qw st ai k with⟨q1,q2⟩|⟨v0,t0,q1,q2,q3,_,_⟩|⟨r,t0,q1,q2,q3,q4,q5,q6,_⟩|⟨r,x,q1,q2,q3,_,_⟩
 .exact plain (by rw[sl,q1];rfl)
 .refine plain ?_;rw[sl,q1];have:=dE (q3.f9 st λc q=>kM ai q) kL (.c .ref);rw[show((some v0).getD V.none)=v0 from rfl,this];clear h5 q2 q3 this;cases t0<;>rfl
 .have cr:g.cat r=.R a k:=by rw[C.ci]at q3;exact q3
  have er:=(st.rep r).ref (by rw[cr];trivial);have kl:bg ms (ms.set r (bt v (g.ho r))):=bg.set er;have hp:∀x,x≠r->(ms.set r (bt v (g.ho r)))[x]?=ms[x]?:=λx hx=>getElem?_set_ne (λe=>hx e.symm);have Ve:VR g (VK (.R a k)) v t:=hv;have fD:St (g.lw i r k v t) (ms.set r (bt v (g.ho r))):=st.Bd C.ci cr U.uA vE q6 Ve vF kl length_set hp (getElem?_set_self (fT er));have gJ:Mv (FF a) g (g.lw i r k v t) ms (ms.set r (bt v (g.ho r))):=Mv.Bd C.ci cr kl length_set hp (by first|exact rfl|exact trivial|exact Or.inl rfl);have pV:j≠r:=by exact dU C.cj cr nofun
  refine fN (second _ _ fD gJ rfl rfl rfl (hp j pV) (λx hx=>by exact if_neg hx) (λx hx=>rfl) (by simp[Gh.lw,C.di]) (.inr ⟨r,q6,cr,by exact if_pos rfl⟩)) λg' m2 w1 w2 w3=>?_;exact hG g' m2 (v8 fX jh hk (.inr ⟨r,_,_,by rw[sl,q1];rfl,er,rfl⟩) w1) w2 w3
 .rw[C.di]at q2;exact absurd q2 (hc x)
end
section
theorem Eo{i j x:Nat}(st:St g ms)(ai:ft (g.cat i))(dj:du (g.cat j))(hk:de k)(hi:(g.den i).lookup k=some (.cell x))(hj:(g.den j).lookup k=some (.cell x))(hv:VR g (VK (.rc x)) v t)(hu:VR g (VK (.tl x)) u t)(lt:LF t):
 ∃r li ms',ig [.ref i,.ref j,k.val,v,u] ms=some (.none,ms')/\St (g.cw x r li v u t) ms'/\Mv (λ_=>False) g (g.cw x r li v u t) ms ms'/\g.cat r=.rc x/\g.cat li=.tl x/\r≠li:=by
 refine fI ((st.rep i).arr ai) λar fX jh hl gL=>?_;have rj:=(st.rep j).jf dj;have sl:ar.slot k=((g.ah i).lookup k).getD .none:=by unfold Ar.slot;rw[hl]
 refine az (KS st ai hi) λr q1 cr=>?_;refine az (D3 st dj hj) λli w1 cl=>?_;have er:=(st.rep r).ref (by rw[cr];trivial);have el:=(st.rep li).tl cl;have pV:r≠j:=λe=>by rw[<-e,cr]at dj;exact dj
 have nZ:r≠li:=dU cr cl nofun;have e1:(ms.set r (bt v (g.ho r)))[j]?=some (.dict (g.ah j)):=(getElem?_set_ne pV).trans rj;have e2:(ms.set r (bt v (g.ho r)))[li]?=some (.list [g.rv li]):=(getElem?_set_ne nZ).trans el;have kl:bg ms ((ms.set r (bt v (g.ho r))).set li (.list [u])):=(bg.set er).trans (bg.list e2);have hp:∀y,y≠r->y≠li->((ms.set r (bt v (g.ho r))).set li (.list [u]))[y]?=ms[y]?:=λy n1 n2=>(getElem?_set_ne (Ne.symm n2)).trans (getElem?_set_ne (Ne.symm n1));have gX:((ms.set r (bt v (g.ho r))).set li (.list [u])).length=ms.length:=by rw[length_set,length_set]
 exact w7 r li _ (v8 fX jh hk (.inr ⟨r,_,_,by rw[sl,q1];rfl,er,rfl⟩) ⟨_,e1,.inr ⟨li,_,w1,e2,rfl⟩⟩) (st.um cr cl hv hu kl gX hp ((getElem?_set_ne nZ.symm).trans (getElem?_set_self (fT er))) (getElem?_set_self (fT e2))) (Mv.um cr cl kl gX hp lt) cr cl nZ
theorem E1{a:Nat}{i j x:Nat}(C:fR K a g ms hs ts rs mk i j d)(hk:de k)(hx:d.lookup k=some (.cell x))(hv:VR g (VK (.rc x)) v t)(hu:VR g (VK (.tl x)) u t)(lt:LF t):
 ∃g' ms' r li,ig [.ref i,.ref j,k.val,v,u] ms=some (.none,ms')/\fR K a g' ms' hs ts rs mk i j d/\g'.cat=g.cat/\g'.ah=g.ah/\g'.den=g.den/\g.cat r=.rc x/\g.cat li=.tl x/\g'.rv r=v/\g'.rv li=u:=by
 refine lS (Eo C.I.bk.st (by rw[C.ci];trivial) (by rw[C.cj];trivial) hk (C.di▸hx) (C.dj▸hx) hv hu lt) λr li ms' p1 gb mv cr cl nZ=>?_;exact Qh _ _ r li p1 ⟨C.I.jg gb mv,C.ha,C.ei,C.ej,C.ci,C.cj,C.di,C.dj,C.ok⟩ rfl rfl rfl cr cl (if_pos rfl) ((if_neg (λz2=>nZ z2.symm)).trans (if_pos rfl))
theorem Ot{a:Nat}{i j:Nat}(C:fR K a g ms hs ts rs mk i j d)(U:Un a g i j)(hk:de k)(n:Int):
 ∃g' ms',ig [.ref i,.ref j,k.val,.int n,.int n] ms=some (.none,ms')/\bV K (λ_=>True) g' ms' hs ts rs mk:=by
 by_cases h:∃x,d.lookup k=some (.cell x)
 .refine cW h λx h=>?_;refine Bj (E1 (v:=.int n) (u:=.int n) (t:=.int n) C hk h rfl rfl trivial) λg' ms' _ _ q1 C' _=>?_;exact gZ g' ms' q1 C'.all
 .refine fN (zW (v:=.int n) (u:=.int n) (t:=.int n) C U hk rfl rfl trivial (λx e=>h ⟨x,e⟩)) λg' ms' q1 C' _=>?_;exact gZ g' ms' q1 C'.all
theorem bg.dict{j:Nat}(h:ms[j]?=some (.dict es)):bg ms (ms.set j (.dict bu)):=by
 intro x ty e;by_cases q:j=x
 .subst q;simp[bG,h]at e;simp[bG,fT h,e]
 .simpa only[bG,getElem?_set_ne q]using e
theorem Ep{ms:Hp}{i j:Nat}(st:St g ms)(hi:ft (g.cat i))(nz:g.cat i≠.zm)(hj:du (g.cat j))(hk:de k)(hv:gp ms v)(hR:∀c,¬RK (g.cat i) k c)(h1:∀x,(g.den i).lookup k≠some (.cell x))(h2:∀x,(g.den j).lookup k≠some (.cell x))(len:(g.ah j).length<=900):
 ∃a':Ar,ig [.ref i,.ref j,k.val,v,u] ms=some (.none,(ms.set i a'.mo).set j (.dict (ds (g.ah j) k u)))/\bg ms (ms.set i a'.mo)/\dW (ms.set i a'.mo) a'/\a'.ah=ds (g.ah i) k v/\a'.sh=false/\i<ms.length/\(ms.set i a'.mo)[j]?=some (.dict (g.ah j))/\i≠j:=by
 refine fI ((st.rep i).arr hi) λar fX jh hl gL=>?_;have gL:ar.sh=false:=gL.trans (Gx nz);have rj:=(st.rep j).jf hj;have gr:i≠j:=by clear h2 len rj;rintro rfl;revert hi hj;cases g.cat i<;>intro a b<;>first|exact a|exact b
 have sl:ar.slot k=((g.ah i).lookup k).getD .none:=by unfold Ar.slot;rw[hl]
 refine fI (zH fX jh hk hv) λa' p1 p2 p3 p4=>?_;have kl:bg ms (ms.set i a'.mo):=bg.set fX;have e1:(ms.set i a'.mo)[j]?=some (.dict (g.ah j)):=by rw[getElem?_set_ne gr];exact rj
 refine Qd a' (v8 fX jh hk (.inl ⟨?_,p1⟩) ⟨_,e1,.inl ⟨?_,len,rfl⟩⟩) kl p2 (by rw[p3,hl];rfl) (p4.trans gL) (fT fX) e1 gr
 .rcases qw st hi k with⟨q1,q2⟩|⟨v0,t0,q1,q2,q3,_,_⟩|⟨r,t0,q1,q2,q3,q4,q5,q6,_⟩|⟨r,y,q1,q2,q3,_,_⟩
  .rw[sl,q1];rfl
  .rw[sl,q1];have:=dE (q3.f9 st λc q=>kM hi q) kL (.c .ref);rw[show((some v0).getD V.none)=v0 from rfl,this];clear h5 q2 q3 this;cases t0<;>rfl
  .exact absurd q3 (hR _)
  .exact absurd q2 (h1 y)
 .rcases qx st hj k with⟨q1,q2⟩|⟨v0,t0,q1,q2,q3,_,_⟩|⟨r,y,q1,q2,q3,_,_⟩
  .rw[q1];rfl
  .rw[q1];have ty:=q3.i6 st λc q=>lG hj q;have:=dE (Fx kl ty) mJ .list;rw[show((some v0).getD V.none)=v0 from rfl,this];clear ty;clear h5 q2 q3 this;cases t0<;>rfl
  .exact absurd q2 (h2 y)
theorem Ie{a:Nat}(h:jU c (.B a k)):c=.A a\/c=.R a k:=by
 rcases h with⟨k',h|h⟩|⟨x,h⟩|h
 .cases c<;>simp[AK]at h;simp[h]
 .cases c<;>simp[RK]at h
 .cases c<;>exact ak.noConfusion h
 .cases c<;>simp[VK]at h;simp[h]
theorem Hs{a:Nat}(h:jU c (.TB a k)):c=.TA a:=by
 rcases h with⟨k',h|h⟩|⟨x,h⟩|h
 .cases c<;>simp[AK]at h;simp[h]
 .cases c<;>simp[RK]at h
 .cases c<;>exact ak.noConfusion h
 .cases c<;>simp[VK]at h
theorem P7{a:Nat}(h:jU (.B a k) c):c=.zm\/∃x,c=.rc x:=by
 rcases h with⟨k',h|h⟩|⟨x,h⟩|h
 .exact .inl h
 .exact h.elim
 .exact .inr ⟨x,h⟩
 .exact h.elim
theorem Ou{a:Nat}(h:jU (.TB a k) c):∃x,c=.tl x:=by
 rcases h with⟨k',h|h⟩|⟨x,h⟩|h
 .exact h.elim
 .exact h.elim
 .exact⟨x,h⟩
 .exact h.elim
theorem zL{α:Type}{xs:List (DK×α)}{k:DK}{v w:α}(nd:(xs.map (·.1)).Nodup)(h1:(k,v)∈xs)(h2:(k,w)∈xs):v=w:=y7 nd h1 (ru nd h2)
end
section
theorem Kn{a:Nat}{i j iv jv:Nat}(C:fR K a g ms hs ts rs mk i j d)(U:Un a g i j)(hk:de k)(fw:de k')(ci:g.cat iv=.B a k)(cj:g.cat jv=.TB a k)(di:g.den iv=e)(dj:g.den jv=e)(ok:dR L1 e)
 (oa:(k,.ref iv)∈g.ah i\/∃r,(k,.ref r)∈g.ah i/\g.cat r=.R a k/\g.rv r=.ref iv)(sF:(k,.ref jv)∈g.ah j)(n:Int):
 ∃g' ms',ig [.ref iv,.ref jv,k'.val,.int n,.int n] ms=some (.none,ms')/\bV K (λ_=>True) g' ms' hs ts rs mk:=by
 have st:=C.I.bk.st;have ai:ft (g.cat iv):=by rw[ci];trivial
 have aj:du (g.cat jv):=by rw[cj];trivial
 have jW:=(st.link iv).ent (pS ai);have kH:=(st.link jv).ent (nW aj);rw[ci,di]at jW;rw[cj,dj]at kH;by_cases hc:∃x,e.lookup k'=some (.cell x)
 .refine cW hc λx hx=>?_;exact lS (Eo (v:=.int n) (u:=.int n) (t:=.int n) st ai aj fw (di▸hx) (dj▸hx) rfl rfl trivial) λr li ms' p1 gb mv _ _ _=>⟨_,_,p1,C.all.jg gb mv⟩
 .have qV:∀x,e.lookup k'≠some (.cell x):=λx q=>hc ⟨x,q⟩;have len:(g.ah jv).length<=900:=by have e1:=congrArg List.length kH.keys;have:=mU ok;simp at e1;omega
  refine Hy (Ep (v:=.int n) (u:=.int n) st ai (by rw[ci];exact λz4=>ak.noConfusion z4) aj fw (gp.ty (t:=.int) rfl (λz4=>Ty.noConfusion z4)) (by rw[ci];intro c q;exact q) (di▸qV) (dj▸qV) len) λa' p1 kl xU al CT yz ej gr=>?_;have vE:((g.ah i).map (·.1)).Nodup:=by have en:=(st.link i).ent (by rw[C.ci]);rw[en.keys,C.di];exact C.ok.nd
  have Vf:((g.ah j).map (·.1)).Nodup:=by have en:=(st.link j).ent (by rw[C.cj]);rw[en.keys,C.dj];exact C.ok.nd
  have n1:i≠iv:=by exact dU C.ci ci nofun
  have n2:i≠jv:=by exact dU C.ci cj nofun
  have n3:j≠iv:=by exact dU C.cj ci nofun
  have n4:j≠jv:=by exact dU C.cj cj nofun
  have n5:i≠j:=by exact dU C.ci C.cj nofun
  have CU:dR L1 (ds e k' (.int n)):=ok.ds fw trivial (λz4=>λz3=>T.noConfusion z3);have iX:∃v0,(k,v0)∈g.ah i/\((v0=.ref iv/\AK (.A a) k (.B a k))\/∃r,v0=.ref r/\g.cat r=.R a k/\RK (.A a) k (.R a k)):=by
   rcases oa with h|hr
   .exact a0 _ h (.inl ⟨rfl,.inr rfl⟩)
   .refine aY hr λr h1 h2 h3=>?_;exact a0 _ h1 (.inr ⟨r,rfl,h2,rfl⟩)
  refine az iX λv0 hm IV=>?_;have pR:∀r,g.cat r=.R a k->g.rv r=.ref iv:=by
   intro r hr;have m:=U.uR r k hr;rcases oa with h|hr
   .have:=zL vE m h;injection this with this;clear ai al xU di ej jW h IV yz kl n1 n3 gr iX p1;subst this;rw[ci]at hr;exact ak.noConfusion hr
   .refine aY hr λr' h1 h2 h3=>?_;have:=zL vE m h1;injection this with this;clear h1 h2;subst this;exact h3
  have fD:St (g.iw i iv (.R a k) k (ds (g.ah iv) k' (.int n)) (ds e k' (.int n))) (ms.set iv a'.mo):=by
   refine st.inner C.ci ci U.uA (.inr ⟨a,rfl,rfl⟩) (λ_=>pR) vo rfl rfl ?_ ?_ ?_ ?_ ?_ ?_ vE hm IV kl length_set (λx hx=>getElem?_set_ne (λe=>hx e.symm)) ?_
   .intro c h;rcases Ie h with h|h
    .exact .inl h
    .exact .inr ⟨h,by exact λz4=>ak.noConfusion z4⟩
   .intro k1 h;simp[AK]at h;exact h.symm
   .intro c h;exact xO h
   .intro k1 h;simp[RK]at h;exact h.symm
   .intro c h;rcases P7 h with rfl|⟨x,rfl⟩<;>exact And.intro (λz4=>ak.noConfusion z4) (And.intro (λz4=>ak.noConfusion z4) (λz4=>ak.noConfusion z4))
   .exact jW.mr (SR.q0 (t:=.int n) rfl) λ_ _ _ _ _ _ z=>z
   .unfold bQ;rw[show(g.iw i iv (.R a k) k (ds (g.ah iv) k' (.int n)) (ds e k' (.int n))).cat iv=g.cat iv from rfl,ci];simp only[Gh.iw,if_true];exact gO a' (getElem?_set_self yz) xU CT al
  have gJ:Mv (FF a) g (g.iw i iv (.R a k) k (ds (g.ah iv) k' (.int n)) (ds e k' (.int n))) ms (ms.set iv a'.mo):=Mv.inner C.ci ci (λz4=>ak.noConfusion z4) (λz4=>ak.noConfusion z4) (λz4=>ak.noConfusion z4) kl length_set (λx hx=>getElem?_set_ne (λe=>hx e.symm)) (by first|exact rfl|exact trivial|exact Or.inl rfl) (by first|exact rfl|exact trivial|exact Or.inl rfl);have IW:jv≠iv:=gr.symm;have l1:(g.iw i iv (.R a k) k (ds (g.ah iv) k' (.int n)) (ds e k' (.int n))).ah jv=g.ah jv:=by exact if_neg IW
  have l2:(g.iw i iv (.R a k) k (ds (g.ah iv) k' (.int n)) (ds e k' (.int n))).ah j=g.ah j:=by exact if_neg n3
  have l3:(g.iw i iv (.R a k) k (ds (g.ah iv) k' (.int n)) (ds e k' (.int n))).den j=d:=by simp[Gh.iw,n3,n5.symm,C.dj]
  have l4:(g.iw i iv (.R a k) k (ds (g.ah iv) k' (.int n)) (ds e k' (.int n))).den i=ds d k (.arr (ds e k' (.int n))):=by simp[Gh.iw,n1,C.di]
  have l5:(g.iw i iv (.R a k) k (ds (g.ah iv) k' (.int n)) (ds e k' (.int n))).den jv=e:=by exact(if_neg IW).trans ((if_neg (λz2=>n2 z2.symm)).trans dj)
  have cc:(g.iw i iv (.R a k) k (ds (g.ah iv) k' (.int n)) (ds e k' (.int n))).cat=g.cat:=rfl;have kf:bg (ms.set iv a'.mo) ((ms.set iv a'.mo).set jv (.dict (ds (g.ah jv) k' (.int n)))):=bg.dict ej;generalize g.iw i iv (.R a k) k (ds (g.ah iv) k' (.int n)) (ds e k' (.int n))=g1 at fD gJ l1 l2 l3 l4 l5 cc;have kI:g1.cat j=.TA a:=cc▸C.cj;have vG:g1.cat jv=.TB a k:=cc▸cj;have yy:=(fD.link jv).ent (by rw[vG]);rw[vG,l1,l5]at yy;have fP:St (g1.iw j jv .no k (ds (g.ah jv) k' (.int n)) (ds e k' (.int n))) ((ms.set iv a'.mo).set jv (.dict (ds (g.ah jv) k' (.int n)))):=by
   refine fD.inner (v0:=.ref jv) kI vG (cc▸U.uT) (.inl rfl) (λh=>absurd rfl h) qD rfl rfl ?_ ?_ ?_ ?_ ?_ ?_ (l2▸Vf) (l2▸sF) (.inl ⟨rfl,rfl⟩) kf length_set (λx hx=>getElem?_set_ne (λe=>hx e.symm)) ?_
   .intro c h;exact .inl (Hs h)
   .intro k1 h;simp[AK]at h;exact h.symm
   .intro c h;exact absurd h oe
   .intro k1 h;exact h.elim
   .intro c h;refine cW (Ou h) λx bf=>?_;clear h;subst bf;exact And.intro (λz4=>ak.noConfusion z4) (And.intro (λz4=>ak.noConfusion z4) (λz4=>ak.noConfusion z4))
   .exact yy.mr (SR.q0 (t:=.int n) rfl) λ_ _ _ _ _ _ z=>z
   .unfold bQ;rw[show(g1.iw j jv .no k (ds (g.ah jv) k' (.int n)) (ds e k' (.int n))).cat jv=g1.cat jv from rfl,vG];simp only[Gh.iw,if_true];rw[getElem?_set_self (fT ej)]
  have gq:Mv (FF a) g1 (g1.iw j jv .no k (ds (g.ah jv) k' (.int n)) (ds e k' (.int n))) (ms.set iv a'.mo) ((ms.set iv a'.mo).set jv (.dict (ds (g.ah jv) k' (.int n)))):=Mv.inner kI vG (λz4=>ak.noConfusion z4) (λz4=>ak.noConfusion z4) (λz4=>ak.noConfusion z4) kf length_set (λx hx=>getElem?_set_ne (λe=>hx e.symm)) (by(first|exact rfl|exact Or.inl rfl|exact trivial)) (by(first|exact rfl|exact Or.inl rfl|exact trivial));have I2:=C.I.mv a fP (gJ.trans FF.zm gq) λc e=>e;have Vg:dR L2 (ds d k (.arr (ds e k' (.int n)))):=C.ok.ds hk CU (λz4=>λz3=>T.noConfusion z3);refine gZ _ _ p1 (I2.fix (λb nb=>⟨nb,nb⟩) C.ei C.ej ⟨.arr (ds d k (.arr (ds e k' (.int n)))),⟨i,rfl,.inr ?_,?_⟩,⟨j,rfl,?_,?_⟩,Vg⟩)
  .show g1.cat i=_;rw[cc];exact C.ci
  .exact(if_neg n2).trans ((if_neg n5).trans l4)
  .exact kI
  .simp[Gh.iw,n4,l3]
theorem Ko{a:Nat}{i j iv jv x r li:Nat}(C:fR K a g ms hs ts rs mk i j d)(fw:de k')(ci:g.cat iv=.C x)(cj:g.cat jv=.TC x)(di:g.den iv=e)(dj:g.den jv=e)(ok:dR fW e)
 (cr:g.cat r=.rc x)(cl:g.cat li=.tl x)(vr:g.rv r=.ref iv)(vl:g.rv li=.ref jv)(n:Int):
 ∃g' ms',ig [.ref iv,.ref jv,k'.val,.int n,.int n] ms=some (.none,ms')/\bV K (λ_=>True) g' ms' hs ts rs mk:=by
 have st:=C.I.bk.st;have ai:ft (g.cat iv):=by rw[ci];trivial
 have aj:du (g.cat jv):=by rw[cj];trivial
 have jW:=(st.link iv).ent (pS ai);have kH:=(st.link jv).ent (nW aj);rw[ci,di]at jW;rw[cj,dj]at kH;have qV:∀y,e.lookup k'≠some (.cell y):=by intro y q;have:=(ok.ok _ (ur.rz q)).2;exact this
 have len:(g.ah jv).length<=900:=by have e1:=congrArg List.length kH.keys;have:=mU ok;simp at e1;omega
 refine Hy (Ep (v:=.int n) (u:=.int n) st ai (by rw[ci];exact λz4=>ak.noConfusion z4) aj fw (gp.ty (t:=.int) rfl (λz4=>Ty.noConfusion z4)) (by rw[ci];intro c q;exact q) (di▸qV) (dj▸qV) len) λa' p1 kl xU al CT yz ej gr=>?_;have kf:bg (ms.set iv a'.mo) ((ms.set iv a'.mo).set jv (.dict (ds (g.ah jv) k' (.int n)))):=bg.dict ej;have hp:∀y,y≠iv->y≠jv->((ms.set iv a'.mo).set jv (.dict (ds (g.ah jv) k' (.int n))))[y]?=ms[y]?:=λy n1 n2=>by rw[getElem?_set_ne (λe=>n2 e.symm),getElem?_set_ne (λe=>n1 e.symm)]
 have CU:dR fW (ds e k' (.int n)):=ok.ds fw trivial (λz4=>λz3=>T.noConfusion z3);have fD:St (g.gx x iv jv (ds (g.ah iv) k' (.int n)) (ds (g.ah jv) k' (.int n)) (ds e k' (.int n))) ((ms.set iv a'.mo).set jv (.dict (ds (g.ah jv) k' (.int n)))):=by
  refine st.An ci cj cr cl vr vl (jW.mr (SR.q0 (t:=.int n) rfl) λ_ _ _ _ _ _ z=>z) (kH.mr (SR.q0 (t:=.int n) rfl) λ_ _ _ _ _ _ z=>z) (kl.trans kf) (by simp) hp ?_ ?_
  .unfold bQ;rw[show(g.gx x iv jv (ds (g.ah iv) k' (.int n)) (ds (g.ah jv) k' (.int n)) (ds e k' (.int n))).cat iv=g.cat iv from rfl,ci];simp only[Gh.gx,if_true];exact gO a' (by rw[getElem?_set_ne gr.symm];exact getElem?_set_self yz) (xU.mono kf) CT al
  .unfold bQ;rw[show(g.gx x iv jv (ds (g.ah iv) k' (.int n)) (ds (g.ah jv) k' (.int n)) (ds e k' (.int n))).cat jv=g.cat jv from rfl,cj];simp only[Gh.gx,if_true,gr.symm,if_false];rw[getElem?_set_self (fT ej)]
 have gJ:Mv (FF a) g (g.gx x iv jv (ds (g.ah iv) k' (.int n)) (ds (g.ah jv) k' (.int n)) (ds e k' (.int n))) ms ((ms.set iv a'.mo).set jv (.dict (ds (g.ah jv) k' (.int n)))):=Mv.An ci cj (kl.trans kf) (by simp) hp CU (by(first|exact rfl|exact Or.inl rfl|exact trivial)) (by(first|exact rfl|exact Or.inl rfl|exact trivial));have n1:i≠iv:=by exact dU C.ci ci nofun
 have n2:i≠jv:=by exact dU C.ci cj nofun
 have n3:j≠iv:=by exact dU C.cj ci nofun
 have n4:j≠jv:=by exact dU C.cj cj nofun
 have I2:=C.I.mv a fD gJ λc e=>e;refine gZ _ _ p1 (I2.fix (λb nb=>⟨nb,nb⟩) C.ei C.ej ⟨.arr d,⟨i,rfl,.inr C.ci,?_⟩,⟨j,rfl,C.cj,?_⟩,C.ok⟩)
 .simp[Gh.gx,n1,n2,C.di]
 .simp[Gh.gx,n3,n4,C.dj]
end
section
theorem fR.jg{K:Ix}{a:Nat}{g g':Gh}{ms ms':Hp}{hs ts:List V}{rs:List (Nat×Nat)}{mk:List Nat}{i j:Nat}{d:List (DK×T)}(C:fR K a g ms hs ts rs mk i j d)(gb:St g' ms')(mv:Mv (λ_=>False) g g' ms ms'):fR K a g' ms' hs ts rs mk i j d:=by refine B4 λCC vm=>?_;refine fm (mv.gi i (by rw[C.ci];exact λz4=>ak.noConfusion z4) (by rw[C.ci];exact λz4=>ak.noConfusion z4) id) λe1 e2 _=>?_;refine fm (mv.gi j (by rw[C.cj];exact λz4=>ak.noConfusion z4) (by rw[C.cj];exact λz4=>ak.noConfusion z4) id) λe3 e4 _=>?_;refine vm ?_;exact⟨C.I.jg gb mv,C.ha,C.ei,C.ej,e1.trans C.ci,e3.trans C.cj,e2.trans C.di,e4.trans C.dj,C.ok⟩
inductive iV(a:Nat)(d:List (DK×T))(k:DK):ak->ak->T->Prop where
 |B (t:T) (h1:∀x,d.lookup k≠some (.cell x)) (h2:∀e,t=.arr e->dR L1 e):iV a d k (.B a k) (.TB a k) t
 |C (x:Nat) (t:T) (h1:d.lookup k=some (.cell x)) (h2:∀e,t=.arr e->dR fW e):iV a d k (.C x) (.TC x) t
theorem iV.cX{a n:Nat}(W:iV a d k X Y t)(hx:∀x,X=.C x->x<n):∀x,fU X=some x->x<n:=by
 cases W with
 |B=>exact λ_ h=>aX h
 |C y=>exact λ_ h=>Option.some.inj h▸hx _ rfl
theorem iV.cY{a n:Nat}(W:iV a d k X Y t)(hx:∀x,X=.C x->x<n):∀x,fU Y=some x->x<n:=by
 cases W with
 |B=>exact λ_ h=>aX h
 |C y=>exact λ_ h=>Option.some.inj h▸hx _ rfl
theorem iV.CV{a:Nat}(W:iV a d k X Y t):X≠.A a/\X≠.TA a/\∀k,X≠.R a k:=by cases W<;>exact⟨nofun,nofun,nofun⟩
theorem iV.vH{a:Nat}(W:iV a d k X Y t):Y≠.A a/\Y≠.TA a/\(∀k,Y≠.R a k)/\Y≠.zu/\Y≠.no:=by cases W<;>exact⟨nofun,nofun,nofun,nofun,nofun⟩
theorem iV.cn{a:Nat}(W:iV a d k X Y (.arr e)):(dp e).Nodup:=by
 cases W with
 |B _ _ h2=>exact(h2 e rfl).cn
 |C _ _ _ h2=>exact(h2 e rfl).cn
theorem iV.hX{a n:Nat}(W:iV a d k X Y t)(hx:∀x,X=.C x->x<n):(∃a,X=.A a)\/(∃a k,X=.B a k)\/∃x,X=.C x/\x<n:=by
 cases W with
 |B=>exact .inr (.inl ⟨_,_,rfl⟩)
 |C x=>exact .inr (.inr ⟨x,rfl,hx x rfl⟩)
theorem iV.sh{a:Nat}(W:iV a d k X Y t):gw X=.ar false/\fQ X=.zm/\gw Y=.dc/\fQ Y=.zm:=by cases W<;>exact⟨rfl,rfl,rfl,rfl⟩
theorem VR.R8{i a:Nat}(st:St g ms)(ai:ft (g.cat i))(ci:g.cat i=.A a)(h:VR g (AK (.A a) k) v t):cg v ms (.c .ref)=some false:=by
 rw[ci]at ai;rw[dE (h.f9 st λc q=>kM ai q) kL];cases t with
 |cell x=>exact h.elim
 |_=>rfl
theorem VR.tree{j a:Nat}(st:St g ms)(dj:du (g.cat j))(cj:g.cat j=.TA a)(h:VR g (AK (.TA a) k) u t):gj [u] ms=some (u,ms):=by rw[cj]at dj;exact sP (h.i6 st λc q=>lG dj q) mJ (by cases t<;>first|exact h.elim|nofun)
theorem Ov{a:Nat}{ms:Hp}{i j:Nat}(C:fR K a g ms hs ts rs mk i j d)(k:DK):
 ∃(s v0 u0:V) (t0:T) (X Y:ak),((g.ah i).lookup k).getD .none=s/\((cg s ms (.c .ref)=some false/\v0=s)\/∃r h,s=.ref r/\ms[r]?=some (bt v0 h))/\gj [((g.ah j).lookup k).getD .none] ms=some (u0,ms)/\VR g (λc=>c=.zm\/c=X) v0 t0/\VR g (·=Y) u0 t0/\iV a d k X Y t0/\(∀x,X=.C x->x<ms.length):=by
 have st:=C.I.bk.st;have ai:ft (g.cat i):=by rw[C.ci];trivial
 have dj:du (g.cat j):=by rw[C.cj];trivial
 have B:=RZ st ai dj (C.di.trans C.dj.symm) k;rw[C.di]at B;rcases B with⟨q1,w1,q2⟩|⟨v0,u0,t0,q1,w1,q2,hc,q3,w3⟩|⟨r,u0,t0,q1,w1,q2,hc,q3,q4,w3⟩|⟨r,r',x,q1,w1,q2,q3,w3⟩
 .have hn:∀x,d.lookup k≠some (.cell x):=λx e=>aX (q2.symm.trans e);exact w9 .none .none .none .none (.B a k) (.TB a k) (by rw[q1];rfl) (.inl ⟨rfl,rfl⟩) (by rw[w1];exact sP (t:=.none) rfl nofun nofun) rfl rfl (.B _ hn nofun) nofun
 .have hn:∀x,d.lookup k≠some (.cell x):=λx e=>hc x (Option.some.inj (q2.symm.trans e));have lt:=(C.ok.ok _ (ur.rz q2)).2;rw[C.ci]at q3;rw[C.cj]at w3;exact w9 v0 v0 u0 t0 (.B a k) (.TB a k) (by rw[q1];rfl) (.inl ⟨VR.R8 st ai C.ci q3,rfl⟩) (by rw[w1];exact VR.tree st dj C.cj w3) (q3.map λc q=>⟨q,rfl⟩) (w3.map λc q=>⟨q,rfl⟩) (.B _ hn (by clear hc q2 q3 w3;rintro e rfl;exact lt)) nofun
 .have hn:∀x,d.lookup k≠some (.cell x):=λx e=>hc x (Option.some.inj (q2.symm.trans e));have lt:=(C.ok.ok _ (ur.rz q2)).2;rw[C.cj]at w3;have cr:g.cat r=.R a k:=by rw[C.ci]at q3;exact q3
  have er:=(st.rep r).ref (by rw[cr];trivial);have lv:=st.link r;unfold dy at lv;rw[cr,q4]at lv;exact w9 (.ref r) (g.rv r) u0 t0 (.B a k) (.TB a k) (by rw[q1];rfl) (.inr ⟨r,_,rfl,er⟩) (by rw[w1];exact VR.tree st dj C.cj w3) (lv.1.map λc q=>⟨q,rfl⟩) (w3.map λc q=>⟨q,rfl⟩) (.B _ hn (by clear lv q4;clear hc q2 w3;rintro e rfl;exact lt)) nofun
 .have er:=(st.rep r).ref (by rw[q3];trivial);have lv:=st.link r;unfold dy at lv;rw[q3]at lv;exact w9 (.ref r) (g.rv r) (g.rv r') (g.cs x) (.C x) (.TC x) (by rw[q1];rfl) (.inr ⟨r,_,rfl,er⟩) (by rw[w1];exact yM ((st.rep r').tl w3)) (lv.1.map λc q=>⟨q,rfl⟩) (((st.link r').Cx w3).map λc q=>⟨q,rfl⟩) (.C x _ q2 (λe h=>by have:=C.I.bk.lf x;rw[h]at this;exact this)) (λx' h=>by cases h;exact st.cb r x (by rw[q3];rfl))
theorem MY{a:Nat}{ms:Hp}{i j:Nat}{t:T}(C:fR K a g ms hs ts rs mk i j d)(W:iV a d k X Y t)(hx:∀x,X=.C x->x<ms.length):
 ∃g',fR K a g' (ms++[dX.mo]++[.dict []]) hs ts rs mk i j d/\g'.cat ms.length=X/\g'.cat (ms.length+1)=Y/\g'.den ms.length=[]/\g'.den (ms.length+1)=[]:=by
 have st:=C.I.bk.st;have n0:g.cat ms.length=.no:=st.fresh _ (le_refl _);have n1:g.cat (ms.length+1)=.no:=st.fresh _ (by omega);have vI:St g (ms++[dX.mo]++[.dict []]):=st.grow.grow;have jg:Mv (λ_=>False) g g ms (ms++[dX.mo]++[.dict []]):=Mv.grow (Mv.grow Mv.refl);have hX:=W.cX hx;have hY:=W.cY hx;have l2:ms.length+2=(ms++[dX.mo]++[MO.dict []]).length:=by simp
 have fD:St (g.add ms.length X [] [] .none .none 0) (ms++[dX.mo]++[.dict []]):=vI.IS n0 W.sh.1 W.sh.2.1 (λx h=>l2▸Nat.lt_add_right 2 (hX x h)) Iq;have gJ:Mv (λ_=>False) g (g.add ms.length X [] [] .none .none 0) ms (ms++[dX.mo]++[.dict []]):=Mv.adopt id jg n0 (le_refl _);have n2:(g.add ms.length X [] [] .none .none 0).cat (ms.length+1)=.no:=by exact(if_neg (λz2=>Nat.succ_ne_self _ z2)).trans n1
 have fP:St ((g.add ms.length X [] [] .none .none 0).add (ms.length+1) Y [] [] .none .none 0) (ms++[dX.mo]++[.dict []]):=fD.IT n2 W.sh.2.2.1 W.sh.2.2.2 (λx h=>l2▸Nat.lt_add_right 2 (hY x h)) Ir;have gq:Mv (λ_=>False) g ((g.add ms.length X [] [] .none .none 0).add (ms.length+1) Y [] [] .none .none 0) ms (ms++[dX.mo]++[.dict []]):=Mv.adopt id gJ n2 (by omega);have n3:ms.length≠ms.length+1:=ne_of_lt (Nat.lt_succ_self _);exact GI _ (C.jg fP gq) ((if_neg n3).trans (if_pos rfl)) (if_pos rfl) ((if_neg n3).trans (if_pos rfl)) (if_pos rfl)
end
section
theorem K2{a:Nat}{ms:Hp}{mk:List Nat}{i j mu jv:Nat}(C:fR K a g ms hs ts rs mk i j d)(hk:de k)(fw:de k')(W:iV a d k X Y (.arr e))(ci:g.cat mu=.zm\/g.cat mu=X)(cj:g.cat jv=Y)(di:g.den mu=e)(dj:g.den jv=e)(hx:∀x,X=.C x->x<ms.length)(hm:mk.length<=900)(n:Int):
 ∃iv m2 m3 m4 g' mk',lD [.ref K.b,.ref mu] ms=some (.ref iv,m2)/\ig [.ref i,.ref j,k.val,.ref iv,.ref jv] m2=some (.none,m3)/\ig [.ref iv,.ref jv,k'.val,.int n,.int n] m3=some (.none,m4)/\bV K (λ_=>True) g' m4 hs ts rs mk'/\mk'.length<=mk.length+1:=by
 refine Hz (GC C.I ci (W.hX hx) di W.cn hm) λg2 m2 mk' iv q1 I2 c2 d2 z2 k2=>?_;refine fm (k2 i (rJ C.ci nofun) (rJ C.ci nofun)) λi1 i2 _=>?_;refine fm (k2 j (rJ C.cj nofun) (rJ C.cj nofun)) λj1 j2 _=>?_;refine fm (k2 jv (rJ cj W.vH.2.2.2.1) (rJ cj W.vH.2.2.2.2)) λv1 v2 _=>?_;have C2:fR K a g2 m2 hs ts rs mk' i j d:=⟨I2,C.ha,C.ei,C.ej,i1.trans C.ci,j1.trans C.cj,i2.trans C.di,j2.trans C.dj,C.ok⟩;refine fI C2.gc λuU C3 U3 w3 _=>?_;have rd:(g2.re uU).cat iv=X:=vD (w3 iv) c2 W.CV.1 W.CV.2.1 λk q=>absurd q (W.CV.2.2 k);have rg:(g2.re uU).cat jv=Y:=vD (w3 jv) (v1.trans cj) W.vH.1 W.vH.2.1 λk q=>absurd q (W.vH.2.2.1 k);have vJ:(g2.re uU).den iv=e:=d2;have vK:(g2.re uU).den jv=e:=v2.trans dj;generalize g2.re uU=g3 at C3 U3 rd rg vJ vK;cases W with
 |B _ h1 h2=>
  have ok:=h2 e rfl;refine fN (zW (v:=.ref iv) (u:=.ref jv) (t:=.arr e) C3 U3 hk ⟨iv,rfl,.inr rd,vJ⟩ ⟨jv,rfl,rg,vK⟩ ok h1) λg4 m3 q2 C4 R4=>?_;have a1:iv≠i:=dU rd C3.ci nofun;have a2:iv≠j:=dU rd C3.cj nofun;have a3:jv≠i:=dU rg C3.ci nofun;have a4:jv≠j:=dU rg C3.cj nofun;refine fI C4.gc λIg C5 U5 w5 _=>?_;have Vh:(g4.re Ig).cat iv=.B a k:=vD (w5 iv) (R4.cat▸rd) nofun nofun nofun;have Vi:(g4.re Ig).cat jv=.TB a k:=vD (w5 jv) (R4.cat▸rg) nofun nofun nofun;obtain⟨g',m4,q3,I5⟩:=Kn C5 U5 hk fw Vh Vi ((R4.gi iv a1 a2).2.trans vJ) ((R4.gi jv a3 a4).2.trans vK) ok (by
   rcases R4.slot with h|hr
   .exact .inl h
   .obtain⟨r,m,cr,rv⟩:=hr;refine .inr ⟨r,m,?_,rv⟩;exact vD (w5 r) (R4.cat▸cr) nofun nofun λk1 e=>by cases e;exact m) R4.tree n
  exact GL iv m2 m3 m4 g' mk' q1 q2 q3 I5 z2
 |C x _ h1 h2=>have ok:=h2 e rfl;obtain⟨g4,m3,r,li,q2,C4,b1,b2,b3,b4,b5,b6,b7⟩:=E1 (v:=.ref iv) (u:=.ref jv) (t:=.arr e) C3 hk h1 ⟨iv,rfl,.inr rd,vJ⟩ ⟨jv,rfl,rg,vK⟩ ok;refine fH (Ko C4 fw (b1▸rd) (b1▸rg) (b3▸vJ) (b3▸vK) ok (b1▸b4) (b1▸b5) b6 b7 n) λg' m4 q3 I5=>?_;exact GL iv m2 m3 m4 g' mk' q1 q2 q3 I5 z2
theorem MZ{a:Nat}{mk:List Nat}{i j:Nat}(C:fR K a g ms hs ts rs mk i j d)(hk:de k)(fw:de k')(n:Int)(hm:mk.length<=900):
 ∃g' ms' mk',ro [.ref K.b,.ref i,.ref j,k.val,k'.val,.int n] ms=some (.none,ms')/\bV K (λ_=>True) g' ms' hs ts rs mk'/\mk'.length<=mk.length+1:=by
 have st:=C.I.bk.st;have ai:ft (g.cat i):=by rw[C.ci];trivial
 have dj:du (g.cat j):=by rw[C.cj];trivial
 refine fI ((st.rep i).arr ai) λar fX jh hl gL=>?_;have rj:=(st.rep j).jf dj;have sl:ar.slot k=((g.ah i).lookup k).getD .none:=by delta Ar.slot;rw[hl]
 refine So (Ov C k) λs v0 u0 t0 X Y es dr q1 hv hu W hx=>?_;have bu:ar.slot k=s:=sl.trans es;have IX:=hu.i6 st (by clear hu;rintro c rfl;clear hv hx;cases W<;>trivial);delta ro y0;rw[cV (by rfl)];have f1:ax ["book","arr","tree","key","inner","number"] ([.ref K.b,.ref i,.ref j,k.val,k'.val,.int n]++[]) "book"=some (.ref K.b):=rfl;have f2:ax ["book","arr","tree","key","inner","number"] ([.ref K.b,.ref i,.ref j,k.val,k'.val,.int n]++[]) "arr"=some (.ref i):=rfl;have f3:ax ["book","arr","tree","key","inner","number"] ([.ref K.b,.ref i,.ref j,k.val,k'.val,.int n]++[]) "tree"=some (.ref j):=rfl;have f4:ax ["book","arr","tree","key","inner","number"] ([.ref K.b,.ref i,.ref j,k.val,k'.val,.int n]++[]) "key"=some k.val:=rfl;have f5:ax ["book","arr","tree","key","inner","number"] ([.ref K.b,.ref i,.ref j,k.val,k'.val,.int n]++[]) "inner"=some k'.val:=rfl;have f6:ax ["book","arr","tree","key","inner","number"] ([.ref K.b,.ref i,.ref j,k.val,k'.val,.int n]++[]) "number"=some (.int n):=rfl;generalize ax ["book","arr","tree","key","inner","number"] ([.ref K.b,.ref i,.ref j,k.val,k'.val,.int n]++[])=L at f1 f2 f3 f4 f5 f6;have gd:=wo (m:=nm "tree") (x:="key") (l:=L) (ms:=ms) (by simp_arith! [f3]) rj f4;have s1:dY 2 (aU (aa (bw .arr "slot" (gz) (nm "arr") (aa (nm "key") (af))) (aa (aq (gj) (aa (iH (nm "tree") (nm "key")) (af))) (af)))) (λvs=>(bM (cP "own_held") (bM (cP "held") (fo))) vs.reverse) L ms=some (.next,(L.set "own_held" u0).set "held" s,ms):=by
  have e1:bw .arr "slot" (gz) (nm "arr") (aa (nm "key") (af)) L ms=some (s,ms):=by simp_arith! [f2,f4,fX,tf fX jh hk,bu]
  have e2:aq (gj) (aa (iH (nm "tree") (nm "key")) (af)) L ms=some (u0,ms):=by simp_arith! [gd,q1]
  have e3:aU (aa (bw .arr "slot" (gz) (nm "arr") (aa (nm "key") (af))) (aa (aq (gj) (aa (iH (nm "tree") (nm "key")) (af))) (af))) L ms=some (.tup [s,u0],ms):=by revert e1 e2;generalize bw .arr "slot" (gz) (nm "arr") (aa (nm "key") (af))=A;generalize aq (gj) (aa (iH (nm "tree") (nm "key")) (af))=B;intro e1 e2;simp_arith! [e1,e2]
  simp_arith! [e3]
 rw[aZ s1];have s2:bq "value" (bz (aw (aO (nm "held") (.c .ref))) (aP "value" (nm "held")) (nm "held")) ((L.set "own_held" u0).set "held" s) ms=some (.next,((L.set "own_held" u0).set "held" s).set "value" v0,ms):=by
  refine wd ?_;have l1:((L.set "own_held" u0).set "held" s) "held"=some s:=rfl;rcases dr with hr|hr
  .refine bT hr λh1 bf=>?_;clear es bu hr s1;subst bf;simp_arith! [l1,h1]
  .refine fH hr λr h bL h1=>?_;clear es bu hr s1;subst bL;have e3:cg (.ref r) ms (.c .ref)=some true:=by rw[dE (t:=.c .ref) (by simp[bG,h1,bt]) (by simp)];rfl
   unfold bt at h1;simp_arith! [l1,e3,h1]
 rw[aZ s2];have a1:(((L.set "own_held" u0).set "held" s).set "value" v0) "book"=some (.ref K.b):=f1;have a2:(((L.set "own_held" u0).set "held" s).set "value" v0) "arr"=some (.ref i):=f2;have a3:(((L.set "own_held" u0).set "held" s).set "value" v0) "tree"=some (.ref j):=f3;have a4:(((L.set "own_held" u0).set "held" s).set "value" v0) "key"=some k.val:=f4;have a5:(((L.set "own_held" u0).set "held" s).set "value" v0) "inner"=some k'.val:=f5;have a6:(((L.set "own_held" u0).set "held" s).set "value" v0) "number"=some (.int n):=f6;have a7:(((L.set "own_held" u0).set "held" s).set "value" v0) "own_held"=some u0:=rfl;have a8:(((L.set "own_held" u0).set "held" s).set "value" v0) "value"=some v0:=rfl;generalize ((L.set "own_held" u0).set "held" s).set "value" v0=L1 at a1 a2 a3 a4 a5 a6 a7 a8;obtain⟨L2,m1,g1,mu,jv,e,s3,b1,b2,b3,b4,b5,b6,b7,b8,C1,W1,c1,c2,d1,d2,x1⟩:∃(L2:av) (m1:Hp) (g1:Gh) (mu jv:Nat) (e:List (DK×T)),aG (ba (aw (aO (nm "own_held") .dict))) (ag (dY 2 (aU (aa (g7 .arr jk (af)) (aa (jj) (af)))) (λvs=>(bM (cP "own_held") (bM (cP "value") (fo))) vs.reverse)) (ao)) (ao) L1 ms=some (.next,L2,m1)/\
  L2 "book"=some (.ref K.b)/\L2 "arr"=some (.ref i)/\L2 "tree"=some (.ref j)/\L2 "key"=some k.val/\L2 "inner"=some k'.val/\L2 "number"=some (.int n)/\L2 "own_held"=some (.ref jv)/\L2 "value"=some (.ref mu)/\fR K a g1 m1 hs ts rs mk i j d/\iV a d k X Y (.arr e)/\(g1.cat mu=.zm\/g1.cat mu=X)/\g1.cat jv=Y/\g1.den mu=e/\g1.den jv=e/\(∀x,X=.C x->x<m1.length):=by
  by_cases hA:∃e,t0=.arr e
  .refine cW hA λe bf=>?_;clear hA;subst bf;refine aY hv λmu bf c1 d1=>?_;clear dr s2;clear hv;subst bf;refine aY hu λjv bf c2 d2=>?_;clear q1;clear hu;clear s1;subst bf;have c:ba (aw (aO (nm "own_held") .dict)) L1 ms=some (false,ms):=by have:=dE IX mJ .dict;simp_arith! [a7,this,i6]
   exact⟨L1,ms,g,mu,jv,e,(fG c).trans bZ,a1,a2,a3,a4,a5,a6,a7,a8,C,W,c1,c2,d1,d2,hx⟩
  .have e4:fx (i6 t0) .dict=false:=by
    cases t0 with
    |arr d=>exact absurd ⟨d,rfl⟩ hA
    |cell x=>exact hv.elim
    |_=>rfl
   have c:ba (aw (aO (nm "own_held") .dict)) L1 ms=some (true,ms):=by have:=dE IX mJ .dict;simp_arith! [a7,this,e4]
   refine Hx (MY C W hx) λg1 C1 c1 c2 d1 d2=>?_;have s:dY 2 (aU (aa (g7 .arr jk (af)) (aa (jj) (af)))) (λvs=>(bM (cP "own_held") (bM (cP "value") (fo))) vs.reverse) L1 ms=some (.next,(L1.set "own_held" (.ref (ms.length+1))).set "value" (.ref ms.length),ms++[dX.mo]++[.dict []]):=by
    have iq:aU (aa (g7 .arr jk (af)) (aa (jj) (af))) L1 ms=some (.tup [.ref ms.length,.ref (ms.length+1)],ms++[dX.mo]++[.dict []]):=by simp only[aU,aa,jj,Bg,ay];simp[af]
    simp_arith! [iq]
   refine⟨(L1.set "own_held" (.ref (ms.length+1))).set "value" (.ref ms.length),_,g1,ms.length,ms.length+1,[],(iU c).trans ((aZ s).trans bZ),a1,a2,a3,a4,a5,a6,rfl,rfl,C1,?_,.inr c1,c2,d1,d2,?_⟩
   .have nil:∀(P:T->Prop),dR P []:=λP=>⟨by simp,by simp,by simp[dp]⟩;cases W with
    |B _ h1 _=>exact .B _ h1 (by intro e h;cases h;exact nil _)
    |C x _ h1 _=>exact .C x _ h1 (by intro e h;cases h;exact nil _)
   .intro x h;have:=hx x h;simp;omega
 rw[aZ s3];refine Sn (K2 C1 hk fw W1 c1 c2 d1 d2 x1 hm n) λiv m2 m3 m4 g' mk' p1 p2 p3 I5 z=>?_;have s4:bq "value" (aq (lD) (aa (nm "book") (aa (nm "value") (af)))) L2 m1=some (.next,L2.set "value" (.ref iv),m2):=by refine wd ?_;simp_arith! [b1,b8,p1]
 rw[aZ s4];have s5:aR (aq (ig) (aa (nm "arr") (aa (nm "tree") (aa (nm "key") (aa (nm "value") (aa (nm "own_held") (af))))))) (L2.set "value" (.ref iv)) m2=some (.next,L2.set "value" (.ref iv),m3):=by refine i9 (v:=.none) ?_;simp_arith! [b2,b3,b4,b7,p2]
 rw[aZ s5];have s6:aR (aq (ig) (aa (nm "value") (aa (nm "own_held") (aa (nm "inner") (aa (nm "number") (aa (nm "number") (af))))))) (L2.set "value" (.ref iv)) m3=some (.next,L2.set "value" (.ref iv),m4):=by refine i9 (v:=.none) ?_;simp_arith! [b5,b6,b7,p3]
 rw[aZ s6,bZ];exact qk g' m4 mk' rfl I5 z
end
section
theorem Er{c:Nat}:∀{es:List (DK×T)},(es.map (·.1)).Nodup->(dp es).Nodup->c∉dp es->(dp (es.map λe=>if e.1=k then(k,.cell c)else e)).Nodup/\∀y,y∈dp (es.map λe=>if e.1=k then(k,.cell c)else e)->y=c\/y∈dp es
 |[],_,_,_=>⟨.nil,by simp[dp]⟩
 |(k',t)::es,nd,cn,hn=>by
  simp only[map_cons,List.nodup_cons]at nd;have nP:(dp es).Nodup:=by
   simp only[dp,filterMap_cons]at cn⊢;split at cn
   .exact cn
   .exact(List.nodup_cons.mp cn).2
  have sub:∀y,y∈dp es->y∈dp ((k',t)::es):=by
   intro y m;simp only[dp,filterMap_cons]at m⊢;split
   .exact m
   .exact List.mem_cons_of_mem _ m
  have vL:c∉dp es:=λm=>hn (sub c m);obtain⟨i1,i2⟩:=Er (k:=k) nd.2 nP vL;by_cases q:k'=k
  .have e:(es.map λe=>if e.1=k then(k,T.cell c)else e)=es:=by
    have:∀e∈es,(if e.1=k then(k,T.cell c)else e)=e:=by intro e me;rw[if_neg];intro h;exact nd.1 (mem_map.mpr ⟨e,me,h.trans q.symm⟩)
    refine(List.map_congr_left this).trans ?_;rw[List.map_id']
   have e2:dp (((k',t)::es).map λe=>if e.1=k then(k,T.cell c)else e)=c::dp es:=by rw[map_cons,e];simp[dp,q]
   rw[e2];refine⟨List.nodup_cons.mpr ⟨vL,nP⟩,?_⟩;intro y m;rcases mem_cons.mp m with m|m
   .exact .inl m
   .exact .inr (sub y m)
  .have e2:(((k',t)::es).map λe=>if e.1=k then(k,T.cell c)else e)=(k',t)::es.map λe=>if e.1=k then(k,T.cell c)else e:=by rw[map_cons];simp[q]
   rw[e2];generalize (es.map λe=>if e.1=k then(k,T.cell c)else e)=yu at i1 i2;cases t with
   |cell y=>
    have m1:y∉dp es:=by simp only[dp,filterMap_cons]at cn;exact(List.nodup_cons.mp cn).1
    have m2:y≠c:=by clear e2 vL i2;rintro rfl;exact hn (by simp[dp])
    refine⟨?_,?_⟩
    .show(y::dp yu).Nodup;refine List.nodup_cons.mpr ⟨λm=>?_,i1⟩;rcases i2 y m with h|h
     .exact m2 h
     .exact m1 h
    .intro z m;have m:z∈y::dp yu:=m;show z=c\/z∈y::dp es;rcases mem_cons.mp m with h|m
     .exact .inr (by simp[h])
     .rcases i2 z m with h|h
      .exact .inl h
      .exact .inr (List.mem_cons_of_mem _ h)
   |none=>exact⟨i1,λy m=>i2 y m⟩
   |int _=>exact⟨i1,λy m=>i2 y m⟩
   |arr _=>exact⟨i1,λy m=>i2 y m⟩
theorem dR.Vj{P:T->Prop}{c:Nat}(h:dR P es)(hk:de k)(ht:P (.cell c))(hc:c∉dp es):dR P (Mine.Internal.ds es k (T.cell c)):=by
 refine⟨?_,FN h.nd,?_⟩
 .intro e m;rcases GD m with rfl|hr
  .exact⟨hk,ht⟩
  .refine bT hr λm _=>?_;exact h.ok e m
 .unfold Mine.Internal.ds;split
  .exact(Er h.nd h.cn hc).1
  .have:dp (es++[(k,.cell c)])=dp es++[c]:=by unfold dp;refine filterMap_append.trans ?_;rfl
   rw[this,List.nodup_append];refine⟨h.cn,by exact Tv,?_⟩;intro x m y m2;simp at m2;clear ht this;subst m2;rintro rfl;exact hc m
theorem bX.leaf(hR:∀k c1,¬RK c k c1)(h:bX g c xs es)(l:∀e∈es,fW e.2):bX g' c' xs es:=by
 refine h.l8 λk v t _ m s=>?_;have lt:=l _ m;cases t with
 |arr _=>exact lt.elim
 |cell _=>exact lt.elim
 |none=>
  rcases s with s|hr
  .exact .inl s
  .refine aY hr λr _ q _=>?_;exact(hR _ _ q).elim
 |int i=>
  rcases s with s|hr
  .exact .inl s
  .refine aY hr λr _ q _=>?_;exact(hR _ _ q).elim
open Classical in
noncomputable def Gh.pT(g:Gh)(a j li c:Nat)(k:DK)(u:V)(t:T):Gh:={g with cat:=λx=>if x=li then .tl c else if .ref x=u/\g.cat x=.TB a k then .TC c else g.cat x,ah:=λx=>if x=j then ds (g.ah j) k (.ref li)else g.ah x,den:=λx=>if x=j then ds (g.den j) k (.cell c)else g.den x,rv:=λx=>if x=li then u else g.rv x,cs:=λy=>if y=c then t else g.cs y}
theorem Ow{ms:Hp}{a j:Nat}(st:St g ms)(cj:g.cat j=.TA a)(uT:∀x,g.cat x=.TA a->x=j)(hu:VR g (AK (.TA a) k) u t)(lt:LF t):
 St (g.pT a j ms.length ms.length k u t) ((ms++[MO.list [u]]).set j (.dict (ds (g.ah j) k (.ref ms.length))))/\Mv (FF a) g (g.pT a j ms.length ms.length k u t) ms ((ms++[MO.list [u]]).set j (.dict (ds (g.ah j) k (.ref ms.length)))):=by
 have n0:g.cat ms.length=.no:=st.fresh _ (le_refl _);have rj:=(st.rep j).jf (by rw[cj];trivial);have qR:=fT rj;have nj:j≠ms.length:=by omega
 have e0:(ms++[MO.list [u]])[j]?=some (.dict (g.ah j)):=by rw[getElem?_append_left qR];exact rj
 have kl:bg ms ((ms++[MO.list [u]]).set j (.dict (ds (g.ah j) k (.ref ms.length)))):=bg.append.trans (bg.dict e0);have hp:∀x,x<ms.length->x≠j->((ms++[MO.list [u]]).set j (.dict (ds (g.ah j) k (.ref ms.length))))[x]?=ms[x]?:=λx h1 h2=>by rw[getElem?_set_ne (λe=>h2 e.symm),getElem?_append_left h1]
 have cL:(g.pT a j ms.length ms.length k u t).cat ms.length=.tl ms.length:=by exact if_pos rfl
 have cO:∀x,x≠ms.length->¬(.ref x=u/\g.cat x=.TB a k)->(g.pT a j ms.length ms.length k u t).cat x=g.cat x:=λx h1 h2=>by simp only[Gh.pT];rw[if_neg h1,if_neg h2]
 have cU:∀x,.ref x=u->g.cat x=.TB a k->(g.pT a j ms.length ms.length k u t).cat x=.TC ms.length:=λx h1 h2=>by
  have:x≠ms.length:=by exact dU h2 n0 nofun
  simp only[Gh.pT];rw[if_neg this,if_pos ⟨h1,h2⟩]
 have dO:∀x,x≠j->(g.pT a j ms.length ms.length k u t).den x=g.den x:=λx h=>by exact if_neg h
 have lO:∀x,x≠j->(g.pT a j ms.length ms.length k u t).ah x=g.ah x:=λx h=>by exact if_neg h
 have cJ:(g.pT a j ms.length ms.length k u t).cat j=.TA a:=by rw[cO j nj (by rw[cj];exact λz4=>ak.noConfusion z4.2)];exact cj
 have yA:∀x,g.cat x≠.no->x≠ms.length:=by rintro x h rfl;exact h n0
 have lI:∀x,x=ms.length\/(.ref x=u/\g.cat x=.TB a k)\/(g.pT a j ms.length ms.length k u t).cat x=g.cat x:=by
  intro x;by_cases h1:x=ms.length
  .exact .inl h1
  by_cases h2:.ref x=u/\g.cat x=.TB a k
  .exact .inr (.inl h2)
  .exact .inr (.inr (cO x h1 h2))
 refine⟨?_,?_⟩
 .refine st.step (λx=>x=j\/x=ms.length\/(.ref x=u/\g.cat x=.TB a k)) kl ?_ ?_ ?_ ?_ ?_ Im ?_
  .intro x;by_cases h1:x=j
   .exact .inl (.inl h1)
   by_cases h2:x=ms.length
   .exact .inl (.inr (.inl h2))
   by_cases h3:.ref x=u/\g.cat x=.TB a k
   .exact .inl (.inr (.inr h3))
   by_cases h4:x<ms.length
   .refine .inr (.inr ⟨cO x h2 h3,lO x h1,dO x h1,by exact if_neg h2,rfl,rfl,hp x h4 h1,?_,?_⟩)
    .intro y hy;have:y≠ms.length:=by have:=st.cb x y (by rcases hy with e|e<;>rw[e]<;>rfl);omega
     exact if_neg this
    .intro i' kd;have a1:i'≠ms.length:=by intro er;rw[er,n0]at kd;exact oe kd
     have a2:i'≠j:=by intro er;rw[er,cj]at kd;exact qD _ kd
     have a3:¬(.ref i'=u/\g.cat i'=.TB a k):=by rintro⟨_,h⟩;rw[h]at kd;exact h1 (uT x (Hs kd))
     exact⟨cO i' a1 a3,dO i' a2,rfl⟩
   .exact .inr (.inl (by rw[cO x h2 h3];exact st.fresh x (by omega)))
  .clear lI e0 kl rj uT;rintro x (rfl|rfl|⟨hx,hc⟩)
   .refine⟨?_,?_⟩
    .unfold bQ;rw[cJ];simp only[Gh.pT,if_true];rw[getElem?_set_self (by simp;omega)]
    .refine bX.link ?_ (by rw[cJ]);rw[cJ,show(g.pT a x ms.length ms.length k u t).ah x=ds (g.ah x) k (.ref ms.length) by exact if_pos rfl,show(g.pT a x ms.length ms.length k u t).den x=ds (g.den x) k (.cell ms.length) by exact if_pos rfl];have en:=(st.link x).ent (by rw[cj]);rw[cj]at en;refine en.mr (t:=.cell ms.length) ⟨ms.length,rfl,cL⟩ ?_;intro k' v' t' _ _ fw z;refine z.map ?_ ?_ ?_
     .intro i' q;have q:g.cat i'=.TB a k':=q;have a1:i'≠ms.length:=yA _ (by rw[q];exact λz4=>ak.noConfusion z4);have a2:i'≠x:=by exact dU q cj nofun
      have a3:¬(.ref i'=u/\g.cat i'=.TB a k):=by rintro⟨_,h⟩;rw[q]at h;injection h with _ h;exact fw h
      rw[cO i' a1 a3];exact⟨q,dO i' a2⟩
     .intro i' q;exact q.elim
     .intro i' y q;have q:g.cat i'=.tl y:=q;have a1:i'≠ms.length:=yA _ (by rw[q];exact λz4=>ak.noConfusion z4);refine(cO i' a1 (by rw[q];exact λz4=>ak.noConfusion z4.2)).trans ?_;exact q
   .refine⟨?_,?_⟩
    .unfold bQ;rw[cL];simp only[Gh.pT,if_true];rw[getElem?_set_ne nj];exact getElem?_concat_length
    .unfold dy;rw[cL];simp only;rw[show(g.pT a j ms.length ms.length k u t).rv ms.length=u by exact if_pos rfl,show(g.pT a j ms.length ms.length k u t).cs ms.length=t by exact if_pos rfl];cases t with
     |none=>exact hu
     |int _=>exact hu
     |cell _=>exact hu.elim
     |arr es=>refine aY hu λi' e1 e2 e3=>?_;have e2:g.cat i'=.TB a k:=e2;refine cA i' e1 (cU i' e1.symm e2) ?_;refine(dO i' (dU e2 cj nofun)).trans ?_;exact e3
   .have xj:x≠j:=by exact dU hc cj nofun
    have xl:=fT ((st.rep x).jf (by rw[hc];trivial));refine⟨?_,?_⟩
    .unfold bQ;rw[cU x hx hc,lO x xj];simp only;refine(hp x xl xj).trans ?_;exact(st.rep x).jf (by rw[hc];trivial)
    .refine bX.link ?_ (by rw[cU x hx hc]);rw[cU x hx hc,lO x xj,dO x xj];have en:=(st.link x).ent (by rw[hc]);rw[hc]at en;refine bX.leaf (c:=.TB a k) (λ_ _ h=>h) en ?_;cases t with
     |none=>rw[show u=.none from hu]at hx;exact V.noConfusion hx
     |int _=>rw[show u=.int _ from hu]at hx;exact V.noConfusion hx
     |cell _=>exact hu.elim
     |arr es=>refine aY hu λi' e1 e2 e3=>?_;rw[e1]at hx;injection hx with hx;clear e1 e2;subst hx;rw[e3];intro e me;exact((show dR fW es from lt).ok e me).2
  .intro x hx;simp at hx;rewrite[cO x (by omega) ?_]
   .exact st.fresh x (by omega)
   .rintro⟨_,h⟩;rw[st.fresh x (by omega)]at h;exact ak.noConfusion h
  .intro x y e;rcases lI x with h|h|h
   .rw[h,cL]at e;exact ak.noConfusion e
   .rw[cU x h.1 h.2]at e;exact ak.noConfusion e
   .exact .inl (by rw[<-h];exact e)
  .intro x y e;rcases lI x with h|h|h
   .subst h;rw[cL]at e;cases e;refine .inr λz hz=>?_;rcases lI z with h|h|h
    .exact h
    .rw[cU z h.1 h.2]at hz;exact ak.noConfusion hz
    .rw[h]at hz;have:=st.cb z _ (by rw[hz];rfl);omega
   .rw[cU x h.1 h.2]at e;exact ak.noConfusion e
   .exact .inl (by rw[<-h];exact e)
  .intro x y e;rcases lI x with h|h|h
   .rw[h,cL]at e;cases e;exact .inr B5
   .rw[cU x h.1 h.2]at e;cases e;exact .inr B5
   .exact .inl (by rw[<-h];exact e)
 .refine⟨by exact Im,kl,?_,?_,?_,?_⟩
  .intro x hx e;exact⟨by rw[cO x (by omega) (by rw[e];exact λz4=>ak.noConfusion z4.2)];exact e,hp x hx (dU e cj nofun)⟩
  .intro x e;have xj:x≠j:=by exact dU e cj nofun
   exact⟨.inr (by rw[cO x (yA x (by rw[e];exact λz4=>ak.noConfusion z4)) (by rw[e];exact λz4=>ak.noConfusion z4.2)];exact e),dO x xj,lO x xj⟩
  .intro x h1 h2 h3;have xj:x≠j:=by intro er;rw[er,cj]at h3;exact h3 (.inl rfl)
   exact⟨cO x (yA x h2) (λh=>h3 (by rw[h.2];exact .inl rfl)),dO x xj,lO x xj⟩
  .intro h y;simp only[Gh.pT];split
   .exact lt
   .exact h y
open Classical in
noncomputable def Gh.pA(g:Gh)(a i r c:Nat)(k:DK)(s:V):Gh:={g with cat:=λx=>if x=r then .rc c else if .ref x=s/\g.cat x=.B a k then .C c else g.cat x,den:=λx=>if x=i then ds (g.den i) k (.cell c)else g.den x,ho:=λx=>if x=r then 2 else g.ho x}
theorem Ox{ms:Hp}{a i r c:Nat}(st:St g ms)(ci:g.cat i=.A a)(uA:∀x,g.cat x=.A a->x=i)(cr:g.cat r=.R a k)(uR:∀x,g.cat x=.R a k->x=r)(vr:g.rv r=s)(hm:(k,.ref r)∈g.ah i)(nd:((g.ah i).map (·.1)).Nodup)(hs:VR g (VK (.R a k)) s t)(lt:LF t)(hc:g.cs c=t)(nc:∀x,g.cat x≠.rc c)(pN:c<ms.length):
 St (g.pA a i r c k s) (ms.set r (bt s 2))/\Mv (FF a) g (g.pA a i r c k s) ms (ms.set r (bt s 2)):=by
 have er:=(st.rep r).ref (by rw[cr];trivial);have sL:=fT er;have vM:i≠r:=by exact dU ci cr nofun
 have kl:bg ms (ms.set r (bt s 2)):=bg.set er;have hp:∀x,x≠r->(ms.set r (bt s 2))[x]?=ms[x]?:=λx h=>getElem?_set_ne (λe=>h e.symm);have cR:(g.pA a i r c k s).cat r=.rc c:=by exact if_pos rfl
 have cO:∀x,x≠r->¬(.ref x=s/\g.cat x=.B a k)->(g.pA a i r c k s).cat x=g.cat x:=λx h1 h2=>by simp only[Gh.pA];rw[if_neg h1,if_neg h2]
 have cS:∀x,.ref x=s->g.cat x=.B a k->(g.pA a i r c k s).cat x=.C c:=λx h1 h2=>by
  have:x≠r:=by exact dU h2 cr nofun
  simp only[Gh.pA];rw[if_neg this,if_pos ⟨h1,h2⟩]
 have dO:∀x,x≠i->(g.pA a i r c k s).den x=g.den x:=λx h=>by exact if_neg h
 have cI:(g.pA a i r c k s).cat i=.A a:=by rw[cO i vM (by rw[ci];exact λz4=>ak.noConfusion z4.2)];exact ci
 have lI:∀x,x=r\/(.ref x=s/\g.cat x=.B a k)\/(g.pA a i r c k s).cat x=g.cat x:=by
  intro x;by_cases h1:x=r
  .exact .inl h1
  by_cases h2:.ref x=s/\g.cat x=.B a k
  .exact .inr (.inl h2)
  .exact .inr (.inr (cO x h1 h2))
 refine⟨?_,?_⟩
 .refine st.step (λx=>x=i\/x=r\/(.ref x=s/\g.cat x=.B a k)) kl ?_ ?_ ?_ ?_ ?_ qE ?_
  .intro x;by_cases h1:x=i
   .exact .inl (.inl h1)
   by_cases h2:x=r
   .exact .inl (.inr (.inl h2))
   by_cases h3:.ref x=s/\g.cat x=.B a k
   .exact .inl (.inr (.inr h3))
   refine .inr (.inr ⟨cO x h2 h3,rfl,dO x h1,rfl,rfl,by exact if_neg h2,hp x h2,λ_ _=>rfl,?_⟩);intro i' kd;have a1:i'≠r:=by clear cI cO cR cS lI dO er h2 hm hp sL kl vM uR vr;rintro rfl;rw[cr]at kd;exact h1 (uA x (xO kd))
   have a2:i'≠i:=by intro er;rw[er,ci]at kd;exact BW kd
   have a3:¬(.ref i'=s/\g.cat i'=.B a k):=by
    rintro⟨_,h⟩;rw[h]at kd;rcases Ie kd with h|h
    .exact h1 (uA x h)
    .exact h2 (uR x h)
   exact⟨cO i' a1 a3,dO i' a2,rfl⟩
  .clear uA;clear lI er uR;rintro x (rfl|rfl|⟨hx,pW⟩)
   .refine⟨?_,?_⟩
    .have:=st.rep x;unfold bQ at this⊢;rw[cI];rw[ci]at this;exact oJ.mono this (hp x vM) kl
    .refine bX.link ?_ (by rw[cI]);rw[cI,show(g.pA a x r c k s).ah x=g.ah x from rfl,show(g.pA a x r c k s).den x=ds (g.den x) k (.cell c) by exact if_pos rfl];have en:=(st.link x).ent (by rw[ci]);rw[ci]at en;have:=en.mr (g':=g.pA a x r c k s) (c':=.A a) (k:=k) (v:=.ref r) (t:=.cell c) ⟨r,rfl,cR⟩ ?_
     .rwa [zT nd hm]at this
     .intro k' v' t' _ _ fw z;refine z.map ?_ ?_ ?_
      .intro i' q;have a1:i'≠r:=by intro er;rw[er,cr]at q;simp[AK]at q
       have a2:i'≠x:=by intro er;rw[er,ci]at q;simp[AK]at q
       have a3:¬(.ref i'=s/\g.cat i'=.B a k):=by rintro⟨_,h⟩;rw[h]at q;simp[AK]at q;exact fw q.symm
       rw[cO i' a1 a3];exact⟨q,dO i' a2⟩
      .intro i' q;have q:g.cat i'=.R a k':=q;have a1:i'≠r:=by clear cI cO cR cS dO hm hp sL kl vM vr;rintro rfl;rw[cr]at q;injection q with _ q;exact fw q.symm
       rw[cO i' a1 (by rw[q];exact λz4=>ak.noConfusion z4.2)];exact⟨q,rfl⟩
      .intro i' y q;have q:g.cat i'=.rc y:=q;have a1:i'≠r:=by exact dU q cr nofun
       refine(cO i' a1 (by rw[q];exact λz4=>ak.noConfusion z4.2)).trans ?_;exact q
   .refine⟨?_,?_⟩
    .unfold bQ;rw[cR];simp only[Gh.pA,if_true];rw[getElem?_set_self sL,vr]
    .unfold dy;rw[cR];simp only;refine⟨?_,by simp[Gh.pA]⟩;rw[show(g.pA a i x c k s).rv x=g.rv x from rfl,vr,show(g.pA a i x c k s).cs c=g.cs c from rfl,hc];cases t with
     |none=>exact hs
     |int _=>exact hs
     |cell _=>exact hs.elim
     |arr es=>
      refine aY hs λi' e1 e2 e3=>?_;have ni:i'≠i:=by intro er;rw[er,ci]at e2;simp[VK]at e2
      refine cA i' e1 ?_ ((dO i' ni)▸e3);rcases e2 with e2|e2
      .exact .inl (by rewrite[cO i' (dU e2 cr nofun) (by rewrite[e2];exact λz4=>ak.noConfusion z4.2)];exact e2)
      .exact .inr (cS i' e1.symm e2)
   .have xi:x≠i:=by exact dU pW ci nofun
    have xr:x≠r:=by exact dU pW cr nofun
    refine⟨?_,?_⟩
    .have:=st.rep x;unfold bQ at this⊢;rw[cS x hx pW];rw[pW]at this;exact oJ.mono this (hp x xr) kl
    .refine bX.link ?_ (by rw[cS x hx pW]);rw[cS x hx pW,show(g.pA a i r c k s).ah x=g.ah x from rfl,dO x xi];have en:=(st.link x).ent (by rw[pW]);rw[pW]at en;refine bX.leaf (c:=.B a k) (λ_ _ h=>h) en ?_;cases t with
     |none=>rw[show s=.none from hs]at hx;exact V.noConfusion hx
     |int _=>rw[show s=.int _ from hs]at hx;exact V.noConfusion hx
     |cell _=>exact hs.elim
     |arr es=>refine aY hs λi' e1 e2 e3=>?_;rw[e1]at hx;injection hx with hx;clear e1 e2;subst hx;rw[e3];intro e me;exact((show dR fW es from lt).ok e me).2
  .intro x hx;simp at hx;have hn:=st.fresh x hx;refine(cO x (by omega) (by rw[hn];exact λz4=>ak.noConfusion z4.2)).trans ?_;exact hn
  .intro x y e;rcases lI x with h|h|h
   .clear cr;clear cI cO dO er hm hp sL kl vM uR vr;subst h;rw[cR]at e;cases e;refine .inr λz hz=>?_;rcases lI z with h|h|h
    .exact h
    .rw[cS z h.1 h.2]at hz;exact ak.noConfusion hz
    .rw[h]at hz;exact absurd hz (nc z)
   .rw[cS x h.1 h.2]at e;exact ak.noConfusion e
   .exact .inl (h▸e)
  .intro x y e;rcases lI x with h|h|h
   .rw[h,cR]at e;exact ak.noConfusion e
   .rw[cS x h.1 h.2]at e;exact ak.noConfusion e
   .exact .inl (h▸e)
  .intro x y e;rcases lI x with h|h|h
   .rw[h,cR]at e;cases e;exact .inr (by simpa using pN)
   .rw[cS x h.1 h.2]at e;cases e;exact .inr (by simpa using pN)
   .exact .inl (h▸e)
 .refine⟨by exact qE,kl,?_,?_,?_,λh=>h⟩
  .intro x hx e;have xr:x≠r:=by exact dU e cr nofun
   exact⟨by rw[cO x xr (by rw[e];exact λz4=>ak.noConfusion z4.2)];exact e,hp x xr⟩
  .intro x e;have xi:x≠i:=by exact dU e ci nofun
   have xr:x≠r:=by exact dU e cr nofun
   exact⟨.inr (by rw[cO x xr (by rw[e];exact λz4=>ak.noConfusion z4.2)];exact e),dO x xi,rfl⟩
  .intro x h1 h2 h3;have xi:x≠i:=by intro er;rw[er,ci]at h3;exact h3 rfl
   have xr:x≠r:=by intro er;rw[er,cr]at h3;exact h3 rfl
   exact⟨cO x xr (λh=>h3 (by rw[h.2];exact rfl)),dO x xi,rfl⟩
end
section
theorem LZ{a:Nat}{i j:Nat}(C:fR K a g ms hs ts rs mk i j d)(k:DK):
 (∃r,((g.ah i).lookup k).getD .none=.ref r/\kA (g.cat r))\/∃t,VR g (AK (.A a) k) (((g.ah i).lookup k).getD .none) t/\VR g (AK (.TA a) k) (((g.ah j).lookup k).getD .none) t/\L2 t:=by
 have st:=C.I.bk.st;have ai:ft (g.cat i):=by rw[C.ci];trivial
 have dj:du (g.cat j):=by rw[C.cj];trivial
 have sD:=qx st dj k;rcases qw st ai k with⟨q1,q2⟩|⟨v0,t0,q1,q2,q3,_,_⟩|⟨r,t0,q1,q2,q3,q4,q5,q6,_⟩|⟨r,x,q1,q2,q3,_,_⟩
 .rw[C.di]at q2;refine .inr ⟨.none,by rw[q1];rfl,?_,trivial⟩;rcases sD with⟨w1,w2⟩|⟨u0,t1,w1,w2,w3,_,_⟩|⟨r,x,w1,w2,w3,_,_⟩
  .rw[w1];rfl
  .rw[C.dj,q2]at w2;cases w2
  .rw[C.dj,q2]at w2;cases w2
 .rw[C.di]at q2;rcases sD with⟨w1,w2⟩|⟨u0,t1,w1,w2,w3,_,_⟩|⟨r,x,w1,w2,w3,_,_⟩
  .rw[C.dj,q2]at w2;cases w2
  .rw[C.dj,q2]at w2;clear h5_1;cases w2;rw[C.ci]at q3;rw[C.cj]at w3;exact .inr ⟨t0,by rw[q1];exact q3,by rw[w1];exact w3,(C.ok.ok _ (ur.rz q2)).2⟩
  .rw[C.dj,q2]at w2;clear h5 q2;cases w2;exact q3.elim
 .exact .inl ⟨r,by rw[q1];rfl,rI q3⟩
 .exact .inl ⟨r,by rw[q1];rfl,by rw[q3];trivial⟩
theorem Oy{a:Nat}{ms:Hp}{i j:Nat}(C:fR K a g ms hs ts rs mk i j d)(hk:de k)(oa:VR g (AK (.A a) k) s t)(hu:VR g (AK (.TA a) k) u t)(lt:LF t):
 ∃(a':Ar) (g':Gh),jN [.ref i,k.val,.ref ms.length] (ms++[bt s 1])=some (.none,(ms++[bt s 1]).set i a'.mo)/\((ms++[bt s 1]).set i a'.mo)[j]?=some (.dict (g.ah j))/\(g.ah j).length<=900/\
  fR K a g' (((ms++[bt s 1]).set i a'.mo).set j (.dict (ds (g.ah j) k u))) hs ts rs mk i j (ds d k t)/\g'.cat ms.length=.R a k/\g'.rv ms.length=s/\(k,.ref ms.length)∈g'.ah i/\VR g' (VK (.R a k)) s t/\VR g' (AK (.TA a) k) u t/\g'.ah j=ds (g.ah j) k u:=by
 have st:=C.I.bk.st;have vF:=oa.FO;have n0:g.cat ms.length=.no:=st.fresh _ (le_refl _);have ne:∀x,g.cat x≠.no->x≠ms.length:=by rintro x h rfl;exact h n0
 have CW:VR (g.add ms.length (.R a k) [] [] s t 1) (VK (.R a k)) s t:=oa.map λx q=>by have hx:=ne x (by rcases q with q|q<;>rw[q]<;>exact λz4=>ak.noConfusion z4);exact⟨by simp only[Gh.add,if_neg hx];exact q,if_neg hx⟩
 have IY:VR (g.add ms.length (.R a k) [] [] s t 1) (AK (.TA a) k) u t:=hu.map λx q=>by have q:g.cat x=.TB a k:=q;have hx:=ne x (by rw[q];exact λz4=>ak.noConfusion z4);exact⟨by simp only[Gh.add,if_neg hx];exact q,if_neg hx⟩
 have fD:St (g.add ms.length (.R a k) [] [] s t 1) (ms++[bt s 1]):=by
  refine st.new rfl ?_ ?_
  .exact bQ.S7 rfl (getElem?_concat_length)
  .unfold dy;simp only[Gh.add,if_true];exact⟨CW,trivial⟩
 have gJ:Mv (λ_=>False) g (g.add ms.length (.R a k) [] [] s t 1) ms (ms++[bt s 1]):=Mv.new st;have C1:=C.jg fD gJ;have r1:(g.add ms.length (.R a k) [] [] s t 1).cat ms.length=.R a k:=if_pos rfl;have r2:(g.add ms.length (.R a k) [] [] s t 1).rv ms.length=s:=if_pos rfl;have r3:(g.add ms.length (.R a k) [] [] s t 1).fq ms.length=t:=if_pos rfl;have r4:(g.add ms.length (.R a k) [] [] s t 1).ah j=g.ah j:=by have:=ne j (by rw[C.cj];exact λz4=>ak.noConfusion z4);exact if_neg this
 have r5:(g.add ms.length (.R a k) [] [] s t 1).ah i=g.ah i:=by have:=ne i (by rw[C.ci];exact λz4=>ak.noConfusion z4);exact if_neg this
 generalize g.add ms.length (.R a k) [] [] s t 1=g1 at CW IY fD gJ C1 r1 r2 r3 r4 r5;have ai:ft (g1.cat i):=by rw[C1.ci];trivial
 have dj:du (g1.cat j):=by rw[C1.cj];trivial
 refine fI ((fD.rep i).arr ai) λar fX jh hl gL=>?_;have gL:ar.sh=false:=by rw[gL,C1.ci];rfl
 have rj:=(fD.rep j).jf dj;rw[r4]at rj;have gr:i≠j:=by intro er;rw[er,C1.cj]at ai;exact ai
 have jW:=(fD.link i).ent (pS ai);have kH:=(fD.link j).ent (nW dj);rw[C1.ci,C1.di]at jW;rw[C1.cj,r4,C1.dj]at kH;have len:(g.ah j).length<=900:=by have e1:=congrArg List.length kH.keys;have:=mU C.ok;simp at e1;omega
 have vq:gp (ms++[bt s 1]) (.ref ms.length):=gp.ty (kN fD (by rw[r1];trivial)) (by simp);refine fI (zH fX jh hk vq) λa' p1 p2 p3 p4=>?_;have kl:bg (ms++[bt s 1]) ((ms++[bt s 1]).set i a'.mo):=bg.set fX;have p3:a'.ah=ds (g1.ah i) k (.ref ms.length):=by rw[p3,hl];rfl
 have Vk:SR g1 (.A a) k (.ref ms.length) t:=by
  have z:∃r',V.ref ms.length=.ref r'/\RK (.A a) k (g1.cat r')/\g1.fq r'=t:=(cA ms.length rfl r1 r3);cases t with
  |cell x=>exact absurd rfl (vF x)
  |none=>exact .inr z
  |int _=>exact .inr z
  |arr _=>exact .inr z
 have fP:St (g1.upd i (ds (g1.ah i) k (.ref ms.length)) (ds d k t)) ((ms++[bt s 1]).set i a'.mo):=by refine fD.put (C1.ci▸vo) (by rw[C1.ci]) ?_ kl length_set (λx hx=>getElem?_set_ne (λe=>hx e.symm)) (bQ.put C1.ci (by rw[getElem?_set_self (fT fX)]) p2 p3 (p4.trans gL));rw[C1.ci];exact jW.mr Vk λ_ _ _ _ _ _ z=>z
 have gq:Mv (FF a) g1 (g1.upd i (ds (g1.ah i) k (.ref ms.length)) (ds d k t)) (ms++[bt s 1]) ((ms++[bt s 1]).set i a'.mo):=Mv.put kl length_set (λx hx=>getElem?_set_ne (λe=>hx e.symm)) (by rw[C1.ci];exact λz4=>ak.noConfusion z4) (by rw[C1.ci];exact λz4=>ak.noConfusion z4) (by rw[C1.ci];first|exact rfl|exact trivial|exact Or.inl rfl);have CX:VR (g1.upd i (ds (g1.ah i) k (.ref ms.length)) (ds d k t)) (AK (.TA a) k) u t:=wX IY (by rw[C1.ci];exact λz4=>ak.noConfusion z4);have IZ:VR (g1.upd i (ds (g1.ah i) k (.ref ms.length)) (ds d k t)) (VK (.R a k)) s t:=wX CW (by rw[C1.ci];simp[VK]);have e2:((ms++[bt s 1]).set i a'.mo)[j]?=some (.dict (g.ah j)):=(getElem?_set_ne gr).symm▸rj;have g9:(g1.upd i (ds (g1.ah i) k (.ref ms.length)) (ds d k t)).cat j=.TA a:=C1.cj;have rb:bX (g1.upd i (ds (g1.ah i) k (.ref ms.length)) (ds d k t)) (.TA a) (ds (g.ah j) k u) (ds d k t):=by have:=(fP.link j).ent (by rw[g9]);rw[g9,show(g1.upd i (ds (g1.ah i) k (.ref ms.length)) (ds d k t)).ah j=g.ah j by exact(if_neg (λz2=>gr z2.symm)).trans r4,show(g1.upd i (ds (g1.ah i) k (.ref ms.length)) (ds d k t)).den j=d by simp[Gh.upd,gr.symm,C1.dj]]at this;exact this.mr (SR.q0 CX) λ_ _ _ _ _ _ z=>z
 have f1:(g1.upd i (ds (g1.ah i) k (.ref ms.length)) (ds d k t)).ah i=ds (g1.ah i) k (.ref ms.length):=by exact if_pos rfl
 have f2:(g1.upd i (ds (g1.ah i) k (.ref ms.length)) (ds d k t)).den i=ds d k t:=by exact if_pos rfl
 have f3:(g1.upd i (ds (g1.ah i) k (.ref ms.length)) (ds d k t)).cat=g1.cat:=rfl;have f4:(g1.upd i (ds (g1.ah i) k (.ref ms.length)) (ds d k t)).rv=g1.rv:=rfl;generalize g1.upd i (ds (g1.ah i) k (.ref ms.length)) (ds d k t)=g2 at fP gq CX IZ g9 rb f1 f2 f3 f4;have kf:bg ((ms++[bt s 1]).set i a'.mo) (((ms++[bt s 1]).set i a'.mo).set j (.dict (ds (g.ah j) k u))):=bg.dict e2;have Vl:St (g2.upd j (ds (g.ah j) k u) (ds d k t)) (((ms++[bt s 1]).set i a'.mo).set j (.dict (ds (g.ah j) k u))):=by refine fP.put (g9▸qD) (by rw[g9]) (g9▸rb) kf length_set (λx hx=>getElem?_set_ne (λe=>hx e.symm)) ?_;unfold bQ;rw[show(g2.upd j (ds (g.ah j) k u) (ds d k t)).cat j=g2.cat j from rfl,g9];simp only[Gh.upd,if_true];rw[getElem?_set_self (fT e2)]
 have Vm:Mv (FF a) g2 (g2.upd j (ds (g.ah j) k u) (ds d k t)) ((ms++[bt s 1]).set i a'.mo) (((ms++[bt s 1]).set i a'.mo).set j (.dict (ds (g.ah j) k u))):=Mv.put kf length_set (λx hx=>getElem?_set_ne (λe=>hx e.symm)) (by rw[g9];exact λz4=>ak.noConfusion z4) (by rw[g9];exact λz4=>ak.noConfusion z4) (by rw[g9];(first|exact rfl|exact Or.inl rfl|exact trivial));have I3:=C1.I.mv a Vl (gq.trans FF.zm Vm) λc e=>e;refine Qe a' _ p1 e2 len ⟨I3.weak λb nb=>⟨nb,nb⟩,C.ha,C.ei,C.ej,?_,g9,?_,?_,C.ok.ds hk (Ic lt) vF⟩ ?_ ?_ ?_ (wX IZ (by rw[g9];simp[VK])) (wX CX (by rw[g9];exact λz4=>ak.noConfusion z4)) (if_pos rfl)
 .show g2.cat i=_;rw[f3];exact C1.ci
 .exact(if_neg gr).trans f2
 .exact if_pos rfl
 .show g2.cat _=_;rw[f3];exact r1
 .show g2.rv _=_;rw[f4];exact r2
 .simp only[Gh.upd,if_neg gr,f1];exact xm
theorem Oz{a:Nat}{ms:Hp}{i j r:Nat}(C:fR K a g ms hs ts rs mk i j d)(hk:de k)(lt:LF t)(cr:g.cat r=.R a k)(vr:g.rv r=s)(hm:(k,.ref r)∈g.ah i)(oa:VR g (VK (.R a k)) s t)(hu:VR g (AK (.TA a) k) u t):
 ∃g',bV K (λ_=>True) g' (((ms++[MO.list [u]]).set j (.dict (ds (g.ah j) k (.ref ms.length)))).set r (bt s 2)) hs ts rs mk/\(∃x,g'.cat r=.rc x/\g'.cat ms.length=.tl x)/\ms[r]?=some (bt s 1)/\ms[j]?=some (.dict (g.ah j))/\(g.ah j).length<=900:=by
 refine fI C.gc λaI C1 U w _=>?_;have pX:(g.re aI).cat r=.R a k:=by
  rcases w r with e|⟨_,e|e|⟨k1,e,nm⟩⟩
  .exact e.trans cr
  .rw[cr]at e;exact ak.noConfusion e
  .rw[cr]at e;exact ak.noConfusion e
  .rw[cr]at e;cases e;exact absurd hm nm
 have sF:VR (g.re aI) (VK (.R a k)) s t:=oa.map λx q=>⟨by
  rcases w x with e|⟨_,e⟩
  .show VK _ (aI x);rw[e];exact q
  .rcases q with q|q<;>rw[q]at e<;>simp at e,rfl⟩
 have yh:VR (g.re aI) (AK (.TA a) k) u t:=hu.map λx q=>⟨by
  have q:g.cat x=.TB a k:=q;rcases w x with e|⟨_,e⟩
  .exact e.trans q
  .rw[q]at e;simp at e,rfl⟩
 have CY:(g.re aI).rv r=s:=vr;have qT:(k,.ref r)∈(g.re aI).ah i:=hm;rw[show g.ah j=(g.re aI).ah j from rfl];generalize g.re aI=g1 at C1 U pX sF yh CY qT;have st:=C1.I.bk.st;have rj:=(st.rep j).jf (by rw[C1.cj];trivial);have er:=(st.rep r).ref (by rw[pX];trivial);have CZ:=st.link r;unfold dy at CZ;rw[pX]at CZ;rw[CZ.2,CY]at er;have nd:((g1.ah i).map (·.1)).Nodup:=by have en:=(st.link i).ent (by rw[C1.ci]);rw[en.keys,C1.di];exact C1.ok.nd
 have len:(g1.ah j).length<=900:=by have e1:=congrArg List.length ((st.link j).ent (by rw[C1.cj])).keys;have:=mU C1.ok;rw[C1.dj]at e1;simp at e1;omega
 have uR:∀x,g1.cat x=.R a k->x=r:=by intro x hx;have:=zL nd (U.uR x k hx) qT;injection this
 have n0:g1.cat ms.length=.no:=st.fresh _ (le_refl _);have ne:∀x,g1.cat x≠.no->x≠ms.length:=by rintro x h rfl;exact h n0
 refine bT (Ow st C1.cj U.uT yh lt) λfP gq=>?_;have I2:=C1.I.mv a fP gq λc e=>e;have qX:ms.length∉dp d:=by
  intro m;refine az (mem_filterMap.mp m) λe me h=>?_;have en:=(st.link i).ent (by rw[C1.ci]);rw[C1.ci,C1.di]at en;refine aY en.zip λzs _ z2 z3=>?_;rw[z2]at me;refine az (mem_map.mp me) λz mz bL=>?_;clear me;subst bL;have s:=z3 z mz;clear mz;obtain⟨k',v',t'⟩:=z;cases t' with
  |cell x=>cases h;refine az s λr' _ q=>?_;have:=st.cb r' ms.length (by rw[q];rfl);omega
  |none=>cases h
  |int _=>cases h
  |arr _=>cases h
 have rl:=fT er;have gr:i≠j:=by exact dU C1.ci C1.cj nofun
 have kO:∀x,g1.cat x≠.no->g1.cat x≠.TB a k->(g1.pT a j ms.length ms.length k u t).cat x=g1.cat x:=by intro x h1 h2;simp[Gh.pT,ne x h1,h2]
 have kB:∀x,(g1.pT a j ms.length ms.length k u t).cat x=g1.cat x\/(g1.pT a j ms.length ms.length k u t).cat x=.tl ms.length\/(g1.pT a j ms.length ms.length k u t).cat x=.TC ms.length:=by
  intro x;simp only[Gh.pT];split
  .exact .inr (.inl rfl)
  .split
   .exact .inr (.inr rfl)
   .exact .inl rfl
 have c4:(g1.pT a j ms.length ms.length k u t).cat ms.length=.tl ms.length:=by exact if_pos rfl
 have l4:(g1.pT a j ms.length ms.length k u t).ah i=g1.ah i:=by exact if_neg gr
 have v4:(g1.pT a j ms.length ms.length k u t).rv r=s:=by
  have:r≠ms.length:=by omega
  exact(if_neg this).trans CY
 have s4:(g1.pT a j ms.length ms.length k u t).cs ms.length=t:=by exact if_pos rfl
 have d4:∀x,x≠j->(g1.pT a j ms.length ms.length k u t).den x=g1.den x:=λx h=>by exact if_neg h
 have d5:(g1.pT a j ms.length ms.length k u t).den j=ds d k (.cell ms.length):=by simp[Gh.pT,C1.dj]
 have I0:VR (g1.pT a j ms.length ms.length k u t) (VK (.R a k)) s t:=sF.map λx q=>by
  have xj:x≠j:=by intro er;rw[er,C1.cj]at q;simp[VK]at q
  refine⟨?_,d4 x xj⟩;rcases q with q|q
  .rw[kO x (by rw[q];exact λz4=>ak.noConfusion z4) (by rw[q];exact λz4=>ak.noConfusion z4)];exact .inl q
  .rw[kO x (by rw[q];exact λz4=>ak.noConfusion z4) (by rw[q];exact λz4=>ak.noConfusion z4)];exact .inr q
 have i4:=kO i (by rw[C1.ci];exact λz4=>ak.noConfusion z4) (by rw[C1.ci];exact λz4=>ak.noConfusion z4);have j4:=kO j (by rw[C1.cj];exact λz4=>ak.noConfusion z4) (by rw[C1.cj];exact λz4=>ak.noConfusion z4);have r4:=kO r (by rw[pX];exact λz4=>ak.noConfusion z4) (by rw[pX];exact λz4=>ak.noConfusion z4);have I6:∀x,(g1.pT a j ms.length ms.length k u t).cat x=.A a->x=i:=by
  intro x e;rcases kB x with h|h|h
  .exact U.uA x (h▸e)
  .rw[h]at e;exact ak.noConfusion e
  .rw[h]at e;exact ak.noConfusion e
 have I7:∀x,(g1.pT a j ms.length ms.length k u t).cat x=.R a k->x=r:=by
  intro x e;rcases kB x with h|h|h
  .exact uR x (h▸e)
  .rw[h]at e;exact ak.noConfusion e
  .rw[h]at e;exact ak.noConfusion e
 have I8:∀x,(g1.pT a j ms.length ms.length k u t).cat x≠.rc ms.length:=by
  intro x e;rcases kB x with h|h|h
  .rw[h]at e;have:=st.cb x ms.length (by rw[e];rfl);omega
  .rw[h]at e;exact ak.noConfusion e
  .rw[h]at e;exact ak.noConfusion e
 generalize g1.pT a j ms.length ms.length k u t=g4 at fP gq I2 c4 l4 v4 s4 d4 d5 I0 i4 j4 r4 I6 I7 I8;obtain⟨Vn,Vo⟩:=Ox fP (i4.trans C1.ci) I6 (r4.trans pX) I7 v4 (l4▸qT) (l4▸nd) I0 lt s4 I8 B5;have I5:=I2.mv a Vn Vo λc e=>e;have Vp:i≠r:=by exact dU C1.ci pX nofun
 have pV:j≠r:=by exact dU C1.cj pX nofun
 have nZ:ms.length≠r:=by omega
 have i5:(g4.pA a i r ms.length k s).cat i=.A a:=by simp[Gh.pA,Vp,i4,C1.ci]
 have j5:(g4.pA a i r ms.length k s).cat j=.TA a:=by simp[Gh.pA,pV,j4,C1.cj]
 refine GI _ (I5.fix (λb nb=>⟨⟨nb,nb⟩,nb⟩) C.ei C.ej ⟨.arr (ds d k (.cell ms.length)),⟨i,rfl,.inr i5,?_⟩,⟨j,rfl,j5,?_⟩,C.ok.Vj hk trivial qX⟩) ⟨ms.length,by exact if_pos rfl,by simp[Gh.pA,nZ,c4]⟩ er rj len
 .simp[Gh.pA,d4 i gr,C1.di]
 .exact(if_neg (λz2=>gr z2.symm)).trans d5
end
section
theorem M0{es:List (DK×V)}{k:DK}{u:V}(yB:(es.map (·.1)).Nodup):((ds es k u).map (·.1)).Nodup:=by
 unfold ds;split
 .rw[map_map];have:((λx:DK×V=>x.1)∘λe:DK×V=>if e.1=k then(k,u)else e)=λx=>x.1:=by funext x;by_cases q:x.1=k<;>simp[q]
  rw[this];exact yB
 .rename_i h;rw[List.map_append,List.nodup_append];refine⟨yB,by simp,?_⟩;intro x m y m2;simp at m2;subst m2;rintro rfl;refine az (mem_map.mp m) λe me bL=>?_;clear m;subst bL;exact h (List.any_eq_true.mpr ⟨e,me,by simp⟩)
theorem R9{m:Hp}{i j:Nat}{a b:MO}(h:m[i]?=some a)(q:m[j]?=some b)(n:a≠b):i≠j:=λe=>n (Option.some.inj (h.symm.trans (e▸q)))
theorem M1{a:Nat}{rs:List (Nat×Nat)}{i j:Nat}{k:DK}(C:fR K a g ms hs ts rs mk i j d)(hk:de k)(b:Bool)(hr:rs.length<=900):
 ∃g' ms' i7,rp [.ref K.b,.ref i,.ref j,k.val,.bool b] ms=some (.none,ms')/\bV K (λ_=>True) g' ms' hs ts i7 mk/\i7.length<=rs.length+1:=by
 have st:=C.I.bk.st;have ai:ft (g.cat i):=by rw[C.ci];trivial
 have dj:du (g.cat j):=by rw[C.cj];trivial
 refine fI ((st.rep i).arr ai) λar fX jh hl gL=>?_;have rj:=(st.rep j).jf dj;have sl:ar.slot k=((g.ah i).lookup k).getD .none:=by delta Ar.slot;rw[hl]
 have pre:=LZ C k;rw[<-sl]at pre;generalize Vq:((g.ah j).lookup k).getD .none=u at pre;delta rp y5;rw[cV (by rfl)];have f1:ax ["book","arr","tree","key","is_held"] ([.ref K.b,.ref i,.ref j,k.val,.bool b]++[]) "book"=some (.ref K.b):=rfl;have f2:ax ["book","arr","tree","key","is_held"] ([.ref K.b,.ref i,.ref j,k.val,.bool b]++[]) "arr"=some (.ref i):=rfl;have f3:ax ["book","arr","tree","key","is_held"] ([.ref K.b,.ref i,.ref j,k.val,.bool b]++[]) "tree"=some (.ref j):=rfl;have f4:ax ["book","arr","tree","key","is_held"] ([.ref K.b,.ref i,.ref j,k.val,.bool b]++[]) "key"=some k.val:=rfl;have f5:ax ["book","arr","tree","key","is_held"] ([.ref K.b,.ref i,.ref j,k.val,.bool b]++[]) "is_held"=some (.bool b):=rfl;generalize ax ["book","arr","tree","key","is_held"] ([.ref K.b,.ref i,.ref j,k.val,.bool b]++[])=L0 at f1 f2 f3 f4 f5;have gd:=wo (m:=nm "tree") (x:="key") (l:=L0) (ms:=ms) (by simp_arith! [f3]) rj f4;rw[Vq]at gd;rw[aZ (wd (x:="entry") gd)];have f1:(L0.set "entry" u) "book"=some (.ref K.b):=f1;have f2:(L0.set "entry" u) "arr"=some (.ref i):=f2;have f3:(L0.set "entry" u) "tree"=some (.ref j):=f3;have f4:(L0.set "entry" u) "key"=some k.val:=f4;have f5:(L0.set "entry" u) "is_held"=some (.bool b):=f5;have f6:(L0.set "entry" u) "entry"=some u:=rfl;generalize L0.set "entry" u=L at f1 f2 f3 f4 f5 f6;have eS:bw .arr "slot" (gz) (nm "arr") (aa (nm "key") (af)) L ms=some (ar.slot k,ms):=by exact Gq (bo f2) fX eB (dN (bo f4) fM) (tf fX jh hk)
 have stop:∀c:MB,c L ms=some (true,ms)->∀rest,ag (aG c (ag (aW (ae .none)) (ao)) (ao)) rest L ms=some (.ret .none,L,ms):=by intro c hc rest;have:aG c (ag (aW (ae .none)) (ao)) (ao) L ms=some (.ret .none,L,ms):=(iU hc).trans (oh (rD (v:=.none) rfl));exact oh this
 have cS:∀b:Bool,cg (ar.slot k) ms (.c .ref)=some b->aw (aO (bw .arr "slot" (gz) (nm "arr") (aa (nm "key") (af))) (.c .ref)) L ms=some (b,ms):=by intro b hb;revert eS;generalize bw .arr "slot" (gz) (nm "arr") (aa (nm "key") (af))=A;intro eS;simp_arith! [eS,hb]
 rcases pre with hr|hr
 .refine az hr λr e1 e2=>?_;have e3:cg (ar.slot k) ms (.c .ref)=some true:=by rw[e1,dE (kN st e2) (by simp)];rfl
  have c:=cS true e3;rw[stop _ (by revert c;generalize aw (aO (bw .arr "slot" (gz) (nm "arr") (aa (nm "key") (af))) (.c .ref))=A;intro c;simp_arith! [c])];exact qk g ms rs rfl C.all (by omega)
 .obtain⟨t,vs,vu,l2⟩:=hr;have e3:cg (ar.slot k) ms (.c .ref)=some false:=by rw[dE (vs.f9 st λc q=>kM (c:=.A a) trivial q) kL];clear l2 vs vu;cases t<;>rfl
  have c1:=cS false e3;have I9:VR g du u t:=vu.map λx q=>⟨lG (c:=.TA a) trivial q,rfl⟩;refine aY (wV (n:=7) st C.I.bk.lf I9 l2) λD q1 q2 _=>?_;refine az (Ol (n:=8) st I9 l2) λbb q3 q4=>?_;have c2:aB .Gt (aq (iP 10) (aa (nm "entry") (af))) (ae (.int 1)) L ms=some (decide (1<D),ms):=pj (gY (dN (bo f6) fM) q1) ia d3;have c3:aw (aq (jX 10) (aa (nm "entry") (af))) L ms=some (bb,ms):=kz (gY (dN (bo f6) fM) q3);have c:bC (aw (aO (bw .arr "slot" (gz) (nm "arr") (aa (nm "key") (af))) (.c .ref))) (bC (aB .Gt (aq (iP 10) (aa (nm "entry") (af))) (ae (.int 1))) (bC (aw (aq (jX 10) (aa (nm "entry") (af)))) (cy))) L ms=some (decide (1<D)||bb,ms):=by
   revert c1 c2 c3;generalize aw (aO (bw .arr "slot" (gz) (nm "arr") (aa (nm "key") (af))) (.c .ref))=A1;generalize aB .Gt (aq (iP 10) (aa (nm "entry") (af))) (ae (.int 1))=A2;generalize aw (aq (jX 10) (aa (nm "entry") (af)))=A3;intro c1 c2 c3;by_cases hD:1<D
   .simp_arith! [c1,c2,hD]
   .clear q3 q4;cases bb<;>simp_arith! [c1,c2,c3,hD]
  by_cases hb:(decide (1<D)||bb)=true
  .rw[hb]at c;rw[stop _ c];exact qk g ms rs rfl C.all (by omega)
  .have hb:(decide (1<D)||bb)=false:=by simpa using hb
   rw[hb]at c;have lt:=q4 (by simp at hb;exact hb.2);rw[aZ ((fG c).trans bZ)];refine Sl (Oy C hk vs vu lt) λa' g1 p1 p2 len C1 w1 w2 w3 w4 w5 w6=>?_;have hR:=LN (ms:=ms) (v:=ar.slot k);have hH:=zy (ms:=ms++[bt (ar.slot k) 0]) (r:=ms.length) (v:=ar.slot k) (h:=0) (getElem?_concat_length);rw[E0]at hH;have hH:km [.ref ms.length] (ms++[bt (ar.slot k) 0])=some (.ref ms.length,ms++[bt (ar.slot k) 1]):=hH;have s2:aq (km) (aa (g7 .ref rG (aa (bw .arr "slot" (gz) (nm "arr") (aa (nm "key") (af))) (af))) (af)) L ms=some (.ref ms.length,ms++[bt (ar.slot k) 1]):=by revert eS;generalize bw .arr "slot" (gz) (nm "arr") (aa (nm "key") (af))=A;intro eS;simp_arith! [eS,hR,hH]
   rw[aZ (wd (x:="ref") s2)];have f1:(L.set "ref" (.ref ms.length)) "book"=some (.ref K.b):=f1;have f2:(L.set "ref" (.ref ms.length)) "arr"=some (.ref i):=f2;have f3:(L.set "ref" (.ref ms.length)) "tree"=some (.ref j):=f3;have f4:(L.set "ref" (.ref ms.length)) "key"=some k.val:=f4;have f5:(L.set "ref" (.ref ms.length)) "is_held"=some (.bool b):=f5;have f6:(L.set "ref" (.ref ms.length)) "entry"=some u:=f6;have f7:(L.set "ref" (.ref ms.length)) "ref"=some (.ref ms.length):=rfl;generalize L.set "ref" (.ref ms.length)=L1 at f1 f2 f3 f4 f5 f6 f7;have To:(ms++[bt (ar.slot k) 1])[i]?=some ar.mo:=by rw[getElem?_append_left (fT fX)];exact fX
   have s3:bw .arr "put" (jN) (nm "arr") (aa (nm "key") (aa (nm "ref") (af))) L1 (ms++[bt (ar.slot k) 1])=some (.none,(ms++[bt (ar.slot k) 1]).set i a'.mo):=by exact Gq (bo f2) To ee (dN (bo f4) (dN (bo f7) fM)) p1
   rw[aZ (i9 s3)];have s4:gE (nm "tree") (nm "key") (nm "entry") L1 ((ms++[bt (ar.slot k) 1]).set i a'.mo)=some (.next,L1,((ms++[bt (ar.slot k) 1]).set i a'.mo).set j (.dict (ds (g.ah j) k u))):=by exact Gs (bo f6) (bo f3) (bo f4) (by simp[k9,p2,lE,len,zS])
   rw[aZ s4];cases b with
   |false=>
    have c:aw (nm "is_held") L1 (((ms++[bt (ar.slot k) 1]).set i a'.mo).set j (.dict (ds (g.ah j) k u)))=some (false,((ms++[bt (ar.slot k) 1]).set i a'.mo).set j (.dict (ds (g.ah j) k u))):=by simp_arith! [f5]
    rw[aZ ((fG c).trans bZ),bZ];exact qk g1 _ rs rfl C1.all (by omega)
   |true=>
    generalize ((ms++[bt (ar.slot k) 1]).set i a'.mo).set j (.dict (ds (g.ah j) k u))=m3 at C1;have c:aw (nm "is_held") L1 m3=some (true,m3):=by simp_arith! [f5]
    refine Hx (Oz C1 hk lt w1 w2 w3 w4 w5) λg5 I5 vj y1 y2 y3=>?_;obtain⟨x,x1,x2⟩:=vj;have qR:=fT y2;have sL:=fT y1;have pV:j≠ms.length:=R9 y2 y1 (λh=>MO.noConfusion h);have z1:(m3++[MO.list [u]])[j]?=some (.dict (g1.ah j)):=by rw[getElem?_append_left qR];exact y2
    have s5:gE (nm "tree") (nm "key") (kh (bI (aa (nm "entry") (af)))) L1 m3=some (.next,L1,(m3++[MO.list [u]]).set j (.dict (ds (g1.ah j) k (.ref m3.length)))):=by exact Gs (N6 (wK (dN (bo f6) fM) rfl)) (bo f3) (bo f4) (by simp[k9,z1,lE,y3,zS])
    have z2:((m3++[MO.list [u]]).set j (.dict (ds (g1.ah j) k (.ref m3.length))))[ms.length]?=some (bt (ar.slot k) 1):=by rw[getElem?_set_ne pV,getElem?_append_left sL];exact y1
    have z3:((m3++[MO.list [u]]).set j (.dict (ds (g1.ah j) k (.ref m3.length))))[j]?=some (.dict (ds (g1.ah j) k (.ref m3.length))):=by rw[getElem?_set_self (by simp;omega)]
    have nd:((ds (g1.ah j) k (.ref m3.length)).map (·.1)).Nodup:=by
     have en:=(C1.I.bk.st.link j).ent (by rw[C1.cj]);have yB:((g1.ah j).map (·.1)).Nodup:=by rw[en.keys,C1.dj];exact C1.ok.nd
     exact M0 yB
    have z4:(ds (g1.ah j) k (.ref m3.length)).lookup k=some (.ref m3.length):=ru nd xm;have yC:=zy z2;have yC:km [.ref ms.length] ((m3++[MO.list [u]]).set j (.dict (ds (g1.ah j) k (.ref m3.length))))=some (.ref ms.length,((m3++[MO.list [u]]).set j (.dict (ds (g1.ah j) k (.ref m3.length)))).set ms.length (bt (ar.slot k) 2)):=yC;have z5:(((m3++[MO.list [u]]).set j (.dict (ds (g1.ah j) k (.ref m3.length)))).set ms.length (bt (ar.slot k) 2))[j]?=some (.dict (ds (g1.ah j) k (.ref m3.length))):=by rw[getElem?_set_ne (λe=>pV e.symm)];exact z3
    generalize W9:(m3++[MO.list [u]]).set j (.dict (ds (g1.ah j) k (.ref m3.length)))=m4 at s5 z2 z3 yC z5 I5;have kR:m4[K.r]?=some (.list (rs.map λp=>.tup [.ref p.1,.ref p.2])):=by
     have:=I5.bk.r
     rwa [getElem?_set_ne]at this
     intro e;rw[<-e]at this;rw[getElem?_set_self (fT z2)]at this;cases this
    have kb:m4[K.b]?=some (.dict [(.str "held",.ref K.h),(.str "trees",.ref K.t),(.str "refs",.ref K.r),(.str "marked",.ref K.m),(.str "right",.bool true)]):=by
     have:=I5.bk.b
     rwa [getElem?_set_ne]at this
     intro e;rw[<-e]at this;rw[getElem?_set_self (fT z2)]at this;cases this
    have eR:au (nm "book") (ae (.str "refs")) L1 m4=some (.ref K.r,m4):=by simp[au,ay,nm,f1,ae,gm,kb,jO,iA,List.lookup]<;>rfl
    have eT:au (nm "tree") (nm "key") L1 (m4.set ms.length (bt (ar.slot k) 2))=some (.ref m3.length,m4.set ms.length (bt (ar.slot k) 2)):=by exact Hc (bo f3) (bo f4) (by simp[gm,z5,lE,iA,z4])
    have eP:aU (aa (aq (km) (aa (nm "ref") (af))) (aa (au (nm "tree") (nm "key")) (af))) L1 m4=some (.tup [.ref ms.length,.ref m3.length],m4.set ms.length (bt (ar.slot k) 2)):=by exact ug (dN (gY (dN (bo f7) fM) yC) (dN eT fM)) rfl
    have Vr:=I5.bk.r;have s6:kx (au (nm "book") (ae (.str "refs"))) (aU (aa (aq (km) (aa (nm "ref") (af))) (aa (au (nm "tree") (nm "key")) (af)))) L1 m4=some (.none,(m4.set ms.length (bt (ar.slot k) 2)).set K.r (.list (rs.map (λp=>.tup [.ref p.1,.ref p.2])++[.tup [.ref ms.length,.ref m3.length]]))):=by
     have:(rs.map λp=>V.tup [.ref p.1,.ref p.2]).length<=900:=by simpa using hr
     simp only[kx,eR,kR,eP,Vr,this,if_true]
    rw[aZ ((iU c).trans ((aZ s5).trans ((aZ (i9 s6)).trans bZ))),bZ];exact qk g5 _ (rs++[(ms.length,m3.length)]) rfl ⟨I5.bk.Ti x1 x2,I5.H⟩ (by simp)
end
section
theorem L4{α:Type}{s:List (DK×α)}{k:DK}(h:k∉s.map (·.1)):dd s k=s:=by unfold dd;rw[List.filter_eq_self];intro e me;simp only[ne_eq,decide_eq_true_eq];intro q;exact h (mem_map.mpr ⟨e,me,q⟩)
theorem E2:∀{es:List (DK×T)},(dp (dd es k)).Sublist (dp es)
 |[]=>.slnil
 |(k',t)::es=>by
  have ih:=E2 (k:=k) (es:=es);unfold dp dd at ih⊢;by_cases q:k'=k
  .simp only[List.filter_cons,q,ne_eq,not_true_eq_false,decide_false,filterMap_cons];cases t<;>simp only<;>first|exact ih|exact .cons _ ih
  .simp only[List.filter_cons,q,ne_eq,not_false_eq_true,decide_true,if_true,filterMap_cons];cases t<;>simp only<;>first|exact ih|exact .cons_cons _ ih
theorem dR.dd{P:T->Prop}(h:dR P es):dR P (Mine.Internal.dd es k):=by refine⟨λe m=>h.ok e (List.mem_filter.mp m).1,?_,h.cn.sublist E2⟩;exact h.nd.sublist (List.Sublist.map _ List.filter_sublist)
def vN:MS:=(ag (aR (bw .arr "drop" (rH) (nm "arr") (aa (nm "key") (af)))) (ag (aR (pg (nm "tree") (nm "key"))) (ao)))
theorem OA{a:Nat}{i j:Nat}{l:av}(C:fR K a g ms hs ts rs mk i j d)(hk:de k)(l1:l "arr"=some (.ref i))(l2:l "tree"=some (.ref j))(l3:l "key"=some k.val):
 ∃g' ms',vN l ms=some (.next,l,ms')/\bV K (λ_=>True) g' ms' hs ts rs mk:=by
 have st:=C.I.bk.st;have ai:ft (g.cat i):=by rw[C.ci];trivial
 have dj:du (g.cat j):=by rw[C.cj];trivial
 refine fI ((st.rep i).arr ai) λar fX jh hl gL=>?_;have gL:ar.sh=false:=by rw[gL,C.ci];rfl
 have rj:=(st.rep j).jf dj;have gr:i≠j:=by intro er;rw[er,C.cj]at ai;exact ai
 have jW:=(st.link i).ent (pS ai);have kH:=(st.link j).ent (nW dj);rw[C.ci,C.di]at jW;rw[C.cj,C.dj]at kH;refine iz (LJ fX jh hk) λa' w p1 p2 p3 p4=>?_;have p3:a'.ah=dd (g.ah i) k:=by rw[p3,hl];rfl
 have kl:bg ms (ms.set i a'.mo):=bg.set fX;have fD:St (g.upd i (dd (g.ah i) k) (dd d k)) (ms.set i a'.mo):=by refine st.put (by rw[C.ci];exact vo) (by rw[C.ci]) ?_ kl length_set (λx hx=>getElem?_set_ne (λe=>hx e.symm)) (bQ.put C.ci (by rw[getElem?_set_self (fT fX)]) p2 p3 (p4.trans gL));rw[C.ci];exact jW.del
 have gJ:Mv (FF a) g (g.upd i (dd (g.ah i) k) (dd d k)) ms (ms.set i a'.mo):=Mv.put kl length_set (λx hx=>getElem?_set_ne (λe=>hx e.symm)) (by rw[C.ci];exact λz4=>ak.noConfusion z4) (by rw[C.ci];exact λz4=>ak.noConfusion z4) (by rw[C.ci];first|exact rfl|exact trivial|exact Or.inl rfl);have e2:(ms.set i a'.mo)[j]?=some (.dict (g.ah j)):=by rw[getElem?_set_ne gr];exact rj
 have g9:(g.upd i (dd (g.ah i) k) (dd d k)).cat j=.TA a:=C.cj;have Ja:(g.upd i (dd (g.ah i) k) (dd d k)).den j=d:=by simp[Gh.upd,gr.symm,C.dj]
 have Jb:(g.upd i (dd (g.ah i) k) (dd d k)).ah j=g.ah j:=by exact if_neg (λz2=>gr z2.symm)
 have f2:(g.upd i (dd (g.ah i) k) (dd d k)).den i=dd d k:=by exact if_pos rfl
 have Jc:(g.upd i (dd (g.ah i) k) (dd d k)).cat i=.A a:=C.ci;generalize g.upd i (dd (g.ah i) k) (dd d k)=g2 at fD gJ g9 Ja Jb f2 Jc;have rb:=(fD.link j).ent (by rw[g9]);rw[g9,Jb,Ja]at rb;have kf:bg (ms.set i a'.mo) ((ms.set i a'.mo).set j (.dict (dd (g.ah j) k))):=bg.dict e2;have fP:St (g2.upd j (dd (g.ah j) k) (dd d k)) ((ms.set i a'.mo).set j (.dict (dd (g.ah j) k))):=by refine fD.put (by rw[g9];exact qD) (by rw[g9]) (by rw[g9];exact rb.del) kf length_set (λx hx=>getElem?_set_ne (λe=>hx e.symm)) ?_;unfold bQ;rw[show(g2.upd j (dd (g.ah j) k) (dd d k)).cat j=g2.cat j from rfl,g9];simp only[Gh.upd,if_true];rw[getElem?_set_self (fT e2)]
 have gq:Mv (FF a) g2 (g2.upd j (dd (g.ah j) k) (dd d k)) (ms.set i a'.mo) ((ms.set i a'.mo).set j (.dict (dd (g.ah j) k))):=Mv.put kf length_set (λx hx=>getElem?_set_ne (λe=>hx e.symm)) (by rw[g9];exact λz4=>ak.noConfusion z4) (by rw[g9];exact λz4=>ak.noConfusion z4) (by rw[g9];(first|exact rfl|exact Or.inl rfl|exact trivial));have I3:=C.I.mv a fP (gJ.trans FF.zm gq) λc e=>e;refine gZ _ _ ?_ (I3.fix (λb nb=>⟨nb,nb⟩) C.ei C.ej ⟨.arr (dd d k),⟨i,rfl,.inr Jc,?_⟩,⟨j,rfl,g9,?_⟩,C.ok.dd⟩)
 .have s1:bw .arr "drop" (rH) (nm "arr") (aa (nm "key") (af)) l ms=some (w,ms.set i a'.mo):=by simp[bw,aa,af,ay,nm,l1,l3,fX,Ar.mo,eC];exact p1
  have s2:∃z,pg (nm "tree") (nm "key") l (ms.set i a'.mo)=some (z,(ms.set i a'.mo).set j (.dict (dd (g.ah j) k))):=by
   cases q:(g.ah j).lookup k with
   |some z=>refine kP z ?_;simp[pg,nm,l2,l3,e2,lE,iA,q,Od]
   |none=>
    refine kP .none ?_;have hn:k∉(g.ah j).map (·.1):=by intro m;refine az (mem_map.mp m) λe me bL=>?_;clear I3 f2 hk kf l3 m gq p1 p3 fP;clear p3;subst bL;have:=List.lookup_eq_none_iff.mp q e me;simp at this
    rw[L4 hn,jJ e2];simp[pg,nm,l2,l3,e2,lE,iA,q]
  refine cW s2 λz s2=>?_;unfold vN;rw[aZ (i9 s1),aZ (i9 s2),bZ]
 .exact(if_neg gr).trans f2
 .exact if_pos rfl
theorem E3{P:Nat->Prop}{r li x:Nat}(I:bV K P g ms hs ts rs mk)(cr:g.cat r=.rc x)(cl:g.cat li=.tl x)(hv:VR g (VK (.rc x)) v t)(hu:VR g (VK (.tl x)) u t)(lt:LF t):
 ∃g' w1 w2 h,bV K P g' ((ms.set r (bt v h)).set li (.list [u])) hs ts rs mk/\ms[r]?=some (bt w1 h)/\(ms.set r (bt v h))[li]?=some (.list [w2]):=by
 have st:=I.bk.st;have er:=(st.rep r).ref (by rw[cr];trivial);have el:=(st.rep li).tl cl;have nZ:r≠li:=by exact dU cr cl nofun
 have e2:(ms.set r (bt v (g.ho r)))[li]?=some (.list [g.rv li]):=by rw[getElem?_set_ne nZ];exact el
 have kl:bg ms ((ms.set r (bt v (g.ho r))).set li (.list [u])):=(bg.set er).trans (bg.list e2);have hp:∀y,y≠r->y≠li->((ms.set r (bt v (g.ho r))).set li (.list [u]))[y]?=ms[y]?:=λy n1 n2=>by rw[getElem?_set_ne (λe=>n2 e.symm),getElem?_set_ne (λe=>n1 e.symm)]
 have gb:St (g.cw x r li v u t) ((ms.set r (bt v (g.ho r))).set li (.list [u])):=st.um cr cl hv hu kl (by simp) hp (by rw[getElem?_set_ne nZ.symm];exact getElem?_set_self (fT er)) (getElem?_set_self (fT e2));have mv:Mv (λ_=>False) g (g.cw x r li v u t) ms ((ms.set r (bt v (g.ho r))).set li (.list [u])):=Mv.um cr cl kl (by simp) hp lt;exact Qf _ (g.rv r) (g.rv li) (g.ho r) (I.jg gb mv) er e2
def B3:MS:=(ag (aG (aB .Eq (aE .Mod (nm "number") (ae (.int 3))) (ae (.int 0))) (ag (dY 2 (aU (aa (g7 .arr jk (af)) (aa (jj) (af)))) (bM (mM "value" (nm "ref")) (bM (iD (nm "cell") (ae (.int 0))) (fo)))) (ao)) (ag (dY 2 (aU (aa (nm "number") (aa (nm "number") (af)))) (bM (mM "value" (nm "ref")) (bM (iD (nm "cell") (ae (.int 0))) (fo)))) (ao))) (ao))
theorem GF{r li:Nat}{h:Int}(l1:l "ref"=some (.ref r))(l2:l "cell"=some (.ref li))(e1:ms[r]?=some (bt w1 h))(e2:(ms.set r (bt v h))[li]?=some (.list [w2])):(bM (mM "value" (nm "ref")) (bM (iD (nm "cell") (ae (.int 0))) (fo))) [v,u] l ms=some (l,(ms.set r (bt v h)).set li (.list [u])):=by
 have t1:mM "value" (nm "ref") v l ms=some (l,ms.set r (bt v h)):=by unfold bt at e1;simp[mM,nm,l1,e1,fj,bt]
 have t2:iD (nm "cell") (ae (.int 0)) u l (ms.set r (bt v h))=some (l,(ms.set r (bt v h)).set li (.list [u])):=by simp[iD,nm,l2,ae,k9,e2]
 simp only[bM,t1,t2,fo]
theorem qn{r li x:Nat}{n:Int}(I:bV K (λ_=>True) g ms hs ts rs mk)(cr:g.cat r=.rc x)(cl:g.cat li=.tl x)(l1:l "ref"=some (.ref r))(l2:l "cell"=some (.ref li))(l3:l "number"=some (.int n)):
 ∃g' ms',B3 l ms=some (.next,l,ms')/\bV K (λ_=>True) g' ms' hs ts rs mk:=by
 unfold B3;by_cases q:n.fmod 3=0
 .have c:aB .Eq (aE .Mod (nm "number") (ae (.int 3))) (ae (.int 0)) l ms=some (true,ms):=by simp_arith[aB,aE,ae,ay,nm,l3,cB,dK,q]
  have st:=I.bk.st;have hx:x<ms.length:=st.cb r x (by rw[cr];rfl);have n0:g.cat ms.length=.no:=st.fresh _ (le_refl _);have n1:g.cat (ms.length+1)=.no:=st.fresh _ (by omega);have vI:St g (ms++[dX.mo]++[.dict []]):=st.grow.grow;have jg:Mv (λ_=>False) g g ms (ms++[dX.mo]++[.dict []]):=Mv.grow (Mv.grow Mv.refl);have gX:ms.length+2=(ms++[dX.mo]++[MO.dict []]).length:=by simp
  have fD:St (g.add ms.length (.C x) [] [] .none .none 0) (ms++[dX.mo]++[.dict []]):=vI.IS n0 rfl rfl (λy h=>gX▸Nat.lt_add_right 2 (Option.some.inj h▸hx)) Iq;have gJ:Mv (λ_=>False) g (g.add ms.length (.C x) [] [] .none .none 0) ms (ms++[dX.mo]++[.dict []]):=Mv.adopt id jg n0 (le_refl _);have n2:(g.add ms.length (.C x) [] [] .none .none 0).cat (ms.length+1)=.no:=by exact(if_neg (λz2=>Nat.succ_ne_self _ z2)).trans n1
  have fP:St ((g.add ms.length (.C x) [] [] .none .none 0).add (ms.length+1) (.TC x) [] [] .none .none 0) (ms++[dX.mo]++[.dict []]):=fD.IT n2 rfl rfl (λy h=>gX▸Nat.lt_add_right 2 (Option.some.inj h▸hx)) Ir;have gq:Mv (λ_=>False) g ((g.add ms.length (.C x) [] [] .none .none 0).add (ms.length+1) (.TC x) [] [] .none .none 0) ms (ms++[dX.mo]++[.dict []]):=Mv.adopt id gJ n2 (by omega);have I2:=I.jg fP gq;refine bT (gq.gi r (by rw[cr];exact λz4=>ak.noConfusion z4) (by rw[cr];exact λz4=>ak.noConfusion z4) id) λa1 _=>?_;refine bT (gq.gi li (by rw[cl];exact λz4=>ak.noConfusion z4) (by rw[cl];exact λz4=>ak.noConfusion z4) id) λa2 _=>?_;have nil:dR fW []:=⟨by simp,by simp,by simp[dp]⟩;refine Bj (E3 (v:=.ref ms.length) (u:=.ref (ms.length+1)) (t:=.arr []) I2 (a1.trans cr) (a2.trans cl) ⟨ms.length,rfl,by simp[Gh.add,VK],by simp[Gh.add]⟩ ⟨ms.length+1,rfl,by exact if_pos rfl,by exact if_pos rfl⟩ nil) λg' w1 w2 h I3 e1 e2=>?_;have s:dY 2 (aU (aa (g7 .arr jk (af)) (aa (jj) (af)))) (bM (mM "value" (nm "ref")) (bM (iD (nm "cell") (ae (.int 0))) (fo))) l ms=some (.next,l,(List.set (ms++[dX.mo]++[.dict []]) r (bt (.ref ms.length) h)).set li (.list [.ref (ms.length+1)])):=by
   have iq:aU (aa (g7 .arr jk (af)) (aa (jj) (af))) l ms=some (.tup [.ref ms.length,.ref (ms.length+1)],ms++[dX.mo]++[.dict []]):=by simp only[aU,aa,jj,Bg,ay];simp[af]
   have:=GF (u:=.ref (ms.length+1)) l1 l2 e1 e2;simp only[dY,iq,this];rfl
  exact gZ g' _ (by rw[aZ ((iU c).trans ((aZ s).trans bZ)),bZ]) I3
 .have c:aB .Eq (aE .Mod (nm "number") (ae (.int 3))) (ae (.int 0)) l ms=some (false,ms):=by simp_arith[aB,aE,ae,ay,nm,l3,cB,dK,q]
  refine Bj (E3 (v:=.int n) (u:=.int n) (t:=.int n) I cr cl rfl rfl trivial) λg' w1 w2 h I3 e1 e2=>?_;have s:dY 2 (aU (aa (nm "number") (aa (nm "number") (af)))) (bM (mM "value" (nm "ref")) (bM (iD (nm "cell") (ae (.int 0))) (fo))) l ms=some (.next,l,(List.set ms r (bt (.int n) h)).set li (.list [.int n])):=by
   have iq:aU (aa (nm "number") (aa (nm "number") (af))) l ms=some (.tup [.int n,.int n],ms):=by simp_arith[aU,aa,af,ay,nm,l3]
   have:=GF (u:=.int n) l1 l2 e1 e2;simp only[dY,iq,this];rfl
  exact gZ g' _ (by rw[aZ ((fG c).trans ((aZ s).trans bZ)),bZ]) I3
theorem JU(I:bV K (λ_=>True) g ms hs ts rs mk)(w n:Int):
 ∃g' ms',rm [.ref K.b,.int w,.int n] ms=some (.none,ms')/\bV K (λ_=>True) g' ms' hs ts rs mk:=by
 delta rm yH;rw[cV (by rfl)];have f1:ax ["book","which","number"] ([.ref K.b,.int w,.int n]++[]) "book"=some (.ref K.b):=rfl;have f2:ax ["book","which","number"] ([.ref K.b,.int w,.int n]++[]) "which"=some (.int w):=rfl;have f3:ax ["book","which","number"] ([.ref K.b,.int w,.int n]++[]) "number"=some (.int n):=rfl;generalize ax ["book","which","number"] ([.ref K.b,.int w,.int n]++[])=L at f1 f2 f3;have eR:=I.bk.gR f1;have xR:bc (au (nm "book") (ae (.str "refs"))) L ms=some (rs.map (λp=>.tup [.ref p.1,.ref p.2]),ms):=by simp_arith! [eR,I.bk.r]
 by_cases hz:rs=[]
 .have c:qc (bc (au (nm "book") (ae (.str "refs")))) L ms=some (false,ms):=by simp_arith! [xR,hz]
  rw[aZ ((fG c).trans bZ),bZ];exact gZ g ms rfl I
 .have c:qc (bc (au (nm "book") (ae (.str "refs")))) L ms=some (true,ms):=by simp_arith! [xR,hz]
  have WC:0<rs.length:=List.length_pos_iff.mpr hz;have Ht:(0:Int)<rs.length:=by omega
  have z1:=Int.fmod_nonneg_of_pos w Ht;have z2:=Int.fmod_lt_of_pos w Ht;obtain⟨m,hm⟩:∃m:Nat,w.fmod rs.length=m:=⟨_,(Int.toNat_of_nonneg z1).symm⟩;have oP:m<rs.length:=by omega
  refine az (I.bk.sI rs[m] (List.getElem_mem oP)) λx c1 c2=>?_;have e1:aE .Mod (nm "which") (bj (bc (au (nm "book") (ae (.str "refs"))))) L ms=some (.int m,ms):=by
   have:¬((rs.length:Int)=0):=by omega
   simp_arith[aE,bj,ay,nm,f2,xR,cB,this,hm,hz]
  have e2:au (au (nm "book") (ae (.str "refs"))) (aE .Mod (nm "which") (bj (bc (au (nm "book") (ae (.str "refs")))))) L ms=some (.tup [.ref rs[m].1,.ref rs[m].2],ms):=by revert e1 eR;generalize aE .Mod (nm "which") (bj (bc (au (nm "book") (ae (.str "refs")))))=A;generalize au (nm "book") (ae (.str "refs"))=B;intro e1 eR;simp_arith[au,ay,e1,eR,gm,I.bk.r,j8,oP]
  have s1:dY 2 (au (au (nm "book") (ae (.str "refs"))) (aE .Mod (nm "which") (bj (bc (au (nm "book") (ae (.str "refs"))))))) (bM (cP "ref") (bM (cP "cell") (fo))) L ms=some (.next,(L.set "ref" (.ref rs[m].1)).set "cell" (.ref rs[m].2),ms):=by simp_arith! [e2]
  refine fH (qn (l:=(L.set "ref" (.ref rs[m].1)).set "cell" (.ref rs[m].2)) (n:=n) I c1 c2 rfl rfl (f3)) λg' ms' q1 I'=>?_;unfold B3 at q1;rw[aZ ((iU c).trans ((aZ s1).trans q1)),bZ];exact gZ g' ms' rfl I'
end
section
theorem Sa{a:Nat}{i j:Nat}(k:DK)(C:fR K a g ms hs ts rs mk i j d)(U:Un a g i j)(hu:VR g (·=.TA 4) u t)(lt:L2 t):
 ∃aI:Nat->ak,fR K a (g.re aI) ms hs ts rs mk i j d/\Un a (g.re aI) i j/\VR (g.re aI) (AK (.TA a) k) u t/\∀x,g.cat x=.zm->aI x=.zm:=by
 cases t with
 |none=>exact⟨g.cat,C,U,hu,λ_ h=>h⟩
 |int _=>exact⟨g.cat,C,U,hu,λ_ h=>h⟩
 |cell _=>exact hu.elim
 |arr e=>
  refine aY hu λn bf cn dn=>?_;subst bf;have lt:dR L1 e:=lt;have st:=C.I.bk.st;have h4:=C.ha;have ni:i≠n:=by exact dU C.ci cn nofun
  have nj:j≠n:=by intro er;rw[<-er,C.cj]at cn;injection cn with cn;omega
  have rn:=(st.rep n).jf (by rw[cn];trivial);have cN:(g.re λx=>if x=n then .TB a k else g.cat x).cat n=.TB a k:=by exact if_pos rfl
  have cO:∀x,x≠n->(g.re λx=>if x=n then .TB a k else g.cat x).cat x=g.cat x:=λx h=>by exact if_neg h
  have gb:St (g.re λx=>if x=n then .TB a k else g.cat x) ms:=by
   refine st.mN (·=n) bg.refl (le_refl _) ?_ ?_ ?_
   .intro x;by_cases q:x=n
    .subst q;exact .inr (.inr ⟨by rw[cN];rfl,fT rn⟩)
    .exact .inl (cO x q)
   .intro x;by_cases q:x=n
    .exact .inl q
    .refine .inr (.inr ⟨cO x q,rfl,rfl,rfl,rfl,rfl,rfl,λ_ _=>rfl,?_⟩);intro i' kd;have:i'≠n:=by intro er;rw[er,cn]at kd;exact qD _ kd
     exact⟨cO i' this,rfl,rfl⟩
   .rintro x rfl;refine⟨?_,?_⟩
    .unfold bQ;rw[cN];exact rn
    .refine bX.link ?_ (by rw[cN]);rw[cN];have en:=(st.link x).ent (by rw[cn]);refine bX.L1 (c:=g.cat x) (c':=.TB a k) (by rw[cn];trivial) trivial (λy z h=>?_) en ?_
     .rewrite[cO y (dU h cn nofun)];exact h
     .show∀e∈g.den x,L1 e.2;rw[dn];exact λe me=>(lt.ok e me).2
  have mv:Mv (FF a) g (g.re λx=>if x=n then .TB a k else g.cat x) ms ms:=by
   refine⟨le_refl _,bg.refl,?_,?_,?_,λh=>h⟩
   .intro x _ e;exact⟨by rewrite[cO x (dU e cn nofun)];exact e,rfl⟩
   .intro x e;exact⟨.inr (by rewrite[cO x (dU e cn nofun)];exact e),rfl,rfl⟩
   .intro x _ _ e;exact⟨cO x (by intro er;rw[er,cn]at e;exact e (.inr rfl)),rfl,rfl⟩
  have I2:=C.I.mv a gb mv λc e=>e;refine gO _ ⟨I2.weak λb nb=>⟨nb,nb⟩,C.ha,C.ei,C.ej,(cO i ni).trans C.ci,(cO j nj).trans C.cj,C.di,C.dj,C.ok⟩ ⟨?_,?_,?_⟩ ⟨n,rfl,cN,dn⟩ ?_
  .intro x e;by_cases q:x=n
   .subst q;rw[cN]at e;exact ak.noConfusion e
   .exact U.uA x ((cO x q)▸e)
  .intro x k' e;by_cases q:x=n
   .subst q;rw[cN]at e;exact ak.noConfusion e
   .exact U.uR x k' ((cO x q)▸e)
  .intro x e;by_cases q:x=n
   .subst q;rw[cN]at e;exact ak.noConfusion e
   .exact U.uT x ((cO x q)▸e)
  .intro x e;have:x≠n:=by exact dU e cn nofun
   exact(if_neg this).trans e
theorem M3{a:Nat}{i j:Nat}(C:fR K a g ms hs ts rs mk i j d)(hk:de k)(l1:l "arr"=some (.ref i))(l2:l "key"=some k.val):
 ∃b,aw (aO (bw .arr "slot" (gz) (nm "arr") (aa (nm "key") (af))) (.c .ref)) l ms=some (b,ms)/\(b=false->∀x,d.lookup k≠some (.cell x)):=by
 have st:=C.I.bk.st;have ai:ft (g.cat i):=by rw[C.ci];trivial
 refine fI ((st.rep i).arr ai) λar fX jh hl gL=>?_;have sl:ar.slot k=((g.ah i).lookup k).getD .none:=by unfold Ar.slot;rw[hl]
 have eS:bw .arr "slot" (gz) (nm "arr") (aa (nm "key") (af)) l ms=some (ar.slot k,ms):=by simp_arith! [l1,l2,fX,tf fX jh hk]
 have cS:∀b:Bool,cg (ar.slot k) ms (.c .ref)=some b->aw (aO (bw .arr "slot" (gz) (nm "arr") (aa (nm "key") (af))) (.c .ref)) l ms=some (b,ms):=by intro b hb;revert eS;generalize bw .arr "slot" (gz) (nm "arr") (aa (nm "key") (af))=A;intro eS;simp_arith! [eS,hb]
 rcases qw st ai k with⟨q1,q2⟩|⟨v0,t0,q1,q2,q3,_,_⟩|⟨r,t0,q1,q2,q3,q4,q5,q6,_⟩|⟨r,x,q1,q2,q3,_,_⟩
 .rw[C.di]at q2;exact a0 false (cS _ (by rw[sl,q1];rfl)) (λ_ x=>by rw[q2];simp)
 .rw[C.di]at q2;refine a0 false (cS _ ?_) (λ_ x h=>by rw[q2]at h;clear h5 q2;cases h;exact q3.elim);rw[sl,q1];have:=dE (q3.f9 st λc q=>kM ai q) kL (.c .ref);rw[show((some v0).getD V.none)=v0 from rfl,this];clear q3 this;clear h5 q2;cases t0<;>rfl
 .refine a0 true (cS _ ?_) (λh=>by exact λz4=>λz3=>Bool.noConfusion h);rw[sl,q1];exact dE (kN st (rI q3)) (by simp) (.c .ref)
 .refine a0 true (cS _ ?_) (λh=>by exact λz4=>λz3=>Bool.noConfusion h);rw[sl,q1];exact dE (kN st (by rw[q3];trivial)) (by simp) (.c .ref)
theorem qy{s:Int}(h:l x=some (.int s))(n:Int):aB .Eq (nm x) (ae (.int n)) l ms=some (decide (s=n),ms):=by have:(s==n)=decide (s=n):=rfl;simp_arith[aB,ay,nm,h,ae,dK,this]
theorem qh(h:A l ms=some (false,ms')):aK A B l ms=some (false,ms'):=by simp_arith[aK,ay,h]
theorem lJ(h:A l ms=some (true,ms')):aK A B l ms=B l ms':=by simp_arith[aK,ay,h]
theorem wD{b:Bool}(h:A l ms=some (b,ms')):ba A l ms=some (!b,ms'):=by simp_arith[ba,ay,h]
def sM:MS:=(ag (aR (aq (ig) (aa (nm "arr") (aa (nm "tree") (aa (nm "key") (aa (nm "number") (aa (nm "number") (af)))))))) (ao))
def C0:MS:=(ag (aR (aq (ig) (aa (nm "arr") (aa (nm "tree") (aa (nm "key") (aa (nm "value") (aa (nm "own_value") (af)))))))) (ao))
def C6:MS:=(ag (aR (aq (ro) (aa (nm "book") (aa (nm "arr") (aa (nm "tree") (aa (nm "key") (aa (nm "inner") (aa (nm "number") (af))))))))) (ao))
def C7:MS:=(ag (aR (aq (rp) (aa (nm "book") (aa (nm "arr") (aa (nm "tree") (aa (nm "key") (aa (df .Eq (aE .Mod (aE .FloorDiv (nm "rest") (ae (.int 64))) (ae (.int 2))) (ae (.int 0))) (af)))))))) (ao))
def ot:MB:=aw (aO (bw .arr "slot" (gz) (nm "arr") (aa (nm "key") (af))) (.c .ref))
def qi:MB:=aB .Lt (aq (iP 10) (aa (nm "own_value") (af))) (ae (.int 2))
def yD:MS:=(ag (aR (aq (rm) (aa (nm "book") (aa (nm "at") (aa (nm "number") (af)))))) (ao))
def As:ME:=(aU (aa (aq (o4) (aa (au (au (nm "book") (ae (.str "held"))) (nm "other")) (af))) (aa (aq (ie 10) (aa (au (au (nm "book") (ae (.str "trees"))) (nm "other")) (af))) (af))))
def yE:MS:=(ag (aG (aK (aB .Eq (nm "sort") (ae (.int 6))) (aK (ba ot) (aS))) vN sM) (ao))
def vO:MS:=(ag (aG (aB .Eq (nm "sort") (ae (.int 5))) C7 yE) (ao))
def vP:MS:=(ag (aG (aB .Eq (nm "sort") (ae (.int 4))) C6 vO) (ao))
def ri:MS:=(ag (aG (aK (aB .Eq (nm "sort") (ae (.int 3))) (aK qi (aK (ba ot) (aS)))) C0 vP) (ao))
def vQ:MS:=(ag (dY 2 As (λvs=>(bM (cP "own_value") (bM (cP "value") (fo))) vs.reverse)) (ag (dY 2 (aq (qa) (aa (nm "book") (aa (nm "at") (af)))) (bM (cP "arr") (bM (cP "tree") (fo)))) ri))
def qj:MB:=(aw (aO (au (au (nm "book") (ae (.str "trees"))) (nm "other")) .dict))
def Bh:MS:=(ag (aG (aB .Eq (nm "sort") (ae (.int 0))) yv (ag (aG (aK (aB .Eq (nm "sort") (ae (.int 1))) (aK qj (aS))) yw (ag (aG (aB .Eq (nm "sort") (ae (.int 7))) yD vQ) (ao))) (ao))) (ao))
def C8:MS:=(dY 3 (aU (aa (aE .Mod (nm "deed") (ae (.int 8))) (aa (aE .Mod (aE .FloorDiv (nm "deed") (ae (.int 8))) (ae (.int 4))) (aa (aE .FloorDiv (nm "deed") (ae (.int 32))) (af))))) (λvs=>(bM (cP "rest") (bM (cP "at") (bM (cP "sort") (fo)))) vs.reverse))
def C9:MS:=(dY 2 (aU (aa (aE .Mod (nm "rest") (ae (.int 4))) (aa (bE (bI (aa (ae (.int 0)) (aa (ae (.int 1)) (aa (ae (.int 2)) (aa (ae (.str "a")) (af))))))) (af)))) (λvs=>(bM (cP "keys") (bM (cP "other") (fo))) vs.reverse))
def Dc:MS:=(dY 3 (aU (aa (au (nm "keys") (aE .Mod (aE .FloorDiv (nm "rest") (ae (.int 4))) (ae (.int 4)))) (aa (au (nm "keys") (aE .Mod (aE .FloorDiv (nm "rest") (ae (.int 16))) (ae (.int 4)))) (aa (aE .Mod (nm "rest") (ae (.int 1000003))) (af))))) (λvs=>(bM (cP "number") (bM (cP "inner") (bM (cP "key") (fo)))) vs.reverse))
theorem JC:ze=ag C8 (ag C9 (ag Dc Bh)):=rfl
end
section
structure Lo(K:Ix)(l:av)(s:Int)(a o:Nat)(k k':DK)(rest n:Int):Prop where
 book:l "book"=some (.ref K.b)
 sort:l "sort"=some (.int s)
 at_:l "at"=some (.int a)
 other:l "other"=some (.int o)
 key:l "key"=some k.val
 inner:l "inner"=some k'.val
 rest:l "rest"=some (.int rest)
 number:l "number"=some (.int n)
 ha:a<4
 ho:o<4
 hk:de k
 fw:de k'
theorem P8{K:Ix}{a:Nat}{g:Gh}{ms:Hp}{hs ts:List V}{rs:List (Nat×Nat)}{mk:List Nat}{i j:Nat}{d:List (DK×T)}{l:av}{s:Int}{o:Nat}{k k':DK}{rest n:Int}{h u:V}{T:T}(C:fR K a g ms hs ts rs mk i j d)(U:Un a g i j)(L:Lo K l s a o k k' rest n)(v1:VR g (·=.zm) h T)(v2:VR g (·=.TA 4) u T)(l3:L3 T)(b1:l "arr"=some (.ref i))(b2:l "tree"=some (.ref j))(b3:l "value"=some h)(b4:l "own_value"=some u)(hr:rs.length<=900)(hm:mk.length<=900):
 ∃l' ms' g' i7 mk',ri l ms=some (.next,l',ms')/\bV K (λ_=>True) g' ms' hs ts i7 mk'/\i7.length<=rs.length+1/\mk'.length<=mk.length+1:=by
 have st:=C.I.bk.st;have fin:∀ms',sM l ms=some (.next,l,ms')->∀g',bV K (λ_=>True) g' ms' hs ts rs mk->∃l' ms' g' i7 mk',(some (Fl.next,l,ms'):Option (Fl×av×Hp))=some (.next,l',ms')/\bV K (λ_=>True) g' ms' hs ts i7 mk'/\i7.length<=rs.length+1/\mk'.length<=mk.length+1:=λms' _ g' I=>⟨l,ms',g',rs,mk,rfl,I,by omega,by omega⟩;have num:∃ms' g',sM l ms=some (.next,l,ms')/\bV K (λ_=>True) g' ms' hs ts rs mk:=by
  refine fH (Ot C U L.hk n) λg' ms' q I=>?_;refine gZ ms' g' ?_ I;have e:aq (ig) (aa (nm "arr") (aa (nm "tree") (aa (nm "key") (aa (nm "number") (aa (nm "number") (af)))))) l ms=some (.none,ms'):=by simp_arith[aq,aa,af,ay,nm,b1,b2,L.key,L.number,q]
  unfold sM;rw[aZ (i9 e),bZ]
 refine az (M3 C L.hk b1 L.key) λbr cR nR=>?_;have cR:ot l ms=some (br,ms):=cR;have s3:=qy (ms:=ms) L.sort 3;have s4:=qy (ms:=ms) L.sort 4;have s5:=qy (ms:=ms) L.sort 5;have s6:=qy (ms:=ms) L.sort 6;have yF:∀ms',aK (aB .Eq (nm "sort") (ae (.int 3))) (aK qi (aK (ba ot) (aS))) l ms=some (false,ms)->vP l ms=some (.next,l,ms')->ri l ms=some (.next,l,ms'):=λms' c e=>by unfold ri;rw[aZ ((fG c).trans e),bZ]
 have Dd:∀ms',aB .Eq (nm "sort") (ae (.int 4)) l ms=some (false,ms)->vO l ms=some (.next,l,ms')->vP l ms=some (.next,l,ms'):=λms' c e=>by unfold vP;rw[aZ ((fG c).trans e),bZ]
 have Jd:∀ms',aB .Eq (nm "sort") (ae (.int 5)) l ms=some (false,ms)->yE l ms=some (.next,l,ms')->vO l ms=some (.next,l,ms'):=λms' c e=>by unfold vO;rw[aZ ((fG c).trans e),bZ]
 have Je:∀ms',aG (aK (aB .Eq (nm "sort") (ae (.int 6))) (aK (ba ot) (aS))) vN sM l ms=some (.next,l,ms')->yE l ms=some (.next,l,ms'):=λms' e=>by unfold yE;rw[aZ e,bZ]
 have rU:s≠4->s≠5->s≠6->aK (aB .Eq (nm "sort") (ae (.int 3))) (aK qi (aK (ba ot) (aS))) l ms=some (false,ms)->∃l' ms' g' i7 mk',ri l ms=some (.next,l',ms')/\bV K (λ_=>True) g' ms' hs ts i7 mk'/\i7.length<=rs.length+1/\mk'.length<=mk.length+1:=by intro n4 n5 n6 c;refine fH num λms' g' q I=>?_;simp only[n4,n5,n6,decide_false]at s4 s5 s6;refine qm l ms' g' rs mk ?_ I (by omega) (by omega);exact yF ms' c (Dd ms' s4 (Jd ms' s5 (Je ms' ((fG (qh s6)).trans q))))
 by_cases h3:s=3
 .clear s4 s5 s6;subst h3;refine az (P0 st C.I.bk.lf (v2.map (P':=du) λx q=>⟨by rw[q];trivial,rfl⟩) l3) λD q1 q2=>?_;have cD:qi l ms=some (decide (D<2),ms):=by unfold qi;simp_arith[aB,aq,aa,af,ae,ay,nm,b4,q1,dS]
  have s3:aB .Eq (nm "sort") (ae (.int 3)) l ms=some (true,ms):=s3;by_cases hD:D<2
  .simp only[hD,decide_true]at cD;cases br with
   |true=>exact rU (by decide) (by decide) (by decide) ((lJ s3).trans ((lJ cD).trans (qh (wD cR))))
   |false=>
    have c:aK (aB .Eq (nm "sort") (ae (.int 3))) (aK qi (aK (ba ot) (aS))) l ms=some (true,ms):=(lJ s3).trans ((lJ cD).trans (lJ (wD cR)));have lt:=q2 hD;refine fI (Sa k C U v2 lt) λaI C1 U1 w2 wz=>?_;have w1:VR (g.re aI) (AK (.A a) k) h T:=v1.map λx q=>⟨.inl (wz x q),rfl⟩;refine fN (zW C1 U1 L.hk w1 w2 lt (nR rfl)) λg' ms' q C2 _=>?_;have e:aq (ig) (aa (nm "arr") (aa (nm "tree") (aa (nm "key") (aa (nm "value") (aa (nm "own_value") (af)))))) l ms=some (.none,ms'):=by simp_arith[aq,aa,af,ay,nm,b1,b2,L.key,b3,b4,q]
    have e3:C0 l ms=some (.next,l,ms'):=by unfold C0;rw[aZ (i9 e),bZ]
    refine qm l ms' g' rs mk ?_ C2.all (by omega) (by omega);unfold ri;rw[aZ ((iU c).trans e3),bZ]
  .simp only[hD,decide_false]at cD;exact rU (by decide) (by decide) (by decide) ((lJ s3).trans (qh cD))
 .simp only[h3,decide_false]at s3;have c3:=qh (B:=aK qi (aK (ba ot) (aS))) s3;by_cases h4:s=4
  .clear h3 rU;clear s5 s6;subst h4;have s4:aB .Eq (nm "sort") (ae (.int 4)) l ms=some (true,ms):=s4;refine lR (MZ C L.hk L.fw n hm) λg' ms' mk' q I z=>?_;have e:aq (ro) (aa (nm "book") (aa (nm "arr") (aa (nm "tree") (aa (nm "key") (aa (nm "inner") (aa (nm "number") (af))))))) l ms=some (.none,ms'):=by simp_arith[aq,aa,af,ay,nm,L.book,b1,b2,L.key,L.inner,L.number,q]
   have e4:C6 l ms=some (.next,l,ms'):=by unfold C6;rw[aZ (i9 e),bZ]
   refine qm l ms' g' rs mk' ?_ I (by omega) z;refine yF ms' c3 ?_;unfold vP;rw[aZ ((iU s4).trans e4),bZ]
  .simp only[h4,decide_false]at s4;by_cases h5:s=5
   .clear h4;clear h3 rU;clear s6;subst h5;have s5:aB .Eq (nm "sort") (ae (.int 5)) l ms=some (true,ms):=s5;obtain⟨b,eb⟩:∃b,df .Eq (aE .Mod (aE .FloorDiv (nm "rest") (ae (.int 64))) (ae (.int 2))) (ae (.int 0)) l ms=some (.bool b,ms):=by simp_arith[df,aE,ae,ay,nm,L.rest,cB,dK]
    refine lR (M1 C L.hk b hr) λg' ms' i7 q I z=>?_;have e:aq (rp) (aa (nm "book") (aa (nm "arr") (aa (nm "tree") (aa (nm "key") (aa (df .Eq (aE .Mod (aE .FloorDiv (nm "rest") (ae (.int 64))) (ae (.int 2))) (ae (.int 0))) (af)))))) l ms=some (.none,ms'):=by revert eb;generalize df .Eq (aE .Mod (aE .FloorDiv (nm "rest") (ae (.int 64))) (ae (.int 2))) (ae (.int 0))=A;intro eb;simp_arith[aq,aa,af,ay,nm,L.book,b1,b2,L.key,eb,q]
    have e5:C7 l ms=some (.next,l,ms'):=by unfold C7;rw[aZ (i9 e),bZ]
    refine qm l ms' g' i7 mk ?_ I z (by omega);refine yF ms' c3 (Dd ms' s4 ?_);unfold vO;rw[aZ ((iU s5).trans e5),bZ]
   .by_cases h6:s=6
    .simp only[h5,decide_false]at s5;clear h5;clear h4;clear h3 rU;subst h6;have s6:aB .Eq (nm "sort") (ae (.int 6)) l ms=some (true,ms):=s6;have tail:∀ms',aG (aK (aB .Eq (nm "sort") (ae (.int 6))) (aK (ba ot) (aS))) vN sM l ms=some (.next,l,ms')->ri l ms=some (.next,l,ms'):=by exact λms' e6=>yF ms' c3 (Dd ms' s4 (Jd ms' s5 (Je ms' e6)))
     cases br with
     |true=>refine fH num λms' g' q I=>?_;exact qm l ms' g' rs mk (tail ms' ((fG ((lJ s6).trans (qh (wD cR)))).trans q)) I (by omega) (by omega)
     |false=>refine fH (OA C L.hk b1 b2 L.key) λg' ms' q I=>?_;exact qm l ms' g' rs mk (tail ms' ((iU ((lJ s6).trans (lJ (wD cR)))).trans q)) I (by omega) (by omega)
    .exact rU h4 h5 h6 c3
end
section
theorem Lo.set{s:Int}{a o:Nat}{rest n:Int}(L:Lo K l s a o k k' rest n)(h1:x≠"book")(h2:x≠"sort")(h3:x≠"at")(h4:x≠"other")(h5:x≠"key")(h6:x≠"inner")(h7:x≠"rest")(h8:x≠"number"):Lo K (l.set x v) s a o k k' rest n:=by
 refine⟨?_,?_,?_,?_,?_,?_,?_,?_,L.ha,L.ho,L.hk,L.fw⟩
 .simp[av.set,h1.symm,L.book]
 .simp[av.set,h2.symm,L.sort]
 .simp[av.set,h3.symm,L.at_]
 .simp[av.set,h4.symm,L.other]
 .simp[av.set,h5.symm,L.key]
 .simp[av.set,h6.symm,L.inner]
 .simp[av.set,h7.symm,L.rest]
 .simp[av.set,h8.symm,L.number]
theorem P9{a o:Nat}{s:Int}{rest n:Int}(I:bV K (λ_=>True) g ms hs ts rs mk)(L:Lo K l s a o k k' rest n)(hr:rs.length<=900)(hm:mk.length<=899):
 ∃l' ms',vQ l ms=some (.next,l',ms')/\pB K ms' rs mk:=by
 refine HB (FK I L.ho L.book L.other) λh u T g1 m1 q1 I1 v1 v2 l3=>?_;have q1:As l ms=some (.tup [h,u],m1):=q1;have s1:dY 2 As (λvs=>(bM (cP "own_value") (bM (cP "value") (fo))) vs.reverse) l ms=some (.next,(l.set "own_value" u).set "value" h,m1):=by simp_arith! [q1]
 have L1:Lo K ((l.set "own_value" u).set "value" h) s a o k k' rest n:=(L.set (by decide) (by decide) (by decide) (by decide) (by decide) (by decide) (by decide) (by decide)).set (by decide) (by decide) (by decide) (by decide) (by decide) (by decide) (by decide) (by decide);have b3:((l.set "own_value" u).set "value" h) "value"=some h:=rfl;have b4:((l.set "own_value" u).set "value" h) "own_value"=some u:=rfl;generalize (l.set "own_value" u).set "value" h=l1 at s1 L1 b3 b4;refine Sp (MX I1 L.ha (by omega)) λg2 m2 jd nf mk' i j d q2 C z kp=>?_;have s2:dY 2 (aq (qa) (aa (nm "book") (aa (nm "at") (af)))) (bM (cP "arr") (bM (cP "tree") (fo))) l1 m1=some (.next,(l1.set "arr" (.ref i)).set "tree" (.ref j),m2):=by
  have:aq (qa) (aa (nm "book") (aa (nm "at") (af))) l1 m1=some (.tup [.ref i,.ref j],m2):=by simp[aq,aa,af,ay,nm,L1.book,L1.at_,q2]
  simp_arith! [this]
 have L2:Lo K ((l1.set "arr" (.ref i)).set "tree" (.ref j)) s a o k k' rest n:=(L1.set (by decide) (by decide) (by decide) (by decide) (by decide) (by decide) (by decide) (by decide)).set (by decide) (by decide) (by decide) (by decide) (by decide) (by decide) (by decide) (by decide);refine fI C.gc λaI C' U w Vs=>?_;have Jf:=kp.trans Vs;refine Bl (P8 C' U L2 (Jf.zm v1) (Jf.t4 v2) l3 rfl rfl (b3) (b4) hr (by omega)) λl' ms' g' i7 mk'' q3 I3 z1 z2=>?_;refine⟨l',ms',?_,g',jd,nf,i7,mk'',I3,z1,by omega⟩;unfold vQ;rw[aZ s1,aZ s2,q3]
theorem M4{a o:Nat}{s:Int}{rest n:Int}(I:bV K (λ_=>True) g ms hs ts rs mk)(L:Lo K l s a o k k' rest n)(hr:rs.length<=900)(hm:mk.length<=899):
 ∃l' ms',Bh l ms=some (.next,l',ms')/\pB K ms' rs mk:=by
 have s0:=qy (ms:=ms) L.sort 0;have s1:=qy (ms:=ms) L.sort 1;have s7:=qy (ms:=ms) L.sort 7;unfold Bh;by_cases h0:s=0
 .clear s1 s7;subst h0;refine fH (P4 I L.ho L.ha L.book L.other L.at_) λl' ms' q D=>?_;have s0:aB .Eq (nm "sort") (ae (.int 0)) l ms=some (true,ms):=s0;exact gZ l' ms' (by rw[aZ ((iU s0).trans q),bZ]) D
 .simp only[h0,decide_false]at s0;have low:aK (aB .Eq (nm "sort") (ae (.int 1))) (aK qj (aS)) l ms=some (false,ms)->∃l' ms',(ag (aG (aB .Eq (nm "sort") (ae (.int 0))) yv (ag (aG (aK (aB .Eq (nm "sort") (ae (.int 1))) (aK qj (aS))) yw (ag (aG (aB .Eq (nm "sort") (ae (.int 7))) yD vQ) (ao))) (ao))) (ao)) l ms=some (.next,l',ms')/\pB K ms' rs mk:=by
   intro c;have:∃l' ms',aG (aB .Eq (nm "sort") (ae (.int 7))) yD vQ l ms=some (.next,l',ms')/\pB K ms' rs mk:=by
    by_cases h7:s=7
    .clear h0;clear s1;subst h7;have s7:aB .Eq (nm "sort") (ae (.int 7)) l ms=some (true,ms):=s7;refine fH (JU I a n) λg' ms' q I'=>?_;have e:aq (rm) (aa (nm "book") (aa (nm "at") (aa (nm "number") (af)))) l ms=some (.none,ms'):=by simp_arith[aq,aa,af,ay,nm,L.book,L.at_,L.number,q]
     refine⟨l,ms',?_,g',_,_,_,_,I',by omega,by omega⟩;rw[iU s7];unfold yD;rw[aZ (i9 e),bZ]
    .simp only[h7,decide_false]at s7;refine fH (P9 I L hr hm) λl' ms' q D=>?_;exact gZ l' ms' ((fG s7).trans q) D
   refine fH this λl' ms' q D=>?_;refine gZ l' ms' ?_ D;rw[aZ ((fG s0).trans (by rw[aZ ((fG c).trans (by rw[aZ q,bZ])),bZ])),bZ]
  by_cases h1:s=1
  .clear h0 s7;subst h1;have s1:aB .Eq (nm "sort") (ae (.int 1)) l ms=some (true,ms):=s1;obtain⟨h,t,e1,e2,T,v1,v2,l3⟩:=I.H o L.ho trivial;have ty:=v2.i6 I.bk.st (by rintro c rfl;trivial);have e3:=dE ty mJ .dict;have r1:=I.bk.sJ L.book L.other e2;have cd:qj l ms=some (fx (i6 T) .dict,ms):=by unfold qj;simp_arith[aw,aO,ay,r1,e3]
   by_cases hA:∃d,T=.arr d
   .refine cW hA λd bf=>?_;clear e3 hA ty;subst bf;have cd:qj l ms=some (true,ms):=cd;have c:aK (aB .Eq (nm "sort") (ae (.int 1))) (aK qj (aS)) l ms=some (true,ms):=(lJ s1).trans (lJ cd);refine fH (P6 I L.ho L.ha L.book L.other L.at_ L.key L.hk e1 e2 v1 v2 l3) λl' ms' q D=>?_;refine gZ l' ms' ?_ D;rw[aZ ((fG s0).trans (by rw[aZ ((iU c).trans q),bZ])),bZ]
   .have e4:fx (i6 T) .dict=false:=by
     cases T with
     |arr d=>exact absurd ⟨d,rfl⟩ hA
     |cell x=>exact v1.elim
     |_=>rfl
    rw[e4]at cd;exact low ((lJ s1).trans (qh cd))
  .simp only[h1,decide_false]at s1;exact low (qh s1)
theorem vR(z:Int):∃m:Nat,m<4/\z.fmod 4=m:=by have z1:=Int.fmod_nonneg_of_pos z (b:=4) (by decide);have z2:=Int.fmod_lt_of_pos z (b:=4) (by decide);exact a0 ((z.fmod 4).toNat) (by omega) ((Int.toNat_of_nonneg z1).symm)
theorem GH{m:Nat}(h:m<4):∃k:DK,de k/\at_ [.int 0,.int 1,.int 2,.str "a"] (m:Int)=some k.val:=by
 rw[j8];rcases m with _|_|_|_|m
 .exact a0 (.int 0) (.inl rfl) rfl
 .exact a0 (.int 1) (.inr (.inl rfl)) rfl
 .exact a0 (.int 2) (.inr (.inr (.inl rfl))) rfl
 .exact a0 (.str "a") (.inr (.inr (.inr rfl))) rfl
 .omega
theorem OB(I:bV K (λ_=>True) g ms hs ts rs mk)(hr:rs.length<=900)(hm:mk.length<=899)(deed:Int):
 ∃ms',rq [.ref K.b,.int deed] ms=some (.none,ms')/\pB K ms' rs mk:=by
 unfold rq;rw[JC,cV (by rfl)];have f1:ax ["book","deed"] ([.ref K.b,.int deed]++[]) "book"=some (.ref K.b):=rfl;have f2:ax ["book","deed"] ([.ref K.b,.int deed]++[]) "deed"=some (.int deed):=rfl;generalize ax ["book","deed"] ([.ref K.b,.int deed]++[])=L at f1 f2;refine az (vR (deed.fdiv 8)) λa ha ea=>?_;refine az (vR ((deed.fdiv 32))) λo ho eo=>?_;refine az (vR ((deed.fdiv 32).fdiv 4)) λx hx ex=>?_;refine az (vR ((deed.fdiv 32).fdiv 16)) λy hy ey=>?_;refine az (GH hx) λk hk ek=>?_;refine az (GH hy) λk' fw Vt=>?_;have s1:C8 L ms=some (.next,((L.set "rest" (.int (deed.fdiv 32))).set "at" (.int a)).set "sort" (.int (deed.fmod 8)),ms):=by simp_arith[C8,dY,aU,aa,af,aE,ae,ay,nm,f2,cB,bM,cP,fo,ea]
 rw[aZ s1];have a1:(((L.set "rest" (.int (deed.fdiv 32))).set "at" (.int a)).set "sort" (.int (deed.fmod 8))) "book"=some (.ref K.b):=f1;have a2:(((L.set "rest" (.int (deed.fdiv 32))).set "at" (.int a)).set "sort" (.int (deed.fmod 8))) "rest"=some (.int (deed.fdiv 32)):=rfl;have a3:(((L.set "rest" (.int (deed.fdiv 32))).set "at" (.int a)).set "sort" (.int (deed.fmod 8))) "at"=some (.int a):=rfl;have a4:(((L.set "rest" (.int (deed.fdiv 32))).set "at" (.int a)).set "sort" (.int (deed.fmod 8))) "sort"=some (.int (deed.fmod 8)):=rfl;generalize ((L.set "rest" (.int (deed.fdiv 32))).set "at" (.int a)).set "sort" (.int (deed.fmod 8))=L1 at a1 a2 a3 a4;generalize deed.fdiv 32=rest at eo ex ey a2;have s2:C9 L1 ms=some (.next,(L1.set "keys" (.lst [.int 0,.int 1,.int 2,.str "a"])).set "other" (.int o),ms):=by simp_arith[C9,dY,aU,bE,bI,aa,af,aE,ae,ay,nm,a2,cB,bM,cP,fo,eo]
 rw[aZ s2];have b1:((L1.set "keys" (.lst [.int 0,.int 1,.int 2,.str "a"])).set "other" (.int o)) "book"=some (.ref K.b):=a1;have b2:((L1.set "keys" (.lst [.int 0,.int 1,.int 2,.str "a"])).set "other" (.int o)) "rest"=some (.int rest):=a2;have b3:((L1.set "keys" (.lst [.int 0,.int 1,.int 2,.str "a"])).set "other" (.int o)) "at"=some (.int a):=a3;have b4:((L1.set "keys" (.lst [.int 0,.int 1,.int 2,.str "a"])).set "other" (.int o)) "sort"=some (.int (deed.fmod 8)):=a4;have b5:((L1.set "keys" (.lst [.int 0,.int 1,.int 2,.str "a"])).set "other" (.int o)) "other"=some (.int o):=rfl;have b6:((L1.set "keys" (.lst [.int 0,.int 1,.int 2,.str "a"])).set "other" (.int o)) "keys"=some (.lst [.int 0,.int 1,.int 2,.str "a"]):=rfl;generalize (L1.set "keys" (.lst [.int 0,.int 1,.int 2,.str "a"])).set "other" (.int o)=L2 at b1 b2 b3 b4 b5 b6;have e1:au (nm "keys") (aE .Mod (aE .FloorDiv (nm "rest") (ae (.int 4))) (ae (.int 4))) L2 ms=some (k.val,ms):=by simp_arith[au,aE,ae,ay,nm,b2,b6,cB,ex,gm,ek]
 have e2:au (nm "keys") (aE .Mod (aE .FloorDiv (nm "rest") (ae (.int 16))) (ae (.int 4))) L2 ms=some (k'.val,ms):=by simp_arith[au,aE,ae,ay,nm,b2,b6,cB,ey,gm,Vt]
 have s3:Dc L2 ms=some (.next,((L2.set "number" (.int (rest.fmod 1000003))).set "inner" k'.val).set "key" k.val,ms):=by unfold Dc;revert e1 e2;generalize au (nm "keys") (aE .Mod (aE .FloorDiv (nm "rest") (ae (.int 4))) (ae (.int 4)))=A;generalize au (nm "keys") (aE .Mod (aE .FloorDiv (nm "rest") (ae (.int 16))) (ae (.int 4)))=B;intro e1 e2;simp_arith! [b2,e1,e2]
 rw[aZ s3];have Lx:Lo K (((L2.set "number" (.int (rest.fmod 1000003))).set "inner" k'.val).set "key" k.val) (deed.fmod 8) a o k k' rest (rest.fmod 1000003):=⟨b1,b4,b3,b5,rfl,rfl,b2,rfl,ha,ho,hk,fw⟩;refine fH (M4 I Lx hr hm) λl' ms' q D=>?_;rw[q];exact a0 ms' rfl D
end
section
noncomputable def bA:Ar:=⟨true,[none,some (.int 1,.int 7)],2,0,false⟩
noncomputable def bO:Ar:=⟨false,[some (.str "a",.ref 2),some (.int 0,.ref 1),some (.int 2,.ref 0)],3,0,false⟩
noncomputable def bF:Ar:=⟨true,[some (.int 0,.int 3),some (.int 1,.int 4)],2,0,false⟩
noncomputable def K0:Ix:=⟨11,13,10,14,15⟩
def gy:Hp:=[bt (.int 5) 2,bt (.int 6) 1,bA.mo,bO.mo,.list [.int 5],bF.mo,.dict [(.str "a",.ref 7),(.int 0,.int 6),(.int 2,.ref 4)],.dict [(.int 1,.int 7)],.dict [(.int 0,.int 3),(.int 1,.int 4)],.dict [],
 .list [.ref 6,.ref 8,.ref 9,.int 9],.dict [(.str "held",.ref 13),(.str "trees",.ref 10),(.str "refs",.ref 14),(.str "marked",.ref 15),(.str "right",.bool true)],dX.mo,.list [.ref 3,.ref 5,.ref 12,.int 9],.list [.tup [.ref 0,.ref 4]],.list []]
theorem M5:oV [] []=some (.ref 11,gy):=by kernel_rfl
noncomputable def g0:Gh where
 cat
  |0=>.rc 0
  |1=>.R 0 (.int 0)
  |2=>.B 0 (.str "a")
  |3=>.A 0
  |4=>.tl 0
  |5=>.A 1
  |6=>.TA 0
  |7=>.TB 0 (.str "a")
  |8=>.TA 1
  |9=>.TA 2
  |12=>.A 2
  |_=>.no
 ah
  |2=>[(.int 1,.int 7)]
  |3=>[(.str "a",.ref 2),(.int 0,.ref 1),(.int 2,.ref 0)]
  |5=>[(.int 0,.int 3),(.int 1,.int 4)]
  |6=>[(.str "a",.ref 7),(.int 0,.int 6),(.int 2,.ref 4)]
  |7=>[(.int 1,.int 7)]
  |8=>[(.int 0,.int 3),(.int 1,.int 4)]
  |_=>[]
 den
  |2=>[(.int 1,.int 7)]
  |3=>[(.str "a",.arr [(.int 1,.int 7)]),(.int 0,.int 6),(.int 2,.cell 0)]
  |5=>[(.int 0,.int 3),(.int 1,.int 4)]
  |6=>[(.str "a",.arr [(.int 1,.int 7)]),(.int 0,.int 6),(.int 2,.cell 0)]
  |7=>[(.int 1,.int 7)]
  |8=>[(.int 0,.int 3),(.int 1,.int 4)]
  |_=>[]
 rv
  |0=>.int 5
  |1=>.int 6
  |4=>.int 5
  |_=>.none
 fq
  |1=>.int 6
  |_=>.none
 ho
  |0=>2
  |1=>1
  |_=>0
 cs _:=.int 5
theorem vk(h:cg v ms (.c .abs)=some false):gp ms v:=h
theorem Sb:dW gy bA:=by
 refine⟨by decide,?_,?_,by decide,by decide,?_⟩
 .intro k v m;simp[bA]at m;rw[m.1];exact Or.inr (Or.inl rfl)
 .intro k v m;simp[bA]at m;rw[m.2];exact vk rfl
 .intro _ p k v e;rcases p with _|_|p
  .simp[bA]at e
  .simp[bA]at e;exact e.1.symm
  .simp[bA]at e
theorem Sd:dW gy bF:=by
 refine⟨by decide,?_,?_,by decide,by decide,?_⟩
 .intro k v m;simp[bF]at m;rcases m with m|m<;>rw[m.1]<;>(first|exact Or.inl rfl|exact Or.inr (Or.inl rfl))
 .intro k v m;simp[bF]at m;rcases m with m|m<;>rw[m.2]<;>exact vk rfl
 .intro _ p k v e;rcases p with _|_|p
  .simp[bF]at e;exact e.1.symm
  .simp[bF]at e;exact e.1.symm
  .simp[bF]at e
theorem Se:dW gy bO:=by
 refine⟨by decide,?_,?_,by decide,by exact λz4=>Bool.noConfusion z4,by exact λz4=>Bool.noConfusion z4⟩
 .intro k v m;simp[bO]at m;rcases m with m|m|m<;>rw[m.1]<;>(first|exact Or.inr (Or.inr (Or.inr rfl))|exact Or.inl rfl|exact Or.inr (Or.inr (Or.inl rfl)))
 .intro k v m;simp[bO]at m;rcases m with m|m|m<;>rw[m.2]<;>exact vk rfl
theorem Sf:dW gy dX:=⟨by decide,by simp[dX],by simp[dX],by simp[dX,Ar.ah],by simp[dX],by simp[dX]⟩
theorem Tp(j:Nat):bQ g0 gy j:=by
 rcases j with _|_|_|_|_|_|_|_|_|_|_|_|_|j
 .exact rfl
 .exact rfl
 .exact gO bA rfl Sb rfl rfl
 .exact gO bO rfl Se rfl rfl
 .exact rfl
 .exact gO bF rfl Sd rfl rfl
 .exact rfl
 .exact rfl
 .exact rfl
 .exact rfl
 .exact trivial
 .exact trivial
 .exact gO dX rfl Sf rfl rfl
 .exact trivial
theorem Sg(j:Nat):dy g0 j:=by
 rcases j with _|_|_|_|_|_|_|_|_|_|_|_|_|j
 .exact⟨rfl,by decide⟩
 .exact⟨rfl,rfl⟩
 .exact⟨rfl,.inl rfl,trivial⟩
 .exact⟨rfl,.inl ⟨2,rfl,.inr rfl,rfl⟩,rfl,.inr ⟨1,rfl,rfl,rfl⟩,rfl,⟨0,rfl,rfl⟩,trivial⟩
 .exact rfl
 .exact⟨rfl,.inl rfl,rfl,.inl rfl,trivial⟩
 .exact⟨rfl,.inl ⟨7,rfl,rfl,rfl⟩,rfl,.inl rfl,rfl,⟨4,rfl,rfl⟩,trivial⟩
 .exact⟨rfl,.inl rfl,trivial⟩
 .exact⟨rfl,.inl rfl,rfl,.inl rfl,trivial⟩
 .exact trivial
 .exact trivial
 .exact trivial
 .exact trivial
 .exact trivial
theorem Hu{i c:Nat}(h:g0.cat i=.rc c):i=0/\c=0:=by rcases i with _|_|_|_|_|_|_|_|_|_|_|_|_|j<;>first|exact⟨rfl,(ak.rc.inj h).symm⟩|exact ak.noConfusion h
theorem Hv{i c:Nat}(h:g0.cat i=.tl c):i=4/\c=0:=by rcases i with _|_|_|_|_|_|_|_|_|_|_|_|_|j<;>first|exact⟨rfl,(ak.tl.inj h).symm⟩|exact ak.noConfusion h
theorem vI:St g0 gy:=by
 refine⟨Tp,Sg,?_,?_,?_,?_⟩
 .intro j h;have h:16<=j:=h;rcases j with _|_|_|_|_|_|_|_|_|_|_|_|_|j<;>first|rfl|exact absurd h (by decide)
 .intro i j c h1 h2;refine((Hu h1).1).trans ?_;rw[(Hu h2).1]
 .intro i j c h1 h2;refine((Hv h1).1).trans ?_;rw[(Hv h2).1]
 .intro j c h;have:c=0:=by rcases j with _|_|_|_|_|_|_|_|_|_|_|_|_|j<;>first|exact(Option.some.inj h).symm|exact aX h
  clear h;subst this;decide
theorem Tq:bV K0 (λ_=>True) g0 gy [.ref 3,.ref 5,.ref 12,.int 9] [.ref 6,.ref 8,.ref 9,.int 9] [(0,4)] []:=by
 refine⟨⟨vI,λ_=>trivial,rfl,rfl,rfl,rfl,rfl,rfl,rfl,rfl,rfl,rfl,by decide,?_,by simp,rfl,rfl⟩,?_⟩
 .intro p mp;simp at mp;subst mp;exact⟨0,rfl,rfl⟩
 .intro a ha _;rcases a with _|_|_|_|a
  .refine⟨.ref 3,.ref 6,rfl,rfl,.arr [(.str "a",.arr [(.int 1,.int 7)]),(.int 0,.int 6),(.int 2,.cell 0)],⟨3,rfl,.inr rfl,rfl⟩,⟨6,rfl,rfl,rfl⟩,⟨?_,by decide,by simp[dp]⟩⟩;intro e me;simp at me;rcases me with rfl|rfl|rfl
   .refine⟨by exact Or.inr (Or.inr (Or.inr rfl)),⟨?_,by decide,by simp[dp]⟩⟩;intro e me;simp at me;subst me;exact⟨by exact Or.inr (Or.inl rfl),trivial⟩
   .exact⟨by exact Or.inl rfl,trivial⟩
   .exact⟨by exact Or.inr (Or.inr (Or.inl rfl)),trivial⟩
  .refine⟨.ref 5,.ref 8,rfl,rfl,.arr [(.int 0,.int 3),(.int 1,.int 4)],⟨5,rfl,.inr rfl,rfl⟩,⟨8,rfl,rfl,rfl⟩,⟨?_,by decide,by simp[dp]⟩⟩;intro e me;simp at me;rcases me with rfl|rfl<;>exact⟨by(first|exact Or.inl rfl|exact Or.inr (Or.inl rfl)),trivial⟩
  .exact⟨.ref 12,.ref 9,rfl,rfl,.arr [],⟨12,rfl,.inr rfl,rfl⟩,⟨9,rfl,rfl,rfl⟩,⟨by simp,by simp,by simp[dp]⟩⟩
  .exact⟨.int 9,.int 9,rfl,rfl,.int 9,rfl,rfl,trivial⟩
  .omega
end
section
theorem bV.den{K:Ix}{g:Gh}{ms:Hp}{hs ts:List V}{rs:List (Nat×Nat)}{mk:List Nat}(I:bV K (λ_=>True) g ms hs ts rs mk):∃f:Nat->T,∀a,a<4->∃h t,hs[a]?=some h/\ts[a]?=some t/\VR g (HP a) h (f a)/\VR g (·=.TA a) t (f a)/\L3 (f a):=by
 have:∀a,∃T,a<4->∃h t,hs[a]?=some h/\ts[a]?=some t/\VR g (HP a) h T/\VR g (·=.TA a) t T/\L3 T:=by
  intro a;by_cases h:a<4
  .obtain⟨h,t,e1,e2,T,e3⟩:=I.H a h trivial;exact⟨T,λ_=>⟨h,t,e1,e2,e3⟩⟩
  .exact⟨.none,λq=>absurd q h⟩
 exact⟨λa=>(this a).choose,λa ha=>(this a).choose_spec ha⟩
theorem FP(I:bV K (λ_=>True) g ms hs ts rs mk)(as:List Nat)(has:∀a∈as,a<4)(W':as.length<=4)(hv:∀(l:av) (m:Hp),l "some"=some v->iy (nm "some") l m=some (as.map (λa:Nat=>V.int a),m)):
 ∃ms',kg [.ref K.b,v] ms=some (.bool true,ms')/\bV K (λ_=>True) g ms' hs ts rs mk:=by
 refine cW I.den λf hf=>?_;delta kg yG;rw[cV (by rfl)];have f1:ax ["book","some"] ([.ref K.b,v]++[]) "book"=some (.ref K.b):=rfl;have f2:ax ["book","some"] ([.ref K.b,v]++[]) "some"=some v:=rfl;generalize ax ["book","some"] ([.ref K.b,v]++[])=L at f1 f2;have grow:∀ys:List MO,bV K (λ_=>True) g (ms++ys) hs ts rs mk:=λys=>I.jg I.bk.st.grow (Mv.grow Mv.refl);obtain⟨ys,e1⟩:∃ys:List MO,bE (cM (iy (nm "some")) ["book"] (λv l=>some (l.set "at" v)) (aS) (aq (qb) (aa (au (au (nm "book") (ae (.str "held"))) (nm "at")) (af)))) L ms=some (.lst (as.map λa=>lC g.cs (f a)),ms++ys):=by
  have key:=mE (upd:=λv l=>some (l.set "at" v)) (c:=aS) (e:=aq (qb) (aa (au (au (nm "book") (ae (.str "held"))) (nm "at")) (af))) as (λa:Nat=>V.int a) (by omega)
   (λpre acc l m=>∃ys,m=ms++ys/\acc=pre.map (λa=>lC g.cs (f a))/\l "book"=some (.ref K.b)) ?_ (l:=iL ["book"] L) (ms:=ms) ⟨[],by simp,rfl,f1⟩
  .obtain⟨acc,l',m',q,ys,rfl,rfl,_⟩:=key;exact kP ys (by simp_arith! [hv L ms f2,q])
  .rintro pre a post e acc l m ⟨ys,rfl,rfl,lb⟩;refine mO (hf a (has a (by rw[e];exact mem_append_right _ mem_cons_self))) λh t e1 e2 v1 v2 l3=>?_;have I2:=grow ys;refine cW (Oi I2.bk.st I.bk.lf (v1.map (P':=ft) λx q=>⟨by rcases q with q|q<;>rw[q]<;>trivial,rfl⟩) l3) λzs p=>?_;have mB:(l.set "at" (.int a)) "book"=some (.ref K.b):=lb;refine a0 (l.set "at" (.int a)) rfl (.inl ⟨ms++ys,lC g.cs (f a),ms++ys++zs,rfl,?_,ys++zs,by simp,by simp,mB⟩);have r1:=I2.bk.vC (x:="at") mB rfl e1;simp_arith[aq,aa,af,ay,r1,p]
 have I2:=grow ys;have e2:bE (cM (iy (nm "some")) ["book"] (λv l=>some (l.set "at" v)) (aS) (aq (i8 10) (aa (au (au (nm "book") (ae (.str "trees"))) (nm "at")) (af)))) L (ms++ys)=some (.lst (as.map λa=>lC g.cs (f a)),ms++ys):=by
  have key:=mE (upd:=λv l=>some (l.set "at" v)) (c:=aS) (e:=aq (i8 10) (aa (au (au (nm "book") (ae (.str "trees"))) (nm "at")) (af))) as (λa:Nat=>V.int a) (by omega)
   (λpre acc l m=>m=ms++ys/\acc=pre.map (λa=>lC g.cs (f a))/\l "book"=some (.ref K.b)) ?_ (l:=iL ["book"] L) (ms:=ms++ys) ⟨rfl,rfl,f1⟩
  .refine hU key λacc l' m' q lh jE _=>?_;subst lh;subst jE;simp_arith! [hv L (ms++ys) f2,q]
  .rintro pre a post e acc l m ⟨rfl,rfl,lb⟩;refine mO (hf a (has a (by rw[e];exact mem_append_right _ mem_cons_self))) λh t e1 e2 v1 v2 l3=>?_;have p:=MJ I2.bk.st I.bk.lf (v2.map (P':=du) λx q=>⟨by rw[q];trivial,rfl⟩) l3;have mB:(l.set "at" (.int a)) "book"=some (.ref K.b):=lb;refine a0 (l.set "at" (.int a)) rfl (.inl ⟨ms++ys,lC g.cs (f a),ms++ys,rfl,?_,rfl,by simp,mB⟩);have r1:=I2.bk.sJ (x:="at") mB rfl e2;simp_arith[aq,aa,af,ay,r1,p]
 have pd:Pd 64 (.lst (as.map λa=>lC g.cs (f a))):=by refine Pd.mono (n:=11) (Pd.lst (n:=10) λw mw=>?_) (by decide);refine az (mem_map.mp mw) λa ma bL=>?_;clear mw;subst bL;refine mO (hf a (has a ma)) λ_ _ _ _ _ _ l3=>?_;exact Pd.lC I.bk.lf l3
 refine a0 (ms++ys) ?_ I2;revert e1 e2;generalize bE (cM (iy (nm "some")) ["book"] (λv l=>some (l.set "at" v)) (aS) (aq (qb) (aa (au (au (nm "book") (ae (.str "held"))) (nm "at")) (af))))=A;generalize bE (cM (iy (nm "some")) ["book"] (λv l=>some (l.set "at" v)) (aS) (aq (i8 10) (aa (au (au (nm "book") (ae (.str "trees"))) (nm "at")) (af))))=B;intro e1 e2;simp_arith! [ub,e1,e2,pd.eq]
theorem E4(I:bV K (λ_=>True) g ms hs ts rs mk):
 ∃ms',kg [.ref K.b,.iM 4] ms=some (.bool true,ms')/\bV K (λ_=>True) g ms' hs ts rs mk:=
 FP I [0,1,2,3] (by decide) (by decide) (by intro l m h;simp[iy,ay,nm,h];rfl)
theorem M6{a:Nat}(ha:a<4)(I:bV K (λ_=>True) g ms hs ts rs mk):
 ∃ms',kg [.ref K.b,.lst [.int a]] ms=some (.bool true,ms')/\bV K (λ_=>True) g ms' hs ts rs mk:=
 FP I [a] (by simpa using ha) (by simp) (by intro l m h;simp_arith! [h])
def tS:MS:=(ag (aR (aq (rq) (aa (nm "book") (aa (nm "deed") (af))))) (ag (aG (bC (ba (aw (au (nm "book") (ae (.str "right"))))) (bC (ba (aw (aq (kg) (aa (nm "book") (aa (bz (aB .Eq (aE .Mod (nm "turn") (ae (.int 4))) (ae (.int 3))) (gD (ae (.int 4))) (bE (bI (aa (aE .Mod (aE .FloorDiv (nm "deed") (ae (.int 8))) (ae (.int 4))) (af))))) (af)))))) (cy))) (ag (aW (ae (.bool false))) (ao)) (ao)) (ao)))
theorem OC{n:Nat}{deed:Int}(I:bV K (λ_=>True) g ms hs ts rs mk)(hr:rs.length<=900)(hm:mk.length<=899)(lb:l "book"=some (.ref K.b))(lt:l "turn"=some (.int n))(ld:l "deed"=some (.int deed)):
 ∃ms',tS l ms=some (.next,l,ms')/\pB K ms' rs mk:=by
 obtain⟨m1,q1,g1,oa,Jg,Jh,qS,I1,z1,z2⟩:=OB I hr hm deed;have s1:aq (rq) (aa (nm "book") (aa (nm "deed") (af))) l ms=some (.none,m1):=by simp_arith[aq,aa,af,ay,nm,lb,ld,q1]
 have iX:∃m2,aq (kg) (aa (nm "book") (aa (bz (aB .Eq (aE .Mod (nm "turn") (ae (.int 4))) (ae (.int 3))) (gD (ae (.int 4))) (bE (bI (aa (aE .Mod (aE .FloorDiv (nm "deed") (ae (.int 8))) (ae (.int 4))) (af))))) (af))) l m1=some (.bool true,m2)/\bV K (λ_=>True) g1 m2 oa Jg Jh qS:=by
  by_cases h:(n:Int).fmod 4=3
  .refine az (E4 I1) λm2 q2 I2=>?_;refine a0 m2 ?_ I2;have c:aB .Eq (aE .Mod (nm "turn") (ae (.int 4))) (ae (.int 3)) l m1=some (true,m1):=by simp_arith[aB,aE,ae,ay,nm,lt,cB,dK,h]
   have e:gD (ae (.int 4)) l m1=some (.iM 4,m1):=by simp_arith[gD,ae,ay]
   revert c e;generalize aB .Eq (aE .Mod (nm "turn") (ae (.int 4))) (ae (.int 3))=A;generalize gD (ae (.int 4))=B;intro c e;simp_arith[aq,aa,af,bz,ay,nm,lb,c,e,q2]
  .refine az (vR (deed.fdiv 8)) λa ha ea=>?_;refine az (M6 ha I1) λm2 q2 I2=>?_;refine a0 m2 ?_ I2;have c:aB .Eq (aE .Mod (nm "turn") (ae (.int 4))) (ae (.int 3)) l m1=some (false,m1):=by simp_arith[aB,aE,ae,ay,nm,lt,cB,dK,h]
   have e:bE (bI (aa (aE .Mod (aE .FloorDiv (nm "deed") (ae (.int 8))) (ae (.int 4))) (af))) l m1=some (.lst [.int a],m1):=by simp_arith[bE,bI,aa,af,aE,ae,ay,nm,ld,cB,ea]
   revert c e;generalize aB .Eq (aE .Mod (nm "turn") (ae (.int 4))) (ae (.int 3))=A;generalize bE (bI (aa (aE .Mod (aE .FloorDiv (nm "deed") (ae (.int 8))) (ae (.int 4))) (af)))=B;intro c e;simp_arith[aq,aa,af,bz,ay,nm,lb,c,e,q2]
 refine az iX λm2 q2 I2=>?_;have r1:=I1.bk.U8 lb;have c1:ba (aw (au (nm "book") (ae (.str "right")))) l m1=some (false,m1):=by simp_arith[ba,aw,ay,r1]
 have c:bC (ba (aw (au (nm "book") (ae (.str "right"))))) (bC (ba (aw (aq (kg) (aa (nm "book") (aa (bz (aB .Eq (aE .Mod (nm "turn") (ae (.int 4))) (ae (.int 3))) (gD (ae (.int 4))) (bE (bI (aa (aE .Mod (aE .FloorDiv (nm "deed") (ae (.int 8))) (ae (.int 4))) (af))))) (af)))))) (cy)) l m1=some (false,m2):=by revert c1 q2;generalize ba (aw (au (nm "book") (ae (.str "right"))))=A;generalize aq (kg) (aa (nm "book") (aa (bz (aB .Eq (aE .Mod (nm "turn") (ae (.int 4))) (ae (.int 3))) (gD (ae (.int 4))) (bE (bI (aa (aE .Mod (aE .FloorDiv (nm "deed") (ae (.int 8))) (ae (.int 4))) (af))))) (af)))=B;intro q2 c1;simp_arith[bC,ba,aw,cy,ay,c1,q2]
 refine⟨m2,?_,g1,oa,Jg,Jh,qS,I2,z1,z2⟩;unfold tS;rw[aZ (i9 s1),aZ ((fG c).trans bZ),bZ]
end
section
theorem Es(xs:List Int):rN (xs.map V.int)=xs.zipIdx.map λp=>V.tup [.int (p.2:Nat),.int p.1]:=by unfold rN;rw[List.zipIdx_map,map_map];rfl
noncomputable def k0:List Int:=[4,13,50,2,71,106,29,154,47,80,61,33,132,95,21,118]
theorem VB:oX [] ms=some (.lst (k0.map V.int),ms):=rfl
def xn:ML:=(cM (lN (nm "rows")) ["script"] (λv l=>match v with|.tup [p,q]=>some ((l.set "k" p).set "row" q)|_=>none) (aS) (aE .Add (nm "row") (bz (aB .Lt (nm "k") (bj (bc (nm "script")))) (au (nm "script") (nm "k")) (ae (.int 0)))))
def xV:ML:=(cM (bc (au (nm "book") (ae (.str "marked")))) [] (λv l=>match v with|.tup [p,q]=>some ((l.set "arr" p).set "slots" q)|_=>none) (ba (aw (aq (mF) (aa (aq (jx) (aa (nm "arr") (af))) (aa (nm "slots") (af)))))) (nm "arr"))
theorem M7:uf=ag (bq "script" (bE (rO (bc (nm "script")) (ae (.int 30))))) (ag (dY 2 (aU (aa (aq (oX) (af)) (aa (aq (oV) (af)) (af)))) (λvs=>(bM (cP "book") (bM (cP "rows") (fo))) vs.reverse)) (ag (bq "deeds" (bE (jQ xn (qo (bc (nm "script")) (bj (bc (nm "rows"))))))) (ag (gU (lN (nm "deeds")) (λv l=>match v with|.tup [p,q]=>some ((l.set "turn" p).set "deed" q)|_=>none) tS) (ag (aG (ba (aw (aq (kg) (aa (nm "book") (aa (gD (ae (.int 4))) (af)))))) (ag (aW (ae (.bool false))) (ao)) (ao)) (ag (aW (qd xV)) (ao)))))):=rfl
theorem Qa{l:av}{ms:Hp}{sc:List Int}(l1:l "rows"=some (.lst (k0.map V.int)))(l2:l "script"=some (.lst (sc.map V.int)))(hz:sc.length<=30):∃is:List Int,xn l ms=some (is.map V.int,ms)/\is.length=16:=by
 have key:=mE (upd:=λv l=>match v with|.tup [p,q]=>some ((l.set "k" p).set "row" q)|_=>none) (c:=aS) (e:=aE .Add (nm "row") (bz (aB .Lt (nm "k") (bj (bc (nm "script")))) (au (nm "script") (nm "k")) (ae (.int 0)))) k0.zipIdx (λp=>V.tup [.int (p.2:Nat),.int p.1]) (by decide)
  (λpre acc l m=>m=ms/\l "script"=some (.lst (sc.map V.int))/\∃is:List Int,acc=is.map V.int/\is.length=pre.length) ?_ (l:=iL ["script"] l) (ms:=ms) ⟨rfl,l2,[],rfl,rfl⟩
 .obtain⟨acc,l',m',q,rfl,_,is,rfl,z⟩:=key;refine a0 is ?_ (by rw[z];rfl);have hs:lN (nm "rows") l m'=some (k0.zipIdx.map (λp=>V.tup [.int (p.2:Nat),.int p.1]),m'):=by simp_arith! [lN,l1,Es]
  simp only[xn,cM,hs,q]
 .rintro pre p post e acc l m ⟨rfl,lb,is,rfl,z⟩;have mB:((l.set "k" (.int (p.2:Nat))).set "row" (.int p.1)) "script"=some (.lst (sc.map V.int)):=lb;have lk:((l.set "k" (.int (p.2:Nat))).set "row" (.int p.1)) "k"=some (.int (p.2:Nat)):=rfl;have lr:((l.set "k" (.int (p.2:Nat))).set "row" (.int p.1)) "row"=some (.int p.1):=rfl;have z1:sc.length<=1000:=by omega
  obtain⟨w,ew⟩:∃w:Int,bz (aB .Lt (nm "k") (bj (bc (nm "script")))) (au (nm "script") (nm "k")) (ae (.int 0)) ((l.set "k" (.int (p.2:Nat))).set "row" (.int p.1)) m=some (.int w,m):=by
   by_cases h:p.2<sc.length
   .have h':((p.2:Nat):Int)<sc.length:=by omega
    exact kP (sc[p.2]) (by simp_arith[bz,aB,bj,bc,au,ay,nm,mB,lk,dS,h,gm,z1,j8])
   .have h':¬((p.2:Nat):Int)<sc.length:=by omega
    exact kP 0 (by simp_arith[bz,aB,bj,bc,au,ay,nm,mB,lk,dS,h,gm,z1,ae])
  refine a0 ((l.set "k" (.int (p.2:Nat))).set "row" (.int p.1)) rfl (.inl ⟨m,.int (p.1+w),m,rfl,?_,rfl,mB,is++[p.1+w],by simp,by simp[z]⟩);revert ew;generalize bz (aB .Lt (nm "k") (bj (bc (nm "script")))) (au (nm "script") (nm "k")) (ae (.int 0))=A;intro ew;simp_arith[aE,ay,nm,lr,ew,cB]
theorem Si{P:Nat->Prop}(I:bV K P g ms hs ts rs mk)(lb:l "book"=some (.ref K.b))(hm:mk.length<=1000):xV l ms=some ([],ms):=by
 have st:=I.bk.st;have key:=mE (upd:=λv l=>match v with|.tup [p,q]=>some ((l.set "arr" p).set "slots" q)|_=>none) (c:=ba (aw (aq (mF) (aa (aq (jx) (aa (nm "arr") (af))) (aa (nm "slots") (af)))))) (e:=nm "arr") mk (λi=>V.tup [.ref i,.lst (b' (g.ah i))]) hm
  (λpre acc l m=>m=ms/\acc=[]) ?_ (l:=iL [] l) (ms:=ms) ⟨rfl,rfl⟩
 .refine lR key λacc l' m' q lh jE=>?_;clear key st;subst lh;subst jE;have r:=I.bk.gM lb;have hs:bc (au (nm "book") (ae (.str "marked"))) l m'=some (mk.map (λi=>V.tup [.ref i,.lst (b' (g.ah i))]),m'):=by simp_arith! [r,I.bk.m]
  simp only[xV,cM,hs,q]
 .rintro pre i post e acc l m ⟨rfl,rfl⟩;have ci:=I.bk.qZ i (by rw[e];exact mem_append_right _ mem_cons_self);refine fI ((st.rep i).arr (by rw[ci];trivial)) λa ha ok hl _=>?_;have m7:=pY ha ok;rw[hl,ry]at m7;have en:=(st.link i).ent (by rw[ci]);rw[ci]at en;refine aY en.zip λzs z1 _ z3=>?_;have z4:=ok.sA;rw[hl]at z4;have CJ:∀e∈g.ah i,de e.1/\oO m e.2:=by intro e me;refine⟨ok.keys e.1 e.2 (nk (by rw[hl];exact me)),?_⟩;rw[z1]at me;refine az (mem_map.mp me) λz mz bL=>?_;clear me;subst bL;exact(z3 z mz).IQ st
  have uq:=vW (v1:=.lst (b' (g.ah i))) (v2:=.lst (b' (g.ah i))) (ms:=m) (.inl ⟨rfl,by simp[b'];omega⟩) (.inl ⟨rfl,by simp[b'];omega⟩) CJ (by omega);have la:((l.set "arr" (.ref i)).set "slots" (.lst (b' (g.ah i)))) "arr"=some (.ref i):=rfl;have Vu:((l.set "arr" (.ref i)).set "slots" (.lst (b' (g.ah i)))) "slots"=some (.lst (b' (g.ah i))):=rfl;refine a0 ((l.set "arr" (.ref i)).set "slots" (.lst (b' (g.ah i)))) rfl (.inr ⟨m,?_,rfl,rfl⟩);simp_arith! [la,Vu,m7,uq]
theorem OD(ns:List Int)(hn:ns.length<=63):∃l' ms',uf (ax ["script"] [.lst (ns.map V.int)]) []=some (.ret (.bool true),l',ms'):=by
 rw[M7];have f1:ax ["script"] [.lst (ns.map V.int)] "script"=some (.lst (ns.map V.int)):=rfl;generalize ax ["script"] [.lst (ns.map V.int)]=L at f1;have vL:ns.length<=1000:=by omega
 have s1:bq "script" (bE (rO (bc (nm "script")) (ae (.int 30)))) L []=some (.next,L.set "script" (.lst ((ns.take 30).map V.int)),[]):=by simp[bq,bE,rO,bc,ay,nm,f1,ae,vL]
 rw[aZ s1];have f1:(L.set "script" (.lst ((ns.take 30).map V.int))) "script"=some (.lst ((ns.take 30).map V.int)):=rfl;generalize L.set "script" (.lst ((ns.take 30).map V.int))=L at f1;have hz:(ns.take 30).length<=30:=by simp;omega
 generalize ns.take 30=sc at f1 hz;have s2:dY 2 (aU (aa (aq (oX) (af)) (aa (aq (oV) (af)) (af)))) (λvs=>(bM (cP "book") (bM (cP "rows") (fo))) vs.reverse) L []=some (.next,(L.set "book" (.ref 11)).set "rows" (.lst (k0.map V.int)),gy):=by
  have e1:aq (oX) (af) L []=some (.lst (k0.map V.int),[]):=by exact rfl
  have e2:aq (oV) (af) L []=some (.ref 11,gy):=by simp[aq,af,ay,M5]
  have e3:aU (aa (aq (oX) (af)) (aa (aq (oV) (af)) (af))) L []=some (.tup [.lst (k0.map V.int),.ref 11],gy):=by revert e1 e2;generalize aq (oX) (af)=A;generalize aq (oV) (af)=B;intro e1 e2;simp_arith! [e1,e2]
  simp[dY,e3,bM,cP,fo]
 rw[aZ s2];have f1:((L.set "book" (.ref 11)).set "rows" (.lst (k0.map V.int))) "script"=some (.lst (sc.map V.int)):=f1;have f2:((L.set "book" (.ref 11)).set "rows" (.lst (k0.map V.int))) "book"=some (.ref 11):=rfl;have f3:((L.set "book" (.ref 11)).set "rows" (.lst (k0.map V.int))) "rows"=some (.lst (k0.map V.int)):=rfl;generalize (L.set "book" (.ref 11)).set "rows" (.lst (k0.map V.int))=L at f1 f2 f3;refine az (Qa (ms:=gy) f3 f1 hz) λis q1 z1=>?_;have s3:bq "deeds" (bE (jQ xn (qo (bc (nm "script")) (bj (bc (nm "rows")))))) L gy=some (.next,L.set "deeds" (.lst ((is++sc.drop 16).map V.int)),gy):=by
  have z2:sc.length<=1000:=by omega
  have e1:bc (nm "script") L gy=some (sc.map V.int,gy):=by simp[bc,ay,nm,f1,z2]
  have e2:bj (bc (nm "rows")) L gy=some (.int 16,gy):=by simp[bj,bc,ay,nm,f3,k0]
  have e3:qo (bc (nm "script")) (bj (bc (nm "rows"))) L gy=some ((sc.drop 16).map V.int,gy):=by simp[qo,ay,e1,e2]
  have z3:is.length+(sc.length-16)<=1000:=by omega
  simp_arith! [jQ,q1,e3,z3]
 rw[aZ s3];have f2:(L.set "deeds" (.lst ((is++sc.drop 16).map V.int))) "book"=some (.ref 11):=f2;have f4:(L.set "deeds" (.lst ((is++sc.drop 16).map V.int))) "deeds"=some (.lst ((is++sc.drop 16).map V.int)):=rfl;generalize L.set "deeds" (.lst ((is++sc.drop 16).map V.int))=L at f2 f4;have z4:(is++sc.drop 16).length<=100:=by simp;omega
 generalize is++sc.drop 16=Ji at f4 z4;have key:=v3 (upd:=λv l=>match v with|.tup [p,q]=>some ((l.set "turn" p).set "deed" q)|_=>none) (b:=tS) Ji.zipIdx (λp=>V.tup [.int (p.2:Nat),.int p.1])
  (λpre l m=>l "book"=some (.ref 11)/\∃g hs ts rs mk,bV K0 (λ_=>True) g m hs ts rs mk/\rs.length<=pre.length+1/\mk.length<=2*pre.length) ?_ (l:=L) (ms:=gy) ⟨f2,g0,_,_,_,_,Tq,by simp,by simp⟩
 .obtain⟨L',m1,q2,f5,g,hs,ts,rs,mk,I,y1,y2⟩:=key;have Vv:lN (nm "deeds") L gy=some (Ji.zipIdx.map (λp=>V.tup [.int (p.2:Nat),.int p.1]),gy):=by simp[lN,ay,nm,f4,Es]
  have s4:gU (lN (nm "deeds")) (λv l=>match v with|.tup [p,q]=>some ((l.set "turn" p).set "deed" q)|_=>none) tS L gy=some (.next,L',m1):=by simp only[gU,Vv];exact q2
  rw[aZ s4];refine az (E4 I) λm2 q3 I2=>?_;have c:ba (aw (aq (kg) (aa (nm "book") (aa (gD (ae (.int 4))) (af))))) L' m1=some (false,m2):=by
   have e:gD (ae (.int 4)) L' m1=some (.iM 4,m1):=by exact rfl
   revert e;generalize gD (ae (.int 4))=A;intro e;have q3:kg [.ref 11,.iM 4] m1=some (.bool true,m2):=q3;simp_arith! [f5,e,q3]
  rw[aZ ((fG c).trans bZ)];simp at y2;have q4:=Si I2 f5 (by omega);have s6:aW (qd xV) L' m2=some (.ret (.bool true),L',m2):=rD (by simp[qd,ay,q4]);rw[oh s6];exact GJ L' m2 rfl
 .rintro pre p post e l m ⟨lb,g,hs,ts,rs,mk,I,y1,y2⟩;have hp:pre.length<=100:=by have:=congrArg List.length e;simp at this;omega
  have mB:((l.set "turn" (.int (p.2:Nat))).set "deed" (.int p.1)) "book"=some (.ref 11):=lb;obtain⟨ms',q,g',jd,nf,i7,mk',I',y3,y4⟩:=OC (l:=(l.set "turn" (.int (p.2:Nat))).set "deed" (.int p.1)) (n:=p.2) (deed:=p.1) I (by omega) (by omega) mB rfl rfl;exact⟨(l.set "turn" (.int (p.2:Nat))).set "deed" (.int p.1),_,ms',rfl,q,mB,g',jd,nf,i7,mk',I',by simp;omega,by simp;omega⟩
end
end
end Mine.Internal
end
noncomputable section
namespace Mine.Internal
open PySem PySem.W PySem.Calls PyProof.Rows
open List (getElem?_set_ne getElem?_set_self mem_map replicate getElem?_append_left mem_filterMap length_set lookup_cons mem_append_right mem_append_left mem_cons size_toArray getElem?_concat_length getElem?_map map_map mem_cons_self length_map filterMap_append filterMap_map mem_of_getElem? filterMap_cons map_cons)
open Nat (zero_le le_refl le_trans lt_of_lt_of_le le_add_right ne_of_lt le_succ le_of_ble_eq_true)
open Option (map_eq_some_iff)
open PySem.Str (ofString)
section
set_option maxHeartbeats 8000000
theorem K3(hW:Well P h (.ref l) (ofPy (.list xs)))(hL:h.IsList l vs.toArray):h.get? l=some (cG vs 0):=by
 simp only[ofPy]at hW;cases hW with
 |list ho hw=>obtain⟨o,bP,_,n,hd⟩:=hL;rw[ho]at bP;cases bP;simp at hd;rw[ho,hd.1]
theorem Qb:ip (callerA.deeper J) 199:=⟨rfl,by show callerA.depth+1+3*199<=900;decide,by show callerA.units+3+10*199<=9000;decide⟩
theorem OE(x:WData):PySem.Challenge.rw_pc0257_01.row.claim.post [x] (.bool true) [x]=true:=by kernel_rfl
set_option tactic.hygienic true in
theorem join(H:Hb):PySem.Challenge.rw_pc0257_01.Holds:=_root_.hd (by
 generalize hq:Mine.Internal.qv=q
 k_go0
 rename_i w WD gu mg mb GG YY fa o pm cd doc ho Xa hg KX XX VV T BT DD TE TW Xb Xc M ns hs Wj Xd Xe gX Xf Xg l vs Xh hL ra w1 r0 hI hr Wk VU K0 hD cZ g6 F oc right N0 X0;clear BT DD GG K0 TE TW XX;subst hq;have hl:=K3 w1 hL;refine Na (PM H) ⟨w,_,_,_,mg,mb⟩ KX T (l:=l) (vs:=vs) (ns:=ns) (oc:=oc) Qb rfl rfl rfl rfl hl hI (by omega) F.keep F.above F.ns (N0 _ (.head _)).1 right λh' tk hk=>?_;exact⟨.inl ⟨.bool true,.bool true,[],rfl,λ_=>rfl,.bool true,OE _,λ_=>⟨List.nodup_nil,λ_ m=>nomatch m⟩⟩,hk,rfl,hg⟩)
end
end Mine.Internal
end
theorem PySem.Challenge.cw_pc0257_01_holds : PySem.Challenge.rw_pc0257_01.Holds :=
  Mine.Internal.join Mine.Internal.OD
